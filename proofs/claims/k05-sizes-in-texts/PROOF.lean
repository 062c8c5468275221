import PyProof.Rows.All
import Wide.All
import OpenK.AllK
import Wide.FinOn
import HandS.ForMost
import HandS.ForExc
import HandS.CallSlots
import HandS.Lambda
import HandS.Wide
import HandS.TupAny
import HandS.Style
import HandS.IsInst
import HandS.Walk
import HandS.TupLen
import KE.GoesMore
import HandS.Property
import HandS.Defaults
import HandS.Star
import KE.KOpsOwn
import KE.GoesEnum
import HandS.HeadNt
import HandS.HeadWalk
import HandS.Head2
import HandS.EndBits
import HandS.ExcInit
import HandS.ExcField
import HandS.ExcIs
import HandS.TryMany
import PyProof.ReprRoads
import HandS.TupMul
import HandS.Text
import HandS.Codes
import HandS.SetKeys
import HandS.SortKw
import HandS.DictComp
import KE.IntTextLaws
import HandS.ClsMeth
import HandS.FStr
import HandS.FStrTup
import HandS.RaiseMore
import HandS.EndTab
import PySem.Challenge.RW_farmisses_k05_sizes_in_texts
set_option Elab.async false
set_option linter.all false
set_option maxRecDepth 100000
set_option maxHeartbeats 4000000
/-! Mini: a deterministic store semantics (tuples by value, lists, dicts and instances in a store), and how it lies over HandS's abstract heaps. -/
namespace L2.Mi
open PySem

/-! ### values and stores -/
inductive D where
  | non | bl (b : Bool) | int (i : Int) | str (x : List Nat) | tup (xs : List D) | ref (a : Nat) | ty (n : String)
  /-- a list, a dict that nobody changes; a tuple of the written part -/
  | lv (xs : List D) | dv (t : Bool) (kvs : List (D × D)) | kt (xs : List D)
  /-- a class of the program -/
  | cl (c : Nat)
  /-- a list that stood there before: the script, a table of the top -/
  | fl (xs : List D)
  /-- a def of the program -/
  | fn (i : Nat)

inductive Ob where
  | lst (xs : List D)
  | dic (t : Bool) (kvs : List (D × D))
  | ins (c : Nat) (fs : List (Nat × D))
  | lck (o : Ob)

structure Store where
  objs : List Ob
namespace Store
def size (S : Store) : Nat := S.objs.length
def get (S : Store) (i : Nat) : Option Ob := S.objs[i]?
def set (S : Store) (i : Nat) (o : Ob) : Store := ⟨S.objs.set i o⟩
def push (S : Store) (o : Ob) : Store := ⟨S.objs ++ [o]⟩
theorem size_set (S : Store) (i : Nat) (o : Ob) : (S.set i o).size = S.size := by simp [size, set]
theorem size_push (S : Store) (o : Ob) : (S.push o).size = S.size + 1 := by simp [size, push]
theorem get_lt {S : Store} {i : Nat} {o : Ob} (h : S.get i = some o) : i < S.size := (List.getElem?_eq_some_iff.mp h).1
theorem get_none {S : Store} {i : Nat} (h : S.size ≤ i) : S.get i = none := by
  unfold get size at *
  exact List.getElem?_eq_none_iff.mpr h
theorem get_set_same {S : Store} {i : Nat} {o : Ob} (h : i < S.size) : (S.set i o).get i = some o := by
  unfold get set size at *
  simp [h]
theorem get_set_ne {S : Store} {i j : Nat} {o : Ob} (h : i ≠ j) : (S.set i o).get j = S.get j := by
  unfold get set
  simp [List.getElem?_set_ne h]
theorem get_push_same {S : Store} {o : Ob} : (S.push o).get S.size = some o := by
  unfold get push size
  simp
theorem get_push_lt {S : Store} {i : Nat} {o : Ob} (h : i < S.size) : (S.push o).get i = S.get i := by
  unfold get push size at *
  simp [List.getElem?_append_left h]
theorem get_push_some {S : Store} {i : Nat} {o u : Ob} (h : S.get i = some u) : (S.push o).get i = some u := by
  rw [get_push_lt (get_lt h)]; exact h
theorem get_push_ne {S : Store} {i : Nat} {o : Ob} (h : i ≠ S.size) : (S.push o).get i = S.get i := by
  by_cases hl : i < S.size
  · exact get_push_lt hl
  · rw [get_none (S := S) (by omega), get_none (by rw [size_push]; omega)]
end Store

/-- an exception in flight: its class, its fields -/
structure Xn where
  c : Nat
  fs : List (Nat × D)

inductive Res (α : Type) where
  | ok (a : α) (S : Store)
  | exc (x : Xn) (S : Store)
  | bad
abbrev En := List (Option D)
inductive RS where
  | nx (σ : En) (S : Store)
  | rt (d : D) (S : Store)
  | bk (σ : En) (S : Store)
  | ct (σ : En) (S : Store)
  | exc (x : Xn) (σ : En) (S : Store)
  | bad
def Res.bind {α β : Type} (r : Res α) (f : α → Store → Res β) : Res β :=
  match r with
  | .ok a S => f a S
  | .exc x S => .exc x S
  | .bad => .bad
theorem Res.bind_ok {α β : Type} {a : α} {S : Store} {f : α → Store → Res β} : (Res.ok a S).bind f = f a S := rfl
theorem Res.bind_exc {α β : Type} {x : Xn} {S : Store} {f : α → Store → Res β} : (Res.exc x S : Res α).bind f = .exc x S := rfl
theorem Res.bind_bad {α β : Type} {f : α → Store → Res β} : (Res.bad : Res α).bind f = .bad := rfl
abbrev ME := En → Store → Res D
abbrev MA := En → Store → Res (List D)
abbrev MT := En → Store → Res Bool
abbrev MS := En → Store → RS

/-! ### how a store lies over an abstract heap -/
/-- what a class of the program must have -/
structure CI (K : PySem.W.Frag) (C : Addr) : Prop where
  cl : Cls K C
  ha : PySem.W.findIn K (.ref C) "__class__" = some (some (.builtin "object.__class__"))
  hn : PySem.W.specialIn K (.builtin "object.__class__") "__get__" = some (some (.builtin "getset_descriptor.__get__"))
  htk : PySem.W.takesIn K (.builtin "object.__class__") = some true
  hm : PySem.W.mroIn K C (.type "object") = some true
/-- a type: a built-in one, a class of the program -/
inductive Tag where
  | b (n : String) | o (c : Nat)
  deriving DecidableEq
def tagVal (cls : Nat → Option Addr) : Tag → Option Value
  | .b n => some (.type n)
  | .o c => (cls c).map Value.ref
/-- the program's tables: the written part, the classes by number, the fields' names by number, what isinstance says, the exceptions' classes -/
structure Gx where
  K : PySem.W.Frag
  cls : Nat → Option Addr
  fld : Nat → Str
  inj : ∀ i j, fld i = fld j → i = j
  clsv : Nat → Option Value
  ci : ∀ c C, cls c = some C → CI K C
  isi : Tag → Tag → Option Bool
  isi_ok : ∀ t u b tv uv, isi t u = some b → tagVal cls t = some tv → tagVal cls u = some uv → PySem.W.kitOne K tv uv = some b
  /-- the tables of code objects that grow, and the name that their code objects bear -/
  tabs : List (Addr × Str)
  /-- the defs by number -/
  fns : Nat → Option Addr

/-! ### keys -/
def keyD : D → Option Key
  | .int i => some (.inl i)
  | .str x => some (.inr ⟨x.toArray⟩)
  | _ => none
def keysD : List D → Option (List Key)
  | [] => some []
  | d :: ds => match keyD d, keysD ds with
    | some k, some ks => some (k :: ks)
    | _, _ => none
def keyT : D → Option (List Key)
  | .tup ds => keysD ds
  | _ => none

/-- where the store's things stand, and what is hidden (a comprehension's list while it grows) -/
structure Wd where
  v : List Addr
  h : List Addr
def Wd.no (ρ : Wd) (a : Addr) : Prop := a ∉ ρ.v ∧ a ∉ ρ.h
def Wd.push (ρ : Wd) (a : Addr) : Wd := ⟨ρ.v ++ [a], ρ.h⟩

/-- a list that nothing changes -/
def FlAt (K : PySem.W.Frag) (H : Hp) (a : Addr) (xs : List V) : Prop := (∃ o, H a = some (.frz o (.lst xs))) ∨ SqL K (fun _ => none) a xs
section
variable (G : Gx) (ρ : Wd) (H : Hp)
mutual
inductive RV : D → V → Prop
  | non : RV .non .non
  | bl (b : Bool) : RV (.bl b) (.bl b)
  | int (i : Int) : RV (.int i) (.int i)
  | str (x : List Nat) : RV (.str x) (.str ⟨x.toArray⟩)
  | ty (n : String) : RV (.ty n) (.ty n)
  | cl {c : Nat} {C : Addr} : G.cls c = some C → RV (.cl c) (.ref C)
  | ref {i : Nat} {a : Addr} : ρ.v[i]? = some a → RV (.ref i) (.ref a)
  | fn {i : Nat} {a : Addr} : G.fns i = some a → RV (.fn i) (.ref a)
  | tup {ds : List D} {a : Addr} {xs : List V} : H a = some (.tup xs) → RVs ds xs → RV (.tup ds) (.ref a)
  | kt {ds : List D} {a : Addr} {xs : List V} : SqT G.K (fun _ => none) a xs → RVs ds xs → RV (.kt ds) (.ref a)
  | lv {ds : List D} {a : Addr} {xs : List V} : ρ.no a → H a = some (.lst xs) → RVs ds xs → RV (.lv ds) (.ref a)
  | fl {ds : List D} {a : Addr} {xs : List V} : FlAt G.K H a xs → RVs ds xs → RV (.fl ds) (.ref a)
  | dvK {kvs : List (D × D)} {a : Addr} {kus : List (Key × V)} : ρ.no a → Rd H a (.dK kus) → RKs kvs kus → RV (.dv false kvs) (.ref a)
  | dvT {kvs : List (D × D)} {a : Addr} {kus : List (List Key × V)} : ρ.no a → Rd H a (.dT kus) → RTs kvs kus → RV (.dv true kvs) (.ref a)
inductive RVs : List D → List V → Prop
  | nil : RVs [] []
  | cons {d : D} {ds : List D} {v : V} {vs : List V} : RV d v → RVs ds vs → RVs (d :: ds) (v :: vs)
inductive RKs : List (D × D) → List (Key × V) → Prop
  | nil : RKs [] []
  | cons {d e : D} {k : Key} {v : V} {kvs : List (D × D)} {kus : List (Key × V)} : keyD d = some k → RV e v → RKs kvs kus → RKs ((d, e) :: kvs) ((k, v) :: kus)
inductive RTs : List (D × D) → List (List Key × V) → Prop
  | nil : RTs [] []
  | cons {d e : D} {k : List Key} {v : V} {kvs : List (D × D)} {kus : List (List Key × V)} : keyT d = some k → RV e v → RTs kvs kus → RTs ((d, e) :: kvs) ((k, v) :: kus)
end
end

def IsT : HO → Prop
  | .tup _ => True
  | .frz _ (.lst _) => True
  | .xd _ => True
  | _ => False
/-- tuples stay, frozen lists too -/
def TK (G : Gx) (H H' : Hp) : Prop := ∀ a u, IsT u → H a = some u → H' a = some u
theorem FlAt.move {G : Gx} {H H' : Hp} {a : Addr} {xs : List V} (t : TK G H H') (h : FlAt G.K H a xs) : FlAt G.K H' a xs := h.elim (fun ⟨o, h⟩ => .inl ⟨o, t a _ trivial h⟩) .inr
theorem FlAt.sq {K : PySem.W.Frag} {H : Hp} {a : Addr} {xs : List V} (h : FlAt K H a xs) : SqL K H a xs := by
  rcases h with ⟨o, h⟩ | (h | ⟨o, h⟩) | h
  · exact .inl (.inr ⟨o, h⟩)
  · cases h
  · cases h
  · exact .inr h
/-- no table of code objects -/
def NTb : HO → Prop
  | .tbl _ => False
  | _ => True
/-- something stands there, and no table -/
def SmO : Option HO → Prop
  | some u => NTb u
  | none => False
theorem SmO.ne {o : Option HO} (h : SmO o) : o ≠ none := by
  rintro rfl
  exact h
/-- a table of code objects, a code object -/
def IsE : HO → Prop
  | .tbl _ => True
  | .ext _ => True
  | _ => False
theorem tabs_move {T : List (Addr × Str)} {H H' : Hp} (t : LamX.Tabs T H) (k : ∀ a u, IsE u → H a = some u → H' a = some u) : LamX.Tabs T H' := by
  intro p hp
  obtain ⟨ps, h1, h2, h3⟩ := t p hp
  refine ⟨ps, k _ _ trivial h1, h2, fun pos cv hc => ?_⟩
  obtain ⟨c, e1, e2⟩ := h3 pos cv hc
  refine ⟨c, e1, k _ _ ?_ e2⟩
  unfold LamX.CodeO
  exact trivial
def IsDk : HO → Prop
  | .dK _ => True
  | .dT _ => True
  | _ => False
structure Le (G : Gx) (ρ : Wd) (H : Hp) (ρ' : Wd) (H' : Hp) : Prop where
  pre : ρ.v <+: ρ'.v
  hid : ρ'.h = ρ.h
  tk : TK G H H'
  kl : ∀ a xs, ρ.no a → H a = some (.lst xs) → H' a = some (.lst xs)
  kp : ∀ a u, ρ.no a → IsDk u → Rd H a u → Rd H' a u
  ni : ∀ a, ρ.no a → SmO (H a) → ρ'.no a ∧ SmO (H' a)
  kh : ∀ a, a ∈ ρ.h → H a ≠ none → H' a = H a
  /-- what is locked stays so -/
  kz : ∀ a o u, H a = some (.frz o u) → H' a = some (.frz o u)
theorem rd_some {H : Hp} {a : Addr} {u : HO} (h : Rd H a u) : H a ≠ none := by
  rcases h with h | ⟨o, h⟩ <;> (rw [h]; simp)
theorem rd_sm {H : Hp} {a : Addr} {u : HO} (h : Rd H a u) (k : IsDk u) : SmO (H a) := by
  rcases h with h | ⟨o, h⟩
  · rw [h]
    cases u <;> first | exact k.elim | exact trivial
  · rw [h]
    exact trivial
theorem Le.refl {G : Gx} {ρ : Wd} {H : Hp} : Le G ρ H ρ H := ⟨List.prefix_refl _, rfl, fun _ _ _ h => h, fun _ _ _ h => h, fun _ _ _ _ h => h, fun _ h e => ⟨h, e⟩, fun _ _ _ => rfl, fun _ _ _ h => h⟩
theorem Le.trans {G : Gx} {ρ ρ' ρ'' : Wd} {H H' H'' : Hp} (a : Le G ρ H ρ' H') (b : Le G ρ' H' ρ'' H'') : Le G ρ H ρ'' H'' := by
  refine ⟨a.pre.trans b.pre, b.hid.trans a.hid, fun c xs t h => b.tk c xs t (a.tk c xs t h), fun c xs hc h => b.kl c xs (a.ni c hc (by rw [h]; trivial)).1 (a.kl c xs hc h), fun c u hc n h => ?_, fun c hc h => ?_, fun c hc h => ?_, fun c o u h => b.kz c o u (a.kz c o u h)⟩
  · exact b.kp c u (a.ni c hc (rd_sm h n)).1 n (a.kp c u hc n h)
  · obtain ⟨h1, h2⟩ := a.ni c hc h
    exact b.ni c h1 h2
  · have e := a.kh c hc h
    rw [b.kh c (by rw [a.hid]; exact hc) (by rw [e]; exact h), e]
theorem pre_get {ρ ρ' : List Addr} (h : ρ <+: ρ') {i : Nat} {a : Addr} (e : ρ[i]? = some a) : ρ'[i]? = some a := by
  obtain ⟨t, rfl⟩ := h
  obtain ⟨hl, _⟩ := List.getElem?_eq_some_iff.mp e
  rw [List.getElem?_append_left hl]
  exact e
/-- values move from one world to another -/
structure Mv (G : Gx) (ρ : Wd) (H : Hp) (ρ' : Wd) (H' : Hp) : Prop where
  at_ : ∀ (i : Nat) a, ρ.v[i]? = some a → ρ'.v[i]? = some a
  tk : TK G H H'
  kl : ∀ a xs, ρ.no a → H a = some (.lst xs) → ρ'.no a ∧ H' a = some (.lst xs)
  kp : ∀ a u, ρ.no a → IsDk u → Rd H a u → ρ'.no a ∧ Rd H' a u
mutual
theorem RV.move {G : Gx} {ρ ρ' : Wd} {H H' : Hp} (l : Mv G ρ H ρ' H') : ∀ {d : D} {v : V}, RV G ρ H d v → RV G ρ' H' d v
  | _, _, .non => .non
  | _, _, .bl b => .bl b
  | _, _, .int i => .int i
  | _, _, .str x => .str x
  | _, _, .ty n => .ty n
  | _, _, .cl h => .cl h
  | _, _, .fn h => .fn h
  | _, _, .ref e => .ref (l.at_ _ _ e)
  | _, _, .tup h r => .tup (l.tk _ _ trivial h) (RVs.move l r)
  | _, _, .fl h r => .fl (h.move l.tk) (RVs.move l r)
  | _, _, .kt h r => .kt h (RVs.move l r)
  | _, _, .lv n h r => .lv (l.kl _ _ n h).1 (l.kl _ _ n h).2 (RVs.move l r)
  | _, _, .dvK n h r => .dvK (l.kp _ (.dK _) n trivial h).1 (l.kp _ (.dK _) n trivial h).2 (RKs.move l r)
  | _, _, .dvT n h r => .dvT (l.kp _ (.dT _) n trivial h).1 (l.kp _ (.dT _) n trivial h).2 (RTs.move l r)
theorem RVs.move {G : Gx} {ρ ρ' : Wd} {H H' : Hp} (l : Mv G ρ H ρ' H') : ∀ {ds : List D} {vs : List V}, RVs G ρ H ds vs → RVs G ρ' H' ds vs
  | _, _, .nil => .nil
  | _, _, .cons h t => .cons (RV.move l h) (RVs.move l t)
theorem RKs.move {G : Gx} {ρ ρ' : Wd} {H H' : Hp} (l : Mv G ρ H ρ' H') : ∀ {ds : List (D × D)} {vs : List (Key × V)}, RKs G ρ H ds vs → RKs G ρ' H' ds vs
  | _, _, .nil => .nil
  | _, _, .cons k h t => .cons k (RV.move l h) (RKs.move l t)
theorem RTs.move {G : Gx} {ρ ρ' : Wd} {H H' : Hp} (l : Mv G ρ H ρ' H') : ∀ {ds : List (D × D)} {vs : List (List Key × V)}, RTs G ρ H ds vs → RTs G ρ' H' ds vs
  | _, _, .nil => .nil
  | _, _, .cons k h t => .cons k (RV.move l h) (RTs.move l t)
end
theorem Le.mv {G : Gx} {ρ ρ' : Wd} {H H' : Hp} (l : Le G ρ H ρ' H') : Mv G ρ H ρ' H' :=
  ⟨fun _ _ h => pre_get l.pre h, l.tk, fun a xs n h => ⟨(l.ni a n (by rw [h]; trivial)).1, l.kl a xs n h⟩, fun a u n dk h => ⟨(l.ni a n (rd_sm h dk)).1, l.kp a u n dk h⟩⟩
theorem Mv.trans {G : Gx} {ρ ρ' ρ'' : Wd} {H H' H'' : Hp} (a : Mv G ρ H ρ' H') (b : Mv G ρ' H' ρ'' H'') : Mv G ρ H ρ'' H'' :=
  ⟨fun i c h => b.at_ i c (a.at_ i c h), fun c xs t h => b.tk c xs t (a.tk c xs t h), fun c xs n h => b.kl c xs (a.kl c xs n h).1 (a.kl c xs n h).2, fun c u n dk h => b.kp c u (a.kp c u n dk h).1 dk (a.kp c u n dk h).2⟩
theorem RV.mono {G : Gx} {ρ ρ' : Wd} {H H' : Hp} (l : Le G ρ H ρ' H') {d : D} {v : V} (r : RV G ρ H d v) : RV G ρ' H' d v := r.move l.mv
theorem RVs.mono {G : Gx} {ρ ρ' : Wd} {H H' : Hp} (l : Le G ρ H ρ' H') {ds : List D} {vs : List V} (r : RVs G ρ H ds vs) : RVs G ρ' H' ds vs := r.move l.mv
theorem RVs.length {G : Gx} {ρ : Wd} {H : Hp} : ∀ {ds : List D} {vs : List V}, RVs G ρ H ds vs → ds.length = vs.length
  | _, _, .nil => rfl
  | _, _, .cons _ t => by simp [RVs.length t]
theorem RVs.append {G : Gx} {ρ : Wd} {H : Hp} : ∀ {ds es : List D} {vs us : List V}, RVs G ρ H ds vs → RVs G ρ H es us → RVs G ρ H (ds ++ es) (vs ++ us)
  | _, _, _, _, .nil, r => r
  | _, _, _, _, .cons h t, r => .cons h (RVs.append t r)
theorem RVs.get {G : Gx} {ρ : Wd} {H : Hp} : ∀ {ds : List D} {vs : List V} {i : Nat} {d : D}, RVs G ρ H ds vs → ds[i]? = some d → ∃ v, vs[i]? = some v ∧ RV G ρ H d v
  | _, _, _, _, .nil, e => by simp at e
  | _, _, 0, _, .cons h _, e => by simp at e; subst e; exact ⟨_, rfl, h⟩
  | _, _, i + 1, d, .cons _ t, e => by
    obtain ⟨v, h1, h2⟩ := RVs.get (i := i) (d := d) t (by simpa using e)
    exact ⟨v, by simpa using h1, h2⟩
theorem RVs.set {G : Gx} {ρ : Wd} {H : Hp} {d : D} {v : V} (h : RV G ρ H d v) : ∀ {ds : List D} {vs : List V} (i : Nat), RVs G ρ H ds vs → RVs G ρ H (ds.set i d) (vs.set i v)
  | _, _, _, .nil => .nil
  | _, _, 0, .cons _ t => .cons h t
  | _, _, i + 1, .cons q t => .cons q (RVs.set h i t)
theorem RVs.get' {G : Gx} {ρ : Wd} {H : Hp} : ∀ {ds : List D} {vs : List V} {i : Nat} {v : V}, RVs G ρ H ds vs → vs[i]? = some v → ∃ d, ds[i]? = some d ∧ RV G ρ H d v
  | _, _, _, _, .nil, e => by simp at e
  | _, _, 0, _, .cons h _, e => by simp at e; subst e; exact ⟨_, rfl, h⟩
  | _, _, i + 1, v, .cons _ t, e => by
    obtain ⟨d, h1, h2⟩ := RVs.get' (i := i) (v := v) t (by simpa using e)
    exact ⟨d, by simpa using h1, h2⟩

section
variable (G : Gx) (ρ : Wd) (H : Hp)
inductive RFs : List (Nat × D) → List (Str × V) → Prop
  | nil : RFs [] []
  | cons {n : Nat} {d : D} {v : V} {fs : List (Nat × D)} {us : List (Str × V)} : RV G ρ H d v → RFs fs us → RFs ((n, d) :: fs) ((G.fld n, v) :: us)
inductive RO : Ob → HO → Prop
  | lst {ds : List D} {xs : List V} : RVs G ρ H ds xs → RO (.lst ds) (.lst xs)
  | dK {kvs : List (D × D)} {kus : List (Key × V)} : RKs G ρ H kvs kus → RO (.dic false kvs) (.dK kus)
  | dT {kvs : List (D × D)} {kus : List (List Key × V)} : RTs G ρ H kvs kus → RO (.dic true kvs) (.dT kus)
  | ins {c : Nat} {C dx : Addr} {fs : List (Nat × D)} {us : List (Str × V)} : G.cls c = some C → RFs G ρ H fs us → RO (.ins c fs) (.ins C dx us)
  | lck {o : Ob} {ob : Obj} {u : HO} : RO o u → RO (.lck o) (.frz ob u)
end
section
variable {G : Gx} {ρ ρ' : Wd} {H H' : Hp}
theorem RFs.move {ρ ρ' : Wd} {H H' : Hp} (l : Mv G ρ H ρ' H') : ∀ {ds : List (Nat × D)} {vs : List (Str × V)}, RFs G ρ H ds vs → RFs G ρ' H' ds vs
  | _, _, .nil => .nil
  | _, _, .cons h t => .cons (h.move l) (RFs.move l t)
theorem RO.move {ρ ρ' : Wd} {H H' : Hp} (l : Mv G ρ H ρ' H') {o : Ob} {u : HO} (r : RO G ρ H o u) : RO G ρ' H' o u := by
  induction r with
  | lst r => exact .lst (r.move l)
  | dK r => exact .dK (r.move l)
  | dT r => exact .dT (r.move l)
  | ins h r => exact .ins h (r.move l)
  | lck _ ih => exact .lck ih
theorem RO.mono (l : Le G ρ H ρ' H') {o : Ob} {u : HO} (r : RO G ρ H o u) : RO G ρ' H' o u := r.move l.mv
theorem RFs.length : ∀ {fs : List (Nat × D)} {us : List (Str × V)}, RFs G ρ H fs us → fs.length = us.length
  | _, _, .nil => rfl
  | _, _, .cons _ t => by simp [RFs.length t]
end

structure Rl (G : Gx) (ρ : Wd) (S : Store) (H : Hp) : Prop where
  len : ρ.v.length = S.size
  nd : ρ.v.Nodup
  hh : ∀ a, a ∈ ρ.h → a ∉ ρ.v ∧ SmO (H a)
  ob : ∀ i o, S.get i = some o → ∃ a u, ρ.v[i]? = some a ∧ H a = some u ∧ RO G ρ H o u
  tb : LamX.Tabs G.tabs H
theorem RO.ntb {G : Gx} {ρ : Wd} {H : Hp} {o : Ob} {u : HO} (r : RO G ρ H o u) : NTb u := by
  cases r <;> exact trivial
/-- slots -/
structure RE (G : Gx) (ρ : Wd) (H : Hp) (σs : En) (σ : St) : Prop where
  len : σs.length = σ.length
  get : ∀ (i : Nat) (d : D), σs[i]? = some (some d) → ∃ v : V, σ[i]? = some (some v) ∧ RV G ρ H d v
/-- an exception: its class, its fields -/
structure RX (G : Gx) (ρ : Wd) (H : Hp) (x : Xn) (cls : Value) (dd : Option Addr) : Prop where
  cls : G.clsv x.c = some cls
  fs : (dd = none ∧ x.fs = []) ∨ ∃ d us, dd = some d ∧ H d = some (.xd us) ∧ RFs G ρ H x.fs us
section
variable {G : Gx} {ρ ρ' : Wd} {H H' : Hp}
theorem RE.move {ρ ρ' : Wd} {H H' : Hp} (l : Mv G ρ H ρ' H') {σs : En} {σ : St} (r : RE G ρ H σs σ) : RE G ρ' H' σs σ := ⟨r.len, fun i d e => let ⟨v, h1, h2⟩ := r.get i d e; ⟨v, h1, h2.move l⟩⟩
theorem RE.mono (l : Le G ρ H ρ' H') {σs : En} {σ : St} (r : RE G ρ H σs σ) : RE G ρ' H' σs σ := ⟨r.len, fun i d e => let ⟨v, h1, h2⟩ := r.get i d e; ⟨v, h1, h2.mono l⟩⟩
theorem RE.set {σs : En} {σ : St} {d : D} {v : V} (r : RE G ρ H σs σ) (i : Nat) (h : RV G ρ H d v) : RE G ρ H (σs.set i (some d)) (σ.set i (some v)) := by
  refine ⟨by simp [r.len], fun j e hj => ?_⟩
  by_cases hij : i = j
  · subst hij
    by_cases hl : i < σs.length
    · rw [List.getElem?_set_self hl] at hj
      cases hj
      exact ⟨v, List.getElem?_set_self (by rw [← r.len]; exact hl), h⟩
    · rw [List.getElem?_eq_none (by simpa using hl)] at hj
      cases hj
  · rw [List.getElem?_set_ne hij] at hj ⊢
    exact r.get j e hj
end

/-! ### what is wanted of a run -/
section
variable {α β : Type} (G : Gx)
def PostR (R : Wd → Hp → α → β → Prop) (ρ : Wd) (H : Hp) (r : Res α) (Q : β → Hp → Prop) (E : XK) : Prop :=
  match r with
  | .ok d S' => ∀ ρ' H' v, Le G ρ H ρ' H' → Rl G ρ' S' H' → R ρ' H' d v → Q v H'
  | .exc x S' => ∀ ρ' H' cls dd, Le G ρ H ρ' H' → Rl G ρ' S' H' → RX G ρ' H' x cls dd → E cls dd H'
  | .bad => False
def PostS (ρ : Wd) (H : Hp) (r : RS) (Dn : Ends) (W : WX) : Prop :=
  match r with
  | .nx σs S' => ∀ ρ' H' σ', Le G ρ H ρ' H' → Rl G ρ' S' H' → RE G ρ' H' σs σ' → Dn.nx σ' H'
  | .bk σs S' => ∀ ρ' H' σ', Le G ρ H ρ' H' → Rl G ρ' S' H' → RE G ρ' H' σs σ' → Dn.bk σ' H'
  | .ct σs S' => ∀ ρ' H' σ', Le G ρ H ρ' H' → Rl G ρ' S' H' → RE G ρ' H' σs σ' → Dn.ct σ' H'
  | .rt d S' => ∀ ρ' H' v, Le G ρ H ρ' H' → Rl G ρ' S' H' → RV G ρ' H' d v → Dn.rt v H'
  | .exc x σs S' => ∀ ρ' H' σ' cls dd, Le G ρ H ρ' H' → Rl G ρ' S' H' → RE G ρ' H' σs σ' → RX G ρ' H' x cls dd → W cls dd σ' H'
  | .bad => False
end
abbrev Post (G : Gx) := PostR (α := D) (β := V) G (RV G)
abbrev PostA (G : Gx) := PostR (α := List D) (β := List V) G (RVs G)
abbrev PostT (G : Gx) := PostR (α := Bool) (β := Bool) G (fun _ _ b c => b = c)
section
variable {α β : Type} {G : Gx} {ρ ρ' : Wd} {H H' : Hp}
theorem PostR.le {R : Wd → Hp → α → β → Prop} {r : Res α} {Q : β → Hp → Prop} {E : XK} (p : PostR G R ρ H r Q E) (l : Le G ρ H ρ' H') : PostR G R ρ' H' r Q E := by
  cases r with
  | ok d S => exact fun ρ2 H2 v l2 rl h => p ρ2 H2 v (l.trans l2) rl h
  | exc x S => exact fun ρ2 H2 c dd l2 rl h => p ρ2 H2 c dd (l.trans l2) rl h
  | bad => exact p
theorem PostR.imp {R : Wd → Hp → α → β → Prop} {r : Res α} {Q Q' : β → Hp → Prop} {E E' : XK} (p : PostR G R ρ H r Q E) (h : ∀ v H', Q v H' → Q' v H') (hE : ∀ c d H', E c d H' → E' c d H') : PostR G R ρ H r Q' E' := by
  cases r with
  | ok d S => exact fun ρ2 H2 v l2 rl q => h _ _ (p ρ2 H2 v l2 rl q)
  | exc x S => exact fun ρ2 H2 c dd l2 rl q => hE _ _ _ (p ρ2 H2 c dd l2 rl q)
  | bad => exact p
theorem PostS.le {r : RS} {Dn : Ends} {W : WX} (p : PostS G ρ H r Dn W) (l : Le G ρ H ρ' H') : PostS G ρ' H' r Dn W := by
  cases r with
  | nx σ S => exact fun ρ2 H2 v l2 rl h => p ρ2 H2 v (l.trans l2) rl h
  | bk σ S => exact fun ρ2 H2 v l2 rl h => p ρ2 H2 v (l.trans l2) rl h
  | ct σ S => exact fun ρ2 H2 v l2 rl h => p ρ2 H2 v (l.trans l2) rl h
  | rt d S => exact fun ρ2 H2 v l2 rl h => p ρ2 H2 v (l.trans l2) rl h
  | exc x σ S => exact fun ρ2 H2 σ' c dd l2 rl re h => p ρ2 H2 σ' c dd (l.trans l2) rl re h
  | bad => exact p
/-- THE STEP: what is wanted of the first part, then of the rest -/
theorem PostR.bind {γ δ : Type} {R : Wd → Hp → α → β → Prop} {R' : Wd → Hp → γ → δ → Prop} {r : Res α} {f : α → Store → Res γ} {Q : δ → Hp → Prop} {E : XK} (p : PostR G R' ρ H (r.bind f) Q E)
    {Q1 : β → Hp → Prop} (k : ∀ ρ1 H1 S1 d v, Le G ρ H ρ1 H1 → Rl G ρ1 S1 H1 → R ρ1 H1 d v → PostR G R' ρ1 H1 (f d S1) Q E → Q1 v H1) : PostR G R ρ H r Q1 E := by
  cases r with
  | ok d S =>
    intro ρ1 H1 v l rl h
    exact k ρ1 H1 S d v l rl h (PostR.le (r := f d S) p l)
  | exc x S => exact p
  | bad => exact p
end

/-! ### runs as readings -/
section
variable (G : Gx) (W : WX)
def tm (m : ME) : TE := fun σ H Q => ∃ ρ σs S, Rl G ρ S H ∧ RE G ρ H σs σ ∧ Post G ρ H (m σs S) Q (fun c d H' => W c d σ H')
def tma (m : MA) : TA := fun σ H Q => ∃ ρ σs S, Rl G ρ S H ∧ RE G ρ H σs σ ∧ PostA G ρ H (m σs S) Q (fun c d H' => W c d σ H')
def tmt (m : MT) : TT := fun σ H Q => ∃ ρ σs S, Rl G ρ S H ∧ RE G ρ H σs σ ∧ PostT G ρ H (m σs S) Q (fun c d H' => W c d σ H')
def tms (m : MS) : TS := fun Dn σ H => ∃ ρ σs S, Rl G ρ S H ∧ RE G ρ H σs σ ∧ PostS G ρ H (m σs S) Dn W
end
theorem PE.weak {X : Cx} {e : Expr} {t t' : TE} (h : PE X e t) (i : ∀ σ H Q, t' σ H Q → t σ H Q) : PE X e t' := ⟨fun pins s σ H Q I q => h.run pins s σ H Q I (i _ _ _ q)⟩
theorem PT.weak {X : Cx} {e : Expr} {t t' : TT} (h : PT X e t) (i : ∀ σ H Q, t' σ H Q → t σ H Q) : PT X e t' := ⟨fun pins s σ H Q I q => h.run pins s σ H Q I (i _ _ _ q)⟩
theorem PW.weak {X : Cx} {e : Expr} {t t' : TT} (h : PW X e t) (i : ∀ σ H Q, t' σ H Q → t σ H Q) : PW X e t' := ⟨fun w pins s σ H Q I q => h.run w pins s σ H Q I (i _ _ _ q)⟩
theorem PA.weak {X : Cx} {e : List Expr} {t t' : TA} (h : PA X e t) (i : ∀ σ H Q, t' σ H Q → t σ H Q) : PA X e t' := ⟨fun pos pins s σ H Q I q => h.run pos pins s σ H Q I (i _ _ _ q)⟩
theorem PS.weak {X : Cx} {e : Stmt} {t t' : TS} (h : PS X e t) (i : ∀ σ H Q, t' σ H Q → t σ H Q) : PS X e t' := ⟨fun pins s σ H D I q => h.run pins s σ H D I (i _ _ _ q)⟩
theorem PSs.weak {X : Cx} {e : List Stmt} {t t' : TS} (h : PSs X e t) (i : ∀ σ H Q, t' σ H Q → t σ H Q) : PSs X e t' := ⟨fun pins s σ H D I q => h.run pins s σ H D I (i _ _ _ q)⟩

/-! ### heaps that change -/
section
variable {G : Gx} {ρ : Wd} {S : Store} {H : Hp}
theorem tk_new {p : Addr} {o : HO} (hp : H p = none) : TK G H (L2.upd H p o) := fun _ _ _ h => by rw [upd_ne (ne_of_none h hp)]; exact h
/-- the thing at p is no tuple -/
def NoT : HO → Prop
  | .tup _ => False
  | .frz _ _ => False
  | .xd _ => False
  | .tbl _ => False
  | .ext _ => False
  | _ => True
theorem NoT.noE {u : HO} (n : NoT u) (t : IsE u) : False := by
  cases u with
  | _ => first | exact n | exact t
theorem tabs_new {T : List (Addr × Str)} {H : Hp} {p : Addr} {o : HO} (t : LamX.Tabs T H) (hp : H p = none) : LamX.Tabs T (L2.upd H p o) :=
  tabs_move t fun a u _ e => by rw [upd_ne (ne_of_none e hp)]; exact e
theorem tabs_upd {T : List (Addr × Str)} {H : Hp} {p : Addr} {u o : HO} (t : LamX.Tabs T H) (hp : H p = some u) (nu : ¬ IsE u) : LamX.Tabs T (L2.upd H p o) :=
  tabs_move t fun a w i e => by
    rw [upd_ne (show a ≠ p from fun z => by rw [z, hp] at e; cases e; exact nu i)]
    exact e
theorem NoT.no {u : HO} (n : NoT u) (t : IsT u) : False := by
  cases u with
  | _ => first | exact n | exact t
theorem tk_upd {p : Addr} {o u : HO} (hp : H p = some u) (n : NoT u) : TK G H (L2.upd H p o) := fun a xs t h => by
  rw [upd_ne]
  · exact h
  · rintro rfl
    rw [h] at hp
    cases hp
    exact n.no t
theorem rd_new {p : Addr} {o : HO} (hp : H p = none) {a : Addr} {u : HO} (h : Rd H a u) : Rd (L2.upd H p o) a u := by
  have hne : a ≠ p := fun e => rd_some h (by rw [e]; exact hp)
  rcases h with h | ⟨ob, h⟩
  · exact .inl (by rw [upd_ne hne]; exact h)
  · exact .inr ⟨ob, by rw [upd_ne hne]; exact h⟩
theorem Le.new {p : Addr} {o : HO} (hp : H p = none) : Le G ρ H ρ (L2.upd H p o) := ⟨List.prefix_refl _, rfl, tk_new hp, fun _ _ _ h => by rw [upd_ne (ne_of_none h hp)]; exact h, fun _ _ _ _ h => rd_new hp h, fun a h e => ⟨h, by
  rw [upd_ne (show a ≠ p from fun z => e.ne (by rw [z]; exact hp))]; exact e⟩, fun a _ e => upd_ne (show a ≠ p from fun z => e (by rw [z]; exact hp)), fun _ _ _ h => by rw [upd_ne (ne_of_none h hp)]; exact h⟩
theorem Le.push {p : Addr} {o : HO} (hp : H p = none) : Le G ρ H (ρ.push p) (L2.upd H p o) := ⟨List.prefix_append _ _, rfl, tk_new hp, fun _ _ _ h => by rw [upd_ne (ne_of_none h hp)]; exact h, fun _ _ _ _ h => rd_new hp h, fun a h e => by
  have hne : a ≠ p := fun z => e.ne (by rw [z]; exact hp)
  exact ⟨⟨by simp [Wd.push, h.1, hne], h.2⟩, by rw [upd_ne hne]; exact e⟩, fun a _ e => upd_ne (show a ≠ p from fun z => e (by rw [z]; exact hp)), fun _ _ _ h => by rw [upd_ne (ne_of_none h hp)]; exact h⟩
theorem Le.upd {p : Addr} {u u' : HO} (hm : p ∈ ρ.v) (hx : p ∉ ρ.h) (hp : H p = some u) (n : NoT u) : Le G ρ H ρ (L2.upd H p u') := ⟨List.prefix_refl _, rfl, tk_upd hp n, fun a xs ha h => by
    rw [upd_ne (show a ≠ p from fun z => ha.1 (by rw [z]; exact hm))]; exact h, fun a v ha _ h => by
  have hne : a ≠ p := fun z => ha.1 (by rw [z]; exact hm)
  rcases h with h | ⟨ob, h⟩
  · exact .inl (by rw [upd_ne hne]; exact h)
  · exact .inr ⟨ob, by rw [upd_ne hne]; exact h⟩, fun a ha e => ⟨ha, by rw [upd_ne (show a ≠ p from fun z => ha.1 (by rw [z]; exact hm))]; exact e⟩, fun a ha _ => upd_ne (show a ≠ p from fun z => hx (by rw [← z]; exact ha)), fun a o v h => by
  rw [upd_ne (show a ≠ p from fun z => by rw [z, hp] at h; cases h; exact n)]
  exact h⟩
/-- something new that the store does not know -/
theorem Rl.other {p : Addr} {o : HO} (r : Rl G ρ S H) (hp : H p = none) : Rl G ρ S (L2.upd H p o) := by
  refine ⟨r.len, r.nd, fun a ha => ⟨(r.hh a ha).1, ?_⟩, fun i ob e => ?_, tabs_new r.tb hp⟩
  · have e := (r.hh a ha).2
    rw [upd_ne (show a ≠ p from fun z => e.ne (by rw [z]; exact hp))]
    exact e
  · obtain ⟨a, u, h1, h2, h3⟩ := r.ob i ob e
    exact ⟨a, u, h1, by rw [upd_ne (ne_of_none h2 hp)]; exact h2, h3.mono (Le.new hp)⟩
theorem Store.all {S : Store} (i : Nat) (h : i < S.size) : ∃ o, S.get i = some o := by
  unfold Store.get Store.size at *
  exact ⟨S.objs[i], List.getElem?_eq_getElem h⟩
theorem Rl.no {p : Addr} (r : Rl G ρ S H) (hp : H p = none) : ρ.no p := by
  refine ⟨fun hm => ?_, fun hm => (r.hh p hm).2.ne hp⟩
  obtain ⟨i, hl, e⟩ := List.getElem_of_mem hm
  obtain ⟨o, ho⟩ := Store.all (S := S) i (by rw [← r.len]; exact hl)
  obtain ⟨a, u, h1, h2, _⟩ := r.ob i o ho
  rw [List.getElem?_eq_getElem hl, e] at h1
  cases h1
  rw [h2] at hp
  cases hp
theorem Rl.nh {p : Addr} {i : Nat} (r : Rl G ρ S H) (hi : ρ.v[i]? = some p) : p ∉ ρ.h := fun hm => (r.hh p hm).1 (List.mem_of_getElem? hi)
theorem Rl.leUpd {p : Addr} {i : Nat} {u u' : HO} (r : Rl G ρ S H) (hi : ρ.v[i]? = some p) (hp : H p = some u) (n : NoT u) : Le G ρ H ρ (L2.upd H p u') := Le.upd (List.mem_of_getElem? hi) (r.nh hi) hp n
/-- a new thing of the store -/
theorem Rl.push {p : Addr} {o : Ob} {u : HO} (r : Rl G ρ S H) (hp : H p = none) (ro : RO G ρ H o u) : Rl G (ρ.push p) (S.push o) (L2.upd H p u) := by
  have l : Le G ρ H (ρ.push p) (L2.upd H p u) := Le.push hp
  have hn := r.no hp
  refine ⟨by simp [Wd.push, r.len, Store.size_push], ?_, fun a ha => ?_, fun i ob e => ?_, tabs_new r.tb hp⟩
  · show (ρ.v ++ [p]).Nodup
    rw [List.nodup_append]
    refine ⟨r.nd, by simp, fun a ha b hb => ?_⟩
    simp only [List.mem_singleton] at hb
    subst hb
    rintro rfl
    exact hn.1 ha
  · obtain ⟨h1, h2⟩ := r.hh a ha
    have hne : a ≠ p := fun z => h2.ne (by rw [z]; exact hp)
    exact ⟨by simp [Wd.push, h1, hne], by rw [upd_ne hne]; exact h2⟩
  · by_cases hi : i = S.size
    · subst hi
      rw [Store.get_push_same] at e
      cases e
      refine ⟨p, u, ?_, upd_same, ro.mono l⟩
      rw [← r.len]
      simp [Wd.push]
    · rw [Store.get_push_ne hi] at e
      obtain ⟨a, u', h1, h2, h3⟩ := r.ob i ob e
      exact ⟨a, u', pre_get l.pre h1, by rw [upd_ne (ne_of_none h2 hp)]; exact h2, h3.mono l⟩
theorem RV.new {p : Addr} {u : HO} (r : Rl G ρ S H) : RV G (ρ.push p) (L2.upd H p u) (.ref S.size) (.ref p) := .ref (by rw [← r.len]; simp [Wd.push])
theorem nd_get {l : List Addr} (nd : l.Nodup) {i j : Nat} {a : Addr} (h1 : l[i]? = some a) (h2 : l[j]? = some a) : i = j := by
  obtain ⟨a1, e1⟩ := List.getElem?_eq_some_iff.mp h1
  obtain ⟨a2, e2⟩ := List.getElem?_eq_some_iff.mp h2
  have pw := List.pairwise_iff_getElem.mp nd
  rcases Nat.lt_trichotomy i j with h | h | h
  · exact absurd (e1.trans e2.symm) (pw i j a1 a2 h)
  · exact h
  · exact absurd (e2.trans e1.symm) (pw j i a2 a1 h)
/-- a thing of the store is changed -/
theorem Rl.set {p : Addr} {o o' : Ob} {u u' : HO} {i : Nat} (r : Rl G ρ S H) (hi : ρ.v[i]? = some p) (ho : S.get i = some o) (hp : H p = some u) (n : NoT u) (ro : RO G ρ H o' u') : Rl G ρ (S.set i o') (L2.upd H p u') := by
  have l : Le G ρ H ρ (L2.upd H p u') := r.leUpd hi hp n
  refine ⟨by rw [Store.size_set]; exact r.len, r.nd, fun a ha => ⟨(r.hh a ha).1, ?_⟩, fun j ob e => ?_, tabs_upd r.tb hp n.noE⟩
  · rw [l.kh a ha (r.hh a ha).2.ne]
    exact (r.hh a ha).2
  by_cases hij : i = j
  · subst hij
    rw [Store.get_set_same (Store.get_lt ho)] at e
    cases e
    exact ⟨p, u', hi, upd_same, ro.mono l⟩
  · rw [Store.get_set_ne hij] at e
    obtain ⟨a, v, h1, h2, h3⟩ := r.ob j ob e
    refine ⟨a, v, h1, ?_, h3.mono l⟩
    rw [upd_ne]
    · exact h2
    · rintro rfl
      exact hij (nd_get r.nd hi h1)
/-- what stands at a reference -/
theorem Rl.at {i : Nat} {a : Addr} {o : Ob} (r : Rl G ρ S H) (h : ρ.v[i]? = some a) (e : S.get i = some o) : ∃ u, H a = some u ∧ RO G ρ H o u := by
  obtain ⟨b, u, h1, h2, h3⟩ := r.ob i o e
  rw [h] at h1
  cases h1
  exact ⟨u, h2, h3⟩
end
end L2.Mi

set_option Elab.async false
set_option linter.all false
set_option maxRecDepth 100000
set_option maxHeartbeats 4000000
/-! Mini, 1: the runs of expressions and statements, one lemma a construct. -/
namespace L2.Mi
open PySem PySem.Spec PyProof.Rows

theorem Res.bind_assoc {α β γ : Type} {r : Res α} {f : α → Store → Res β} {g : β → Store → Res γ} : (r.bind f).bind g = r.bind fun a S => (f a S).bind g := by
  cases r <;> rfl

/-! ### combinators -/
def eVar (i : Nat) : ME := fun σ S => match σ[i]? with | some (some d) => .ok d S | _ => .bad
def eC (d : D) : ME := fun _ S => .ok d S
def eBin (f : D → D → Store → Res D) (a b : ME) : ME := fun σ S => (a σ S).bind fun x S1 => (b σ S1).bind fun y S2 => f x y S2
def eUn (f : D → Store → Res D) (a : ME) : ME := fun σ S => (a σ S).bind fun x S1 => f x S1
def aList : List ME → MA
  | [] => fun _ S => .ok [] S
  | m :: ms => fun σ S => (m σ S).bind fun x S1 => (aList ms σ S1).bind fun xs S2 => .ok (x :: xs) S2
def eTup (ms : List ME) : ME := fun σ S => (aList ms σ S).bind fun xs S1 => .ok (.tup xs) S1
/-- a list that is changed later, one that is not -/
def eLst (ms : List ME) : ME := fun σ S => (aList ms σ S).bind fun xs S1 => .ok (.ref S1.size) (S1.push (.lst xs))
def eLv (ms : List ME) : ME := fun σ S => (aList ms σ S).bind fun xs S1 => .ok (.lv xs) S1
/-- a call of a built-in -/
def eFn (f : List D → Store → Res D) (a : MA) : ME := fun σ S => (a σ S).bind f
def tOf (m : ME) : MT := fun σ S => (m σ S).bind fun d S1 => match d with | .bl b => .ok b S1 | _ => .bad
def tAnd (a b : MT) : MT := fun σ S => (a σ S).bind fun c S1 => if c then b σ S1 else .ok false S1
def tOr (a b : MT) : MT := fun σ S => (a σ S).bind fun c S1 => if c then .ok true S1 else b σ S1
def tNot (a : MT) : MT := fun σ S => (a σ S).bind fun c S1 => .ok (!c) S1
def eAnd (a b : ME) : ME := fun σ S => (tOf a σ S).bind fun c S1 => if c then b σ S1 else .ok (.bl false) S1
def eOr (a b : ME) : ME := fun σ S => (tOf a σ S).bind fun c S1 => if c then .ok (.bl true) S1 else b σ S1
def eNot (a : ME) : ME := fun σ S => (tOf a σ S).bind fun c S1 => .ok (.bl (!c)) S1
def eIf (t : MT) (a b : ME) : ME := fun σ S => (t σ S).bind fun c S1 => if c then a σ S1 else b σ S1
def eChain (f g : D → D → Store → Res D) (a b c : ME) : ME := fun σ S => (a σ S).bind fun x S1 => (b σ S1).bind fun y S2 => (f x y S2).bind fun d S3 =>
  match d with
  | .bl true => (c σ S3).bind fun z S4 => g y z S4
  | .bl false => .ok (.bl false) S3
  | _ => .bad

def sNext : MS := fun σ S => .nx σ S
def sBreak : MS := fun σ S => .bk σ S
def sCont : MS := fun σ S => .ct σ S
def sSeq (a b : MS) : MS := fun σ S => match a σ S with | .nx σ1 S1 => b σ1 S1 | r => r
def sOf (σ : En) (r : Res RS) : RS := match r with | .ok a _ => a | .exc x S => .exc x σ S | .bad => .bad
def sDo (m : ME) (k : D → Store → RS) : MS := fun σ S => match m σ S with | .ok d S1 => k d S1 | .exc x S1 => .exc x σ S1 | .bad => .bad
def sRet (m : ME) : MS := fun σ S => match m σ S with | .ok d S1 => .rt d S1 | .exc x S1 => .exc x σ S1 | .bad => .bad
def sRetN : MS := fun σ S => .rt .non S
def sDrop (m : ME) : MS := fun σ S => match m σ S with | .ok _ S1 => .nx σ S1 | .exc x S1 => .exc x σ S1 | .bad => .bad
def sIf (t : MT) (a b : MS) : MS := fun σ S => match t σ S with | .ok c S1 => (if c then a σ S1 else b σ S1) | .exc x S1 => .exc x σ S1 | .bad => .bad
/-- targets -/
abbrev MG := D → En → Store → Res En
def gName (i : Nat) : MG := fun d σ S => .ok (σ.set i (some d)) S
def gAll : List MG → List D → En → Store → Res En
  | [], [], σ, S => .ok σ S
  | g :: gs, d :: ds, σ, S => (g d σ S).bind fun σ1 S1 => gAll gs ds σ1 S1
  | _, _, _, _ => .bad
def gTup (gs : List MG) : MG := fun d σ S => match d with
  | .tup ds => gAll gs ds σ S
  | _ => .bad
def sAsg (m : ME) (g : MG) : MS := fun σ S => match m σ S with
  | .ok d S1 => (match g d σ S1 with | .ok σ2 S2 => .nx σ2 S2 | _ => .bad)
  | .exc x S1 => .exc x σ S1
  | .bad => .bad
abbrev sSet (i : Nat) (m : ME) : MS := sAsg m (gName i)
def sAug (i : Nat) (f : D → D → Store → Res D) (m : ME) : MS := fun σ S => match σ[i]? with
  | some (some x) => (match (m σ S).bind fun y S1 => f x y S1 with | .ok d S1 => .nx (σ.set i (some d)) S1 | .exc z S1 => .exc z σ S1 | .bad => .bad)
  | _ => .bad
def sWhile (t : MT) (b : MS) : Nat → MS
  | 0 => fun _ _ => .bad
  | n + 1 => fun σ S => match t σ S with
    | .ok true S1 => (match b σ S1 with
      | .nx σ2 S2 => sWhile t b n σ2 S2
      | .ct σ2 S2 => sWhile t b n σ2 S2
      | .bk σ2 S2 => .nx σ2 S2
      | r => r)
    | .ok false S1 => .nx σ S1
    | .exc x S1 => .exc x σ S1
    | .bad => .bad
/-- what is walked: at turn k, in a store: an item, or the end -/
abbrev Src := Nat → Store → Option (Option D)
abbrev MI := En → Store → Res Src
def forGo (src : Src) (g : MG) (b : MS) : Nat → Nat → MS
  | 0, _ => fun _ _ => .bad
  | n + 1, k => fun σ S => match src k S with
    | none => .bad
    | some none => .nx σ S
    | some (some d) => (match g d σ S with
      | .ok σ1 S1 => (match b σ1 S1 with
        | .nx σ2 S2 => forGo src g b n (k + 1) σ2 S2
        | .ct σ2 S2 => forGo src g b n (k + 1) σ2 S2
        | .bk σ2 S2 => .nx σ2 S2
        | r => r)
      | _ => .bad)
def sFor (i : MI) (g : MG) (b : MS) (n : Nat) : MS := fun σ S => match i σ S with
  | .ok src S1 => forGo src g b n 0 σ S1
  | .exc x S1 => .exc x σ S1
  | .bad => .bad
def iTup (m : ME) : MI := fun σ S => (m σ S).bind fun d S1 => match d with
  | .tup ds => .ok (fun k _ => some ds[k]?) S1
  | .kt ds => .ok (fun k _ => some ds[k]?) S1
  | _ => .bad
/-- the items of a list as it stands -/
def listAt (S : Store) : D → Option (List D)
  | .lv ds => some ds
  | .fl ds => some ds
  | .ref a => (match S.get a with | some (.lst ds) => some ds | some (.lck (.lst ds)) => some ds | _ => none)
  | _ => none
def iList (m : ME) : MI := fun σ S => (m σ S).bind fun d S1 => match listAt S1 d with
  | some _ => .ok (fun k S' => (listAt S' d).map fun ds => ds[k]?) S1
  | none => .bad
def i62 (j : Int) : Bool := decide (-(2 ^ 62) ≤ j) && decide (j < 2 ^ 62)
def iRange1 (m : ME) : MI := fun σ S => (m σ S).bind fun d S1 => match d with
  | .int j => if i62 j then .ok (fun k _ => some (if k < j.toNat then some (.int (0 + (k : Int))) else none)) S1 else .bad
  | _ => .bad
def iRange2 (a b : ME) : MI := fun σ S => (aList [a, b] σ S).bind fun ds S1 => match ds with
  | [.int i, .int j] => if i62 i && i62 j then .ok (fun k _ => some (if k < (j - i).toNat then some (.int (i + (k : Int))) else none)) S1 else .bad
  | _ => .bad

/-! ### judgements -/
structure Cc (G : Gx) (X : Cx) (W : WX) : Prop where
  k : X.K = G.K
  tk : Takes X W
  hp : PassesOwn (model X.prog X.w) X.A X.env X.xe
  calm : X.calm = true
  nd : X.N.Nodup
abbrev SE (G : Gx) (X : Cx) (W : WX) (e : Expr) (m : ME) : Prop := PE X e (tm G W m)
abbrev SA (G : Gx) (X : Cx) (W : WX) (es : List Expr) (m : MA) : Prop := PA X es (tma G W m)
abbrev ST (G : Gx) (X : Cx) (W : WX) (e : Expr) (m : MT) : Prop := PT X e (tmt G W m)
abbrev SW (G : Gx) (X : Cx) (W : WX) (e : Expr) (m : MT) : Prop := PW X e (tmt G W m)
abbrev SS (G : Gx) (X : Cx) (W : WX) (st : Stmt) (m : MS) : Prop := PS X st (tms G W m)
abbrev SSs (G : Gx) (X : Cx) (W : WX) (st : List Stmt) (m : MS) : Prop := PSs X st (tms G W m)

abbrev EW (W : WX) (σ : St) : XK := fun c d H' => W c d σ H'
section
variable {G : Gx} {X : Cx} {W : WX} {pins : List (Addr × Obj)} {σ : St} {H : Hp} {s : Shared} {ρ : Wd} {σs : En} {S : Store} {α β : Type} {R : Wd → Hp → α → β → Prop} {Q : β → Hp → Prop}
/-- an expression, then the rest -/
theorem SE.go {e : Expr} {m : ME} {f : D → Store → Res α} (h : SE G X W e m) (I : Inv X pins σ H s) (rl : Rl G ρ S H) (re : RE G ρ H σs σ) (p : PostR G R ρ H ((m σs S).bind f) Q (EW W σ)) {Z : Value → Shared → Prop}
    (k : ∀ v s1 x H1 ρ1 S1 d, Inv X pins σ H1 s1 → RelV x v → Le G ρ H ρ1 H1 → Rl G ρ1 S1 H1 → RE G ρ1 H1 σs σ → RV G ρ1 H1 d x → PostR G R ρ1 H1 (f d S1) Q (EW W σ) → Z v s1) :
    wpAny (model X.prog X.w) X.A (eval e X.env) Z X.xe s := by
  refine thn (h.run pins s σ H (fun x H1 => ∃ ρ1 S1 d, Le G ρ H ρ1 H1 ∧ Rl G ρ1 S1 H1 ∧ RV G ρ1 H1 d x ∧ PostR G R ρ1 H1 (f d S1) Q (EW W σ)) I ⟨ρ, σs, S, rl, re, p.bind (R := RV G) fun ρ1 H1 S1 d v l r1 rv p1 => ⟨ρ1, S1, d, l, r1, rv, p1⟩⟩) ?_
  rintro v s1 ⟨x, H1, I1, rx, ρ1, S1, d, l, r1, rv, p1⟩
  exact k v s1 x H1 ρ1 S1 d I1 rx l r1 (re.mono l) rv p1
theorem SA.go {es : List Expr} {m : MA} {pos : Pos} {f : List D → Store → Res α} (h : SA G X W es m) (I : Inv X pins σ H s) (rl : Rl G ρ S H) (re : RE G ρ H σs σ) (p : PostR G R ρ H ((m σs S).bind f) Q (EW W σ)) {Z : List Value → Shared → Prop}
    (k : ∀ us s1 xs H1 ρ1 S1 ds, Inv X pins σ H1 s1 → Vals xs us → Le G ρ H ρ1 H1 → Rl G ρ1 S1 H1 → RE G ρ1 H1 σs σ → RVs G ρ1 H1 ds xs → PostR G R ρ1 H1 (f ds S1) Q (EW W σ) → Z us s1) :
    wpAny (model X.prog X.w) X.A (spliced (backTo pos (starEach es X.env))) Z X.xe s := by
  refine thn (h.run pos pins s σ H (fun xs H1 => ∃ ρ1 S1 ds, Le G ρ H ρ1 H1 ∧ Rl G ρ1 S1 H1 ∧ RVs G ρ1 H1 ds xs ∧ PostR G R ρ1 H1 (f ds S1) Q (EW W σ)) I ⟨ρ, σs, S, rl, re, p.bind (R := RVs G) fun ρ1 H1 S1 d v l r1 rv p1 => ⟨ρ1, S1, d, l, r1, rv, p1⟩⟩) ?_
  rintro v s1 ⟨x, H1, I1, rx, ρ1, S1, d, l, r1, rv, p1⟩
  exact k v s1 x H1 ρ1 S1 d I1 rx l r1 (re.mono l) rv p1
theorem ST.go {e : Expr} {m : MT} {f : Bool → Store → Res α} (h : ST G X W e m) (I : Inv X pins σ H s) (rl : Rl G ρ S H) (re : RE G ρ H σs σ) (p : PostR G R ρ H ((m σs S).bind f) Q (EW W σ)) {Z : Bool → Shared → Prop}
    (k : ∀ b s1 H1 ρ1 S1, Inv X pins σ H1 s1 → Le G ρ H ρ1 H1 → Rl G ρ1 S1 H1 → RE G ρ1 H1 σs σ → PostR G R ρ1 H1 (f b S1) Q (EW W σ) → Z b s1) :
    wpAny (model X.prog X.w) X.A (isTrue e X.env (eval e X.env)) Z X.xe s := by
  refine thn (h.run pins s σ H (fun b H1 => ∃ ρ1 S1, Le G ρ H ρ1 H1 ∧ Rl G ρ1 S1 H1 ∧ PostR G R ρ1 H1 (f b S1) Q (EW W σ)) I ⟨ρ, σs, S, rl, re, p.bind (R := fun _ _ b c => b = c) fun ρ1 H1 S1 d v l r1 rv p1 => ⟨ρ1, S1, l, r1, rv ▸ p1⟩⟩) ?_
  rintro v s1 ⟨H1, I1, ρ1, S1, l, r1, p1⟩
  exact k v s1 H1 ρ1 S1 I1 l r1 (re.mono l) p1
/-- a value is given out -/
theorem post_ok {Q : VK} {E : XK} {d : D} {x : V} (p : Post G ρ H (.ok d S) Q E) (rl : Rl G ρ S H) (rv : RV G ρ H d x) : Q x H := p ρ H x Le.refl rl rv
theorem post_new {Q : VK} {E : XK} {d : D} {x : V} {a : Addr} {u : HO} (p : Post G ρ H (.ok d S) Q E) (rl : Rl G ρ S H) (hn : H a = none) (rv : RV G ρ (L2.upd H a u) d x) : Q x (L2.upd H a u) := p ρ _ x (Le.new hn) (rl.other hn) rv
end

/-! ### operations on values -/
def OpS (G : Gx) (X : Cx) (W : WX) (F : Value → Value → Sem Value) (f : D → D → Store → Res D) : Prop :=
  ∀ (pins : List (Addr × Obj)) (s : Shared) (σ : St) (H : Hp) (x y : V) (v u : Value) (Q : VK) (ρ : Wd) (S : Store) (d1 d2 : D), Inv X pins σ H s → RelV x v → RelV y u → Rl G ρ S H → RV G ρ H d1 x → RV G ρ H d2 y →
    Post G ρ H (f d1 d2 S) Q (EW W σ) → wpAny (model X.prog X.w) X.A (F v u) (EP X pins σ Q) X.xe s
def UnS (G : Gx) (X : Cx) (W : WX) (F : Value → Sem Value) (f : D → Store → Res D) : Prop :=
  ∀ (pins : List (Addr × Obj)) (s : Shared) (σ : St) (H : Hp) (x : V) (v : Value) (Q : VK) (ρ : Wd) (S : Store) (d : D), Inv X pins σ H s → RelV x v → Rl G ρ S H → RV G ρ H d x →
    Post G ρ H (f d S) Q (EW W σ) → wpAny (model X.prog X.w) X.A (F v) (EP X pins σ Q) X.xe s
def FnS (G : Gx) (X : Cx) (W : WX) (F : Value) (f : List D → Store → Res D) : Prop :=
  ∀ (pins : List (Addr × Obj)) (s : Shared) (σ : St) (H : Hp) (xs : List V) (us : List Value) (Q : VK) (ρ : Wd) (S : Store) (ds : List D), Inv X pins σ H s → Vals xs us → Rl G ρ S H → RVs G ρ H ds xs →
    Post G ρ H (f ds S) Q (EW W σ) → wpAny (model X.prog X.w) X.A (call F us) (EP X pins σ Q) X.xe s
section
variable {G : Gx} {X : Cx} {W : WX}
theorem OpS.of {F : Value → Value → Sem Value} {f : D → D → Store → Res D} {r : R2} (ho : OpR X F r)
    (h : ∀ ρ S H d1 d2 x y Q E, Rl G ρ S H → RV G ρ H d1 x → RV G ρ H d2 y → Post G ρ H (f d1 d2 S) Q E → r x y H Q) : OpS G X W F f :=
  fun pins s σ H x y v u Q ρ S d1 d2 I rx ry rl r1 r2 p => ho pins s σ H x y v u Q I rx ry (h ρ S H d1 d2 x y Q _ rl r1 r2 p)
theorem UnS.of {F : Value → Sem Value} {f : D → Store → Res D} {r : V → Hp → VK → Prop} (ho : UnR X F r)
    (h : ∀ ρ S H d x Q E, Rl G ρ S H → RV G ρ H d x → Post G ρ H (f d S) Q E → r x H Q) : UnS G X W F f :=
  fun pins s σ H x v Q ρ S d I rx rl r1 p => ho pins s σ H x v Q I rx (h ρ S H d x Q _ rl r1 p)
theorem FnS.of {F : Value} {f : List D → Store → Res D} {r : List V → Hp → VK → Prop} (ho : CallR X F r)
    (h : ∀ ρ S H ds xs Q E, Rl G ρ S H → RVs G ρ H ds xs → Post G ρ H (f ds S) Q E → r xs H Q) : FnS G X W F f :=
  fun pins s σ H xs us Q ρ S ds I r rl r1 p => ho pins s σ H xs us Q I r (h ρ S H ds xs Q _ rl r1 p)
end

/-! ### expressions -/
section
variable {G : Gx} {X : Cx} {W : WX} {a b c e : Expr} {es : List Expr} {ma mb mc m : ME} {t u : MT} {pos : Pos}
theorem se_of {tr : TE} (h : PE X e tr) (i : ∀ σ H Q ρ σs S, Rl G ρ S H → RE G ρ H σs σ → Post G ρ H (m σs S) Q (EW W σ) → tr σ H Q) : SE G X W e m :=
  PE.weak h fun σ H Q ⟨ρ, σs, S, rl, re, p⟩ => i σ H Q ρ σs S rl re p
theorem se_var (i : Nat) {x : Str} (hN : X.N[i]? = some x := by rfl) (hv : Vis X.env.scope x := by first | exact Or.inl rfl | exact Or.inr (Or.inl rfl) | exact Or.inr (Or.inr rfl)) (hd : (x == ("__debug__" : Str)) = false := by decide)
    (hcd : (x == ("__classdict__" : Str)) = false := by decide) : SE G X W (.Name x pos) (eVar i) := by
  refine se_of (pe_var hN hv hd hcd) fun σ H Q ρ σs S rl re p => ?_
  unfold eVar at p
  cases q : σs[i]? with
  | none => rw [q] at p; exact p.elim
  | some o =>
    cases o with
    | none => rw [q] at p; exact p.elim
    | some d =>
      rw [q] at p
      obtain ⟨v, h1, h2⟩ := re.get i d q
      exact ⟨v, h1, post_ok p rl h2⟩
theorem se_int {i : Int} {j : Nat} : SE G X W (.Constant (.int i) j pos) (eC (.int i)) := se_of pe_int fun _ _ _ _ _ _ rl _ p => post_ok p rl (.int i)
theorem se_bl {i : Bool} {j : Nat} : SE G X W (.Constant (.bool i) j pos) (eC (.bl i)) := se_of pe_bl fun _ _ _ _ _ _ rl _ p => post_ok p rl (.bl i)
theorem se_non {j : Nat} : SE G X W (.Constant .none j pos) (eC .non) := se_of pe_non fun _ _ _ _ _ _ rl _ p => post_ok p rl .non
theorem rv_str {ρ : Wd} {H : Hp} (x : Str) : RV G ρ H (.str x.cps.toList) (.str x) := by
  have h : RV G ρ H (.str x.cps.toList) (.str ⟨x.cps.toList.toArray⟩) := .str x.cps.toList
  simpa using h
theorem se_str {x : Str} {j : Nat} (l : List Nat) (hl : x.cps.toList = l := by rfl) : SE G X W (.Constant (.str x) j pos) (eC (.str l)) := by
  subst hl
  exact se_of pe_str fun _ _ _ _ _ _ rl _ p => post_ok p rl (rv_str x)
/-- a constant of the module -/
theorem se_glob {x : Str} {v : V} {w : Value} {d : D} (hg : Gl X x) (hm : X.mg x = some w) (r : RelV v w) (rv : ∀ ρ H, RV G ρ H d v) (hdb : (x == ("__debug__" : Str)) = false := by decide) : SE G X W (.Name x pos) (eC d) :=
  se_of (pe_glob hg hm r hdb) fun _ _ _ _ _ _ rl _ p => post_ok p rl (rv _ _)
theorem se_bin {op : Operator} {f : D → D → Store → Res D} (ho : OpS G X W (binaryOp op) f) (ha : SE G X W a ma) (hb : SE G X W b mb) : SE G X W (.BinOp a op b pos) (eBin f ma mb) :=
  ⟨fun pins s σ H Q I ⟨ρ, σs, S, rl, re, p⟩ => wpAny_BinOp (ha.go I rl re p fun v s1 x H1 ρ1 S1 d I1 rx l1 rl1 re1 rv1 p1 => hb.go I1 rl1 re1 p1 fun u s2 y H2 ρ2 S2 e I2 ry l2 rl2 re2 rv2 p2 =>
    ho pins s2 σ H2 x y v u Q ρ2 S2 d e I2 rx ry rl2 (rv1.mono l2) rv2 p2)⟩
theorem se_un {op : UnaryOp} {f : D → Store → Res D} (ho : UnS G X W (unaryOp op) f) (ha : SE G X W a ma) : SE G X W (.UnaryOp op a pos) (eUn f ma) :=
  ⟨fun pins s σ H Q I ⟨ρ, σs, S, rl, re, p⟩ => UnaryOp_ (ha.go I rl re p fun v s1 x H1 ρ1 S1 d I1 rx l1 rl1 re1 rv1 p1 => ho pins s1 σ H1 x v Q ρ1 S1 d I1 rx rl1 rv1 p1)⟩
theorem se_cmp {op : CmpOp} {f : D → D → Store → Res D} (ho : OpS G X W (compareOp op) f) (ha : SE G X W a ma) (hb : SE G X W b mb) (hm : behindInMarks op b = false := by first | exact nobehind _ (by decide) (by decide) | rfl) : SE G X W (.Compare a [op] [b] pos) (eBin f ma mb) :=
  ⟨fun pins s σ H Q I ⟨ρ, σs, S, rl, re, p⟩ => wpAny_Compare1 (ha.go I rl re p fun v s1 x H1 ρ1 S1 d I1 rx l1 rl1 re1 rv1 p1 => hb.go I1 rl1 re1 p1 fun u s2 y H2 ρ2 S2 e I2 ry l2 rl2 re2 rv2 p2 =>
    ho pins s2 σ H2 x y v u Q ρ2 S2 d e I2 rx ry rl2 (rv1.mono l2) rv2 p2) hm⟩
/-- a value that is a bool, behind a test's run -/
theorem bool_go {pins : List (Addr × Obj)} {σ : St} {H : Hp} {ρ : Wd} {d : D} {S : Store} {Q : Bool → Hp → Prop} {E : XK} {x : V} (p : PostT G ρ H (match d with | .bl b => .ok b S | _ => .bad) Q E) (rl : Rl G ρ S H) (rv : RV G ρ H d x) : ∃ k, x = .bl k ∧ Q k H := by
  cases rv with
  | bl b => exact ⟨b, rfl, p ρ H b Le.refl rl rfl⟩
  | _ => exact p.elim
/-- a comparison as a test -/
theorem st_cmp {op : CmpOp} {f : D → D → Store → Res D} (ho : OpS G X W (compareOp op) f) (ha : SE G X W a ma) (hb : SE G X W b mb) (hm : behindInMarks op b = false := by first | exact nobehind _ (by decide) (by decide) | rfl) : ST G X W (.Compare a [op] [b] pos) (tOf (eBin f ma mb)) := by
  refine ⟨fun pins s σ H Q I ⟨ρ, σs, S, rl, re, p⟩ => ?_⟩
  have p0 : PostT G ρ H ((ma σs S).bind fun x S1 => ((mb σs S1).bind fun y S2 => f x y S2).bind fun d S3 => match d with | .bl b => .ok b S3 | _ => .bad) Q (EW W σ) := by
    have p' := p
    unfold tOf eBin at p'
    rw [Res.bind_assoc] at p'
    exact p'
  refine wpAny_isTrue_Compare1 (ha.go I rl re p0 fun v s1 x H1 ρ1 S1 d I1 rx l1 rl1 re1 rv1 p1 => ?_) hm
  have p1' : PostT G ρ1 H1 ((mb σs S1).bind fun y S2 => (f d y S2).bind fun d S3 => match d with | .bl b => .ok b S3 | _ => .bad) Q (EW W σ) := by
    rw [Res.bind_assoc] at p1
    exact p1
  refine hb.go I1 rl1 re1 p1' fun u s2 y H2 ρ2 S2 e I2 ry l2 rl2 re2 rv2 p2 => ?_
  refine thn (ho pins s2 σ H2 x y v u _ ρ2 S2 d e I2 rx ry rl2 (rv1.mono l2) rv2 (p2.bind (R := RV G) (Q1 := fun z H3 => ∃ k, z = .bl k ∧ Q k H3) fun ρ3 H3 S3 z w l3 rl3 rv3 p3 => bool_go (pins := pins) (σ := σ) p3 rl3 rv3)) ?_
  rintro c s3 ⟨z, H3, I3, r3, k, rfl, q3⟩
  cases r3
  exact wpAny_truthy_bool ⟨H3, I3, q3⟩
/-- an expression whose value is a bool, as a test -/
theorem st_val (h : SE G X W e m) (he : ∀ whole, isTrue e X.env whole = (do let v ← whole; standAt e.pos; holding [v] (truthy v)) := by intro _; rfl) : ST G X W e (tOf m) := by
  refine PT.weak (pt_val h he) fun σ H Q ⟨ρ, σs, S, rl, re, p⟩ => ?_
  exact ⟨ρ, σs, S, rl, re, p.bind (R := RV G) fun ρ3 H3 S3 z w l3 rl3 rv3 p3 => bool_go (pins := []) (σ := σ) p3 rl3 rv3⟩
theorem sw_and1 (ha : ST G X W a t) : SW G X W (.BoolOp .And [a] pos) t := pw_and1 ha
theorem sw_or1 (ha : ST G X W a t) : SW G X W (.BoolOp .Or [a] pos) t := pw_or1 ha
theorem sw_and {rest : List Expr} (ha : ST G X W a t) (hb : SW G X W (.BoolOp .And (b :: rest) pos) u) : SW G X W (.BoolOp .And (a :: b :: rest) pos) (tAnd t u) := by
  refine PW.weak (pw_and ha hb) fun σ H Q ⟨ρ, σs, S, rl, re, p⟩ => ?_
  refine ⟨ρ, σs, S, rl, re, p.bind (R := fun _ _ b c => b = c) fun ρ1 H1 S1 c1 c2 l1 rl1 rv1 p1 => ?_⟩
  subst rv1
  cases c1 with
  | true => exact ⟨ρ1, σs, S1, rl1, re.mono l1, p1⟩
  | false => exact p1 ρ1 H1 false Le.refl rl1 rfl
theorem sw_or {rest : List Expr} (ha : ST G X W a t) (hb : SW G X W (.BoolOp .Or (b :: rest) pos) u) : SW G X W (.BoolOp .Or (a :: b :: rest) pos) (tOr t u) := by
  refine PW.weak (pw_or ha hb) fun σ H Q ⟨ρ, σs, S, rl, re, p⟩ => ?_
  refine ⟨ρ, σs, S, rl, re, p.bind (R := fun _ _ b c => b = c) fun ρ1 H1 S1 c1 c2 l1 rl1 rv1 p1 => ?_⟩
  subst rv1
  cases c1 with
  | false => exact ⟨ρ1, σs, S1, rl1, re.mono l1, p1⟩
  | true => exact p1 ρ1 H1 true Le.refl rl1 rfl
theorem st_w (h : SW G X W e t) : ST G X W e t := h.pt
theorem st_not (ha : ST G X W a t) : ST G X W (.UnaryOp .Not a pos) (tNot t) := by
  refine PT.weak (pt_not ha) fun σ H Q ⟨ρ, σs, S, rl, re, p⟩ => ?_
  refine ⟨ρ, σs, S, rl, re, p.bind (R := fun _ _ b c => b = c) fun ρ1 H1 S1 c1 c2 l1 rl1 rv1 p1 => ?_⟩
  subst rv1
  exact p1 ρ1 H1 (!c1) Le.refl rl1 rfl
/-- and, or, not as values of bools -/
theorem se_one {op} (h : SE G X W a m) : SE G X W (.BoolOp op [a] pos) m := pe_one h
theorem tof_go {σ : St} {H : Hp} {ρ : Wd} {σs : En} {S : Store} {Q : VK} {E : XK} {f : Bool → Store → Res D} (rl : Rl G ρ S H) (p : Post G ρ H ((tOf m σs S).bind f) Q E) {Q1 : VK}
    (k : ∀ ρ1 H1 S1 c, Le G ρ H ρ1 H1 → Rl G ρ1 S1 H1 → Post G ρ1 H1 (f c S1) Q E → Q1 (.bl c) H1) : Post G ρ H (m σs S) Q1 E := by
  unfold tOf at p
  cases q : m σs S with
  | ok d S1 =>
    rw [q] at p
    intro ρ1 H1 v l1 rl1 rv1
    cases rv1 with
    | bl b => exact k ρ1 H1 S1 b l1 rl1 (PostR.le (r := f b S1) p l1)
    | _ => exact False.elim p
  | exc x S1 => rw [q] at p; exact p
  | bad => rw [q] at p; exact p
theorem se_and {rest : List Expr} (ha : SE G X W a ma) (hb : SE G X W (.BoolOp .And (b :: rest) pos) mb) : SE G X W (.BoolOp .And (a :: b :: rest) pos) (eAnd ma mb) := by
  refine se_of (pe_and ha hb) fun σ H Q ρ σs S rl re p => ?_
  refine ⟨ρ, σs, S, rl, re, tof_go (σ := σ) rl p fun ρ1 H1 S1 c l1 rl1 p1 => ⟨c, rfl, ?_⟩⟩
  cases c with
  | true => exact ⟨ρ1, σs, S1, rl1, re.mono l1, p1⟩
  | false => exact post_ok (S := S1) p1 rl1 (.bl false)
theorem se_or {rest : List Expr} (ha : SE G X W a ma) (hb : SE G X W (.BoolOp .Or (b :: rest) pos) mb) : SE G X W (.BoolOp .Or (a :: b :: rest) pos) (eOr ma mb) := by
  refine se_of (pe_or ha hb) fun σ H Q ρ σs S rl re p => ?_
  refine ⟨ρ, σs, S, rl, re, tof_go (σ := σ) rl p fun ρ1 H1 S1 c l1 rl1 p1 => ⟨c, rfl, ?_⟩⟩
  cases c with
  | false => exact ⟨ρ1, σs, S1, rl1, re.mono l1, p1⟩
  | true => exact post_ok (S := S1) p1 rl1 (.bl true)
theorem se_not (ha : SE G X W a ma) : SE G X W (.UnaryOp .Not a pos) (eNot ma) := by
  refine se_of (pe_not ha) fun σ H Q ρ σs S rl re p => ?_
  exact ⟨ρ, σs, S, rl, re, tof_go (σ := σ) rl p fun ρ1 H1 S1 c l1 rl1 p1 => ⟨c, rfl, post_ok (S := S1) p1 rl1 (.bl _)⟩⟩
theorem se_if (hc : ST G X W c t) (ha : SE G X W a ma) (hb : SE G X W b mb) : SE G X W (.IfExp c a b pos) (eIf t ma mb) := by
  refine se_of (pe_ifExp hc ha hb) fun σ H Q ρ σs S rl re p => ?_
  refine ⟨ρ, σs, S, rl, re, p.bind (R := fun _ _ b c => b = c) fun ρ1 H1 S1 c1 c2 l1 rl1 rv1 p1 => ?_⟩
  subst rv1
  cases c1 with
  | true => exact ⟨ρ1, σs, S1, rl1, re.mono l1, p1⟩
  | false => exact ⟨ρ1, σs, S1, rl1, re.mono l1, p1⟩
/-! arguments and displays -/
theorem sa_nil : SA G X W [] (aList []) := PA.weak pa_nil fun σ H Q ⟨ρ, σs, S, rl, re, p⟩ => p ρ H [] Le.refl rl .nil
theorem sa_cons {ms : List ME} (ha : SE G X W e m) (hr : SA G X W es (aList ms)) (hs : starEach (e :: es) X.env = (false, eval e X.env) :: starEach es X.env := by rfl) : SA G X W (e :: es) (aList (m :: ms)) := by
  refine PA.weak (pa_cons ha hr hs) fun σ H Q ⟨ρ, σs, S, rl, re, p⟩ => ?_
  refine ⟨ρ, σs, S, rl, re, PostR.bind (R := RV G) (r := m σs S) p fun ρ1 H1 S1 d v l1 rl1 rv1 p1 => ?_⟩
  refine ⟨ρ1, σs, S1, rl1, re.mono l1, PostR.bind (R := RVs G) (r := aList ms σs S1) p1 fun ρ2 H2 S2 ds vs l2 rl2 rv2 p2 => ?_⟩
  exact p2 ρ2 H2 _ Le.refl rl2 (.cons (rv1.mono l2) rv2)
theorem aList_len : ∀ {ms : List ME} {σs : En} {S S' : Store} {ds : List D}, aList ms σs S = .ok ds S' → ds.length = ms.length
  | [], σs, S, S', ds, h => by unfold aList at h; cases h; rfl
  | m :: ms, σs, S, S', ds, h => by
    unfold aList at h
    cases q : m σs S with
    | ok d S1 =>
      rw [q] at h
      cases q2 : aList ms σs S1 with
      | ok ds' S2 =>
        rw [Res.bind_ok, q2] at h
        cases h
        simp [aList_len q2]
      | exc x S2 => rw [Res.bind_ok, q2] at h; cases h
      | bad => rw [Res.bind_ok, q2] at h; cases h
    | exc x S1 => rw [q] at h; cases h
    | bad => rw [q] at h; cases h
theorem list_go {ms : List ME} {σ : St} {H : Hp} {ρ : Wd} {σs : En} {S : Store} {Q : VK} {E : XK} {f : List D → Store → Res D} (p : Post G ρ H ((aList ms σs S).bind f) Q E) {Q1 : List V → Hp → Prop}
    (k : ∀ ρ1 H1 S1 ds xs, Le G ρ H ρ1 H1 → Rl G ρ1 S1 H1 → RVs G ρ1 H1 ds xs → xs.length = ms.length → Post G ρ1 H1 (f ds S1) Q E → Q1 xs H1) : PostA G ρ H (aList ms σs S) Q1 E := by
  cases q : aList ms σs S with
  | ok ds S1 =>
    rw [q] at p
    exact fun ρ1 H1 xs l1 rl1 rv1 => k ρ1 H1 S1 ds xs l1 rl1 rv1 (by rw [← rv1.length, aList_len q]) (PostR.le (r := f ds S1) p l1)
  | exc x S1 => rw [q] at p; exact p
  | bad => rw [q] at p; exact p
theorem se_tup {ms : List ME} {x1} (h : SA G X W es (aList ms)) (hz : ms.length ≤ sizeLine := by first | decide | (rw [sizeLine_eq]; decide)) : SE G X W (.Tuple es x1 pos) (eTup ms) := by
  refine se_of (pe_tup h) fun σ H Q ρ σs S rl re p => ?_
  refine ⟨ρ, σs, S, rl, re, list_go (σ := σ) p fun ρ1 H1 S1 ds xs l1 rl1 rv1 hl p1 => ⟨by rw [hl]; exact hz, fun a hn => post_new p1 rl1 hn (.tup upd_same (rv1.mono (Le.new hn)))⟩⟩
theorem se_lst {ms : List ME} (h : SA G X W es (aList ms)) (hz : ms.length ≤ sizeLine := by first | decide | (rw [sizeLine_eq]; decide)) : SE G X W (.List es pos) (eLst ms) := by
  refine se_of (pe_lst h) fun σ H Q ρ σs S rl re p => ?_
  refine ⟨ρ, σs, S, rl, re, list_go (σ := σ) p fun ρ1 H1 S1 ds xs l1 rl1 rv1 hl p1 => ⟨by rw [hl]; exact hz, fun a hn => ?_⟩⟩
  exact p1 (ρ1.push a) _ _ (Le.push hn) (rl1.push hn (.lst rv1)) (RV.new rl1)
theorem se_lv {ms : List ME} (h : SA G X W es (aList ms)) (hz : ms.length ≤ sizeLine := by first | decide | (rw [sizeLine_eq]; decide)) : SE G X W (.List es pos) (eLv ms) := by
  refine se_of (pe_lst h) fun σ H Q ρ σs S rl re p => ?_
  refine ⟨ρ, σs, S, rl, re, list_go (σ := σ) p fun ρ1 H1 S1 ds xs l1 rl1 rv1 hl p1 => ⟨by rw [hl]; exact hz, fun a hn => post_new p1 rl1 hn (.lv (rl1.no hn) upd_same (rv1.mono (Le.new hn)))⟩⟩
/-- a built-in function, a built-in class by its name -/
theorem se_callB {x : Str} {id : String} {f : List D → Store → Res D} {p : Pos} {ma : MA} (hc : FnS G X W (.builtin id) f) (hg : Gl X x) (hm : X.mg x = none) (hv : bootBuiltins x = some (.builtin id)) (ha : SA G X W (e :: es) ma) (hn : x ≠ "__name__" := by decide) (hdb : (x == ("__debug__" : Str)) = false := by decide)
    (he : starEach (e :: es) X.env = (false, eval e X.env) :: starEach es X.env := by rfl) (hpl : (backTo pos (starEach es X.env)).any (·.1) = false := by rfl) : SE G X W (.Call (.Name x p) (e :: es) [] pos) (eFn f ma) := by
  refine ⟨fun pins s σ H Q I ⟨ρ, σs, S, rl, re, p⟩ => ?_⟩
  refine wpAny_Call_Name_kw (ld_blt I hg hm hv ?_ hn hdb)
  exact PyProof.Rows.callWith_builtin1 (ha.go I rl re p fun us s1 xs H1 ρ1 S1 ds I1 rx l1 rl1 re1 rv1 p1 => hc pins s1 σ H1 xs us Q ρ1 S1 ds I1 rx rl1 rv1 p1) he hpl
theorem se_callTy {x : Str} {T : String} {f : List D → Store → Res D} {p : Pos} {ma : MA} (hc : FnS G X W (.type T) f) (hg : Gl X x) (hm : X.mg x = none) (hv : bootBuiltins x = some (.type T)) (ha : SA G X W (e :: es) ma) (hn : x ≠ "__name__" := by decide) (hdb : (x == ("__debug__" : Str)) = false := by decide)
    (he : starEach (e :: es) X.env = (false, eval e X.env) :: starEach es X.env := by rfl) (hpl : (backTo pos (starEach es X.env)).any (·.1) = false := by rfl) : SE G X W (.Call (.Name x p) (e :: es) [] pos) (eFn f ma) := by
  refine ⟨fun pins s σ H Q I ⟨ρ, σs, S, rl, re, p⟩ => ?_⟩
  refine wpAny_Call_Name_kw (ld_blt I hg hm hv ?_ hn hdb)
  exact PyProof.Rows.callWith_type1 (ha.go I rl re p fun us s1 xs H1 ρ1 S1 ds I1 rx l1 rl1 re1 rv1 p1 => hc pins s1 σ H1 xs us Q ρ1 S1 ds I1 rx rl1 rv1 p1) he hpl
/-- a < b < c -/
theorem se_chain {op op' : CmpOp} {f g : D → D → Store → Res D} {r r' : R2} (ho : OpR X (compareOp op) r) (ho' : OpR X (compareOp op') r')
    (hf : ∀ ρ S H d1 d2 x y Q E, Rl G ρ S H → RV G ρ H d1 x → RV G ρ H d2 y → Post G ρ H (f d1 d2 S) Q E → r x y H Q) (hg : ∀ ρ S H d1 d2 x y Q E, Rl G ρ S H → RV G ρ H d1 x → RV G ρ H d2 y → Post G ρ H (g d1 d2 S) Q E → r' x y H Q)
    (ha : SE G X W a ma) (hb : SE G X W b mb) (hc : SE G X W c mc) (hm : lastMarks [op, op'] [b, c] = false := by with_unfolding_all rfl) : SE G X W (.Compare a [op, op'] [b, c] pos) (eChain f g ma mb mc) := by
  refine se_of (pe_chain ho ho' ha hb hc hm) fun σ H Q ρ σs S rl re p => ?_
  refine ⟨ρ, σs, S, rl, re, PostR.bind (R := RV G) p fun ρ1 H1 S1 d1 x l1 rl1 rv1 p1 => ?_⟩
  refine ⟨ρ1, σs, S1, rl1, re.mono l1, PostR.bind (R := RV G) p1 fun ρ2 H2 S2 d2 y l2 rl2 rv2 p2 => ?_⟩
  refine hf ρ2 S2 H2 d1 d2 x y _ _ rl2 (rv1.mono l2) rv2 (PostR.bind (R := RV G) p2 fun ρ3 H3 S3 d3 z l3 rl3 rv3 p3 => ?_)
  cases rv3 with
  | bl k =>
    refine ⟨k, rfl, ?_⟩
    cases k with
    | true =>
      show if true = true then _ else _
      rw [if_pos rfl]
      refine ⟨ρ3, σs, S3, rl3, (re.mono l1).mono (l2.trans l3), PostR.bind (R := RV G) p3 fun ρ4 H4 S4 d4 w l4 rl4 rv4 p4 => ?_⟩
      exact hg ρ4 S4 H4 d2 d4 y w _ _ rl4 (rv2.mono (l3.trans l4)) rv4 p4
    | false =>
      show if false = true then _ else _
      rw [if_neg Bool.false_ne_true]
      exact post_ok (S := S3) p3 rl3 (.bl false)
  | _ => exact False.elim p3
end
end L2.Mi

set_option Elab.async false
set_option linter.all false
set_option maxRecDepth 100000
set_option maxHeartbeats 4000000
/-! Mini, 2: statements, targets, loops. -/
namespace L2.Mi
open PySem PySem.Spec PyProof.Rows

section
variable {G : Gx} {X : Cx} {W : WX} {st : Stmt} {sts rest : List Stmt} {a b e : Expr} {ma mb m : ME} {t : MT} {k l : MS} {pos : Pos}
theorem ss_of {tr : TS} (h : PS X st tr) (i : ∀ σ H Dn ρ σs S, Rl G ρ S H → RE G ρ H σs σ → PostS G ρ H (k σs S) Dn W → tr Dn σ H) : SS G X W st k :=
  PS.weak h fun Dn σ H ⟨ρ, σs, S, rl, re, p⟩ => i σ H Dn ρ σs S rl re p
theorem sss_nil : SSs G X W [] sNext := PSs.weak pss_nil fun Dn σ H ⟨ρ, σs, S, rl, re, p⟩ => p ρ H σ Le.refl rl re
theorem sss_cons (h1 : SS G X W st k) (h2 : SSs G X W rest l) : SSs G X W (st :: rest) (sSeq k l) := by
  refine PSs.weak (pss_cons h1 h2) fun Dn σ H ⟨ρ, σs, S, rl, re, p⟩ => ?_
  refine ⟨ρ, σs, S, rl, re, ?_⟩
  unfold sSeq at p
  cases q : k σs S with
  | nx σ1 S1 =>
    rw [q] at p
    exact fun ρ1 H1 σ2 l1 rl1 re1 => ⟨ρ1, σ1, S1, rl1, re1, PostS.le (r := l σ1 S1) p l1⟩
  | rt d S1 => rw [q] at p; exact p
  | bk σ1 S1 => rw [q] at p; exact p
  | ct σ1 S1 => rw [q] at p; exact p
  | exc x σ1 S1 => rw [q] at p; exact p
  | bad => rw [q] at p; exact p
theorem sss_one (h1 : SS G X W st k) : SSs G X W [st] k := pss_one h1
theorem ss_pass : SS G X W (.Pass pos) sNext := ss_of ps_pass fun σ H Dn ρ σs S rl re p => p ρ H σ Le.refl rl re
theorem ss_break : SS G X W (.Break pos) sBreak := ss_of ps_break fun σ H Dn ρ σs S rl re p => p ρ H σ Le.refl rl re
theorem ss_cont : SS G X W (.Continue pos) sCont := ss_of ps_continue fun σ H Dn ρ σs S rl re p => p ρ H σ Le.refl rl re
/-- an expression's run inside a statement -/
theorem do_go {σ : St} {H : Hp} {ρ : Wd} {σs : En} {S : Store} {Dn : Ends} {f : D → Store → RS} (re : RE G ρ H σs σ) (p : PostS G ρ H (match m σs S with | .ok d S1 => f d S1 | .exc x S1 => .exc x σs S1 | .bad => .bad) Dn W) {Q1 : VK}
    (k : ∀ ρ1 H1 S1 d v, Le G ρ H ρ1 H1 → Rl G ρ1 S1 H1 → RV G ρ1 H1 d v → PostS G ρ1 H1 (f d S1) Dn W → Q1 v H1) : Post G ρ H (m σs S) Q1 (EW W σ) := by
  cases q : m σs S with
  | ok d S1 =>
    rw [q] at p
    exact fun ρ1 H1 v l1 rl1 rv1 => k ρ1 H1 S1 d v l1 rl1 rv1 (PostS.le (r := f d S1) p l1)
  | exc x S1 =>
    rw [q] at p
    exact fun ρ1 H1 c dd l1 rl1 rx => p ρ1 H1 σ c dd l1 rl1 (re.mono l1) rx
  | bad => rw [q] at p; exact p
theorem ss_expr (he : SE G X W e m) (hs : swapsWith e none pos.line X.env = pure false := by rfl) : SS G X W (.Expr e pos) (sDrop m) := by
  refine ss_of (ps_expr he hs) fun σ H Dn ρ σs S rl re p => ?_
  exact ⟨ρ, σs, S, rl, re, do_go re p fun ρ1 H1 S1 d v l1 rl1 rv1 p1 => p1 ρ1 H1 σ Le.refl rl1 (re.mono l1)⟩
theorem ss_ret (he : SE G X W e m) : SS G X W (.Return (some e) pos) (sRet m) := by
  refine ss_of (ps_ret he) fun σ H Dn ρ σs S rl re p => ?_
  exact ⟨ρ, σs, S, rl, re, do_go re p fun ρ1 H1 S1 d v l1 rl1 rv1 p1 => p1 ρ1 H1 v Le.refl rl1 rv1⟩
theorem ss_retN : SS G X W (.Return none pos) sRetN := ss_of ps_retN fun σ H Dn ρ σs S rl re p => p ρ H .non Le.refl rl .non
theorem ss_if {c : Expr} {sa sb : List Stmt} (hc : ST G X W c t) (ha : SSs G X W sa k) (hb : SSs G X W sb l) : SS G X W (.If c sa sb pos) (sIf t k l) := by
  refine ss_of (ps_if hc ha hb) fun σ H Dn ρ σs S rl re p => ?_
  refine ⟨ρ, σs, S, rl, re, ?_⟩
  unfold sIf at p
  cases q : t σs S with
  | ok c1 S1 =>
    rw [q] at p
    intro ρ1 H1 b l1 rl1 e
    subst e
    cases c1 with
    | true => exact ⟨ρ1, σs, S1, rl1, re.mono l1, PostS.le (r := k σs S1) p l1⟩
    | false => exact ⟨ρ1, σs, S1, rl1, re.mono l1, PostS.le (r := l σs S1) p l1⟩
  | exc x S1 =>
    rw [q] at p
    exact fun ρ1 H1 c dd l1 rl1 rx => p ρ1 H1 σ c dd l1 rl1 (re.mono l1) rx
  | bad => rw [q] at p; exact p

/-! ### targets -/
def PostG (G : Gx) (ρ : Wd) (H : Hp) (r : Res En) (Q : St → Hp → Prop) : Prop := match r with
  | .ok σs S => ∀ ρ' H' σ', Le G ρ H ρ' H' → Rl G ρ' S H' → RE G ρ' H' σs σ' → Q σ' H'
  | _ => False
def tmg (G : Gx) (g : MG) : TG := fun v σ H Q => ∃ ρ σs S d, Rl G ρ S H ∧ RE G ρ H σs σ ∧ RV G ρ H d v ∧ PostG G ρ H (g d σs S) Q
def tmgs (G : Gx) (gs : List MG) : TGs := fun vs σ H Q => ∃ ρ σs S ds, Rl G ρ S H ∧ RE G ρ H σs σ ∧ RVs G ρ H ds vs ∧ PostG G ρ H (gAll gs ds σs S) Q
abbrev SG (G : Gx) (X : Cx) (e : Expr) (g : MG) : Prop := PG X e (tmg G g)
abbrev SGs (G : Gx) (X : Cx) (es : List Expr) (gs : List MG) : Prop := PGs X es (tmgs G gs)
theorem PostG.le {ρ ρ' : Wd} {H H' : Hp} {r : Res En} {Q : St → Hp → Prop} (p : PostG G ρ H r Q) (l : Le G ρ H ρ' H') : PostG G ρ' H' r Q := by
  cases r with
  | ok d S => exact fun ρ2 H2 v l2 rl h => p ρ2 H2 v (l.trans l2) rl h
  | exc x S => exact p
  | bad => exact p
theorem PG.weak {e : Expr} {t t' : TG} (h : PG X e t) (i : ∀ v σ H Q, t' v σ H Q → t v σ H Q) : PG X e t' := ⟨fun pins s σ H v u Q I r q => h.run pins s σ H v u Q I r (i _ _ _ _ q)⟩
theorem PGs.weak {es : List Expr} {t t' : TGs} (h : PGs X es t) (i : ∀ v σ H Q, t' v σ H Q → t v σ H Q) : PGs X es t' := ⟨fun pins s σ H v u Q I r q => h.run pins s σ H v u Q I r (i _ _ _ _ q)⟩
theorem sg_name {i : Nat} {x : Str} (hN : X.N.Nodup) (hi : X.N[i]? = some x) (hx : Loc X.env.scope x) (hf : X.fn x = true ∨ X.env.scope.names.lookup x = some .local := by first | exact .inl rfl | exact .inr rfl | assumption) : SG G X (.Name x pos) (gName i) :=
  PG.weak (pg_name hN hi hx hf) fun v σ H Q ⟨ρ, σs, S, d, rl, re, rv, p⟩ => p ρ H _ Le.refl rl (re.set i rv)
theorem sgs_nil : SGs G X [] [] := PGs.weak pgs_nil fun vs σ H Q ⟨ρ, σs, S, ds, rl, re, rv, p⟩ => by
  cases rv with
  | nil => exact ⟨rfl, p ρ H σ Le.refl rl re⟩
  | cons _ _ => exact False.elim p
theorem sgs_cons {es : List Expr} {g : MG} {gs : List MG} (h1 : SG G X e g) (h2 : SGs G X es gs) (hs : (assignEach (e :: es) X.env).map (·.2) = assign e X.env :: (assignEach es X.env).map (·.2) := by rfl) : SGs G X (e :: es) (g :: gs) := by
  refine PGs.weak (pgs_cons h1 h2 hs) fun vs σ H Q ⟨ρ, σs, S, ds, rl, re, rv, p⟩ => ?_
  cases rv with
  | nil => exact False.elim p
  | @cons d ds v vs r1 r2 =>
    refine ⟨v, vs, rfl, ρ, σs, S, d, rl, re, r1, ?_⟩
    have p' : PostG G ρ H ((g d σs S).bind fun σ1 S1 => gAll gs ds σ1 S1) Q := p
    cases q : g d σs S with
    | ok σ1 S1 =>
      rw [q] at p'
      exact fun ρ1 H1 σ2 l1 rl1 re1 => ⟨ρ1, σ1, S1, ds, rl1, re1, r2.mono l1, PostG.le (r := gAll gs ds σ1 S1) p' l1⟩
    | exc x S1 => rw [q] at p'; exact p'
    | bad => rw [q] at p'; exact p'
theorem gAll_len : ∀ {gs : List MG} {ds : List D} {σs σ' : En} {S S' : Store}, gAll gs ds σs S = .ok σ' S' → ds.length = gs.length
  | [], [], _, _, _, _, _ => rfl
  | [], _ :: _, _, _, _, _, h => by cases h
  | _ :: _, [], _, _, _, _, h => by cases h
  | g :: gs, d :: ds, σs, σ', S, S', h => by
    have h' : ((g d σs S).bind fun σ1 S1 => gAll gs ds σ1 S1) = .ok σ' S' := h
    cases q : g d σs S with
    | ok σ1 S1 => rw [q] at h'; simp [gAll_len h']
    | exc x S1 => rw [q] at h'; cases h'
    | bad => rw [q] at h'; cases h'
theorem sg_tup {es : List Expr} {j : Nat} {gs : List MG} (c : Cc G X W) (h : SGs G X es gs) (hn : (assignEach es X.env).length = gs.length := by rfl) (hst : (assignEach es X.env).findIdx? (·.1) = none := by rfl) : SG G X (.Tuple es j pos) (gTup gs) := by
  refine PG.weak (pg_tup (n := gs.length) c.calm h hn hst) fun v σ H Q ⟨ρ, σs, S, d, rl, re, rv, p⟩ => ?_
  cases rv with
  | @tup ds a xs ht hr =>
    have p' : PostG G ρ H (gAll gs ds σs S) Q := p
    refine ⟨a, xs, rfl, SqT.of ht, ?_, ρ, σs, S, ds, rl, re, hr, p'⟩
    cases q : gAll gs ds σs S with
    | ok σ1 S1 => rw [← hr.length]; exact gAll_len q
    | exc x S1 => rw [q] at p'; exact p'.elim
    | bad => rw [q] at p'; exact p'.elim
  | _ => exact False.elim p
/-- o[i] = v -/
def StS (G : Gx) (X : Cx) (f : D → D → D → Store → Option Store) : Prop :=
  ∀ (pins : List (Addr × Obj)) (s : Shared) (σ : St) (H : Hp) (x y z : V) (v u w : Value) (Q : Hp → Prop) (ρ : Wd) (S S' : Store) (d1 d2 d3 : D), Inv X pins σ H s → RelV x v → RelV y u → RelV z w → Rl G ρ S H → RV G ρ H d1 x → RV G ρ H d2 y → RV G ρ H d3 z →
    f d1 d2 d3 S = some S' → (∀ ρ' H', Le G ρ H ρ' H' → Rl G ρ' S' H' → Q H') → wpAny (model X.prog X.w) X.A (setItem v u w) (fun _ s' => ∃ H', Inv X pins σ H' s' ∧ Q H') X.xe s
def gSub (mo mi : ME) (f : D → D → D → Store → Option Store) : MG := fun d σ S => match (mo σ S).bind fun o S1 => (mi σ S1).bind fun i S2 => (match f o i d S2 with | some S3 => Res.ok () S3 | none => .bad) with
  | .ok _ S3 => .ok σ S3
  | _ => .bad
theorem sg_sub {o i : Expr} {mo mi : ME} {f : D → D → D → Store → Option Store} (ho : SE G X W o mo) (hi : SE G X W i mi) (hs : StS G X f)
    (ha : ∀ v, assign (.Subscript o i pos) X.env v = (do
      let ov ← holding [v] (eval o X.env)
      let iv ← holding [v, ov] (eval i X.env)
      standAt pos
      holding [v, ov, iv] (setItem ov iv v)
      release [v, ov, iv] []) := by intro _; rfl) : SG G X (.Subscript o i pos) (gSub mo mi f) := by
  refine ⟨fun pins s σ H v u Q I r ⟨ρ, σs, S, d, rl, re, rv, p⟩ => ?_⟩
  rw [ha]
  have p0 : PostR (α := Unit) (β := Unit) G (fun _ _ _ _ => True) ρ H ((mo σs S).bind fun o S1 => (mi σs S1).bind fun i S2 => (match f o i d S2 with | some S3 => Res.ok () S3 | none => .bad)) (fun _ H' => Q σ H') (EW W σ) := by
    unfold gSub at p
    cases q : ((mo σs S).bind fun o S1 => (mi σs S1).bind fun i S2 => (match f o i d S2 with | some S3 => Res.ok () S3 | none => .bad)) with
    | ok x S3 => rw [q] at p; exact fun ρ1 H1 _ l1 rl1 _ => p ρ1 H1 σ l1 rl1 (re.mono l1)
    | exc x S3 => rw [q] at p; exact p.elim
    | bad => rw [q] at p; exact p.elim
  refine wpAny_bind (wpAny_holding (ho.go I rl re p0 fun ov s1 x H1 ρ1 S1 d1 I1 r1 l1 rl1 re1 rv1 p1 => ?_))
  refine wpAny_bind (wpAny_holding (hi.go I1 rl1 re1 p1 fun iv s2 y H2 ρ2 S2 d2 I2 r2 l2 rl2 re2 rv2 p2 => ?_))
  cases q : f d1 d2 d S2 with
  | none => rw [q] at p2; exact False.elim p2
  | some S3 =>
    rw [q] at p2
    refine wpAny_bind (wpAny_standAt (wpAny_bind (wpAny_holding (thn (hs pins s2 σ H2 x y v ov iv u (fun H3 => Q σ H3) ρ2 S2 S3 d1 d2 d I2 r1 r2 r rl2 (rv1.mono l2) rv2 (rv.mono (l1.trans l2)) q (fun ρ3 H3 l3 rl3 => p2 ρ3 H3 () l3 rl3 trivial)) fun _ s3 ⟨H3, I3, q3⟩ => ?_))))
    exact wpAny_release ⟨σ, H3, I3, q3⟩
/-- target = value -/
theorem asg_go {g : MG} {σ : St} {H : Hp} {ρ : Wd} {σs : En} {S : Store} {Dn : Ends} (rl : Rl G ρ S H) (re : RE G ρ H σs σ) (p : PostS G ρ H (sAsg m g σs S) Dn W) : tm G W m σ H fun x H1 => tmg G g x σ H1 Dn.nx := by
  refine ⟨ρ, σs, S, rl, re, do_go (f := fun d S1 => match g d σs S1 with | .ok σ2 S2 => .nx σ2 S2 | _ => .bad) re p fun ρ1 H1 S1 d v l1 rl1 rv1 p1 => ⟨ρ1, σs, S1, d, rl1, re.mono l1, rv1, ?_⟩⟩
  cases q : g d σs S1 with
  | ok σ2 S2 => simp only [q] at p1; exact p1
  | exc x S2 => simp only [q] at p1; exact p1
  | bad => simp only [q] at p1; exact p1
theorem ss_asg {tg : Expr} {g : MG} (he : SE G X W e m) (hg : SG G X tg g) (hs : swapsWithSole [tg] e pos.line X.env = pure false := by rfl) (hw : swappedStores [tg] e X.env = pure none := by rfl)
    (h1 : (assignEach [tg] X.env).map (·.2) = [assign tg X.env] := by rfl) : SS G X W (.Assign [tg] e pos) (sAsg m g) :=
  ss_of (ps_asg he hg hs hw h1) fun σ H Dn ρ σs S rl re p => asg_go rl re p
theorem ss_set {i : Nat} {x : Str} {pos' : Pos} (hN : X.N.Nodup) (hi : X.N[i]? = some x) (hx : Loc X.env.scope x) (he : SE G X W e m) (hs : swapsWith e (some (.Name x pos')) pos.line X.env = pure false := by rfl) (hf : X.fn x = true ∨ X.env.scope.names.lookup x = some .local := by first | exact .inl rfl | exact .inr rfl | assumption) :
    SS G X W (.Assign [.Name x pos'] e pos) (sSet i m) := by
  refine ss_of (ps_set hN hi hx he hs hf) fun σ H Dn ρ σs S rl re p => ?_
  refine ⟨ρ, σs, S, rl, re, do_go re p fun ρ1 H1 S1 d v l1 rl1 rv1 p1 => p1 ρ1 H1 _ Le.refl rl1 ((re.mono l1).set i rv1)⟩
/-- a, b = x, y -/
def sPar (i j : Nat) (a b : ME) : MS := fun σ S => match aList [a, b] σ S with
  | .ok [x, y] S1 => .nx ((σ.set i (some x)).set j (some y)) S1
  | .exc x S1 => .exc x σ S1
  | _ => .bad
theorem ss_par {i j : Nat} {x y : Str} {px py pt : Pos} {kt k2 pt2} (hc : X.calm = true) (hN : X.N.Nodup) (hi : X.N[i]? = some x) (hj : X.N[j]? = some y) (hij : i ≠ j)
    (hx : X.env.scope.names.lookup x = some .local) (hy : X.env.scope.names.lookup y = some .local) (ha : SA G X W [a, b] (aList [ma, mb])) (hs : swappedStores [.Tuple [.Name x px, .Name y py] kt pt] (.Tuple [a, b] k2 pt2) X.env = pure (some [x, y]) := by rfl) :
    SS G X W (.Assign [.Tuple [.Name x px, .Name y py] kt pt] (.Tuple [a, b] k2 pt2) pos) (sPar i j ma mb) := by
  refine ss_of (ps_par hc hN hi hj hij hx hy ha hs) fun σ H Dn ρ σs S rl re p => ?_
  refine ⟨ρ, σs, S, rl, re, ?_⟩
  unfold sPar at p
  cases q : aList [ma, mb] σs S with
  | ok ds S1 =>
    rw [q] at p
    have hl : ds.length = 2 := aList_len q
    match ds, hl, p with
    | [d1, d2], _, p =>
      intro ρ1 H1 vs l1 rl1 rv1
      cases rv1 with
      | cons r1 r2 =>
        cases r2 with
        | cons r2 r3 =>
          cases r3
          exact ⟨_, _, rfl, p ρ1 H1 _ l1 rl1 (((re.mono l1).set i r1).set j r2)⟩
  | exc x S1 =>
    rw [q] at p
    exact fun ρ1 H1 c dd l1 rl1 rx => p ρ1 H1 σ c dd l1 rl1 (re.mono l1) rx
  | bad => rw [q] at p; exact p
/-- x op= e -/
theorem ss_aug {i : Nat} {x : Str} {op : Operator} {f : D → D → Store → Res D} {pos' : Pos} {r : TIp} (hN : X.N.Nodup) (hi : X.N[i]? = some x) (hx : Loc X.env.scope x) (he : SE G X W e m) (ho : PIp X op r)
    (h : ∀ ρ S H d1 d2 x y Q E, Rl G ρ S H → RV G ρ H d1 x → RV G ρ H d2 y → Post G ρ H (f d1 d2 S) Q E → r x y H Q) (hf : X.fn x = true ∨ X.env.scope.names.lookup x = some .local := by first | exact .inl rfl | exact .inr rfl | assumption) :
    SS G X W (.AugAssign (.Name x pos') op e pos) (sAug i f m) := by
  refine ss_of (ps_aug hN hi hx he ho hf) fun σ H Dn ρ σs S rl re p => ?_
  unfold sAug at p
  cases q : σs[i]? with
  | none => rw [q] at p; exact p.elim
  | some o =>
    cases o with
    | none => rw [q] at p; exact p.elim
    | some d =>
      obtain ⟨v, h1, h2⟩ := re.get i d q
      refine ⟨v, h1, ρ, σs, S, rl, re, ?_⟩
      rw [q] at p
      cases q1 : m σs S with
      | ok d1 S1 =>
        intro ρ1 H1 y l1 rl1 rv1
        simp only [q1, Res.bind_ok] at p
        refine h ρ1 S1 H1 d d1 v y _ (EW W σ) rl1 (h2.mono l1) rv1 ?_
        cases q2 : f d d1 S1 with
        | ok d2 S2 =>
          simp only [q2] at p
          exact fun ρ2 H2 z l2 rl2 rv2 => p ρ2 H2 _ (l1.trans l2) rl2 (((re.mono l1).mono l2).set i rv2)
        | exc z S2 =>
          simp only [q2] at p
          exact fun ρ2 H2 c dd l2 rl2 rx => p ρ2 H2 σ c dd (l1.trans l2) rl2 ((re.mono l1).mono l2) rx
        | bad => simp only [q2] at p; exact p
      | exc z S1 =>
        simp only [q1, Res.bind_exc] at p
        exact fun ρ1 H1 c dd l1 rl1 rx => p ρ1 H1 σ c dd l1 rl1 (re.mono l1) rx
      | bad => simp only [q1, Res.bind_bad] at p; exact p
/-! ### loops -/
theorem ss_while {c : Expr} {body : List Stmt} (n : Nat) (cc : Cc G X W) (hc : ST G X W c t) (hb : SSs G X W body k) : SS G X W (.While c body [] pos) (sWhile t k n) := by
  refine ss_of (ps_while cc.hp hc hb) fun σ H Dn ρ σs S rl re p => ?_
  refine ⟨fun m σ H => ∃ ρ σs S, Rl G ρ S H ∧ RE G ρ H σs σ ∧ PostS G ρ H (sWhile t k m σs S) Dn W, ⟨n, ρ, σs, S, rl, re, p⟩, ?_⟩
  rintro m σ H ⟨ρ, σs, S, rl, re, p⟩
  cases m with
  | zero => exact p.elim
  | succ m =>
    refine ⟨ρ, σs, S, rl, re, ?_⟩
    unfold sWhile at p
    cases q : t σs S with
    | exc x S1 =>
      simp only [q] at p
      exact fun ρ1 H1 c dd l1 rl1 rx => p ρ1 H1 σ c dd l1 rl1 (re.mono l1) rx
    | bad => simp only [q] at p; exact p
    | ok c1 S1 =>
      intro ρ1 H1 b l1 rl1 e
      subst e
      cases c1 with
      | false =>
        simp only [q] at p
        show if false = true then _ else _
        rw [if_neg Bool.false_ne_true]
        exact p ρ1 H1 σ l1 rl1 (re.mono l1)
      | true =>
        simp only [q] at p
        show if true = true then _ else _
        rw [if_pos rfl]
        refine ⟨fun σ' H' => ∃ ρ σs S, Rl G ρ S H' ∧ RE G ρ H' σs σ' ∧ PostS G ρ H' (sWhile t k m σs S) Dn W, fun σ' H' w => ⟨m, Nat.lt_succ_self m, w⟩, ρ1, σs, S1, rl1, re.mono l1, ?_⟩
        cases q2 : k σs S1 with
        | nx σ2 S2 => simp only [q2] at p; exact fun ρ2 H2 σ' l2 rl2 re2 => ⟨ρ2, σ2, S2, rl2, re2, PostS.le p (l1.trans l2)⟩
        | ct σ2 S2 => simp only [q2] at p; exact fun ρ2 H2 σ' l2 rl2 re2 => ⟨ρ2, σ2, S2, rl2, re2, PostS.le p (l1.trans l2)⟩
        | bk σ2 S2 => simp only [q2] at p; exact fun ρ2 H2 σ' l2 rl2 re2 => p ρ2 H2 σ' (l1.trans l2) rl2 re2
        | rt d S2 => simp only [q2] at p; exact fun ρ2 H2 v l2 rl2 re2 => p ρ2 H2 v (l1.trans l2) rl2 re2
        | exc x σ2 S2 => simp only [q2] at p; exact fun ρ2 H2 σ' c dd l2 rl2 re2 rx => p ρ2 H2 σ' c dd (l1.trans l2) rl2 re2 rx
        | bad => simp only [q2] at p; exact p
/-- what is locked stays -/
def Fz (H H' : Hp) : Prop := ∀ a o u, H a = some (.frz o u) → H' a = some (.frz o u)
/-- an iterator of HandS and a source -/
def JR (G : Gx) (ρ0 : Wd) (H0 : Hp) (src : Src) (J : It) : Prop := ∀ ρ S H, Mv G ρ0 H0 ρ H → Fz H0 H → Rl G ρ S H → ∀ i,
  (∀ d, src i S = some (some d) → J.go i H ∧ ∀ x H', J.yld i H x H' → Le G ρ H ρ H' ∧ Rl G ρ S H' ∧ RV G ρ H' d x) ∧ (src i S = some none → J.stop i H)
abbrev PostI (G : Gx) := PostR (α := Src) (β := It) G (JR G)
def tmi (G : Gx) (W : WX) (m : MI) : TI := fun σ H R => ∃ ρ σs S, Rl G ρ S H ∧ RE G ρ H σs σ ∧ PostI G ρ H (m σs S) R (fun c d H' => W c d σ H')
abbrev SI (G : Gx) (X : Cx) (W : WX) (tg iter : Expr) (m : MI) : Prop := PI X tg iter (tmi G W m)
theorem JR.le {ρ0 ρ1 : Wd} {H0 H1 : Hp} {src : Src} {J : It} (h : JR G ρ0 H0 src J) (l : Le G ρ0 H0 ρ1 H1) : JR G ρ1 H1 src J := fun ρ S H l' kz rl i => h ρ S H (l.mv.trans l') (fun a o u q => kz a o u (l.kz a o u q)) rl i
theorem PI.weak {tg iter : Expr} {w w' : TI} (h : PI X tg iter w) (i : ∀ σ H R, w' σ H R → w σ H R) : PI X tg iter w' := ⟨fun pins s σ H R I q => h.run pins s σ H R I (i _ _ _ q)⟩
theorem ss_for {tg iter : Expr} {body : List Stmt} {mi : MI} {g : MG} (n : Nat) (cc : Cc G X W) (hi : SI G X W tg iter mi) (hg : SG G X tg g) (hb : SSs G X W body k) (hs : ∀ x, foldedSetIterable iter X.env x = pure x := by intro _; rfl) :
    SS G X W (.For tg iter body [] pos) (sFor mi g k n) := by
  refine ss_of (ps_for cc.hp cc.calm hi hg hb hs) fun σ H Dn ρ σs S rl re p => ?_
  refine ⟨ρ, σs, S, rl, re, ?_⟩
  unfold sFor at p
  cases q : mi σs S with
  | exc x S1 =>
    simp only [q] at p
    exact fun ρ1 H1 c dd l1 rl1 rx => p ρ1 H1 σ c dd l1 rl1 (re.mono l1) rx
  | bad => simp only [q] at p; exact p
  | ok src S1 =>
    simp only [q] at p
    intro ρ1 H1 J l1 rl1 jr
    refine ⟨fun i m σ H => ∃ ρ σs S, Le G ρ1 H1 ρ H ∧ Rl G ρ S H ∧ RE G ρ H σs σ ∧ PostS G ρ H (forGo src g k m i σs S) Dn W, ⟨n, ρ1, σs, S1, Le.refl, rl1, re.mono l1, PostS.le p l1⟩, ?_⟩
    rintro i m σ H ⟨ρ, σs, S, l0, rl, re, p⟩
    cases m with
    | zero => exact p.elim
    | succ m =>
      unfold forGo at p
      obtain ⟨j1, j2⟩ := jr ρ S H l0.mv l0.kz rl i
      cases q : src i S with
      | none => simp only [q] at p; exact p.elim
      | some o =>
        cases o with
        | none => simp only [q] at p; exact .inl ⟨j2 q, p ρ H σ Le.refl rl re⟩
        | some d =>
          simp only [q] at p
          obtain ⟨go, yl⟩ := j1 d q
          refine .inr ⟨go, fun σ' H' => ∃ ρ σs S, Le G ρ1 H1 ρ H' ∧ Rl G ρ S H' ∧ RE G ρ H' σs σ' ∧ PostS G ρ H' (forGo src g k m (i + 1) σs S) Dn W, fun σ' H' w => ⟨m, Nat.lt_succ_self m, w⟩, fun x H' y => ?_⟩
          obtain ⟨l2, rl2, rv2⟩ := yl x H' y
          refine ⟨ρ, σs, S, d, rl2, re.mono l2, rv2, ?_⟩
          cases q1 : g d σs S with
          | exc x S2 => simp only [q1] at p; exact p
          | bad => simp only [q1] at p; exact p
          | ok σ2 S2 =>
            simp only [q1] at p
            intro ρ3 H3 σ3 l3 rl3 re3
            refine ⟨ρ3, σ2, S2, rl3, re3, ?_⟩
            have l03 : Le G ρ H ρ3 H3 := l2.trans l3
            cases q2 : k σ2 S2 with
            | nx σ4 S4 => simp only [q2] at p; exact fun ρ4 H4 σ' l4 rl4 re4 => ⟨ρ4, σ4, S4, l0.trans (l03.trans l4), rl4, re4, PostS.le p (l03.trans l4)⟩
            | ct σ4 S4 => simp only [q2] at p; exact fun ρ4 H4 σ' l4 rl4 re4 => ⟨ρ4, σ4, S4, l0.trans (l03.trans l4), rl4, re4, PostS.le p (l03.trans l4)⟩
            | bk σ4 S4 => simp only [q2] at p; exact fun ρ4 H4 σ' l4 rl4 re4 => p ρ4 H4 σ' (l03.trans l4) rl4 re4
            | rt d S4 => simp only [q2] at p; exact fun ρ4 H4 v l4 rl4 re4 => p ρ4 H4 v (l03.trans l4) rl4 re4
            | exc x σ4 S4 => simp only [q2] at p; exact fun ρ4 H4 σ' c dd l4 rl4 re4 rx => p ρ4 H4 σ' c dd (l03.trans l4) rl4 re4 rx
            | bad => simp only [q2] at p; exact p
end
end L2.Mi

set_option Elab.async false
set_option linter.all false
set_option maxRecDepth 100000
set_option maxHeartbeats 4000000
/-! Mini, 3: operations on values: ints, tuples, lists, equality. -/
namespace L2.Mi
open PySem PySem.Spec PyProof.Rows

abbrev lim : Nat := 1000000
theorem lim_le {n : Nat} (h : n ≤ lim) : n ≤ sizeLine := by rw [sizeLine_eq]; unfold lim at h; omega
theorem lim_lt {n : Nat} (h : n < lim) : n < sizeLine := by rw [sizeLine_eq]; unfold lim at h; omega

/-! ### reading sequences -/
def tupD : D → Option (List D)
  | .tup ds => some ds
  | .kt ds => some ds
  | _ => none
section
variable {G : Gx} {X : Cx} {W : WX} {ρ : Wd} {S : Store} {H : Hp} {d : D} {x : V} {ds : List D}
theorem sqT_written {K : PySem.W.Frag} {a : Addr} {xs : List V} (h : SqT K (fun _ => none) a xs) : SqT K H a xs := by
  rcases h with (h | ⟨o, h⟩) | h
  · cases h
  · cases h
  · exact .inr h
theorem tupD_rel (rv : RV G ρ H d x) (h : tupD d = some ds) : ∃ a xs, x = .ref a ∧ SqT G.K H a xs ∧ RVs G ρ H ds xs := by
  cases rv with
  | tup ht hr => cases h; exact ⟨_, _, rfl, SqT.of ht, hr⟩
  | kt ht hr => cases h; exact ⟨_, _, rfl, sqT_written ht, hr⟩
  | _ => cases h
theorem listAt_rel (rl : Rl G ρ S H) (rv : RV G ρ H d x) (h : listAt S d = some ds) : ∃ a xs, x = .ref a ∧ SqL G.K H a xs ∧ RVs G ρ H ds xs := by
  cases rv with
  | lv n ht hr => cases h; exact ⟨_, _, rfl, SqL.of ht, hr⟩
  | fl ht hr => cases h; exact ⟨_, _, rfl, ht.sq, hr⟩
  | @ref i a hi =>
    unfold listAt at h
    cases q : S.get i with
    | none => simp only [q] at h; cases h
    | some o =>
      obtain ⟨u, hu, ro⟩ := rl.at hi q
      cases ro with
      | lst r => simp only [q] at h; cases h; exact ⟨a, _, rfl, SqL.of hu, r⟩
      | lck r =>
        cases r with
        | lst r => simp only [q] at h; cases h; exact ⟨a, _, rfl, .inl (.inr ⟨_, hu⟩), r⟩
        | _ => simp only [q] at h; cases h
      | _ => simp only [q] at h; cases h
  | _ => cases h
theorem RVs.atI {ds : List D} {xs : List V} {i : Int} {d : D} (r : RVs G ρ H ds xs) (h : L2.atI ds i = some d) : ∃ v, L2.atI xs i = some v ∧ RV G ρ H d v := by
  unfold L2.atI at h ⊢
  rw [← r.length]
  cases q : ixN ds.length i with
  | none => rw [q] at h; cases h
  | some j =>
    rw [q] at h
    exact RVs.get r h
end

/-! ### ints -/
def intOp (c : Int → Int → Bool) (g : Int → Int → D) : D → D → Store → Res D := fun x y S => match x, y with
  | .int i, .int j => if c i j then .ok (g i j) S else .bad
  | _, _ => .bad
def mulOk (i j : Int) : Bool := (decide (-(2 ^ 64) < i) && decide (i < 2 ^ 64)) || (decide (-(2 ^ 64) < j) && decide (j < 2 ^ 64)) || decide (i.natAbs.log2 + j.natAbs.log2 < 1000000)
def divOk (j : Int) : Bool := decide (0 < j) && decide (j.natAbs.log2 < 9000)
def powOk (i j : Int) : Bool := decide (0 ≤ j) && decide (j ≤ 1000000) && decide (i.natAbs < 2 ^ 64)
section
variable {G : Gx} {X : Cx} {W : WX}
theorem intOp_go {c : Int → Int → Bool} {g : Int → Int → D} {ρ : Wd} {S : Store} {H : Hp} {d1 d2 : D} {x y : V} {Q : VK} {E : XK} (r1 : RV G ρ H d1 x) (r2 : RV G ρ H d2 y) (p : Post G ρ H (intOp c g d1 d2 S) Q E) :
    ∃ i j, x = .int i ∧ y = .int j ∧ c i j = true ∧ Post G ρ H (.ok (g i j) S) Q E := by
  cases r1 with
  | int i =>
    cases r2 with
    | int j =>
      unfold intOp at p
      by_cases h : c i j = true
      · simp only [h, if_true] at p
        exact ⟨i, j, rfl, rfl, h, p⟩
      · simp only [h] at p
        exact False.elim p
    | _ => exact False.elim p
  | _ => exact False.elim p
theorem ops_int {F : Value → Value → Sem Value} {c : Int → Int → Bool} {C : Int → Int → Prop} {g : Int → Int → Int} (ho : OpR X F (rI C fun i j => .int (g i j))) (hc : ∀ i j, c i j = true → C i j) : OpS G X W F (intOp c fun i j => .int (g i j)) :=
  OpS.of ho fun ρ S H d1 d2 x y Q E rl r1 r2 p => by
    obtain ⟨i, j, h1, h2, h3, p⟩ := intOp_go r1 r2 p
    exact ⟨i, j, h1, h2, hc i j h3, post_ok p rl (.int _)⟩
theorem ops_int0 {F : Value → Value → Sem Value} {g : Int → Int → Int} (ho : OpR X F (rI0 fun i j => .int (g i j))) : OpS G X W F (intOp (fun _ _ => true) fun i j => .int (g i j)) :=
  OpS.of ho fun ρ S H d1 d2 x y Q E rl r1 r2 p => by
    obtain ⟨i, j, h1, h2, h3, p⟩ := intOp_go r1 r2 p
    exact ⟨i, j, h1, h2, post_ok p rl (.int _)⟩
theorem ops_cmp0 {F : Value → Value → Sem Value} {g : Int → Int → Bool} (ho : OpR X F (rI0 fun i j => .bl (g i j))) : OpS G X W F (intOp (fun _ _ => true) fun i j => .bl (g i j)) :=
  OpS.of ho fun ρ S H d1 d2 x y Q E rl r1 r2 p => by
    obtain ⟨i, j, h1, h2, h3, p⟩ := intOp_go r1 r2 p
    exact ⟨i, j, h1, h2, post_ok p rl (.bl _)⟩
end
/-- the operations of ints -/
def mulI : D → D → Store → Res D := intOp mulOk fun i j => .int (i * j)
def divI : D → D → Store → Res D := intOp (fun _ j => divOk j) fun i j => .int (i / j)
def modI : D → D → Store → Res D := intOp (fun _ j => decide (0 < j)) fun i j => .int (i % j)
def powI : D → D → Store → Res D := intOp powOk fun i j => .int (i ^ j.toNat)
def ltI : D → D → Store → Res D := intOp (fun _ _ => true) fun i j => .bl (decide (i < j))
def leI : D → D → Store → Res D := intOp (fun _ _ => true) fun i j => .bl (decide (i ≤ j))
def gtI : D → D → Store → Res D := intOp (fun _ _ => true) fun i j => .bl (decide (j < i))
def geI : D → D → Store → Res D := intOp (fun _ _ => true) fun i j => .bl (decide (j ≤ i))
def noOwn : D → D → Store → Res D := fun _ _ _ => .bad
/-- a + b -/
def addF (own : D → D → Store → Res D) : D → D → Store → Res D := fun x y S => match x, y with
  | .int i, .int j => .ok (.int (i + j)) S
  | .str a, .str b => if a.length + b.length ≤ lim then .ok (.str (a ++ b)) S else .bad
  | .tup a, .tup b => if a.length + b.length ≤ lim then .ok (.tup (a ++ b)) S else .bad
  | .lv a, .lv b => if a.length + b.length ≤ lim then .ok (.lv (a ++ b)) S else .bad
  | .ref a, _ => own (.ref a) y S
  | _, _ => .bad
def subF (own : D → D → Store → Res D) : D → D → Store → Res D := fun x y S => match x, y with
  | .int i, .int j => .ok (.int (i - j)) S
  | .ref a, _ => own (.ref a) y S
  | _, _ => .bad
/-- a * b -/
def mulF (own : D → D → Store → Res D) : D → D → Store → Res D := fun x y S => match x, y with
  | .int i, .int j => if mulOk i j then .ok (.int (i * j)) S else .bad
  | .lv a, .int k => if decide (0 ≤ k) && decide (k ≤ 1000) && decide (a.length ≤ 1000) then .ok (.lv (List.replicate k.toNat a).flatten) S else .bad
  | .ref a, _ => own (.ref a) y S
  | _, _ => .bad
section
variable {G : Gx} {X : Cx} {W : WX}
theorem noOwn_ok {F : Value → Value → Sem Value} : OpS G X W F noOwn := fun _ _ _ _ _ _ _ _ _ _ _ _ _ _ _ _ _ _ _ p => p.elim
theorem ops_mod : OpS G X W (binaryOp .Mod) modI := ops_int op_mod fun i j h => by simpa using h
theorem ops_div : OpS G X W (binaryOp .FloorDiv) divI := ops_int op_fdivW fun i j h => by
  unfold divOk at h
  simp only [Bool.and_eq_true, decide_eq_true_eq] at h
  exact h
theorem ops_pow : OpS G X W (binaryOp .Pow) powI := ops_int op_pow fun i j h => by
  unfold powOk at h
  simp only [Bool.and_eq_true, decide_eq_true_eq] at h
  exact ⟨h.1.1, h.1.2, h.2⟩
theorem ops_lt : OpS G X W (compareOp .Lt) ltI := ops_cmp0 op_lt
theorem ops_le : OpS G X W (compareOp .LtE) leI := ops_cmp0 op_le
theorem ops_gt : OpS G X W (compareOp .Gt) gtI := ops_cmp0 op_gt
theorem ops_ge : OpS G X W (compareOp .GtE) geI := ops_cmp0 op_ge
theorem str_append (a b : List Nat) : (⟨a.toArray⟩ : Str) ++ ⟨b.toArray⟩ = ⟨(a ++ b).toArray⟩ := by
  show Str.mk (a.toArray ++ b.toArray) = _
  simp
theorem str_len (a : List Nat) : (⟨a.toArray⟩ : Str).length = a.length := by
  show a.toArray.size = _
  simp
theorem ops_add {own : D → D → Store → Res D} (cc : Cc G X W) (ho : OpS G X W (binaryOp .Add) own) : OpS G X W (binaryOp .Add) (addF own) := by
  intro pins s σ H x y v u Q ρ S d1 d2 I rx ry rl r1 r2 p
  cases r1 with
  | int i =>
    cases r2 with
    | int j => exact op_add pins s σ H _ _ v u Q I rx ry ⟨i, j, rfl, rfl, post_ok p rl (.int _)⟩
    | _ => exact p.elim
  | str a =>
    cases r2 with
    | str b =>
      unfold addF at p
      by_cases hl : a.length + b.length ≤ lim
      · simp only [hl, if_true] at p
        refine op_add_str pins s σ H _ _ v u Q I rx ry ⟨_, _, rfl, rfl, by rw [str_len, str_len]; exact lim_le hl, ?_⟩
        rw [str_append]
        exact post_ok p rl (.str _)
      · simp only [hl, if_false] at p
        exact p.elim
    | _ => exact p.elim
  | @tup as a xs ha hr =>
    cases r2 with
    | @tup bs b ys hb hs =>
      unfold addF at p
      by_cases hl : as.length + bs.length ≤ lim
      · simp only [hl, if_true] at p
        refine op_catA pins s σ H _ _ v u Q I rx ry ⟨a, b, xs, ys, rfl, rfl, SqT.of ha, SqT.of hb, by rw [← hr.length, ← hs.length]; exact lim_le hl, fun e => ?_, fun _ e => ?_, fun _ _ q hq => ?_⟩
        · subst e
          cases hr
          exact post_ok p rl (.tup hb hs)
        · subst e
          cases hs
          exact post_ok p rl (.tup ha (by rw [List.append_nil]; exact hr))
        · exact post_new p rl hq (.tup upd_same ((hr.append hs).mono (Le.new hq)))
      · simp only [hl, if_false] at p
        exact p.elim
    | _ => exact p.elim
  | @lv as a xs na ha hr =>
    cases r2 with
    | @lv bs b ys nb hb hs =>
      unfold addF at p
      by_cases hl : as.length + bs.length ≤ lim
      · simp only [hl, if_true] at p
        refine op_cat pins s σ H _ _ v u Q I rx ry ⟨a, b, xs, ys, rfl, rfl, ha, hb, by rw [← hr.length, ← hs.length]; exact lim_le hl, fun q hq => ?_⟩
        exact post_new p rl hq (.lv (rl.no hq) upd_same ((hr.append hs).mono (Le.new hq)))
      · simp only [hl, if_false] at p
        exact p.elim
    | _ => exact p.elim
  | ref h => exact ho pins s σ H _ _ v u Q ρ S _ d2 I rx ry rl (.ref h) r2 p
  | _ => exact p.elim
theorem ops_sub {own : D → D → Store → Res D} (ho : OpS G X W (binaryOp .Sub) own) : OpS G X W (binaryOp .Sub) (subF own) := by
  intro pins s σ H x y v u Q ρ S d1 d2 I rx ry rl r1 r2 p
  cases r1 with
  | int i =>
    cases r2 with
    | int j => exact op_sub pins s σ H _ _ v u Q I rx ry ⟨i, j, rfl, rfl, post_ok p rl (.int _)⟩
    | _ => exact p.elim
  | ref h => exact ho pins s σ H _ _ v u Q ρ S _ d2 I rx ry rl (.ref h) r2 p
  | _ => exact p.elim
theorem ops_mul {own : D → D → Store → Res D} (ho : OpS G X W (binaryOp .Mult) own) : OpS G X W (binaryOp .Mult) (mulF own) := by
  intro pins s σ H x y v u Q ρ S d1 d2 I rx ry rl r1 r2 p
  cases r1 with
  | int i =>
    cases r2 with
    | int j =>
      unfold mulF at p
      by_cases h : mulOk i j = true
      · simp only [h, if_true] at p
        have h' := h
        unfold mulOk at h'
        simp only [Bool.or_eq_true, Bool.and_eq_true, decide_eq_true_eq] at h'
        rcases h' with h' | h'
        · exact op_mul pins s σ H _ _ v u Q I rx ry ⟨i, j, rfl, rfl, h', post_ok p rl (.int _)⟩
        · exact op_mulW pins s σ H _ _ v u Q I rx ry ⟨i, j, rfl, rfl, h', post_ok p rl (.int _)⟩
      · simp only [h] at p
        exact p.elim
    | _ => exact p.elim
  | @lv as a xs na ha hr =>
    cases r2 with
    | int k =>
      unfold mulF at p
      by_cases h : (decide (0 ≤ k) && decide (k ≤ 1000) && decide (as.length ≤ 1000)) = true
      · simp only [h, if_true] at p
        simp only [Bool.and_eq_true, decide_eq_true_eq] at h
        have hl := hr.length
        have hz : xs.length * k.toNat ≤ sizeLine := by
          rw [sizeLine_eq]
          have : xs.length * k.toNat ≤ 1000 * 1000 := Nat.mul_le_mul (by omega) (by omega)
          omega
        refine op_rep pins s σ H _ _ v u Q I rx ry ⟨a, k, xs, rfl, rfl, ha, by omega, by omega, hz, fun q hq => ?_⟩
        refine post_new p rl hq (.lv (rl.no hq) upd_same ?_)
        have rep : ∀ n, RVs G ρ H (List.replicate n as).flatten (List.replicate n xs).flatten := fun n => by
          induction n with
          | zero => exact .nil
          | succ n ih => rw [List.replicate_succ, List.replicate_succ]; exact hr.append ih
        exact (rep k.toNat).mono (Le.new hq)
      · simp only [h] at p
        exact p.elim
    | _ => exact p.elim
  | ref h => exact ho pins s σ H _ _ v u Q ρ S _ d2 I rx ry rl (.ref h) r2 p
  | _ => exact p.elim
def negI : D → Store → Res D := fun x S => match x with
  | .int i => .ok (.int (-i)) S
  | _ => .bad
end

/-! ### data: equality -/
def mapO {α β : Type} (f : α → Option β) : List α → Option (List β)
  | [] => some []
  | a :: as => match f a, mapO f as with
    | some b, some bs => some (b :: bs)
    | _, _ => none
def dat : Nat → Store → D → Option PyData
  | _, _, .non => some .none
  | _, _, .bl b => some (.bool b)
  | _, _, .int i => some (.int i)
  | _, _, .str x => some (.str ⟨x.toArray⟩)
  | n + 1, S, .tup ds => (mapO (dat n S) ds).map .tuple
  | n + 1, S, .kt ds => (mapO (dat n S) ds).map .tuple
  | n + 1, S, .lv ds => (mapO (dat n S) ds).map .list
  | n + 1, S, .ref a => (match listAt S (.ref a) with | some ds => (mapO (dat n S) ds).map .list | none => none)
  | _, _, _ => none
section
variable {G : Gx} {X : Cx} {W : WX} {ρ : Wd} {S : Store} {H : Hp}
theorem mapO_rel {f : D → Option PyData} (h : ∀ d x e, RV G ρ H d x → f d = some e → Dp G.K H x e) : ∀ {ds : List D} {xs : List V} {es : List PyData}, RVs G ρ H ds xs → mapO f ds = some es → DpAll G.K H xs es
  | _, _, _, .nil, e => by cases e; exact .nil
  | d :: ds, x :: xs, es, .cons r rs, e => by
    unfold mapO at e
    cases q1 : f d with
    | none => simp only [q1] at e; cases e
    | some b =>
      cases q2 : mapO f ds with
      | none => simp only [q1, q2] at e; cases e
      | some bs =>
        simp only [q1, q2] at e
        cases e
        exact .cons (h d x b r q1) (mapO_rel h rs q2)
theorem dat_rel (rl : Rl G ρ S H) : ∀ (n : Nat) (d : D) (x : V) (e : PyData), RV G ρ H d x → dat n S d = some e → Dp G.K H x e := by
  intro n
  induction n with
  | zero =>
    intro d x e r h
    cases r with
    | non => cases h; exact .non
    | bl b => cases h; exact .bl b
    | int i => cases h; exact .int i
    | str x => cases h; exact .str _
    | _ => cases h
  | succ n ih =>
    intro d x e r h
    have seqT : ∀ {ds : List D} {a : Addr} {xs : List V}, SqT G.K H a xs → RVs G ρ H ds xs → (mapO (dat n S) ds).map PyData.tuple = some e → Dp G.K H (.ref a) e := fun {ds a xs} ht hr h => by
      cases q : mapO (dat n S) ds with
      | none => rw [q] at h; cases h
      | some es => rw [q] at h; cases h; exact .tup ht (mapO_rel ih hr q)
    have seqL : ∀ {ds : List D} {a : Addr} {xs : List V}, SqL G.K H a xs → RVs G ρ H ds xs → (mapO (dat n S) ds).map PyData.list = some e → Dp G.K H (.ref a) e := fun {ds a xs} ht hr h => by
      cases q : mapO (dat n S) ds with
      | none => rw [q] at h; cases h
      | some es => rw [q] at h; cases h; exact .lst ht (mapO_rel ih hr q)
    cases r with
    | non => cases h; exact .non
    | bl b => cases h; exact .bl b
    | int i => cases h; exact .int i
    | str x => cases h; exact .str _
    | ty n => cases h
    | tup ht hr => exact seqT (SqT.of ht) hr h
    | kt ht hr => exact seqT (sqT_written ht) hr h
    | lv hn ht hr => exact seqL (SqL.of ht) hr h
    | @ref i a hi =>
      unfold dat at h
      cases q : listAt S (.ref i) with
      | none => simp only [q] at h; cases h
      | some ds =>
        simp only [q] at h
        obtain ⟨b, xs, e1, hq, hr⟩ := listAt_rel rl (.ref hi) q
        cases e1
        exact seqL hq hr h
    | _ => cases h
end
/-- a == b, a != b of data; own objects by own -/
def eqF (own : D → D → Store → Res D) : D → D → Store → Res D := fun x y S => match dat 64 S x, dat 64 S y with
  | some a, some b => if SeqAt.shaped a && SeqAt.shaped b then .ok (.bl (PyData.eqv a b)) S else .bad
  | _, _ => own x y S
def neF (own : D → D → Store → Res D) : D → D → Store → Res D := fun x y S => match dat 64 S x, dat 64 S y with
  | some a, some b => if SeqAt.shaped a && SeqAt.shaped b then .ok (.bl (!PyData.eqv a b)) S else .bad
  | _, _ => own x y S
section
variable {G : Gx} {X : Cx} {W : WX}
theorem ops_eq {own : D → D → Store → Res D} (cc : Cc G X W) (hu : X.A.units + 64 < cLine) (ho : OpS G X W (compareOp .Eq) own) : OpS G X W (compareOp .Eq) (eqF own) := by
  intro pins s σ H x y v u Q ρ S d1 d2 I rx ry rl r1 r2 p
  unfold eqF at p
  cases q1 : dat 64 S d1 with
  | none => simp only [q1] at p; exact ho pins s σ H x y v u Q ρ S d1 d2 I rx ry rl r1 r2 p
  | some a =>
    cases q2 : dat 64 S d2 with
    | none => simp only [q1, q2] at p; exact ho pins s σ H x y v u Q ρ S d1 d2 I rx ry rl r1 r2 p
    | some b =>
      simp only [q1, q2] at p
      by_cases h : (SeqAt.shaped a && SeqAt.shaped b) = true
      · simp only [h, if_true] at p
        rw [Bool.and_eq_true] at h
        refine op_eqD hu pins s σ H x y v u Q I rx ry ⟨a, b, ?_, ?_, h.1, h.2, post_ok p rl (.bl _)⟩
        · rw [cc.k]; exact dat_rel rl 64 d1 x a r1 q1
        · rw [cc.k]; exact dat_rel rl 64 d2 y b r2 q2
      · simp only [h] at p
        exact p.elim
theorem ops_ne {own : D → D → Store → Res D} (cc : Cc G X W) (hu : X.A.units + 64 < cLine) (ho : OpS G X W (compareOp .NotEq) own) : OpS G X W (compareOp .NotEq) (neF own) := by
  intro pins s σ H x y v u Q ρ S d1 d2 I rx ry rl r1 r2 p
  unfold neF at p
  cases q1 : dat 64 S d1 with
  | none => simp only [q1] at p; exact ho pins s σ H x y v u Q ρ S d1 d2 I rx ry rl r1 r2 p
  | some a =>
    cases q2 : dat 64 S d2 with
    | none => simp only [q1, q2] at p; exact ho pins s σ H x y v u Q ρ S d1 d2 I rx ry rl r1 r2 p
    | some b =>
      simp only [q1, q2] at p
      by_cases h : (SeqAt.shaped a && SeqAt.shaped b) = true
      · simp only [h, if_true] at p
        rw [Bool.and_eq_true] at h
        refine op_neD hu pins s σ H x y v u Q I rx ry ⟨a, b, ?_, ?_, h.1, h.2, post_ok p rl (.bl _)⟩
        · rw [cc.k]; exact dat_rel rl 64 d1 x a r1 q1
        · rw [cc.k]; exact dat_rel rl 64 d2 y b r2 q2
      · simp only [h] at p
        exact p.elim
end
end L2.Mi

set_option Elab.async false
set_option linter.all false
set_option maxRecDepth 100000
set_option maxHeartbeats 4000000
/-! Mini, 4: subscripts, slices, lengths, methods of lists, built-ins. -/
namespace L2.Mi
open PySem PySem.Spec PyProof.Rows

/-! ### subscripts -/
def IxS (G : Gx) (X : Cx) (W : WX) (f : D → D → Store → Res D) : Prop :=
  ∀ (value slice : Expr) (pins : List (Addr × Obj)) (s : Shared) (σ : St) (H : Hp) (x y : V) (v u : Value) (Q : VK) (ρ : Wd) (S : Store) (d1 d2 : D), Inv X pins σ H s → RelV x v → RelV y u → Rl G ρ S H → RV G ρ H d1 x → RV G ρ H d2 y →
    Post G ρ H (f d1 d2 S) Q (EW W σ) → subscripted slice false v u = operate [v, u] (getItem v u) → wpAny (model X.prog X.w) X.A (subscriptTail value slice v u) (EP X pins σ Q) X.xe s
/-- an item of a tuple, a list, a text -/
def itemF : D → D → Store → Res D := fun x y S => match y with
  | .int i => (match tupD x with
    | some ds => (match L2.atI ds i with | some d => .ok d S | none => .bad)
    | none => (match listAt S x with
      | some ds => (match L2.atI ds i with | some d => .ok d S | none => .bad)
      | none => (match x with
        | .str l => if l.length ≤ lim then (match L2.atI l i with | some c => .ok (.str [c]) S | none => .bad) else .bad
        | _ => .bad)))
  | _ => .bad
section
variable {G : Gx} {X : Cx} {W : WX} {a b e : Expr} {ma mb m : ME} {pos : Pos}
theorem IxS.of {f : D → D → Store → Res D} {r : R2} (ho : IxR X r) (h : ∀ ρ S H d1 d2 x y Q E, Rl G ρ S H → RV G ρ H d1 x → RV G ρ H d2 y → Post G ρ H (f d1 d2 S) Q E → r x y H Q) : IxS G X W f :=
  fun value slice pins s σ H x y v u Q ρ S d1 d2 I rx ry rl r1 r2 p hs => ho value slice pins s σ H x y v u Q I rx ry (h ρ S H d1 d2 x y Q _ rl r1 r2 p) hs
theorem se_ix {f : D → D → Store → Res D} (hr : IxS G X W f) (ha : SE G X W a ma) (hb : SE G X W b mb) (hs : PlainIx b := by exact fun _ _ => rfl) : SE G X W (.Subscript a b pos) (eBin f ma mb) :=
  ⟨fun pins s σ H Q I ⟨ρ, σs, S, rl, re, p⟩ => Subscript_ (ha.go I rl re p fun v s1 x H1 ρ1 S1 d I1 rx l1 rl1 re1 rv1 p1 => hb.go I1 rl1 re1 p1 fun u s2 y H2 ρ2 S2 e I2 ry l2 rl2 re2 rv2 p2 =>
    hr a b pins s2 σ H2 x y v u Q ρ2 S2 d e I2 rx ry rl2 (rv1.mono l2) rv2 p2 (hs _ _))⟩
theorem ixs_item (cc : Cc G X W) : IxS G X W itemF := by
  intro value slice pins s σ H x y v u Q ρ S d1 d2 I rx ry rl r1 r2 p hs
  cases r2 with
  | int i =>
    unfold itemF at p
    cases q1 : tupD d1 with
    | some ds =>
      obtain ⟨a, xs, rfl, ht, hr⟩ := tupD_rel r1 q1
      cases q2 : L2.atI ds i with
      | none => simp only [q1, q2] at p; exact p.elim
      | some d =>
        simp only [q1, q2] at p
        obtain ⟨z, h1, h2⟩ := hr.atI q2
        exact ix_tup value slice pins s σ H _ _ v u Q I rx ry ⟨a, xs, i, z, rfl, rfl, by rw [cc.k]; exact ht, h1, post_ok p rl h2⟩ hs
    | none =>
      cases q3 : listAt S d1 with
      | some ds =>
        obtain ⟨a, xs, rfl, ht, hr⟩ := listAt_rel rl r1 q3
        cases q2 : L2.atI ds i with
        | none => simp only [q1, q2, q3] at p; exact p.elim
        | some d =>
          simp only [q1, q2, q3] at p
          obtain ⟨z, h1, h2⟩ := hr.atI q2
          exact ix_list value slice pins s σ H _ _ v u Q I rx ry ⟨a, xs, i, z, rfl, rfl, by rw [cc.k]; exact ht, h1, post_ok p rl h2⟩ hs
      | none =>
        cases r1 with
        | str l =>
          simp only [q1, q3] at p
          by_cases hl : l.length ≤ lim
          · simp only [hl, if_true] at p
            cases q2 : L2.atI l i with
            | none => simp only [q2] at p; exact p.elim
            | some c =>
              simp only [q2] at p
              refine ix_str value slice pins s σ H _ _ v u Q I rx ry ⟨⟨l.toArray⟩, i, c, rfl, rfl, by rw [str_len]; exact lim_le hl, ?_, post_ok p rl (.str [c])⟩ hs
              simpa using q2
          · simp only [hl, if_false] at p
            exact p.elim
        | _ => simp only [q1, q3] at p; exact p.elim
  | _ => exact p.elim
end

/-! ### slices -/
abbrev MO := En → Store → Res (Option Int)
def oNone : MO := fun _ S => .ok none S
def oSome (m : ME) : MO := fun σ S => (m σ S).bind fun d S1 => match d with | .int i => .ok (some i) S1 | _ => .bad
def tmo (G : Gx) (W : WX) (m : MO) : TO := fun σ H Q => ∃ ρ σs S, Rl G ρ S H ∧ RE G ρ H σs σ ∧ PostR (α := Option Int) (β := Option Int) G (fun _ _ a b => a = b) ρ H (m σs S) Q (fun c d H' => W c d σ H')
abbrev SO (G : Gx) (X : Cx) (W : WX) (e : Option Expr) (m : MO) : Prop := PO X e (tmo G W m)
def cutD {α : Type} (xs : List α) (lo hi : Option Int) : List α := (xs.drop (HT.sIx xs.length 0 lo)).take (HT.sIx xs.length xs.length hi - HT.sIx xs.length 0 lo)
def sliceF (x : D) (lo hi : Option Int) (S : Store) : Res D := match x with
  | .tup ds => .ok (.tup (cutD ds lo hi)) S
  | .str l => if l.length ≤ lim then .ok (.str (cutD l lo hi)) S else .bad
  | d => (match listAt S d with | some ds => .ok (.lv (cutD ds lo hi)) S | none => .bad)
def eSlice (m : ME) (lo hi : MO) : ME := fun σ S => (m σ S).bind fun x S1 => (lo σ S1).bind fun l S2 => (hi σ S2).bind fun h S3 => sliceF x l h S3
section
variable {G : Gx} {X : Cx} {W : WX} {a b e : Expr} {ma mb m : ME} {pos : Pos}
theorem so_none : SO G X W none oNone := ⟨fun pins s σ H Q I ⟨ρ, σs, S, rl, re, p⟩ => po_none.run pins s σ H Q I (p ρ H none Le.refl rl rfl)⟩
theorem so_some (h : SE G X W e m) : SO G X W (some e) (oSome m) := by
  refine ⟨fun pins s σ H Q I ⟨ρ, σs, S, rl, re, p⟩ => (po_some h).run pins s σ H Q I ?_⟩
  refine ⟨ρ, σs, S, rl, re, p.bind (R := RV G) fun ρ1 H1 S1 d v l1 rl1 rv1 p1 => ?_⟩
  cases rv1 with
  | int i => exact ⟨i, rfl, p1 ρ1 H1 (some i) Le.refl rl1 rfl⟩
  | _ => exact False.elim p1
theorem cut_rel {ρ : Wd} {H : Hp} {ds : List D} {xs : List V} (r : RVs G ρ H ds xs) (lo hi : Option Int) : RVs G ρ H (cutD ds lo hi) (cutV xs lo hi) := by
  have dr : ∀ (n : Nat) {ds : List D} {xs : List V}, RVs G ρ H ds xs → RVs G ρ H (ds.drop n) (xs.drop n) := by
    intro n
    induction n with
    | zero => exact fun r => r
    | succ n ih => intro ds xs r; cases r with | nil => exact .nil | cons _ t => exact ih t
  have tk : ∀ (n : Nat) {ds : List D} {xs : List V}, RVs G ρ H ds xs → RVs G ρ H (ds.take n) (xs.take n) := by
    intro n
    induction n with
    | zero => exact fun r => .nil
    | succ n ih => intro ds xs r; cases r with | nil => exact .nil | cons h t => exact .cons h (ih t)
  unfold cutD cutV
  rw [r.length]
  exact tk _ (dr _ r)
theorem cut_str (l : List Nat) (lo hi : Option Int) : cutS ⟨l.toArray⟩ lo hi = ⟨(cutD l lo hi).toArray⟩ := by
  unfold cutS cutD
  simp [Str.length]
theorem whole_cut {α : Type} {xs : List α} {lo hi : Option Int} (h : HT.sIx xs.length 0 lo = 0 ∧ HT.sIx xs.length xs.length hi = xs.length) : cutD xs lo hi = xs := by
  unfold cutD
  rw [h.1, h.2]
  simp
theorem se_slice {lo hi : Option Expr} {ml mh : MO} {p2 : Pos} (cc : Cc G X W) (he : SE G X W e m) (hl : SO G X W lo ml) (hh : SO G X W hi mh) : SE G X W (.Subscript e (.Slice lo hi none p2) pos) (eSlice m ml mh) := by
  refine se_of (pe_slice ((sl_tupA (X := X)).or ((sl_str (X := X)).or (sl_list (X := X)))) he hl hh) fun σ H Q ρ σs S rl re p => ?_
  refine ⟨ρ, σs, S, rl, re, PostR.bind (R := RV G) p fun ρ1 H1 S1 d x l1 rl1 rv1 p1 => ?_⟩
  refine ⟨ρ1, σs, S1, rl1, re.mono l1, PostR.bind (R := fun _ _ a b => a = b) p1 fun ρ2 H2 S2 a1 a2 l2 rl2 e2 p2 => ?_⟩
  subst e2
  refine ⟨ρ2, σs, S2, rl2, (re.mono l1).mono l2, PostR.bind (R := fun _ _ a b => a = b) p2 fun ρ3 H3 S3 b1 b2 l3 rl3 e3 p3 => ?_⟩
  subst e3
  have rv3 := rv1.mono (l2.trans l3)
  have lists : ∀ {ds : List D}, listAt S3 d = some ds → Post G ρ3 H3 (.ok (.lv (cutD ds a1 b1)) S3) Q (EW W σ) → rSlL X.K x a1 b1 H3 Q := fun {ds} h p => by
    obtain ⟨a, xs, e, hq, hr⟩ := listAt_rel rl3 rv3 h
    exact ⟨a, xs, e, by rw [cc.k]; exact hq, fun q hq' => post_new p rl3 hq' (.lv (rl3.no hq') upd_same ((cut_rel hr a1 b1).mono (Le.new hq')))⟩
  cases rv3 with
  | @tup ds a xs ht hr =>
    refine .inl ⟨a, xs, rfl, SqT.of ht, fun hw => ?_, fun hw q hq => ?_⟩
    · have p3' : Post G ρ3 H3 (.ok (.tup (cutD ds a1 b1)) S3) Q (EW W σ) := p3
      rw [whole_cut (by rw [hr.length]; exact hw)] at p3'
      exact post_ok p3' rl3 (.tup ht hr)
    · exact post_new (S := S3) p3 rl3 hq (.tup upd_same ((cut_rel hr a1 b1).mono (Le.new hq)))
  | str l =>
    refine .inr (.inl ⟨_, rfl, ?_⟩)
    have p3' : Post G ρ3 H3 (if l.length ≤ lim then .ok (.str (cutD l a1 b1)) S3 else .bad) Q (EW W σ) := p3
    by_cases hl : l.length ≤ lim
    · rw [if_pos hl] at p3'
      refine ⟨by rw [str_len]; exact lim_le hl, ?_⟩
      rw [cut_str]
      exact post_ok p3' rl3 (.str _)
    · rw [if_neg hl] at p3'
      exact p3'.elim
  | lv n ht hr => exact .inr (.inr (lists rfl p3))
  | fl ht hr => exact .inr (.inr (lists rfl p3))
  | @ref i a hi =>
    refine .inr (.inr ?_)
    have p3' : Post G ρ3 H3 (match listAt S3 (.ref i) with | some ds => .ok (.lv (cutD ds a1 b1)) S3 | none => .bad) Q (EW W σ) := p3
    cases q : listAt S3 (.ref i) with
    | none => rw [q] at p3'; exact p3'.elim
    | some ds => rw [q] at p3'; exact lists q p3'
  | _ => exact False.elim p3
end
/-! x[::-1] -/
section
variable {prog : Program} {w : World} {A : Around} {E : Value → Shared → Prop} {s : Shared}
theorem sliceApplied_rev {sl : Addr} {vs : Value} {n : Nat} {Q : Int × Int × Nat → Shared → Prop} (hs : s.heap.IsSliceOf sl .none .none vs) (ps : IsPart vs (some (-1))) (h : Q ((n : Int) - 1, -1, n) s) :
    wpAny (model prog w) A (Builtin.Slice.sliceApplied (.ref sl) (pure (n : Int))) Q E s := by
  obtain ⟨os, hos, hcs, hds⟩ := id hs
  unfold Builtin.Slice.sliceApplied Builtin.Slice.sliceFields
  refine wpAny_bind (wpAny_bind (wpAny_field hos hds (x := .none) rfl (wpAny_bind (wpAny_field hos hds (x := .none) rfl (wpAny_bind (wpAny_field hos hds (x := vs) rfl (wpAny_pure ?_)))))))
  refine wpAny_bind (HT.slicePart_ ps ?_)
  show wpAny _ _ (if ((-1 : Int) == 0) = true then _ else _) _ _ s
  rw [if_neg (by decide)]
  refine wpAny_bind (HT.slicePart_ .none (wpAny_bind (HT.slicePart_ .none (wpAny_bind (wpAny_pure ?_)))))
  show wpAny _ _ (pure ((n : Int) - 1, (-1 : Int), Builtin.Slice.slicePlaces ((n : Int) - 1) (-1) (-1))) _ _ s
  have e : Builtin.Slice.slicePlaces ((n : Int) - 1) (-1) (-1) = n := by
    unfold Builtin.Slice.slicePlaces
    have h1 : ¬ ((-1 : Int) > 0) := by omega
    simp only [h1, if_false, Int.neg_neg, Int.ediv_one]
    split <;> omega
  rw [e]
  exact wpAny_pure h
theorem filterMap_cong {α β : Type} {f g : α → Option β} : ∀ {l : List α}, (∀ a ∈ l, f a = g a) → l.filterMap f = l.filterMap g
  | [], _ => rfl
  | a :: l, h => by
    rw [List.filterMap_cons, List.filterMap_cons, h a (by simp), filterMap_cong fun b hb => h b (by simp [hb])]
theorem pick_rev (xs : Array Value) : ((List.range xs.size).filterMap fun (m : Nat) => xs[((xs.size : Int) - 1 + (m : Int) * -1).toNat]?) = xs.toList.reverse := by
  have key : ∀ (l : List Value), ((List.range l.length).filterMap fun (m : Nat) => l[l.length - 1 - m]?) = l.reverse := by
    intro l
    have : ((List.range l.length).filterMap fun (m : Nat) => l[l.length - 1 - m]?) = ((List.range l.length).map fun m => l.reverse[m]?).filterMap id := by
      rw [List.filterMap_map]
      apply filterMap_cong
      intro m hm
      rw [List.mem_range] at hm
      show _ = l.reverse[m]?
      rw [List.getElem?_reverse hm]
    rw [this]
    have h2 : ((List.range l.length).map fun m => l.reverse[m]?) = l.reverse.map some := by
      apply List.ext_getElem?
      intro i
      by_cases hi : i < l.length
      · rw [List.getElem?_map, List.getElem?_range hi, List.getElem?_map]
        simp [List.getElem?_eq_getElem (show i < l.reverse.length by simpa using hi)]
      · rw [List.getElem?_eq_none (by simpa using hi), List.getElem?_eq_none (by simpa using hi)]
    rw [h2, List.filterMap_map]
    simp
  rw [← key xs.toList]
  rw [Array.length_toList]
  apply filterMap_cong
  intro m hm
  rw [List.mem_range] at hm
  have e1 : ((xs.size : Int) - 1 + (m : Int) * -1).toNat = xs.size - 1 - m := by omega
  rw [e1]
  simp
theorem getItem_tuple_rev {t sl : Addr} {items : Array Value} {vs : Value} {Q : Value → Shared → Prop} (ht : IsTup s.heap t items) (hs : s.heap.IsSliceOf sl .none .none vs) (ps : IsPart vs (some (-1)))
    (h : Q (.ref s.heap.objs.size) { s with heap := s.heap.push { cls := .type "tuple", data := .seq items.toList.reverse.toArray } }) (hsz : items.size ≤ sizeLine) : wpAny (model prog w) A (getItem (.ref t) (.ref sl)) Q E s := by
  have htake : sizeOk (.seq items.toList.reverse.toArray) := by
    show items.toList.reverse.toArray.size ≤ sizeLine
    rw [List.size_toArray, List.length_reverse, Array.length_toList]
    exact hsz
  obtain ⟨os, hos, hcs, hds⟩ := id hs
  have hTs : s.TypeIs (.ref sl) "slice" := ⟨os, hos, hcs⟩
  unfold getItem
  try with_reducible refine wpAny_holding ?_
  first | refine wpAny_bind (wpAny_pure ?_) | skip
  refine wpAny_bind (wpAny_sequenceKey ht.typeIs (by decide) ?_)
  refine wpAny_bind (wpAny_callSpecial?_slot (name := Str.ofString "__getitem__") ht.typeIs PyProof.Rows.slot_tuple_getitem
    (wpAny_call_entry PyProof.Rows.slot_tuple_getitem ht.typeIs entry_tuple_getitem ?_ (args_tuple_getitem _ _)))
  show wpAny _ _ (Builtin.Tuple.tupleItemsOf (.ref t) >>= _) _ _ s
  refine wpAny_bind (tupleItemsOf_ ht ?_)
  refine wpAny_bind (wpAny_typeOf hTs ?_)
  rw [if_pos (by decide)]
  refine wpAny_bind (sliceApplied_rev hs ps ?_)
  have hno : ¬ ((((items.size : Int) - 1) == 0 && (-1 : Int) == 1 && items.size == items.size) = true) := by simp
  show wpAny _ _ (if (((items.size : Int) - 1) == 0 && (-1 : Int) == 1 && items.size == items.size) = true then _ else _) _ _ s
  rw [if_neg hno, pick_rev]
  first
    | exact wpAny_bind (m := Builtin.Tuple.tupleExact _) (wpAny_newObj_type (wpAny_pure ⟨_, rfl, wpAny_pure h⟩) htake)
    | exact wpAny_bind (m := Builtin.Tuple.tupleExact _) (wpAny_newObj_type (wpAny_bind (wpAny_pure (wpAny_pure ⟨_, rfl, wpAny_pure h⟩))) htake)
    | exact wpAny_bind (wpAny_bind (m := Builtin.Tuple.tupleExact _) (wpAny_newObj_type (wpAny_pure (wpAny_pure ⟨_, rfl, wpAny_pure h⟩)) htake))
    | exact wpAny_bind (wpAny_bind (m := Builtin.Tuple.tupleExact _) (wpAny_newObj_type (wpAny_pure ⟨_, rfl, wpAny_pure h⟩) htake))
end
def revF (x : D) (S : Store) : Res D := match x with
  | .tup ds => .ok (.tup ds.reverse) S
  | d => (match listAt S d with | some ds => .ok (.lv ds.reverse) S | none => .bad)
section
variable {G : Gx} {X : Cx} {W : WX} {a b e : Expr} {ma mb m : ME} {pos : Pos}
theorem RVs.reverse {ρ : Wd} {H : Hp} {ds : List D} {xs : List V} (r : RVs G ρ H ds xs) : RVs G ρ H ds.reverse xs.reverse := by
  induction ds generalizing xs with
  | nil => cases r; exact .nil
  | cons d ds ih =>
    cases r with
    | cons h t => rw [List.reverse_cons, List.reverse_cons]; exact (ih t).append (.cons h .nil)
theorem se_rev {k : Nat} {q1 q2 q3 : Pos} (cc : Cc G X W) (he : SE G X W e m) : SE G X W (.Subscript e (.Slice none none (some (.UnaryOp .USub (.Constant (.int 1) k q1) q2)) q3) pos) (eUn revF m) := by
  refine ⟨fun pins s σ H Q I ⟨ρ, σs, S, rl, re, p⟩ => ?_⟩
  refine Subscript_ (he.go I rl re p fun v s1 x H1 ρ1 S1 d I1 r1 l1 rl1 re1 rv1 p1 => ?_)
  have hst : PO X (some (.UnaryOp .USub (.Constant (.int 1) k q1) q2)) (tPart (tUn (rU fun i => .int (-i)) (tC (.int 1)))) := po_some (pe_un un_neg pe_int)
  refine wpAny_Slice ?_
  rw [evalPart_none]
  refine wpAny_pure (wpAny_pure ?_)
  refine thn (hst.run pins s1 σ H1 (fun o H4 => o = some (-1) ∧ H4 = H1) I1 ⟨1, rfl, -1, rfl, rfl, rfl⟩) fun vs s4 ⟨o, H4, I4, ps, eo, e4⟩ => ?_
  subst eo e4
  have I5 : Inv X pins σ H4 { s4 with heap := s4.heap.push { cls := .type "slice", data := .fields #[.none, .none, vs] } } := I4.kept (t' := s4.toks) fun b ob q => Heap.get?_push_of_some _ q
  have lists : ∀ {ds : List D}, listAt S1 d = some ds → Post G ρ1 H4 (.ok (.lv ds.reverse) S1) Q (EW W σ) → wpAny (model X.prog X.w) X.A (subscriptTail e (.Slice none none (some (.UnaryOp .USub (.Constant (.int 1) k q1) q2)) q3) v (.ref s4.heap.objs.size)) (EP X pins σ Q) X.xe { s4 with heap := s4.heap.push { cls := .type "slice", data := .fields #[.none, .none, vs] } } := fun {ds} h p => by
    obtain ⟨a, xs, ex, hq, hr⟩ := listAt_rel rl1 rv1 h
    subst ex
    cases r1
    obtain ⟨its, r, ht, hz⟩ := I5.list (a := a) (xs := xs) (by rw [cc.k]; exact hq)
    have hlen := r.length
    refine tail_any (ops := [.ref a, .ref s4.heap.objs.size]) ht.isList.typeIs (PySem.slot_list_getitem.lookup) ?_ (by with_unfolding_all rfl)
    refine wpAny_getItem_list_slice ht.isList (Heap.IsSliceOf.new _ .none .none vs) .none .none ps (by decide) ?_ (by rw [List.size_toArray]; omega)
    rw [PySem.W.krv_pick]
    have hfr := I5.hok.fresh (Nat.le_refl _)
    refine ⟨.ref _, _, I5.laid (t' := s4.toks) (o := .lst xs.reverse) (fun b ob q => Heap.get?_push_of_some _ q) (Nat.le_refl _) ?_, rfl, post_new p rl1 hfr (.lv (rl1.no hfr) upd_same (hr.reverse.mono (Le.new hfr)))⟩
    exact ⟨by rw [List.length_reverse]; exact hz, _, 0, r.reverse, Heap.get?_push_size _ rfl⟩
  show wpAny (model X.prog X.w) X.A (subscriptTail e (.Slice none none (some (.UnaryOp .USub (.Constant (.int 1) k q1) q2)) q3) v (.ref s4.heap.objs.size)) (EP X pins σ Q) X.xe { s4 with heap := s4.heap.push { cls := .type "slice", data := .fields #[.none, .none, vs] } }
  cases rv1 with
  | @tup ds a xs htt hr =>
    cases r1
    obtain ⟨its, r, ht, hz⟩ := I5.tuple (a := a) (xs := xs) (SqT.of htt)
    have hlen := r.length
    refine tail_any (ops := [.ref a, .ref s4.heap.objs.size]) ht.typeIs (PyProof.Rows.slot_tuple_getitem.lookup) ?_ (by with_unfolding_all rfl)
    refine getItem_tuple_rev ht (Heap.IsSliceOf.new _ .none .none vs) ps ?_ (by rw [List.size_toArray]; omega)
    have hfr := I5.hok.fresh (Nat.le_refl _)
    refine ⟨.ref _, _, I5.laid (t' := s4.toks) (o := .tup xs.reverse) (fun b ob q => Heap.get?_push_of_some _ q) (Nat.le_refl _) ?_, rfl, post_new (S := S1) p1 rl1 hfr (.tup upd_same (hr.reverse.mono (Le.new hfr)))⟩
    exact ⟨by rw [List.length_reverse]; exact hz, its.reverse, r.reverse, ⟨_, Heap.get?_push_size _ rfl, rfl, _, rfl⟩⟩
  | lv n ht hr => exact lists rfl p1
  | fl ht hr => exact lists rfl p1
  | @ref i a hi =>
    have p1' : Post G ρ1 H4 (match listAt S1 (.ref i) with | some ds => .ok (.lv ds.reverse) S1 | none => .bad) Q (EW W σ) := p1
    cases q : listAt S1 (.ref i) with
    | none => rw [q] at p1'; exact p1'.elim
    | some ds => rw [q] at p1'; exact lists q p1'
  | _ => exact False.elim p1
end
end L2.Mi

set_option Elab.async false
set_option linter.all false
set_option maxRecDepth 100000
set_option maxHeartbeats 4000000
/-! Mini, 5: built-in functions, what loops walk. -/
namespace L2.Mi
open PySem PySem.Spec PyProof.Rows

def asInts : List D → Option (List Int)
  | [] => some []
  | .int i :: ds => (asInts ds).map (i :: ·)
  | _ :: _ => none
def asBools : List D → Option (List Bool)
  | [] => some []
  | .bl b :: ds => (asBools ds).map (b :: ·)
  | _ :: _ => none
/-- the pairs of a dict as it stands -/
def dictAt (S : Store) : D → Option (Bool × List (D × D))
  | .dv t kvs => some (t, kvs)
  | .ref a => (match S.get a with | some (.dic t kvs) => some (t, kvs) | some (.lck (.dic t kvs)) => some (t, kvs) | _ => none)
  | _ => none
section
variable {G : Gx} {ρ : Wd} {H : Hp} {S : Store}
theorem asInts_rel : ∀ {ds : List D} {xs : List V} {ns : List Int}, RVs G ρ H ds xs → asInts ds = some ns → xs = ns.map V.int
  | _, _, _, .nil, h => by cases h; rfl
  | d :: ds, x :: xs, ns, .cons r t, h => by
    cases r with
    | int i =>
      unfold asInts at h
      cases q : asInts ds with
      | none => rw [q] at h; cases h
      | some ms => rw [q] at h; cases h; rw [asInts_rel t q]; rfl
    | _ => cases h
theorem asBools_rel : ∀ {ds : List D} {xs : List V} {ns : List Bool}, RVs G ρ H ds xs → asBools ds = some ns → xs = ns.map V.bl
  | _, _, _, .nil, h => by cases h; rfl
  | d :: ds, x :: xs, ns, .cons r t, h => by
    cases r with
    | bl i =>
      unfold asBools at h
      cases q : asBools ds with
      | none => rw [q] at h; cases h
      | some ms => rw [q] at h; cases h; rw [asBools_rel t q]; rfl
    | _ => cases h
end
def lenF (ds : List D) (S : Store) : Res D := match ds with
  | [.str l] => if l.length ≤ lim then .ok (.int l.length) S else .bad
  | [.tup xs] => .ok (.int xs.length) S
  | [.kt xs] => .ok (.int xs.length) S
  | [d] => (match listAt S d with | some xs => .ok (.int xs.length) S | none => .bad)
  | _ => .bad
def absF (ds : List D) (S : Store) : Res D := match ds with
  | [.int i] => .ok (.int (if i < 0 then -i else i)) S
  | _ => .bad
def max2F (ds : List D) (S : Store) : Res D := match ds with
  | [.int i, .int j] => .ok (.int (if j > i then j else i)) S
  | _ => .bad
def min2F (ds : List D) (S : Store) : Res D := match ds with
  | [.int i, .int j] => .ok (.int (if j < i then j else i)) S
  | _ => .bad
def intF (ds : List D) (S : Store) : Res D := match ds with
  | [.int i] => .ok (.int i) S
  | [.bl k] => .ok (.int (if k then 1 else 0)) S
  | _ => .bad
/-- a list of the items of a list or a tuple: one that is changed later, one that is not -/
def seqAt (S : Store) (d : D) : Option (List D) := match tupD d with | some ds => some ds | none => listAt S d
def listF (ds : List D) (S : Store) : Res D := match ds with
  | [d] => (match seqAt S d with | some xs => .ok (.ref S.size) (S.push (.lst xs)) | none => .bad)
  | _ => .bad
def listvF (ds : List D) (S : Store) : Res D := match ds with
  | [d] => (match seqAt S d with | some xs => .ok (.lv xs) S | none => .bad)
  | _ => .bad
def tupleF (ds : List D) (S : Store) : Res D := match ds with
  | [.tup xs] => .ok (.tup xs) S
  | [d] => (match listAt S d with | some xs => .ok (.tup xs) S | none => .bad)
  | _ => .bad
def sumF (ds : List D) (S : Store) : Res D := match ds with
  | [d] => (match (listAt S d).bind asInts with | some ns => .ok (.int ns.sum) S | none => .bad)
  | _ => .bad
def allF (ds : List D) (S : Store) : Res D := match ds with
  | [d] => (match (listAt S d).bind asBools with | some bs => .ok (.bl (bs.all id)) S | none => .bad)
  | _ => .bad
def anyF (ds : List D) (S : Store) : Res D := match ds with
  | [d] => (match (listAt S d).bind asBools with | some bs => .ok (.bl (bs.any id)) S | none => .bad)
  | _ => .bad
section
variable {G : Gx} {X : Cx} {W : WX}
theorem rvs1 {ρ : Wd} {H : Hp} {d : D} {xs : List V} (r : RVs G ρ H [d] xs) : ∃ x, xs = [x] ∧ RV G ρ H d x := by
  cases r with
  | cons h t => cases t; exact ⟨_, rfl, h⟩
theorem rvs2 {ρ : Wd} {H : Hp} {d e : D} {xs : List V} (r : RVs G ρ H [d, e] xs) : ∃ x y, xs = [x, y] ∧ RV G ρ H d x ∧ RV G ρ H e y := by
  cases r with
  | cons h t =>
    cases t with
    | cons h' t' => cases t'; exact ⟨_, _, rfl, h, h'⟩
theorem fns_len (cc : Cc G X W) : FnS G X W (.builtin "len") lenF := FnS.of call_len fun ρ S H ds xs Q E rl r p => by
  have seq : ∀ {d : D} {x : V} {ys : List D}, RV G ρ H d x → listAt S d = some ys → Post G ρ H (.ok (.int ys.length) S) Q E → ∃ x' n, [x] = [x'] ∧ LenV X.K x' H n ∧ Q (.int n) H := fun {d x ys} h q p => by
    obtain ⟨a, zs, rfl, hq, hr⟩ := listAt_rel rl h q
    refine ⟨_, zs.length, rfl, .inl ⟨zs, by rw [cc.k]; exact hq, rfl⟩, ?_⟩
    rw [← hr.length]
    exact post_ok p rl (.int _)
  match ds, r, p with
  | [], _, p => exact p.elim
  | _ :: _ :: _, _, p => exact (show False by unfold lenF at p; split at p <;> first | exact p | simp_all).elim
  | [d], r, p =>
    obtain ⟨x, rfl, h⟩ := rvs1 r
    cases h with
    | str l =>
      have p' : Post G ρ H (if l.length ≤ lim then .ok (.int l.length) S else .bad) Q E := p
      by_cases hl : l.length ≤ lim
      · rw [if_pos hl] at p'
        refine ⟨_, l.length, rfl, ⟨by rw [str_len]; exact lim_le hl, by rw [str_len]⟩, post_ok p' rl (.int _)⟩
      · rw [if_neg hl] at p'
        exact p'.elim
    | @tup ds a zs ht hr =>
      refine ⟨_, zs.length, rfl, .inr ⟨zs, SqT.of ht, rfl⟩, ?_⟩
      rw [← hr.length]
      exact post_ok (S := S) p rl (.int _)
    | @kt ds a zs ht hr =>
      refine ⟨_, zs.length, rfl, .inr ⟨zs, by rw [cc.k]; exact sqT_written ht, rfl⟩, ?_⟩
      rw [← hr.length]
      exact post_ok (S := S) p rl (.int _)
    | lv n ht hr => exact seq (.lv n ht hr) rfl p
    | fl ht hr => exact seq (.fl ht hr) rfl p
    | @ref i a hi =>
      have p' : Post G ρ H (match listAt S (.ref i) with | some ys => .ok (.int ys.length) S | none => .bad) Q E := p
      cases q : listAt S (.ref i) with
      | none => rw [q] at p'; exact p'.elim
      | some ys => rw [q] at p'; exact seq (.ref hi) q p'
    | _ => exact False.elim p
theorem fns_abs : FnS G X W (.builtin "abs") absF := FnS.of call_abs fun ρ S H ds xs Q E rl r p => by
  unfold absF at p
  split at p
  · obtain ⟨x, rfl, h⟩ := rvs1 r
    cases h
    exact ⟨_, rfl, post_ok p rl (.int _)⟩
  · exact p.elim
theorem fns_max2 (cc : Cc G X W) : FnS G X W (.builtin "max") max2F := FnS.of (call_max2 cc.calm) fun ρ S H ds xs Q E rl r p => by
  unfold max2F at p
  split at p
  · obtain ⟨x, y, rfl, h, h'⟩ := rvs2 r
    cases h
    cases h'
    exact ⟨_, _, rfl, post_ok p rl (.int _)⟩
  · exact p.elim
theorem fns_min2 (cc : Cc G X W) : FnS G X W (.builtin "min") min2F := FnS.of (call_min2 cc.calm) fun ρ S H ds xs Q E rl r p => by
  unfold min2F at p
  split at p
  · obtain ⟨x, y, rfl, h, h'⟩ := rvs2 r
    cases h
    cases h'
    exact ⟨_, _, rfl, post_ok p rl (.int _)⟩
  · exact p.elim
theorem fns_int : FnS G X W (.type "int") intF := FnS.of call_int1 fun ρ S H ds xs Q E rl r p => by
  unfold intF at p
  split at p
  · obtain ⟨x, rfl, h⟩ := rvs1 r
    cases h
    exact .inl ⟨_, rfl, post_ok p rl (.int _)⟩
  · obtain ⟨x, rfl, h⟩ := rvs1 r
    cases h
    exact .inr ⟨_, rfl, post_ok p rl (.int _)⟩
  · exact p.elim
theorem seqAt_rel {ρ : Wd} {S : Store} {H : Hp} {d : D} {x : V} {ds : List D} (rl : Rl G ρ S H) (rv : RV G ρ H d x) (h : seqAt S d = some ds) : ∃ a xs, x = .ref a ∧ (SqL G.K H a xs ∨ SqT G.K H a xs) ∧ RVs G ρ H ds xs := by
  unfold seqAt at h
  cases q : tupD d with
  | some es =>
    rw [q] at h
    cases h
    obtain ⟨a, xs, e, ht, hr⟩ := tupD_rel rv q
    exact ⟨a, xs, e, .inr ht, hr⟩
  | none =>
    rw [q] at h
    obtain ⟨a, xs, e, ht, hr⟩ := listAt_rel rl rv h
    exact ⟨a, xs, e, .inl ht, hr⟩
theorem fns_list (cc : Cc G X W) : FnS G X W (.type "list") listF := FnS.of call_list_of fun ρ S H ds xs Q E rl r p => by
  unfold listF at p
  split at p
  · rename_i d
    obtain ⟨x, rfl, h⟩ := rvs1 r
    cases q : seqAt S d with
    | none => rw [q] at p; exact p.elim
    | some es =>
      rw [q] at p
      obtain ⟨a, zs, rfl, hq, hr⟩ := seqAt_rel rl h q
      refine ⟨a, zs, rfl, by rw [cc.k]; exact hq, fun l hl => ?_⟩
      exact p (ρ.push l) _ _ (Le.push hl) (rl.push hl (.lst hr)) (RV.new rl)
  · exact p.elim
theorem fns_listv (cc : Cc G X W) : FnS G X W (.type "list") listvF := FnS.of call_list_of fun ρ S H ds xs Q E rl r p => by
  unfold listvF at p
  split at p
  · rename_i d
    obtain ⟨x, rfl, h⟩ := rvs1 r
    cases q : seqAt S d with
    | none => rw [q] at p; exact p.elim
    | some es =>
      rw [q] at p
      obtain ⟨a, zs, rfl, hq, hr⟩ := seqAt_rel rl h q
      refine ⟨a, zs, rfl, by rw [cc.k]; exact hq, fun l hl => ?_⟩
      exact post_new p rl hl (.lv (rl.no hl) upd_same (hr.mono (Le.new hl)))
  · exact p.elim
theorem fns_tuple (cc : Cc G X W) : FnS G X W (.type "tuple") tupleF := FnS.of call_tuple_of fun ρ S H ds xs Q E rl r p => by
  unfold tupleF at p
  split at p
  · obtain ⟨x, rfl, h⟩ := rvs1 r
    cases h with
    | tup ht hr => exact ⟨_, _, rfl, .inr ⟨SqT.of ht, post_ok p rl (.tup ht hr)⟩⟩
  · rename_i d _
    obtain ⟨x, rfl, h⟩ := rvs1 r
    cases q : listAt S d with
    | none => rw [q] at p; exact p.elim
    | some es =>
      rw [q] at p
      obtain ⟨a, zs, rfl, hq, hr⟩ := listAt_rel rl h q
      exact ⟨a, zs, rfl, .inl ⟨by rw [cc.k]; exact hq, fun l hl => post_new p rl hl (.tup upd_same (hr.mono (Le.new hl)))⟩⟩
  · exact p.elim
theorem fns_sum (cc : Cc G X W) : FnS G X W (.builtin "sum") sumF := FnS.of (cr_sum cc.calm) fun ρ S H ds xs Q E rl r p => by
  unfold sumF at p
  split at p
  · rename_i d
    obtain ⟨x, rfl, h⟩ := rvs1 r
    cases q : listAt S d with
    | none => rw [q] at p; exact p.elim
    | some es =>
      cases q2 : asInts es with
      | none => rw [q, Option.bind_some, q2] at p; exact p.elim
      | some ns =>
        rw [q, Option.bind_some, q2] at p
        obtain ⟨a, zs, rfl, hq, hr⟩ := listAt_rel rl h q
        exact ⟨a, ns, rfl, by rw [cc.k, ← asInts_rel hr q2]; exact hq, post_ok p rl (.int _)⟩
  · exact p.elim
theorem fns_all (cc : Cc G X W) : FnS G X W (.builtin "all") allF := FnS.of (cr_all cc.calm) fun ρ S H ds xs Q E rl r p => by
  unfold allF at p
  split at p
  · rename_i d
    obtain ⟨x, rfl, h⟩ := rvs1 r
    cases q : listAt S d with
    | none => rw [q] at p; exact p.elim
    | some es =>
      cases q2 : asBools es with
      | none => rw [q, Option.bind_some, q2] at p; exact p.elim
      | some ns =>
        rw [q, Option.bind_some, q2] at p
        obtain ⟨a, zs, rfl, hq, hr⟩ := listAt_rel rl h q
        exact ⟨a, ns, rfl, by rw [cc.k, ← asBools_rel hr q2]; exact hq, post_ok p rl (.bl _)⟩
  · exact p.elim
theorem fns_any (cc : Cc G X W) : FnS G X W (.builtin "any") anyF := FnS.of (cr_any cc.calm) fun ρ S H ds xs Q E rl r p => by
  unfold anyF at p
  split at p
  · rename_i d
    obtain ⟨x, rfl, h⟩ := rvs1 r
    cases q : listAt S d with
    | none => rw [q] at p; exact p.elim
    | some es =>
      cases q2 : asBools es with
      | none => rw [q, Option.bind_some, q2] at p; exact p.elim
      | some ns =>
        rw [q, Option.bind_some, q2] at p
        obtain ⟨a, zs, rfl, hq, hr⟩ := listAt_rel rl h q
        exact ⟨a, ns, rfl, by rw [cc.k, ← asBools_rel hr q2]; exact hq, post_ok p rl (.bl _)⟩
  · exact p.elim

/-! ### what loops walk -/
variable {e tg : Expr} {m : ME} {pos p : Pos}
theorem si_of {wi : TI} {mi : MI} {iter : Expr} (h : PI X tg iter wi) (i : ∀ σ H R ρ σs S, Rl G ρ S H → RE G ρ H σs σ → PostI G ρ H (mi σs S) R (EW W σ) → wi σ H R) : SI G X W tg iter mi :=
  PI.weak h fun σ H R ⟨ρ, σs, S, rl, re, p⟩ => i σ H R ρ σs S rl re p
theorem jr_list {ρ0 : Wd} {H0 : Hp} {d : D} {a : Addr} (rv : RV G ρ0 H0 d (.ref a)) : JR G ρ0 H0 (fun k S' => (listAt S' d).map fun ds => ds[k]?) (Itl G.K a) := by
  intro ρ S H l kz rl i
  refine ⟨fun e h => ?_, fun h => ?_⟩
  · cases q : listAt S d with
    | none => simp only [q] at h; cases h
    | some ds =>
      simp only [q, Option.map_some, Option.some.injEq] at h
      obtain ⟨b, xs, e1, hq, hr⟩ := listAt_rel rl (rv.move l) q
      cases e1
      obtain ⟨x, h1, h2⟩ := hr.get h
      refine ⟨⟨xs, x, hq, h1⟩, fun y H' hy => ?_⟩
      obtain ⟨e2, hy⟩ := hy
      subst e2
      have := hy xs hq
      rw [h1] at this
      cases this
      exact ⟨Le.refl, rl, h2⟩
  · cases q : listAt S d with
    | none => simp only [q] at h; cases h
    | some ds =>
      simp only [q, Option.map_some, Option.some.injEq] at h
      obtain ⟨b, xs, e1, hq, hr⟩ := listAt_rel rl (rv.move l) q
      cases e1
      exact ⟨xs, hq, by rw [← hr.length]; exact List.getElem?_eq_none_iff.mp h⟩
theorem si_list (cc : Cc G X W) (h : SE G X W e m) : SI G X W tg e (iList m) := by
  refine si_of (pi_list h) fun σ H R ρ σs S rl re p => ?_
  refine ⟨ρ, σs, S, rl, re, PostR.bind (R := RV G) p fun ρ1 H1 S1 d x l1 rl1 rv1 p1 => ?_⟩
  cases q : listAt S1 d with
  | none => simp only [q] at p1; exact p1.elim
  | some ds =>
    simp only [q] at p1
    obtain ⟨a, xs, rfl, hq, hr⟩ := listAt_rel rl1 rv1 q
    refine ⟨a, rfl, ⟨xs, by rw [cc.k]; exact hq⟩, p1 ρ1 H1 _ Le.refl rl1 ?_⟩
    rw [cc.k]
    exact jr_list rv1
theorem jr_tup {ρ0 : Wd} {H0 : Hp} {ds : List D} {d : D} {a : Addr} (rv : RV G ρ0 H0 d (.ref a)) (hd : tupD d = some ds) : JR G ρ0 H0 (fun k _ => some ds[k]?) (Itt G.K a) := by
  intro ρ S H l kz rl i
  obtain ⟨b, xs, e1, hq, hr⟩ := tupD_rel (rv.move l) hd
  cases e1
  refine ⟨fun e h => ?_, fun h => ?_⟩
  · obtain ⟨x, h1, h2⟩ := hr.get (Option.some.inj h)
    refine ⟨⟨xs, x, hq, h1⟩, fun y H' hy => ?_⟩
    obtain ⟨e2, hy⟩ := hy
    subst e2
    have := hy xs hq
    rw [h1] at this
    cases this
    exact ⟨Le.refl, rl, h2⟩
  · exact ⟨xs, hq, by rw [← hr.length]; exact List.getElem?_eq_none_iff.mp (Option.some.inj h)⟩
theorem si_tup (cc : Cc G X W) (h : SE G X W e m) : SI G X W tg e (iTup m) := by
  refine si_of (pi_tup h) fun σ H R ρ σs S rl re p => ?_
  refine ⟨ρ, σs, S, rl, re, PostR.bind (R := RV G) p fun ρ1 H1 S1 d x l1 rl1 rv1 p1 => ?_⟩
  have go : ∀ {ds : List D}, tupD d = some ds → PostI G ρ1 H1 (.ok (fun k _ => some ds[k]?) S1) R (EW W σ) → ∃ a, x = .ref a ∧ (∃ xs, SqT X.K H1 a xs) ∧ R (Itt X.K a) H1 := fun {ds} hd p => by
    obtain ⟨a, xs, rfl, hq, hr⟩ := tupD_rel rv1 hd
    refine ⟨a, rfl, ⟨xs, by rw [cc.k]; exact hq⟩, p ρ1 H1 _ Le.refl rl1 ?_⟩
    rw [cc.k]
    exact jr_tup rv1 hd
  cases d with
  | tup ds => exact go rfl p1
  | kt ds => exact go rfl p1
  | _ => exact False.elim p1
theorem jr_range {ρ0 : Wd} {H0 : Hp} {lo : Int} {n : Nat} : JR G ρ0 H0 (fun k _ => some (if k < n then some (.int (lo + (k : Int))) else none)) (Itr lo n) := by
  intro ρ S H l kz rl i
  by_cases hi : i < n
  · refine ⟨fun e h => ?_, fun h => ?_⟩
    · simp only [hi, if_true, Option.some.injEq] at h
      subst h
      refine ⟨hi, fun y H' hy => ?_⟩
      obtain ⟨e2, hy⟩ := hy
      subst e2 hy
      exact ⟨Le.refl, rl, .int _⟩
    · simp only [hi, if_true] at h
      cases h
  · refine ⟨fun e h => ?_, fun h => ?_⟩
    · simp only [hi, if_false] at h
      cases h
    · exact Nat.le_of_not_lt hi
theorem i62_ok {j : Int} (h : i62 j = true) : -(2 ^ 62) ≤ j ∧ j < 2 ^ 62 := by
  unfold i62 at h
  simpa using h
theorem si_range1 (h : SA G X W [e] (aList [m])) (hg : Gl X "range") (hm : X.mg "range" = none) (hs : starEach [e] X.env = [(false, eval e X.env)] := by rfl) : SI G X W tg (.Call (.Name "range" p) [e] [] pos) (iRange1 m) := by
  refine si_of (pi_range1 hg hm h hs) fun σ H R ρ σs S rl re p => ?_
  refine ⟨ρ, σs, S, rl, re, ?_⟩
  show PostA G ρ H ((m σs S).bind fun x S1 => (Res.ok [] S1).bind fun xs S2 => .ok (x :: xs) S2) _ _
  have p' : PostI G ρ H ((m σs S).bind fun d S1 => match d with
    | .int j => if i62 j then .ok (fun k _ => some (if k < j.toNat then some (.int (0 + (k : Int))) else none)) S1 else .bad
    | _ => .bad) R (EW W σ) := p
  cases q : m σs S with
  | ok d S1 =>
    rw [q] at p'
    intro ρ1 H1 vs l1 rl1 rv1
    obtain ⟨x, rfl, h1⟩ := rvs1 rv1
    cases h1 with
    | int j =>
      have p2 : PostI G ρ H (if i62 j then .ok (fun k _ => some (if k < j.toNat then some (.int (0 + (k : Int))) else none)) S1 else .bad) R (EW W σ) := p'
      by_cases hj : i62 j = true
      · rw [if_pos hj] at p2
        exact ⟨j, rfl, (i62_ok hj).1, (i62_ok hj).2, p2 ρ1 H1 _ l1 rl1 jr_range⟩
      · rw [if_neg hj] at p2
        exact p2.elim
    | _ => exact False.elim p'
  | exc x S1 => rw [q] at p'; exact p'
  | bad => rw [q] at p'; exact p'
theorem si_range2 {a b : Expr} {ma mb : ME} (ha : SA G X W [a, b] (aList [ma, mb])) (hg : Gl X "range") (hm : X.mg "range" = none) (hs : starEach [a, b] X.env = [(false, eval a X.env), (false, eval b X.env)] := by rfl) (hs2 : starEach [b] X.env = [(false, eval b X.env)] := by rfl) : SI G X W tg (.Call (.Name "range" p) [a, b] [] pos) (iRange2 ma mb) := by
  refine si_of (pi_range2 hg hm ha hs hs2) fun σ H R ρ σs S rl re p => ?_
  refine ⟨ρ, σs, S, rl, re, PostR.bind (R := RVs G) p fun ρ1 H1 S1 ds vs l1 rl1 rv1 p1 => ?_⟩
  split at p1
  · rename_i i j
    obtain ⟨x, y, rfl, h1, h2⟩ := rvs2 rv1
    cases h1 with
    | int i =>
      cases h2 with
      | int j =>
        by_cases hj : (i62 i && i62 j) = true
        · rw [if_pos hj] at p1
          rw [Bool.and_eq_true] at hj
          exact ⟨i, j, rfl, ⟨(i62_ok hj.1).1, (i62_ok hj.1).2, (i62_ok hj.2).1, (i62_ok hj.2).2⟩, p1 ρ1 H1 _ Le.refl rl1 jr_range⟩
        · rw [if_neg hj] at p1
          exact p1.elim
  · exact p1.elim
end
end L2.Mi

set_option Elab.async false
set_option linter.all false
set_option maxRecDepth 100000
set_option maxHeartbeats 4000000
/-! Mini, 6: defs, classes, methods, attributes. -/
namespace L2.Mi
open PySem PySem.Spec PyProof.Rows

abbrev FN := List D → Store → Res D
def spF (G : Gx) (m : FN) (n : Nat) : Sp := fun vs H Q E => ∃ ρ S ds, vs.length = n ∧ Rl G ρ S H ∧ RVs G ρ H ds vs ∧ Post G ρ H (m ds S) Q E
/-- a def's run by its body's: n slots -/
def bodyRun (n : Nat) (ms : MS) : FN := fun ds S => match ms (ds.map some ++ List.replicate (n - ds.length) none) S with
  | .rt d S1 => .ok d S1
  | .nx _ S1 => .ok .non S1
  | .exc x _ S1 => .exc x S1
  | _ => .bad
abbrev WF (E : XK) : WX := fun c d _ H' => E c d H'
section
variable {G : Gx} {P : Program} {w : World} {mg : Str → Option Value} {base : Heap} {N ps : List Str} {x qual : Str} {params : Arguments} {body : List Stmt} {scope : Scope} {dvs : List V} {kws : List (Str × V)} {f : Addr} {fd : FuncData} {k : Nat} {ms : MS}
theorem re_start {ρ : Wd} {H : Hp} : ∀ {ds : List D} {vs : List V}, RVs G ρ H ds vs → RE G ρ H (ds.map some ++ List.replicate (N.length - ds.length) none) (start N vs) := by
  intro ds vs r
  have hl := r.length
  refine ⟨by unfold start; simp [hl], fun i d h => ?_⟩
  by_cases hi : i < ds.length
  · rw [List.getElem?_append_left (by simpa using hi), List.getElem?_map] at h
    cases q : ds[i]? with
    | none => rw [q] at h; cases h
    | some e =>
      rw [q] at h
      cases h
      obtain ⟨v, h1, h2⟩ := r.get q
      refine ⟨v, ?_, h2⟩
      unfold start
      rw [List.getElem?_append_left (by simpa [← hl] using hi), List.getElem?_map, h1]
      rfl
  · rw [List.getElem?_append_right (by simpa using hi)] at h
    obtain ⟨_, e⟩ := List.getElem?_eq_some_iff.mp h
    simp at e
theorem fnd_ok (F : FunD G.K x qual params body scope dvs kws f fd) (S : FnScope N ps scope)
    (hb : ∀ (cdv : Value) (A : Around) (outer : List Env) (s : Shared) (H : Hp) (E : XK), Room k (A.deeper (envOfC qual scope s.heap.objs.size f cdv)) →
      Cc G (cxOf (L2.CX P w) P w G.K mg base N qual scope f cdv A outer s H E) (WF E) → SSs G (cxOf (L2.CX P w) P w G.K mg base N qual scope f cdv A outer s H E) (WF E) body ms) :
    FnOk P w G.K mg base (L2.CX P w) (k + 1) f fd ps (spF G (bodyRun N.length ms) ps.length) := by
  refine F.ok S (fun vs H Q E h => ?_) (fun cdv A outer s H vs Q E hr h => ?_)
  · obtain ⟨_, _, _, h, _⟩ := h
    exact h
  · obtain ⟨ρ, St, ds, hn, rl, rv, p⟩ := h
    have cc : Cc G (cxOf (L2.CX P w) P w G.K mg base N qual scope f cdv A outer s H E) (WF E) := ⟨rfl, takes_of rfl rfl rfl rfl, passes_of rfl, rfl, S.nd⟩
    refine ⟨_, hb cdv A outer s H E hr cc, ρ, _, St, rl, re_start rv, ?_⟩
    unfold bodyRun at p
    cases q : ms (ds.map some ++ List.replicate (N.length - ds.length) none) St with
    | rt d S1 => rw [q] at p; exact p
    | nx σ1 S1 => rw [q] at p; exact fun ρ1 H1 σ' l1 rl1 re1 => p ρ1 H1 .non l1 rl1 .non
    | exc x σ1 S1 => rw [q] at p; exact fun ρ1 H1 σ' c dd l1 rl1 re1 rx => p ρ1 H1 c dd l1 rl1 rx
    | bk σ1 S1 => rw [q] at p; exact p.elim
    | ct σ1 S1 => rw [q] at p; exact p.elim
    | bad => rw [q] at p; exact p.elim
end
/-- a call with the defaults dd filled up: n parameters -/
def callW (n : Nat) (dd : List D) (m : FN) : FN := fun xs S => if xs.length + dd.length = n then m (xs ++ dd) S else .bad
/-- an object of the class c is made by its __init__ -/
def makeW (c : Nat) (m : FN) : FN := fun xs S => (m (.ref S.size :: xs) (S.push (.ins c []))).bind fun r S1 => match r with | .non => .ok (.ref S.size) S1 | _ => .bad
/-- what a callable promises: any arguments, by its run -/
def spG (G : Gx) (m : FN) : Sp := fun vs H Q E => ∃ ρ S ds, Rl G ρ S H ∧ RVs G ρ H ds vs ∧ Post G ρ H (m ds S) Q E
abbrev Cal (G : Gx) (P : Program) (w : World) (mg : Str → Option Value) (base : Heap) (k : Nat) (f : Addr) (m : FN) : Prop := FnR P w G.K mg base (L2.CX P w) k f (spG G m)
theorem cal_def {G : Gx} {P : Program} {w : World} {mg : Str → Option Value} {base : Heap} {k : Nat} {f : Addr} {fd : FuncData} {ps : List Str} {m : FN} {n : Nat} {dvs : List V} {ds : List Value} {dd : List D}
    (F : FnOk P w G.K mg base (L2.CX P w) k f fd ps (spF G m n)) (hn : n = ps.length) (hb : Binds G.K fd ps ds) (hd : Vals dvs ds) (hdd : ∀ ρ H, RVs G ρ H dd dvs) : Cal G P w mg base k f (callW n dd m) := by
  intro A outer s H us vs Q E hr e0 r h
  obtain ⟨ρ, S, es, rl, rv, p⟩ := h
  unfold callW at p
  by_cases hl : es.length + dd.length = n
  · rw [if_pos hl] at p
    have hlen : vs.length + dvs.length = n := by rw [← rv.length, ← (hdd ρ H).length]; exact hl
    have KX : G.K.In s.heap := e0.mod.kin.keeps fun b o e => (e0.bs b o e).1
    refine F.run A outer s H ⟨us, []⟩ (us ++ ds) (vs ++ dvs) Q E hr e0 (hb s us KX ?_) (r.append hd) ⟨ρ, S, es ++ dd, ?_, rl, rv.append (hdd ρ H), p⟩
    · rw [List.length_append, ← r.length, ← hd.length, ← hn]; exact hlen
    · rw [List.length_append]; exact hlen
  · rw [if_neg hl] at p
    exact p.elim
section
variable {G : Gx} {X : Cx} {W : WX} {k : Nat} {f C : Addr} {m : FN} {n : Nat} {dd : List D}
theorem run_fnRS {pins : List (Addr × Obj)} {σ : St} {H : Hp} {s : Shared} {Q : VK} {us : List Value} {vs : List V} {CX : CXT} {sp : Sp} {E : XK} (F : FnR X.prog X.w X.K X.mg X.base CX k f sp) (hr : Room k X.A) (hx : PassesAt CX X σ E)
    (I : Inv X pins σ H s) (r : Vals vs us) (h : sp vs H Q E) : wpAny (model X.prog X.w) X.A (call (.ref f) us) (EP X pins σ Q) X.xe s := by
  refine wpAny_call (codeAny_mono (F X.A X.stack s H us vs Q E hr I.env0 r h) fun r s' hq => ?_)
  cases r with
  | error e => exact hx pins H s e s' I hq
  | ok fl =>
    cases fl with
    | ret u => exact I.after hq
    | next => exact False.elim hq
    | brk => exact False.elim hq
    | cont => exact False.elim hq
theorem fns_cal (cc : Cc G X W) (F : Cal G X.prog X.w X.mg X.base k f m) (hr : Room k X.A) : FnS G X W (.ref f) m := by
  intro pins s σ H xs us Q ρ S es I r rl rv p
  have F' : FnR X.prog X.w X.K X.mg X.base (L2.CX X.prog X.w) k f (spG G m) := by rw [cc.k]; exact F
  exact run_fnRS (E := EW W σ) F' hr (passAt cc.tk σ) I r ⟨ρ, S, es, rl, rv, p⟩
theorem run_makeS {pins : List (Addr × Obj)} {σ : St} {H : Hp} {s : Shared} {Q : VK} {us : List Value} {vs : List V} {CX : CXT} {sp : Sp} {E : XK} (M : Mk X.K C f) (F : FnR X.prog X.w X.K X.mg X.base CX k f sp) (hr : Room (k + 1) X.A)
    (hx : PassesAt CX X σ E) (I : Inv X pins σ H s) (r : Vals vs us)
    (h : ∀ x dx, H x = none → H dx = none → dx ≠ x → sp (.ref x :: vs) (upd (upd H dx (.own x)) x (.ins C dx [])) (fun v H2 => v = .non ∧ Q (.ref x) H2) E) :
    wpAny (model X.prog X.w) X.A (call (.ref C) us) (EP X pins σ Q) X.xe s := by
  have hq := h (s.heap.objs.size + 1) s.heap.objs.size (I.hok.fresh (Nat.le_succ _)) (I.hok.fresh (Nat.le_refl _)) (Nat.ne_of_lt (Nat.lt_succ_self _))
  have I2 := Inv.made (C := C) I
  have r2 : Vals (V.ref (s.heap.objs.size + 1) :: vs) (Value.ref (s.heap.objs.size + 1) :: us) := .cons rfl r
  refine wpAny_call (make_map (f := f) I.kIn M.makes M.init (beq_iff_eq.mp M.fn) (codeAny_mono (F _ X.stack _ _ (Value.ref (s.heap.objs.size + 1) :: us) _ _ E (hr.make C us [])
    (I2.env0.make C us []) r2 hq) fun r s' hq' => ?_))
  cases r with
  | error e => exact hx pins _ _ e s' I2 hq'
  | ok fl =>
    cases fl with
    | ret u =>
      obtain ⟨v, H', I3, rv, ev, q3⟩ := I2.after hq'
      subst ev
      exact ⟨rv, ⟨V.ref (s.heap.objs.size + 1), H', I3, rfl, q3⟩⟩
    | next => exact False.elim hq'
    | brk => exact False.elim hq'
    | cont => exact False.elim hq'
theorem fns_make {c : Nat} (cc : Cc G X W) (hC : G.cls c = some C) (M : Mk X.K C f) (F : Cal G X.prog X.w X.mg X.base k f m) (hr : Room (k + 1) X.A) : FnS G X W (.ref C) (makeW c m) := by
  intro pins s σ H xs us Q ρ S es I r rl rv p
  unfold makeW at p
  have F' : FnR X.prog X.w X.K X.mg X.base (L2.CX X.prog X.w) k f (spG G m) := by rw [cc.k]; exact F
  refine run_makeS (E := EW W σ) M F' hr (passAt cc.tk σ) I r fun a dx ha hdx hne => ?_
  have ha1 : L2.upd H dx (.own a) a = none := by rw [upd_ne (Ne.symm hne)]; exact ha
  have l1 : Le G ρ H ρ (L2.upd H dx (.own a)) := Le.new hdx
  have rl1 := rl.other (o := .own a) hdx
  have l2 : Le G ρ (L2.upd H dx (.own a)) (ρ.push a) (L2.upd (L2.upd H dx (.own a)) a (.ins C dx [])) := Le.push ha1
  have rl2 : Rl G (ρ.push a) (S.push (.ins c [])) (L2.upd (L2.upd H dx (.own a)) a (.ins C dx [])) := rl1.push ha1 (.ins hC .nil)
  have l12 := l1.trans l2
  refine ⟨ρ.push a, S.push (.ins c []), .ref S.size :: es, rl2, .cons (RV.new rl1) (rv.mono l12), ?_⟩
  refine PostR.bind (R := RV G) (PostR.le p l12) fun ρ3 H3 S3 d v l3 rl3 rv3 p3 => ?_
  cases rv3 with
  | non =>
    refine ⟨rfl, post_ok (S := S3) p3 rl3 (.ref (pre_get l3.pre ?_))⟩
    rw [← rl1.len]
    simp [Wd.push]
  | _ => exact False.elim p3
end
section
variable {G : Gx} {X : Cx} {W : WX} {e o : Expr} {es : List Expr} {x name : Str} {p pos apos : Pos} {f : Addr} {m : FN} {ma : MA} {mo mv : ME}
/-- f(e, ..) -/
theorem se_call (hc : FnS G X W (.ref f) m) (hg : Gl X x) (hm : X.mg x = some (.ref f)) (hk : PySem.W.keepIn X.K (.ref f) = true) (ha : SA G X W (e :: es) ma) (hdb : (x == ("__debug__" : Str)) = false := by decide)
    (he : starEach (e :: es) X.env = (false, eval e X.env) :: starEach es X.env := by rfl) (hpl : (backTo pos (starEach es X.env)).any (·.1) = false := by rfl) : SE G X W (.Call (.Name x p) (e :: es) [] pos) (eFn m ma) := by
  refine ⟨fun pins s σ H Q I ⟨ρ, σs, S, rl, re, p⟩ => ?_⟩
  refine wpAny_Call_Name_kw (ld_glob I hg hm ?_ hdb)
  refine PySem.W.callWith_K (h₀ := X.base) I.ok.mod.kin hk (ha.go I rl re p fun us s1 xs H1 ρ1 S1 ds I1 rx l1 rl1 re1 rv1 p1 => ⟨I1.kIn, hc pins s1 σ H1 xs us Q ρ1 S1 ds I1 rx rl1 rv1 p1⟩) he hpl
theorem se_call0 (hc : FnS G X W (.ref f) m) (hg : Gl X x) (hm : X.mg x = some (.ref f)) (hk : PySem.W.keepIn X.K (.ref f) = true) (hdb : (x == ("__debug__" : Str)) = false := by decide) : SE G X W (.Call (.Name x p) [] [] pos) (eFn m (aList [])) := by
  refine ⟨fun pins s σ H Q I ⟨ρ, σs, S, rl, re, p⟩ => ?_⟩
  refine wpAny_Call_Name_kw (ld_glob I hg hm ?_ hdb)
  exact PySem.W.callWith_K0 I.kIn hk (hc pins s σ H [] [] Q ρ S [] I .nil rl .nil p)
/-- o.m(e, ..): by the class of o -/
abbrev Disp := Nat → Option FN
def eMeth (ds : Disp) (fi : Nat) (mo : ME) (ma : MA) : ME := fun σ S => (mo σ S).bind fun o S1 => match o with
  | .ref i => (match S1.get i with
    | some (.ins c fs) => (match ds c, fs.lookup fi with
      | some g, none => (ma σ S1).bind fun xs S2 => g (.ref i :: xs) S2
      | _, _ => .bad)
    | _ => .bad)
  | _ => .bad
structure MethS (G : Gx) (X : Cx) (W : WX) (name : Str) (c : Nat) (g : FN) : Prop where
  ex : ∃ C f, G.cls c = some C ∧ Cls X.K C ∧ Meth X.K C name f ∧ FnS G X W (.ref f) g
theorem rfs_lookup {ρ : Wd} {H : Hp} {fi : Nat} : ∀ {fs : List (Nat × D)} {us : List (Str × V)}, RFs G ρ H fs us → (fs.lookup fi = none ∧ us.lookup (G.fld fi) = none) ∨ ∃ d v, fs.lookup fi = some d ∧ us.lookup (G.fld fi) = some v ∧ RV G ρ H d v
  | _, _, .nil => .inl ⟨rfl, rfl⟩
  | _, _, .cons (n := n) (d := d) (v := v) (fs := fs) (us := us) r t => by
    by_cases h : fi = n
    · subst h
      exact .inr ⟨d, v, by simp [List.lookup], by simp [List.lookup], r⟩
    · have h1 : (fi == n) = false := by simp [h]
      have h2 : (G.fld fi == G.fld n) = false := beq_eq_false_iff_ne.mpr fun e => h (G.inj _ _ e)
      simp only [List.lookup, h1, h2]
      exact rfs_lookup t
theorem se_meth {ds : Disp} {fi : Nat} {pl : Sem Bool} (cc : Cc G X W) (he : SE G X W o mo) (hf : G.fld fi = name) (hd : ∀ c g, ds c = some g → MethS G X W name c g) (ha : SA G X W (e :: es) ma)
    (hst : starEach (e :: es) X.env = (false, eval e X.env) :: starEach es X.env := by rfl) (hpl : (backTo pos (starEach es X.env)).any (·.1) = false := by rfl)
    (ht : eval (.Call (.Attribute o name apos) (e :: es) [] pos) X.env = (do
      let ov ← eval o X.env
      standAt apos.atName
      let (f, first) ← holding [ov] (getMethod ov name pl)
      callWith pos f first (backTo pos (starEach (e :: es) X.env)) (backToKw pos (keywordEach [] X.env))) := by rfl) : SE G X W (.Call (.Attribute o name apos) (e :: es) [] pos) (eMeth ds fi mo ma) := by
  refine ⟨fun pins s σ H Q I ⟨ρ, σs, S, rl, re, p⟩ => ?_⟩
  refine PySem.W.methodCall_KW (pl := pl) (he.go I rl re p fun u s1 x H1 ρ1 S1 d I1 rx l1 rl1 re1 rv1 p1 => ?_) ht
  cases rv1 with
  | @ref i a hi =>
    obtain rfl : u = Value.ref a := rx
    cases q : S1.get i with
    | none => simp only [q] at p1; exact p1.elim
    | some ob =>
      obtain ⟨h, hu, ro⟩ := rl1.at hi q
      cases ro with
      | @ins c C dx fs us hC hfs =>
        simp only [q] at p1
        cases q2 : ds c with
        | none => simp only [q2] at p1; exact p1.elim
        | some g =>
          rcases rfs_lookup (fi := fi) hfs with ⟨h1, h2⟩ | ⟨d, v, h1, h2, _⟩
          · simp only [q2, h1] at p1
            obtain ⟨C', f, hC', hcl, hmt, hfn⟩ := (hd c g q2).ex
            rw [hC] at hC'
            cases hC'
            refine getmeth_ok I1 hu hcl hmt (by rw [← hf]; exact h2) ?_
            refine PySem.W.callWith_K (first := [.ref a]) (h₀ := X.base) I.ok.mod.kin hmt.kp (ha.go I1 rl1 re1 p1 fun us s2 xs H2 ρ2 S2 ds I2 rx2 l2 rl2 re2 rv2 p2 => ⟨I2.kIn, ?_⟩) hst hpl
            exact hfn pins s2 σ H2 (.ref a :: xs) (.ref a :: us) Q ρ2 S2 (.ref i :: ds) I2 (.cons rfl rx2) rl2 (.cons (.ref (pre_get l2.pre hi)) rv2) p2
          · simp only [q2, h1] at p1
            exact p1.elim
      | _ => simp only [q] at p1; exact p1.elim
  | _ => exact False.elim p1
theorem se_meth0 {ds : Disp} {fi : Nat} {pl : Sem Bool} (cc : Cc G X W) (he : SE G X W o mo) (hf : G.fld fi = name) (hd : ∀ c g, ds c = some g → MethS G X W name c g)
    (ht : eval (.Call (.Attribute o name apos) [] [] pos) X.env = (do
      let ov ← eval o X.env
      standAt apos.atName
      let (f, first) ← holding [ov] (getMethod ov name pl)
      callWith pos f first (backTo pos (starEach [] X.env)) (backToKw pos (keywordEach [] X.env))) := by rfl) : SE G X W (.Call (.Attribute o name apos) [] [] pos) (eMeth ds fi mo (aList [])) := by
  refine ⟨fun pins s σ H Q I ⟨ρ, σs, S, rl, re, p⟩ => ?_⟩
  refine PySem.W.methodCall_KW (pl := pl) (he.go I rl re p fun u s1 x H1 ρ1 S1 d I1 rx l1 rl1 re1 rv1 p1 => ?_) ht
  cases rv1 with
  | @ref i a hi =>
    obtain rfl : u = Value.ref a := rx
    cases q : S1.get i with
    | none => simp only [q] at p1; exact p1.elim
    | some ob =>
      obtain ⟨h, hu, ro⟩ := rl1.at hi q
      cases ro with
      | @ins c C dx fs us hC hfs =>
        simp only [q] at p1
        cases q2 : ds c with
        | none => simp only [q2] at p1; exact p1.elim
        | some g =>
          rcases rfs_lookup (fi := fi) hfs with ⟨h1, h2⟩ | ⟨d, v, h1, h2, _⟩
          · simp only [q2, h1] at p1
            obtain ⟨C', f, hC', hcl, hmt, hfn⟩ := (hd c g q2).ex
            rw [hC] at hC'
            cases hC'
            refine getmeth_ok I1 hu hcl hmt (by rw [← hf]; exact h2) ?_
            exact PySem.W.callWith_K0 (first := [.ref a]) I1.kIn hmt.kp (hfn pins s1 σ H1 [.ref a] [.ref a] Q ρ1 S1 [.ref i] I1 (.cons rfl .nil) rl1 (.cons (.ref hi) .nil) p1)
          · simp only [q2, h1] at p1
            exact p1.elim
      | _ => simp only [q] at p1; exact p1.elim
  | _ => exact False.elim p1
/-- o.f: a field (none), a property (its getter) -/
abbrev ADisp := Nat → Option (Option FN)
def noExc (r : Res D) : Res D := match r with | .exc _ _ => .bad | r => r
def attrF (ds : ADisp) (fi : Nat) (o : D) (S : Store) : Res D := match o with
  | .ref i => (match S.get i with
    | some (.ins c fs) => (match ds c with
      | some none => (match fs.lookup fi with | some d => .ok d S | none => .bad)
      | some (some g) => noExc (g [.ref i] S)
      | none => .bad)
    | _ => .bad)
  | _ => .bad
structure FieldS (G : Gx) (X : Cx) (name : Str) (c : Nat) : Prop where
  ex : ∃ C, G.cls c = some C ∧ Cls X.K C ∧ NoAttr X.K C name
/-- the getter's promise -/
structure PropS (G : Gx) (X : Cx) (name : Str) (c : Nat) (g : FN) : Prop where
  ex : ∃ C p f k, G.cls c = some C ∧ Cls X.K C ∧ PropOf X.K C name p f ∧ FnR X.prog X.w X.K X.mg X.base (L2.CX X.prog X.w) k f (spG G g) ∧ Room (k + 1) X.A
theorem getprop_okR {C p g a dx : Addr} {fs : List (Str × V)} {f : Str} {k : Nat} {CX : CXT} {sp : Sp} {E : XK} {pins : List (Addr × Obj)} {σ : St} {H : Hp} {s : Shared} {Q : VK} {b : Bool} {E' : Value → Shared → Prop} (I : Inv X pins σ H s) (ea : H a = some (.ins C dx fs)) (c : Cls X.K C) (hp : PropOf X.K C f p g)
    (F : FnR X.prog X.w X.K X.mg X.base CX k g sp) (hr : Room (k + 1) X.A) (hx : Passes CX X.nox E) (h : sp [.ref a] H Q E) :
    wpAny (model X.prog X.w) X.A (getAttr (.ref a) f b) (EP X pins σ Q) E' s := by
  obtain ⟨mA, O, _, _, _, _⟩ := ins_get I.hok ea
  obtain ⟨od, J, _⟩ := O.look
  obtain ⟨rest, hrec⟩ := hp.rec_
  have I1 := I.tok (s.toks + 1)
  have hc : (PySem.W.clsIn X.K C).isSome = true := by
    obtain ⟨cd, hc, _⟩ := PySem.W.any_some c.hd
    rw [hc]
    rfl
  refine PySem.W.get_bind I.kIn J (PySem.W.plainGet_of (c.get f)).1 (PySem.W.findObj_data hc hp.at_ hp.get hp.tak) (PySem.W.plainGet_of (c.get f)).2 (wpAny_call (PySem.W.prop_get (s := { s with toks := s.toks + 1 }) I.kIn hrec ?_))
  refine codeAny_mono (F X.A.in1 X.stack { s with toks := s.toks + 1 } H [.ref a] [.ref a] Q E hr.in1 I1.env0.in1 (.cons rfl .nil) h) fun r s' hq => ?_
  cases r with
  | error er => exact False.elim (hx pins σ H { s with toks := s.toks + 1 } er s' (I1.wish _) hq)
  | ok fl =>
    cases fl with
    | ret u =>
      obtain ⟨v, H', I3, rv, q3⟩ := I1.after hq
      show wpAny _ _ (handedOut u) _ _ _
      rw [PySem.W.handedOut_of (handed_of rv)]
      exact wpAny_pure ⟨v, H', I3, rv, q3⟩
    | next => exact False.elim hq
    | brk => exact False.elim hq
    | cont => exact False.elim hq
theorem passNox {X : Cx} : Passes (L2.CX X.prog X.w) X.nox E0 := fun _ _ _ _ _ _ _ h => by
  obtain ⟨_, _, _, _, _, _, _, _, _, _, _, _, z⟩ := h
  exact z.elim
theorem se_attr {ds : ADisp} {fi : Nat} (cc : Cc G X W) (he : SE G X W o mo) (hf : G.fld fi = name) (h1 : ∀ c, ds c = some none → FieldS G X name c) (h2 : ∀ c g, ds c = some (some g) → PropS G X name c g)
    (hab : attributeBase o name X.env (eval o X.env) = eval o X.env := by rfl) : SE G X W (.Attribute o name pos) (eUn (attrF ds fi) mo) := by
  refine ⟨fun pins s σ H Q I ⟨ρ, σs, S, rl, re, p⟩ => ?_⟩
  refine attr_of hab (he.go I rl re p fun u s1 x H1 ρ1 S1 d I1 rx l1 rl1 re1 rv1 p1 => ?_)
  cases rv1 with
  | @ref i a hi =>
    obtain rfl : u = Value.ref a := rx
    unfold attrF at p1
    cases q : S1.get i with
    | none => simp only [q] at p1; exact p1.elim
    | some ob =>
      obtain ⟨h, hu, ro⟩ := rl1.at hi q
      cases ro with
      | @ins c C dx fs us hC hfs =>
        simp only [q] at p1
        cases q2 : ds c with
        | none => simp only [q2] at p1; exact p1.elim
        | some og =>
          cases og with
          | none =>
            rcases rfs_lookup (fi := fi) hfs with ⟨e1, e2⟩ | ⟨d, v, e1, e2, rv⟩
            · simp only [q2, e1] at p1
              exact p1.elim
            · simp only [q2, e1] at p1
              obtain ⟨C', hC', hcl, hna⟩ := (h1 c q2).ex
              rw [hC] at hC'
              cases hC'
              exact getattr_ok I1 hu hcl hna (by rw [← hf]; exact e2) fun u' s2 I2 ru => ⟨v, H1, I2, ru, post_ok p1 rl1 rv⟩
          | some g =>
            simp only [q2] at p1
            obtain ⟨C', pa, f, k, hC', hcl, hpo, F, hr⟩ := (h2 c g q2).ex
            rw [hC] at hC'
            cases hC'
            refine getprop_okR I1 hu hcl hpo F hr passNox ⟨ρ1, S1, [.ref i], rl1, .cons (.ref hi) .nil, ?_⟩
            cases q3 : g [.ref i] S1 with
            | ok d2 S2 => rw [q3] at p1; exact p1
            | exc x S2 => rw [q3] at p1; exact False.elim p1
            | bad => rw [q3] at p1; exact p1
      | _ => simp only [q] at p1; exact p1.elim
  | _ => exact False.elim p1
/-- o.f = e -/
def putN (n : Nat) (d : D) : List (Nat × D) → List (Nat × D)
  | [] => [(n, d)]
  | (k, e) :: r => if k = n then (k, d) :: r else (k, e) :: putN n d r
theorem putN_rel {ρ : Wd} {H : Hp} {fi : Nat} {d : D} {v : V} (rv : RV G ρ H d v) : ∀ {fs : List (Nat × D)} {us : List (Str × V)}, RFs G ρ H fs us → RFs G ρ H (putN fi d fs) (putF (G.fld fi) v us)
  | _, _, .nil => .cons rv .nil
  | _, _, .cons (n := n) (d := e) (v := y) (fs := fs) (us := us) r t => by
    unfold putN putF
    by_cases h : n = fi
    · subst h
      rw [if_pos rfl, if_pos rfl]
      exact .cons rv t
    · rw [if_neg h, if_neg fun q => h (G.inj _ _ q)]
      exact .cons r (putN_rel rv t)
def fldSet (ok : Nat → Bool) (fi : Nat) (o v : D) (S : Store) : Option Store := match o with
  | .ref i => (match S.get i with
    | some (.ins c fs) => if ok c && decide (fs.length < 900) then some (S.set i (.ins c (putN fi v fs))) else none
    | _ => none)
  | _ => none
def sFld (ok : Nat → Bool) (fi : Nat) (mo mv : ME) : MS := fun σ S => match (mv σ S).bind fun v S1 => (mo σ S1).bind fun o S2 => (match fldSet ok fi o v S2 with | some S3 => Res.ok () S3 | none => .bad) with
  | .ok _ S3 => .nx σ S3
  | .exc x S3 => .exc x σ S3
  | .bad => .bad
theorem ss_fld {ok : Nat → Bool} {fi : Nat} {pos' : Pos} (cc : Cc G X W) (ha : SE G X W o mo) (hv : SE G X W e mv) (hf : G.fld fi = name) (hok : ∀ c, ok c = true → FieldS G X name c)
    (hs : swapsWith e (some (.Attribute o name pos')) pos.line X.env = pure false := by rfl) : SS G X W (.Assign [.Attribute o name pos'] e pos) (sFld ok fi mo mv) := by
  refine ss_of (ps_fld ha hv hs) fun σ H Dn ρ σs S rl re p => ?_
  have p0 : PostR (α := Unit) (β := Unit) G (fun _ _ _ _ => True) ρ H ((mv σs S).bind fun v S1 => (mo σs S1).bind fun o S2 => (match fldSet ok fi o v S2 with | some S3 => Res.ok () S3 | none => .bad)) (fun _ H' => Dn.nx σ H') (EW W σ) := by
    unfold sFld at p
    cases q : ((mv σs S).bind fun v S1 => (mo σs S1).bind fun o S2 => (match fldSet ok fi o v S2 with | some S3 => Res.ok () S3 | none => .bad)) with
    | ok x S3 => rw [q] at p; exact fun ρ1 H1 _ l1 rl1 _ => p ρ1 H1 σ l1 rl1 (re.mono l1)
    | exc x S3 => rw [q] at p; exact fun ρ1 H1 c dd l1 rl1 rx => p ρ1 H1 σ c dd l1 rl1 (re.mono l1) rx
    | bad => rw [q] at p; exact p.elim
  refine ⟨ρ, σs, S, rl, re, PostR.bind (R := RV G) p0 fun ρ1 H1 S1 d y l1 rl1 rv1 p1 => ?_⟩
  refine ⟨ρ1, σs, S1, rl1, re.mono l1, PostR.bind (R := RV G) p1 fun ρ2 H2 S2 od x l2 rl2 rv2 p2 => ?_⟩
  cases rv2 with
  | @ref i a hi =>
    unfold fldSet at p2
    cases q : S2.get i with
    | none => simp only [q] at p2; exact p2.elim
    | some ob =>
      obtain ⟨h, hu, ro⟩ := rl2.at hi q
      cases ro with
      | @ins c C dx fs us hC hfs =>
        simp only [q] at p2
        by_cases hk : (ok c && decide (fs.length < 900)) = true
        · rw [if_pos hk] at p2
          rw [Bool.and_eq_true, decide_eq_true_eq] at hk
          obtain ⟨C', hC', hcl, hna⟩ := (hok c hk.1).ex
          rw [hC] at hC'
          cases hC'
          refine ⟨a, C, dx, us, rfl, hu, hcl, hna, by rw [← hfs.length]; omega, ?_⟩
          rw [← hf]
          exact p2 ρ2 _ () (rl2.leUpd hi hu trivial) (rl2.set hi q hu trivial (.ins hC (putN_rel (rv1.mono l2) hfs))) trivial
        · rw [if_neg hk] at p2
          exact p2.elim
      | _ => simp only [q] at p2; exact p2.elim
  | _ => exact False.elim p2
end
end L2.Mi

set_option Elab.async false
set_option linter.all false
set_option maxRecDepth 100000
set_option maxHeartbeats 4000000
/-! Mini, 7: types, operators of own classes, instances called. -/
namespace L2.Mi
open PySem PySem.Spec PyProof.Rows

def tagOf (S : Store) : D → Option Tag
  | .non => some (.b "NoneType")
  | .bl _ => some (.b "bool")
  | .int _ => some (.b "int")
  | .str _ => some (.b "str")
  | .tup _ => some (.b "tuple")
  | .kt _ => some (.b "tuple")
  | .lv _ => some (.b "list")
  | .dv _ _ => none
  | .ref i => (match S.get i with
    | some (.lst _) => some (.b "list")
    | some (.lck (.lst _)) => some (.b "list")
    | some (.dic _ _) => some (.b "dict")
    | some (.ins c _) => some (.o c)
    | _ => none)
  | _ => none
def clsTag : D → Option Tag
  | .ty n => some (.b n)
  | .cl c => some (.o c)
  | _ => none
section
variable {G : Gx} {X : Cx} {W : WX} {ρ : Wd} {S : Store} {H : Hp} {d : D} {x : V} {t : Tag}
theorem tag_rel (rl : Rl G ρ S H) (rv : RV G ρ H d x) (h : tagOf S d = some t) : ∃ tv, tagVal G.cls t = some tv ∧ TyX G.K H x tv := by
  cases rv with
  | non => cases h; exact ⟨_, rfl, .base .non⟩
  | bl b => cases h; exact ⟨_, rfl, .base (.bl b)⟩
  | int i => cases h; exact ⟨_, rfl, .base (.int i)⟩
  | str l => cases h; exact ⟨_, rfl, .base (.str _)⟩
  | tup ht hr => cases h; exact ⟨_, rfl, .base (.tup ht)⟩
  | kt ht hr =>
    cases h
    rcases ht with (ht | ⟨o, ht⟩) | ⟨o, its, n, hk, hc, _⟩
    · cases ht
    · cases ht
    · exact ⟨_, rfl, .kTuple hk hc⟩
  | lv n ht hr => cases h; exact ⟨_, rfl, .base (.lst ht)⟩
  | @ref i a hi =>
    unfold tagOf at h
    cases q : S.get i with
    | none => simp only [q] at h; cases h
    | some o =>
      obtain ⟨u, hu, ro⟩ := rl.at hi q
      cases ro with
      | lst r => simp only [q] at h; cases h; exact ⟨_, rfl, .base (.lst hu)⟩
      | dK r => simp only [q] at h; cases h; exact ⟨_, rfl, .base (.dK hu)⟩
      | dT r => simp only [q] at h; cases h; exact ⟨_, rfl, .base (.dT hu)⟩
      | @ins c C dx fs us hC hfs =>
        simp only [q] at h
        cases h
        have z := G.ci c C hC
        exact ⟨.ref C, by show (G.cls c).map Value.ref = _; rw [hC]; rfl, .base (.ins hu z.cl z.ha z.hn z.htk z.hm)⟩
      | lck r =>
        cases r with
        | lst r => simp only [q] at h; cases h; exact ⟨_, rfl, .base (.frz hu)⟩
        | _ => simp only [q] at h; cases h
  | _ => cases h
theorem clsTag_rel (rv : RV G ρ H d x) (h : clsTag d = some t) : ∃ tv, tagVal G.cls t = some tv ∧ ClsV x tv := by
  cases rv with
  | ty n => cases h; exact ⟨_, rfl, .ty n⟩
  | @cl c C hC => cases h; exact ⟨.ref C, by show (G.cls c).map Value.ref = _; rw [hC]; rfl, .own C⟩
  | _ => cases h
end
def isiF (isi : Tag → Tag → Option Bool) : FN := fun ds S => match ds with
  | [d, c] => (match tagOf S d, clsTag c with
    | some t, some u => (match isi t u with | some b => .ok (.bl b) S | none => .bad)
    | _, _ => .bad)
  | _ => .bad
section
variable {G : Gx} {X : Cx} {W : WX}
theorem fns_isi (cc : Cc G X W) : FnS G X W (.builtin "isinstance") (isiF G.isi) := FnS.of call_isi fun ρ S H ds xs Q E rl r p => by
  unfold isiF at p
  split at p
  · rename_i d c
    obtain ⟨x, y, rfl, h1, h2⟩ := rvs2 r
    cases q1 : tagOf S d with
    | none => simp only [q1] at p; exact p.elim
    | some t =>
      cases q2 : clsTag c with
      | none => simp only [q1, q2] at p; exact p.elim
      | some u =>
        cases q3 : G.isi t u with
        | none => simp only [q1, q2, q3] at p; exact p.elim
        | some b =>
          simp only [q1, q2, q3] at p
          obtain ⟨tv, e1, ty⟩ := tag_rel rl h1 q1
          obtain ⟨uv, e2, cv⟩ := clsTag_rel h2 q2
          exact ⟨x, y, tv, uv, b, rfl, cv, by rw [cc.k]; exact ty, by rw [cc.k]; exact G.isi_ok t u b tv uv q3 e1 e2, post_ok p rl (.bl b)⟩
  · exact p.elim
/-- a built-in class as a value -/
theorem se_bltn {x : Str} {n : String} {pos : Pos} (hg : Gl X x) (hm : X.mg x = none) (hv : bootBuiltins x = some (.type n)) (hn : x ≠ "__name__" := by decide) (hd : (x == ("__debug__" : Str)) = false := by decide) : SE G X W (.Name x pos) (eC (.ty n)) :=
  se_of (pe_bltn hg hm hv (v := .ty n) rfl hn hd) fun _ _ _ _ _ _ rl _ p => post_ok p rl (.ty n)
/-- an own class as a value -/
theorem se_cls {x : Str} {c : Nat} {C : Addr} {pos : Pos} (hg : Gl X x) (hm : X.mg x = some (.ref C)) (hC : G.cls c = some C) (hdb : (x == ("__debug__" : Str)) = false := by decide) : SE G X W (.Name x pos) (eC (.cl c)) :=
  se_of (pe_glob hg hm (v := .ref C) rfl hdb) fun _ _ _ _ _ _ rl _ p => post_ok p rl (.cl hC)

/-! ### operators of own classes -/
theorem inst_at {ρ : Wd} {S : Store} {H : Hp} {i c : Nat} {a : Addr} {fs : List (Nat × D)} (rl : Rl G ρ S H) (hi : ρ.v[i]? = some a) (q : S.get i = some (.ins c fs)) : ∃ C dx us, G.cls c = some C ∧ H a = some (.ins C dx us) := by
  obtain ⟨u, hu, ro⟩ := rl.at hi q
  cases ro with
  | @ins c C dx fs us hC hfs => exact ⟨C, dx, us, hC, hu⟩
theorem cmpBack_of {Q : Value → Shared → Prop} {x : V} {v : Value} {s : Shared} (r : RelV x v) (q : Q v s) : PySem.W.CmpBack Q v s := by
  cases x with
  | non => cases r; exact q
  | bl _ => cases r; exact q
  | int _ => obtain ⟨t, rfl⟩ := r; exact q
  | str _ => obtain ⟨t, rfl⟩ := r; exact q
  | byt _ => obtain ⟨t, rfl⟩ := r; exact q
  | flt _ => obtain ⟨t, rfl⟩ := r; exact q
  | ref _ => cases r; exact q
  | ty _ => cases r; exact q
/-- x op y by the class of x; y an int or of the same class -/
def ownB (ds : Disp) : D → D → Store → Res D := fun x y S => match x with
  | .ref i => (match S.get i with
    | some (.ins c _) => (match ds c with
      | some g => (match y with
        | .int _ => g [.ref i, y] S
        | .ref j => (match S.get j with | some (.ins c' _) => if c' = c then g [.ref i, y] S else .bad | _ => .bad)
        | _ => .bad)
      | none => .bad)
    | _ => .bad)
  | _ => .bad
structure OpClsS (G : Gx) (X : Cx) (W : WX) (op : Operator) (c : Nat) (g : FN) : Prop where
  ex : ∃ C f rc, G.cls c = some C ∧ PySem.W.selfFirst X.K C = true ∧ PySem.W.findIn X.K (.ref C) (PySem.dunder op.info.2) = some (some (.ref f)) ∧ PySem.W.isFn X.K (.ref f) = true ∧
    PySem.W.findIn X.K (.ref C) (dunderR op.info.2) = some rc ∧ (rc = none ∨ ∃ g : Addr, rc = some (.ref g)) ∧ (∃ fo, PySem.W.findIn X.K (.type "int") (PySem.dunder op.info.2) = some fo) ∧
    (∃ ro, PySem.W.findIn X.K (.type "int") (dunderR op.info.2) = some ro) ∧ PySem.W.subIn X.K (.type "int") (.ref C) = some false ∧ FnS G X W (.ref f) g
theorem ops_own {op : Operator} {ds : Disp} (hd : ∀ c g, ds c = some g → OpClsS G X W op c g) : OpS G X W (binaryOp op) (ownB ds) := by
  intro pins s σ H x y v u Q ρ S d1 d2 I rx ry rl r1 r2 p
  cases r1 with
  | @ref i a hi =>
    obtain rfl : v = Value.ref a := rx
    unfold ownB at p
    cases q : S.get i with
    | none => simp only [q] at p; exact p.elim
    | some ob =>
      cases ob with
      | ins c fs =>
        simp only [q] at p
        cases q2 : ds c with
        | none => simp only [q2] at p; exact p.elim
        | some g =>
          simp only [q2] at p
          obtain ⟨C, f, rc, hC, sf, hs, hf, hr, hp, ⟨fo, h1⟩, ⟨ro, h2⟩, hsub, hfn⟩ := (hd c g q2).ex
          obtain ⟨C', dx, us, hC', hH⟩ := inst_at rl hi q
          rw [hC] at hC'
          cases hC'
          obtain ⟨mA, O, _⟩ := ins_get I.hok hH
          obtain ⟨od, J, _⟩ := O.look
          obtain ⟨mF, hF⟩ := I.fr
          have run : Post G ρ H (g [.ref i, d2] S) Q (EW W σ) → wpAny (model X.prog X.w) X.A (call (.ref f) [.ref a, u]) (PySem.W.CmpBack (EP X pins σ Q)) X.xe s := fun p => by
            refine thn (hfn pins s σ H [.ref a, y] [.ref a, u] Q ρ S [.ref i, d2] I (.cons rfl (.cons ry .nil)) rl (.cons (.ref hi) (.cons r2 .nil)) p) fun z s' h => ?_
            obtain ⟨zv, H', I', rz, q'⟩ := h
            exact cmpBack_of rz ⟨zv, H', I', rz, q'⟩
          cases r2 with
          | int n =>
            obtain ⟨t, rfl⟩ := ry
            exact PySem.W.ksp_binT (T := "int") hF I.ok.mod.kin J rfl sf hs hf hr hp h1 h2 hsub (run p)
          | @ref j b hj =>
            obtain rfl : u = Value.ref b := ry
            cases q3 : S.get j with
            | none => simp only [q3] at p; exact p.elim
            | some ob2 =>
              cases ob2 with
              | ins c' fs' =>
                simp only [q3] at p
                by_cases hcc : c' = c
                · rw [if_pos hcc] at p
                  subst hcc
                  obtain ⟨C2, dx2, us2, hC2, hH2⟩ := inst_at rl hj q3
                  rw [hC] at hC2
                  cases hC2
                  obtain ⟨mA2, O2, _⟩ := ins_get I.hok hH2
                  obtain ⟨od2, J2, _⟩ := O2.look
                  exact PySem.W.binop_K hF I.ok.mod.kin J J2.type sf hs hf (run p)
                · rw [if_neg hcc] at p
                  exact p.elim
              | _ => simp only [q3] at p; exact p.elim
          | _ => exact p.elim
      | _ => simp only [q] at p; exact p.elim
  | _ => exact p.elim
/-- -x -/
def negF (ds : Disp) : D → Store → Res D := fun x S => match x with
  | .int i => .ok (.int (-i)) S
  | .ref i => (match S.get i with
    | some (.ins c _) => (match ds c with | some g => g [.ref i] S | none => .bad)
    | _ => .bad)
  | _ => .bad
structure UnClsS (G : Gx) (X : Cx) (W : WX) (name : Str) (c : Nat) (g : FN) : Prop where
  ex : ∃ C f, G.cls c = some C ∧ PySem.W.findIn X.K (.ref C) name = some (some (.ref f)) ∧ PySem.W.isFn X.K (.ref f) = true ∧ FnS G X W (.ref f) g
theorem uns_neg {ds : Disp} (hd : ∀ c g, ds c = some g → UnClsS G X W "__neg__" c g) : UnS G X W (unaryOp .USub) (negF ds) := by
  intro pins s σ H x v Q ρ S d I rx rl r1 p
  cases r1 with
  | int i => exact un_neg pins s σ H _ v Q I rx ⟨i, rfl, post_ok (S := S) p rl (.int _)⟩
  | @ref i a hi =>
    obtain rfl : v = Value.ref a := rx
    unfold negF at p
    cases q : S.get i with
    | none => simp only [q] at p; exact p.elim
    | some ob =>
      cases ob with
      | ins c fs =>
        simp only [q] at p
        cases q2 : ds c with
        | none => simp only [q2] at p; exact p.elim
        | some g =>
          simp only [q2] at p
          obtain ⟨C, f, hC, hs, hf, hfn⟩ := (hd c g q2).ex
          obtain ⟨C', dx, us, hC', hH⟩ := inst_at rl hi q
          rw [hC] at hC'
          cases hC'
          obtain ⟨mA, O, _⟩ := ins_get I.hok hH
          obtain ⟨od, J, _⟩ := O.look
          obtain ⟨mF, hF⟩ := I.fr
          exact PySem.W.ksp_neg hF I.ok.mod.kin J hs hf (hfn pins s σ H [.ref a] [.ref a] Q ρ S [.ref i] I (.cons rfl .nil) rl (.cons (.ref hi) .nil) p)
      | _ => simp only [q] at p; exact p.elim
  | _ => exact p.elim
/-- x == y by the class of x -/
def eqOwn (isi : Tag → Tag → Option Bool) (ds : Disp) : D → D → Store → Res D := fun x y S => match x with
  | .ref i => (match S.get i, tagOf S y with
    | some (.ins c _), some t => (match ds c with
      | some g => if (t == .o c || isi t (.o c) == some false) = true then g [.ref i, y] S else .bad
      | none => .bad)
    | _, _ => .bad)
  | _ => .bad
theorem kit_false {K : PySem.W.Frag} {t : Value} {C : Addr} (h : PySem.W.kitOne K t (.ref C) = some false) : PySem.W.subIn K t (.ref C) = some false := by
  unfold PySem.W.kitOne at h
  split at h
  · cases h
  · unfold PySem.W.kitCls at h
    simp only at h
    split at h
    · exact h
    · cases h
theorem ops_eqOwn {ds : Disp} (cc : Cc G X W) (hu : X.A.units + 64 < cLine) (hd : ∀ c g, ds c = some g → UnClsS G X W "__eq__" c g) : OpS G X W (compareOp .Eq) (eqOwn G.isi ds) := by
  intro pins s σ H x y v u Q ρ S d1 d2 I rx ry rl r1 r2 p
  cases r1 with
  | @ref i a hi =>
    obtain rfl : v = Value.ref a := rx
    unfold eqOwn at p
    cases q : S.get i with
    | none => simp only [q] at p; exact p.elim
    | some ob =>
      cases ob with
      | ins c fs =>
        cases q4 : tagOf S d2 with
        | none => simp only [q, q4] at p; exact p.elim
        | some t =>
          simp only [q, q4] at p
          cases q2 : ds c with
          | none => simp only [q2] at p; exact p.elim
          | some g =>
            simp only [q2] at p
            by_cases hn : (t == .o c || G.isi t (.o c) == some false) = true
            · rw [if_pos hn] at p
              obtain ⟨C, f, hC, hs, hf, hfn⟩ := (hd c g q2).ex
              obtain ⟨C', dx, us, hC', hH⟩ := inst_at rl hi q
              rw [hC] at hC'
              cases hC'
              obtain ⟨mA, O, _⟩ := ins_get I.hok hH
              obtain ⟨od, J, _⟩ := O.look
              obtain ⟨mF, hF⟩ := I.fr
              obtain ⟨tv, e1, ty⟩ := tag_rel rl r2 q4
              obtain ⟨Pk, Z, pk, _⟩ := kit_of I ry (by rw [cc.k]; exact ty)
              have oC : tagVal G.cls (.o c) = some (.ref C) := by show (G.cls c).map Value.ref = _; rw [hC]; rfl
              have nf : PySem.W.notFirst X.K C tv = true := by
                unfold PySem.W.notFirst
                rw [Bool.or_eq_true] at hn ⊢
                rcases hn with hn | hn
                · refine .inl ?_
                  have e2 : t = .o c := beq_iff_eq.mp hn
                  subst e2
                  rw [oC] at e1
                  cases e1
                  exact beq_self_eq_true _
                · refine .inr ?_
                  have e2 : G.isi t (.o c) = some false := beq_iff_eq.mp hn
                  rw [beq_iff_eq, cc.k]
                  exact kit_false (G.isi_ok t (.o c) false tv (.ref C) e2 e1 oC)
              show wpAny (model X.prog X.w) X.A (richCompare .Eq (.ref a) u) (EP X pins σ Q) X.xe s
              refine PySem.W.cmp_K (op := .Eq) (by omega) hF I.ok.mod.kin J (Z.ty _ _ I.kIn pk) nf hs hf ?_
              refine thn (hfn pins s σ H [.ref a, y] [.ref a, u] Q ρ S [.ref i, d2] I (.cons rfl (.cons ry .nil)) rl (.cons (.ref hi) (.cons r2 .nil)) p) fun z s' h => ?_
              obtain ⟨zv, H', I', rz, q'⟩ := h
              exact cmpBack_of rz ⟨zv, H', I', rz, q'⟩
            · rw [if_neg hn] at p
              exact p.elim
      | _ => simp only [q] at p; exact p.elim
  | _ => exact p.elim
end
end L2.Mi

set_option Elab.async false
set_option linter.all false
set_option maxRecDepth 100000
set_option maxHeartbeats 4000000
/-! Mini, 8: != by an own ==, instances called, methods of lists, comprehensions, enumerate. -/
namespace PySem.W
open PySem PySem.Calls PyProof.Rows
section
variable {prog : Program} {w : World} {A : Around} {E : Value → Shared → Prop} {s : Shared} {K : Frag} {x C L f : Addr} {h₀ : Heap} {m : Str → Option Value} {ox : Obj} {od : Option Obj} {b tb : Value}
theorem mi_ifBoundB {M : Model} {T : String} {name : Str} {id : String} {args : List Value} {Q : Option Value → Shared → Prop} (X : K.In s.heap) (I : InstAt s.heap x ox C od) (hs : findIn K (.ref C) name = some (some (.builtin id))) (S : Slot T name id)
    (h : wpAny M A (call (.builtin id) (.ref x :: args)) (fun v => Q (some v)) E s) : wpAny M A (callSpecialIfBound? (.ref x) name args) Q E s := by
  simp only [callSpecialIfBound?, bindSpecialIfBound?]
  refine wpAny_holding (wpAny_bind (wpAny_bind (wpAny_bind (I.type.here ((looks_findIn X hs).here ?_)))))
  simp only [S.bind]
  refine wpAny_bind (wpAny_askSetting (wpAny_ite ?_))
  have fin : wpAny M A (call (.builtin id) ([.ref x] ++ args) >>= fun v => pure (some v)) Q E s := wpAny_bind (wpAny_mono h (fun v s' h' => wpAny_pure h') fun _ _ h' => h')
  split
  · exact wpAny_bind (wpAny_pure (wpAny_pure fin))
  · exact wpAny_tryCatch (wpAny_bind (wpAny_pure (wpAny_pure fin)))
theorem mi_ne {Q : Value → Shared → Prop} (hu : A.units + 1 < cLine) (F : Fr h₀ L s.heap m) (X₀ : K.In h₀) (I : InstAt s.heap x ox C od) (hb : Looks (model prog w) s.heap (typeOf b) tb) (hn : notFirst K C tb = true)
    (hs : findIn K (.ref C) "__ne__" = some (some (.builtin "object.__ne__"))) (hm : mroIn K C (.type "object") = some true) (he : findIn K (.ref C) "__eq__" = some (some (.ref f))) (hf : isFn K (.ref f) = true)
    (h : wpAny (model prog w) A.in1 (call (.ref f) [.ref x, b]) (fun v s' => ∃ k, v = .bool k ∧ Q (.bool (!k)) s') E s) : wpAny (model prog w) A (richCompare .NotEq (.ref x) b) Q E s := by
  have X := X₀.keeps F.keep
  have inst : Looks (model prog w) s.heap (isInstance (.ref x) (.type "object")) true := I.type.andThen (looks_mroIn X hm)
  have one : wpAny (model prog w) A (tryCompare (.ref x) (cmpInfo .NotEq).2.1 b) (fun r s' => ∃ v, r = some v ∧ Q v s') E s := by
    unfold tryCompare
    refine wpAny_bind (mi_ifBoundB (T := "object") X I hs PySem.F.cmp_object.ne ?_)
    refine wpAny_call (codeAny_call_builtin (by decide +kernel) PySem.F.cmpEntry_ne (check_slot PySem.F.cmpKind_ne PySem.F.cmpSplit_ne inst (PySem.F.cmpArgs_ne _ _) ?_))
    unfold Builtin.«object.__ne__»
    refine wpAny_bind (wpAny_pure ?_)
    dsimp only
    refine wpAny_bind (wpAny_cRoomFor (show A.units + 1 < cLine from hu) ?_)
    refine wpAny_bind (ifBound_K X I he hf (wpAny_mono h (fun v s' hv => ?_) fun _ _ e => e))
    obtain ⟨k, rfl, q⟩ := hv
    dsimp only
    refine wpAny_bind (wpAny_truthy_bool ?_)
    exact wpAny_pure (wpAny_pure ⟨_, rfl, q⟩)
  unfold richCompare
  simp only [oneThing_ref]
  refine wpAny_holding (wpAny_bind (wpAny_cRoomFor (by omega) ?_))
  refine wpAny_bind (I.type.here (wpAny_bind (hb.here ?_)))
  split
  · rename_i q
    have e : subIn K tb (.ref C) = some false := by
      rcases Bool.or_eq_true_iff.mp hn with e | e
      · rw [beq_iff_eq.mp e] at q; simp at q
      · exact beq_iff_eq.mp e
    refine wpAny_bind ((looks_subIn X e).here ?_)
    simp only [Bool.false_eq_true, if_false]
    refine wpAny_bind (wpAny_mono one (fun r s' z => ?_) fun _ _ e => e)
    obtain ⟨v, rfl, hq⟩ := z
    exact wpAny_pure hq
  · refine wpAny_bind (wpAny_pure ?_)
    simp only [Bool.false_eq_true, if_false]
    refine wpAny_bind (wpAny_mono one (fun r s' z => ?_) fun _ _ e => e)
    obtain ⟨v, rfl, hq⟩ := z
    exact wpAny_pure hq
end
end PySem.W
namespace L2.Mi
open PySem PySem.Spec PyProof.Rows
/-- x != y by the own == of x's class -/
def neOwn (isi : Tag → Tag → Option Bool) (ds : Disp) : D → D → Store → Res D := fun x y S => match x with
  | .ref i => (match S.get i, tagOf S y with
    | some (.ins c _), some t => (match ds c with
      | some g => if (t == .o c || isi t (.o c) == some false) = true then (match g [.ref i, y] S with | .ok (.bl k) S1 => .ok (.bl (!k)) S1 | _ => .bad) else .bad
      | none => .bad)
    | _, _ => .bad)
  | _ => .bad
structure NeClsS (G : Gx) (X : Cx) (c : Nat) (g : FN) : Prop where
  ex : ∃ C f k, G.cls c = some C ∧ PySem.W.findIn X.K (.ref C) "__ne__" = some (some (.builtin "object.__ne__")) ∧ PySem.W.findIn X.K (.ref C) "__eq__" = some (some (.ref f)) ∧ PySem.W.isFn X.K (.ref f) = true ∧
    FnR X.prog X.w X.K X.mg X.base (L2.CX X.prog X.w) k f (spG G g) ∧ Room (k + 1) X.A
section
variable {G : Gx} {X : Cx} {W : WX}
theorem ops_neOwn {ds : Disp} (cc : Cc G X W) (hu : X.A.units + 64 < cLine) (hd : ∀ c g, ds c = some g → NeClsS G X c g) : OpS G X W (compareOp .NotEq) (neOwn G.isi ds) := by
  intro pins s σ H x y v u Q ρ S d1 d2 I rx ry rl r1 r2 p
  cases r1 with
  | @ref i a hi =>
    obtain rfl : v = Value.ref a := rx
    unfold neOwn at p
    cases q : S.get i with
    | none => simp only [q] at p; exact p.elim
    | some ob =>
      cases ob with
      | ins c fs =>
        cases q4 : tagOf S d2 with
        | none => simp only [q, q4] at p; exact p.elim
        | some t =>
          simp only [q, q4] at p
          cases q2 : ds c with
          | none => simp only [q2] at p; exact p.elim
          | some g =>
            simp only [q2] at p
            by_cases hn : (t == .o c || G.isi t (.o c) == some false) = true
            · rw [if_pos hn] at p
              obtain ⟨C, f, k, hC, hs, he, hf, F, hr⟩ := (hd c g q2).ex
              obtain ⟨C', dx, us, hC', hH⟩ := inst_at rl hi q
              rw [hC] at hC'
              cases hC'
              obtain ⟨mA, O, _⟩ := ins_get I.hok hH
              obtain ⟨od, J, _⟩ := O.look
              obtain ⟨mF, hF⟩ := I.fr
              obtain ⟨tv, e1, ty⟩ := tag_rel rl r2 q4
              obtain ⟨Pk, Z, pk, _⟩ := kit_of I ry (by rw [cc.k]; exact ty)
              have oC : tagVal G.cls (.o c) = some (.ref C) := by show (G.cls c).map Value.ref = _; rw [hC]; rfl
              have nf : PySem.W.notFirst X.K C tv = true := by
                unfold PySem.W.notFirst
                rw [Bool.or_eq_true] at hn ⊢
                rcases hn with hn | hn
                · refine .inl ?_
                  have e2 : t = .o c := beq_iff_eq.mp hn
                  subst e2
                  rw [oC] at e1
                  cases e1
                  exact beq_self_eq_true _
                · refine .inr ?_
                  have e2 : G.isi t (.o c) = some false := beq_iff_eq.mp hn
                  rw [beq_iff_eq, cc.k]
                  exact kit_false (G.isi_ok t (.o c) false tv (.ref C) e2 e1 oC)
              show wpAny (model X.prog X.w) X.A (richCompare .NotEq (.ref a) u) (EP X pins σ Q) X.xe s
              refine PySem.W.mi_ne (by omega) hF I.ok.mod.kin J (Z.ty _ _ I.kIn pk) nf hs (by rw [cc.k]; exact (G.ci c C hC).hm) he hf ?_
              have hsp : spG G g [.ref a, y] H (fun z H' => ∃ k, z = .bl k ∧ Q (.bl (!k)) H') E0 := ⟨ρ, S, [.ref i, d2], rl, .cons (.ref hi) (.cons r2 .nil), by
                cases q5 : g [.ref i, d2] S with
                | ok d S1 =>
                  rw [q5] at p
                  intro ρ1 H1 z l1 rl1 rv1
                  cases rv1 with
                  | bl k => exact ⟨k, rfl, p ρ1 H1 _ l1 rl1 (.bl _)⟩
                  | _ => exact False.elim p
                | exc xx S1 => rw [q5] at p; exact False.elim p
                | bad => rw [q5] at p; exact False.elim p⟩
              refine wpAny_call (codeAny_mono (F X.A.in1 X.stack s H [.ref a, u] [.ref a, y] _ E0 hr.in1 I.env0.in1 (.cons rfl (.cons ry .nil)) hsp) fun r s' hq => ?_)
              cases r with
              | error er => exact False.elim (passNox (X := X) pins σ H s er s' (I.wish _) hq)
              | ok fl =>
                cases fl with
                | ret w =>
                  obtain ⟨z, H', I', rz, k, ez, q6⟩ := I.after hq
                  subst ez
                  cases rz
                  exact ⟨k, rfl, .bl (!k), H', I', rfl, q6⟩
                | next => exact False.elim hq
                | brk => exact False.elim hq
                | cont => exact False.elim hq
            · rw [if_neg hn] at p
              exact p.elim
      | _ => simp only [q] at p; exact p.elim
  | _ => exact p.elim
end
/-! ### instances called -/
def eCallI (ds : Disp) (mf : ME) (ma : MA) : ME := fun σ S => (mf σ S).bind fun o S1 => match o with
  | .ref i => (ma σ S1).bind fun xs S2 => (match S2.get i with
    | some (.ins c _) => (match ds c with | some g => g (.ref i :: xs) S2 | none => .bad)
    | _ => .bad)
  | _ => .bad
structure CallOS (G : Gx) (X : Cx) (c : Nat) (g : FN) : Prop where
  ex : ∃ C f k, G.cls c = some C ∧ StX.CallO X.K C f ∧ FnR X.prog X.w X.K X.mg X.base (L2.CX X.prog X.w) k f (spG G g) ∧ Room k X.A
section
variable {G : Gx} {X : Cx} {W : WX} {e fe o : Expr} {es : List Expr} {pos apos p : Pos} {ma : MA} {mf mo m : ME} {name : Str}
theorem se_callI {ds : Disp} (cc : Cc G X W) (hf : SE G X W fe mf) (hd : ∀ c g, ds c = some g → CallOS G X c g) (ha : SA G X W (e :: es) ma)
    (ht : eval (.Call fe (e :: es) [] pos) X.env = (do callWith pos (← eval fe X.env) [] (backTo pos (starEach (e :: es) X.env)) (backToKw pos (keywordEach [] X.env))) := by rfl)
    (he : starEach (e :: es) X.env = (false, eval e X.env) :: starEach es X.env := by rfl) (hpl : (backTo pos (starEach es X.env)).any (·.1) = false := by rfl) : SE G X W (.Call fe (e :: es) [] pos) (eCallI ds mf ma) := by
  refine ⟨fun pins s σ H Q I ⟨ρ, σs, S, rl, re, p⟩ => ?_⟩
  refine Call_ (hf.go I rl re p fun u s1 x H1 ρ1 S1 d I1 rx l1 rl1 re1 rv1 p1 => ?_) ht
  cases rv1 with
  | @ref i a hi =>
    obtain rfl : u = Value.ref a := rx
    refine StX.callO_with (ha.go I1 rl1 re1 p1 fun us s2 xs H2 ρ2 S2 ds' I2 rx2 l2 rl2 re2 rv2 p2 => ?_) he hpl
    cases q : S2.get i with
    | none => simp only [q] at p2; exact p2.elim
    | some ob =>
      cases ob with
      | ins c fs =>
        simp only [q] at p2
        cases q2 : ds c with
        | none => simp only [q2] at p2; exact p2.elim
        | some g =>
          simp only [q2] at p2
          obtain ⟨C, f, k, hC, hco, F, hr⟩ := (hd c g q2).ex
          have hi2 := pre_get l2.pre hi
          obtain ⟨C', dx, us', hC', hH⟩ := inst_at rl2 hi2 q
          rw [hC] at hC'
          cases hC'
          obtain ⟨mA, O, _⟩ := ins_get I2.hok hH
          obtain ⟨od, J, _⟩ := O.look
          refine ⟨⟨C, _, _, J, rfl⟩, ?_⟩
          refine wpAny_call (PySem.W.kco_code I2.kIn J rfl hco.at_ hco.fn hco.fi ?_)
          refine codeAny_mono (F X.A X.stack s2 H2 (.ref a :: us) (.ref a :: xs) Q (EW W σ) hr I2.env0 (.cons rfl rx2) ⟨ρ2, S2, .ref i :: ds', rl2, .cons (.ref hi2) rv2, p2⟩) fun r s' hq => ?_
          cases r with
          | error er => exact passAt cc.tk σ pins H2 s2 er s' I2 hq
          | ok fl =>
            cases fl with
            | ret w => exact I2.after hq
            | next => exact False.elim hq
            | brk => exact False.elim hq
            | cont => exact False.elim hq
      | _ => simp only [q] at p2; exact p2.elim
  | _ => exact False.elim p1

/-! ### methods of lists -/
def eBm (ck : D → Store → Bool) (f : D → List D → Store → Res D) (mo : ME) (ma : MA) : ME := fun σ S => (mo σ S).bind fun o S1 => if ck o S1 then (ma σ S1).bind fun xs S2 => f o xs S2 else .bad
def MtS (G : Gx) (X : Cx) (W : WX) (id : String) (f : D → List D → Store → Res D) : Prop :=
  ∀ (pins : List (Addr × Obj)) (s : Shared) (σ : St) (H : Hp) (x : V) (xs : List V) (v : Value) (us : List Value) (Q : VK) (ρ : Wd) (S : Store) (d : D) (ds : List D), Inv X pins σ H s → RelV x v → Vals xs us → Rl G ρ S H → RV G ρ H d x → RVs G ρ H ds xs →
    Post G ρ H (f d ds S) Q (EW W σ) → wpAny (model X.prog X.w) X.A (call (.builtin id) (v :: us)) (EP X pins σ Q) X.xe s
theorem MtS.of {id : String} {f : D → List D → Store → Res D} {r : V → List V → Hp → VK → Prop} (hm : MtR X id r) (h : ∀ ρ S H d ds x xs Q E, Rl G ρ S H → RV G ρ H d x → RVs G ρ H ds xs → Post G ρ H (f d ds S) Q E → r x xs H Q) : MtS G X W id f :=
  fun pins s σ H x xs v us Q ρ S d ds I rx rs rl r1 r2 p => hm pins s σ H x xs v us Q I rx rs (h ρ S H d ds x xs Q _ rl r1 r2 p)
theorem se_bm {T id : String} {ck : D → Store → Bool} {f : D → List D → Store → Res D} (pa : PlainAttrs T) (slot : Slot T name id) (hty : typeOf (.builtin id) = pure (.type "method_descriptor")) (hm : MtS G X W id f)
    (hT : ∀ ρ S H d x, Rl G ρ S H → RV G ρ H d x → ck d S = true → tyV X.K T x H) (ho : SE G X W o mo) (ha : SA G X W (e :: es) ma)
    (hbase : attributeBase o name X.env (eval o X.env) = eval o X.env := by rfl)
    (hfew : ((backTo pos (starEach (e :: es) X.env)).all (fun x => !x.1) && (backToKw pos (keywordEach [] X.env)).all (fun x => x.1.isSome)
      && decide ((e :: es).length + ([] : List Keyword).length + (if ([] : List Keyword).isEmpty then 0 else 1) < 30)) = true := by rfl)
    (hline : (apos.endLine == pos.line) = true := by rfl) (hs : starEach (e :: es) X.env = (false, eval e X.env) :: starEach es X.env := by rfl) (hplain : (backTo pos (starEach es X.env)).any (·.1) = false := by rfl) :
    SE G X W (.Call (.Attribute o name apos) (e :: es) [] pos) (eBm ck f mo ma) := by
  refine ⟨fun pins s σ H Q I ⟨ρ, σs, S, rl, re, p⟩ => ?_⟩
  refine wpAny_Call_method_late hbase hfew hline rfl (ho.go I rl re p fun v s1 x H1 ρ1 S1 d I1 r1 l1 rl1 re1 rv1 p1 => ?_)
  by_cases hc : ck d S1 = true
  · rw [if_pos hc] at p1
    obtain ⟨h1, h2⟩ := tyV_is I1 r1 (hT ρ1 S1 H1 d x rl1 rv1 hc)
    refine ⟨T, id, pa, slot, hty, h1, h2, ?_⟩
    have hA : wpAny (model X.prog X.w) X.A (spliced (backTo pos (starEach (e :: es) X.env))) (fun us s2 => wpAny (model X.prog X.w) X.A (call (.builtin id) (v :: us)) (EP X pins σ Q) X.xe s2) X.xe s1 :=
      ha.go I1 rl1 re1 p1 fun us s2 xs H2 ρ2 S2 ds I2 rx2 l2 rl2 re2 rv2 p2 => hm pins s2 σ H2 x xs v us Q ρ2 S2 d ds I2 r1 rx2 rl2 (rv1.mono l2) rv2 p2
    rw [hs] at hA ⊢
    refine Calls.callWith_builtin (by show (false || (backTo pos (starEach es X.env)).any (·.1)) = false; rw [hplain] <;> rfl) (Calls.evalArgs_plain ?_)
    exact hA
  · rw [if_neg hc] at p1
    exact p1.elim
theorem se_bm0 {T id : String} {ck : D → Store → Bool} {f : D → List D → Store → Res D} (pa : PlainAttrs T) (slot : Slot T name id) (hty : typeOf (.builtin id) = pure (.type "method_descriptor")) (hm : MtS G X W id f)
    (hT : ∀ ρ S H d x, Rl G ρ S H → RV G ρ H d x → ck d S = true → tyV X.K T x H) (ho : SE G X W o mo)
    (hbase : attributeBase o name X.env (eval o X.env) = eval o X.env := by rfl) (hline : (apos.endLine == pos.line) = true := by rfl) : SE G X W (.Call (.Attribute o name apos) [] [] pos) (eBm ck f mo (aList [])) := by
  refine ⟨fun pins s σ H Q I ⟨ρ, σs, S, rl, re, p⟩ => ?_⟩
  refine wpAny_Call_method0_late hbase hline (ho.go I rl re p fun v s1 x H1 ρ1 S1 d I1 r1 l1 rl1 re1 rv1 p1 => ?_)
  by_cases hc : ck d S1 = true
  · rw [if_pos hc] at p1
    obtain ⟨h1, h2⟩ := tyV_is I1 r1 (hT ρ1 S1 H1 d x rl1 rv1 hc)
    exact ⟨T, id, pa, slot, hty, h1, h2, Calls.callWith_builtin rfl (PySem.evalArgs_none (hm pins s1 σ H1 x [] v [] Q ρ1 S1 d [] I1 r1 .nil rl1 rv1 .nil p1))⟩
  · rw [if_neg hc] at p1
    exact p1.elim
def isLst (d : D) (S : Store) : Bool := (listAt S d).isSome
theorem ck_list (cc : Cc G X W) : ∀ ρ S H d x, Rl G ρ S H → RV G ρ H d x → isLst d S = true → tyV X.K "list" x H := fun ρ S H d x rl rv h => by
  unfold isLst at h
  cases q : listAt S d with
  | none => rw [q] at h; cases h
  | some ds =>
    obtain ⟨a, xs, rfl, hq, _⟩ := listAt_rel rl rv q
    exact .inl ⟨rfl, xs, by rw [cc.k]; exact hq⟩
def appendF : D → List D → Store → Res D := fun o xs S => match o, xs with
  | .ref i, [y] => (match S.get i with
    | some (.lst ds) => if ds.length < lim then .ok .non (S.set i (.lst (ds ++ [y]))) else .bad
    | _ => .bad)
  | _, _ => .bad
def popF : D → List D → Store → Res D := fun o xs S => match o, xs with
  | .ref i, [] => (match S.get i with
    | some (.lst ds) => (match ds[ds.length - 1]? with | some y => .ok y (S.set i (.lst ds.dropLast)) | none => .bad)
    | _ => .bad)
  | _, _ => .bad
theorem lst_at {ρ : Wd} {S : Store} {H : Hp} {i : Nat} {a : Addr} {ds : List D} (rl : Rl G ρ S H) (hi : ρ.v[i]? = some a) (q : S.get i = some (.lst ds)) : ∃ xs, H a = some (.lst xs) ∧ RVs G ρ H ds xs := by
  obtain ⟨u, hu, ro⟩ := rl.at hi q
  cases ro with
  | lst r => exact ⟨_, hu, r⟩
theorem mts_append : MtS G X W "list.append" appendF := MtS.of mt_append fun ρ S H d ds x xs Q E rl r1 r2 p => by
  unfold appendF at p
  split at p
  · rename_i i y
    obtain ⟨z, rfl, hz⟩ := rvs1 r2
    cases r1 with
    | @ref i a hi =>
      cases q : S.get i with
      | none => simp only [q] at p; exact p.elim
      | some ob =>
        cases ob with
        | lst es =>
          simp only [q] at p
          obtain ⟨us, hu, hr⟩ := lst_at rl hi q
          by_cases hl : es.length < lim
          · rw [if_pos hl] at p
            exact ⟨a, us, z, rfl, rfl, hu, by rw [← hr.length]; exact lim_lt hl, p ρ _ _ (rl.leUpd hi hu trivial) (rl.set hi q hu trivial (.lst (hr.append (.cons hz .nil)))) .non⟩
          · rw [if_neg hl] at p
            exact p.elim
        | _ => simp only [q] at p; exact p.elim
  · exact p.elim
theorem RVs.dropLast {ρ : Wd} {H : Hp} : ∀ {ds : List D} {xs : List V}, RVs G ρ H ds xs → RVs G ρ H ds.dropLast xs.dropLast
  | _, _, .nil => .nil
  | _, _, .cons _ .nil => .nil
  | _, _, .cons h (.cons h' t) => .cons h (RVs.dropLast (.cons h' t))
theorem mts_pop : MtS G X W "list.pop" popF := MtS.of mt_pop fun ρ S H d ds x xs Q E rl r1 r2 p => by
  unfold popF at p
  split at p
  · rename_i i
    cases r2
    cases r1 with
    | @ref i a hi =>
      cases q : S.get i with
      | none => simp only [q] at p; exact p.elim
      | some ob =>
        cases ob with
        | lst es =>
          simp only [q] at p
          obtain ⟨us, hu, hr⟩ := lst_at rl hi q
          cases q2 : es[es.length - 1]? with
          | none => simp only [q2] at p; exact p.elim
          | some y =>
            simp only [q2] at p
            obtain ⟨v, h1, h2⟩ := hr.get q2
            have l := rl.leUpd (u' := .lst us.dropLast) hi hu trivial
            exact ⟨a, us, v, rfl, rfl, hu, by rw [← hr.length]; exact h1, p ρ _ _ l (rl.set hi q hu trivial (.lst hr.dropLast)) (h2.mono l)⟩
        | _ => simp only [q] at p; exact p.elim
  · exact p.elim
/-- l[i] = v -/
def setL : D → D → D → Store → Option Store := fun o i v S => match o, i with
  | .ref a, .int k => (match S.get a with
    | some (.lst ds) => (match ixN ds.length k with | some j => some (S.set a (.lst (ds.set j v))) | none => none)
    | _ => none)
  | _, _ => none
theorem sts_list : StS G X setL := by
  intro pins s σ H x y z v u w Q ρ S S' d1 d2 d3 I rx ry rz rl r1 r2 r3 h k
  unfold setL at h
  split at h
  · rename_i i n
    cases r1 with
    | @ref i a hi =>
      cases r2 with
      | int _ =>
        cases q : S.get i with
        | none => simp only [q] at h; cases h
        | some ob =>
          cases ob with
          | lst es =>
            simp only [q] at h
            obtain ⟨us, hu, hr⟩ := lst_at rl hi q
            cases q2 : ixN es.length n with
            | none => simp only [q2] at h; cases h
            | some j =>
              simp only [q2] at h
              cases h
              refine set_list pins s σ H _ _ _ v u w Q I rx ry rz ⟨a, us, n, j, rfl, rfl, hu, by rw [← hr.length]; exact q2, ?_⟩
              exact k ρ _ (rl.leUpd hi hu trivial) (rl.set hi q hu trivial (.lst (hr.set r3 j)))
          | _ => simp only [q] at h; cases h
  · cases h
end
end L2.Mi

set_option Elab.async false
set_option linter.all false
set_option maxRecDepth 100000
set_option maxHeartbeats 4000000
/-! Mini, 9: list comprehensions, enumerate of tuples. -/
namespace L2.Mi
open PySem PySem.Spec PyProof.Rows

/-! ### slots wiped -/
def wipeD (σ : En) : List Nat → En
  | [] => σ
  | v :: vs => (wipeD σ vs).set v none
theorem wipe_set {σ : St} {i : Nat} {o : Option V} : ∀ {vs : List Nat}, wipe (σ.set i o) vs = if i ∈ vs then wipe σ vs else (wipe σ vs).set i o
  | [] => by simp [wipe]
  | w :: vs => by
    unfold wipe
    rw [wipe_set (vs := vs)]
    by_cases h1 : i ∈ vs
    · simp [h1]
    · by_cases h2 : i = w
      · subst h2
        simp [h1, List.set_set]
      · simp only [h1, List.mem_cons, h2, or_self, if_false]
        rw [List.set_comm _ _ h2]
theorem wipe_wipe {σ : St} : ∀ {vs : List Nat}, wipe (wipe σ vs) vs = wipe σ vs := by
  have key : ∀ (ws vs : List Nat), (∀ w ∈ ws, w ∈ vs) → wipe (wipe σ ws) vs = wipe σ vs := by
    intro ws
    induction ws with
    | nil => intro vs _; rfl
    | cons w ws ih =>
      intro vs h
      show wipe ((wipe σ ws).set w none) vs = _
      rw [wipe_set, if_pos (h w (by simp))]
      exact ih vs fun x hx => h x (by simp [hx])
  exact fun {vs} => key vs vs fun _ h => h
/-- the targets of a comprehension: a name, some names -/
inductive TgN where
  | one (i : Nat)
  | many (is : List Nat)
def TgN.slots : TgN → List Nat
  | .one i => [i]
  | .many is => is
def setAll : List Nat → List D → En → Option En
  | [], [], σ => some σ
  | i :: is, d :: ds, σ => setAll is ds (σ.set i (some d))
  | _, _, _ => none
def TgN.put (t : TgN) (d : D) (σ : En) : Option En := match t with
  | .one i => some (σ.set i (some d))
  | .many is => (match d with | .tup ds => setAll is ds σ | _ => none)
def gNames : List Nat → TGs
  | [] => gNil
  | i :: is => gCons (L2.gName i) (gNames is)
def TgN.tg (K : PySem.W.Frag) : TgN → TG
  | .one i => L2.gName i
  | .many is => L2.gTup K is.length (gNames is)
section
variable {G : Gx} {ρ : Wd} {H : Hp}
theorem RE.setNone {σs : En} {σ : St} (r : RE G ρ H σs σ) (i : Nat) : RE G ρ H (σs.set i none) (σ.set i none) := by
  refine ⟨by simp [r.len], fun j e hj => ?_⟩
  by_cases hij : i = j
  · subst hij
    by_cases hl : i < σs.length
    · rw [List.getElem?_set_self hl] at hj; cases hj
    · rw [List.getElem?_eq_none (by simpa using hl)] at hj; cases hj
  · rw [List.getElem?_set_ne hij] at hj ⊢
    exact r.get j e hj
theorem RE.wipe {σs : En} {σ : St} (r : RE G ρ H σs σ) : ∀ (vs : List Nat), RE G ρ H (wipeD σs vs) (L2.wipe σ vs)
  | [] => r
  | v :: vs => (RE.wipe r vs).setNone v
theorem names_go {Q : St → Hp → Prop} : ∀ {is : List Nat} {ds : List D} {xs : List V} {σs σ2 : En} {σ : St}, RVs G ρ H ds xs → RE G ρ H σs σ → setAll is ds σs = some σ2 → ∀ (vs : List Nat), (∀ i ∈ is, i ∈ vs) →
    (∀ σ', RE G ρ H σ2 σ' → L2.wipe σ' vs = L2.wipe σ vs → Q σ' H) → gNames is xs σ H Q
  | [], [], _, _, _, _, .nil, re, h, vs, _, k => by cases h; exact ⟨rfl, k _ re rfl⟩
  | i :: is, d :: ds, _, σs, σ2, σ, .cons r t, re, h, vs, hv, k => by
    refine ⟨_, _, rfl, ?_⟩
    show gNames is _ (σ.set i (some _)) H Q
    refine names_go t (re.set i r) h vs (fun j hj => hv j (by simp [hj])) fun σ' re' e => k σ' re' ?_
    rw [e, wipe_set, if_pos (hv i (by simp))]
  | [], _ :: _, _, _, _, _, _, _, h, _, _, _ => by cases h
  | _ :: _, [], _, _, _, _, _, _, h, _, _, _ => by cases h
theorem setAll_len : ∀ {is : List Nat} {ds : List D} {σs σ2 : En}, setAll is ds σs = some σ2 → ds.length = is.length
  | [], [], _, _, _ => rfl
  | _ :: is, _ :: ds, _, _, h => by simp [setAll_len (is := is) (ds := ds) h]
  | [], _ :: _, _, _, h => by cases h
  | _ :: _, [], _, _, h => by cases h
theorem put_go {Q : St → Hp → Prop} {K : PySem.W.Frag} {t : TgN} {d : D} {x : V} {σs σ2 : En} {σ : St} (rv : RV G ρ H d x) (re : RE G ρ H σs σ) (h : t.put d σs = some σ2) (vs : List Nat) (hv : ∀ i ∈ t.slots, i ∈ vs)
    (k : ∀ σ', RE G ρ H σ2 σ' → L2.wipe σ' vs = L2.wipe σ vs → Q σ' H) : t.tg K x σ H Q := by
  cases t with
  | one i =>
    cases h
    refine k _ (re.set i rv) ?_
    rw [wipe_set, if_pos (hv i (by simp [TgN.slots]))]
  | many is =>
    cases rv with
    | @tup ds a xs ht hr =>
      have h' : setAll is ds σs = some σ2 := h
      exact ⟨a, xs, rfl, SqT.of ht, by rw [← hr.length]; exact setAll_len h', names_go hr re h' vs hv k⟩
    | _ => cases h
end
/-! ### the loop -/
def lcGo (src : Src) (t : TgN) (mt : MT) (me : ME) (σ : En) : Nat → Nat → List D → Store → Res (List D)
  | 0, _, _, _ => .bad
  | n + 1, k, acc, S => match src k S with
    | none => .bad
    | some none => .ok acc S
    | some (some d) => (match t.put d σ with
      | none => .bad
      | some σ2 => (match mt σ2 S with
        | .ok true S1 => (match me σ2 S1 with
          | .ok y S2 => if acc.length < lim then lcGo src t mt me σ n (k + 1) (acc ++ [y]) S2 else .bad
          | _ => .bad)
        | .ok false S1 => lcGo src t mt me σ n (k + 1) acc S1
        | _ => .bad))
/-- the list as a value that nobody changes, as one that is changed later -/
def eLcV (mi : MI) (t : TgN) (mt : MT) (me : ME) (vs : List Nat) (n : Nat) : ME := fun σ S => (mi σ S).bind fun src S1 => (lcGo src t mt me (wipeD σ vs) n 0 [] S1).bind fun ds S2 => .ok (.lv ds) S2
def eLc (mi : MI) (t : TgN) (mt : MT) (me : ME) (vs : List Nat) (n : Nat) : ME := fun σ S => (mi σ S).bind fun src S1 => (lcGo src t mt me (wipeD σ vs) n 0 [] S1).bind fun ds S2 => .ok (.ref S2.size) (S2.push (.lst ds))
def tYesM : MT := fun _ S => .ok true S
abbrev W0 : WX := fun _ _ _ _ => False
section
variable {G : Gx} {X : Cx} {W : WX}
theorem cc_blk (cc : Cc G X W) {s : Shared} {H : Hp} {scope : Scope} {cenv : Env} {fp : List Addr} : Cc G (X.blk s H scope cenv fp) W0 := ⟨cc.k, takes0, PassesOwn.never, cc.calm, cc.nd⟩
theorem sts_nil : PTs X [] (tmt G W tYesM) := ⟨fun pins s σ H Q I ⟨ρ, σs, S, rl, re, p⟩ => (pts_nil).run pins s σ H Q I (p ρ H true Le.refl rl rfl)⟩
theorem sts_one {c : Expr} {t : MT} (h : ST G X W c t) : PTs X [c] (tmt G W t) := pts_one h
/-! the list that grows is hidden -/
theorem Mv.unhide {ρ : Wd} {a : Addr} {H : Hp} : Mv G ⟨ρ.v, a :: ρ.h⟩ H ρ H :=
  ⟨fun _ _ h => h, fun _ _ _ h => h, fun _ _ n h => ⟨⟨n.1, fun z => n.2 (List.mem_cons_of_mem _ z)⟩, h⟩, fun _ _ n _ h => ⟨⟨n.1, fun z => n.2 (List.mem_cons_of_mem _ z)⟩, h⟩⟩
theorem Mv.hide {ρ : Wd} {a : Addr} {H : Hp} {u : HO} (hn : H a = none) : Mv G ρ H ⟨ρ.v, a :: ρ.h⟩ (L2.upd H a u) := by
  have ne : ∀ b, H b ≠ none → b ≠ a := fun b hb z => hb (by rw [z]; exact hn)
  refine ⟨fun _ _ h => h, tk_new hn, fun b xs n h => ?_, fun b v n _ h => ?_⟩
  · have hb := ne b (by rw [h]; simp)
    exact ⟨⟨n.1, by simp [hb, n.2]⟩, by rw [upd_ne hb]; exact h⟩
  · have hb := ne b (rd_some h)
    exact ⟨⟨n.1, by simp [hb, n.2]⟩, rd_new hn h⟩
theorem Rl.unhide {ρ : Wd} {a : Addr} {S : Store} {H : Hp} (r : Rl G ⟨ρ.v, a :: ρ.h⟩ S H) : Rl G ρ S H :=
  ⟨r.len, r.nd, fun b hb => r.hh b (List.mem_cons_of_mem _ hb), fun i o e => let ⟨b, u, h1, h2, h3⟩ := r.ob i o e; ⟨b, u, h1, h2, h3.move Mv.unhide⟩, r.tb⟩
theorem Rl.hide {ρ : Wd} {a : Addr} {S : Store} {H : Hp} {u : HO} (r : Rl G ρ S H) (hn : H a = none) (nu : NTb u := by trivial) : Rl G ⟨ρ.v, a :: ρ.h⟩ S (L2.upd H a u) := by
  have r1 := r.other (o := u) hn
  refine ⟨r.len, r.nd, fun b hb => ?_, fun i o e => ?_, r1.tb⟩
  · rcases List.mem_cons.mp hb with rfl | hb
    · exact ⟨(r.no hn).1, by rw [upd_same]; exact nu⟩
    · exact r1.hh b hb
  · obtain ⟨b, w, h1, h2, h3⟩ := r.ob i o e
    exact ⟨b, w, h1, by rw [upd_ne (ne_of_none h2 hn)]; exact h2, h3.move (Mv.hide hn)⟩
/-- the hidden thing is changed: values stand -/
theorem Mv.grow {ρ : Wd} {a : Addr} {H : Hp} {u w : HO} (hw : H a = some w) (nt : NoT w) (hm : a ∈ ρ.h) : Mv G ρ H ρ (L2.upd H a u) := by
  refine ⟨fun _ _ h => h, tk_upd hw nt, fun b xs n h => ⟨n, ?_⟩, fun b v n _ h => ⟨n, ?_⟩⟩
  · rw [upd_ne (show b ≠ a from fun z => n.2 (by rw [z]; exact hm))]
    exact h
  · have hb : b ≠ a := fun z => n.2 (by rw [z]; exact hm)
    rcases h with h | ⟨o, h⟩
    · exact .inl (by rw [upd_ne hb]; exact h)
    · exact .inr ⟨o, by rw [upd_ne hb]; exact h⟩
theorem Rl.grow {ρ : Wd} {a : Addr} {S : Store} {H : Hp} {u w : HO} (r : Rl G ρ S H) (hw : H a = some w) (nt : NoT w) (hm : a ∈ ρ.h) (nu : NTb u := by trivial) : Rl G ρ S (L2.upd H a u) := by
  refine ⟨r.len, r.nd, fun b hb => ⟨(r.hh b hb).1, ?_⟩, fun i o e => ?_, tabs_upd r.tb hw nt.noE⟩
  · by_cases hba : b = a
    · subst hba; rw [upd_same]; exact nu
    · rw [upd_ne hba]; exact (r.hh b hb).2
  · obtain ⟨b, v, h1, h2, h3⟩ := r.ob i o e
    refine ⟨b, v, h1, ?_, h3.move (Mv.grow hw nt hm)⟩
    rw [upd_ne (show b ≠ a from fun z => (r.hh a hm).1 (by rw [← z]; exact List.mem_of_getElem? h1))]
    exact h2
/-- a new thing at a is hidden -/
theorem Le.hide {ρ : Wd} {a : Addr} {H : Hp} {u : HO} (hn : H a = none) {ρ' : Wd} {H' : Hp} (hh : ∀ b, b ∈ ρ.h → H b ≠ none) (l : Le G ⟨ρ.v, a :: ρ.h⟩ (L2.upd H a u) ρ' H') : Le G ρ H ⟨ρ'.v, ρ.h⟩ H' := by
  have e : ρ'.h = a :: ρ.h := l.hid
  have ne : ∀ b, H b ≠ none → b ≠ a := fun b hb z => hb (by rw [z]; exact hn)
  refine ⟨l.pre, rfl, fun b xs t h => l.tk b xs t (by rw [upd_ne (ne b (by rw [h]; simp))]; exact h), fun b xs nb h => ?_, fun b v nb dk h => ?_, fun b nb h => ?_, fun b hb h => ?_, fun b o v h => l.kz b o v (by rw [upd_ne (ne b (by rw [h]; simp))]; exact h)⟩
  · have hb := ne b (by rw [h]; simp)
    exact l.kl b xs ⟨nb.1, by simp [hb, nb.2]⟩ (by rw [upd_ne hb]; exact h)
  · have hb := ne b (rd_some h)
    exact l.kp b v ⟨nb.1, by simp [hb, nb.2]⟩ dk (rd_new hn h)
  · have hb := ne b h.ne
    obtain ⟨h1, h2⟩ := l.ni b ⟨nb.1, by simp [hb, nb.2]⟩ (by rw [upd_ne hb]; exact h)
    exact ⟨⟨h1.1, nb.2⟩, h2⟩
  · have hb' := ne b h
    rw [l.kh b (List.mem_cons_of_mem _ hb) (by rw [upd_ne hb']; exact h), upd_ne hb']
/-- the hidden thing is changed -/
theorem Le.grow {ρ : Wd} {a : Addr} {H : Hp} {u u' : HO} (hn : H a = none) {ρ' : Wd} {H' : Hp} {w : HO} (hw : H' a = some w) (nt : NoT w) (nv : a ∉ ρ'.v) (l : Le G ⟨ρ.v, a :: ρ.h⟩ (L2.upd H a u) ρ' H') : Le G ⟨ρ.v, a :: ρ.h⟩ (L2.upd H a u') ρ' (L2.upd H' a u') := by
  have e : ρ'.h = a :: ρ.h := l.hid
  have up : ∀ b, b ≠ a → L2.upd H a u' b = L2.upd H a u b := fun b hb => by rw [upd_ne hb, upd_ne hb]
  have nn : ∀ b, (⟨ρ.v, a :: ρ.h⟩ : Wd).no b → b ≠ a := fun b nb z => nb.2 (by rw [z]; exact List.mem_cons_self)
  refine ⟨l.pre, l.hid, fun b xs t h => ?_, fun b xs nb h => ?_, fun b v nb dk h => ?_, fun b nb h => ?_, fun b hb h => ?_, fun b o v h => ?_⟩
  · by_cases hb : b = a
    · subst hb
      rw [upd_same] at h
      rw [upd_same]
      exact h
    · rw [up b hb] at h
      rw [upd_ne hb]
      exact l.tk b xs t h
  · rw [up b (nn b nb)] at h
    rw [upd_ne (nn b nb)]
    exact l.kl b xs nb h
  · have hb := nn b nb
    have h' : Rd (L2.upd H a u) b v := by
      rcases h with h | ⟨o, h⟩
      · exact .inl (by rw [← up b hb]; exact h)
      · exact .inr ⟨o, by rw [← up b hb]; exact h⟩
    rcases l.kp b v nb dk h' with h | ⟨o, h⟩
    · exact .inl (by rw [upd_ne hb]; exact h)
    · exact .inr ⟨o, by rw [upd_ne hb]; exact h⟩
  · have hb := nn b nb
    rw [up b hb] at h
    obtain ⟨h1, h2⟩ := l.ni b nb h
    exact ⟨h1, by rw [upd_ne hb]; exact h2⟩
  · by_cases hba : b = a
    · subst hba
      rw [upd_same, upd_same]
    · rw [up b hba] at h
      rw [upd_ne hba, up b hba]
      exact l.kh b hb h
  · by_cases hba : b = a
    · subst hba
      rw [upd_same] at h
      rw [upd_same]
      exact h
    · rw [up b hba] at h
      rw [upd_ne hba]
      exact l.kz b o v h
/-- a comprehension's loop: its own list at Dl is hidden while it grows -/
theorem lc_read {mi : MI} {t : TgN} {mt : MT} {me : ME} {vs : List Nat} {n : Nat} {K : PySem.W.Frag} (hv : ∀ i ∈ t.slots, i ∈ vs) {σ : St} {H : Hp} {Q : VK} {ρ : Wd} {σs : En} {S : Store} (fin : List D → Store → Res D) (rl : Rl G ρ S H) (re : RE G ρ H σs σ)
    (hf : ∀ (ρ' : Wd) (H' : Hp) (S' : Store) (ds : List D) (xs : List V) (Dl : Addr), Rl G ρ' S' H' → H' Dl = some (.lst xs) → ρ'.no Dl → RVs G ρ' H' ds xs → Post G ρ' H' (fin ds S') Q (EW W σ) → Q (.ref Dl) H')
    (p : Post G ρ H ((mi σs S).bind fun src S1 => (lcGo src t mt me (wipeD σs vs) n 0 [] S1).bind fin) Q (EW W σ)) :
    tLc (tmi G W mi) (t.tg K) (tmt G W0 mt) (tm G W0 me) vs σ H Q := by
  refine ⟨ρ, σs, S, rl, re, PostR.bind (R := JR G) p fun ρ1 H1 S1 src J l1 rl1 jr p1 => ?_⟩
  intro Dl hD
  have re1 := re.mono l1
  -- what stands at each turn
  refine ⟨fun i m H => ∃ ρ S acc xs, Le G ⟨ρ1.v, Dl :: ρ1.h⟩ (L2.upd H1 Dl (.lst xs)) ρ H ∧ Rl G ρ S H ∧ H Dl = some (.lst xs) ∧ RVs G ρ H acc xs ∧ Post G ρ1 H1 ((lcGo src t mt me (wipeD σs vs) m i acc S).bind fin) Q (EW W σ),
    ⟨n, ⟨ρ1.v, Dl :: ρ1.h⟩, S1, [], [], Le.refl, rl1.hide hD, upd_same, .nil, p1⟩, ?_⟩
  rintro i m H2 ⟨ρ2, S2, acc, xs, l3, rl2, hDl, ra, p2⟩
  have hid : ρ2.h = Dl :: ρ1.h := l3.hid
  have hh1 : ∀ b, b ∈ ρ1.h → H1 b ≠ none := fun b hb => (rl1.hh b hb).2.ne
  have lo : Le G ρ1 H1 ⟨ρ2.v, ρ1.h⟩ H2 := Le.hide hD hh1 l3
  have e2 : ρ2 = ⟨ρ2.v, Dl :: ρ1.h⟩ := by rw [← hid]
  have rlo : Rl G ⟨ρ2.v, ρ1.h⟩ S2 H2 := by rw [e2] at rl2; exact Rl.unhide (ρ := ⟨ρ2.v, ρ1.h⟩) rl2
  have nDv : Dl ∉ ρ2.v := (rl2.hh Dl (by rw [hid]; simp)).1
  have nDh : Dl ∉ ρ1.h := fun z => hh1 Dl z hD
  cases m with
  | zero => exact False.elim p2
  | succ m =>
    obtain ⟨j1, j2⟩ := jr ρ2 S2 H2 ((Mv.hide hD).trans l3.mv) (fun a o u q => l3.kz a o u (by rw [upd_ne (ne_of_none q hD)]; exact q)) rl2 i
    unfold lcGo at p2
    cases q : src i S2 with
    | none => simp only [q] at p2; exact False.elim p2
    | some o =>
      cases o with
      | none =>
        simp only [q] at p2
        refine .inl ⟨j2 q, hf ⟨ρ2.v, ρ1.h⟩ H2 S2 acc xs Dl rlo hDl ⟨nDv, nDh⟩ ?_ (PostR.le p2 lo)⟩
        rw [e2] at ra
        exact ra.move (Mv.unhide (ρ := ⟨ρ2.v, ρ1.h⟩))
      | some d =>
        simp only [q] at p2
        obtain ⟨go, yl⟩ := j1 d q
        refine .inr ⟨go, fun H => ∃ ρ S acc xs, Le G ⟨ρ1.v, Dl :: ρ1.h⟩ (L2.upd H1 Dl (.lst xs)) ρ H ∧ Rl G ρ S H ∧ H Dl = some (.lst xs) ∧ RVs G ρ H acc xs ∧ Post G ρ1 H1 ((lcGo src t mt me (wipeD σs vs) m (i + 1) acc S).bind fin) Q (EW W σ),
          fun H' w => ⟨m, Nat.lt_succ_self m, w⟩, fun x H3 hy => ?_⟩
        obtain ⟨l4, rl3, rv3⟩ := yl x H3 hy
        have mD : Dl ∈ ρ2.h := by rw [hid]; simp
        have hD3 : H3 Dl = some (.lst xs) := by rw [l4.kh Dl mD (by rw [hDl]; simp)]; exact hDl
        cases q1 : t.put d (wipeD σs vs) with
        | none => simp only [q1] at p2; exact False.elim p2
        | some σ2 =>
          simp only [q1] at p2
          have reh : RE G ρ2 H3 σs σ := (re1.move ((Mv.hide hD).trans l3.mv)).mono l4
          refine put_go rv3 (reh.wipe vs) q1 vs hv fun σ' re' e' => ⟨by rw [e', wipe_wipe], ρ2, σ2, S2, rl3, re', ?_⟩
          cases q2 : mt σ2 S2 with
          | exc xx S3 => simp only [q2] at p2; exact False.elim p2
          | bad => simp only [q2] at p2; exact False.elim p2
          | ok b S3 =>
            intro ρ4 H4 b' l5 rl4 eb
            subst eb
            have mD4 : Dl ∈ ρ4.h := by rw [l5.hid]; exact mD
            have hD4 : H4 Dl = some (.lst xs) := by rw [l5.kh Dl mD (by rw [hD3]; simp)]; exact hD3
            cases b with
            | false =>
              simp only [q2] at p2
              show if false = true then _ else _
              rw [if_neg Bool.false_ne_true]
              exact ⟨ρ4, S3, acc, xs, (l3.trans l4).trans l5, rl4, hD4, ra.mono (l4.trans l5), p2⟩
            | true =>
              simp only [q2] at p2
              show if true = true then _ else _
              rw [if_pos rfl]
              refine ⟨ρ4, σ2, S3, rl4, re'.mono l5, ?_⟩
              cases q3 : me σ2 S3 with
              | exc xx S4 => simp only [q3] at p2; exact False.elim p2
              | bad => simp only [q3] at p2; exact False.elim p2
              | ok y S4 =>
                simp only [q3] at p2
                intro ρ5 H5 yv l6 rl5 ry
                have mD5 : Dl ∈ ρ5.h := by rw [l6.hid]; exact mD4
                have hD5 : H5 Dl = some (.lst xs) := by rw [l6.kh Dl mD4 (by rw [hD4]; simp)]; exact hD4
                have nv5 : Dl ∉ ρ5.v := (rl5.hh Dl mD5).1
                by_cases hl : acc.length < lim
                · rw [if_pos hl] at p2
                  refine ⟨xs, hD5, by rw [← ra.length]; exact lim_lt hl, ρ5, S4, acc ++ [y], xs ++ [yv], ?_, rl5.grow hD5 trivial mD5, upd_same, ?_, p2⟩
                  · exact Le.grow hD hD5 trivial nv5 (((l3.trans l4).trans l5).trans l6)
                  · exact ((ra.mono ((l4.trans l5).trans l6)).append (.cons ry .nil)).move (Mv.grow hD5 trivial mD5)
                · rw [if_neg hl] at p2
                  exact False.elim p2
/-- [elt for t in iter if ..], nobody changes it -/
theorem se_lcv {elt tg iter : Expr} {ifs : List Expr} {scope : Scope} {own : List (Str × Nat)} {pos : Pos} {mi : MI} {t : TgN} {mt : MT} {me : ME} (n : Nat) (cc : Cc G X W) (hi : SI G X W tg iter mi) (ok : BlkOk X.N X.env.scope scope own) (hv : ∀ i ∈ t.slots, i ∈ own.map (·.2))
    (hg : ∀ (s : Shared) (H : Hp) (C : Addr) (cl : List (Str × Addr)) (fp : List Addr), PG (X.blk s H scope (compEnvC scope cl C X.env) fp) tg (t.tg X.K)) (ht : ∀ (s : Shared) (H : Hp) (C : Addr) (cl : List (Str × Addr)) (fp : List Addr), PTs (X.blk s H scope (compEnvC scope cl C X.env) fp) ifs (tmt G W0 mt))
    (he : ∀ (s : Shared) (H : Hp) (C : Addr) (cl : List (Str × Addr)) (fp : List Addr), SE G (X.blk s H scope (compEnvC scope cl C X.env) fp) W0 elt me) (hs : ∀ x, foldedSetIterable iter X.env x = pure x := by intro _; rfl) :
    SE G X W (.ListComp elt [⟨tg, iter, ifs, 0⟩] scope pos) (eLcV mi t mt me (own.map (·.2)) n) :=
  se_of (pe_lc cc.calm cc.nd hi ok hg ht he hs) fun σ H Q ρ σs S rl re p => lc_read hv (fun ds S2 => .ok (.lv ds) S2) rl re (fun ρ' H' S' ds xs Dl rl' h1 h2 h3 p' => post_ok (S := S') p' rl' (.lv h2 h1 h3)) p
end
end L2.Mi

set_option Elab.async false
set_option linter.all false
set_option maxRecDepth 100000
set_option maxHeartbeats 4000000
/-! Mini, 10: enumerate over tuples and lists, three names at once. -/
namespace PySem
open Sem (wp)
theorem mi_enum_new {v : Value} {o : Obj} {H : Heap → Prop} (B : Begins v o H) :
    Meets (Builtin.«enumerate.__new__» ⟨[.type "enumerate", v], []⟩) (fun _ R s => H s.heap ∧
      R (.ok (.ret (.ref (s.heap.push o).objs.size))) { s with heap := (s.heap.push o).push { cls := .type "enumerate", data := .fields #[.none, .bool false, .ref s.heap.objs.size, rawInt 0, .none, .none] } }) :=
  .of_wp fun prog w A R s h => by
    obtain ⟨hp, g, d, tk, os⟩ := s; obtain ⟨h1, h⟩ := h
    have hsub := sub_enumerate
    have q1 : ∀ {A' : Around} {E : Value → Shared → Prop} {Q : Value → Shared → Prop}, Q (.ref hp.objs.size) ⟨hp.push o, g, d, tk, os⟩ → wpAny (model prog w) A' (pyIter v) Q E ⟨hp, g, d, tk, os⟩ :=
      fun q => B.iter prog w _ _ ⟨hp, g, d, tk, os⟩ _ h1 q
    wp_walk using q1
    refine wpAny_stack_any fun st => wpAny_pure ?_
    split
    · rename_i c _ _ _ _ _
      cases (c == Value.type "enumerate")
      · wp_walk using q1
        exact ⟨_, rfl, h⟩
      · wp_walk using q1
        exact ⟨_, rfl, h⟩
    · wp_walk using q1
      exact ⟨_, rfl, h⟩
section
variable {prog : Program} {w : World} {A : Around} {E : Value → Shared → Prop} {s : Shared}
theorem mi_enum_begins {v : Value} {o : Obj} {H : Heap → Prop} {Q : Value → Shared → Prop} (B : Begins v o H) (h1 : H s.heap)
    (h : ∀ h', IsEnum h' (s.heap.objs.size + 1) s.heap.objs.size 0 .none → h'.get? s.heap.objs.size = some o → h'.objs.size = s.heap.objs.size + 2 →
      (∀ b o, s.heap.get? b = some o → h'.get? b = some o) → Q (.ref (s.heap.objs.size + 1)) { s with heap := h' }) :
    wpAny (model prog w) A (call (.type "enumerate") [v]) Q E s := by
  refine callType_new F.called_enumerate (by decide) (F.typeCall_enumerate_1 _) (F.newCall_enumerate_1 _) (fun obj => F.args_object_init_2 obj _) F.entry_enumerate_new
    (mi_enum_new B) ⟨h1, ?_⟩
  have hz : (s.heap.push o).objs.size = s.heap.objs.size + 1 := Heap.size_push ..
  show _ ∧ _
  rw [hz]
  have he : IsEnum ((s.heap.push o).push { cls := .type "enumerate", data := .fields #[.none, .bool false, .ref s.heap.objs.size, rawInt 0, .none, .none] }) (s.heap.objs.size + 1) s.heap.objs.size 0 .none := by
    have := Heap.get?_push_size (s.heap.push o) (o := { cls := .type "enumerate", data := .fields #[.none, .bool false, .ref s.heap.objs.size, rawInt 0, .none, .none] }) rfl
    rw [hz] at this; exact this
  refine ⟨⟨_, he, rfl⟩, h _ he (Heap.get?_push_of_some _ (Heap.get?_push_size _ B.free)) (by rw [Heap.size_push, hz]) fun b o x => Heap.get?_push_of_some _ (Heap.get?_push_of_some _ x)⟩
end
end PySem
namespace L2
open PySem PySem.Spec PyProof.Rows
/-- a tuple's items with their places -/
def Iet (K : PySem.W.Frag) (a : Addr) : It :=
  ⟨fun i H => ∃ (xs : List V) (x : V), SqT K H a xs ∧ xs[i]? = some x, fun i H v H' => ∃ T x, v = .ref T ∧ H T = none ∧ H' = upd H T (.tup [.int (i : Nat), x]) ∧ ∀ xs, SqT K H a xs → xs[i]? = some x, fun i H => ∃ xs : List V, SqT K H a xs ∧ xs.length = i⟩
theorem mi_turn_enum {P : Program} {w : World} {K : PySem.W.Frag} {elts : List Expr} {kk : Nat} {tpos : Pos} (a e it : Addr) :
    Turn P w K (.Tuple elts kk tpos) (Iet K a) [e, it] e (fun i h => (∃ old, IsEnum h e it ((i : Nat) : Int) old) ∧ h.IsTupleIter it a i ∧ e ≠ it ∧ a ≠ it ∧ a ≠ e) where
  mem := by simp
  obj := fun i h st b hb => by
    obtain ⟨⟨old, he⟩, ⟨o, ho, hc, hd⟩, _⟩ := st
    have e' : b = e ∨ b = it := by simpa using hb
    rcases e' with z | z
    · rw [z]; exact ⟨_, he, fun v q => nomatch q⟩
    · rw [z]; exact ⟨o, ho, fun v q => by rw [hd] at q; cases q⟩
  keep := fun i h h' st k => let ⟨⟨old, he⟩, hi, hne⟩ := st; ⟨⟨old, k e (by simp) _ he⟩, hi.at fun o q => k it (by simp) o q, hne⟩
  item := by
    intro X hP hw hK hc i pins s σ H E I hf st hg
    subst hP hw hK
    obtain ⟨⟨old, he⟩, hit, hne, hai, hae⟩ := st
    obtain ⟨xs, x, hq, hx⟩ := hg
    obtain ⟨its, rv, p, hz⟩ := I.tuple hq
    obtain ⟨u, hu, ru⟩ := rv.get hx
    have hel : e < s.heap.objs.size := Heap.lt_size he
    have hil : it < s.heap.objs.size := by obtain ⟨_, q, _⟩ := hit; exact Heap.lt_size q
    have hin : i < its.toArray.size := by
      obtain ⟨h1, _⟩ := List.getElem?_eq_some_iff.mp hu
      simpa using h1
    have hD : Draws X.prog X.w X.A.in1 it [it, a] its.toArray.size (fun i v => its.toArray[i]? = some v) (fun i h => h.IsTupleIter it a i ∧ h.IsTuple a its.toArray) := Draws.tuple (show X.A.in1.handled = none from I.ok.hd hc) it a hai its.toArray
    refine wpAny_pyNext_enum_itemD hD he ⟨hit, p⟩ hin hne (by simp [hne, Ne.symm hae]) fun y h' tk hy ho hst hT hsz hk => ?_
    have hy' : y = u := by
      have e1 : its[i]? = some y := by simpa using hy
      rw [hu] at e1
      exact (Option.some.inj e1).symm
    subst hy'
    obtain ⟨hit', _⟩ := hst
    refine ⟨_, rfl, wpAny_letOwnedTupleGo_enum (s := { s with heap := h', toks := tk + 1 }) ho fun h'' he' sb => ?_⟩
    have hT2 : h''.get? s.heap.objs.size = some { cls := .type "tuple", data := .seq #[.int i tk, y] } := (sb.2 _ (Nat.ne_of_gt hel)).trans hT
    have new : ObjOk X.prog X.w (upd H s.heap.objs.size (.tup [.int (i : Nat), x])) h'' s.heap.objs.size (.tup [.int (i : Nat), x]) :=
      ⟨by show 2 ≤ sizeLine; decide, [.int i tk, y], .cons ⟨_, rfl⟩ (.cons ru .nil), ⟨_, hT2, rfl, _, rfl⟩⟩
    have I1 : Inv X pins σ (upd H s.heap.objs.size (.tup [.int (i : Nat), x])) { s with heap := h'', toks := tk + 1 } :=
      I.turnedNew (ch := [e, it]) (fun b ob hb q => (sb.2 b (fun z => hb (by simp [z]))).trans (hk b ob (fun z => hb (by simp [z])) (fun z => hb (by simp [z])) q)) hf (Nat.le_refl _) new
    refine ⟨.ref s.heap.objs.size, _, I1, rfl, ⟨_, x, rfl, I.hok.fresh (Nat.le_refl _), rfl, fun ys hy => by rw [I.tuple_inj hy hq]; exact hx⟩, ⟨⟨y, ?_⟩, hit'.at fun o q => (sb.2 it (Ne.symm hne)).trans q, hne, hai, hae⟩, fun b hb => ?_⟩
    · have e1 : ((i + 1 : Nat) : Int) = (i : Int) + 1 := by omega
      rw [e1]; exact he'
    · have hb' : b < s.heap.objs.size := by
        have e' : b = e ∨ b = it := by simpa using hb
        rcases e' with z | z
        · rw [z]; exact hel
        · rw [z]; exact hil
      rw [upd_ne (Nat.ne_of_lt hb')]
      exact (hf b hb).1
  done := by
    intro X hP hw hK hc i pins s σ H E I hf st hg
    subst hP hw hK
    obtain ⟨⟨old, he⟩, hit, hne, hai, hae⟩ := st
    obtain ⟨xs, hq, hx⟩ := hg
    obtain ⟨its, rv, p, hz⟩ := I.tuple hq
    obtain ⟨f0, f1, f2, f3, f4, f5⟩ := hf it (by simp)
    have hl := rv.length
    have hD : Draws X.prog X.w X.A.in1 it [it, a] its.toArray.size (fun i v => its.toArray[i]? = some v) (fun i h => h.IsTupleIter it a i ∧ h.IsTuple a its.toArray) := Draws.tuple (show X.A.in1.handled = none from I.ok.hd hc) it a hai its.toArray
    have hit' : s.heap.IsTupleIter it a its.toArray.size := by
      have : its.toArray.size = i := by simp; omega
      rw [this]; exact hit
    exact wpAny_pyNext_enum_endD hD he ⟨hit', p⟩ fun h' eb => ⟨rfl, I.turned (t' := s.toks) (fun b o hb q => eb b o hb q) f0 f1 f3 f4 f5⟩
  self := fun A i s Q E st h => let ⟨⟨_, he⟩, _⟩ := st; wpAny_pyIter_enum he h
def iEnumT (K : PySem.W.Frag) (ta : TA) : TI := fun σ H R => ta σ H fun vs H1 => ∃ a xs, vs = [.ref a] ∧ SqT K H1 a xs ∧ R (Iet K a) H1
theorem pi_enumT {X : Cx} {e : Expr} {ta : TA} {p pos tpos : Pos} {elts : List Expr} {kk : Nat} (hg : Gl X "enumerate") (hm : X.mg "enumerate" = none) (ha : PA X [e] ta) (hs : starEach [e] X.env = [(false, eval e X.env)] := by rfl) :
    PI X (.Tuple elts kk tpos) (.Call (.Name "enumerate" p) [e] [] pos) (iEnumT X.K ta) := by
  refine ⟨fun pins s σ H R I h => ?_⟩
  refine Call_ (ld_blt I hg hm boot_enumerate (PyProof.Rows.callWith_type1 (thn (ha.run pos pins s σ H _ I h) fun us s1 ⟨vs, H1, I1, r1, q1⟩ => ?_) hs rfl))
  obtain ⟨a, xs, ex, hq, q⟩ := q1
  subst ex
  cases r1 with
  | cons r rr =>
    cases rr
    cases r
    obtain ⟨its, rv, p', hz⟩ := I1.tuple hq
    have hal : a < s1.heap.objs.size := by obtain ⟨_, q, _⟩ := p'; exact Heap.lt_size q
    refine mi_enum_begins (begins_tuple a its.toArray) p' fun h' he hit hsz hk => wpAny_pyIter_enum he ?_
    have I2 : Inv X pins σ H1 { s1 with heap := h' } := I1.kept (t' := s1.toks) hk
    refine ⟨s1.heap.objs.size + 1, [s1.heap.objs.size + 1, s1.heap.objs.size], _, _, H1, rfl, I2, mi_turn_enum a (s1.heap.objs.size + 1) s1.heap.objs.size, ⟨⟨.none, he⟩, ⟨_, hit, rfl, rfl⟩, Nat.succ_ne_self _, Nat.ne_of_lt hal, Nat.ne_of_lt (Nat.lt_succ_of_lt hal)⟩, fun b hb => ?_, q⟩
    have e' : b = s1.heap.objs.size + 1 ∨ b = s1.heap.objs.size := by simpa using hb
    have hle : s1.heap.objs.size ≤ b := by
      rcases e' with z | z
      · rw [z]; exact Nat.le_add_right _ _
      · rw [z]; exact Nat.le_refl _
    exact I1.fpOk hle (I1.hok.fresh hle)
end L2
namespace L2.Mi
open PySem PySem.Spec PyProof.Rows
def enT (ds : List D) : Src := fun k _ => match ds[k]? with
  | some x => some (some (.tup [.int (k : Nat), x]))
  | none => if k = ds.length then some none else none
def iEnT (m : ME) : MI := fun σ S => (m σ S).bind fun d S1 => match tupD d with
  | some ds => .ok (enT ds) S1
  | none => .bad
def enL (d : D) : Src := fun k S => match listAt S d with
  | some ds => (match ds[k]? with | some x => some (some (.tup [.int (k : Nat), x])) | none => some none)
  | none => none
def iEnL (m : ME) : MI := fun σ S => (m σ S).bind fun d S1 => match listAt S1 d with
  | some ds => .ok (enL d) S1
  | none => .bad
section
variable {G : Gx} {X : Cx} {W : WX} {e tg : Expr} {m : ME} {pos p : Pos}
theorem jr_enT {ρ0 : Wd} {H0 : Hp} {ds : List D} {d : D} {a : Addr} (rv : RV G ρ0 H0 d (.ref a)) (hd : tupD d = some ds) : JR G ρ0 H0 (enT ds) (Iet G.K a) := by
  intro ρ S H l kz rl i
  obtain ⟨b, xs, e1, hq, hr⟩ := tupD_rel (rv.move l) hd
  cases e1
  refine ⟨fun e h => ?_, fun h => ?_⟩
  · unfold enT at h
    cases q : ds[i]? with
    | none =>
      simp only [q] at h
      split at h <;> cases h
    | some d1 =>
      simp only [q] at h
      cases h
      obtain ⟨x, h1, h2⟩ := hr.get q
      refine ⟨⟨xs, x, hq, h1⟩, fun y H' hy => ?_⟩
      obtain ⟨T, x', e2, hT, e3, hy⟩ := hy
      have e4 := hy xs hq
      rw [h1] at e4
      cases e4
      subst e2 e3
      exact ⟨Le.new hT, rl.other hT, .tup upd_same (.cons (.int _) (.cons (h2.mono (Le.new hT)) .nil))⟩
  · unfold enT at h
    cases q : ds[i]? with
    | some d1 => simp only [q] at h; cases h
    | none =>
      simp only [q] at h
      by_cases hi : i = ds.length
      · exact ⟨xs, hq, by rw [← hr.length]; exact hi.symm⟩
      · rw [if_neg hi] at h; cases h
theorem jr_enL {ρ0 : Wd} {H0 : Hp} {d : D} {a : Addr} (rv : RV G ρ0 H0 d (.ref a)) : JR G ρ0 H0 (enL d) (Ite G.K a) := by
  intro ρ S H l kz rl i
  refine ⟨fun e h => ?_, fun h => ?_⟩
  · unfold enL at h
    cases q0 : listAt S d with
    | none => simp only [q0] at h; cases h
    | some ds =>
      obtain ⟨b, xs, e1, hq, hr⟩ := listAt_rel rl (rv.move l) q0
      cases e1
      cases q : ds[i]? with
      | none => simp only [q0, q] at h; cases h
      | some d1 =>
        simp only [q0, q] at h
        cases h
        obtain ⟨x, h1, h2⟩ := hr.get q
        refine ⟨⟨xs, x, hq, h1⟩, fun y H' hy => ?_⟩
        obtain ⟨T, x', e2, hT, e3, hy⟩ := hy
        have e4 := hy xs hq
        rw [h1] at e4
        cases e4
        subst e2 e3
        exact ⟨Le.new hT, rl.other hT, .tup upd_same (.cons (.int _) (.cons (h2.mono (Le.new hT)) .nil))⟩
  · unfold enL at h
    cases q0 : listAt S d with
    | none => simp only [q0] at h; cases h
    | some ds =>
      obtain ⟨b, xs, e1, hq, hr⟩ := listAt_rel rl (rv.move l) q0
      cases e1
      cases q : ds[i]? with
      | some d1 => simp only [q0, q] at h; cases h
      | none => exact ⟨xs, hq, by rw [← hr.length]; exact List.getElem?_eq_none_iff.mp q⟩
variable {elts : List Expr} {kk : Nat} {tpos : Pos}
theorem one_go {α β : Type} {R : Wd → Hp → α → β → Prop} {ρ : Wd} {H : Hp} {σs : En} {S : Store} {Q : β → Hp → Prop} {E : XK} {f : D → Store → Res α} (p : PostR G R ρ H ((m σs S).bind f) Q E) {Q1 : List V → Hp → Prop}
    (k : ∀ ρ1 H1 S1 d x, Le G ρ H ρ1 H1 → Rl G ρ1 S1 H1 → RV G ρ1 H1 d x → PostR G R ρ1 H1 (f d S1) Q E → Q1 [x] H1) : PostA G ρ H (aList [m] σs S) Q1 E := by
  unfold aList aList
  cases q : m σs S with
  | ok d S1 =>
    rw [q] at p
    intro ρ1 H1 xs l1 rl1 rv1
    obtain ⟨x, rfl, r⟩ := rvs1 rv1
    exact k ρ1 H1 S1 d x l1 rl1 r (PostR.le (r := f d S1) p l1)
  | exc x S1 => rw [q] at p; exact p
  | bad => rw [q] at p; exact p
theorem si_enT (cc : Cc G X W) (h : SE G X W e m) (hg : Gl X "enumerate") (hm : X.mg "enumerate" = none) (hs : starEach [e] X.env = [(false, eval e X.env)] := by rfl) : SI G X W (.Tuple elts kk tpos) (.Call (.Name "enumerate" p) [e] [] pos) (iEnT m) := by
  refine si_of (pi_enumT hg hm (sa_cons h sa_nil hs) hs) fun σ H R ρ σs S rl re p => ?_
  refine ⟨ρ, σs, S, rl, re, one_go p fun ρ1 H1 S1 d x l1 rl1 rv1 p1 => ?_⟩
  cases q : tupD d with
  | none => simp only [q] at p1; exact p1.elim
  | some ds =>
    simp only [q] at p1
    obtain ⟨a, xs, rfl, hq, hr⟩ := tupD_rel rv1 q
    refine ⟨a, xs, rfl, by rw [cc.k]; exact hq, ?_⟩
    rw [cc.k]
    exact p1 ρ1 H1 _ Le.refl rl1 (jr_enT rv1 q)
theorem si_enL (cc : Cc G X W) (h : SE G X W e m) (hg : Gl X "enumerate") (hm : X.mg "enumerate" = none) (hs : starEach [e] X.env = [(false, eval e X.env)] := by rfl) : SI G X W (.Tuple elts kk tpos) (.Call (.Name "enumerate" p) [e] [] pos) (iEnL m) := by
  refine si_of (pi_enum hg hm (sa_cons h sa_nil hs) hs) fun σ H R ρ σs S rl re p => ?_
  refine ⟨ρ, σs, S, rl, re, one_go p fun ρ1 H1 S1 d x l1 rl1 rv1 p1 => ?_⟩
  cases q : listAt S1 d with
  | none => simp only [q] at p1; exact p1.elim
  | some ds =>
    simp only [q] at p1
    obtain ⟨a, xs, rfl, hq, hr⟩ := listAt_rel rl1 rv1 q
    refine ⟨a, xs, rfl, by rw [cc.k]; exact hq, ?_⟩
    rw [cc.k]
    exact p1 ρ1 H1 _ Le.refl rl1 (jr_enL rv1)
/-- a, b, c = x, y, z -/
def sPar3 (i j l : Nat) (a b c : ME) : MS := fun σ S => match aList [a, b, c] σ S with
  | .ok [x, y, z] S1 => .nx (((σ.set i (some x)).set j (some y)).set l (some z)) S1
  | .exc x S1 => .exc x σ S1
  | _ => .bad
theorem ss_par3 {a b c : Expr} {ma mb mc : ME} {i j l : Nat} {x y z : Str} {px py pz pt : Pos} {kt k2 pt2} (hc : X.calm = true) (hN : X.N.Nodup) (hi : X.N[i]? = some x) (hj : X.N[j]? = some y) (hl : X.N[l]? = some z) (hij : i ≠ j) (hil : i ≠ l) (hjl : j ≠ l)
    (hx : X.env.scope.names.lookup x = some .local) (hy : X.env.scope.names.lookup y = some .local) (hz : X.env.scope.names.lookup z = some .local) (ha : SA G X W [a, b, c] (aList [ma, mb, mc]))
    (hs : swappedStores [.Tuple [.Name x px, .Name y py, .Name z pz] kt pt] (.Tuple [a, b, c] k2 pt2) X.env = pure (some [x, y, z]) := by rfl)
    (hs2 : swapsWithSole [.Tuple [.Name x px, .Name y py, .Name z pz] kt pt] (.Tuple [a, b, c] k2 pt2) pos.line X.env = pure false := by rfl) :
    SS G X W (.Assign [.Tuple [.Name x px, .Name y py, .Name z pz] kt pt] (.Tuple [a, b, c] k2 pt2) pos) (sPar3 i j l ma mb mc) := by
  refine ss_of (ps_par3 hc hN hi hj hl hij hil hjl hx hy hz ha hs hs2) fun σ H Dn ρ σs S rl re p => ?_
  refine ⟨ρ, σs, S, rl, re, ?_⟩
  unfold sPar3 at p
  cases q : aList [ma, mb, mc] σs S with
  | ok ds S1 =>
    rw [q] at p
    have hl : ds.length = 3 := aList_len q
    match ds, hl, p with
    | [d1, d2, d3], _, p =>
      intro ρ1 H1 vs l1 rl1 rv1
      cases rv1 with
      | cons r1 r2 =>
        cases r2 with
        | cons r2 r3 =>
          cases r3 with
          | cons r3 r4 =>
            cases r4
            exact ⟨_, _, _, rfl, p ρ1 H1 _ l1 rl1 ((((re.mono l1).set i r1).set j r2).set l r3)⟩
  | exc x S1 =>
    rw [q] at p
    exact fun ρ1 H1 c dd l1 rl1 rx => p ρ1 H1 σ c dd l1 rl1 (re.mono l1) rx
  | bad => rw [q] at p; exact p
end
end L2.Mi

set_option Elab.async false
set_option linter.all false
set_option maxRecDepth 100000
set_option maxHeartbeats 4000000
/-! Mini, 11: what the top has written, told by one run; defs with defaults; a law's end. -/
namespace L2.Mi
open PySem PySem.Spec PyProof.Rows
abbrev Fg := PySem.W.Frag
theorem ba {a b : Bool} (h : (a && b) = true) : a = true ∧ b = true := Bool.and_eq_true_iff.mp h
/-! ### constants of the top -/
/-- the value u is the constant d: tuples and lists by their items -/
def kvB (K : Fg) : Nat → D → Value → Bool
  | 0, _, _ => false
  | n + 1, d, u => match d, u with
    | .non, .none => true
    | .bl b, .bool c => b == c
    | .int i, .int j _ => decide (i = j)
    | .str x, .str y _ => decide (y.cps.toList = x)
    | .ty t, .type m => decide (t = m)
    | .kt ds, .ref a => (match K.lookup a with
      | some ⟨.type c, _, .seq its _, _⟩ => decide (c = "tuple") && (decide (its.size ≤ sizeLine) && (decide (ds.length = its.toList.length) && (ds.zip its.toList).all fun q => kvB K n q.1 q.2))
      | _ => false)
    | .fl ds, .ref a => (match K.lookup a with
      | some ⟨.type c, none, .seq its _, _⟩ => decide (c = "list") && (decide (its.size ≤ sizeLine) && (decide (ds.length = its.toList.length) && (ds.zip its.toList).all fun q => kvB K n q.1 q.2))
      | _ => false)
    | _, _ => false
section
variable {G : Gx}
theorem kv_all {P : D → Value → Prop} (h : ∀ d u, P d u → ∃ x, RelV x u ∧ ∀ ρ H, RV G ρ H d x) : ∀ {ds : List D} {us : List Value}, ds.length = us.length → (∀ q ∈ ds.zip us, P q.1 q.2) → ∃ xs, Vals xs us ∧ ∀ ρ H, RVs G ρ H ds xs
  | [], [], _, _ => ⟨[], .nil, fun _ _ => .nil⟩
  | [], _ :: _, e, _ => by cases e
  | _ :: _, [], e, _ => by cases e
  | d :: ds, u :: us, e, k => by
    obtain ⟨x, r1, r2⟩ := h d u (k (d, u) (by simp))
    obtain ⟨xs, s1, s2⟩ := kv_all (P := P) h (ds := ds) (us := us) (by simpa using e) fun q hq => k q (by simp [hq])
    exact ⟨x :: xs, .cons r1 s1, fun ρ H => .cons (r2 ρ H) (s2 ρ H)⟩
theorem kvB_ok : ∀ (n : Nat) (d : D) (u : Value), kvB G.K n d u = true → ∃ x, RelV x u ∧ ∀ ρ H, RV G ρ H d x
  | 0, _, _, h => by cases h
  | n + 1, d, u, h => by
    unfold kvB at h
    split at h
    · exact ⟨.non, rfl, fun _ _ => .non⟩
    · rename_i b c
      have e : b = c := eq_of_beq h
      subst e
      exact ⟨.bl b, rfl, fun _ _ => .bl b⟩
    · rename_i i j t
      have e : i = j := of_decide_eq_true h
      subst e
      exact ⟨.int i, ⟨t, rfl⟩, fun _ _ => .int i⟩
    · rename_i x y t
      have e : y.cps.toList = x := of_decide_eq_true h
      subst e
      exact ⟨.str y, ⟨t, rfl⟩, fun _ _ => rv_str y⟩
    · rename_i t m
      have e : t = m := of_decide_eq_true h
      subst e
      exact ⟨.ty t, rfl, fun _ _ => .ty t⟩
    · rename_i ds a
      split at h
      · rename_i c od its m sl q
        obtain ⟨h1, h⟩ := ba h
        obtain ⟨h2, h⟩ := ba h
        obtain ⟨h3, h4⟩ := ba h
        obtain ⟨xs, r1, r2⟩ := kv_all (G := G) (P := fun d u => kvB G.K n d u = true) (kvB_ok n) (of_decide_eq_true h3) fun q hq => List.all_eq_true.mp h4 q hq
        exact ⟨.ref a, rfl, fun ρ H => .kt (.inr ⟨_, its, m, q, congrArg Value.type (of_decide_eq_true h1), rfl, of_decide_eq_true h2, r1⟩) (r2 ρ H)⟩
      · cases h
    · rename_i ds a
      split at h
      · rename_i c its m sl q
        obtain ⟨h1, h⟩ := ba h
        obtain ⟨h2, h⟩ := ba h
        obtain ⟨h3, h4⟩ := ba h
        obtain ⟨xs, r1, r2⟩ := kv_all (G := G) (P := fun d u => kvB G.K n d u = true) (kvB_ok n) (of_decide_eq_true h3) fun q hq => List.all_eq_true.mp h4 q hq
        exact ⟨.ref a, rfl, fun ρ H => .fl (.inr (.inr ⟨_, its, m, q, congrArg Value.type (of_decide_eq_true h1), rfl, rfl, of_decide_eq_true h2, r1⟩)) (r2 ρ H)⟩
      · cases h
    · cases h
end
/-! ### addresses by names -/
def pgA (K : Fg) (C : Str) (f : Str) : Addr := match PySem.W.recIn K (He.ma K (He.ga K C) f) "property" with
  | some (.ref g :: _) => g
  | _ => 0
def cgA (K : Fg) (C : Str) (f : Str) : Addr := match PySem.W.recIn K (He.ma K (He.ga K C) f) "classmethod" with
  | some (.ref g :: _) => g
  | _ => 0
inductive Pth where
  | g (x : Str) | m (C x : Str) | p (C x : Str) | c (C x : Str)
def Pth.ad (K : Fg) : Pth → Addr
  | .g x => He.ga K x
  | .m C x => He.ma K (He.ga K C) x
  | .p C x => pgA K C x
  | .c C x => cgA K C x
/-! ### defs -/
structure DefM where
  pth : Pth
  name : Str
  qual : Str
  st : Stmt
  dfl : List D := []
def DefM.val (d : DefM) : He.FnW := some (d.name, d.qual, defArgs d.st, .stmts (defBody d.st), defScope d.st, mainGlobals, [], builtinsNs)
def dfB (K : Fg) (dV : Value) (ds : List D) : Bool := match ds with
  | [] => (match dV with | .none => true | _ => false)
  | ds => (match dV with
    | .ref T => (match K.lookup T with
      | some ⟨_, _, .seq its _, _⟩ => decide (ds.length = its.toList.length) && (ds.zip its.toList).all fun q => kvB K 8 q.1 q.2
      | _ => false)
    | _ => false)
def DefM.ok (K : Fg) (d : DefM) : Bool := PySem.W.keepIn K (.ref (d.pth.ad K)) && (match K.lookup (d.pth.ad K) with
  | some ⟨_, _, .func fd, _⟩ => PySem.W.codeIn K fd.code d.qual && dfB K fd.defaults d.dfl
  | _ => false)
def fnM (K : Fg) (a : Addr) : He.FnW := match K.lookup a with
  | some ⟨_, _, .func fd, _⟩ => some (fd.name, fd.qualname, fd.params, fd.body, fd.scope, fd.globals, fd.closure, fd.builtins)
  | _ => none
theorem dfB_ok {G : Gx} {dV : Value} {ds : List D} (h : dfB G.K dV ds = true) : ∃ dvs, DflV G.K dV dvs ∧ ∀ ρ H, RVs G ρ H ds dvs := by
  unfold dfB at h
  split at h
  · split at h
    · exact ⟨[], .inl ⟨rfl, rfl⟩, fun _ _ => .nil⟩
    · cases h
  · rename_i hne
    split at h
    · rename_i T
      split at h
      · rename_i oc od its m sl q
        obtain ⟨h1, h2⟩ := ba h
        obtain ⟨xs, r1, r2⟩ := kv_all (G := G) (P := fun d u => kvB G.K 8 d u = true) (kvB_ok 8) (of_decide_eq_true h1) fun q hq => List.all_eq_true.mp h2 q hq
        refine ⟨xs, .inr ⟨fun e => ?_, T, _, its.toList, m, rfl, q, by simp, r1⟩, r2⟩
        subst e
        have z := (r2 ⟨[], []⟩ fun _ => none).length
        cases ds with
        | nil => exact hne rfl
        | cons _ _ => cases z
      · cases h
    · cases h
/-- a def as the walk takes it -/
structure FnM (G : Gx) (d : DefM) where
  fd : FuncData
  dvs : List V
  F : FunD G.K d.name d.qual (defArgs d.st) (defBody d.st) (defScope d.st) dvs [] (d.pth.ad G.K) fd
  rd : ∀ ρ H, RVs G ρ H d.dfl dvs
theorem fnM_ok {G : Gx} {d : DefM} (e : fnM G.K (d.pth.ad G.K) = d.val) (c : d.ok G.K = true) : Nonempty (FnM G d) := by
  obtain ⟨kp, c2⟩ := ba c
  unfold fnM at e
  cases q : G.K.lookup (d.pth.ad G.K) with
  | none => rw [q] at c2; cases c2
  | some o =>
    obtain ⟨oc, od, dt, osl⟩ := o
    rw [q] at c2 e
    cases dt with
    | func fd =>
      obtain ⟨n1, n2, n3, n4, n5, n6, n7, n8, n9, n10, n11, n12, n13, n14, n15⟩ := fd
      have e2 : (some (n1, n2, n3, n4, n5, n6, n7, n15) : He.FnW) = some (d.name, d.qual, defArgs d.st, .stmts (defBody d.st), defScope d.st, mainGlobals, [], builtinsNs) := e
      simp only [Option.some.injEq, Prod.mk.injEq] at e2
      obtain ⟨h1, h2, h3, h4, h5, h6, h7, h8⟩ := e2
      subst h1 h2 h3 h4 h5 h6 h7 h8
      obtain ⟨k1, k2⟩ := ba (show (PySem.W.codeIn G.K n13 d.qual && dfB G.K n8 d.dfl) = true from c2)
      obtain ⟨dvs, k3, k4⟩ := dfB_ok k2
      exact ⟨⟨_, dvs, ⟨⟨oc, od, n8, n9, n10, n11, n12, n13, n14, osl, rfl, q, k1, k3, .inl rfl⟩, kp⟩, k4⟩⟩
    | _ => cases c2
/-! ### calls with defaults -/
/-- between n less the defaults and n arguments -/
def callD (n : Nat) (dfl : List D) (m : FN) : FN := fun xs S => if xs.length ≤ n ∧ n ≤ xs.length + dfl.length then m (xs ++ dfl.drop (dfl.length + xs.length - n)) S else .bad
theorem RVs.drop {G : Gx} {ρ : Wd} {H : Hp} : ∀ (n : Nat) {ds : List D} {xs : List V}, RVs G ρ H ds xs → RVs G ρ H (ds.drop n) (xs.drop n)
  | 0, _, _, r => r
  | _ + 1, _, _, .nil => .nil
  | n + 1, _, _, .cons _ t => RVs.drop n t
theorem cal_defD {G : Gx} {P : Program} {w : World} {mg : Str → Option Value} {base : Heap} {k : Nat} {f : Addr} {fd : FuncData} {ps : List Str} {m : FN} {n : Nat} {dvs : List V} {dfl : List D}
    (F : FnOk P w G.K mg base (L2.CX P w) k f fd ps (spF G m n)) (hn : n = ps.length) (hb : ∀ j, j ≤ dvs.length → ∃ ds, Vals (dvs.drop j) ds ∧ Binds G.K fd ps ds) (hdd : ∀ ρ H, RVs G ρ H dfl dvs) : Cal G P w mg base k f (callD n dfl m) := by
  intro A outer s H us vs Q E hr e0 r h
  obtain ⟨ρ, S, es, rl, rv, p⟩ := h
  unfold callD at p
  by_cases hl : es.length ≤ n ∧ n ≤ es.length + dfl.length
  · rw [if_pos hl] at p
    have hle := (hdd ρ H).length
    obtain ⟨ds, hd, hbi⟩ := hb (dfl.length + es.length - n) (by omega)
    have hlen : vs.length + (dvs.drop (dfl.length + es.length - n)).length = n := by rw [← rv.length, List.length_drop]; omega
    have KX : G.K.In s.heap := e0.mod.kin.keeps fun b o e => (e0.bs b o e).1
    refine F.run A outer s H ⟨us, []⟩ (us ++ ds) (vs ++ dvs.drop (dfl.length + es.length - n)) Q E hr e0 (hbi s us KX ?_) (r.append hd) ⟨ρ, S, _, ?_, rl, rv.append ((hdd ρ H).drop _), p⟩
    · rw [List.length_append, ← r.length, ← hd.length, ← hn]; exact hlen
    · rw [List.length_append]; exact hlen
  · rw [if_neg hl] at p
    exact p.elim
/-! ### facts -/
inductive Fm where
  | glo (x : Str) | free (x : Str) | con (x : Str) (d : D)
  | cls (C : Str) | noat (C f : Str) | meth (C m : Str) | mkr (C : Str) | prop (C f : Str)
  | bin (C : Str) (o : Operator) | un (C m : Str) | ne (C : Str) | callo (C : Str)
  | oex (C : Str) | exm (A B : Str) (b : Bool)
  | raw (p : Fg → Bool)
/-- an own class over ValueError, with a dict -/
def oexO (K : Fg) (C : Addr) : Bool := match K.lookup C with
  | some ⟨.type t, _, .cls cd, sl⟩ => (match cd.mro, sl.toList with
    | .ref C' :: bm, [_, _, _, _, some (.builtin n), _] => decide (t = "type") && (decide (C' = C) && (decide (n = "ValueError.__new__") && (!cd.hasDel && (cd.hasDict && PySem.HandSPX.refsVE bm))))
    | _, _ => false)
  | _ => false
def clB (K : Fg) (C : Addr) : Bool := PySem.W.plainGet K C Str.empty && (PySem.W.hasDictIn K C && (PySem.W.plainOver K C && (He.eqO (PySem.W.findIn K (.ref C) "__setattr__") (some (some (.builtin "object.__setattr__"))) &&
  (He.eqO (PySem.W.findIn K (.ref C) "__class__") (some (some (.builtin "object.__class__"))) && (He.eqO (PySem.W.specialIn K (.builtin "object.__class__") "__get__") (some (some (.builtin "getset_descriptor.__get__"))) &&
  (decide (PySem.W.takesIn K (.builtin "object.__class__") = some true) && decide (PySem.W.mroIn K C (.type "object") = some true)))))))
theorem clB_ok {K : Fg} {C : Addr} (h : clB K C = true) : CI K C := by
  obtain ⟨h1, h⟩ := ba h
  obtain ⟨h2, h⟩ := ba h
  obtain ⟨h3, h⟩ := ba h
  obtain ⟨h4, h⟩ := ba h
  obtain ⟨h5, h⟩ := ba h
  obtain ⟨h6, h⟩ := ba h
  obtain ⟨h7, h8⟩ := ba h
  exact ⟨⟨h1, h2, h3, He.eqO_ok h4⟩, He.eqO_ok h5, He.eqO_ok h6, of_decide_eq_true h7, of_decide_eq_true h8⟩
def fnAt (K : Fg) (C : Addr) (m : Str) : Bool := He.eqO (PySem.W.findIn K (.ref C) m) (some (some (.ref (He.ma K C m)))) && PySem.W.isFn K (.ref (He.ma K C m))
theorem fnAt_ok {K : Fg} {C : Addr} {m : Str} (h : fnAt K C m = true) : PySem.W.findIn K (.ref C) m = some (some (.ref (He.ma K C m))) ∧ PySem.W.isFn K (.ref (He.ma K C m)) = true := by
  obtain ⟨h1, h2⟩ := ba h
  exact ⟨He.eqO_ok h1, h2⟩
def refNone : Option (Option Value) → Bool
  | some none => true
  | some (some (.ref _)) => true
  | _ => false
theorem refNone_ok {o : Option (Option Value)} (h : refNone o = true) : ∃ rc, o = some rc ∧ (rc = none ∨ ∃ g : Addr, rc = some (.ref g)) := by
  unfold refNone at h
  split at h
  · exact ⟨_, rfl, .inl rfl⟩
  · exact ⟨_, rfl, .inr ⟨_, rfl⟩⟩
  · cases h
def Fm.ok (K : Fg) : Fm → Bool
  | .glo x => He.eqO (PySem.W.nsIn K mainGlobals x) (some (some (.ref (He.ga K x)))) && PySem.W.keepIn K (.ref (He.ga K x))
  | .free x => He.eqO (PySem.W.nsIn K mainGlobals x) (some none)
  | .con x d => (match PySem.W.nsIn K mainGlobals x with | some (some u) => kvB K 8 d u | _ => false)
  | .cls C => clB K (He.ga K C)
  | .noat C f => He.eqO (PySem.W.findIn K (.ref (He.ga K C)) f) (some none)
  | .meth C m => fnAt K (He.ga K C) m && PySem.W.keepIn K (.ref (He.ma K (He.ga K C) m))
  | .mkr C => PySem.W.makesIn K (He.ga K C) && (fnAt K (He.ga K C) "__init__" && PySem.W.keepIn K (.ref (He.ga K C)))
  | .prop C f => He.eqO (PySem.W.findIn K (.ref (He.ga K C)) f) (some (some (.ref (He.ma K (He.ga K C) f)))) && (He.eqO (PySem.W.specialIn K (.ref (He.ma K (He.ga K C) f)) "__get__") (some (some (.builtin "property.__get__"))) &&
    (decide (PySem.W.takesIn K (.ref (He.ma K (He.ga K C) f)) = some true) && (match PySem.W.recIn K (He.ma K (He.ga K C) f) "property" with | some (.ref _ :: _) => true | _ => false)))
  | .bin C o => PySem.W.selfFirst K (He.ga K C) && (fnAt K (He.ga K C) (PySem.dunder o.info.2) && (refNone (PySem.W.findIn K (.ref (He.ga K C)) (dunderR o.info.2)) && ((PySem.W.findIn K (.type "int") (PySem.dunder o.info.2)).isSome &&
    ((PySem.W.findIn K (.type "int") (dunderR o.info.2)).isSome && decide (PySem.W.subIn K (.type "int") (.ref (He.ga K C)) = some false)))))
  | .un C m => fnAt K (He.ga K C) m
  | .ne C => He.eqO (PySem.W.findIn K (.ref (He.ga K C)) "__ne__") (some (some (.builtin "object.__ne__"))) && fnAt K (He.ga K C) "__eq__"
  | .callo C => fnAt K (He.ga K C) "__call__" && PySem.W.fnIn K (He.ma K (He.ga K C) "__call__")
  | .oex C => oexO K (He.ga K C) && (He.eqO (PySem.W.findIn K (.ref (He.ga K C)) "__setattr__") (some (some (.builtin "object.__setattr__"))) && (decide (PySem.W.subIn K (.ref (He.ga K C)) (.type "BaseException") = some true) &&
    (decide (PySem.W.typeIn K (.ref (He.ga K C)) = some (.type "type")) && (PySem.W.keepIn K (.ref (He.ga K C)) && (fnAt K (He.ga K C) "__init__" && xfB K (He.ga K C))))))
  | .raw p => p K
  | .exm A B b => decide (PySem.W.exmOne K (.ref (He.ga K A)) (.ref (He.ga K B)) = some b)
/-! ### a law's program -/
structure Lw where
  cls : List Str
  flds : List Str
  isi : List (Tag × Tag × Bool)
  xcl : List Str
  defs : List DefM
  fa : List Fm
  /-- the def whose table of code objects grows, and its code objects' name -/
  tab : Option (Str × Str) := none
  fok : (decide flds.Nodup && flds.all fun x => decide (x.cps.size ≠ 1) || x.cps.all fun c => decide (c < 2000000)) = true
def fldOf (l : List Str) (i : Nat) : Str := match l[i]? with | some x => x | none => ⟨#[2000000 + i]⟩
theorem fldOf_inj {l : List Str} (h : (decide l.Nodup && l.all fun x => decide (x.cps.size ≠ 1) || x.cps.all fun c => decide (c < 2000000)) = true) (i j : Nat) (e : fldOf l i = fldOf l j) : i = j := by
  obtain ⟨h1, h2⟩ := ba h
  have nd : l.Nodup := of_decide_eq_true h1
  have odd : ∀ x ∈ l, ∀ k, x ≠ ⟨#[2000000 + k]⟩ := fun x hx k ex => by
    have z := List.all_eq_true.mp h2 x hx
    rw [ex] at z
    simp at z
    omega
  unfold fldOf at e
  cases q : l[i]? with
  | some x =>
    cases q2 : l[j]? with
    | some y =>
      rw [q, q2] at e
      have e' : x = y := e
      subst e'
      obtain ⟨a1, e1⟩ := List.getElem?_eq_some_iff.mp q
      obtain ⟨a2, e2⟩ := List.getElem?_eq_some_iff.mp q2
      have pw := List.pairwise_iff_getElem.mp nd
      rcases Nat.lt_trichotomy i j with h | h | h
      · exact absurd (e1.trans e2.symm) (pw i j a1 a2 h)
      · exact h
      · exact absurd (e2.trans e1.symm) (pw j i a2 a1 h)
    | none =>
      rw [q, q2] at e
      exact absurd e (odd x (List.mem_of_getElem? q) j)
  | none =>
    cases q2 : l[j]? with
    | some y =>
      rw [q, q2] at e
      exact absurd e.symm (odd y (List.mem_of_getElem? q2) i)
    | none =>
      rw [q, q2] at e
      have e' : (⟨#[2000000 + i]⟩ : Str) = ⟨#[2000000 + j]⟩ := e
      simp at e'
      exact e'
def Lw.clsA (L : Lw) (K : Fg) (c : Nat) : Option Addr := (L.cls[c]?).map (He.ga K)
def Lw.isiF (L : Lw) (t u : Tag) : Option Bool := (L.isi.find? fun q => q.1 == t && q.2.1 == u).map (·.2.2)
def Lw.isiB (L : Lw) (K : Fg) : Bool := L.isi.all fun q => match tagVal (L.clsA K) q.1, tagVal (L.clsA K) q.2.1 with
  | some a, some b => decide (PySem.W.kitOne K a b = some q.2.2)
  | _, _ => true
def Lw.ex (L : Lw) (K : Fg) : Bool := (L.fa.all fun f => f.ok K) && (L.isiB K && ((L.cls.all fun x => clB K (He.ga K x)) && L.defs.all fun d => d.ok K))
abbrev AlM : Type := Bool × List He.FnW
def Lw.obs (L : Lw) (K : Fg) : AlM := (L.ex K, L.defs.map fun d => fnM K (d.pth.ad K))
def Lw.vl (L : Lw) : AlM := (true, L.defs.map DefM.val)
def Lw.Says (L : Lw) (K : Fg) : Prop := L.obs K = L.vl
/-- what is looked at: all but the table that grows -/
def Lw.asL (L : Lw) (n : Nat) (g : Addr → Option Obj) : List Addr := match L.tab with
  | none => He5.asA g n
  | some p => match PySem.W.tabIn (He.frG g (He5.asA g n)) p.1 with
    | some q => (He5.asA g n).filter fun a => !(a == q.2)
    | none => He5.asA g n
def Lw.obsG (L : Lw) (n : Nat) (g : Addr → Option Obj) : AlM := L.obs (He.frG g (L.asL n g))
def Lw.hook (L : Lw) (n : Nat) : PySem.W.Hook where
  α := AlM
  obs := fun s => L.obsG n s.heap.get?
  val := fun _ => L.vl
  says := fun _ h => ∃ K : Fg, K.In h ∧ L.Says K
  of := fun _ _ e => ⟨_, He.frG_in, e⟩
  keeps := fun _ _ _ ⟨K, hK, c⟩ k => ⟨K, PySem.W.Frag.In.keeps hK k, c⟩
theorem Lw.obsG_eq {L : Lw} {n : Nat} {g : Addr → Option Obj} {s : Shared} (h : ∀ a, g a = s.heap.get? a) : L.obsG n g = (L.hook n).obs s := by
  have e : g = s.heap.get? := funext h
  rw [e] <;> rfl
section
variable {L : Lw} {K : Fg}
theorem Lw.Says.all (c : L.Says K) : L.ex K = true := congrArg (fun z : AlM => z.1) c
theorem Lw.Says.fact (c : L.Says K) (i : Nat) {f : Fm} (h : L.fa[i]? = some f) : f.ok K = true := List.all_eq_true.mp (ba c.all).1 f (List.mem_of_getElem? h)
theorem Lw.Says.ci (c : L.Says K) (i : Nat) (C : Addr) (h : L.clsA K i = some C) : CI K C := by
  unfold Lw.clsA at h
  cases q : L.cls[i]? with
  | none => rw [q] at h; cases h
  | some x =>
    rw [q] at h
    cases h
    exact clB_ok (List.all_eq_true.mp (ba (ba (ba c.all).2).2).1 x (List.mem_of_getElem? q))
theorem Lw.Says.isi (c : L.Says K) (t u : Tag) (b : Bool) (tv uv : Value) (h : L.isiF t u = some b) (h1 : tagVal (L.clsA K) t = some tv) (h2 : tagVal (L.clsA K) u = some uv) : PySem.W.kitOne K tv uv = some b := by
  unfold Lw.isiF at h
  cases q : L.isi.find? fun q => q.1 == t && q.2.1 == u with
  | none => rw [q] at h; cases h
  | some z =>
    rw [q] at h
    have hb : z.2.2 = b := by simpa using h
    have hz := List.find?_some q
    have hm := List.mem_of_find?_eq_some q
    obtain ⟨e1, e2⟩ := ba hz
    have e1 := eq_of_beq e1
    have e2 := eq_of_beq e2
    have hk := List.all_eq_true.mp (ba (ba c.all).2).1 z hm
    rw [e1, e2, h1, h2] at hk
    rw [of_decide_eq_true hk, hb]
/-- the tables -/
def Lw.tabsA (L : Lw) (K : Fg) : List (Addr × Str) := match L.tab with
  | none => []
  | some p => match PySem.W.tabIn K p.1 with
    | some q => [(q.2, p.2)]
    | none => []
def Lw.gx (L : Lw) (K : Fg) (c : L.Says K) : Gx where
  K := K
  tabs := L.tabsA K
  fns := fun i => (L.defs[i]?).map fun d => d.pth.ad K
  cls := L.clsA K
  fld := fldOf L.flds
  inj := fldOf_inj L.fok
  clsv := fun i => (L.xcl[i]?).map fun C => .ref (He.ga K C)
  ci := c.ci
  isi := L.isiF
  isi_ok := c.isi
theorem Lw.gx_tabs (L : Lw) {K : Fg} {c : L.Says K} (h : L.tab = none) : (L.gx K c).tabs = [] := by
  show L.tabsA K = []
  unfold Lw.tabsA
  rw [h]
theorem Lw.Says.fn (c : L.Says K) (i : Nat) {d : DefM} (h : L.defs[i]? = some d) : Nonempty (FnM (L.gx K c) d) := by
  have e : L.defs.map (fun d => fnM K (d.pth.ad K)) = L.defs.map DefM.val := congrArg (fun z : AlM => z.2) c
  have e2 : (L.defs.map fun d => fnM K (d.pth.ad K))[i]? = (L.defs.map DefM.val)[i]? := by rw [e]
  rw [List.getElem?_map, List.getElem?_map, h] at e2
  exact fnM_ok (G := L.gx K c) (Option.some.inj e2) (List.all_eq_true.mp (ba (ba (ba c.all).2).2).2 d (List.mem_of_getElem? h))
end
end L2.Mi

set_option Elab.async false
set_option linter.all false
set_option maxRecDepth 100000
set_option maxHeartbeats 4000000
/-! Mini, 12: the facts as the derivations take them; a law's end. -/
namespace L2.Mi
open PySem PySem.Spec PyProof.Rows
def lv : Nat → Nat
  | 0 => 2
  | n + 1 => lv n + 2
theorem lv_eq : ∀ n, lv n = 2 * n + 2
  | 0 => rfl
  | n + 1 => by unfold lv; rw [lv_eq n]; omega
/-- the module's names -/
def Ns (K : Fg) (mg : Str → Option Value) : Prop := ∃ h : Heap, K.In h ∧ h.Ns mainGlobals mg
section
variable {L : Lw} {K : Fg} {c : L.Says K} {mg : Str → Option Value} {x C f m : Str}
theorem Ns.glo (N : Ns K mg) (c : L.Says K) (i : Nat) (h : L.fa[i]? = some (.glo x) := by rfl) : mg x = some (.ref (He.ga K x)) := by
  obtain ⟨hp, kin, ns⟩ := N
  exact PySem.W.mg_of kin ns (He.eqO_ok (ba (c.fact i h)).1)
theorem keep_of (c : L.Says K) (i : Nat) (h : L.fa[i]? = some (.glo x) := by rfl) : PySem.W.keepIn K (.ref (He.ga K x)) = true := (ba (c.fact i h)).2
theorem Ns.free (N : Ns K mg) (c : L.Says K) (i : Nat) (h : L.fa[i]? = some (.free x) := by rfl) : mg x = none := by
  obtain ⟨hp, kin, ns⟩ := N
  exact PySem.W.mg_none_of kin ns (He.eqO_ok (c.fact i h))
theorem Ns.con (N : Ns K mg) (c : L.Says K) (i : Nat) {d : D} (h : L.fa[i]? = some (.con x d)) : ∃ u v, mg x = some u ∧ RelV v u ∧ ∀ ρ H, RV (L.gx K c) ρ H d v := by
  obtain ⟨hp, kin, ns⟩ := N
  have z := c.fact i h
  have z' : (match PySem.W.nsIn K mainGlobals x with | some (some u) => kvB K 8 d u | _ => false) = true := z
  cases q : PySem.W.nsIn K mainGlobals x with
  | none => rw [q] at z'; cases z'
  | some o =>
    cases o with
    | none => rw [q] at z'; cases z'
    | some u =>
      rw [q] at z'
      obtain ⟨v, r1, r2⟩ := kvB_ok (G := L.gx K c) 8 d u z'
      exact ⟨u, v, PySem.W.mg_of kin ns q, r1, r2⟩
theorem cls_of (c : L.Says K) (ci : Nat) (hc : L.cls[ci]? = some C) : (L.gx K c).cls ci = some (He.ga K C) := by
  show (L.cls[ci]?).map (He.ga K) = _
  rw [hc]
  rfl
theorem ci_of (c : L.Says K) (ci : Nat) (hc : L.cls[ci]? = some C) : CI K (He.ga K C) := c.ci ci _ (cls_of c ci hc)
theorem mk_of (c : L.Says K) (i : Nat) (h : L.fa[i]? = some (.mkr C)) : Mk K (He.ga K C) (He.ma K (He.ga K C) "__init__") := by
  obtain ⟨h1, z⟩ := ba (c.fact i h)
  obtain ⟨h2, h3⟩ := ba z
  obtain ⟨h4, h5⟩ := fnAt_ok h2
  exact ⟨h1, h4, h5, h3⟩
theorem mkeep_of (c : L.Says K) (i : Nat) (h : L.fa[i]? = some (.mkr C) := by rfl) : PySem.W.keepIn K (.ref (He.ga K C)) = true := (mk_of c i h).kp
theorem meth_of (c : L.Says K) (i : Nat) (h : L.fa[i]? = some (.meth C m)) : Meth K (He.ga K C) m (He.ma K (He.ga K C) m) := by
  obtain ⟨h1, h2⟩ := ba (c.fact i h)
  obtain ⟨h4, h5⟩ := fnAt_ok h1
  exact ⟨h4, h5, h2⟩
theorem prop_of (c : L.Says K) (i : Nat) (h : L.fa[i]? = some (.prop C f)) : PropOf K (He.ga K C) f (He.ma K (He.ga K C) f) (pgA K C f) := by
  obtain ⟨h1, z⟩ := ba (c.fact i h)
  obtain ⟨h2, z⟩ := ba z
  obtain ⟨h3, h4⟩ := ba z
  refine ⟨He.eqO_ok h1, He.eqO_ok h2, of_decide_eq_true h3, ?_⟩
  unfold pgA
  split at h4
  · rename_i g r e
    exact ⟨r, by rw [e]⟩
  · cases h4
section
variable {X : Cx} {W : WX} {g : FN} {k : Nat}
theorem fieldS (c : L.Says K) (ci i : Nat) (hc : L.cls[ci]? = some C) (h : L.fa[i]? = some (.noat C f)) (e : X.K = K := by rfl) : FieldS (L.gx K c) X f ci :=
  ⟨_, cls_of c ci hc, by rw [e]; exact (ci_of c ci hc).cl, by rw [e]; exact He.eqO_ok (c.fact i h)⟩
theorem methS (c : L.Says K) (ci i : Nat) (hc : L.cls[ci]? = some C) (h : L.fa[i]? = some (.meth C m)) (F : FnS (L.gx K c) X W (.ref (He.ma K (He.ga K C) m)) g) (e : X.K = K := by rfl) : MethS (L.gx K c) X W m ci g :=
  ⟨_, _, cls_of c ci hc, by rw [e]; exact (ci_of c ci hc).cl, by rw [e]; exact meth_of c i h, F⟩
theorem propS (c : L.Says K) (ci i : Nat) (hc : L.cls[ci]? = some C) (h : L.fa[i]? = some (.prop C f)) (F : Cal (L.gx K c) X.prog X.w X.mg X.base k (pgA K C f) g) (hr : Room (k + 1) X.A) (e : X.K = K := by rfl) : PropS (L.gx K c) X f ci g :=
  ⟨_, _, _, k, cls_of c ci hc, by rw [e]; exact (ci_of c ci hc).cl, by rw [e]; exact prop_of c i h, by rw [e]; exact F, hr⟩
theorem binS {o : Operator} (c : L.Says K) (ci i : Nat) (hc : L.cls[ci]? = some C) (h : L.fa[i]? = some (.bin C o)) (F : FnS (L.gx K c) X W (.ref (He.ma K (He.ga K C) (PySem.dunder o.info.2))) g) (e : X.K = K := by rfl) : OpClsS (L.gx K c) X W o ci g := by
  obtain ⟨h1, z⟩ := ba (c.fact i h)
  obtain ⟨h2, z⟩ := ba z
  obtain ⟨h3, z⟩ := ba z
  obtain ⟨h4, z⟩ := ba z
  obtain ⟨h5, h6⟩ := ba z
  obtain ⟨h7, h8⟩ := fnAt_ok h2
  obtain ⟨rc, h9, h10⟩ := refNone_ok h3
  refine ⟨_, _, rc, cls_of c ci hc, ?_, ?_, ?_, ?_, h10, ?_, ?_, ?_, F⟩
  · rw [e]; exact h1
  · rw [e]; exact h7
  · rw [e]; exact h8
  · rw [e]; exact h9
  · rw [e]; exact Option.isSome_iff_exists.mp h4
  · rw [e]; exact Option.isSome_iff_exists.mp h5
  · rw [e]; exact of_decide_eq_true h6
theorem unS (c : L.Says K) (ci i : Nat) (hc : L.cls[ci]? = some C) (h : L.fa[i]? = some (.un C m)) (F : FnS (L.gx K c) X W (.ref (He.ma K (He.ga K C) m)) g) (e : X.K = K := by rfl) : UnClsS (L.gx K c) X W m ci g := by
  obtain ⟨h1, h2⟩ := fnAt_ok (c.fact i h)
  exact ⟨_, _, cls_of c ci hc, by rw [e]; exact h1, by rw [e]; exact h2, F⟩
theorem neS (c : L.Says K) (ci i : Nat) (hc : L.cls[ci]? = some C) (h : L.fa[i]? = some (.ne C)) (F : Cal (L.gx K c) X.prog X.w X.mg X.base k (He.ma K (He.ga K C) "__eq__") g) (hr : Room (k + 1) X.A) (e : X.K = K := by rfl) : NeClsS (L.gx K c) X ci g := by
  obtain ⟨h1, h2⟩ := ba (c.fact i h)
  obtain ⟨h3, h4⟩ := fnAt_ok h2
  exact ⟨_, _, k, cls_of c ci hc, by rw [e]; exact He.eqO_ok h1, by rw [e]; exact h3, by rw [e]; exact h4, by rw [e]; exact F, hr⟩
theorem callS (c : L.Says K) (ci i : Nat) (hc : L.cls[ci]? = some C) (h : L.fa[i]? = some (.callo C)) (F : Cal (L.gx K c) X.prog X.w X.mg X.base k (He.ma K (He.ga K C) "__call__") g) (hr : Room k X.A) (e : X.K = K := by rfl) : CallOS (L.gx K c) X ci g := by
  obtain ⟨h1, h2⟩ := ba (c.fact i h)
  obtain ⟨h3, h4⟩ := fnAt_ok h1
  exact ⟨_, _, k, cls_of c ci hc, by rw [e]; exact ⟨h3, h4, h2⟩, by rw [e]; exact F, hr⟩
/-- x, a constant of the top -/
theorem se_con {d : D} {pos : Pos} (c : L.Says K) (N : Ns K X.mg) (i : Nat) (h : L.fa[i]? = some (.con x d)) (hg : Gl X x) (hdb : (x == ("__debug__" : Str)) = false := by decide) : SE (L.gx K c) X W (.Name x pos) (eC d) := by
  obtain ⟨u, v, h1, h2, h3⟩ := N.con c i h
  exact se_glob hg h1 h2 h3 hdb
end
end
/-! ### alternatives -/
def orB {α : Type} (a b : Res α) : Res α := match a with | .bad => b | r => r
theorem post_or {α β : Type} {G : Gx} {R : Wd → Hp → α → β → Prop} {ρ : Wd} {H : Hp} {a b : Res α} {Q : β → Hp → Prop} {E : XK} (p : PostR G R ρ H (orB a b) Q E) : PostR G R ρ H a Q E ∨ PostR G R ρ H b Q E := by
  cases a with
  | bad => exact .inr p
  | ok d S => exact .inl p
  | exc x S => exact .inl p
def opOr (f g : D → D → Store → Res D) : D → D → Store → Res D := fun x y S => orB (f x y S) (g x y S)
theorem OpS.or {G : Gx} {X : Cx} {W : WX} {F : Value → Value → Sem Value} {f g : D → D → Store → Res D} (h1 : OpS G X W F f) (h2 : OpS G X W F g) : OpS G X W F (opOr f g) := fun pins s σ H x y v u Q ρ S d1 d2 I rx ry rl r1 r2 p =>
  (post_or p).elim (h1 pins s σ H x y v u Q ρ S d1 d2 I rx ry rl r1 r2) (h2 pins s σ H x y v u Q ρ S d1 d2 I rx ry rl r1 r2)
def fnOr (f g : FN) : FN := fun xs S => orB (f xs S) (g xs S)
theorem FnS.or {G : Gx} {X : Cx} {W : WX} {F : Value} {f g : FN} (h1 : FnS G X W F f) (h2 : FnS G X W F g) : FnS G X W F (fnOr f g) := fun pins s σ H xs us Q ρ S ds I r rl rv p =>
  (post_or p).elim (h1 pins s σ H xs us Q ρ S ds I r rl rv) (h2 pins s σ H xs us Q ρ S ds I r rl rv)
def eOr2 (a b : ME) : ME := fun σ S => orB (a σ S) (b σ S)
theorem se_or2 {G : Gx} {X : Cx} {W : WX} {e : Expr} {a b : ME} (h1 : SE G X W e a) (h2 : SE G X W e b) : SE G X W e (eOr2 a b) := ⟨fun pins s σ H Q I ⟨ρ, σs, S, rl, re, p⟩ =>
  (post_or p).elim (fun p => h1.run pins s σ H Q I ⟨ρ, σs, S, rl, re, p⟩) (fun p => h2.run pins s σ H Q I ⟨ρ, σs, S, rl, re, p⟩)⟩
/-! ### targets of comprehensions -/
theorem tg_one {X : Cx} {i : Nat} {x : Str} {pos : Pos} {K : Fg} (hN : X.N.Nodup) (hi : X.N[i]? = some x) (hx : Loc X.env.scope x) (hf : X.fn x = true ∨ X.env.scope.names.lookup x = some .local) : PG X (.Name x pos) ((TgN.one i).tg K) := pg_name hN hi hx hf
/-! ### the end -/
theorem cal0 {G : Gx} {P : Program} {w : World} {mg : Str → Option Value} {base : Heap} {k : Nat} {f : Addr} : Cal G P w mg base k f (fun _ _ => .bad) := by
  intro A outer s H us vs Q E hr e0 r h
  obtain ⟨ρ, S, es, rl, rv, p⟩ := h
  exact p.elim
def spLaw (G : Gx) (m : FN) : Sp := fun vs H Q E => vs.length = 1 ∧ spG G m vs H Q E
theorem ints_rel {G : Gx} {ρ : Wd} {H : Hp} : ∀ ns : List Int, RVs G ρ H (ns.map D.int) (ns.map V.int)
  | [] => .nil
  | n :: ns => .cons (.int n) (ints_rel ns)
theorem start_ok {G : Gx} {H : Hp} {a : Addr} {ns : List Int} (hT : G.tabs = []) (ho : Only H) (hS : SqL G.K H a (ns.map V.int)) : Rl G ⟨[], []⟩ ⟨[]⟩ H ∧ RV G ⟨[], []⟩ H (.fl (ns.map D.int)) (.ref a) := by
  refine ⟨⟨rfl, List.nodup_nil, fun b h => (List.not_mem_nil h).elim, fun i o h => ?_, fun p hp => ?_⟩, .fl ?_ (ints_rel ns)⟩
  · cases h
  · rw [hT] at hp; cases hp
  · rcases hS with (h | h) | h
    · rcases ho a with z | ⟨o, xs, z⟩
      · rw [h] at z; cases z
      · rw [h] at z; cases z
    · exact .inl h
    · exact .inr (.inr h)
theorem walkM {l : PySem.W.OpenLaw} {n k : Nat} {q : Program} {loose : List Str} {XP : (Str → Option Value) → Heap → Prop} {L : Lw} {N : Nat} {d : DefRec} {x : Str} {run : FN}
    (hn : l.most = some n) (hn2 : n ≤ sizeLine) (hdf : d.params.defaults = []) (hr : Room k callerA) (ht : L.tab = none)
    (F : ∀ (w : World) (mg : Str → Option Value) (fa : Addr) (K : Fg) (c : L.Says K), Ns K mg → mg d.name = some (.ref fa) →
      ∃ fd : FuncData, (∀ (s : Shared) (u : Value), BindsTo s fd ⟨[u], []⟩ [(x, u)]) ∧ ∀ base : Heap, K.In base → base.Ns mainGlobals mg → FnOk l.prog w K mg base (L2.CX l.prog w) k fa fd [x] (spF (L.gx K c) run 1))
    (good : ∀ ns : List Int, ns.length ≤ n → (∀ z ∈ ns, Builtin.Int.intBits z ≤ 1048576) → ∃ S, run [.fl (ns.map D.int)] ⟨[]⟩ = .ok (.bl true) S) :
    PySem.W.WalkO q loose XP (L.hook N).says l.row.toRowW d [] (fun f vs => PySem.call f vs) := by
  refine Att.attach_callB hn hdf fun w s₀ s₁ mg mb fa o pm cd doc a vs ns G Y ho hd hcd hmg hobj hints hlen hbits hg => ?_
  obtain ⟨K, KX, c⟩ := Y
  obtain ⟨fd, hb, hF⟩ := F w mg fa K c ⟨_, KX, G.T.g⟩ hmg
  refine law_call KX G.T.g G.T.b G.T.builtins G.T.nolimit hg hobj hints (Nat.le_trans hlen hn2) hr hF hb (fun H hO hS => ?_) fun H e s' h => ?_
  · obtain ⟨rl, rv⟩ := start_ok (G := L.gx K c) (L.gx_tabs ht) hO hS
    obtain ⟨S, e⟩ := good ns hlen hbits
    refine ⟨⟨[], []⟩, ⟨[]⟩, _, rfl, rl, .cons rv .nil, ?_⟩
    rw [e]
    intro ρ' H' v _ _ r
    cases r
    rfl
  · obtain ⟨_, _, _, _, _, _, _, _, _, _, _, _, z⟩ := h
    exact z.elim
end L2.Mi

set_option Elab.async false
set_option linter.all false
set_option maxRecDepth 100000
set_option maxHeartbeats 4000000
/-! Mini, 13: tests by chains and by truth, alternatives of iterators, += and -=. -/
namespace L2.Mi
open PySem PySem.Spec PyProof.Rows
section
variable {G : Gx} {X : Cx} {W : WX} {a b c e tg : Expr} {ma mb mc m : ME} {pos : Pos}
theorem cmp_rel {g : Int → Int → Bool} : ∀ ρ S H d1 d2 x y Q E, Rl G ρ S H → RV G ρ H d1 x → RV G ρ H d2 y → Post G ρ H (intOp (fun _ _ => true) (fun i j => .bl (g i j)) d1 d2 S) Q E → rI0 (fun i j => .bl (g i j)) x y H Q := by
  intro ρ S H d1 d2 x y Q E rl r1 r2 p
  obtain ⟨i, j, h1, h2, h3, p⟩ := intOp_go r1 r2 p
  exact ⟨i, j, h1, h2, post_ok p rl (.bl _)⟩
theorem chain_read {f g : D → D → Store → Res D} {r r' : R2}
    (hf : ∀ ρ S H d1 d2 x y Q E, Rl G ρ S H → RV G ρ H d1 x → RV G ρ H d2 y → Post G ρ H (f d1 d2 S) Q E → r x y H Q) (hg : ∀ ρ S H d1 d2 x y Q E, Rl G ρ S H → RV G ρ H d1 x → RV G ρ H d2 y → Post G ρ H (g d1 d2 S) Q E → r' x y H Q)
    {σ : St} {H : Hp} {Q : VK} {ρ : Wd} {σs : En} {S : Store} (rl : Rl G ρ S H) (re : RE G ρ H σs σ) (p : Post G ρ H (eChain f g ma mb mc σs S) Q (EW W σ)) : tChain r r' (tm G W ma) (tm G W mb) (tm G W mc) σ H Q := by
  refine ⟨ρ, σs, S, rl, re, PostR.bind (R := RV G) p fun ρ1 H1 S1 d1 x l1 rl1 rv1 p1 => ?_⟩
  refine ⟨ρ1, σs, S1, rl1, re.mono l1, PostR.bind (R := RV G) p1 fun ρ2 H2 S2 d2 y l2 rl2 rv2 p2 => ?_⟩
  refine hf ρ2 S2 H2 d1 d2 x y _ _ rl2 (rv1.mono l2) rv2 (PostR.bind (R := RV G) p2 fun ρ3 H3 S3 d3 z l3 rl3 rv3 p3 => ?_)
  cases rv3 with
  | bl k =>
    refine ⟨k, rfl, ?_⟩
    cases k with
    | true =>
      show if true = true then _ else _
      rw [if_pos rfl]
      refine ⟨ρ3, σs, S3, rl3, (re.mono l1).mono (l2.trans l3), PostR.bind (R := RV G) p3 fun ρ4 H4 S4 d4 w l4 rl4 rv4 p4 => ?_⟩
      exact hg ρ4 S4 H4 d2 d4 y w _ _ rl4 (rv2.mono (l3.trans l4)) rv4 p4
    | false =>
      show if false = true then _ else _
      rw [if_neg Bool.false_ne_true]
      exact post_ok (S := S3) p3 rl3 (.bl false)
  | _ => exact False.elim p3
theorem st_chain {op op' : CmpOp} {f g : D → D → Store → Res D} {r r' : R2} (ho : OpR X (compareOp op) r) (ho' : OpR X (compareOp op') r')
    (hf : ∀ ρ S H d1 d2 x y Q E, Rl G ρ S H → RV G ρ H d1 x → RV G ρ H d2 y → Post G ρ H (f d1 d2 S) Q E → r x y H Q) (hg : ∀ ρ S H d1 d2 x y Q E, Rl G ρ S H → RV G ρ H d1 x → RV G ρ H d2 y → Post G ρ H (g d1 d2 S) Q E → r' x y H Q)
    (ha : SE G X W a ma) (hb : SE G X W b mb) (hc : SE G X W c mc) (hm : lastMarks [op, op'] [b, c] = false := by with_unfolding_all rfl) : ST G X W (.Compare a [op, op'] [b, c] pos) (tOf (eChain f g ma mb mc)) := by
  refine PT.weak (pt_chain ho ho' ha hb hc hm) fun σ H Q ⟨ρ, σs, S, rl, re, p⟩ => ?_
  exact chain_read hf hg rl re (p.bind (R := RV G) (Q1 := fun v H' => ∃ k, v = .bl k ∧ Q k H') fun ρ3 H3 S3 z w l3 rl3 rv3 p3 => bool_go (pins := []) (σ := σ) p3 rl3 rv3)
/-! truth -/
def truD (S : Store) : D → Option Bool
  | .non => some false
  | .bl b => some b
  | .int i => some (i != 0)
  | .str l => if l.length ≤ lim then some ((l.length : Int) != 0) else none
  | d => (match seqAt S d with | some ds => some (!ds.isEmpty) | none => none)
def tTru (m : ME) : MT := fun σ S => (m σ S).bind fun d S1 => match truD S1 d with | some k => .ok k S1 | none => .bad
theorem rvs_empty {ρ : Wd} {H : Hp} {ds : List D} {xs : List V} (r : RVs G ρ H ds xs) : xs.isEmpty = ds.isEmpty := by cases r <;> rfl
theorem truD_rel {ρ : Wd} {S : Store} {H : Hp} {d : D} {x : V} {k : Bool} (rl : Rl G ρ S H) (rv : RV G ρ H d x) (h : truD S d = some k) : TruV G.K x H k := by
  have sq : ∀ {d : D} {x : V}, RV G ρ H d x → (match seqAt S d with | some ds => some (!ds.isEmpty) | none => none) = some k → TruV G.K x H k := fun {d x} rv h => by
    cases q : seqAt S d with
    | none => rw [q] at h; cases h
    | some ds =>
      rw [q] at h
      obtain ⟨a, xs, rfl, hq, hr⟩ := seqAt_rel rl rv q
      have hk : k = !xs.isEmpty := by rw [rvs_empty hr]; exact (Option.some.inj h).symm
      rcases hq with hq | hq
      · exact .inl ⟨xs, hq, hk⟩
      · exact .inr (.inl ⟨xs, hq, hk⟩)
  cases rv with
  | non => exact (Option.some.inj h).symm
  | bl b => exact (Option.some.inj h).symm
  | int i => exact (Option.some.inj h).symm
  | str l =>
    have h : (if l.length ≤ lim then some ((l.length : Int) != 0) else none) = some k := h
    by_cases hl : l.length ≤ lim
    · rw [if_pos hl] at h
      refine ⟨by rw [str_len]; exact lim_le hl, ?_⟩
      rw [str_len]
      exact (Option.some.inj h).symm
    · rw [if_neg hl] at h; cases h
  | tup ht hr => exact sq (.tup ht hr) h
  | kt ht hr => exact sq (.kt ht hr) h
  | lv n ht hr => exact sq (.lv n ht hr) h
  | fl ht hr => exact sq (.fl ht hr) h
  | ref hi => exact sq (.ref hi) h
  | fn hi => exact sq (.fn hi) h
  | ty n => cases h
  | cl hc => cases h
  | dvK _ _ _ => cases h
  | dvT _ _ _ => cases h
theorem st_tru (cc : Cc G X W) (h : SE G X W e m) (he : ∀ whole, isTrue e X.env whole = (do let v ← whole; standAt e.pos; holding [v] (truthy v)) := by intro _; rfl) : ST G X W e (tTru m) := by
  refine PT.weak (pt_truth h he) fun σ H Q ⟨ρ, σs, S, rl, re, p⟩ => ?_
  refine ⟨ρ, σs, S, rl, re, p.bind (R := RV G) fun ρ1 H1 S1 d x l1 rl1 rv1 p1 => ?_⟩
  cases q : truD S1 d with
  | none => simp only [q] at p1; exact p1.elim
  | some k =>
    simp only [q] at p1
    exact ⟨k, by rw [cc.k]; exact truD_rel rl1 rv1 q, p1 ρ1 H1 k Le.refl rl1 rfl⟩
/-! iterators -/
def iOr (a b : MI) : MI := fun σ S => orB (a σ S) (b σ S)
theorem si_or {iter : Expr} {m1 m2 : MI} (h1 : SI G X W tg iter m1) (h2 : SI G X W tg iter m2) : SI G X W tg iter (iOr m1 m2) := ⟨fun pins s σ H R I ⟨ρ, σs, S, rl, re, p⟩ =>
  (post_or p).elim (fun p => h1.run pins s σ H R I ⟨ρ, σs, S, rl, re, p⟩) (fun p => h2.run pins s σ H R I ⟨ρ, σs, S, rl, re, p⟩)⟩
/-- a tuple or a list -/
def iSeq (m : ME) : MI := fun σ S => (m σ S).bind fun d S1 => match tupD d with
  | some ds => .ok (fun k _ => some ds[k]?) S1
  | none => (match listAt S1 d with
    | some _ => .ok (fun k S' => (listAt S' d).map fun ds => ds[k]?) S1
    | none => .bad)
theorem iSeq_or (m : ME) (σ : En) (S : Store) : iSeq m σ S = iOr (iTup m) (iList m) σ S := by
  unfold iSeq iOr iTup iList
  cases q : m σ S with
  | ok d S1 => cases d <;> rfl
  | exc x S1 => rfl
  | bad => rfl
theorem si_seq (cc : Cc G X W) (h : SE G X W e m) : SI G X W tg e (iSeq m) := by
  have z : iSeq m = iOr (iTup m) (iList m) := funext fun σ => funext fun S => iSeq_or m σ S
  rw [z]
  exact si_or (si_tup cc h) (si_list cc h)
def iEn (m : ME) : MI := fun σ S => (m σ S).bind fun d S1 => match tupD d with
  | some ds => .ok (enT ds) S1
  | none => (match listAt S1 d with
    | some _ => .ok (enL d) S1
    | none => .bad)
theorem iEn_or (m : ME) (σ : En) (S : Store) : iEn m σ S = iOr (iEnT m) (iEnL m) σ S := by
  unfold iEn iOr iEnT iEnL
  cases q : m σ S with
  | ok d S1 => cases d <;> rfl
  | exc x S1 => rfl
  | bad => rfl
theorem si_en {elts : List Expr} {kk : Nat} {tpos p : Pos} (cc : Cc G X W) (h : SE G X W e m) (hg : Gl X "enumerate") (hm : X.mg "enumerate" = none) (hs : starEach [e] X.env = [(false, eval e X.env)] := by rfl) : SI G X W (.Tuple elts kk tpos) (.Call (.Name "enumerate" p) [e] [] pos) (iEn m) := by
  have z : iEn m = iOr (iEnT m) (iEnL m) := funext fun σ => funext fun S => iEn_or m σ S
  rw [z]
  exact si_or (si_enT cc h hg hm hs) (si_enL cc h hg hm hs)
theorem szl {k : Nat} (h : Nat.ble k 16777216 = true) : k ≤ sizeLine := by rw [sizeLine_eq]; exact Nat.le_of_ble_eq_true h
/-! targets of comprehensions -/
theorem tg_many {es : List Expr} {kk : Nat} {is : List Nat} {K : Fg} (cc : X.calm = true) (h : PGs X es (gNames is)) (hK : X.K = K := by rfl) (hn : (assignEach es X.env).length = is.length := by rfl) (hst : (assignEach es X.env).findIdx? (·.1) = none := by rfl) : PG X (.Tuple es kk pos) ((TgN.many is).tg K) := by
  subst hK
  exact pg_tup cc h hn hst
/-- a comprehension: the block's context comes with each part -/
theorem se_lcc {elt tg iter : Expr} {ifs : List Expr} {scope : Scope} {own : List (Str × Nat)} {mi : MI} {t : TgN} {mt : MT} {me : ME} (n : Nat) (cc : Cc G X W) (hi : SI G X W tg iter mi) (ok : BlkOk X.N X.env.scope scope own) (hv : ∀ i ∈ t.slots, i ∈ own.map (·.2))
    (hg : ∀ (s : Shared) (H : Hp) (C : Addr) (cl : List (Str × Addr)) (fp : List Addr), Cc G (X.blk s H scope (compEnvC scope cl C X.env) fp) W0 → PG (X.blk s H scope (compEnvC scope cl C X.env) fp) tg (t.tg X.K))
    (ht : ∀ (s : Shared) (H : Hp) (C : Addr) (cl : List (Str × Addr)) (fp : List Addr), Cc G (X.blk s H scope (compEnvC scope cl C X.env) fp) W0 → PTs (X.blk s H scope (compEnvC scope cl C X.env) fp) ifs (tmt G W0 mt))
    (he : ∀ (s : Shared) (H : Hp) (C : Addr) (cl : List (Str × Addr)) (fp : List Addr), Cc G (X.blk s H scope (compEnvC scope cl C X.env) fp) W0 → SE G (X.blk s H scope (compEnvC scope cl C X.env) fp) W0 elt me) (hs : ∀ x, foldedSetIterable iter X.env x = pure x := by intro _; rfl) :
    SE G X W (.ListComp elt [⟨tg, iter, ifs, 0⟩] scope pos) (eLcV mi t mt me (own.map (·.2)) n) :=
  se_lcv n cc hi ok hv (fun s H C cl fp => hg s H C cl fp (cc_blk cc)) (fun s H C cl fp => ht s H C cl fp (cc_blk cc)) (fun s H C cl fp => he s H C cl fp (cc_blk cc)) hs
/-! += and -= of ints -/
def addI : D → D → Store → Res D := intOp (fun _ _ => true) fun i j => .int (i + j)
def subI : D → D → Store → Res D := intOp (fun _ _ => true) fun i j => .int (i - j)
theorem ss_augA {i : Nat} {x : Str} {pos' : Pos} (cc : Cc G X W) (hi : X.N[i]? = some x) (hx : Loc X.env.scope x) (he : SE G X W e m) (hf : X.fn x = true ∨ X.env.scope.names.lookup x = some .local := by first | exact .inl rfl | exact .inr rfl | assumption) :
    SS G X W (.AugAssign (.Name x pos') .Add e pos) (sAug i addI m) :=
  ss_aug cc.nd hi hx he ip_add (fun ρ S H d1 d2 x y Q E rl r1 r2 p => by
    obtain ⟨i, j, h1, h2, h3, p⟩ := intOp_go r1 r2 p
    exact ⟨i, j, h1, h2, post_ok p rl (.int _)⟩) hf
theorem ss_augM {i : Nat} {x : Str} {pos' : Pos} (cc : Cc G X W) (hi : X.N[i]? = some x) (hx : Loc X.env.scope x) (he : SE G X W e m) (hf : X.fn x = true ∨ X.env.scope.names.lookup x = some .local := by first | exact .inl rfl | exact .inr rfl | assumption) :
    SS G X W (.AugAssign (.Name x pos') .Sub e pos) (sAug i subI m) :=
  ss_aug cc.nd hi hx he ip_sub (fun ρ S H d1 d2 x y Q E rl r1 r2 p => by
    obtain ⟨i, j, h1, h2, h3, p⟩ := intOp_go r1 r2 p
    exact ⟨i, j, h1, h2, post_ok p rl (.int _)⟩) hf
end
end L2.Mi

set_option Elab.async false
set_option linter.all false
set_option maxRecDepth 100000
set_option maxHeartbeats 4000000
/-! Mini, 14: the runs of Mini by plain laws. -/
namespace L2.Mi
open PySem
/-! ### runs, step by step -/
def fin (r : RS) : Res D := match r with
  | .rt d S1 => .ok d S1
  | .nx _ S1 => .ok .non S1
  | .exc x _ S1 => .exc x S1
  | _ => .bad
section
variable {α β : Type} {σ σ' : En} {S S' : Store} {a b c : ME} {t u : MT} {k l : MS} {ms : List ME} {d e : D} {i j : Nat} {x : Xn} {f g : D → D → Store → Res D} {F : List D → Store → Res D}
@[simp] theorem fin_rt : fin (.rt d S) = .ok d S := (rfl)
@[simp] theorem fin_nx : fin (.nx σ S) = .ok .non S := (rfl)
@[simp] theorem fin_exc : fin (.exc x σ S) = .exc x S := (rfl)
@[simp] theorem bind_ok' {a : α} {f : α → Store → Res β} : (Res.ok a S).bind f = f a S := (rfl)
@[simp] theorem bind_exc' {f : α → Store → Res β} : (Res.exc x S : Res α).bind f = .exc x S := (rfl)
@[simp] theorem bind_bad' {f : α → Store → Res β} : (Res.bad : Res α).bind f = .bad := (rfl)
@[simp] theorem eC_ev : eC d σ S = .ok d S := (rfl)
theorem eVar_ev (h : σ[i]? = some (some d)) : eVar i σ S = .ok d S := by unfold eVar; rw [h]
@[simp] theorem eVar_0 : eVar 0 (some d :: σ) S = .ok d S := (rfl)
@[simp] theorem eVar_s {o : Option D} : eVar (i + 1) (o :: σ) S = eVar i σ S := by unfold eVar; rw [List.getElem?_cons_succ]
@[simp] theorem eBin_ev : eBin f a b σ S = (a σ S).bind fun x S1 => (b σ S1).bind fun y S2 => f x y S2 := (rfl)
@[simp] theorem eUn_ev {f : D → Store → Res D} : eUn f a σ S = (a σ S).bind fun x S1 => f x S1 := (rfl)
@[simp] theorem aList_nil : aList [] σ S = .ok [] S := (rfl)
@[simp] theorem aList_cons : aList (a :: ms) σ S = (a σ S).bind fun x S1 => (aList ms σ S1).bind fun xs S2 => .ok (x :: xs) S2 := (rfl)
@[simp] theorem eTup_ev : eTup ms σ S = (aList ms σ S).bind fun xs S1 => .ok (.tup xs) S1 := (rfl)
@[simp] theorem eLv_ev : eLv ms σ S = (aList ms σ S).bind fun xs S1 => .ok (.lv xs) S1 := (rfl)
@[simp] theorem eLst_ev : eLst ms σ S = (aList ms σ S).bind fun xs S1 => .ok (.ref S1.size) (S1.push (.lst xs)) := (rfl)
@[simp] theorem eFn_ev {m : MA} : eFn F m σ S = (m σ S).bind F := (rfl)
@[simp] theorem tOf_ev : tOf a σ S = (a σ S).bind fun d S1 => match d with | .bl b => .ok b S1 | _ => .bad := (rfl)
@[simp] theorem tTru_ev : tTru a σ S = (a σ S).bind fun d S1 => match truD S1 d with | some k => .ok k S1 | none => .bad := (rfl)
@[simp] theorem tAnd_ev : tAnd t u σ S = (t σ S).bind fun c S1 => if c then u σ S1 else .ok false S1 := (rfl)
@[simp] theorem tOr_ev : tOr t u σ S = (t σ S).bind fun c S1 => if c then .ok true S1 else u σ S1 := (rfl)
@[simp] theorem tNot_ev : tNot t σ S = (t σ S).bind fun c S1 => .ok (!c) S1 := (rfl)
@[simp] theorem eAnd_ev : eAnd a b σ S = (tOf a σ S).bind fun c S1 => if c then b σ S1 else .ok (.bl false) S1 := (rfl)
@[simp] theorem eOr_ev : eOr a b σ S = (tOf a σ S).bind fun c S1 => if c then .ok (.bl true) S1 else b σ S1 := (rfl)
@[simp] theorem eNot_ev : eNot a σ S = (tOf a σ S).bind fun c S1 => .ok (.bl (!c)) S1 := (rfl)
@[simp] theorem eIf_ev : eIf t a b σ S = (t σ S).bind fun c S1 => if c then a σ S1 else b σ S1 := (rfl)
@[simp] theorem eChain_ev : eChain f g a b c σ S = (a σ S).bind fun x S1 => (b σ S1).bind fun y S2 => (f x y S2).bind fun d S3 => match d with | .bl true => (c σ S3).bind fun z S4 => g y z S4 | .bl false => .ok (.bl false) S3 | _ => .bad := (rfl)
@[simp] theorem truD_bl {b : Bool} : truD S (.bl b) = some b := (rfl)
@[simp] theorem sNext_ev : sNext σ S = .nx σ S := (rfl)
@[simp] theorem sSeq_ev : sSeq k l σ S = (match k σ S with | .nx σ1 S1 => l σ1 S1 | r => r) := (rfl)
@[simp] theorem sRet_ev : sRet a σ S = (match a σ S with | .ok d S1 => .rt d S1 | .exc x S1 => .exc x σ S1 | .bad => .bad) := (rfl)
@[simp] theorem sDrop_ev : sDrop a σ S = (match a σ S with | .ok _ S1 => .nx σ S1 | .exc x S1 => .exc x σ S1 | .bad => .bad) := (rfl)
@[simp] theorem sIf_ev : sIf t k l σ S = (match t σ S with | .ok c S1 => (if c then k σ S1 else l σ S1) | .exc x S1 => .exc x σ S1 | .bad => .bad) := (rfl)
@[simp] theorem gName_ev : gName i d σ S = .ok (σ.set i (some d)) S := (rfl)
@[simp] theorem sAsg_ev {g : MG} : sAsg a g σ S = (match a σ S with | .ok d S1 => (match g d σ S1 with | .ok σ2 S2 => .nx σ2 S2 | _ => .bad) | .exc x S1 => .exc x σ S1 | .bad => .bad) := (rfl)
@[simp] theorem addI_ev {i j : Int} : addI (.int i) (.int j) S = .ok (.int (i + j)) S := (rfl)
@[simp] theorem subI_ev {i j : Int} : subI (.int i) (.int j) S = .ok (.int (i - j)) S := (rfl)
@[simp] theorem ltI_ev {i j : Int} : ltI (.int i) (.int j) S = .ok (.bl (decide (i < j))) S := (rfl)
@[simp] theorem leI_ev {i j : Int} : leI (.int i) (.int j) S = .ok (.bl (decide (i ≤ j))) S := (rfl)
@[simp] theorem gtI_ev {i j : Int} : gtI (.int i) (.int j) S = .ok (.bl (decide (j < i))) S := (rfl)
@[simp] theorem geI_ev {i j : Int} : geI (.int i) (.int j) S = .ok (.bl (decide (j ≤ i))) S := (rfl)
@[simp] theorem addF_ev {i j : Int} {o : D → D → Store → Res D} : addF o (.int i) (.int j) S = .ok (.int (i + j)) S := (rfl)
@[simp] theorem subF_ev {i j : Int} {o : D → D → Store → Res D} : subF o (.int i) (.int j) S = .ok (.int (i - j)) S := (rfl)
theorem mulF_ev {i j : Int} {o : D → D → Store → Res D} (h : mulOk i j = true) : mulF o (.int i) (.int j) S = .ok (.int (i * j)) S := by unfold mulF; simp only [h, if_true]
theorem modI_ev {i j : Int} (h : 0 < j) : modI (.int i) (.int j) S = .ok (.int (i % j)) S := by unfold modI intOp; simp [h]
theorem divI_ev {i j : Int} (h : divOk j = true) : divI (.int i) (.int j) S = .ok (.int (i / j)) S := by unfold divI intOp; simp [h]
theorem powI_ev {i j : Int} (h : powOk i j = true) : powI (.int i) (.int j) S = .ok (.int (i ^ j.toNat)) S := by unfold powI intOp; simp [h]
@[simp] theorem negF_ev {i : Int} {ds : Disp} : negF ds (.int i) S = .ok (.int (-i)) S := (rfl)
@[simp] theorem intF_ev {i : Int} : intF [.int i] S = .ok (.int i) S := (rfl)
@[simp] theorem intF_bl {i : Bool} : intF [.bl i] S = .ok (.int (if i then 1 else 0)) S := (rfl)
@[simp] theorem absF_ev {i : Int} : absF [.int i] S = .ok (.int (if i < 0 then -i else i)) S := (rfl)
@[simp] theorem max2F_ev {i j : Int} : max2F [.int i, .int j] S = .ok (.int (if j > i then j else i)) S := (rfl)
end
theorem sAug_ev {σ : En} {S S1 : Store} {m : ME} {f : D → D → Store → Res D} {i : Nat} {x y : D} (h : σ[i]? = some (some x)) (h1 : m σ S = .ok y S1) : sAug i f m σ S = (match f x y S1 with | .ok d S2 => .nx (σ.set i (some d)) S2 | .exc z S2 => .exc z σ S2 | .bad => .bad) := by
  unfold sAug
  simp only [h, h1, bind_ok']
  all_goals (cases f x y S1 <;> rfl)
/-! ### sequences -/
theorem lenF_seq {S : Store} {d : D} {xs : List D} (h : seqAt S d = some xs) : lenF [d] S = .ok (.int xs.length) S := by
  unfold seqAt at h
  cases d with
  | tup ys => cases h; rfl
  | kt ys => cases h; rfl
  | lv ys => cases h; rfl
  | fl ys => cases h; rfl
  | ref i =>
    have h' : listAt S (.ref i) = some xs := h
    show (match listAt S (.ref i) with | some xs => Res.ok (D.int xs.length) S | none => .bad) = _
    rw [h']
  | _ => cases h
theorem itemF_seq {S : Store} {d x : D} {xs : List D} {i : Int} (h : seqAt S d = some xs) (hi : L2.atI xs i = some x) : itemF d (.int i) S = .ok x S := by
  unfold seqAt at h
  unfold itemF
  cases q : tupD d with
  | some ds =>
    rw [q] at h
    cases h
    simp only [hi]
  | none =>
    rw [q] at h
    have h' : listAt S d = some xs := h
    simp only [h', hi]
theorem atI_nat {α : Type} {xs : List α} {k : Nat} {x : α} (h : xs[k]? = some x) : L2.atI xs (k : Int) = some x := by
  have hl := (List.getElem?_eq_some_iff.mp h).1
  unfold L2.atI L2.ixN
  rw [if_pos (by omega), if_pos (by omega)]
  simpa using h
theorem listvF_seq {S : Store} {d : D} {xs : List D} (h : seqAt S d = some xs) : listvF [d] S = .ok (.lv xs) S := by
  unfold listvF
  simp only [h]
theorem listF_seq {S : Store} {d : D} {xs : List D} (h : seqAt S d = some xs) : listF [d] S = .ok (.ref S.size) (S.push (.lst xs)) := by
  unfold listF
  simp only [h]
theorem tupleF_list {S : Store} {d : D} {xs : List D} (h : listAt S d = some xs) : tupleF [d] S = .ok (.tup xs) S := by
  cases d with
  | tup ys => cases h
  | _ => unfold tupleF; simp only [h]
theorem asInts_map : ∀ ns : List Int, asInts (ns.map D.int) = some ns
  | [] => rfl
  | n :: ns => by
    show (asInts (ns.map D.int)).map (n :: ·) = _
    rw [asInts_map ns]
    rfl
theorem sumF_list {S : Store} {d : D} {ns : List Int} (h : listAt S d = some (ns.map D.int)) : sumF [d] S = .ok (.int ns.sum) S := by
  unfold sumF
  simp only [h, Option.bind_some, asInts_map]
theorem seqAt_list {S : Store} {d : D} {xs : List D} (h : listAt S d = some xs) : seqAt S d = some xs := by
  unfold seqAt
  cases d with
  | tup ys => cases h
  | kt ys => cases h
  | _ => exact h
/-! ### loops -/
theorem lc_inv {src : Src} {t : TgN} {mt : MT} {me : ME} {σ : En} (J : Nat → List D → Store → Prop) (m : Nat) (len : ∀ k acc S, J k acc S → acc.length = k)
    (step : ∀ k acc S, k < m → J k acc S → ∃ d σ2 S1 y S2, src k S = some (some d) ∧ t.put d σ = some σ2 ∧ mt σ2 S = .ok true S1 ∧ me σ2 S1 = .ok y S2 ∧ J (k + 1) (acc ++ [y]) S2)
    (stop : ∀ acc S, J m acc S → src m S = some none) (hm : m ≤ lim) :
    ∀ n k acc S, m < n + k → k ≤ m → J k acc S → ∃ acc' S', lcGo src t mt me σ n k acc S = .ok acc' S' ∧ J m acc' S' := by
  intro n
  induction n with
  | zero => intro k acc S h1 h2; omega
  | succ n ih =>
    intro k acc S h1 h2 j
    by_cases hk : k = m
    · subst hk
      exact ⟨acc, S, by unfold lcGo; rw [stop acc S j], j⟩
    · obtain ⟨d, σ2, S1, y, S2, e1, e2, e3, e4, j'⟩ := step k acc S (by omega) j
      obtain ⟨acc', S', e5, j''⟩ := ih (k + 1) (acc ++ [y]) S2 (by omega) (by omega) j'
      refine ⟨acc', S', ?_, j''⟩
      unfold lcGo
      have hl := len k acc S j
      simp only [e1, e2, e3, e4]
      rw [if_pos (by omega)]
      exact e5
/-- a comprehension that leaves the store alone -/
theorem lc_pure {src : Src} {t : TgN} {mt : MT} {me : ME} {σ : En} {S : Store} (ys : List D)
    (step : ∀ k (h : k < ys.length), ∃ d σ2, src k S = some (some d) ∧ t.put d σ = some σ2 ∧ mt σ2 S = .ok true S ∧ me σ2 S = .ok (ys[k]) S) (stop : src ys.length S = some none) (hm : ys.length ≤ lim) {n : Nat} (hn : ys.length < n) :
    lcGo src t mt me σ n 0 [] S = .ok ys S := by
  obtain ⟨acc', S', e, h1, h2⟩ := lc_inv (σ := σ) (src := src) (t := t) (mt := mt) (me := me) (fun k acc S' => S' = S ∧ acc = ys.take k ∧ k ≤ ys.length) ys.length (fun k acc S' h => by rw [h.2.1, List.length_take]; omega)
    (fun k acc S' hk h => by
      obtain ⟨d, σ2, e1, e2, e3, e4⟩ := step k hk
      obtain ⟨rfl, rfl, _⟩ := h
      exact ⟨d, σ2, _, _, _, e1, e2, e3, e4, rfl, by rw [List.take_succ_eq_append_getElem hk], by omega⟩)
    (fun acc S' h => by rw [h.1]; exact stop) hm n 0 [] S (by omega) (by omega) ⟨rfl, by simp, by omega⟩
  rw [e, h1, h2.1, List.take_length]
theorem i62_nat {j : Nat} (h : j < 1000000) : i62 (j : Int) = true := by
  unfold i62
  simp
  omega
theorem le_lim {a : Nat} (h : a < 1000000) : a ≤ lim := Nat.le_of_lt h
theorem lcv_range {a me : ME} {σ : En} {S S1 : Store} {i j n : Nat} {vs : List Nat} (ys : List D) (ha : a σ S = .ok (.int (j : Int)) S1) (hl : ys.length = j) (hj : j < 1000000) (hn : j < n)
    (hb : ∀ k (h : k < ys.length), me ((wipeD σ vs).set i (some (.int (k : Int)))) S1 = .ok ys[k] S1) : eLcV (iRange1 a) (.one i) tYesM me vs n σ S = .ok (.lv ys) S1 := by
  have h1 : iRange1 a σ S = .ok (fun k _ => some (if k < ((j : Nat) : Int).toNat then some (D.int (0 + (k : Int))) else none)) S1 := by
    unfold iRange1
    rw [ha, bind_ok']
    show (if i62 (j : Int) = true then _ else _) = _
    rw [if_pos (i62_nat hj)]
  have h2 : lcGo (fun k _ => some (if k < ((j : Nat) : Int).toNat then some (D.int (0 + (k : Int))) else none)) (.one i) tYesM me (wipeD σ vs) n 0 [] S1 = .ok ys S1 :=
    lc_pure ys (fun k hk => ⟨.int (k : Int), (wipeD σ vs).set i (some (.int (k : Int))), by simp [show k < j by omega], rfl, rfl, hb k hk⟩) (by simp [hl]) (le_lim (by omega)) (by omega)
  unfold eLcV
  rw [h1, bind_ok', h2, bind_ok']
theorem src_tup {S : Store} {d : D} {ds : List D} {a : ME} {σ : En} {S0 : Store} (ha : a σ S0 = .ok d S) (hd : seqAt S d = some ds) : ∃ src, iSeq a σ S0 = .ok src S ∧ ∀ k, src k S = some ds[k]? := by
  unfold iSeq
  simp only [ha, bind_ok']
  unfold seqAt at hd
  cases q : tupD d with
  | some xs => rw [q] at hd; cases hd; exact ⟨_, rfl, fun k => rfl⟩
  | none =>
    rw [q] at hd
    have hd' : listAt S d = some ds := hd
    simp only [hd']
    exact ⟨_, rfl, fun k => by simp only [hd', Option.map_some]⟩
theorem lcv_seq {a me : ME} {σ : En} {S S1 : Store} {d : D} {ds : List D} {i n : Nat} {vs : List Nat} (ys : List D) (ha : a σ S = .ok d S1) (hd : seqAt S1 d = some ds) (hl : ys.length = ds.length) (hj : ds.length < 1000000) (hn : ds.length < n)
    (hb : ∀ k (h : k < ys.length) (h' : k < ds.length), me ((wipeD σ vs).set i (some ds[k])) S1 = .ok ys[k] S1) : eLcV (iSeq a) (.one i) tYesM me vs n σ S = .ok (.lv ys) S1 := by
  obtain ⟨src, e1, e2⟩ := src_tup ha hd
  unfold eLcV
  rw [e1, bind_ok', lc_pure ys (fun k hk => ⟨ds[k]'(by omega), _, by rw [e2 k]; simp [show k < ds.length by omega], rfl, rfl, hb k hk (by omega)⟩) (by rw [e2, hl]; simp) (by unfold lim; omega) (by omega)]
  rfl
theorem lcv_en {a me : ME} {σ : En} {S S1 : Store} {d : D} {ds : List D} {i j n : Nat} {vs : List Nat} (ys : List D) (ha : a σ S = .ok d S1) (hd : tupD d = some ds) (hl : ys.length = ds.length) (hj : ds.length < 1000000) (hn : ds.length < n)
    (hb : ∀ k (h : k < ys.length) (h' : k < ds.length), me (((wipeD σ vs).set i (some (.int (k : Int)))).set j (some ds[k])) S1 = .ok ys[k] S1) : eLcV (iEn a) (.many [i, j]) tYesM me vs n σ S = .ok (.lv ys) S1 := by
  unfold eLcV iEn
  simp only [ha, bind_ok', hd]
  rw [lc_pure ys (fun k hk => ⟨.tup [.int (k : Nat), ds[k]'(by omega)], _, by unfold enT; simp [show k < ds.length by omega], rfl, rfl, hb k hk (by omega)⟩) (by unfold enT; simp [hl]) (by unfold lim; omega) (by omega)]
  rfl
theorem for_inv {src : Src} {g : MG} {b : MS} (J : Nat → En → Store → Prop) (m : Nat)
    (step : ∀ k σ S, k < m → J k σ S → ∃ d σ1 S1 σ2 S2, src k S = some (some d) ∧ g d σ S = .ok σ1 S1 ∧ (b σ1 S1 = .nx σ2 S2 ∨ b σ1 S1 = .ct σ2 S2) ∧ J (k + 1) σ2 S2)
    (stop : ∀ σ S, J m σ S → src m S = some none) :
    ∀ n k σ S, m < n + k → k ≤ m → J k σ S → ∃ σ' S', forGo src g b n k σ S = .nx σ' S' ∧ J m σ' S' := by
  intro n
  induction n with
  | zero => intro k acc S h1 h2; omega
  | succ n ih =>
    intro k σ S h1 h2 j
    by_cases hk : k = m
    · subst hk
      exact ⟨σ, S, by unfold forGo; rw [stop σ S j], j⟩
    · obtain ⟨d, σ1, S1, σ2, S2, e1, e2, e3, j'⟩ := step k σ S (by omega) j
      obtain ⟨acc', S', e5, j''⟩ := ih (k + 1) σ2 S2 (by omega) (by omega) j'
      refine ⟨acc', S', ?_, j''⟩
      unfold forGo
      simp only [e1, e2]
      rcases e3 with e3 | e3 <;> simp only [e3] <;> exact e5
theorem while_inv {t : MT} {b : MS} (J : Nat → En → Store → Prop) (Q : En → Store → Prop)
    (step : ∀ k σ S, J k σ S → (∃ S1, t σ S = .ok false S1 ∧ Q σ S1) ∨ ∃ S1 σ2 S2 k', k' < k ∧ t σ S = .ok true S1 ∧ (b σ S1 = .nx σ2 S2 ∨ b σ S1 = .ct σ2 S2) ∧ J k' σ2 S2) :
    ∀ n k σ S, k < n → J k σ S → ∃ σ' S', sWhile t b n σ S = .nx σ' S' ∧ Q σ' S' := by
  intro n
  induction n with
  | zero => intro k σ S h; omega
  | succ n ih =>
    intro k σ S h j
    rcases step k σ S j with ⟨S1, e, q⟩ | ⟨S1, σ2, S2, k', hk, e, e2, j'⟩
    · exact ⟨σ, S1, by unfold sWhile; simp only [e], q⟩
    · obtain ⟨σ', S', e5, q⟩ := ih k' σ2 S2 (by omega) j'
      refine ⟨σ', S', ?_, q⟩
      unfold sWhile
      simp only [e]
      rcases e2 with e2 | e2 <;> simp only [e2] <;> exact e5
/-! ### equality of data -/
theorem eqF_int {own : D → D → Store → Res D} {i j : Int} {S : Store} : eqF own (.int i) (.int j) S = .ok (.bl (i == j)) S := by
  simp [eqF, dat, SeqAt.shaped, PyData.canLay0, PyData.depth, PyData.eqv]
theorem neF_int {own : D → D → Store → Res D} {i j : Int} {S : Store} : neF own (.int i) (.int j) S = .ok (.bl (!(i == j))) S := by
  simp [neF, dat, SeqAt.shaped, PyData.canLay0, PyData.depth, PyData.eqv]
theorem neF_bl {own : D → D → Store → Res D} {i j : Bool} {S : Store} : neF own (.bl i) (.bl j) S = .ok (.bl (!(i == j))) S := by
  simp [neF, dat, SeqAt.shaped, PyData.canLay0, PyData.depth, PyData.eqv]
theorem dat_ints {n : Nat} {S : Store} : ∀ ps : List Int, mapO (dat n S) (ps.map D.int) = some (ps.map PyData.int)
  | [] => rfl
  | p :: ps => by
    have h : dat n S (.int p) = some (.int p) := by cases n <;> simp [dat]
    simp only [List.map_cons, mapO, h, dat_ints ps]
theorem lay_ints : ∀ ps : List Int, PyData.canLayAll0 (ps.map PyData.int) = true
  | [] => by simp [PyData.canLayAll0]
  | p :: ps => by simp [PyData.canLayAll0, PyData.canLay0, lay_ints ps]
theorem eqv_ints : ∀ ps qs : List Int, PyData.eqvAll (ps.map PyData.int) (qs.map PyData.int) = decide (ps = qs)
  | [], [] => by simp [PyData.eqvAll]
  | [], _ :: _ => by simp [PyData.eqvAll]
  | _ :: _, [] => by simp [PyData.eqvAll]
  | p :: ps, q :: qs => by
    simp only [List.map_cons, PyData.eqvAll, PyData.eqv, eqv_ints ps qs, List.cons.injEq, Bool.decide_and]
    rfl
theorem depth_ints : ∀ ps : List Int, PyData.depthAll (ps.map PyData.int) ≤ 1
  | [] => by simp [PyData.depthAll]
  | p :: ps => by
    have := depth_ints ps
    simp [PyData.depthAll, PyData.depth]
    omega
/-- tuples of ints -/
def tupI (ps : List Int) : D := .tup (ps.map D.int)
/-- d is a tuple of these ints -/
def TI (d : D) (ps : List Int) : Prop := tupD d = some (ps.map D.int)
theorem TI.of (ps : List Int) : TI (tupI ps) ps := rfl
theorem TI.seq {d : D} {ps : List Int} {S : Store} (h : TI d ps) : seqAt S d = some (ps.map D.int) := by
  unfold seqAt
  rw [show tupD d = some (ps.map D.int) from h]
theorem TI.dat {d : D} {ps : List Int} {n : Nat} {S : Store} (h : TI d ps) : dat (n + 1) S d = some (.tuple (ps.map PyData.int)) := by
  cases d with
  | tup xs => cases h; simp [L2.Mi.dat, dat_ints]
  | kt xs => cases h; simp [L2.Mi.dat, dat_ints]
  | _ => cases h
theorem shaped_ints (ps : List Int) : SeqAt.shaped (.tuple (ps.map PyData.int)) = true := by
  have := depth_ints ps
  simp [SeqAt.shaped, PyData.canLay0, lay_ints, PyData.depth]
  omega
theorem eqF_tup {own : D → D → Store → Res D} {d1 d2 : D} {ps qs : List Int} {S : Store} (h1 : TI d1 ps) (h2 : TI d2 qs) : eqF own d1 d2 S = .ok (.bl (decide (ps = qs))) S := by
  unfold eqF
  rw [h1.dat (n := 63), h2.dat (n := 63)]
  simp only [shaped_ints, Bool.and_self, if_true, PyData.eqv, eqv_ints]
theorem neF_tup {own : D → D → Store → Res D} {d1 d2 : D} {ps qs : List Int} {S : Store} (h1 : TI d1 ps) (h2 : TI d2 qs) : neF own d1 d2 S = .ok (.bl (!decide (ps = qs))) S := by
  unfold neF
  rw [h1.dat (n := 63), h2.dat (n := 63)]
  simp only [shaped_ints, Bool.and_self, if_true, PyData.eqv, eqv_ints]
/-! ### stores that grow -/
def Ext (S S' : Store) : Prop := ∀ i o, S.get i = some o → S'.get i = some o
theorem Ext.refl (S : Store) : Ext S S := fun _ _ h => h
theorem Ext.trans {a b c : Store} (h : Ext a b) (k : Ext b c) : Ext a c := fun i o e => k i o (h i o e)
theorem Ext.push {S : Store} {o : Ob} : Ext S (S.push o) := fun _ _ h => Store.get_push_some h
theorem atI_last {α : Type} {xs : List α} {x : α} : L2.atI (xs ++ [x]) (-1) = some x := by
  unfold L2.atI L2.ixN
  rw [if_neg (by omega), if_pos (by simp; omega)]
  have e : (-1 + (((xs ++ [x]).length : Nat) : Int)).toNat = xs.length := by simp; omega
  rw [e]
  simp
theorem Store.push_set {S : Store} {o o' : Ob} : (S.push o).set S.size o' = S.push o' := by
  unfold Store.push Store.set Store.size
  simp
theorem listAt_ref {S : Store} {i : Nat} {ds : List D} (h : S.get i = some (.lst ds)) : listAt S (.ref i) = some ds := by
  unfold listAt
  simp only [h]
/-! ### sizes of ints -/
def Sm (b : Nat) (i : Int) : Prop := i.natAbs < 2 ^ b
theorem log2_le {n b : Nat} (h : n < 2 ^ b) : n.log2 ≤ b := by
  by_cases hn : n = 0
  · subst hn; simp
  · exact Nat.le_of_lt ((Nat.log2_lt hn).mpr h)
theorem mulOk_sm {a b : Nat} {i j : Int} (hi : Sm a i) (hj : Sm b j) (h : a + b < 1000000) : mulOk i j = true := by
  unfold mulOk
  have h1 := log2_le hi
  have h2 := log2_le hj
  rw [Bool.or_eq_true, decide_eq_true_eq]
  right
  omega
theorem Sm.mul {a b : Nat} {i j : Int} (hi : Sm a i) (hj : Sm b j) : Sm (a + b) (i * j) := by
  unfold Sm at *
  rw [Int.natAbs_mul, Nat.pow_add]
  exact Nat.mul_lt_mul_of_lt_of_le hi (Nat.le_of_lt hj) (Nat.pow_pos (by omega))
theorem Sm.mono {a b : Nat} {i : Int} (h : Sm a i) (hab : a ≤ b) : Sm b i := Nat.lt_of_lt_of_le h (Nat.pow_le_pow_right (by omega) hab)
theorem Sm.add {a : Nat} {i j : Int} (hi : Sm a i) (hj : Sm a j) : Sm (a + 1) (i + j) := by
  unfold Sm at *
  have := Int.natAbs_add_le i j
  rw [Nat.pow_succ]
  omega
theorem Sm.neg {a : Nat} {i : Int} (hi : Sm a i) : Sm a (-i) := by
  unfold Sm at *
  rwa [Int.natAbs_neg]
theorem Sm.zero {a : Nat} : Sm a 0 := Nat.pow_pos (by omega)
end L2.Mi

set_option Elab.async false
set_option linter.all false
set_option maxRecDepth 100000
set_option maxHeartbeats 1000000
/-! Mini, 15: the laws' two drawing helpers (the same text in every law). -/
namespace L2.Mi
open PySem
abbrev Op2 := D → D → Store → Res D
def takeM (oA oM : Op2) : MS :=
    sSeq (sIf (tOf (eBin gtI (eBin itemF (eVar 0) (eC (.int 0))) (eC (.int 0)))) (sSeq (sSet 2 (eBin modI (eFn intF (aList [eBin itemF (eVar 0) (eC (.int 0))])) (eVar 1)))
    (sSeq (sAsg (eBin divI (eBin itemF (eVar 0) (eC (.int 0))) (eVar 1)) (gSub (eVar 0) (eC (.int 0)) setL))
    (sRet (eVar 2)))) (sNext))
    (sSeq (sAsg (eBin modI (eFn intF (aList [eBin oA (eBin oM (eBin itemF (eVar 0) (eC (.int 1))) (eC (.int 48271))) (eC (.int 12345))])) (eC (.int 2147483647))) (gSub (eVar 0) (eC (.int 1)) setL))
    (sRet (eBin modI (eBin divI (eBin modI (eFn intF (aList [eBin oM (eBin itemF (eVar 0) (eC (.int 1))) (eBin itemF (eVar 0) (eC (.int 1)))])) (eC (.int 2147483629))) (eC (.int 64))) (eVar 1))))
/-- what is asked of + and * -/
structure OpsI (oA oM : Op2) : Prop where
  a : ∀ i j S, oA (.int i) (.int j) S = .ok (.int (i + j)) S
  m : ∀ i j S, mulOk i j = true → oM (.int i) (.int j) S = .ok (.int (i * j)) S
theorem opsI_of {f g : Op2} : OpsI (addF f) (mulF g) := ⟨fun _ _ _ => rfl, fun _ _ _ h => mulF_ev h⟩
/-- a pool stands at i -/
def Pool (S : Store) (i : Nat) : Prop := ∃ h s : Int, S.get i = some (.lst [.int h, .int s]) ∧ 0 ≤ h ∧ 0 ≤ s ∧ s < 2147483647
theorem at0 {a b : D} : L2.atI [a, b] 0 = some a := rfl
theorem at1 {a b : D} : L2.atI [a, b] 1 = some b := rfl
theorem mulOk_l {i j : Int} (h1 : -(2 ^ 64) < i) (h2 : i < 2 ^ 64) : mulOk i j = true := by
  unfold mulOk
  simp only [Bool.or_eq_true, Bool.and_eq_true, decide_eq_true_eq]
  exact .inl (.inl ⟨h1, h2⟩)
theorem mulOk_r {i j : Int} (h1 : -(2 ^ 64) < j) (h2 : j < 2 ^ 64) : mulOk i j = true := by
  unfold mulOk
  simp only [Bool.or_eq_true, Bool.and_eq_true, decide_eq_true_eq]
  exact .inl (.inr ⟨h1, h2⟩)
theorem divOk_of {w : Int} (h : 0 < w) (h1 : w < 2 ^ 31) : divOk w = true := by
  unfold divOk
  rw [Bool.and_eq_true, decide_eq_true_eq, decide_eq_true_eq]
  refine ⟨h, ?_⟩
  have := log2_le (n := w.natAbs) (b := 31) (by omega)
  omega
theorem take_ok {oA oM : Op2} (O : OpsI oA oM) {S : Store} {i : Nat} {w : Int} (hp : Pool S i) (w0 : 0 < w) (w1 : w < 2 ^ 31) :
    ∃ r o, fin (takeM oA oM [some (.ref i), some (.int w), none] S) = .ok (.int r) (S.set i o) ∧ 0 ≤ r ∧ r < w ∧ Pool (S.set i o) i := by
  obtain ⟨h, s, hg, h0, s0, s1⟩ := hp
  have hi := Store.get_lt hg
  have i0 : itemF (.ref i) (.int 0) S = .ok (.int h) S := itemF_seq (seqAt_list (listAt_ref hg)) at0
  have i1 : itemF (.ref i) (.int 1) S = .ok (.int s) S := itemF_seq (seqAt_list (listAt_ref hg)) at1
  by_cases hh : 0 < h
  · refine ⟨h % w, .lst [.int (h / w), .int s], ?_, Int.emod_nonneg _ (by omega), Int.emod_lt_of_pos _ w0, ⟨h / w, s, Store.get_set_same hi, Int.ediv_nonneg h0 (by omega), s0, s1⟩⟩
    have hs : setL (.ref i) (.int 0) (.int (h / w)) S = some (S.set i (.lst [.int (h / w), .int s])) := by
      unfold setL
      simp only [hg]
      rfl
    unfold takeM
    simp only [sSeq_ev, sIf_ev, tOf_ev, eBin_ev, eVar_0, eVar_s, eC_ev, bind_ok', i0, gtI_ev, decide_eq_true hh, if_true, sAsg_ev, eFn_ev, aList_cons, aList_nil, intF_ev, modI_ev w0, gName_ev, List.set_cons_succ, List.set_cons_zero, divI_ev (divOk_of w0 w1), gSub, hs, sRet_ev, fin_rt]
  · have hs : ∀ z : Int, setL (.ref i) (.int 1) (.int z) S = some (S.set i (.lst [.int h, .int z])) := fun z => by
      unfold setL
      simp only [hg]
      rfl
    have p0 : (0 : Int) ≤ (s * 48271 + 12345) % 2147483647 := Int.emod_nonneg _ (by omega)
    have p1 : (s * 48271 + 12345) % 2147483647 < 2147483647 := Int.emod_lt_of_pos _ (by omega)
    have hg2 : (S.set i (.lst [.int h, .int ((s * 48271 + 12345) % 2147483647)])).get i = some (.lst [.int h, .int ((s * 48271 + 12345) % 2147483647)]) := Store.get_set_same hi
    have j1 : itemF (.ref i) (.int 1) (S.set i (.lst [.int h, .int ((s * 48271 + 12345) % 2147483647)])) = .ok (.int ((s * 48271 + 12345) % 2147483647)) (S.set i (.lst [.int h, .int ((s * 48271 + 12345) % 2147483647)])) := itemF_seq (seqAt_list (listAt_ref hg2)) at1
    refine ⟨(((s * 48271 + 12345) % 2147483647) * ((s * 48271 + 12345) % 2147483647)) % 2147483629 / 64 % w, .lst [.int h, .int ((s * 48271 + 12345) % 2147483647)], ?_, Int.emod_nonneg _ (by omega), Int.emod_lt_of_pos _ w0, ⟨h, _, hg2, h0, p0, p1⟩⟩
    unfold takeM
    have k1 := O.m s 48271 S (mulOk_r (by omega) (by omega))
    have k2 := O.m ((s * 48271 + 12345) % 2147483647) ((s * 48271 + 12345) % 2147483647) (S.set i (.lst [.int h, .int ((s * 48271 + 12345) % 2147483647)])) (mulOk_r (by omega) (by omega))
    simp only [sSeq_ev, sIf_ev, tOf_ev, eBin_ev, eVar_0, eVar_s, eC_ev, bind_ok', i0, i1, gtI_ev, decide_eq_false hh, Bool.false_eq_true, if_false, sNext_ev, sAsg_ev, eFn_ev, aList_cons, aList_nil, intF_ev, k1, O.a, modI_ev (show (0 : Int) < 2147483647 by omega), gSub, hs, sRet_ev, j1, k2, modI_ev (show (0 : Int) < 2147483629 by omega), divI_ev (divOk_of (show (0 : Int) < 64 by omega) (by omega)), modI_ev w0, fin_rt]
def poolM (lx : FN) (oA oM : Op2) : MS :=
    sSeq (sSet 2 (eC (.int 0)))
    (sSeq (sIf (tOf (eBin ltI (eVar 1) (eFn lx (aList [eVar 0])))) (sSet 2 (eBin itemF (eVar 0) (eVar 1))) (sNext))
    (sSeq (sSet 3 (eFn absF (aList [eVar 2])))
    (sSeq (sSet 4 (eBin modI (eBin oM (eFn intF (aList [eBin oA (eBin modI (eFn intF (aList [eVar 2])) (eC (.int 2147483629))) (eBin oM (eC (.int 104729)) (eBin oA (eVar 1) (eC (.int 1))))])) (eBin oA (eVar 1) (eC (.int 7)))) (eC (.int 2147483629))))
    (sSeq (sSet 5 (eBin modI (eBin oM (eBin modI (eFn intF (aList [eBin oM (eVar 4) (eVar 4)])) (eC (.int 2147483629))) (eC (.int 48271))) (eC (.int 2147483647))))
    (sRet (eLst [eBin oM (eVar 3) (eFn intF (aList [eBin geI (eVar 3) (eBin powI (eC (.int 10)) (eC (.int 18)))])), eVar 5]))))))
theorem pool_ok {lx : FN} {oA oM : Op2} (O : OpsI oA oM) {S : Store} {ns : List Int} {k : Nat} (hx : lx [.fl (ns.map D.int)] S = lenF [.fl (ns.map D.int)] S) (hk : k < 1000) (hl : ns.length ≤ 1000) :
    ∃ o, fin (poolM lx oA oM [some (.fl (ns.map D.int)), some (.int (k : Int)), none, none, none, none] S) = .ok (.ref S.size) (S.push o) ∧ Pool (S.push o) S.size := by
  have hc : ∃ c : Int, sIf (tOf (eBin ltI (eVar 1) (eFn lx (aList [eVar 0])))) (sSet 2 (eBin itemF (eVar 0) (eVar 1))) sNext [some (.fl (ns.map D.int)), some (.int (k : Int)), some (.int 0), none, none, none] S =
      .nx [some (.fl (ns.map D.int)), some (.int (k : Int)), some (.int c), none, none, none] S := by
    have hlen : lx [.fl (ns.map D.int)] S = .ok (.int ns.length) S := by
      rw [hx, lenF_seq (xs := ns.map D.int) rfl, List.length_map]
    by_cases h : k < ns.length
    · refine ⟨ns[k], ?_⟩
      have hi : itemF (.fl (ns.map D.int)) (.int (k : Int)) S = .ok (.int ns[k]) S := itemF_seq (xs := ns.map D.int) rfl (atI_nat (by simp [h]))
      simp only [sIf_ev, tOf_ev, eBin_ev, eVar_s, eVar_0, eFn_ev, aList_cons, aList_nil, bind_ok', hlen, ltI_ev, decide_eq_true (show (k : Int) < (ns.length : Int) by omega), if_true, sAsg_ev, hi, gName_ev, List.set_cons_succ, List.set_cons_zero]
    · refine ⟨0, ?_⟩
      simp only [sIf_ev, tOf_ev, eBin_ev, eVar_s, eVar_0, eFn_ev, aList_cons, aList_nil, bind_ok', hlen, ltI_ev, decide_eq_false (show ¬ (k : Int) < (ns.length : Int) by omega), Bool.false_eq_true, if_false, sNext_ev]
  obtain ⟨c, hc⟩ := hc
  have q1 : (0 : Int) < 2147483629 := by omega
  have q2 : (0 : Int) < 2147483647 := by omega
  have r0 := Int.emod_nonneg c (show (2147483629 : Int) ≠ 0 by omega)
  have r1 := Int.emod_lt_of_pos c q1
  have m1 : mulOk 104729 ((k : Int) + 1) = true := mulOk_l (by omega) (by omega)
  have m2 : mulOk (c % 2147483629 + 104729 * ((k : Int) + 1)) ((k : Int) + 7) = true := mulOk_r (by omega) (by omega)
  have b0 := Int.emod_nonneg ((c % 2147483629 + 104729 * ((k : Int) + 1)) * ((k : Int) + 7)) (show (2147483629 : Int) ≠ 0 by omega)
  have b1 := Int.emod_lt_of_pos ((c % 2147483629 + 104729 * ((k : Int) + 1)) * ((k : Int) + 7)) q1
  generalize hb : (c % 2147483629 + 104729 * ((k : Int) + 1)) * ((k : Int) + 7) % 2147483629 = bl at b0 b1
  have m3 : mulOk bl bl = true := mulOk_l (by omega) (by omega)
  have m4 : mulOk (bl * bl % 2147483629) 48271 = true := mulOk_r (by omega) (by omega)
  have s0 := Int.emod_nonneg (bl * bl % 2147483629 * 48271) (show (2147483647 : Int) ≠ 0 by omega)
  have s1 := Int.emod_lt_of_pos (bl * bl % 2147483629 * 48271) q2
  have a0 : (0 : Int) ≤ (if c < 0 then -c else c) := by split <;> omega
  generalize ha : (if c < 0 then -c else c) = hv at a0
  have pw : powOk 10 18 = true := by decide
  have f0 : (0 : Int) ≤ (if decide ((10 : Int) ^ (18 : Int).toNat ≤ hv) = true then 1 else 0) ∧ (if decide ((10 : Int) ^ (18 : Int).toNat ≤ hv) = true then (1 : Int) else 0) ≤ 1 := by split <;> omega
  have m5 : mulOk hv (if decide ((10 : Int) ^ (18 : Int).toNat ≤ hv) = true then 1 else 0) = true := mulOk_r (by omega) (by omega)
  refine ⟨_, ?_, ⟨hv * (if decide ((10 : Int) ^ (18 : Int).toNat ≤ hv) = true then 1 else 0), bl * bl % 2147483629 * 48271 % 2147483647, Store.get_push_same, Int.mul_nonneg a0 f0.1, s0, s1⟩⟩
  unfold poolM
  simp only [sSeq_ev, sAsg_ev, eC_ev, gName_ev, List.set_cons_succ, List.set_cons_zero, hc, eFn_ev, aList_cons, aList_nil, eVar_s, eVar_0, bind_ok', absF_ev, ha, eBin_ev, intF_ev, modI_ev q1, modI_ev q2, O.a, O.m _ _ _ m1, O.m _ _ _ m2, hb, O.m _ _ _ m3, O.m _ _ _ m4, sRet_ev, eLst_ev, powI_ev pw, geI_ev, intF_bl, O.m _ _ _ m5, fin_rt]
end L2.Mi

set_option Elab.async false
set_option linter.all false
set_option maxRecDepth 100000
set_option maxHeartbeats 4000000
/-! Mini, 23: own exceptions: made, raised. -/
namespace L2.Mi
open PySem PySem.Spec PyProof.Rows
/-! ### the facts of a class -/
structure XC (K : Fg) (C fI : Addr) : Prop where
  o : OexC K C
  x : XfC K C
  i : PySem.W.findIn K (.ref C) "__init__" = some (some (.ref fI))
  t : PySem.W.typeIn K (.ref fI) = some (.type "function")
theorem oexO_ok {K : Fg} {C : Addr} (h : oexO K C = true) : ∃ nm q N bs bm sn sub ab col dd k0 k1 k2 k3 k5, K.lookup C = some (excClassObj nm q C N bs bm true sn sub ab col dd k0 k1 k2 k3 k5 "ValueError.__new__") ∧ PySem.HandSPX.refsVE bm = true := by
  unfold oexO at h
  split at h
  · rename_i t dd cd sl look
    split at h
    · rename_i C2 bm k0 k1 k2 k3 n k5 e1 e2
      obtain ⟨a1, h⟩ := ba h
      obtain ⟨a2, h⟩ := ba h
      obtain ⟨a3, h⟩ := ba h
      obtain ⟨a4, h⟩ := ba h
      obtain ⟨a5, a6⟩ := ba h
      have b1 := of_decide_eq_true a1
      have b2 := of_decide_eq_true a2
      have b3 := of_decide_eq_true a3
      subst b1 b2 b3
      obtain ⟨z1, z2, z3, z4, z5, z6, z7, z8, z9, z10, z11⟩ := cd
      obtain ⟨sl0⟩ := sl
      simp only at e1 e2 a4 a5
      have a7 : z11 = false := by simpa using a4
      subst e1 e2 a5 a7
      exact ⟨_, _, _, _, _, _, _, _, _, _, _, _, _, _, _, look, a6⟩
    · cases h
  · cases h
theorem xc_of {L : Lw} {K : Fg} (c : L.Says K) (i : Nat) {C : Str} (h : L.fa[i]? = some (.oex C)) : XC K (He.ga K C) (He.ma K (He.ga K C) "__init__") := by
  obtain ⟨h1, z⟩ := ba (c.fact i h)
  obtain ⟨h2, z⟩ := ba z
  obtain ⟨h3, z⟩ := ba z
  obtain ⟨h4, z⟩ := ba z
  obtain ⟨h5, z⟩ := ba z
  obtain ⟨h6, h7⟩ := ba z
  obtain ⟨h8, h9⟩ := fnAt_ok h6
  exact ⟨⟨oexO_ok h1, He.eqO_ok h2, of_decide_eq_true h3, of_decide_eq_true h4, h5⟩, xfB_ok h7, h8, beq_iff_eq.mp h9⟩
/-! ### its __init__: one field -/
def spX (K : Fg) (f : Str) : Sp := fun vs H Q _ => ∃ (a C : Addr) (v : V), vs = [.ref a, v] ∧ OexC K C ∧ PySem.W.findIn K (.ref C) f = some none ∧ H a = some (exo a C none) ∧
  ∀ dx, H dx = none → dx ≠ a → Q .non (upd (upd H dx (exd dx [(f, v)])) a (exo a C (some dx)))
theorem xi_ok {P : Program} {w : World} {K : Fg} {mg : Str → Option Value} {base : Heap} {x qual : Str} {params : Arguments} {scope : Scope} {fI : Addr} {fd : FuncData} {k : Nat} {s v f : Str} {p1 p2 p3 pos : Pos} {dvs : List V} {kws : List (Str × V)}
    (F : FunD K x qual params [.Assign [.Attribute (.Name s p1) f p2] (.Name v p3) pos] scope dvs kws fI fd) (S : FnScope [s, v] [s, v] scope) (hs : Vis scope s) (hv : Vis scope v)
    (d1 : (s == ("__debug__" : Str)) = false := by decide) (d2 : (s == ("__classdict__" : Str)) = false := by decide) (d3 : (v == ("__debug__" : Str)) = false := by decide) (d4 : (v == ("__classdict__" : Str)) = false := by decide) :
    FnOk P w K mg base (L2.CX P w) (k + 1) fI fd [s, v] (spX K f) := by
  refine F.ok S (fun vs H Q E ⟨a, C, u, e, _⟩ => by rw [e]; rfl) fun cdv A outer st H vs Q E hr ⟨a, C, u, e, T, hn, ha, q⟩ => ?_
  subst e
  refine ⟨_, pss_one (ps_ost (pe_var (i := 0) rfl hs d1 d2) (pe_var (i := 1) rfl hv d3 d4)), u, rfl, .ref a, rfl, a, C, rfl, T, hn, .inl ⟨ha, fun dx n1 n2 => q dx n1 n2⟩⟩
/-! ### raise C(e) -/
def sRaise (c f : Nat) (m : ME) : MS := fun σ S => match m σ S with
  | .ok d S1 => .exc ⟨c, [(f, d)]⟩ σ S1
  | .exc x S1 => .exc x σ S1
  | .bad => .bad
theorem made_heap {H : Hp} {a dx C : Addr} {v : V} {f : Str} (n1 : H a = none) (ne : dx ≠ a) :
    upd (del (upd (upd (upd H a (exo a C none)) dx (exd dx [(f, v)])) a (exo a C (some dx))) a) dx (.xd [(f, v)]) = upd H dx (.xd [(f, v)]) := by
  funext b
  by_cases h1 : b = dx
  · subst h1
    rw [upd_same, upd_same]
  · rw [upd_ne h1, upd_ne h1]
    by_cases h2 : b = a
    · subst h2
      rw [del_same, n1]
    · rw [del_ne h2, upd_ne h2, upd_ne h1, upd_ne h2]
section
variable {G : Gx} {X : Cx} {W : WX}
theorem passFalse : Passes (L2.CX X.prog X.w) X (fun _ _ _ => False) := fun _ _ _ _ _ _ _ h => by
  obtain ⟨_, _, _, _, _, _, _, _, _, _, _, _, z⟩ := h
  exact z.elim
theorem ss_raise {e : Expr} {m : ME} {c f : Nat} {C fI : Addr} {k : Nat} {fd : FuncData} {ps : List Str} {x : Str} {p pos pos2 : Pos} (cc : Cc G X W) (T : XC X.K C fI) (hc : G.clsv c = some (.ref C)) (hn : PySem.W.findIn X.K (.ref C) (G.fld f) = some none)
    (F : FnOk X.prog X.w X.K X.mg X.base (L2.CX X.prog X.w) k fI fd ps (spX X.K (G.fld f))) (hr : Room (k + 1) X.A) (hb : Binds X.K fd ps []) (hg : Gl X x) (hm : X.mg x = some (.ref C)) (he : SE G X W e m)
    (hdb : (x == ("__debug__" : Str)) = false := by decide) (hs : starEach [e] X.env = (false, eval e X.env) :: starEach [] X.env := by rfl) (hpl : (backTo pos (starEach [] X.env)).any (·.1) = false := by rfl) :
    SS G X W (.Raise (some (.Call (.Name x p) [e] [] pos)) none pos2) (sRaise c f m) := by
  have mk : PMk X (.Call (.Name x p) [e] [] pos) _ := pmk_oex T.o T.i T.t F hr hb .nil passFalse hg hm (sa_cons he sa_nil hs) hdb hs hpl
  refine PS.weak (ps_raise cc.calm cc.tk mk) fun D σ H ⟨ρ, σs, S, rl, re, q⟩ => ?_
  refine ⟨ρ, σs, S, rl, re, ?_⟩
  unfold sRaise at q
  unfold aList aList
  cases hm1 : m σs S with
  | bad => rw [hm1] at q; exact q.elim
  | exc y S1 => rw [hm1] at q; exact fun ρ1 H1 cls dd l1 rl1 rx => q ρ1 H1 σ cls dd l1 rl1 (re.mono l1) rx
  | ok d S1 =>
    rw [hm1] at q
    intro ρ1 H1 xs l1 rl1 rv1
    obtain ⟨v, rfl, rv⟩ := rvs1 rv1
    refine ⟨by simp, fun a ha => ⟨a, C, v, rfl, T.o, hn, upd_same, fun dx n1 n2 => ?_⟩⟩
    have hx : H1 dx = none := by rw [upd_ne n2] at n1; exact n1
    refine ⟨rfl, dx, [(G.fld f, v)], upd_same, by rw [upd_ne n2, upd_same], hx, ?_⟩
    rw [made_heap ha n2]
    refine q ρ1 _ σ (.ref C) (some dx) (l1.trans (Le.new hx)) (rl1.other hx) ((re.mono l1).mono (Le.new hx)) ⟨hc, .inr ⟨dx, _, rfl, upd_same, .cons (rv.mono (Le.new hx)) .nil⟩⟩
end
end L2.Mi

set_option Elab.async false
set_option linter.all false
set_option maxRecDepth 100000
set_option maxHeartbeats 4000000
/-! Mini, 24: try with several clauses, each of them a return; the caught exception's fields. -/
namespace L2.Mi
open PySem PySem.Spec PyProof.Rows
/-- a clause: its class, the slot of its name, what its return gives -/
structure Cls1 where
  c : Value
  i : Option Nat
  tx : Addr → Value → Option Addr → TE
def Cls1.put (q : Cls1) (a : Addr) (σ : St) : St := match q.i with
  | none => σ
  | some i => σ.set i (some (.ref a))
def wCl (K : Fg) (Wo : WX) (R : VK) : List Cls1 → WX
  | [] => Wo
  | q :: r => fun cls d σ H => ∃ b, PySem.W.exmOne K cls q.c = some b ∧ (b = true → ∀ a, H a = none → q.tx a cls d (q.put a σ) H R) ∧ (b = false → wCl K Wo R r cls d σ H)
inductive ClOk (X : Cx) : List ExceptHandler → List Cls1 → Prop
  | nil : ClOk X [] []
  | bare {x : Str} {c : Value} {tx : Addr → Value → Option Addr → TE} {e : Expr} {np rp hp : Pos} {hs : List ExceptHandler} {l : List Cls1} (nm : Names X x c)
      (su : ∀ (a : Addr) (oe : Obj) (cls : Value) (d : Option Addr) (pn : List (Addr × Obj)), Zc cls d oe → (∃ vs, oe.data = .fields vs) → PE (X.suite a ((a, oe) :: pn)) e (tx a cls d)) (r : ClOk X hs l) :
      ClOk X (.ExceptHandler (some (.Name x np)) none [.Return (some e) rp] hp :: hs) (⟨c, none, tx⟩ :: l)
  | named {x n : Str} {c : Value} {i : Nat} {tx : Addr → Value → Option Addr → TE} {e : Expr} {np rp hp : Pos} {hs : List ExceptHandler} {l : List Cls1} (nm : Names X x c) (hi : X.N[i]? = some n) (lo : X.env.kindOf n = some .local)
      (su : ∀ (a : Addr) (oe : Obj) (cls : Value) (d : Option Addr) (pn : List (Addr × Obj)), Zc cls d oe → (∃ vs, oe.data = .fields vs) → PE (X.suite a ((a, oe) :: pn)) e (tx a cls d)) (r : ClOk X hs l) :
      ClOk X (.ExceptHandler (some (.Name x np)) (some n) [.Return (some e) rp] hp :: hs) (⟨c, some i, tx⟩ :: l)
section
variable {X : Cx} {body : List Stmt} {g : ExceptHandler} {hs : List ExceptHandler} {l : List Cls1} {pos : Pos} {tb : WX → TS} {Wo : WX}
/-- a value's name that an exception holds -/
theorem name_there {x : Str} {c : Value} (nm : Names X x c) {a : Addr} {oe : Obj} {pn pins : List (Addr × Obj)} {σ : St} {H : Hp} {s : Shared} (J : Inv (X.suite a ((a, oe) :: pn)) pins σ H s) {np : Pos} {Q : Value → Shared → Prop} {E : Value → Shared → Prop} (q : Q c s) :
    wpAny (model X.prog X.w) (X.A.mark (some (.ref a))) (eval (.Name x np) X.env) Q E s := by
  rcases nm with ⟨g1, g2, g3 | ⟨g3, g4, g5⟩⟩
  · exact ld_glob (X := X.suite a ((a, oe) :: pn)) J g1 g3 q g2
  · exact ld_blt (X := X.suite a ((a, oe) :: pn)) J g1 g3 g4 q g5 g2
/-- where the exception lies is no frame -/
theorem no_frame {B h : Heap} {es : List Env} {a : Addr} {o : Obj} {vs : Array Value} (ff : h.FunFrames B es) (e1 : h.get? a = some o) (e2 : o.data = .fields vs) : a ∉ frs es := fun z => by
  obtain ⟨_, o2, e3, e4⟩ := ff.mem z
  rw [e1] at e3
  cases e3
  exact e4 _ e2
/-- the clauses, one after another -/
theorem clauses_go {B : Heap} {a : Addr} {cls : Value} {d : Option Addr} {σ1 : St} {H1 : Hp} {sI s1 : Shared} {pins : List (Addr × Obj)} {D : Ends} (nd : X.N.Nodup) (st : X.stack = X.env :: X.outer) (fr : X.env.frame = some X.env.locals) (tk : Takes X Wo)
    (J : Inv X pins σ1 H1 sI) (sky : HandSPX.FlyingZ B (X.env :: X.outer) a (Zc cls d) s1.heap) (up : sI.heap.UpToSlots s1.heap) (nb : ∀ (b : Addr) (o : Obj), sI.heap.get? b = some o → b ∉ frs X.stack → B.get? b = some o) (na : H1 a = none) (os : s1.os = sI.os) (ag : AllBare s1.gens) :
    ∀ {hs : List ExceptHandler} {l : List Cls1}, ClOk X hs l → wCl X.K Wo D.rt l cls d σ1 H1 → wpAny (model X.prog X.w) X.A (handleBy (.ref a) X.env hs) (SP X pins D) X.xe s1 := by
  have J0 : ∀ {h2 : Heap}, HandSPX.FlyingZ B (X.env :: X.outer) a (Zc cls d) h2 → s1.heap.UpToSlots h2 → Inv X pins σ1 H1 { s1 with heap := h2 } := fun f u => J.landed nb f.1 (up.trans u) os ag
  have side : ∀ {h2 : Heap} {o : Obj} {vs : Array Value}, HandSPX.FlyingZ B (X.env :: X.outer) a (Zc cls d) h2 → h2.get? a = some o → o.data = .fields vs → a ≠ X.env.locals ∧ a ∉ X.fs := fun f e1 e2 => by
    have nf := no_frame f.2.2.1 e1 e2
    refine ⟨fun z => nf (List.mem_filterMap.mpr ⟨X.env, by simp, by rw [fr, z]⟩), fun z => ?_⟩
    obtain ⟨y, hy, q⟩ := List.mem_filterMap.mp z
    exact nf (List.mem_filterMap.mpr ⟨y, by simp [hy], q⟩)
  obtain ⟨o1, v1, g1, z1, d1⟩ := sky.there
  have J1 : Inv X pins σ1 H1 s1 := J0 sky (Heap.UpToSlots.refl _)
  have S1 := J1.suite g1 d1 na (side sky g1 d1).1 (side sky g1 d1).2
  have ty : PySem.W.Looks (model X.prog X.w) s1.heap (typeOf (.ref a)) cls := fun _ _ _ _ kk q => wpAny_typeOf_ref (kk _ _ g1) (by rw [z1.1]; exact q)
  intro hs l hc
  induction hc with
  | nil =>
    intro w
    refine wpAny_handleBy_nil ?_
    obtain ⟨b1, b2, b3, oe, fv, T, oT, tv, c1, c2, c3, c4, c5⟩ := id sky
    have done : wpAny (model X.prog X.w) X.A (setFlight (.ref a) X.env.frame) (fun _ s2 => wpAny (model X.prog X.w) X.A (throw (.ref a) : Sem Flow) (SP X pins D) X.xe s2) X.xe s1 := by
      rw [fr]
      refine HandSPX.setFlight_upZ sky fun h2 held u2 => wpAny_throw (tk _ _ ⟨a, B, sI, pins, σ1, H1, cls, d, rfl, J, nb, up.trans u2, ?_, na, os, ag, w⟩)
      exact .inr (.inr (by rw [st]; exact held))
    unfold PySem.passOn
    refine wpAny_bind (wpAny_field c1 c3 c4 ?_)
    have nz : ¬ ((Value.ref T == Value.none) = true) := by simp
    rw [if_neg nz]
    first
      | exact wpAny_bind done
      | exact wpAny_bind (wpAny_pure (wpAny_bind done))
  | @bare x c tx e np rp hp hs2 l2 nm su r ih =>
    rintro ⟨b, e1, yes, no⟩
    refine wpAny_handleBy_cons (codeAny_handlers_test (name_there nm S1 ?_)) fun z => by cases z
    refine (PySem.W.exm_one (M := model X.prog X.w) J1.kIn ty e1).here ?_
    cases b with
    | false => exact ih (no rfl)
    | true =>
      refine codeAny_handlers_suite (HandSPX.lands_againZ sky fun h2 f2 u2 => ?_)
      obtain ⟨o2, v2, g2, z2, d2⟩ := f2.there
      have S2 := (J0 f2 u2).suite g2 d2 na (side f2 g2 d2).1 (side f2 g2 d2).2
      have run := (pss_one (ps_ret (pos := rp) (su a o2 cls d (X.pn ++ pins) z2 ⟨_, d2⟩))).run [] _ _ H1 D S2 (yes rfl a na)
      refine wpAny_mono run (fun f s3 q => ?_) fun _ _ z => z.elim
      cases f with
      | ret u => obtain ⟨v6, σ6, H6, S6, r6, q6⟩ := q; exact ⟨v6, σ6, H6, S6.unsuite J.ok, r6, q6⟩
      | next => obtain ⟨σ6, H6, S6, q6⟩ := q; exact ⟨σ6, H6, S6.unsuite J.ok, q6⟩
      | brk => obtain ⟨σ6, H6, S6, q6⟩ := q; exact ⟨σ6, H6, S6.unsuite J.ok, q6⟩
      | cont => obtain ⟨σ6, H6, S6, q6⟩ := q; exact ⟨σ6, H6, S6.unsuite J.ok, q6⟩
  | @named x n c i tx e np rp hp hs2 l2 nm hi lo su r ih =>
    rintro ⟨b, e1, yes, no⟩
    refine wpAny_handleBy_cons (codeAny_handlers_test (name_there nm S1 ?_)) fun z => by cases z
    refine (PySem.W.exm_one (M := model X.prog X.w) J1.kIn ty e1).here ?_
    cases b with
    | false => exact ih (no rfl)
    | true =>
      refine codeAny_handlers_suite_as (HandSPX.lands_againZ sky fun h2 f2 u2 => ?_)
      obtain ⟨o2, v2, g2, z2, d2⟩ := f2.there
      have S2 := (J0 f2 u2).suite g2 d2 na (side f2 g2 d2).1 (side f2 g2 d2).2
      refine store_ok (X := X.suite a ((a, o2) :: (X.pn ++ pins))) (v := .ref a) S2 nd hi (.inl lo) rfl (fun s3 S3 => ?_) (.inr lo)
      have run := (pss_one (ps_ret (pos := rp) (su a o2 cls d (X.pn ++ pins) z2 ⟨_, d2⟩))).run [] s3 _ H1 { nx := fun _ _ => False, rt := D.rt } S3 (yes rfl a na)
      refine wpAny_mono run (fun f s4 q => ?_) fun _ _ z => z.elim
      cases f with
      | ret u =>
        obtain ⟨v6, σ6, H6, S6, r6, q6⟩ := q
        exact gone_ok (S6.unsuite J.ok) nd hi lo fun s7 J7 => ⟨v6, _, H6, J7, r6, q6⟩
      | next => obtain ⟨_, _, _, q6⟩ := q; exact q6.elim
      | brk => obtain ⟨_, _, _, q6⟩ := q; exact q6.elim
      | cont => obtain ⟨_, _, _, q6⟩ := q; exact q6.elim
/-- try: body; the clauses return -/
theorem ps_tryC (nd : X.N.Nodup) (st : X.stack = X.env :: X.outer) (fr : X.env.frame = some X.env.locals) (tk : Takes X Wo)
    (hb : ∀ (W : WX) (pn : List (Addr × Obj)) (xe : Value → Shared → Prop), Takes (X.tr pn xe) W → PassesOwn (model X.prog X.w) X.A X.env xe → PSs (X.tr pn xe) body (tb W)) (hc : ClOk X (g :: hs) l) :
    PS X (.Try body (g :: hs) [] [] pos) (fun D σ H => tb (wCl X.K Wo D.rt l) D σ H) := by
  refine ⟨fun pins s σ H D I h => wpAny_Try_except ?_⟩
  have back : ∀ {σ2 : St} {H2 : Hp} {s2 : Shared} {pn : List (Addr × Obj)} {xe : Value → Shared → Prop}, Inv (X.tr (X.pn ++ pins) xe) pn σ2 H2 s2 → Inv X pins σ2 H2 s2 := fun J => J.ofTry I.ok
  let xe : Value → Shared → Prop := fun u s1 => wpAny (model X.prog X.w) X.A (noteFrame u X.env) (fun _ s2 => wpAny (model X.prog X.w) X.A (setFlight u none) (fun _ s3 => wpAny (model X.prog X.w) X.A (handleBy u X.env (g :: hs)) (SP X pins D) X.xe s3) X.xe s2) X.xe s1
  have tk2 : Takes (X.tr (X.pn ++ pins) xe) (wCl X.K Wo D.rt l) := by
    intro u s1 xx
    obtain ⟨a, B, sI, pins2, σ2, H2, cls, d, rfl, J2, nb, up, sky, na, os, ag, w⟩ := xx
    have sky2 : Sky B (X.env :: X.outer) a (Zc cls d) X.env.locals s1.heap := by rw [← st]; exact sky
    show wpAny (model X.prog X.w) X.A (noteFrame (.ref a) X.env) _ X.xe s1
    refine Sky.land Zc.steady (by rw [I.ok.frames, st]) fr sky2 fun h3 f3 u3 => ?_
    exact clauses_go (s1 := { s1 with heap := h3 }) nd st fr tk (back J2) f3 (up.trans u3) nb na os ag hc w
  have run := (hb (wCl X.K Wo D.rt l) (X.pn ++ pins) xe tk2 PassesOwn.looking).run [] s σ H D (I.toTry xe) h
  refine wpAny_mono run (fun f s1 q => ?_) fun _ _ z => z
  cases f with
  | next => obtain ⟨σ2, H2, J2, q2⟩ := q; exact wpAny_execs_nil ⟨σ2, H2, back J2, q2⟩
  | brk => obtain ⟨σ2, H2, J2, q2⟩ := q; exact ⟨σ2, H2, back J2, q2⟩
  | cont => obtain ⟨σ2, H2, J2, q2⟩ := q; exact ⟨σ2, H2, back J2, q2⟩
  | ret u => obtain ⟨v2, σ2, H2, J2, r2, q2⟩ := q; exact ⟨v2, σ2, H2, back J2, r2, q2⟩
end
/-! ### what a clause returns -/
abbrev MX := Xn → Store → Res D
abbrev MXA := Xn → Store → Res (List D)
section
variable (G : Gx) (i : Option Nat) (a : Addr) (cls : Value) (d : Option Addr)
def tmx (m : MX) : TE := fun σ H Q => ∃ ρ S x, Rl G ρ S H ∧ RX G ρ H x cls d ∧ (∀ j, i = some j → σ[j]? = some (some (.ref a))) ∧ Post G ρ H (m x S) Q (fun _ _ _ => False)
def tmxa (m : MXA) : TA := fun σ H Q => ∃ ρ S x, Rl G ρ S H ∧ RX G ρ H x cls d ∧ (∀ j, i = some j → σ[j]? = some (some (.ref a))) ∧ PostA G ρ H (m x S) Q (fun _ _ _ => False)
end
def SX (G : Gx) (X : Cx) (i : Option Nat) (e : Expr) (m : MX) : Prop :=
  ∀ (a : Addr) (oe : Obj) (cls : Value) (d : Option Addr) (pn : List (Addr × Obj)), Zc cls d oe → (∃ vs, oe.data = .fields vs) → PE (X.suite a ((a, oe) :: pn)) e (tmx G i a cls d m)
def SXA (G : Gx) (X : Cx) (i : Option Nat) (es : List Expr) (m : MXA) : Prop :=
  ∀ (a : Addr) (oe : Obj) (cls : Value) (d : Option Addr) (pn : List (Addr × Obj)), Zc cls d oe → (∃ vs, oe.data = .fields vs) → PA (X.suite a ((a, oe) :: pn)) es (tmxa G i a cls d m)
def xC (d : D) : MX := fun _ S => .ok d S
def xF (c f : Nat) : MX := fun x S => if x.c = c then (match x.fs.lookup f with | some d => .ok d S | none => .bad) else .bad
def xList : List MX → MXA
  | [] => fun _ S => .ok [] S
  | m :: ms => fun x S => (m x S).bind fun y S1 => (xList ms x S1).bind fun ys S2 => .ok (y :: ys) S2
def xLv (ms : List MX) : MX := fun x S => (xList ms x S).bind fun ds S1 => if ds.length ≤ 1000 then .ok (.lv ds) S1 else .bad
def xFn (f : FN) (ms : List MX) : MX := fun x S => (xList ms x S).bind f
theorem RX.mono {G : Gx} {ρ ρ' : Wd} {H H' : Hp} {x : Xn} {cls : Value} {dd : Option Addr} (h : RX G ρ H x cls dd) (l : Le G ρ H ρ' H') : RX G ρ' H' x cls dd := by
  refine ⟨h.cls, ?_⟩
  rcases h.fs with h | ⟨d, us, e1, e2, r⟩
  · exact .inl h
  · exact .inr ⟨d, us, e1, l.tk d _ trivial e2, r.move l.mv⟩
section
variable {G : Gx} {X : Cx} {i : Option Nat} {e : Expr} {es : List Expr} {pos p : Pos}
theorem sx_c {d : D} (h : ∀ (a : Addr) (oe : Obj) (pn : List (Addr × Obj)), SE G (X.suite a ((a, oe) :: pn)) W0 e (eC d)) : SX G X i e (xC d) := by
  intro a oe cls dd pn z f
  refine PE.weak (h a oe pn) fun σ H Q ⟨ρ, S, x, rl, rx, _, q⟩ => ⟨ρ, List.replicate σ.length none, S, rl, ⟨by simp, fun j d h => ?_⟩, fun ρ1 H1 v l1 rl1 rv => q ρ1 H1 v l1 rl1 rv⟩
  obtain ⟨_, e⟩ := List.getElem?_eq_some_iff.mp h
  simp at e
theorem rfs_look {ρ : Wd} {H : Hp} : ∀ {fs : List (Nat × D)} {us : List (Str × V)} {f : Nat} {d : D}, RFs G ρ H fs us → fs.lookup f = some d → ∃ v, us.lookup (G.fld f) = some v ∧ RV G ρ H d v
  | _, _, _, _, .nil, h => by cases h
  | _, _, f, d, @RFs.cons _ _ _ n d0 v0 fs us r t, h => by
    by_cases q : f = n
    · subst q
      simp [List.lookup] at h
      subst h
      exact ⟨v0, by simp [List.lookup], r⟩
    · have b : (f == n) = false := by simpa using q
      have b2 : (G.fld f == G.fld n) = false := by
        simp only [beq_eq_false_iff_ne, ne_eq]
        exact fun z => q (G.inj _ _ z)
      simp [List.lookup, b] at h
      obtain ⟨v, h1, h2⟩ := rfs_look t h
      exact ⟨v, by simp [List.lookup, b2, h1], h2⟩
theorem sx_f {c f j : Nat} {C : Addr} {n : Str} {np : Pos} (T : XfC X.K C) (hc : G.clsv c = some (.ref C)) (hno : PySem.W.findIn X.K (.ref C) (G.fld f) = some none) (hN : X.N[j]? = some n) (hv : Vis X.env.scope n)
    (hb : attributeBase (.Name n np) (G.fld f) X.env (eval (.Name n np) X.env) = eval (.Name n np) X.env := by rfl) (hd : (n == ("__debug__" : Str)) = false := by decide) (hcd : (n == ("__classdict__" : Str)) = false := by decide) :
    SX G X (some j) (.Attribute (.Name n np) (G.fld f) pos) (xF c f) := by
  intro a oe cls dd pn z g
  refine PE.weak (pe_xf T hno z g (pe_var (X := X.suite a ((a, oe) :: pn)) (i := j) hN hv hd hcd) hb) fun σ H Q ⟨ρ, S, x, rl, rx, hs, q⟩ => ⟨.ref a, hs j rfl, rfl, ?_⟩
  unfold xF at q
  by_cases hx : x.c = c
  · rw [if_pos hx] at q
    have e1 := rx.cls
    rw [hx, hc] at e1
    cases e1
    refine ⟨rfl, ?_⟩
    cases hl : x.fs.lookup f with
    | none => rw [hl] at q; exact q.elim
    | some v =>
      rw [hl] at q
      rcases rx.fs with ⟨_, h2⟩ | ⟨d2, us, h1, h2, h3⟩
      · rw [h2] at hl
        cases hl
      · obtain ⟨y, k1, k2⟩ := rfs_look h3 hl
        exact ⟨d2, us, y, h1, h2, k1, q ρ H y Le.refl rl k2⟩
  · rw [if_neg hx] at q
    exact q.elim
theorem sxa_nil : SXA G X i [] (xList []) := fun a oe cls d pn z g => PA.weak pa_nil fun σ H Q ⟨ρ, S, x, rl, rx, hs, q⟩ => q ρ H [] Le.refl rl .nil
theorem sxa_cons {m : MX} {ms : List MX} (h : SX G X i e m) (t : SXA G X i es (xList ms)) (hst : starEach (e :: es) X.env = (false, eval e X.env) :: starEach es X.env := by rfl) : SXA G X i (e :: es) (xList (m :: ms)) := by
  intro a oe cls d pn z g
  refine PA.weak (pa_cons (h a oe cls d pn z g) (t a oe cls d pn z g) hst) fun σ H Q ⟨ρ, S, x, rl, rx, hs, q⟩ => ?_
  refine ⟨ρ, S, x, rl, rx, hs, PostR.bind (R := RV G) (r := m x S) q fun ρ1 H1 S1 d1 v1 l1 rl1 rv1 q1 => ?_⟩
  refine ⟨ρ1, S1, x, rl1, rx.mono l1, hs, PostR.bind (R := RVs G) (r := xList ms x S1) q1 fun ρ2 H2 S2 ds vs l2 rl2 rv2 q2 => ?_⟩
  exact q2 ρ2 H2 _ Le.refl rl2 (.cons (rv1.mono l2) rv2)
theorem sx_lv {ms : List MX} (h : SXA G X i es (xList ms)) : SX G X i (.List es pos) (xLv ms) := by
  intro a oe cls d pn z g
  refine PE.weak (pe_lst (h a oe cls d pn z g)) fun σ H Q ⟨ρ, S, x, rl, rx, hs, q⟩ => ⟨ρ, S, x, rl, rx, hs, PostR.bind (R := RVs G) (r := xList ms x S) q fun ρ1 H1 S1 ds vs l1 rl1 rv1 q1 => ?_⟩
  by_cases hl : ds.length ≤ 1000
  · rw [if_pos hl] at q1
    exact ⟨by rw [← rv1.length, sizeLine_eq]; omega, fun b hb => post_new q1 rl1 hb (.lv (rl1.no hb) upd_same (rv1.mono (Le.new hb)))⟩
  · rw [if_neg hl] at q1
    exact q1.elim
/-- a built-in function of such values -/
theorem sx_fn {x : Str} {id : String} {f : FN} {ms : List MX} (hc : ∀ (a : Addr) (oe : Obj) (pn : List (Addr × Obj)), FnS G (X.suite a ((a, oe) :: pn)) W0 (.builtin id) f) (hg : Gl X x) (hm : X.mg x = none) (hv : bootBuiltins x = some (.builtin id)) (ha : SXA G X i (e :: es) (xList ms))
    (hn : x ≠ "__name__" := by decide) (hdb : (x == ("__debug__" : Str)) = false := by decide) (he : starEach (e :: es) X.env = (false, eval e X.env) :: starEach es X.env := by rfl) (hpl : (backTo pos (starEach es X.env)).any (·.1) = false := by rfl) :
    SX G X i (.Call (.Name x p) (e :: es) [] pos) (xFn f ms) := by
  intro a oe cls d pn z g
  refine ⟨fun pins s σ H Q I ⟨ρ, S, xx, rl, rx, hs, q⟩ => ?_⟩
  refine wpAny_Call_Name_kw (ld_blt (X := X.suite a ((a, oe) :: pn)) I hg hm hv ?_ hn hdb)
  refine PyProof.Rows.callWith_builtin1 ?_ he hpl
  refine thn ((ha a oe cls d pn z g).run pos pins s σ H (fun vs H1 => ∃ ρ1 S1 ds, Rl G ρ1 S1 H1 ∧ RVs G ρ1 H1 ds vs ∧ Post G ρ1 H1 (f ds S1) Q (fun _ _ _ => False)) I ⟨ρ, S, xx, rl, rx, hs, PostR.bind (R := RVs G) (r := xList ms xx S) q fun ρ1 H1 S1 ds vs l1 rl1 rv1 q1 => ⟨ρ1, S1, ds, rl1, rv1, q1⟩⟩) ?_
  rintro us s1 ⟨vs, H1, I1, r1, ρ1, S1, ds, rl1, rv1, q1⟩
  exact hc a oe pn pins s1 σ H1 vs us Q ρ1 S1 ds I1 r1 rl1 rv1 q1
end
/-! ### the statement -/
structure Hd1 where
  c : Nat
  i : Option Nat
  m : MX
def hdIn (n : Nat) : Option Nat → Bool
  | none => true
  | some i => decide (i < n)
def hGo (isx : Nat → Nat → Option Bool) (x : Xn) (σ : En) (S : Store) : List Hd1 → RS
  | [] => .exc x σ S
  | h :: r => match isx x.c h.c with
    | some true => if hdIn σ.length h.i then (match h.m x S with | .ok d S1 => .rt d S1 | _ => .bad) else .bad
    | some false => hGo isx x σ S r
    | none => .bad
def sTry (isx : Nat → Nat → Option Bool) (b : MS) (hs : List Hd1) : MS := fun σ S => match b σ S with
  | .exc x σ1 S1 => hGo isx x σ1 S1 hs
  | r => r
inductive ClS (G : Gx) (X : Cx) : List ExceptHandler → List Hd1 → Prop
  | nil : ClS G X [] []
  | bare {x : Str} {c : Nat} {C : Value} {e : Expr} {m : MX} {np rp hp : Pos} {hs : List ExceptHandler} {l : List Hd1} (nm : Names X x C) (hc : G.clsv c = some C) (su : SX G X none e m) (r : ClS G X hs l) :
      ClS G X (.ExceptHandler (some (.Name x np)) none [.Return (some e) rp] hp :: hs) (⟨c, none, m⟩ :: l)
  | named {x n : Str} {c i : Nat} {C : Value} {e : Expr} {m : MX} {np rp hp : Pos} {hs : List ExceptHandler} {l : List Hd1} (nm : Names X x C) (hc : G.clsv c = some C) (hi : X.N[i]? = some n) (lo : X.env.kindOf n = some .local) (su : SX G X (some i) e m) (r : ClS G X hs l) :
      ClS G X (.ExceptHandler (some (.Name x np)) (some n) [.Return (some e) rp] hp :: hs) (⟨c, some i, m⟩ :: l)
section
variable {G : Gx} {X : Cx} {W : WX} {isx : Nat → Nat → Option Bool}
theorem clS_ok (ck : X.K = G.K) (hx : ∀ c1 c2 b v1 v2, isx c1 c2 = some b → G.clsv c1 = some v1 → G.clsv c2 = some v2 → PySem.W.exmOne G.K v1 v2 = some b) {hs : List ExceptHandler} {l : List Hd1} (h : ClS G X hs l) :
    ∃ l2, ClOk X hs l2 ∧ ∀ (D : Ends) (ρ : Wd) (H : Hp) (x : Xn) (σs : En) (σ : St) (S : Store) (cls : Value) (dd : Option Addr), Rl G ρ S H → RE G ρ H σs σ → RX G ρ H x cls dd → PostS G ρ H (hGo isx x σs S l) D W → wCl X.K W D.rt l2 cls dd σ H := by
  induction h with
  | nil => exact ⟨[], .nil, fun D ρ H x σs σ S cls dd rl re rx q => q ρ H σ cls dd Le.refl rl re rx⟩
  | @bare x c C e m np rp hp hs l nm hc su r ih =>
    obtain ⟨l2, k, ih⟩ := ih
    refine ⟨_, .bare nm (fun a oe cls d pn z f => su a oe cls d pn z f) k, fun D ρ H y σs σ S cls dd rl re rx q => ?_⟩
    unfold hGo at q
    cases hb : isx y.c c with
    | none => simp only [hb] at q; exact q.elim
    | some b =>
      refine ⟨b, by rw [ck]; exact hx _ _ _ _ _ hb rx.cls hc, fun e1 a ha => ?_, fun e1 => ?_⟩
      · subst e1
        simp only [hb, hdIn, if_true] at q
        refine ⟨ρ, S, y, rl, rx, (fun j z => nomatch z), ?_⟩
        cases hm : m y S with
        | ok d1 S1 => rw [hm] at q; exact q
        | exc x1 S1 => rw [hm] at q; exact q.elim
        | bad => rw [hm] at q; exact q.elim
      · subst e1
        simp only [hb] at q
        exact ih D ρ H y σs σ S cls dd rl re rx q
  | @named x n c i C e m np rp hp hs l nm hc hi lo su r ih =>
    obtain ⟨l2, k, ih⟩ := ih
    refine ⟨_, .named nm hi lo (fun a oe cls d pn z f => su a oe cls d pn z f) k, fun D ρ H y σs σ S cls dd rl re rx q => ?_⟩
    unfold hGo at q
    cases hb : isx y.c c with
    | none => simp only [hb] at q; exact q.elim
    | some b =>
      refine ⟨b, by rw [ck]; exact hx _ _ _ _ _ hb rx.cls hc, fun e1 a ha => ?_, fun e1 => ?_⟩
      · subst e1
        simp only [hb] at q
        by_cases hl : hdIn σs.length (some i) = true
        · rw [if_pos hl] at q
          have hl2 : i < σ.length := by rw [← re.len]; exact of_decide_eq_true hl
          refine ⟨ρ, S, y, rl, rx, (fun j z => ?_), ?_⟩
          · cases z
            exact List.getElem?_set_self hl2
          · cases hm : m y S with
            | ok d1 S1 => rw [hm] at q; exact q
            | exc x1 S1 => rw [hm] at q; exact q.elim
            | bad => rw [hm] at q; exact q.elim
        · rw [if_neg hl] at q
          exact q.elim
      · subst e1
        simp only [hb] at q
        exact ih D ρ H y σs σ S cls dd rl re rx q
theorem ss_try {body : List Stmt} {g : ExceptHandler} {hs : List ExceptHandler} {l : List Hd1} {b : MS} {pos : Pos} (cc : Cc G X W) (hx : ∀ c1 c2 b v1 v2, isx c1 c2 = some b → G.clsv c1 = some v1 → G.clsv c2 = some v2 → PySem.W.exmOne G.K v1 v2 = some b)
    (st : X.stack = X.env :: X.outer) (fr : X.env.frame = some X.env.locals) (hb : ∀ (W2 : WX) (pn : List (Addr × Obj)) (xe : Value → Shared → Prop), Cc G (X.tr pn xe) W2 → SSs G (X.tr pn xe) W2 body b) (hc : ClS G X (g :: hs) l) :
    SS G X W (.Try body (g :: hs) [] [] pos) (sTry isx b l) := by
  obtain ⟨l2, k, go⟩ := clS_ok cc.k hx hc
  refine PS.weak (ps_tryC cc.nd st fr cc.tk (tb := fun W2 => tms G W2 b) (fun W2 pn xe t1 t2 => hb W2 pn xe ⟨cc.k, t1, t2, cc.calm, cc.nd⟩) k) fun D σ H ⟨ρ, σs, S, rl, re, q⟩ => ⟨ρ, σs, S, rl, re, ?_⟩
  unfold sTry at q
  cases hr : b σs S with
  | exc x σ1 S1 =>
    rw [hr] at q
    exact fun ρ1 H1 σ2 cls dd l1 rl1 re1 rx1 => go D ρ1 H1 x σ1 σ2 S1 cls dd rl1 re1 rx1 (q.le l1)
  | nx σ1 S1 => rw [hr] at q; exact q
  | bk σ1 S1 => rw [hr] at q; exact q
  | ct σ1 S1 => rw [hr] at q; exact q
  | rt d S1 => rw [hr] at q; exact q
  | bad => rw [hr] at q; exact q
end
end L2.Mi

set_option Elab.async false
set_option linter.all false
set_option maxRecDepth 100000
set_option maxHeartbeats 4000000
/-! Mini, 25: defs that are called where no guard stands (repr may be asked there). -/
namespace L2.Mi
open PySem PySem.Spec PyProof.Rows
abbrev NoG (A : Around) : Prop := A.guards = some []
/-- a def's promise where no guard stands -/
structure FnG (P : Program) (w : World) (K : Fg) (mg : Str → Option Value) (base : Heap) (cx : CXT) (k : Nat) (f : Addr) (fd : FuncData) (ps : List Str) (sp : Sp) : Prop where
  ln : ∀ vs H Q E, sp vs H Q E → vs.length = ps.length
  go : ∀ (A : Around) (out : List Env) (s : Shared) (H : Hp) (ar : Args) (us : List Value) (vs : List V) (Q : VK) (E : XK), NoG A → Room k A → Env0 P w K mg base A out s H → BindsTo s fd ar (ps.zip us) → Vals vs us → sp vs H Q E →
    codeAny (model P w) A (.call (.ref f) ar) (CR cx out P w H s Q E) s
section
variable {P : Program} {w : World} {K : Fg} {mg : Str → Option Value} {base : Heap} {cx : CXT} {k : Nat} {f : Addr} {name qual : Str} {params : Arguments} {body : List Stmt} {scope : Scope} {dvs : List V} {kws : List (Str × V)} {fd : FuncData} {N ps : List Str} {sp : Sp}
theorem fnG_of (F : FunD K name qual params body scope dvs kws f fd) (S : FnScope N ps scope) (ln : ∀ vs H Q E, sp vs H Q E → vs.length = ps.length)
    (hb : ∀ (cdv : Value) (A : Around) (out : List Env) (s : Shared) (H : Hp) (vs : List V) (Q : VK) (E : XK), NoG A → Room k (A.deeper (envOfC qual scope s.heap.objs.size f cdv)) → sp vs H Q E →
      ∃ t, PSs (cxOf cx P w K mg base N qual scope f cdv A out s H E) body t ∧ t { nx := fun _ H2 => Q .non H2, rt := Q } (start N vs) H) : FnG P w K mg base cx (k + 1) f fd ps sp := by
  obtain ⟨oc, od, dV, kV, doc, pm, an, cdv, ct, osl, e0, look, hcd, _, _⟩ := F.ex
  subst e0
  refine ⟨ln, fun A out s H ar us vs Q E ng room env bnd rel hs => ?_⟩
  have inK : K.In s.heap := env.mod.kin.keeps fun b o q => (env.bs b o q).1
  have nl : s.heap.NoLimit := env.mod.nolimit.keeps fun b o q => (env.bs b o q).1
  have par : ∀ y ∈ ps.zip us, scope.names.lookup y.1 = some .local ∨ (scope.names.lookup y.1 = some .cell ∧ ((cellsFrom (s.heap.objs.size + 1) scope.names []).lookup y.1).isSome = true) := by
    rintro ⟨a, b⟩ hy
    refine (S.par a (List.of_mem_zip hy).1).imp id fun q => ⟨q, PySem.W.cellsFrom_some _ _ _ (.inl q)⟩
  refine codeAny_call_function room.depth (inK _ _ look) rfl S.co S.gen rfl (PySem.W.codeRec_of inK hcd) (bnd _ _ _ _ (wpAny_newFunctionEnv_cells S.kind par fun env2 he s1 x => ?_))
  subst he
  refine ⟨nl.keeps x.toInCall.keep, codeAny_func ?_⟩
  obtain ⟨t, ht, q⟩ := hb cdv A out s H vs Q E ng (room.deeper _) hs
  have I : Inv (cxOf cx P w K mg base N qual scope f cdv A out s H E) [] (start N vs) H s1 := inv_start S room.hd env (ln _ _ _ _ hs) rel x
  refine wpAny_mono (ht.run [] s1 _ H _ I q) (fun fl s2 z => ?_) fun _ _ z => z
  cases fl with
  | ret u => obtain ⟨v, σ2, H2, J, rv, q2⟩ := z; exact ⟨v, H2, J.os, J.bare, J.base, J.hok, rv, q2⟩
  | next => obtain ⟨σ2, H2, J, q2⟩ := z; exact ⟨.non, H2, J.os, J.bare, J.base, J.hok, rfl, q2⟩
  | brk => obtain ⟨_, _, _, q2⟩ := z; exact q2.elim
  | cont => obtain ⟨_, _, _, q2⟩ := z; exact q2.elim
end
/-! ### in Mini's terms -/
section
variable {G : Gx} {P : Program} {w : World} {mg : Str → Option Value} {base : Heap} {N ps : List Str} {x qual : Str} {params : Arguments} {body : List Stmt} {scope : Scope} {dvs : List V} {kws : List (Str × V)} {f : Addr} {fd : FuncData} {k : Nat} {ms : MS}
theorem fndG_ok (F : FunD G.K x qual params body scope dvs kws f fd) (S : FnScope N ps scope)
    (hb : ∀ (cdv : Value) (A : Around) (out : List Env) (s : Shared) (H : Hp) (E : XK), Room k (A.deeper (envOfC qual scope s.heap.objs.size f cdv)) → NoG (A.deeper (envOfC qual scope s.heap.objs.size f cdv)) →
      Cc G (cxOf (L2.CX P w) P w G.K mg base N qual scope f cdv A out s H E) (WF E) → SSs G (cxOf (L2.CX P w) P w G.K mg base N qual scope f cdv A out s H E) (WF E) body ms) :
    FnG P w G.K mg base (L2.CX P w) (k + 1) f fd ps (spF G (bodyRun N.length ms) ps.length) := by
  refine fnG_of F S (fun vs H Q E ⟨_, _, _, h, _⟩ => h) fun cdv A out s H vs Q E ng hr ⟨ρ, St, ds, hn, rl, rv, p⟩ => ?_
  refine ⟨_, hb cdv A out s H E hr ng ⟨rfl, takes_of rfl rfl rfl rfl, passes_of rfl, rfl, S.nd⟩, ρ, _, St, rl, re_start rv, ?_⟩
  unfold bodyRun at p
  cases q : ms (ds.map some ++ List.replicate (N.length - ds.length) none) St with
  | rt d S1 => rw [q] at p; exact p
  | nx σ1 S1 => rw [q] at p; exact fun ρ1 H1 σ2 l1 rl1 re1 => p ρ1 H1 .non l1 rl1 .non
  | exc y σ1 S1 => rw [q] at p; exact fun ρ1 H1 σ2 c dd l1 rl1 re1 rx => p ρ1 H1 c dd l1 rl1 rx
  | bk σ1 S1 => rw [q] at p; exact p.elim
  | ct σ1 S1 => rw [q] at p; exact p.elim
  | bad => rw [q] at p; exact p.elim
/-- a callable's promise where no guard stands -/
def CalG (G : Gx) (P : Program) (w : World) (mg : Str → Option Value) (base : Heap) (k : Nat) (f : Addr) (m : FN) : Prop :=
  ∀ (A : Around) (out : List Env) (s : Shared) (H : Hp) (us : List Value) (vs : List V) (Q : VK) (E : XK), NoG A → Room k A → Env0 P w G.K mg base A out s H → Vals vs us → spG G m vs H Q E →
    codeAny (model P w) A (.call (.ref f) ⟨us, []⟩) (CR (L2.CX P w) out P w H s Q E) s
theorem calG_defD {m : FN} {n : Nat} {dfl : List D} (F : FnG P w G.K mg base (L2.CX P w) k f fd ps (spF G m n)) (hn : n = ps.length) (hb : ∀ j, j ≤ dvs.length → ∃ ds, Vals (dvs.drop j) ds ∧ Binds G.K fd ps ds) (hdd : ∀ ρ H, RVs G ρ H dfl dvs) : CalG G P w mg base k f (callD n dfl m) := by
  rintro A out s H us vs Q E ng hr env rel ⟨ρ, S, es, rl, rv, p⟩
  unfold callD at p
  by_cases hl : es.length ≤ n ∧ n ≤ es.length + dfl.length
  · rw [if_pos hl] at p
    have e1 := (hdd ρ H).length
    obtain ⟨ds, r2, b2⟩ := hb (dfl.length + es.length - n) (by omega)
    have e2 : vs.length + (dvs.drop (dfl.length + es.length - n)).length = n := by rw [← rv.length, List.length_drop]; omega
    have inK : G.K.In s.heap := env.mod.kin.keeps fun b o q => (env.bs b o q).1
    refine F.go A out s H ⟨us, []⟩ (us ++ ds) (vs ++ dvs.drop (dfl.length + es.length - n)) Q E ng hr env (b2 s us inK ?_) (rel.append r2) ⟨ρ, S, _, ?_, rl, rv.append ((hdd ρ H).drop _), p⟩
    · rw [List.length_append, ← rel.length, ← r2.length, ← hn]; exact e2
    · rw [List.length_append]; exact e2
  · rw [if_neg hl] at p
    exact p.elim
theorem calG0 : CalG G P w mg base k f (fun _ _ => .bad) := by
  rintro A out s H us vs Q E ng hr env rel ⟨ρ, S, es, rl, rv, p⟩
  exact p.elim
theorem Cal.toG {m : FN} (h : Cal G P w mg base k f m) : CalG G P w mg base k f m := fun A out s H us vs Q E _ => h A out s H us vs Q E
end
theorem fns_calG {G : Gx} {X : Cx} {W : WX} {k : Nat} {f : Addr} {m : FN} (cc : Cc G X W) (ng : NoG X.A) (F : CalG G X.prog X.w X.mg X.base k f m) (hr : Room k X.A) : FnS G X W (.ref f) m := by
  intro pins s σ H xs us Q ρ S es I r rl rv p
  have e0 : Env0 X.prog X.w G.K X.mg X.base X.A X.stack s H := by rw [← cc.k]; exact I.env0
  refine wpAny_call (codeAny_mono (F X.A X.stack s H us xs Q (EW W σ) ng hr e0 r ⟨ρ, S, es, rl, rv, p⟩) fun r s2 hq => ?_)
  cases r with
  | error e => exact passAt cc.tk σ pins H s e s2 I hq
  | ok fl => cases fl with
    | ret u => exact I.after hq
    | _ => exact hq.elim
/-! ### the law's end -/
section
variable {P : Program} {w : World} {K : Fg} {mg mb : Str → Option Value} {cx : CXT} {k : Nat} {fa a : Addr} {fd : FuncData} {x : Str} {sp : Sp} {s1 : Shared} {vs : List Value} {ns : List Int}
theorem law_callG (inK : K.In s1.heap) (hns : s1.heap.Ns mainGlobals mg) (hb : s1.heap.Ns builtinsNs mb) (hbb : ∀ x : Str, x ≠ "__name__" → mb x = bootBuiltins x) (nl : s1.heap.NoLimit) (hg : s1.gens = #[])
    (ha : s1.heap.get? a = some { cls := .type "list", data := .seq vs.toArray }) (hi : IntsAre vs ns) (hl : ns.length ≤ sizeLine) (hr : Room k callerA)
    (F : ∀ base : Heap, K.In base → base.Ns mainGlobals mg → FnG P w K mg base cx k fa fd [x] sp) (bnd : ∀ (s : Shared) (u : Value), BindsTo s fd ⟨[u], []⟩ [(x, u)])
    (hsp : ∀ H : Hp, Only H → SqL K H a (ns.map V.int) → sp [.ref a] H (fun v _ => v = .bl true) fun _ _ _ => False) (hcx : ∀ H e s2, cx [] H s1 (fun _ _ _ => False) e s2 → False) :
    codeAny (model P w) callerA (.call (.ref fa) ⟨[.ref a], []⟩) (fun r s2 => r = .ok (.ret (.bool true)) ∧ OldK s1.heap s2.heap ∧ s2.os = s1.os ∧ AllBare s2.gens) s1 := by
  have rel := vals_ints hi
  have len := hi.length
  have main : ∀ H : Hp, Only H → SqL K H a (ns.map V.int) → HOk P w H s1.heap → (∀ b, H b ≠ none → b = a) → (H a ≠ none → K.lookup a = none) →
      codeAny (model P w) callerA (.call (.ref fa) ⟨[.ref a], []⟩) (fun r s2 => r = .ok (.ret (.bool true)) ∧ OldK s1.heap s2.heap ∧ s2.os = s1.os ∧ AllBare s2.gens) s1 := by
    intro H only sq ok one out
    have free : ∀ {b : Addr} {o : Obj}, s1.heap.get? b = some o → (∀ c, b = a → H b = some c → False) → H b = none := fun {b o} e z => by
      cases q : H b with
      | none => rfl
      | some c => exact (z c (one b (by rw [q]; simp)) q).elim
    have nsk : ∀ {b : Addr} {m : Str → Option Value}, s1.heap.Ns b m → (hidT s1.heap H).Ns b m := fun {b m} ⟨o, es, ep, e, d, r⟩ => ⟨o, es, ep, hidT_get e (free e fun c e2 q => by
      subst e2
      rw [ha] at e
      cases e
      have d2 : Data.seq vs.toArray _ = Data.dict es ep := d
      cases d2), d, r⟩
    have hK : K.In (hidT s1.heap H) := fun b o e => hidT_get (inK b o e) (free (inK b o e) fun c e2 q => by
      subst e2
      rw [out (by rw [q]; simp)] at e
      cases e)
    have md : Mod K mg (hidT s1.heap H) := ⟨hK, nsk hns, ⟨mb, nsk hb, hbb⟩, let ⟨mc, z1, z2⟩ := nl; ⟨mc, nsk z1, z2⟩⟩
    have env : Env0 P w K mg (hidT s1.heap H) callerA [] s1 H := ⟨rfl, md, fun b o e => of_hidT e, Nat.le_of_eq (hidT_size _ _), trivial, fun b z => (List.not_mem_nil (show b ∈ ([] : List Addr) from z)).elim, ok, .of_eq hg⟩
    refine codeAny_mono ((F _ hK (nsk hns)).go callerA [] s1 H ⟨[.ref a], []⟩ [.ref a] [.ref a] _ _ rfl hr env (bnd s1 (.ref a)) (.cons rfl .nil) (hsp H only sq)) fun r s2 z => ?_
    cases r with
    | error e => exact (hcx H e s2 z).elim
    | ok fl => cases fl with
      | ret u =>
        obtain ⟨v, H2, z1, z2, un, ok2, rv, q⟩ := z
        have q2 : v = .bl true := q
        subst q2
        obtain rfl : u = Value.bool true := rv
        refine ⟨rfl, OldK.of_keep fun b o e => ?_, z1, z2⟩
        rcases only b with z | ⟨ob, xs, z⟩
        · exact un.keep b o e z (fun y => (List.not_mem_nil (show b ∈ ([] : List Addr) from y)).elim) (by simp)
        · have y1 := (ok b _ z).1
          have y2 := (ok2 b _ (un.frzs b ob _ z)).1
          rw [e] at y1
          cases y1
          exact y2
      | _ => exact False.elim z
  cases hk : K.lookup a with
  | some o =>
    have e := inK a o hk
    rw [ha] at e
    cases e
    exact main (fun _ => none) (fun _ => .inl rfl) (.inr ⟨_, vs.toArray, _, hk, rfl, rfl, rfl, by rw [List.size_toArray, len]; exact hl, by simpa using rel⟩) (fun b u z => nomatch (show (none : Option HO) = some u from z)) (fun b z => (z rfl).elim) fun z => (z rfl).elim
  | none =>
    let ob : HO := .frz { cls := .type "list", data := .seq vs.toArray } (.lst (ns.map V.int))
    have at1 : (fun b => if b = a then some ob else none : Hp) a = some ob := if_pos rfl
    have at2 : ∀ b, b ≠ a → (fun b => if b = a then some ob else none : Hp) b = none := fun b z => if_neg z
    refine main (fun b => if b = a then some ob else none) (fun b => ?_) (.inl (.inr ⟨_, at1⟩)) (fun b u z => ?_) (fun b z => ?_) fun _ => hk
    · by_cases q : b = a
      · subst q; exact .inr ⟨_, _, at1⟩
      · exact .inl (at2 b q)
    · by_cases q : b = a
      · subst q
        have z2 := at1.symm.trans z
        cases z2
        exact ⟨ha, by rw [List.length_map]; exact hl, vs, _, rel, ha⟩
      · have z2 := (at2 b q).symm.trans z
        cases z2
    · by_cases q : b = a
      · exact q
      · exact (z (at2 b q)).elim
end
theorem walkG {l : PySem.W.OpenLaw} {n k : Nat} {q : Program} {loose : List Str} {XP : (Str → Option Value) → Heap → Prop} {L : Lw} {N : Nat} {d : DefRec} {x : Str} {run : FN}
    (hn : l.most = some n) (hn2 : n ≤ sizeLine) (hdf : d.params.defaults = []) (hr : Room k callerA) (ht : L.tab = none)
    (F : ∀ (w : World) (mg : Str → Option Value) (fa : Addr) (K : Fg) (c : L.Says K), Ns K mg → mg d.name = some (.ref fa) →
      ∃ fd : FuncData, (∀ (s : Shared) (u : Value), BindsTo s fd ⟨[u], []⟩ [(x, u)]) ∧ ∀ base : Heap, K.In base → base.Ns mainGlobals mg → FnG l.prog w K mg base (L2.CX l.prog w) k fa fd [x] (spF (L.gx K c) run 1))
    (good : ∀ ns : List Int, ns.length ≤ n → (∀ z ∈ ns, Builtin.Int.intBits z ≤ 1048576) → ∃ S, run [.fl (ns.map D.int)] ⟨[]⟩ = .ok (.bl true) S) :
    PySem.W.WalkO q loose XP (L.hook N).says l.row.toRowW d [] (fun f vs => PySem.call f vs) := by
  refine Att.attach_callB hn hdf fun w s0 s1 mg mb fa o pm cd doc a vs ns T ⟨K, KX, c⟩ ho hd hcd hmg hobj hints hlen hbits hg => ?_
  obtain ⟨fd, hb, hF⟩ := F w mg fa K c ⟨_, KX, T.T.g⟩ hmg
  refine law_callG KX T.T.g T.T.b T.T.builtins T.T.nolimit hg hobj hints (Nat.le_trans hlen hn2) hr hF hb (fun H hO hS => ?_) fun H e s2 h => ?_
  · obtain ⟨rl, rv⟩ := start_ok (G := L.gx K c) (L.gx_tabs ht) hO hS
    obtain ⟨S, e⟩ := good ns hlen hbits
    refine ⟨⟨[], []⟩, ⟨[]⟩, _, rfl, rl, .cons rv .nil, ?_⟩
    rw [e]
    intro ρ2 H2 v _ _ r
    cases r
    rfl
  · obtain ⟨_, _, _, _, _, _, _, _, _, _, _, _, z⟩ := h
    exact z.elim
end L2.Mi

set_option Elab.async false
set_option linter.all false
set_option maxRecDepth 100000
set_option maxHeartbeats 4000000
/-! Mini, 26: repr of data. -/
namespace L2.Mi
open PySem PySem.Spec PyProof.Rows
def optAll {α β : Type} (f : α → Option β) : List α → Option (List β)
  | [] => some []
  | x :: xs => match f x, optAll f xs with
    | some y, some ys => some (y :: ys)
    | _, _ => none
/-- a value as plain data -/
def pyD (S : Store) : Nat → D → Option PyData
  | 0, _ => none
  | n + 1, d => match tupD d with
    | some ds => (optAll (pyD S n) ds).map .tuple
    | none => match listAt S d with
      | some ds => (optAll (pyD S n) ds).map .list
      | none => match d with
        | .non => some .none
        | .bl b => some (.bool b)
        | .int i => some (.int i)
        | .str x => some (.str ⟨x.toArray⟩)
        | _ => none
def reprOk (p : PyData) : Bool := p.showable && (!p.hasDict && (decide (p.shown.length ≤ sizeLine) && decide (p.depth ≤ 32)))
def reprF (n : Nat) : FN := fun xs S => match xs with
  | [d] => (match pyD S n d with
    | some p => if reprOk p then .ok (.str p.shown.cps.toList) S else .bad
    | none => .bad)
  | _ => .bad
section
variable {G : Gx} {X : Cx} {pins : List (Addr × Obj)} {σ : St} {H : Hp} {s : Shared}
theorem reads_all {S : Store} {ρ : Wd} {f : D → Option PyData} (h : ∀ d v u p, RV G ρ H d v → RelV v u → f d = some p → ∃ as, Reads s.heap u p as) :
    ∀ {ds : List D} {vs : List V} {us : List Value} {ps : List PyData}, RVs G ρ H ds vs → Vals vs us → optAll f ds = some ps → ∃ as, ReadsAll s.heap us ps as
  | _, _, _, _, .nil, .nil, e => by cases e; exact ⟨[], .nil⟩
  | d :: ds, v :: vs, u :: us, ps, .cons r1 r2, .cons k1 k2, e => by
    unfold optAll at e
    cases q1 : f d with
    | none => rw [q1] at e; cases e
    | some y =>
      cases q2 : optAll f ds with
      | none => rw [q1, q2] at e; cases e
      | some ys =>
        rw [q1, q2] at e
        cases e
        obtain ⟨a1, z1⟩ := h _ _ _ _ r1 k1 q1
        obtain ⟨a2, z2⟩ := reads_all (S := S) h r2 k2 q2
        exact ⟨_, .cons z1 z2⟩
theorem reads_of (hk : X.K = G.K) (I : Inv X pins σ H s) {ρ : Wd} {S : Store} (rl : Rl G ρ S H) : ∀ (n : Nat) (d : D) (v : V) (u : Value) (p : PyData), RV G ρ H d v → RelV v u → pyD S n d = some p → ∃ as, Reads s.heap u p as
  | 0, _, _, _, _, _, _, e => by cases e
  | n + 1, d, v, u, p, rv, r, e => by
    unfold pyD at e
    cases q : tupD d with
    | some ds =>
      rw [q] at e
      obtain ⟨a, xs, rfl, sq, rs⟩ := tupD_rel rv q
      obtain ⟨its, r2, ⟨o, g1, g2, m, g3⟩, _⟩ := I.tuple (by rw [hk]; exact sq)
      obtain rfl : u = Value.ref a := r
      cases q2 : optAll (pyD S n) ds with
      | none => simp only [q2] at e; cases e
      | some ps =>
        simp only [q2] at e
        cases e
        obtain ⟨as, z⟩ := reads_all (S := S) (reads_of hk I rl n) rs r2 q2
        exact ⟨as, .tuple g1 g2 g3 (by simpa using z)⟩
    | none =>
      rw [q] at e
      cases q1 : listAt S d with
      | some ds =>
        simp only [q1] at e
        obtain ⟨a, xs, rfl, sq, rs⟩ := listAt_rel rl rv q1
        obtain ⟨its, r2, ⟨o, m, g1, g2, _, g3⟩, _⟩ := I.list (by rw [hk]; exact sq)
        obtain rfl : u = Value.ref a := r
        cases q2 : optAll (pyD S n) ds with
        | none => simp only [q2] at e; cases e
        | some ps =>
          simp only [q2] at e
          cases e
          obtain ⟨as, z⟩ := reads_all (S := S) (reads_of hk I rl n) rs r2 q2
          exact ⟨_, .list g1 g2 g3 (by simpa using z)⟩
      | none =>
        simp only [q1] at e
        cases rv with
        | non => cases e; cases r; exact ⟨_, .none⟩
        | bl b => cases e; cases r; exact ⟨_, .bool b⟩
        | int i => cases e; obtain ⟨t, rfl⟩ := r; exact ⟨_, .int i t⟩
        | str y => cases e; obtain ⟨t, rfl⟩ := r; exact ⟨_, .str _ t⟩
        | _ => cases e
theorem fns_repr {W : WX} (n : Nat) (hk : X.K = G.K) (ng : NoG X.A) (hu : X.A.units + 64 < cLine) : FnS G X W (.builtin "repr") (reprF n) := by
  intro pins s σ H xs us Q ρ S ds I r rl rv p
  unfold reprF at p
  match ds, rv, p with
  | [d], .cons r1 .nil, p =>
    cases r with
    | cons k1 k2 =>
      cases k2
      cases q : pyD S n d with
      | none => simp only [q] at p; exact p.elim
      | some y =>
        simp only [q] at p
        by_cases hok : reprOk y = true
        · rw [if_pos hok] at p
          obtain ⟨o1, o2⟩ := ba hok
          obtain ⟨o2, o3⟩ := ba o2
          obtain ⟨o3, o4⟩ := ba o3
          have e3 := of_decide_eq_true o3
          have e4 := of_decide_eq_true o4
          have e2 : y.hasDict = false := by simpa using o2
          obtain ⟨as, z⟩ := reads_of hk I rl n d _ _ y r1 k1 q
          have fin : ∀ {h2 : Heap} {tk : Nat} {t : Tok}, (∀ b o, s.heap.get? b = some o → h2.get? b = some o) → EP X pins σ Q (.str y.shown t) { s with heap := h2, toks := tk } := fun kk => ⟨.str y.shown, H, I.kept (t' := _) kk, ⟨_, rfl⟩, post_ok p rl (rv_str _)⟩
          have nk : ∀ b o, s.heap.get? b = some o → s.heap.get? b = some o := fun _ _ z => z
          cases z with
          | none => exact PySem.P.repr_of_none (fin (h2 := s.heap) nk)
          | bool b =>
            have f2 := @fin s.heap (s.toks + 1) s.toks nk
            unfold PyData.shown at f2
            exact PySem.P.repr_of_bool f2
          | int i t =>
            have f2 := @fin s.heap (s.toks + 1) s.toks nk
            unfold PyData.shown at f2
            exact PySem.P.repr_of_int (by unfold PyData.showable at o1; exact of_decide_eq_true o1) f2
          | str x t =>
            have f2 := @fin s.heap (s.toks + 1) s.toks nk
            unfold PyData.shown at f2 e3
            exact PySem.P.repr_of_str f2 e3
          | list g1 g2 g3 g4 => exact repr_of_reads' (.list g1 g2 g3 g4) o1 (PyData.noDict_hsm e2) ng (by omega) nk (fun h2 t tk kk => fin kk) e3
          | tuple g1 g2 g3 g4 => exact repr_of_reads' (.tuple g1 g2 g3 g4) o1 (PyData.noDict_hsm e2) ng (by omega) nk (fun h2 t tk kk => fin kk) e3
          | dict g1 g2 g3 g4 g5 => cases e2
        · rw [if_neg hok] at p
          exact p.elim
  | [], _, p => exact p.elim
  | _ :: _ :: _, _, p => exact p.elim
end
end L2.Mi

set_option Elab.async false
set_option linter.all false
set_option maxRecDepth 100000
set_option maxHeartbeats 4000000
/-! Mini, 27: in, tuples many times, len of an own class, what is never reached. -/
namespace L2.Mi
open PySem PySem.Spec PyProof.Rows
/-! ### never reached -/
def eBad : ME := fun _ _ => .bad
def sBad : MS := fun _ _ => .bad
theorem se_bad {G : Gx} {X : Cx} {W : WX} {e : Expr} : SE G X W e eBad := ⟨fun _ _ _ _ _ _ ⟨_, _, _, _, _, p⟩ => p.elim⟩
theorem ss_bad {G : Gx} {X : Cx} {W : WX} {st : Stmt} : SS G X W st sBad := ⟨fun _ _ _ _ _ _ ⟨_, _, _, _, _, p⟩ => p.elim⟩
theorem sss_bad {G : Gx} {X : Cx} {W : WX} {st : List Stmt} : SSs G X W st sBad := ⟨fun _ _ _ _ _ _ ⟨_, _, _, _, _, p⟩ => p.elim⟩
/-! ### in -/
def flatD : D → Bool
  | .non => true
  | .bl _ => true
  | .int _ => true
  | .str _ => true
  | _ => false
/-- == of flat values -/
def eqD : D → D → Bool
  | .non, .non => true
  | .bl a, .bl b => a == b
  | .bl a, .int b => (if a then 1 else 0) == b
  | .int a, .bl b => a == (if b then 1 else 0)
  | .int a, .int b => a == b
  | .str a, .str b => a == b
  | _, _ => false
def seqD (S : Store) (d : D) : Option (List D) := match tupD d with
  | some ds => some ds
  | none => listAt S d
def inF (neg : Bool) : D → D → Store → Res D := fun x y S => match seqD S y with
  | some ds => if flatD x && ds.all flatD then .ok (.bl (if neg then !(ds.any fun z => eqD z x) else ds.any fun z => eqD z x)) S else .bad
  | none => match x, y with
    | .str [c], .str z => .ok (.bl (if neg then !decide (c ∈ z) else decide (c ∈ z))) S
    | _, _ => .bad
section
variable {G : Gx} {X : Cx} {W : WX} {ρ : Wd} {H : Hp} {S : Store}
theorem flat_rel {d : D} {v : V} (r : RV G ρ H d v) (h : flatD d = true) : flatV v = true := by
  cases r <;> first | rfl | cases h
theorem eq_rel {d e : D} {v u : V} (r1 : RV G ρ H d v) (r2 : RV G ρ H e u) (h1 : flatD d = true) (h2 : flatD e = true) : eqV v u = eqD d e := by
  cases r1 <;> (first | cases h1; done | skip) <;> cases r2 <;> (first | cases h2; done | rfl | skip)
  rename_i x y
  show ((⟨x.toArray⟩ : Str) == ⟨y.toArray⟩) = (x == y)
  by_cases h : x = y
  · subst h; simp
  · have n1 : ((⟨x.toArray⟩ : Str) == ⟨y.toArray⟩) = false := by
      refine beq_eq_false_iff_ne.mpr fun z => h ?_
      have z2 := congrArg (fun s : Str => s.cps.toList) z
      simpa using z2
    have n2 : (x == y) = false := beq_eq_false_iff_ne.mpr h
    rw [n1, n2]
theorem all_flat : ∀ {ds : List D} {vs : List V}, RVs G ρ H ds vs → ds.all flatD = true → vs.all flatV = true
  | _, _, .nil, _ => rfl
  | _, _, .cons r t, h => by
    rw [List.all_cons, Bool.and_eq_true] at h ⊢
    exact ⟨flat_rel r h.1, all_flat t h.2⟩
theorem any_eq {e : D} {u : V} (r2 : RV G ρ H e u) (h2 : flatD e = true) : ∀ {ds : List D} {vs : List V}, RVs G ρ H ds vs → ds.all flatD = true → (vs.any fun z => eqV z u) = ds.any fun z => eqD z e
  | _, _, .nil, _ => rfl
  | _, _, .cons r t, h => by
    rw [List.all_cons, Bool.and_eq_true] at h
    rw [List.any_cons, List.any_cons, eq_rel r r2 h.1 h2, any_eq r2 h2 t h.2]
theorem seqD_rel {d : D} {x : V} {ds : List D} (rl : Rl G ρ S H) (rv : RV G ρ H d x) (h : seqD S d = some ds) : ∃ a xs, x = .ref a ∧ (SqL G.K H a xs ∨ SqT G.K H a xs) ∧ RVs G ρ H ds xs := by
  unfold seqD at h
  cases q : tupD d with
  | some es =>
    simp only [q] at h
    cases h
    obtain ⟨a, xs, e, sq, r⟩ := tupD_rel rv q
    exact ⟨a, xs, e, .inr sq, r⟩
  | none =>
    simp only [q] at h
    obtain ⟨a, xs, e, sq, r⟩ := listAt_rel rl rv h
    exact ⟨a, xs, e, .inl sq, r⟩
theorem ops_inG {F : Value → Value → Sem Value} {neg : Bool} (cc : Cc G X W) (h1 : OpR X F (rIn X.K neg))
    (h2 : OpR X F (fun x y H Q => ∃ (c : Nat) (z : Str), x = .str ⟨#[c]⟩ ∧ y = .str z ∧ Q (.bl (if neg then !decide (c ∈ z.cps.toList) else decide (c ∈ z.cps.toList))) H)) : OpS G X W F (inF neg) := by
  intro pins s σ H x y v u Q ρ S d1 d2 I rx ry rl r1 r2 p
  unfold inF at p
  cases q : seqD S d2 with
  | some ds =>
    simp only [q] at p
    by_cases h : (flatD d1 && ds.all flatD) = true
    · rw [if_pos h] at p
      obtain ⟨f1, f2⟩ := ba h
      obtain ⟨a, xs, rfl, sq, rs⟩ := seqD_rel rl r2 q
      refine h1 pins s σ H _ _ v u Q I rx ry ⟨a, xs, rfl, by rw [cc.k]; exact sq, flat_rel r1 f1, all_flat rs f2, ?_⟩
      unfold inV
      rw [any_eq r1 f1 rs f2]
      exact post_ok p rl (.bl _)
    · rw [if_neg h] at p
      exact p.elim
  | none =>
    simp only [q] at p
    cases r1 with
    | str l =>
      match l, rx, p with
      | [c], rx, p =>
        cases r2 with
        | str z => exact h2 pins s σ H _ _ v u Q I rx ry ⟨c, _, rfl, rfl, by simpa using post_ok p rl (.bl _)⟩
        | _ => exact p.elim
      | [], _, p => cases r2 <;> exact p.elim
      | _ :: _ :: _, _, p => cases r2 <;> exact p.elim
    | _ => cases r2 <;> exact p.elim
theorem ops_in (cc : Cc G X W) : OpS G X W (compareOp .In) (inF false) := ops_inG cc op_in_seq fun pins s σ H x y v u Q I rx ry ⟨c, z, e1, e2, q⟩ => op_in_sign pins s σ H x y v u Q I rx ry ⟨c, z, e1, e2, q⟩
theorem ops_notIn (cc : Cc G X W) : OpS G X W (compareOp .NotIn) (inF true) := ops_inG cc op_notIn_seq fun pins s σ H x y v u Q I rx ry ⟨c, z, e1, e2, q⟩ => op_notIn_sign pins s σ H x y v u Q I rx ry ⟨c, z, e1, e2, q⟩
/-! ### a tuple many times -/
def repF : D → D → Store → Res D := fun x y S => match tupD x, y with
  | some ds, .int k => if ds ≠ [] ∧ 2 ≤ k ∧ k ≤ 1000 ∧ ds.length ≤ 1000 then .ok (.tup (List.replicate k.toNat ds).flatten) S else .bad
  | _, _ => .bad
theorem ops_rep (cc : Cc G X W) : OpS G X W (binaryOp .Mult) repF := by
  intro pins s σ H x y v u Q ρ S d1 d2 I rx ry rl r1 r2 p
  unfold repF at p
  cases q : tupD d1 with
  | none => simp only [q] at p; exact p.elim
  | some ds =>
    cases r2 with
    | int k =>
      simp only [q] at p
      by_cases h : ds ≠ [] ∧ 2 ≤ k ∧ k ≤ 1000 ∧ ds.length ≤ 1000
      · rw [if_pos h] at p
        obtain ⟨h1, h2, h3, h4⟩ := h
        obtain ⟨a, xs, rfl, sq, rs⟩ := tupD_rel r1 q
        have rep : ∀ n, RVs G ρ H (List.replicate n ds).flatten (List.replicate n xs).flatten := fun n => by
          induction n with
          | zero => exact .nil
          | succ n ih => rw [List.replicate_succ, List.replicate_succ]; exact rs.append ih
        refine op_repT pins s σ H _ _ v u Q I rx ry ⟨a, k, xs, rfl, rfl, by rw [cc.k]; exact sq, fun z => h1 ?_, h2, h3, by rw [← rs.length]; exact h4, fun b hb => post_new p rl hb (.tup upd_same ((rep k.toNat).mono (Le.new hb)))⟩
        have e := rs.length
        rw [z] at e
        exact List.eq_nil_of_length_eq_zero (by simpa using e)
      · rw [if_neg h] at p
        exact p.elim
    | _ => simp only [q] at p; exact p.elim
/-! ### len of an own class -/
def lenO (ds : Disp) : FN := fun xs S => match xs with
  | [.ref i] => (match S.get i with
    | some (.ins c _) => (match ds c with
      | some g => (match g [.ref i] S with | .ok (.int n) S1 => if 0 ≤ n ∧ n < 2 ^ 62 then .ok (.int n) S1 else .bad | _ => .bad)
      | none => .bad)
    | _ => .bad)
  | _ => .bad
structure LenS (G : Gx) (X : Cx) (c : Nat) (g : FN) : Prop where
  ex : ∃ C f k, G.cls c = some C ∧ PySem.W.findIn X.K (.ref C) "__len__" = some (some (.ref f)) ∧ PySem.W.isFn X.K (.ref f) = true ∧ FnR X.prog X.w X.K X.mg X.base (L2.CX X.prog X.w) k f (spG G g) ∧ Room (k + 1) X.A
theorem fns_lenO {ds : Disp} (hd : ∀ c g, ds c = some g → LenS G X c g) : FnS G X W (.builtin "len") (lenO ds) := by
  intro pins s σ H xs us Q ρ S es I r rl rv p
  match es, rv, p with
  | [.ref i], .cons r1 .nil, p =>
    cases r with
    | cons k1 k2 =>
      cases k2
      cases r1 with
      | @ref _ a hi =>
        cases k1
        unfold lenO at p
        cases q : S.get i with
        | none => simp only [q] at p; exact p.elim
        | some ob =>
          cases ob with
          | ins c fs =>
            simp only [q] at p
            cases q2 : ds c with
            | none => simp only [q2] at p; exact p.elim
            | some g =>
              simp only [q2] at p
              obtain ⟨C, f, k, hC, hs, hf, F, hr⟩ := (hd c g q2).ex
              obtain ⟨C', dx, us', hC', hH⟩ := inst_at rl hi q
              rw [hC] at hC'
              cases hC'
              obtain ⟨mA, O, _⟩ := ins_get I.hok hH
              obtain ⟨od, J, _⟩ := O.look
              obtain ⟨mF, hF⟩ := I.fr
              refine PySem.W.len_K hF I.ok.mod.kin J hs hf ?_
              have hsp : spG G g [.ref a] H (fun z H2 => ∃ n : Int, z = .int n ∧ 0 ≤ n ∧ n < 2 ^ 62 ∧ Q (.int n) H2) E0 := ⟨ρ, S, [.ref i], rl, .cons (.ref hi) .nil, by
                cases q5 : g [.ref i] S with
                | exc xx S1 => rw [q5] at p; exact False.elim p
                | bad => rw [q5] at p; exact False.elim p
                | ok d S1 =>
                  rw [q5] at p
                  intro ρ1 H1 z l1 rl1 rv1
                  cases rv1 with
                  | int n =>
                    simp only at p
                    by_cases hn : 0 ≤ n ∧ n < 2 ^ 62
                    · rw [if_pos hn] at p
                      exact ⟨n, rfl, hn.1, hn.2, p ρ1 H1 _ l1 rl1 (.int _)⟩
                    · rw [if_neg hn] at p
                      exact p.elim
                  | _ => exact False.elim p⟩
              refine wpAny_call (codeAny_mono (F X.A.in1 X.stack s H [.ref a] [.ref a] _ E0 hr.in1 I.env0.in1 (.cons rfl .nil) hsp) fun r s2 hq => ?_)
              cases r with
              | error er => exact False.elim (passNox (X := X) pins σ H s er s2 (I.wish _) hq)
              | ok fl => cases fl with
                | ret w =>
                  obtain ⟨z, H2, I2, rz, n, ez, n0, n1, q6⟩ := I.after hq
                  subst ez
                  obtain ⟨t, rfl⟩ := rz
                  exact ⟨⟨n0, by omega⟩, .int n, H2, I2.tok _, ⟨_, rfl⟩, q6⟩
                | _ => exact False.elim hq
          | _ => simp only [q] at p; exact p.elim
end
end L2.Mi

set_option Elab.async false
set_option linter.all false
set_option maxRecDepth 100000
set_option maxHeartbeats 4000000
/-! Mini, 28: the facts of exceptions as the derivations take them; lists put together. -/
namespace L2.Mi
open PySem PySem.Spec PyProof.Rows
theorem two_le (n : Nat) : 2 ≤ lv n + 1 := by rw [lv_eq]; omega
theorem hu_of2 {k : Nat} {A : Around} (hr : Room k A) : A.units + 64 < cLine := by have := hr.un; omega
/-! ### lists put together: a new list -/
def lsN (S : Store) : D → Option (List D)
  | .lv ds => some ds
  | .ref i => (match S.get i with | some (.lst ds) => some ds | _ => none)
  | _ => none
def catR : D → D → Store → Res D := fun x y S => match lsN S x, lsN S y with
  | some a, some b => if a.length + b.length ≤ lim then .ok (.ref S.size) (S.push (.lst (a ++ b))) else .bad
  | _, _ => .bad
section
variable {G : Gx} {X : Cx} {W : WX} {ρ : Wd} {H : Hp} {S : Store}
theorem lsN_rel {d : D} {x : V} {ds : List D} (rl : Rl G ρ S H) (rv : RV G ρ H d x) (h : lsN S d = some ds) : ∃ a xs, x = .ref a ∧ H a = some (.lst xs) ∧ RVs G ρ H ds xs := by
  cases rv with
  | lv n ht hr => cases h; exact ⟨_, _, rfl, ht, hr⟩
  | @ref i a hi =>
    unfold lsN at h
    cases q : S.get i with
    | none => simp only [q] at h; cases h
    | some o =>
      cases o with
      | lst es =>
        simp only [q] at h
        cases h
        obtain ⟨u, h1, h2⟩ := rl.at hi q
        cases h2 with
        | lst r => exact ⟨a, _, rfl, h1, r⟩
      | _ => simp only [q] at h; cases h
  | _ => cases h
theorem ops_catR : OpS G X W (binaryOp .Add) catR := by
  intro pins s σ H x y v u Q ρ S d1 d2 I rx ry rl r1 r2 p
  unfold catR at p
  cases q1 : lsN S d1 with
  | none => simp only [q1] at p; exact p.elim
  | some a =>
    cases q2 : lsN S d2 with
    | none => simp only [q1, q2] at p; exact p.elim
    | some b =>
      simp only [q1, q2] at p
      by_cases hl : a.length + b.length ≤ lim
      · rw [if_pos hl] at p
        obtain ⟨a1, xs, rfl, h1, k1⟩ := lsN_rel rl r1 q1
        obtain ⟨a2, ys, rfl, h2, k2⟩ := lsN_rel rl r2 q2
        refine op_cat pins s σ H _ _ v u Q I rx ry ⟨a1, a2, xs, ys, rfl, rfl, h1, h2, by rw [← k1.length, ← k2.length]; exact lim_le hl, fun z hz => ?_⟩
        exact p (ρ.push z) _ _ (Le.push hz) (rl.push hz (.lst (k1.append k2))) (RV.new rl)
      · rw [if_neg hl] at p
        exact p.elim
end
/-! ### exceptions by the head's facts -/
/-- the class C's __init__ sets f -/
structure XInit (P : Program) (w : World) (K : Fg) (mg : Str → Option Value) (base : Heap) (C f : Str) : Prop where
  ex : ∃ fd ps, FnOk P w K mg base (L2.CX P w) 1 (He.ma K (He.ga K C) "__init__") fd ps (spX K f) ∧ Binds K fd ps []
section
variable {L : Lw} {K : Fg} {c : L.Says K} {X : Cx} {W : WX} {C f : Str}
theorem clsv_of (c : L.Says K) (ci : Nat) (h : L.xcl[ci]? = some C) : (L.gx K c).clsv ci = some (.ref (He.ga K C)) := by
  show (L.xcl[ci]?).map (fun C => Value.ref (He.ga K C)) = _
  rw [h]
  rfl
theorem noat_of (c : L.Says K) (i : Nat) (h : L.fa[i]? = some (.noat C f)) : PySem.W.findIn K (.ref (He.ga K C)) f = some none := He.eqO_ok (c.fact i h)
theorem ss_raiseL {e : Expr} {m : ME} {p pos pos2 : Pos} (ci fi i1 i2 i3 : Nat) (cc : Cc (L.gx K c) X W) (NS : Ns K X.mg) (hx : L.xcl[ci]? = some C) (h1 : L.fa[i1]? = some (.oex C)) (h2 : L.fa[i2]? = some (.noat C f)) (h3 : L.fa[i3]? = some (.glo C)) (hf : fldOf L.flds fi = f)
    (F : XInit X.prog X.w K X.mg X.base C f) (hr : Room 2 X.A) (hg : Gl X C) (he : SE (L.gx K c) X W e m)
    (hdb : (C == ("__debug__" : Str)) = false := by decide) (hs : starEach [e] X.env = (false, eval e X.env) :: starEach [] X.env := by rfl) (hpl : (backTo pos (starEach [] X.env)).any (·.1) = false := by rfl) :
    SS (L.gx K c) X W (.Raise (some (.Call (.Name C p) [e] [] pos)) none pos2) (sRaise ci fi m) := by
  have hk : X.K = K := cc.k
  subst hf
  obtain ⟨fd, ps, F, hb⟩ := F.ex
  have t1 : XC X.K (He.ga K C) (He.ma K (He.ga K C) "__init__") := by rw [hk]; exact xc_of c i1 h1
  have t2 : PySem.W.findIn X.K (.ref (He.ga K C)) (fldOf L.flds fi) = some none := by rw [hk]; exact noat_of c i2 h2
  have t3 : FnOk X.prog X.w X.K X.mg X.base (L2.CX X.prog X.w) 1 (He.ma K (He.ga K C) "__init__") fd ps (spX X.K (fldOf L.flds fi)) := by rw [hk]; exact F
  exact ss_raise (G := L.gx K c) (k := 1) cc t1 (clsv_of c ci hx) t2 t3 hr (by rw [hk]; exact hb) hg (NS.glo c i3 h3) he hdb hs hpl
theorem sx_fL {j : Nat} {n : Str} {np pos : Pos} (ci fi i1 i2 : Nat) (hk : X.K = K) (hx : L.xcl[ci]? = some C) (h1 : L.fa[i1]? = some (.oex C)) (h2 : L.fa[i2]? = some (.noat C f)) (hf : fldOf L.flds fi = f) (hN : X.N[j]? = some n) (hv : Vis X.env.scope n)
    (hb : attributeBase (.Name n np) f X.env (eval (.Name n np) X.env) = eval (.Name n np) X.env := by rfl) (hd : (n == ("__debug__" : Str)) = false := by decide) (hcd : (n == ("__classdict__" : Str)) = false := by decide) :
    SX (L.gx K c) X (some j) (.Attribute (.Name n np) f pos) (xF ci fi) := by
  subst hf
  have t1 : XfC X.K (He.ga K C) := by rw [hk]; exact (xc_of c i1 h1).x
  have t2 : PySem.W.findIn X.K (.ref (He.ga K C)) (fldOf L.flds fi) = some none := by rw [hk]; exact noat_of c i2 h2
  exact sx_f (G := L.gx K c) (f := fi) t1 (clsv_of c ci hx) t2 hN hv hb hd hcd
def Fm.exq (A B : Str) : Fm → Option Bool
  | .exm A2 B2 b => if A2 = A ∧ B2 = B then some b else none
  | _ => none
def Lw.isx (L : Lw) (i j : Nat) : Option Bool := match L.xcl[i]?, L.xcl[j]? with
  | some A, some B => L.fa.findSome? (Fm.exq A B)
  | _, _ => none
theorem isx_ok (c : L.Says K) : ∀ c1 c2 b v1 v2, L.isx c1 c2 = some b → (L.gx K c).clsv c1 = some v1 → (L.gx K c).clsv c2 = some v2 → PySem.W.exmOne (L.gx K c).K v1 v2 = some b := by
  intro c1 c2 b v1 v2 h h1 h2
  unfold Lw.isx at h
  cases q1 : L.xcl[c1]? with
  | none => rw [q1] at h; cases h
  | some A =>
    cases q2 : L.xcl[c2]? with
    | none => rw [q1, q2] at h; cases h
    | some B =>
      simp only [q1, q2] at h
      rw [clsv_of c c1 q1] at h1
      rw [clsv_of c c2 q2] at h2
      cases h1
      cases h2
      obtain ⟨fm, hm, hq⟩ := List.exists_of_findSome?_eq_some h
      cases fm with
      | exm A2 B2 b2 =>
        have hq : (if A2 = A ∧ B2 = B then some b2 else none) = some b := hq
        by_cases z : A2 = A ∧ B2 = B
        · rw [if_pos z] at hq
          cases hq
          obtain ⟨rfl, rfl⟩ := z
          have k : (Fm.exm A2 B2 b).ok K = true := List.all_eq_true.mp (ba c.all).1 _ hm
          exact of_decide_eq_true k
        · rw [if_neg z] at hq
          cases hq
      | _ => cases hq
def isxTab (T : List (Nat × Nat × Bool)) (i j : Nat) : Option Bool := (T.find? fun q => q.1 == i && q.2.1 == j).map (·.2.2)
theorem isxTab_ok (c : L.Says K) {T : List (Nat × Nat × Bool)} (h : (T.all fun q => L.isx q.1 q.2.1 == some q.2.2) = true) :
    ∀ c1 c2 b v1 v2, isxTab T c1 c2 = some b → (L.gx K c).clsv c1 = some v1 → (L.gx K c).clsv c2 = some v2 → PySem.W.exmOne (L.gx K c).K v1 v2 = some b := by
  intro c1 c2 b v1 v2 e
  unfold isxTab at e
  cases q : T.find? fun q => q.1 == c1 && q.2.1 == c2 with
  | none => rw [q] at e; cases e
  | some z =>
    rw [q] at e
    have hb : z.2.2 = b := by simpa using e
    have hz := List.find?_some q
    obtain ⟨e1, e2⟩ := ba hz
    have k := eq_of_beq (List.all_eq_true.mp h z (List.mem_of_find?_eq_some q))
    rw [eq_of_beq e1, eq_of_beq e2, hb] at k
    exact isx_ok c c1 c2 b v1 v2 k
theorem lenS {g : FN} {k : Nat} (c : L.Says K) (ci i : Nat) (hc : L.cls[ci]? = some C) (h : L.fa[i]? = some (.un C "__len__")) (F : Cal (L.gx K c) X.prog X.w X.mg X.base k (He.ma K (He.ga K C) "__len__") g) (hr : Room (k + 1) X.A) (e : X.K = K := by rfl) : LenS (L.gx K c) X ci g := by
  obtain ⟨h1, h2⟩ := fnAt_ok (c.fact i h)
  exact ⟨_, _, k, cls_of c ci hc, by rw [e]; exact h1, by rw [e]; exact h2, by rw [e]; exact F, hr⟩
end
end L2.Mi

set_option Elab.async false
set_option linter.all false
set_option maxRecDepth 100000
set_option maxHeartbeats 1000000
/-! Mini, 29: loops over lists that stand, turn by turn. -/
namespace L2.Mi
open PySem
def forL (g : MG) (b : MS) : List D → MS
  | [] => fun σ S => .nx σ S
  | d :: ds => fun σ S => match g d σ S with
    | .ok σ1 S1 => (match b σ1 S1 with
      | .nx σ2 S2 => forL g b ds σ2 S2
      | .ct σ2 S2 => forL g b ds σ2 S2
      | .bk σ2 S2 => .nx σ2 S2
      | r => r)
    | _ => .bad
theorem forL_nil {g : MG} {b : MS} {σ : En} {S : Store} : forL g b [] σ S = .nx σ S := (rfl)
theorem forL_cons {g : MG} {b : MS} {d : D} {ds : List D} {σ : En} {S : Store} : forL g b (d :: ds) σ S = (match g d σ S with
    | .ok σ1 S1 => (match b σ1 S1 with
      | .nx σ2 S2 => forL g b ds σ2 S2
      | .ct σ2 S2 => forL g b ds σ2 S2
      | .bk σ2 S2 => .nx σ2 S2
      | r => r)
    | _ => .bad) := (rfl)
theorem forGo_list {src : Src} {g : MG} {b : MS} {ds : List D} (h : ∀ k S, src k S = some ds[k]?) : ∀ (n k : Nat) (σ : En) (S : Store), ds.length < n + k → k ≤ ds.length → forGo src g b n k σ S = forL g b (ds.drop k) σ S
  | 0, k, σ, S, h1, h2 => absurd h1 (by omega)
  | n + 1, k, σ, S, h1, h2 => by
    unfold forGo
    rw [h k S]
    by_cases hk : k < ds.length
    · rw [List.getElem?_eq_getElem hk, List.drop_eq_getElem_cons hk, forL_cons]
      simp only
      cases g ds[k] σ S with
      | ok σ1 S1 =>
        simp only
        cases b σ1 S1 with
        | nx σ2 S2 => exact forGo_list h n (k + 1) σ2 S2 (by omega) (by omega)
        | ct σ2 S2 => exact forGo_list h n (k + 1) σ2 S2 (by omega) (by omega)
        | _ => rfl
      | _ => rfl
    · rw [List.getElem?_eq_none (by omega), List.drop_eq_nil_of_le (by omega)]
      rfl
/-- a value's items -/
def itsD : D → Option (List D)
  | .tup ds => some ds
  | .kt ds => some ds
  | .lv ds => some ds
  | .fl ds => some ds
  | _ => none
theorem src_its {m : ME} {σ : En} {S S1 : Store} {d : D} {ds : List D} (ha : m σ S = .ok d S1) (hd : itsD d = some ds) : ∃ src, iSeq m σ S = .ok src S1 ∧ ∀ k S, src k S = some ds[k]? := by
  unfold iSeq
  rw [ha, bind_ok']
  cases d <;> cases hd <;> exact ⟨_, rfl, fun k S => rfl⟩
theorem sFor_seq {m : ME} {g : MG} {b : MS} {n : Nat} {σ : En} {S S1 : Store} {d : D} {ds : List D} (ha : m σ S = .ok d S1) (hd : itsD d = some ds) (hn : ds.length < n) : sFor (iSeq m) g b n σ S = forL g b ds σ S1 := by
  obtain ⟨src, e, h⟩ := src_its ha hd
  unfold sFor
  rw [e]
  exact forGo_list h n 0 σ S1 (by omega) (by omega)
def ups (i : Int) (n : Nat) : List D := (List.range n).map fun (k : Nat) => D.int (i + (k : Int))
theorem ups_len {i : Int} {n : Nat} : (ups i n).length = n := by unfold ups; simp
theorem ups_get {i : Int} {n k : Nat} : (if k < n then some (D.int (i + (k : Int))) else none) = (ups i n)[k]? := by
  unfold ups
  rw [List.getElem?_map]
  by_cases h : k < n
  · rw [if_pos h, List.getElem?_range h]; rfl
  · rw [if_neg h, List.getElem?_eq_none (by simpa using h)]; rfl
theorem i62_of {j : Int} (h0 : -1000000 < j) (h1 : j < 1000000) : i62 j = true := by
  unfold i62
  rw [Bool.and_eq_true, decide_eq_true_eq, decide_eq_true_eq]
  constructor <;> omega
theorem src_r1 {a : ME} {σ : En} {S S1 : Store} {j : Int} (ha : a σ S = .ok (.int j) S1) (h0 : -1000000 < j) (h1 : j < 1000000) : ∃ src, iRange1 a σ S = .ok src S1 ∧ ∀ k S, src k S = some (ups 0 j.toNat)[k]? := by
  unfold iRange1
  rw [ha, bind_ok']
  simp only [i62_of h0 h1, if_true]
  exact ⟨_, rfl, fun k S => by rw [← ups_get]⟩
theorem src_r2 {a b : ME} {σ : En} {S S1 S2 : Store} {i j : Int} (ha : a σ S = .ok (.int i) S1) (hb : b σ S1 = .ok (.int j) S2) (i0 : -1000000 < i) (i1 : i < 1000000) (h0 : -1000000 < j) (h1 : j < 1000000) : ∃ src, iRange2 a b σ S = .ok src S2 ∧ ∀ k S, src k S = some (ups i (j - i).toNat)[k]? := by
  unfold iRange2
  simp only [aList_cons, aList_nil, ha, hb, bind_ok', i62_of h0 h1, i62_of i0 i1, Bool.and_self, if_true]
  exact ⟨_, rfl, fun k S => by rw [← ups_get]⟩
theorem sFor_r1 {a : ME} {g : MG} {b : MS} {n : Nat} {σ : En} {S S1 : Store} {j : Int} (ha : a σ S = .ok (.int j) S1) (h0 : -1000000 < j) (h1 : j < 1000000) (hn : j.toNat < n) : sFor (iRange1 a) g b n σ S = forL g b (ups 0 j.toNat) σ S1 := by
  obtain ⟨src, e, h⟩ := src_r1 ha h0 h1
  unfold sFor
  rw [e]
  exact forGo_list h n 0 σ S1 (by rw [ups_len]; omega) (by omega)
theorem sFor_r2 {a c : ME} {g : MG} {b : MS} {n : Nat} {σ : En} {S S1 S2 : Store} {i j : Int} (ha : a σ S = .ok (.int i) S1) (hb : c σ S1 = .ok (.int j) S2) (i0 : -1000000 < i) (i1 : i < 1000000) (h0 : -1000000 < j) (h1 : j < 1000000) (hn : (j - i).toNat < n) :
    sFor (iRange2 a c) g b n σ S = forL g b (ups i (j - i).toNat) σ S2 := by
  obtain ⟨src, e, h⟩ := src_r2 ha hb i0 i1 h0 h1
  unfold sFor
  rw [e]
  exact forGo_list h n 0 σ S2 (by rw [ups_len]; omega) (by omega)
/-! ### comprehensions that leave the store alone -/
theorem lcGo_list {src : Src} {t : TgN} {mt : MT} {me : ME} {σ : En} {S : Store} {ds : List D} {p : D → Bool} {f : D → D} (h : ∀ k S, src k S = some ds[k]?)
    (hb : ∀ d ∈ ds, ∃ σ2, t.put d σ = some σ2 ∧ mt σ2 S = .ok (p d) S ∧ (p d = true → me σ2 S = .ok (f d) S)) (hl : ds.length < 900000) :
    ∀ (n k : Nat) (acc : List D), ds.length < n + k → k ≤ ds.length → acc.length ≤ k → lcGo src t mt me σ n k acc S = .ok (acc ++ ((ds.drop k).filter p).map f) S
  | 0, k, acc, h1, h2, _ => absurd h1 (by omega)
  | n + 1, k, acc, h1, h2, h3 => by
    unfold lcGo
    rw [h k S]
    by_cases hk : k < ds.length
    · rw [List.getElem?_eq_getElem hk, List.drop_eq_getElem_cons hk]
      obtain ⟨σ2, e1, e2, e3⟩ := hb ds[k] (List.getElem_mem hk)
      simp only [e1, e2]
      cases hp : p ds[k] with
      | false =>
        simp only [hp]
        rw [lcGo_list h hb hl n (k + 1) acc (by omega) (by omega) (by omega), List.filter_cons_of_neg (by rw [hp]; simp)]
      | true =>
        simp only [hp, e3 hp]
        rw [if_pos (by unfold lim; omega), lcGo_list h hb hl n (k + 1) _ (by omega) (by omega) (by simp; omega), List.filter_cons_of_pos hp]
        simp
    · rw [List.getElem?_eq_none (by omega), List.drop_eq_nil_of_le (by omega)]
      simp
theorem eLcV_list {mi : MI} {src : Src} {t : TgN} {mt : MT} {me : ME} {vs : List Nat} {n : Nat} {σ : En} {S S1 : Store} {ds : List D} (p : D → Bool) (f : D → D) (hi : mi σ S = .ok src S1) (h : ∀ k S, src k S = some ds[k]?)
    (hb : ∀ d ∈ ds, ∃ σ2, t.put d (wipeD σ vs) = some σ2 ∧ mt σ2 S1 = .ok (p d) S1 ∧ (p d = true → me σ2 S1 = .ok (f d) S1)) (hl : ds.length < 900000) (hn : ds.length < n) :
    eLcV mi t mt me vs n σ S = .ok (.lv ((ds.filter p).map f)) S1 := by
  unfold eLcV
  rw [hi, bind_ok', lcGo_list h hb hl n 0 [] (by omega) (by omega) (by simp), bind_ok']
  simp
end L2.Mi

set_option Elab.async false
set_option linter.all false
set_option maxRecDepth 100000
set_option maxHeartbeats 1000000
/-! Mini, 30: a call that takes and gives plain values is run over an empty store. -/
namespace L2.Mi
open PySem
mutual
def noRef : D → Bool
  | .ref _ => false
  | .tup ds => noRefs ds
  | .kt ds => noRefs ds
  | .lv ds => noRefs ds
  | .fl ds => noRefs ds
  | .dv _ _ => false
  | .non => true
  | .bl _ => true
  | .int _ => true
  | .str _ => true
  | .ty _ => true
  | .cl _ => true
  | .fn _ => true
def noRefs : List D → Bool
  | [] => true
  | d :: ds => noRef d && noRefs ds
end
def noRefF : List (Nat × D) → Bool
  | [] => true
  | q :: r => noRef q.2 && noRefF r
section
variable {G : Gx} {ρ ρ2 : Wd} {H : Hp}
mutual
theorem RV.other (h : ∀ a, ρ.no a → ρ2.no a) : ∀ {d : D} {v : V}, noRef d = true → RV G ρ H d v → RV G ρ2 H d v
  | _, _, _, .non => .non
  | _, _, _, .bl b => .bl b
  | _, _, _, .int i => .int i
  | _, _, _, .str x => .str x
  | _, _, _, .ty n => .ty n
  | _, _, _, .cl q => .cl q
  | _, _, _, .fn q => .fn q
  | _, _, z, .ref _ => nomatch z
  | _, _, z, .tup q r => .tup q (RVs.other h (by simpa [noRef] using z) r)
  | _, _, z, .fl q r => .fl q (RVs.other h (by simpa [noRef] using z) r)
  | _, _, z, .kt q r => .kt q (RVs.other h (by simpa [noRef] using z) r)
  | _, _, z, .lv n q r => .lv (h _ n) q (RVs.other h (by simpa [noRef] using z) r)
  | _, _, z, .dvK _ _ _ => by simp [noRef] at z
  | _, _, z, .dvT _ _ _ => by simp [noRef] at z
theorem RVs.other (h : ∀ a, ρ.no a → ρ2.no a) : ∀ {ds : List D} {vs : List V}, noRefs ds = true → RVs G ρ H ds vs → RVs G ρ2 H ds vs
  | _, _, _, .nil => .nil
  | _, _, z, .cons r t => by
    simp only [noRefs, Bool.and_eq_true] at z
    exact .cons (RV.other h z.1 r) (RVs.other h z.2 t)
end
theorem RFs.other (h : ∀ a, ρ.no a → ρ2.no a) : ∀ {fs : List (Nat × D)} {us : List (Str × V)}, noRefF fs = true → RFs G ρ H fs us → RFs G ρ2 H fs us
  | _, _, _, .nil => .nil
  | _, _, z, .cons r t => by
    simp only [noRefF, Bool.and_eq_true] at z
    exact .cons (r.other h z.1) (RFs.other h z.2 t)
/-- all that stands is hidden -/
def Wd.all (ρ : Wd) : Wd := ⟨[], ρ.v ++ ρ.h⟩
theorem Wd.all_no {a : Addr} (h : ρ.no a) : ρ.all.no a := ⟨by simp [Wd.all], by simp [Wd.all, h.1, h.2]⟩
theorem Wd.no_all {a : Addr} (h : a ∉ ρ.v ++ ρ.h) : ρ.no a := by
  simp only [List.mem_append, not_or] at h
  exact h
theorem Rl.some {S : Store} (r : Rl G ρ S H) {a : Addr} (h : a ∈ ρ.v) : SmO (H a) := by
  obtain ⟨i, hl, e⟩ := List.getElem_of_mem h
  obtain ⟨o, ho⟩ := Store.all (S := S) i (by rw [← r.len]; exact hl)
  obtain ⟨b, u, h1, h2, h3⟩ := r.ob i o ho
  rw [List.getElem?_eq_getElem hl, e] at h1
  cases h1
  rw [h2]
  exact h3.ntb
theorem Rl.all {S : Store} (r : Rl G ρ S H) : Rl G ρ.all ⟨[]⟩ H := by
  refine ⟨rfl, List.nodup_nil, fun a ha => ⟨by simp [Wd.all], ?_⟩, fun i o h => (nomatch (show (none : Option Ob) = Option.some o from h)), r.tb⟩
  rcases List.mem_append.mp ha with h | h
  · exact r.some h
  · exact (r.hh a h).2
theorem Le.back {H2 : Hp} {ρ1 : Wd} (l : Le G ρ.all H ρ1 H2) : Le G ρ H ρ H2 := by
  refine ⟨List.prefix_refl _, rfl, l.tk, fun a xs n h => l.kl a xs (Wd.all_no n) h, fun a u n k h => l.kp a u (Wd.all_no n) k h, fun a n h => ⟨n, (l.ni a (Wd.all_no n) h).2⟩, fun a ha h => l.kh a ?_ h, l.kz⟩
  exact List.mem_append_right _ ha
theorem Rl.back {S S1 : Store} {H2 : Hp} {ρ1 : Wd} (r : Rl G ρ S H) (l : Le G ρ.all H ρ1 H2) (r1 : Rl G ρ1 S1 H2) : Rl G ρ S H2 := by
  have lb := l.back
  refine ⟨r.len, r.nd, fun a ha => ⟨(r.hh a ha).1, by rw [lb.kh a ha (r.hh a ha).2.ne]; exact (r.hh a ha).2⟩, fun i o e => ?_, r1.tb⟩
  obtain ⟨a, u, h1, h2, h3⟩ := r.ob i o e
  refine ⟨a, u, h1, ?_, h3.mono lb⟩
  rw [l.kh a (List.mem_append_left _ (List.mem_of_getElem? h1)) (by rw [h2]; simp)]
  exact h2
theorem no_back {H2 : Hp} {ρ1 : Wd} (l : Le G ρ.all H ρ1 H2) : ∀ a, ρ1.no a → ρ.no a := fun a h => Wd.no_all (by have := h.2; rw [l.hid] at this; exact this)
end
def pureF (m : FN) : FN := fun xs S => if noRefs xs then (match m xs ⟨[]⟩ with
  | .ok d _ => if noRef d then .ok d S else .bad
  | .exc x _ => if noRefF x.fs then .exc x S else .bad
  | .bad => .bad) else .bad
theorem fns_pure {G : Gx} {X : Cx} {W : WX} {F : Value} {m : FN} (h : FnS G X W F m) : FnS G X W F (pureF m) := by
  intro pins s σ H xs us Q ρ S ds I r rl rv p
  unfold pureF at p
  by_cases hn : noRefs ds = true
  · rw [if_pos hn] at p
    refine h pins s σ H xs us Q ρ.all ⟨[]⟩ ds I r rl.all (rv.other (fun a => Wd.all_no) hn) ?_
    cases q : m ds ⟨[]⟩ with
    | bad => rw [q] at p; exact p
    | ok d S1 =>
      rw [q] at p
      intro ρ1 H1 v l1 rl1 rv1
      by_cases hd : noRef d = true
      · simp only [hd, if_true] at p
        exact p ρ H1 v l1.back (rl.back l1 rl1) (rv1.other (no_back l1) hd)
      · simp only [hd] at p
        exact p.elim
    | exc x S1 =>
      rw [q] at p
      intro ρ1 H1 cls dd l1 rl1 rx
      by_cases hd : noRefF x.fs = true
      · simp only [hd, if_true] at p
        refine p ρ H1 cls dd l1.back (rl.back l1 rl1) ⟨rx.cls, ?_⟩
        rcases rx.fs with z | ⟨d2, us2, z1, z2, z3⟩
        · exact .inl z
        · exact .inr ⟨d2, us2, z1, z2, z3.other (no_back l1) hd⟩
      · simp only [hd] at p
        exact p.elim
  · rw [if_neg hn] at p
    exact p.elim
end L2.Mi

set_option Elab.async false
set_option linter.all false
set_option maxRecDepth 100000
set_option maxHeartbeats 1000000
/-! Mini, 31: texts: joined, sign by sign, int and str. -/
namespace L2.Mi
open PySem PySem.Spec PyProof.Rows
def isStr (d : D) (_ : Store) : Bool := match d with | .str _ => true | _ => false
section
variable {G : Gx} {X : Cx} {W : WX}
theorem ck_str : ∀ ρ S H d x, Rl G ρ S H → RV G ρ H d x → isStr d S = true → tyV X.K "str" x H := fun ρ S H d x rl rv h => by
  cases rv <;> first | rfl | cases h
def strsD : List D → Option (List (List Nat))
  | [] => some []
  | .str x :: ds => (strsD ds).map (x :: ·)
  | _ :: _ => none
theorem strs_rel {ρ : Wd} {H : Hp} : ∀ {ds : List D} {vs : List V} {ys : List (List Nat)}, RVs G ρ H ds vs → strsD ds = some ys → vs = (ys.map fun y => (⟨y.toArray⟩ : Str)).map V.str
  | _, _, _, .nil, h => by cases h; rfl
  | _, _, ys, .cons (d := d) (ds := ds) r t, h => by
    cases r with
    | str x =>
      unfold strsD at h
      cases q : strsD ds with
      | none => rw [q] at h; cases h
      | some zs =>
        rw [q] at h
        cases h
        simp [strs_rel t q]
    | _ => cases h
def totL (ys : List (List Nat)) : Nat := (ys.map List.length).sum
def joinF : D → List D → Store → Res D := fun o xs S => match o, xs with
  | .str a, [l] => (match seqD S l with
    | some ds => (match strsD ds with
      | some ys => if totL ys + ys.length * a.length ≤ 1000000 then .ok (.str (TL.joinL a ys)) S else .bad
      | none => .bad)
    | none => .bad)
  | _, _ => .bad
theorem mts_join (cc : Cc G X W) : MtS G X W "str.join" joinF := MtS.of mt_join fun ρ S H d ds x xs Q E rl r1 r2 p => by
  unfold joinF at p
  cases r1 with
  | str a =>
    match ds, r2, p with
    | [l], .cons r .nil, p =>
      cases q : seqD S l with
      | none => simp only [q] at p; exact p.elim
      | some es =>
        simp only [q] at p
        cases q2 : strsD es with
        | none => simp only [q2] at p; exact p.elim
        | some ys =>
          simp only [q2] at p
          by_cases hl : totL ys + ys.length * a.length ≤ 1000000
          · rw [if_pos hl] at p
            obtain ⟨b, vs, rfl, sq, rs⟩ := seqD_rel rl r q
            have e := strs_rel rs q2
            subst e
            refine ⟨⟨a.toArray⟩, b, ys.map fun y => (⟨y.toArray⟩ : Str), rfl, rfl, by rw [cc.k]; exact sq, ?_, ?_⟩
            · have e1 : ((ys.map fun y => (⟨y.toArray⟩ : Str)).map (·.length)).sum = totL ys := by
                unfold totL
                rw [List.map_map]
                exact congrArg List.sum (List.map_congr_left fun y _ => by simp [Str.length])
              rw [e1, List.length_map]
              have e2 : (⟨a.toArray⟩ : Str).length = a.length := by simp [Str.length]
              rw [e2]
              omega
            · have z := SX.join_S a ys
              have z2 : Txt.join (⟨a.toArray⟩ : Str) (ys.map fun y => (⟨y.toArray⟩ : Str)) = ⟨(TL.joinL a ys).toArray⟩ := z
              rw [z2]
              exact post_ok p rl (.str _)
          · rw [if_neg hl] at p
            exact p.elim
    | [], _, p => exact p.elim
    | _ :: _ :: _, _, p => exact p.elim
  | _ => exact p.elim
/-! ### sign by sign -/
def iTxt (m : ME) : MI := fun σ S => (m σ S).bind fun d S1 => match d with
  | .str l => .ok (fun k _ => some ((l[k]?).map fun c => .str [c])) S1
  | _ => .bad
theorem jr_txt {ρ0 : Wd} {H0 : Hp} {l : List Nat} : JR G ρ0 H0 (fun k _ => some ((l[k]?).map fun c => D.str [c])) (Its ⟨l.toArray⟩) := by
  intro ρ S H lm kz rl i
  refine ⟨fun e h => ?_, fun h => ?_⟩
  · have h : some ((l[i]?).map fun c => D.str [c]) = some (some e) := h
    cases q : l[i]? with
    | none => rw [q] at h; cases h
    | some c =>
      rw [q] at h
      cases h
      refine ⟨?_, fun y H' hy => ?_⟩
      · obtain ⟨h1, _⟩ := List.getElem?_eq_some_iff.mp q
        show i < l.toArray.size
        simpa using h1
      · obtain ⟨e2, c2, h1, h2⟩ := hy
        subst e2 h2
        have h3 : l[i]? = some c2 := by simpa using h1
        rw [q] at h3
        cases h3
        exact ⟨Le.refl, rl, .str [c]⟩
  · have h : some ((l[i]?).map fun c => D.str [c]) = some none := h
    cases q : l[i]? with
    | some c => rw [q] at h; cases h
    | none =>
      show l.toArray.size ≤ i
      simpa using List.getElem?_eq_none_iff.mp q
theorem si_txt {e tg : Expr} {m : ME} (h : SE G X W e m) : SI G X W tg e (iTxt m) := by
  refine si_of (pi_str h) fun σ H R ρ σs S rl re p => ?_
  refine ⟨ρ, σs, S, rl, re, PostR.bind (R := RV G) (r := m σs S) p fun ρ1 H1 S1 d x l1 rl1 rv1 p1 => ?_⟩
  cases rv1 with
  | str l => exact ⟨_, rfl, p1 ρ1 H1 _ Le.refl rl1 jr_txt⟩
  | _ => exact p1.elim
/-! ### int and str -/
def intT : FN := fun xs S => match xs with
  | [.str l] => (match PySem.intText? ⟨l.toArray⟩ with | some n => if l.length ≤ 640 then .ok (.int n) S else .bad | none => .bad)
  | _ => .bad
theorem fns_intT : FnS G X W (.type "int") intT := FnS.of call_int_str fun ρ S H ds xs Q E rl r p => by
  unfold intT at p
  match ds, r, p with
  | [.str l], .cons (.str _) .nil, p =>
    cases q : PySem.intText? ⟨l.toArray⟩ with
    | none => simp only [q] at p; exact p.elim
    | some n =>
      simp only [q] at p
      by_cases hl : l.length ≤ 640
      · rw [if_pos hl] at p
        exact ⟨_, n, rfl, q, by simpa [Str.length] using hl, post_ok p rl (.int n)⟩
      · rw [if_neg hl] at p
        exact p.elim
def strI : FN := fun xs S => match xs with
  | [.int i] => if i.natAbs.log2 < 1920 then .ok (.str ((toString i : String) : Str).cps.toList) S else .bad
  | _ => .bad
theorem fns_strI : FnS G X W (.type "str") strI := FnS.of call_str_int fun ρ S H ds xs Q E rl r p => by
  unfold strI at p
  match ds, r, p with
  | [.int i], .cons (.int _) .nil, p =>
    by_cases hl : i.natAbs.log2 < 1920
    · simp only [hl, if_true] at p
      exact ⟨i, rfl, hl, post_ok p rl (rv_str _)⟩
    · simp only [hl] at p
      exact p.elim
end
end L2.Mi

set_option Elab.async false
set_option linter.all false
set_option maxRecDepth 100000
set_option maxHeartbeats 1000000
/-! Mini, 32: dicts whose keys are numbers and texts. -/
namespace L2.Mi
open PySem PySem.Spec PyProof.Rows
/-! ### alternatives of statements -/
def orS (a b : RS) : RS := match a with | .bad => b | r => r
def sOr2 (a b : MS) : MS := fun σ S => orS (a σ S) (b σ S)
theorem ss_or2 {G : Gx} {X : Cx} {W : WX} {st : Stmt} {a b : MS} (h1 : SS G X W st a) (h2 : SS G X W st b) : SS G X W st (sOr2 a b) := ⟨fun pins s σ H D I ⟨ρ, σs, S, rl, re, p⟩ => by
  unfold sOr2 orS at p
  cases q : a σs S with
  | bad => rw [q] at p; exact h2.run pins s σ H D I ⟨ρ, σs, S, rl, re, p⟩
  | _ => rw [q] at p; exact h1.run pins s σ H D I ⟨ρ, σs, S, rl, re, by rw [q]; exact p⟩⟩
/-! ### keys -/
def eqKD : D → D → Bool
  | .int i, .int j => i == j
  | .str x, .str y => x == y
  | _, _ => false
def valD (kvs : List (D × D)) (k : D) : Option D := (kvs.find? fun q => eqKD q.1 k).map (·.2)
def putD (kvs : List (D × D)) (k v : D) : List (D × D) := if (kvs.any fun q => eqKD q.1 k) = true then kvs.map (fun q => if eqKD q.1 k then (q.1, v) else q) else kvs ++ [(k, v)]
theorem eqKD_key {d e : D} {k j : Key} (h1 : keyD d = some k) (h2 : keyD e = some j) : eqKD d e = decide (k = j) := by
  cases d with
  | int a =>
    cases h1
    cases e with
    | int b => cases h2; by_cases h : a = b <;> simp [eqKD, h]
    | str y => cases h2; rfl
    | _ => cases h2
  | str x =>
    cases h1
    cases e with
    | int b => cases h2; rfl
    | str y =>
      cases h2
      by_cases h : x = y
      · subst h; simp [eqKD]
      · have n1 : (x == y) = false := beq_eq_false_iff_ne.mpr h
        show (x == y) = _
        rw [n1]
        symm
        refine decide_eq_false fun z => h ?_
        have z2 := congrArg (fun s : Str => s.cps.toList) (Sum.inr.inj z)
        simpa using z2
    | _ => cases h2
  | _ => cases h1
section
variable {G : Gx} {ρ : Wd} {H : Hp}
theorem valD_rel {d : D} {k : Key} (hk : keyD d = some k) : ∀ {kvs : List (D × D)} {kus : List (Key × V)}, RKs G ρ H kvs kus → (∀ v, valD kvs d = some v → ∃ u, valV kus k = some u ∧ RV G ρ H v u) ∧ (valD kvs d = none → valV kus k = none)
  | _, _, .nil => ⟨(fun v h => nomatch h), fun _ => rfl⟩
  | _, _, @RKs.cons _ _ _ e f j u kvs kus h r t => by
    have ih := valD_rel hk t
    have eq := eqKD_key h hk
    unfold valD valV at ih ⊢
    by_cases z : j = k
    · have e1 : eqKD e d = true := by rw [eq]; exact decide_eq_true z
      simp only [List.find?_cons, e1, decide_eq_true z, Option.map_some, Option.some.injEq]
      exact ⟨fun v hv => ⟨u, rfl, hv ▸ r⟩, fun hv => nomatch hv⟩
    · have e1 : eqKD e d = false := by rw [eq]; exact decide_eq_false z
      simp only [List.find?_cons, e1, decide_eq_false z]
      exact ih
theorem any_rel {d : D} {k : Key} (hk : keyD d = some k) : ∀ {kvs : List (D × D)} {kus : List (Key × V)}, RKs G ρ H kvs kus → (kvs.any fun q => eqKD q.1 d) = kus.any fun q => decide (q.1 = k)
  | _, _, .nil => rfl
  | _, _, .cons h r t => by
    rw [List.any_cons, List.any_cons, any_rel hk t, eqKD_key h hk]
theorem RKs.append : ∀ {a b : List (D × D)} {x y : List (Key × V)}, RKs G ρ H a x → RKs G ρ H b y → RKs G ρ H (a ++ b) (x ++ y)
  | _, _, _, _, .nil, r => r
  | _, _, _, _, .cons h r t, s => .cons h r (RKs.append t s)
theorem RKs.len : ∀ {a : List (D × D)} {x : List (Key × V)}, RKs G ρ H a x → a.length = x.length
  | _, _, .nil => rfl
  | _, _, .cons _ _ t => by simp [RKs.len t]
theorem map_rel {d v : D} {u : V} {k : Key} (hk : keyD d = some k) (hv : RV G ρ H v u) : ∀ {kvs : List (D × D)} {kus : List (Key × V)}, RKs G ρ H kvs kus → RKs G ρ H (kvs.map fun q => if eqKD q.1 d then (q.1, v) else q) (kus.map fun q => if q.1 = k then (q.1, u) else q)
  | _, _, .nil => .nil
  | _, _, @RKs.cons _ _ _ e f j w kvs kus h r t => by
    have eq := eqKD_key h hk
    rw [List.map_cons, List.map_cons]
    by_cases z : j = k
    · have e1 : eqKD e d = true := by rw [eq]; exact decide_eq_true z
      simp only [e1, z, if_true]
      exact .cons (z ▸ h) hv (map_rel hk hv t)
    · have e1 : eqKD e d = false := by rw [eq]; exact decide_eq_false z
      simp only [e1, z, if_false, Bool.false_eq_true]
      exact .cons h r (map_rel hk hv t)
theorem putD_rel {d v : D} {u : V} {k : Key} (hk : keyD d = some k) (hv : RV G ρ H v u) {kvs : List (D × D)} {kus : List (Key × V)} (r : RKs G ρ H kvs kus) : RKs G ρ H (putD kvs d v) (putK kus k u) := by
  unfold putD putK
  rw [any_rel hk r]
  by_cases h : (kus.any fun q => decide (q.1 = k)) = true
  · rw [if_pos h, if_pos h]
    exact map_rel hk hv r
  · rw [if_neg h, if_neg h]
    exact r.append (.cons hk hv .nil)
theorem key_rel {d : D} {x : V} {k : Key} (hk : keyD d = some k) (r : RV G ρ H d x) : x = kV k := by
  cases r with
  | int i => cases hk; rfl
  | str y => cases hk; rfl
  | _ => cases hk
end
/-! ### dicts of the store -/
def dicK (S : Store) : D → Option (List (D × D))
  | .ref a => (match S.get a with | some (.dic false kvs) => some kvs | _ => none)
  | _ => none
section
variable {G : Gx} {ρ : Wd} {H : Hp} {S : Store} {X : Cx} {W : WX} {o e f i value : Expr} {mo me mf mv : ME} {pos pos' apos cpos : Pos}
theorem dicK_rel {d : D} {x : V} {kvs : List (D × D)} (rl : Rl G ρ S H) (rv : RV G ρ H d x) (h : dicK S d = some kvs) : ∃ n a kus, d = .ref n ∧ x = .ref a ∧ ρ.v[n]? = some a ∧ S.get n = some (.dic false kvs) ∧ H a = some (.dK kus) ∧ RKs G ρ H kvs kus := by
  cases rv with
  | @ref n a hi =>
    unfold dicK at h
    cases q : S.get n with
    | none => simp only [q] at h; cases h
    | some ob =>
      cases ob with
      | dic t ks =>
        cases t with
        | true => simp only [q] at h; cases h
        | false =>
          simp only [q] at h
          cases h
          obtain ⟨u, h1, h2⟩ := rl.at hi q
          cases h2 with
          | dK r => exact ⟨n, a, _, rfl, rfl, hi, q, h1, r⟩
      | _ => simp only [q] at h; cases h
  | _ => cases h
/-- {} -/
def eDnew : ME := fun _ S => .ok (.ref S.size) (S.push (.dic false []))
theorem se_dnew : SE G X W (.Dict [] [] pos) eDnew := se_of pe_dnewK fun σ H Q ρ σs S rl re p a ha => p (ρ.push a) _ _ (Le.push ha) (rl.push ha (.dK .nil)) (RV.new rl)
/-- d[k] -/
def dgetF : D → D → Store → Res D := fun x y S => match dicK S x, keyD y with
  | some kvs, some _ => (match valD kvs y with | some v => .ok v S | none => .bad)
  | _, _ => .bad
theorem se_dget (hu : X.A.units + 64 < cLine) (ho : SE G X W o mo) (hi : SE G X W i me) (hs : NoSl i := by intro _ _; rfl) : SE G X W (.Subscript o i pos) (eBin dgetF mo me) := by
  refine se_of (pe_dget (by omega) ho hi hs) fun σ H Q ρ σs S rl re p => ?_
  refine ⟨ρ, σs, S, rl, re, PostR.bind (R := RV G) (r := mo σs S) p fun ρ1 H1 S1 d x l1 rl1 rv1 p1 => ?_⟩
  refine ⟨ρ1, σs, S1, rl1, re.mono l1, PostR.bind (R := RV G) (r := me σs S1) p1 fun ρ2 H2 S2 y z l2 rl2 rv2 p2 => ?_⟩
  unfold dgetF at p2
  cases q1 : dicK S2 d with
  | none => simp only [q1] at p2; exact p2.elim
  | some kvs =>
    cases q2 : keyD y with
    | none => simp only [q1, q2] at p2; exact p2.elim
    | some k =>
      simp only [q1, q2] at p2
      obtain ⟨n, a, kus, rfl, rfl, _, _, h1, h2⟩ := dicK_rel rl2 (rv1.mono l2) q1
      cases q3 : valD kvs y with
      | none => simp only [q3] at p2; exact p2.elim
      | some v =>
        simp only [q3] at p2
        obtain ⟨u, e1, e2⟩ := (valD_rel q2 h2).1 v q3
        refine ⟨a, u, rfl, ?_, post_ok p2 rl2 e2⟩
        rw [key_rel q2 rv2, ← e1]
        exact DGet.k h1
/-- d.get(k, z) -/
def eDget2 (mo me mf : ME) : ME := fun σ S => (mo σ S).bind fun x S1 => match dicK S1 x with
  | some _ => (me σ S1).bind fun y S2 => (mf σ S2).bind fun z S3 => (match dicK S3 x, keyD y with
    | some kvs, some _ => .ok ((valD kvs y).getD z) S3
    | _, _ => .bad)
  | none => .bad
theorem se_dget2 (hu : X.A.units + 64 < cLine) (ho : SE G X W o mo) (he : SE G X W e me) (hf : SE G X W f mf) (m : M2 X o "get" apos e f cpos := by exact ⟨rfl, rfl, rfl, rfl⟩) : SE G X W (.Call (.Attribute o "get" apos) [e, f] [] cpos) (eDget2 mo me mf) := by
  refine se_of (pe_dget2 (by omega) ho he hf m) fun σ H Q ρ σs S rl re p => ?_
  refine ⟨ρ, σs, S, rl, re, PostR.bind (R := RV G) (r := mo σs S) p fun ρ1 H1 S1 d x l1 rl1 rv1 p1 => ?_⟩
  cases q0 : dicK S1 d with
  | none => simp only [q0] at p1; exact p1.elim
  | some kv0 =>
    simp only [q0] at p1
    obtain ⟨n, a, ku0, rfl, rfl, hn, _, g1, _⟩ := dicK_rel rl1 rv1 q0
    refine ⟨a, rfl, .inl ⟨ku0, .inl g1⟩, ρ1, σs, S1, rl1, re.mono l1, PostR.bind (R := RV G) (r := me σs S1) p1 fun ρ2 H2 S2 y z l2 rl2 rv2 p2 => ?_⟩
    refine ⟨ρ2, σs, S2, rl2, (re.mono l1).mono l2, PostR.bind (R := RV G) (r := mf σs S2) p2 fun ρ3 H3 S3 c w l3 rl3 rv3 p3 => ?_⟩
    cases q1 : dicK S3 (.ref n) with
    | none => simp only [q1] at p3; exact p3.elim
    | some kvs =>
      cases q2 : keyD y with
      | none => simp only [q1, q2] at p3; exact p3.elim
      | some k =>
        simp only [q1, q2] at p3
        obtain ⟨n2, a2, kus, e1, e2, _, _, h1, h2⟩ := dicK_rel rl3 ((rv1.mono l2).mono l3) q1
        cases e1
        cases e2
        refine ⟨valV kus k, by rw [key_rel q2 (rv2.mono l3)]; exact DGet.k h1, ?_⟩
        obtain ⟨v1, v2⟩ := valD_rel q2 h2
        cases q3 : valD kvs y with
        | none =>
          rw [q3] at p3
          rw [v2 q3]
          exact post_ok p3 rl3 rv3
        | some v =>
          rw [q3] at p3
          obtain ⟨u, e3, e4⟩ := v1 v q3
          rw [e3]
          exact post_ok p3 rl3 e4
/-- d.setdefault(k, z) -/
def eDsetd (mo me mf : ME) : ME := fun σ S => (mo σ S).bind fun x S1 => match dicK S1 x, x with
  | some _, .ref n => (me σ S1).bind fun y S2 => (mf σ S2).bind fun z S3 => (match dicK S3 x, keyD y with
    | some kvs, some _ => if kvs.length < lim then (match valD kvs y with | some v => .ok v S3 | none => .ok z (S3.set n (.dic false (putD kvs y z)))) else .bad
    | _, _ => .bad)
  | _, _ => .bad
theorem se_dsetd (ho : SE G X W o mo) (he : SE G X W e me) (hf : SE G X W f mf) (m : M2 X o "setdefault" apos e f cpos := by exact ⟨rfl, rfl, rfl, rfl⟩) : SE G X W (.Call (.Attribute o "setdefault" apos) [e, f] [] cpos) (eDsetd mo me mf) := by
  refine se_of (pe_dsetd ho he hf m) fun σ H Q ρ σs S rl re p => ?_
  refine ⟨ρ, σs, S, rl, re, PostR.bind (R := RV G) (r := mo σs S) p fun ρ1 H1 S1 d x l1 rl1 rv1 p1 => ?_⟩
  cases q0 : dicK S1 d with
  | none => simp only [q0] at p1; exact p1.elim
  | some kv0 =>
    obtain ⟨n, a, ku0, rfl, rfl, hn, _, g1, _⟩ := dicK_rel rl1 rv1 q0
    simp only [q0] at p1
    refine ⟨a, rfl, .inl ⟨ku0, .inl g1⟩, ρ1, σs, S1, rl1, re.mono l1, PostR.bind (R := RV G) (r := me σs S1) p1 fun ρ2 H2 S2 y z l2 rl2 rv2 p2 => ?_⟩
    refine ⟨ρ2, σs, S2, rl2, (re.mono l1).mono l2, PostR.bind (R := RV G) (r := mf σs S2) p2 fun ρ3 H3 S3 c w l3 rl3 rv3 p3 => ?_⟩
    cases q1 : dicK S3 (.ref n) with
    | none => simp only [q1] at p3; exact p3.elim
    | some kvs =>
      cases q2 : keyD y with
      | none => simp only [q1, q2] at p3; exact p3.elim
      | some k =>
        simp only [q1, q2] at p3
        by_cases hl : kvs.length < lim
        · rw [if_pos hl] at p3
          obtain ⟨n2, a2, kus, e1, e2, hn2, g2, h1, h2⟩ := dicK_rel rl3 ((rv1.mono l2).mono l3) q1
          cases e1
          cases e2
          obtain ⟨v1, v2⟩ := valD_rel q2 h2
          refine ⟨kus, k, h1, key_rel q2 (rv2.mono l3), by rw [← h2.len]; exact lim_lt hl, fun u hu => ?_, fun hu => ?_⟩
          · cases q3 : valD kvs y with
            | none => rw [v2 q3] at hu; cases hu
            | some v =>
              simp only [q3] at p3
              obtain ⟨u2, e3, e4⟩ := v1 v q3
              rw [hu] at e3
              cases e3
              exact post_ok p3 rl3 e4
          · cases q3 : valD kvs y with
            | some v =>
              obtain ⟨u2, e3, _⟩ := v1 v q3
              rw [hu] at e3
              cases e3
            | none =>
              simp only [q3] at p3
              exact p3 ρ3 _ _ (rl3.leUpd hn2 h1 trivial) (rl3.set hn2 g2 h1 trivial (.dK (putD_rel q2 rv3 h2))) (rv3.mono (rl3.leUpd hn2 h1 trivial))
        · rw [if_neg hl] at p3
          exact p3.elim
/-- d[k] = v -/
def sDput (mo me mv : ME) : MS := fun σ S => match (mv σ S).bind fun v S1 => (mo σ S1).bind fun x S2 => (me σ S2).bind fun y S3 => (match x, dicK S3 x, keyD y with
    | .ref n, some kvs, some _ => if kvs.length < lim then Res.ok () (S3.set n (.dic false (putD kvs y v))) else .bad
    | _, _, _ => .bad) with
  | .ok _ S4 => .nx σ S4
  | .exc x S4 => .exc x σ S4
  | .bad => .bad
end
end L2.Mi

set_option Elab.async false
set_option linter.all false
set_option maxRecDepth 100000
set_option maxHeartbeats 1000000
/-! Mini, 33: d[k] = v. -/
namespace L2.Mi
open PySem PySem.Spec PyProof.Rows
section
variable {G : Gx} {X : Cx} {W : WX} {o i value : Expr} {mo me mv : ME} {pos pos' : Pos}
theorem ss_dput (hu : X.A.units + 64 < cLine) (ho : SE G X W o mo) (hi : SE G X W i me) (hv : SE G X W value mv) (hs : swapsWith value (some (.Subscript o i pos')) pos.line X.env = pure false := by rfl) :
    SS G X W (.Assign [.Subscript o i pos'] value pos) (sDput mo me mv) := by
  refine PS.weak (ps_dput (by omega) ho hi hv hs) fun Dn σ H ⟨ρ, σs, S, rl, re, p⟩ => ?_
  have p0 : PostR (α := Unit) (β := Unit) G (fun _ _ _ _ => True) ρ H ((mv σs S).bind fun v S1 => (mo σs S1).bind fun x S2 => (me σs S2).bind fun y S3 => (match x, dicK S3 x, keyD y with
    | .ref n, some kvs, some _ => if kvs.length < lim then Res.ok () (S3.set n (.dic false (putD kvs y v))) else .bad
    | _, _, _ => .bad)) (fun _ H' => Dn.nx σ H') (EW W σ) := by
    unfold sDput at p
    revert p
    generalize ((mv σs S).bind fun v S1 => (mo σs S1).bind fun x S2 => (me σs S2).bind fun y S3 => (match x, dicK S3 x, keyD y with
      | .ref n, some kvs, some _ => if kvs.length < lim then Res.ok () (S3.set n (.dic false (putD kvs y v))) else .bad
      | _, _, _ => .bad)) = r
    intro p
    cases r with
    | ok x S3 => exact fun ρ1 H1 _ l1 rl1 _ => p ρ1 H1 σ l1 rl1 (re.mono l1)
    | exc x S3 => exact fun ρ1 H1 c dd l1 rl1 rx => p ρ1 H1 σ c dd l1 rl1 (re.mono l1) rx
    | bad => exact p.elim
  refine ⟨ρ, σs, S, rl, re, PostR.bind (R := RV G) p0 fun ρ1 H1 S1 v y l1 rl1 rv1 p1 => ?_⟩
  refine ⟨ρ1, σs, S1, rl1, re.mono l1, PostR.bind (R := RV G) p1 fun ρ2 H2 S2 d x l2 rl2 rv2 p2 => ?_⟩
  refine ⟨ρ2, σs, S2, rl2, (re.mono l1).mono l2, PostR.bind (R := RV G) p2 fun ρ3 H3 S3 c w l3 rl3 rv3 p3 => ?_⟩
  cases q1 : dicK S3 d with
  | none => cases d <;> simp only [q1] at p3 <;> exact p3.elim
  | some kvs =>
    obtain ⟨n, a, kus, rfl, rfl, hn, g2, h1, h2⟩ := dicK_rel rl3 (rv2.mono l3) q1
    cases q2 : keyD c with
    | none => simp only [q1, q2] at p3; exact p3.elim
    | some k =>
      simp only [q1, q2] at p3
      by_cases hl : kvs.length < lim
      · rw [if_pos hl] at p3
        refine ⟨a, upd H3 a (.dK (putK kus k y)), rfl, ?_, ?_⟩
        · rw [key_rel q2 rv3]
          exact DPut.k h1 (by rw [← h2.len]; exact lim_lt hl)
        · exact p3 ρ3 _ () (rl3.leUpd hn h1 trivial) (rl3.set hn g2 h1 trivial (.dK (putD_rel q2 ((rv1.mono l2).mono l3) h2))) trivial
      · rw [if_neg hl] at p3
        exact p3.elim
end
end L2.Mi

set_option Elab.async false
set_option linter.all false
set_option maxRecDepth 100000
set_option maxHeartbeats 1000000
/-! Mini, 34: self.f += n, self.f -= n. -/
namespace L2.Mi
open PySem PySem.Spec PyProof.Rows
/-- what stands in the field, a number -/
def fldInt (ok : Nat → Bool) (fi : Nat) (o : D) (S : Store) : Option (Nat × Nat × Int) := match o with
  | .ref n => (match S.get n with
    | some (.ins c fs) => if ok c then (match fs.lookup fi with | some (.int a) => some (n, c, a) | _ => none) else none
    | _ => none)
  | _ => none
def fldPut (fi n c : Nat) (v : D) (S : Store) : Option Store := match S.get n with
  | some (.ins c2 fs) => if c2 = c ∧ fs.length < 900 then some (S.set n (.ins c (putN fi v fs))) else none
  | _ => none
def augR (g : Int → Int → Int) (ok : Nat → Bool) (fi : Nat) (mo mv : ME) (σ : En) (S : Store) : Res Unit := (mo σ S).bind fun x S1 => match fldInt ok fi x S1 with
  | some (n, c, a) => (mv σ S1).bind fun y S2 => (match y with
    | .int b => (match fldPut fi n c (.int (g a b)) S2 with | some S3 => .ok () S3 | none => .bad)
    | _ => .bad)
  | none => .bad
def sFaug (g : Int → Int → Int) (ok : Nat → Bool) (fi : Nat) (mo mv : ME) : MS := fun σ S => match augR g ok fi mo mv σ S with
  | .ok _ S4 => .nx σ S4
  | .exc x S4 => .exc x σ S4
  | .bad => .bad
section
variable {G : Gx} {X : Cx} {W : WX} {o value : Expr} {mo mv : ME} {pos tpos : Pos} {name : Str}
theorem ss_faug {op : Operator} {g : Int → Int → Int} {rd : V → V → Hp → VK → Prop} {ok : Nat → Bool} {fi : Nat} (hop : InOp X op rd) (hrd : ∀ a b H Q, Q (.int (g a b)) H → rd (.int a) (.int b) H Q) (ho : SE G X W o mo) (hv : SE G X W value mv) (hf : G.fld fi = name)
    (hok : ∀ c, ok c = true → FieldS G X name c) : SS G X W (.AugAssign (.Attribute o name tpos) op value pos) (sFaug g ok fi mo mv) := by
  refine PS.weak (ps_fldaug ho hv hop) fun Dn σ H ⟨ρ, σs, S, rl, re, p⟩ => ?_
  have p0 : PostR (α := Unit) (β := Unit) G (fun _ _ _ _ => True) ρ H (augR g ok fi mo mv σs S) (fun _ H' => Dn.nx σ H') (EW W σ) := by
    unfold sFaug at p
    revert p
    generalize augR g ok fi mo mv σs S = r
    intro p
    cases r with
    | ok x S3 => exact fun ρ1 H1 _ l1 rl1 _ => p ρ1 H1 σ l1 rl1 (re.mono l1)
    | exc x S3 => exact fun ρ1 H1 c dd l1 rl1 rx => p ρ1 H1 σ c dd l1 rl1 (re.mono l1) rx
    | bad => exact p.elim
  unfold augR at p0
  refine ⟨ρ, σs, S, rl, re, PostR.bind (R := RV G) p0 fun ρ1 H1 S1 d x l1 rl1 rv1 p1 => ?_⟩
  cases q : fldInt ok fi d S1 with
  | none => simp only [q] at p1; exact p1.elim
  | some t =>
    obtain ⟨n, c, a⟩ := t
    simp only [q] at p1
    cases rv1 with
    | @ref m ad hi =>
      unfold fldInt at q
      cases q1 : S1.get m with
      | none => simp only [q1] at q; cases q
      | some ob =>
        cases ob with
        | ins c1 fs =>
          simp only [q1] at q
          by_cases hk : ok c1 = true
          · rw [if_pos hk] at q
            cases q2 : fs.lookup fi with
            | none => simp only [q2] at q; cases q
            | some v =>
              cases v with
              | int a1 =>
                simp only [q2] at q
                cases q
                obtain ⟨u, hu, ro⟩ := rl1.at hi q1
                cases ro with
                | @ins _ C dx _ us hC hfs =>
                  obtain ⟨C2, hC2, hcl, hna⟩ := (hok c hk).ex
                  rw [hC] at hC2
                  cases hC2
                  obtain ⟨w, hw, rw'⟩ := rfs_look hfs q2
                  cases rw'
                  refine ⟨ad, C, dx, us, .int a, rfl, hu, hcl, hna, by rw [← hf]; exact hw, ρ1, σs, S1, rl1, re.mono l1, PostR.bind (R := RV G) p1 fun ρ2 H2 S2 y z l2 rl2 rv2 p2 => ?_⟩
                  cases rv2 with
                  | int b =>
                    simp only at p2
                    refine hrd a b H2 _ ?_
                    cases q3 : fldPut fi n c (.int (g a b)) S2 with
                    | none => simp only [q3] at p2; exact p2.elim
                    | some S3 =>
                      simp only [q3] at p2
                      unfold fldPut at q3
                      have hi2 := pre_get l2.pre hi
                      cases q4 : S2.get n with
                      | none => simp only [q4] at q3; cases q3
                      | some ob2 =>
                        cases ob2 with
                        | ins c2 fs2 =>
                          simp only [q4] at q3
                          by_cases hc : c2 = c ∧ fs2.length < 900
                          · rw [if_pos hc] at q3
                            obtain ⟨rfl, hl⟩ := hc
                            cases q3
                            obtain ⟨u2, hu2, ro2⟩ := rl2.at hi2 q4
                            cases ro2 with
                            | @ins _ C3 dx2 _ us2 hC3 hfs2 =>
                              rw [hC] at hC3
                              cases hC3
                              refine ⟨dx2, us2, hu2, by rw [← hfs2.length]; omega, ?_⟩
                              rw [← hf]
                              exact p2 ρ2 _ () (rl2.leUpd hi2 hu2 trivial) (rl2.set hi2 q4 hu2 trivial (.ins hC (putN_rel (.int _) hfs2))) trivial
                          · rw [if_neg hc] at q3
                            cases q3
                        | _ => simp only [q4] at q3; cases q3
                  | _ => exact p2.elim
              | _ => simp only [q2] at q; cases q
          · rw [if_neg hk] at q
            cases q
        | _ => simp only [q1] at q; cases q
    | _ => cases q
theorem ss_faugA {ok : Nat → Bool} {fi : Nat} (ho : SE G X W o mo) (hv : SE G X W value mv) (hf : G.fld fi = name) (hok : ∀ c, ok c = true → FieldS G X name c) : SS G X W (.AugAssign (.Attribute o name tpos) .Add value pos) (sFaug (· + ·) ok fi mo mv) :=
  ss_faug in_add (fun a b H Q q => ⟨a, b, rfl, rfl, q⟩) ho hv hf hok
theorem ss_faugM {ok : Nat → Bool} {fi : Nat} (ho : SE G X W o mo) (hv : SE G X W value mv) (hf : G.fld fi = name) (hok : ∀ c, ok c = true → FieldS G X name c) : SS G X W (.AugAssign (.Attribute o name tpos) .Sub value pos) (sFaug (· - ·) ok fi mo mv) :=
  ss_faug in_sub (fun a b H Q q => ⟨a, b, rfl, rfl, q⟩) ho hv hf hok
end
end L2.Mi

set_option Elab.async false
set_option linter.all false
set_option maxRecDepth 100000
set_option maxHeartbeats 1000000
/-! Mini, 35: a dict is locked while an expression reads it. -/
namespace L2.Mi
open PySem PySem.Spec PyProof.Rows
def eLock (i : Nat) (m : ME) : ME := fun σ S => match σ[i]? with
  | some (some (.ref n)) => (match S.get n with
    | some (.dic t kvs) => (match m σ (S.set n (.lck (.dic t kvs))) with
      | .ok d S1 => .ok d (S1.set n (.dic t kvs))
      | _ => .bad)
    | _ => .bad)
  | _ => .bad
theorem dic_ho {G : Gx} {ρ : Wd} {H : Hp} {t : Bool} {kvs : List (D × D)} {u : HO} (h : RO G ρ H (.dic t kvs) u) : NoT u ∧ Mut (some u) ∧ ∀ o, ¬ IsT (.frz o u) := by
  cases h with
  | dK _ => exact ⟨trivial, trivial, fun _ z => z⟩
  | dT _ => exact ⟨trivial, trivial, fun _ z => z⟩
section
variable {G : Gx} {ρ ρ1 : Wd} {H H1 : Hp} {S S1 : Store} {n : Nat} {a : Addr} {u : HO} {od : Obj}
theorem unlock_le (rl : Rl G ρ S H) (hi : ρ.v[n]? = some a) (hu : H a = some u) (nt : NoT u) (l : Le G ρ (L2.upd H a (.frz od u)) ρ1 H1) : Le G ρ H ρ1 (L2.upd H1 a u) := by
  have am : a ∈ ρ.v := List.mem_of_getElem? hi
  have nb : ∀ b, ρ.no b → b ≠ a := fun b h z => h.1 (by rw [z]; exact am)
  refine ⟨l.pre, l.hid, fun b w t h => ?_, fun b xs nn h => ?_, fun b w nn k h => ?_, fun b nn h => ?_, fun b hb h => ?_, fun b o w h => ?_⟩
  · have ne : b ≠ a := fun z => by
      rw [z, hu] at h
      cases h
      exact nt.no t
    rw [upd_ne ne]
    exact l.tk b w t (by rw [upd_ne ne]; exact h)
  · rw [upd_ne (nb b nn)]
    exact l.kl b xs nn (by rw [upd_ne (nb b nn)]; exact h)
  · have h2 : Rd (L2.upd H a (.frz od u)) b w := by
      rcases h with h | ⟨o, h⟩
      · exact .inl (by rw [upd_ne (nb b nn)]; exact h)
      · exact .inr ⟨o, by rw [upd_ne (nb b nn)]; exact h⟩
    rcases l.kp b w nn k h2 with h | ⟨o, h⟩
    · exact .inl (by rw [upd_ne (nb b nn)]; exact h)
    · exact .inr ⟨o, by rw [upd_ne (nb b nn)]; exact h⟩
  · have z := l.ni b nn (by rw [upd_ne (nb b nn)]; exact h)
    exact ⟨z.1, by rw [upd_ne (nb b nn)]; exact z.2⟩
  · have ne : b ≠ a := fun z => rl.nh hi (by rw [← z]; exact hb)
    rw [upd_ne ne]
    have z := l.kh b hb (by rw [upd_ne ne]; exact h)
    rw [upd_ne ne] at z
    exact z
  · have ne : b ≠ a := fun z => by
      rw [z, hu] at h
      cases h
      exact nt
    rw [upd_ne ne]
    exact l.kz b o w (by rw [upd_ne ne]; exact h)
theorem unlock_rl {o : Ob} (r1 : Rl G ρ1 S1 H1) (hi : ρ1.v[n]? = some a) (h1 : H1 a = some (.frz od u)) (it : ¬ IsT (.frz od u)) (ro : RO G ρ1 (L2.upd H1 a u) o u) : Rl G ρ1 (S1.set n o) (L2.upd H1 a u) := by
  have am : a ∈ ρ1.v := List.mem_of_getElem? hi
  have nb : ∀ b, ρ1.no b → b ≠ a := fun b h z => h.1 (by rw [z]; exact am)
  have mv : Mv G ρ1 H1 ρ1 (L2.upd H1 a u) := ⟨fun _ _ h => h, fun b w t h => by
      rw [upd_ne (show b ≠ a from fun z => by rw [z, h1] at h; cases h; exact it t)]
      exact h, fun b xs nn h => ⟨nn, by rw [upd_ne (nb b nn)]; exact h⟩, fun b w nn k h => ⟨nn, by
      rcases h with h | ⟨q, h⟩
      · exact .inl (by rw [upd_ne (nb b nn)]; exact h)
      · exact .inr ⟨q, by rw [upd_ne (nb b nn)]; exact h⟩⟩⟩
  refine ⟨by rw [Store.size_set]; exact r1.len, r1.nd, fun b hb => ⟨(r1.hh b hb).1, ?_⟩, fun j ob e => ?_, tabs_upd r1.tb h1 (fun z => z)⟩
  · rw [upd_ne (show b ≠ a from fun z => r1.nh hi (by rw [← z]; exact hb))]
    exact (r1.hh b hb).2
  · by_cases hj : n = j
    · subst hj
      have hl : n < S1.size := by rw [← r1.len]; exact (List.getElem?_eq_some_iff.mp hi).1
      rw [Store.get_set_same hl] at e
      cases e
      exact ⟨a, u, hi, upd_same, ro⟩
    · rw [Store.get_set_ne hj] at e
      obtain ⟨b, w, k1, k2, k3⟩ := r1.ob j ob e
      exact ⟨b, w, k1, by rw [upd_ne (show b ≠ a from fun z => hj (nd_get r1.nd hi (by rw [← z]; exact k1)))]; exact k2, k3.move mv⟩
end
theorem se_lock {G : Gx} {X : Cx} {W : WX} {e : Expr} {m : ME} (i : Nat) (h : SE G X W e m) : SE G X W e (eLock i m) := by
  refine se_of (pe_lock h) fun σ H Q ρ σs S rl re p => ?_
  unfold eLock at p
  cases q1 : σs[i]? with
  | none => simp only [q1] at p; exact p.elim
  | some o1 =>
    cases o1 with
    | none => simp only [q1] at p; exact p.elim
    | some d =>
      cases d with
      | ref n =>
        simp only [q1] at p
        cases q2 : S.get n with
        | none => simp only [q2] at p; exact p.elim
        | some ob =>
          cases ob with
          | dic t kvs =>
            simp only [q2] at p
            obtain ⟨v, _, rv⟩ := re.get i _ q1
            cases rv with
            | @ref _ a hi =>
              obtain ⟨u, hu, ro⟩ := rl.at hi q2
              obtain ⟨nt, mu, it⟩ := dic_ho ro
              refine ⟨a, u, hu, mu, fun od => ⟨ρ, σs, S.set n (.lck (.dic t kvs)), rl.set hi q2 hu nt (.lck ro), re.mono (rl.leUpd hi hu nt), ?_⟩⟩
              cases q3 : m σs (S.set n (.lck (.dic t kvs))) with
              | exc x S1 => rw [q3] at p; exact p.elim
              | bad => rw [q3] at p; exact p.elim
              | ok d S1 =>
                rw [q3] at p
                intro ρ1 H1 w l1 rl1 rv1
                have k1 : H1 a = some (.frz od u) := l1.kz a od u upd_same
                have le := unlock_le rl hi hu nt l1
                have hi1 := pre_get l1.pre hi
                refine ⟨k1, p ρ1 (L2.upd H1 a u) w le (unlock_rl rl1 hi1 k1 (it od) (ro.mono le)) ?_⟩
                refine rv1.move ⟨fun _ _ h => h, fun b x t h => ?_, fun b xs nn h => ⟨nn, ?_⟩, fun b x nn k h => ⟨nn, ?_⟩⟩
                · rw [upd_ne (show b ≠ a from fun z => by rw [z, k1] at h; cases h; exact it od t)]
                  exact h
                · rw [upd_ne (show b ≠ a from fun z => nn.1 (by rw [z]; exact List.mem_of_getElem? hi1))]
                  exact h
                · have ne : b ≠ a := fun z => nn.1 (by rw [z]; exact List.mem_of_getElem? hi1)
                  rcases h with h | ⟨q, h⟩
                  · exact .inl (by rw [upd_ne ne]; exact h)
                  · exact .inr ⟨q, by rw [upd_ne ne]; exact h⟩
          | _ => simp only [q2] at p; exact p.elim
      | _ => simp only [q1] at p; exact p.elim
end L2.Mi

set_option Elab.async false
set_option linter.all false
set_option maxRecDepth 100000
set_option maxHeartbeats 1000000
/-! Mini, 36: for k in d, the dict locked. -/
namespace L2.Mi
open PySem PySem.Spec PyProof.Rows
def iKy (m : ME) : MI := fun σ S => (m σ S).bind fun d S1 => match d with
  | .ref n => (match S1.get n with
    | some (.lck (.dic false kvs)) => .ok (fun k _ => some ((kvs[k]?).map (·.1))) S1
    | _ => .bad)
  | _ => .bad
section
variable {G : Gx} {X : Cx} {W : WX} {e tg : Expr} {m : ME}
theorem RKs.get {ρ : Wd} {H : Hp} : ∀ {kvs : List (D × D)} {kus : List (Key × V)} {i : Nat} {q : D × D}, RKs G ρ H kvs kus → kvs[i]? = some q → ∃ k v, kus[i]? = some (k, v) ∧ keyD q.1 = some k
  | _, _, _, _, .nil, h => by simp at h
  | _, _, 0, _, .cons (k := k) (v := v) h r t, q => by simp at q; subst q; exact ⟨k, v, rfl, h⟩
  | _, _, i + 1, q, .cons h r t, z => by
    obtain ⟨k, v, h1, h2⟩ := RKs.get (i := i) (q := q) t (by simpa using z)
    exact ⟨k, v, by simpa using h1, h2⟩
theorem rv_key {ρ : Wd} {H : Hp} {d : D} {k : Key} (h : keyD d = some k) : RV G ρ H d (kV k) := by
  cases d with
  | int i => cases h; exact .int i
  | str x => cases h; exact .str x
  | _ => cases h
theorem si_ky (h : SE G X W e m) : SI G X W tg e (iKy m) := by
  refine si_of (pi_keys h) fun σ H R ρ σs S rl re p => ?_
  refine ⟨ρ, σs, S, rl, re, PostR.bind (R := RV G) (r := m σs S) p fun ρ1 H1 S1 d x l1 rl1 rv1 p1 => ?_⟩
  cases rv1 with
  | @ref n a hi =>
    cases q : S1.get n with
    | none => simp only [q] at p1; exact p1.elim
    | some ob =>
      cases ob with
      | lck o2 =>
        cases o2 with
        | dic t kvs =>
          cases t with
          | true => simp only [q] at p1; exact p1.elim
          | false =>
            simp only [q] at p1
            obtain ⟨u, hu, ro⟩ := rl1.at hi q
            cases ro with
            | @lck _ ob u2 ro =>
              cases ro with
              | @dK _ kus r =>
                refine ⟨a, ob, rfl, .inl ⟨kus, hu, p1 ρ1 H1 _ Le.refl rl1 ?_⟩⟩
                intro ρ2 S2 H2 mv kz rl2 i
                refine ⟨fun d hd => ?_, fun hd => ?_⟩
                · have hd : some ((kvs[i]?).map (·.1)) = some (some d) := hd
                  cases q3 : kvs[i]? with
                  | none => rw [q3] at hd; cases hd
                  | some z =>
                    rw [q3] at hd
                    cases hd
                    obtain ⟨k, v, h1, h2⟩ := RKs.get r q3
                    refine ⟨⟨kz a _ _ hu, (List.getElem?_eq_some_iff.mp h1).1⟩, fun y H3 hy => ?_⟩
                    obtain ⟨e1, k2, v2, h3, h4⟩ := hy
                    rw [h1] at h3
                    cases h3
                    subst e1 h4
                    exact ⟨Le.refl, rl2, rv_key h2⟩
                · have hd : some ((kvs[i]?).map (·.1)) = some none := hd
                  cases q3 : kvs[i]? with
                  | some z => rw [q3] at hd; cases hd
                  | none => exact ⟨kz a _ _ hu, by rw [← r.len]; exact List.getElem?_eq_none_iff.mp q3⟩
        | _ => simp only [q] at p1; exact p1.elim
      | _ => simp only [q] at p1; exact p1.elim
  | _ => exact p1.elim
end
end L2.Mi

set_option Elab.async false
set_option linter.all false
set_option maxRecDepth 100000
set_option maxHeartbeats 1000000
/-! Mini, 37: d[k] of a locked dict. -/
namespace L2.Mi
open PySem PySem.Spec PyProof.Rows
def dicL (S : Store) : D → Option (List (D × D))
  | .ref a => (match S.get a with | some (.lck (.dic false kvs)) => some kvs | _ => none)
  | _ => none
def dgetL : D → D → Store → Res D := fun x y S => match dicL S x, keyD y with
  | some kvs, some _ => (match valD kvs y with | some v => .ok v S | none => .bad)
  | _, _ => .bad
section
variable {G : Gx} {ρ : Wd} {H : Hp} {S : Store} {X : Cx} {W : WX} {o i : Expr} {mo me : ME} {pos : Pos}
theorem dicL_rel {d : D} {x : V} {kvs : List (D × D)} (rl : Rl G ρ S H) (rv : RV G ρ H d x) (h : dicL S d = some kvs) : ∃ a kus, x = .ref a ∧ Rd H a (.dK kus) ∧ RKs G ρ H kvs kus := by
  cases rv with
  | @ref n a hi =>
    have h : (match S.get n with | some (.lck (.dic false kvs)) => some kvs | _ => none) = some kvs := h
    cases q : S.get n with
    | none => rw [q] at h; cases h
    | some ob =>
      rw [q] at h
      cases ob with
      | lck o2 =>
        cases o2 with
        | dic t ks =>
          cases t with
          | true => cases h
          | false =>
            cases h
            obtain ⟨u, hu, ro⟩ := rl.at hi q
            cases ro with
            | @lck _ ob u2 ro =>
              cases ro with
              | dK r => exact ⟨a, _, rfl, .inr ⟨ob, hu⟩, r⟩
        | _ => cases h
      | _ => cases h
  | _ => cases h
theorem se_dgetL (hu : X.A.units + 64 < cLine) (ho : SE G X W o mo) (hi : SE G X W i me) (hs : NoSl i := by intro _ _; rfl) : SE G X W (.Subscript o i pos) (eBin dgetL mo me) := by
  refine se_of (pe_dget (by omega) ho hi hs) fun σ H Q ρ σs S rl re p => ?_
  refine ⟨ρ, σs, S, rl, re, PostR.bind (R := RV G) (r := mo σs S) p fun ρ1 H1 S1 d x l1 rl1 rv1 p1 => ?_⟩
  refine ⟨ρ1, σs, S1, rl1, re.mono l1, PostR.bind (R := RV G) (r := me σs S1) p1 fun ρ2 H2 S2 y z l2 rl2 rv2 p2 => ?_⟩
  unfold dgetL at p2
  cases q1 : dicL S2 d with
  | none => simp only [q1] at p2; exact p2.elim
  | some kvs =>
    cases q2 : keyD y with
    | none => simp only [q1, q2] at p2; exact p2.elim
    | some k =>
      simp only [q1, q2] at p2
      obtain ⟨a, kus, rfl, h1, h2⟩ := dicL_rel rl2 (rv1.mono l2) q1
      cases q3 : valD kvs y with
      | none => simp only [q3] at p2; exact p2.elim
      | some v =>
        simp only [q3] at p2
        obtain ⟨u, e1, e2⟩ := (valD_rel q2 h2).1 v q3
        exact ⟨a, u, rfl, .inl ⟨kus, k, h1, key_rel q2 rv2, e1.symm⟩, post_ok p2 rl2 e2⟩
end
end L2.Mi

set_option Elab.async false
set_option linter.all false
set_option maxRecDepth 100000
set_option maxHeartbeats 4000000
/-! Mini, 38: max(l, default=z). -/
namespace L2.Mi
open PySem PySem.Spec PyProof.Rows
section
variable {prog : Program} {w : World} {A : Around} {R : Result → Shared → Prop} {I : Addr} {fp wr : List Addr} {n : Nat} {P : Nat → Value → Prop} {St : Nat → Heap → Prop} {kw : List (Str × Value)}
theorem mx_name : (toString "max" ++ toString ".loop" : String) = "max.loop" := by decide
/-- the loop with an item at hand; the keywords go along -/
theorem mx_loop (W : Walks prog w A.in1 I fp wr n P St) (bt : Nat → Nat → Bool) (hcmp : CmpOf prog w A.in1 .Gt P bt) (S : Addr) (hSf : S ∉ fp) :
    ∀ (k j : Nat) (s : Shared) (vb : Value) (c : Nat), n = j + 1 + k → St (j + 1) s.heap → P (argBest bt j) vb →
    s.heap.get? S = some { cls := .type "list", dict := none, data := .seq #[vb, vb] c, slots := #[] } →
    (∀ v h' tk, P (argBest bt (n - 1)) v → (∀ b o, b ∉ wr → b ≠ S → s.heap.get? b = some o → h'.get? b = some o) → R (.ok (.ret v)) { s with heap := h', toks := tk }) →
    codeAny (model prog w) A (.builtin "max.loop" ⟨[.ref I, .none, .ref S], kw⟩) R s
  | 0, j, s, vb, c, hn, hst, hb, hS, hR => by
    have nw : S ∉ wr := fun z => hSf (W.sub _ z)
    obtain rfl : n = j + 1 := hn
    refine codeAny_builtin F.entry_max_loop ?_
    rw [Around.under_plainId F.plain_max_loop _]
    show wpAny _ A.in1 (seqItems? (.ref S) >>= _) _ _ s
    refine wpAny_bind (wpAny_seqItems hS rfl ?_)
    show wpAny _ A.in1 (tryCatch (pyNext (.ref I)) _ >>= _) _ _ s
    refine wpAny_bind (wpAny_tryCatch (W.done s _ _ hst fun h1 t1 k1 => ?_))
    have hS1 := k1 S _ nw hS
    show wpAny _ A.in1 (updateSeq S (fun _ => #[]) >>= _) _ _ _
    refine wpAny_bind (wpAny_updateSeq hS1 rfl (wpAny_bind (wpAny_letGo (wpAny_pure ?_))))
    exact hR vb _ t1 hb fun b o n1 n2 e => (Heap.get?_update_other _ _ (Ne.symm n2)).trans (k1 b o n1 e)
  | k + 1, j, s, vb, c, hn, hst, hb, hS, hR => by
    have nw : S ∉ wr := fun z => hSf (W.sub _ z)
    refine codeAny_builtin F.entry_max_loop ?_
    rw [Around.under_plainId F.plain_max_loop _]
    show wpAny _ A.in1 (seqItems? (.ref S) >>= _) _ _ s
    refine wpAny_bind (wpAny_seqItems hS rfl ?_)
    show wpAny _ A.in1 (tryCatch (pyNext (.ref I)) _ >>= _) _ _ s
    refine wpAny_bind (wpAny_tryCatch (W.item (j + 1) s _ _ (by omega) hst fun v h1 t1 hv st1 k1 => ?_))
    have hS1 := k1 S _ nw hS
    show wpAny _ A.in1 (tryCatch (holding [v, v] (richCompare .Gt v vb >>= _)) _ >>= _) _ _ _
    refine wpAny_bind (wpAny_tryCatch (wpAny_holding (wpAny_bind (hcmp (j + 1) (argBest bt j) v vb _ _ _ hv hb ?_))))
    refine wpAny_bind (wpAny_holding (wpAny_truthy_bool ?_))
    refine wpAny_bind (wpAny_letGo (wpAny_pure ?_))
    cases q : bt (j + 1) (argBest bt j) with
    | true =>
      simp only [if_true]
      refine wpAny_bind (wpAny_updateSeq hS1 rfl (wpAny_bind (wpAny_letGo ?_)))
      rw [mx_name]
      refine wpAny_pure ⟨plainId_quiet F.plain_max_loop _, mx_loop W bt hcmp S hSf k (j + 1) _ v _ (by omega) (W.frame _ _ _ st1 fun b m o e => ?_) (by simp only [argBest, q, if_true]; exact hv) (Heap.get?_update_self _ hS1 rfl) fun v2 h2 t2 p2 k2 => ?_⟩
      · exact (Heap.get?_update_other _ _ (show S ≠ b from fun z => hSf (by rw [z]; exact m))).trans e
      · exact hR v2 h2 t2 p2 fun b o n1 n2 e => k2 b o n1 n2 ((Heap.get?_update_other _ _ (Ne.symm n2)).trans (k1 b o n1 e))
    | false =>
      simp only [Bool.false_eq_true, if_false]
      refine wpAny_bind (wpAny_letGo ?_)
      rw [mx_name]
      refine wpAny_pure ⟨plainId_quiet F.plain_max_loop _, mx_loop W bt hcmp S hSf k (j + 1) _ vb _ (by omega) st1 (by simp only [argBest, q, Bool.false_eq_true, if_false]; exact hb) hS1 fun v2 h2 t2 p2 k2 => ?_⟩
      exact hR v2 h2 t2 p2 fun b o n1 n2 e => k2 b o n1 n2 (k1 b o n1 e)
theorem mx_args (x d : Value) : argsOk "max" ⟨[x], [("default", d)]⟩ := by unfold argsOk; kernel_rfl
theorem mx_bind (d : Value) : Builtin.Builtins.bindParams "max" ["key", "default"] 0 ⟨[], [("default", d)]⟩ = pure [none, some d] := by
  with_unfolding_all rfl
theorem mx_first (W : Walks prog w A.in1 I fp wr n P St) (bt : Nat → Nat → Bool) (hcmp : CmpOf prog w A.in1 .Gt P bt) (S : Addr) (hSf : S ∉ fp) (d : Value) {s : Shared} {c : Nat} (hst : St 0 s.heap)
    (hS : s.heap.get? S = some { cls := .type "list", dict := none, data := .seq #[] c, slots := #[] })
    (h0 : n = 0 → ∀ h' tk, (∀ b o, b ∉ wr → b ≠ S → s.heap.get? b = some o → h'.get? b = some o) → R (.ok (.ret d)) { s with heap := h', toks := tk })
    (h1 : 0 < n → ∀ v h' tk, P (argBest bt (n - 1)) v → (∀ b o, b ∉ wr → b ≠ S → s.heap.get? b = some o → h'.get? b = some o) → R (.ok (.ret v)) { s with heap := h', toks := tk }) :
    codeAny (model prog w) A (.builtin "max.loop" ⟨[.ref I, .none, .ref S], [("default", d)]⟩) R s := by
  have nw : S ∉ wr := fun z => hSf (W.sub _ z)
  refine codeAny_builtin F.entry_max_loop ?_
  rw [Around.under_plainId F.plain_max_loop _]
  show wpAny _ A.in1 (seqItems? (.ref S) >>= _) _ _ s
  refine wpAny_bind (wpAny_seqItems hS rfl ?_)
  show wpAny _ A.in1 (tryCatch (pyNext (.ref I)) _ >>= _) _ _ s
  rcases Nat.eq_zero_or_pos n with z | z
  · subst z
    refine wpAny_bind (wpAny_tryCatch (W.done s _ _ hst fun g1 t1 k1 => ?_))
    refine wpAny_bind (wpAny_rule (wpAny_pure ?_))
    exact h0 rfl g1 t1 fun b o n1 _ e => k1 b o n1 e
  · refine wpAny_bind (wpAny_tryCatch (W.item 0 s _ _ z hst fun v g1 t1 hv st1 k1 => ?_))
    have hS1 := k1 S _ nw hS
    show wpAny _ A.in1 (updateSeq S (fun _ => #[v, v]) >>= _) _ _ _
    refine wpAny_bind (wpAny_updateSeq hS1 rfl ?_)
    rw [mx_name]
    refine wpAny_pure ⟨plainId_quiet F.plain_max_loop _, mx_loop W bt hcmp S hSf (n - 1) 0 _ v _ (by omega) (W.frame _ _ _ st1 fun b m o e => ?_) hv (Heap.get?_update_self _ hS1 rfl) fun v2 h2 t2 p2 k2 => ?_⟩
    · exact (Heap.get?_update_other _ _ (show S ≠ b from fun z => hSf (by rw [z]; exact m))).trans e
    · exact h1 z v2 h2 t2 p2 fun b o n1 n2 e => k2 b o n1 n2 ((Heap.get?_update_other _ _ (Ne.symm n2)).trans (k1 b o n1 e))
end
section
variable {prog : Program} {w : World} {A : Around} {E : Value → Shared → Prop} {s : Shared}
theorem mx_call {x d : Value} {Q : Value → Shared → Prop}
    (h : wpAny (model prog w) A.in1 (pyIter x) (fun it s2 => ∃ I fp wr n P St bt, it = .ref I ∧ Walks prog w A.in1 I fp wr n P St ∧ St 0 s2.heap ∧ (∀ b ∈ fp, b < s2.heap.objs.size) ∧ CmpOf prog w A.in1 .Gt P bt ∧
      (n = 0 → ∀ h' tk, (∀ b o, b ∉ wr → s2.heap.get? b = some o → h'.get? b = some o) → Q d { s2 with heap := h', toks := tk }) ∧
      (0 < n → ∀ v h' tk, P (argBest bt (n - 1)) v → (∀ b o, b ∉ wr → s2.heap.get? b = some o → h'.get? b = some o) → Q v { s2 with heap := h', toks := tk })) E s) :
    wpAny (model prog w) A (call (.builtin "max") [x] [("default", d)]) Q E s := by
  refine wpAny_call (codeAny_call_builtin F.plain_max F.entry_max ?_)
  have hfin : wpAny (model prog w) A.in1 (Builtin.«max» ⟨[x], [("default", d)]⟩) (fun fin s' => match fin with
      | .done f => (match (Except.ok f : Result) with | .ok (.ret v) => Q v s' | .ok _ => False | .error e => E e s')
      | .again c' => c'.quiet = true ∧ codeAny (model prog w) A c' (fun r s' => match r with | .ok (.ret v) => Q v s' | .ok _ => False | .error e => E e s') s') E s := by
    show wpAny _ A.in1 (Builtin.Builtins.bindParams "max" ["key", "default"] 0 ⟨[], [("default", d)]⟩ >>= _) _ _ s
    rw [mx_bind]
    refine wpAny_bind (wpAny_pure (wpAny_bind (wpAny_pure (wpAny_bind (wpAny_mono h (fun it s2 h2 => ?_) fun _ _ e => e)))))
    obtain ⟨I, fp, wr, n, P, St, bt, rfl, W, hst, hfp, hcmp, q0, q1⟩ := h2
    refine wpAny_bind (wpAny_newObj_type ?_)
    have hSf : s2.heap.objs.size ∉ fp := fun z => Nat.lt_irrefl _ (hfp _ z)
    rw [mx_name]
    refine wpAny_pure ⟨plainId_quiet F.plain_max_loop _, mx_first W bt hcmp s2.heap.objs.size hSf d (W.frame _ _ _ hst fun b _ o e => Heap.get?_push_of_some _ e) (Heap.get?_push_size _ rfl) (fun z h' tk k => ?_) fun z v h' tk hv k => ?_⟩
    · exact q0 z h' tk fun b o nb e => k b o nb (Nat.ne_of_lt (Heap.lt_size e)) (Heap.get?_push_of_some _ e)
    · exact q1 z v h' tk hv fun b o nb e => k b o nb (Nat.ne_of_lt (Heap.lt_size e)) (Heap.get?_push_of_some _ e)
  simp only [checkBuiltinCall, F.kind_max]
  cases hsig : Manifest.signature? "max" with
  | none => exact wpAny_pure hfin
  | some sig =>
    have z := mx_args x d
    have ha' : Bind.checkArgs "max" sig ⟨[x], [("default", d)]⟩ = pure () := by simpa only [argsOk, hsig] using z
    simp only [ha']
    exact wpAny_pure hfin
theorem mx_raw {l : Addr} {its : List Value} {ns : List Int} {d : Value} {Q : Value → Shared → Prop} (hh : A.handled = none) (hl : s.heap.IsList l its.toArray) (hi : IntsAre its ns)
    (h0 : ns = [] → ∀ h' tk, (∀ b o, s.heap.get? b = some o → h'.get? b = some o) → Q d { s with heap := h', toks := tk })
    (h : ∀ h' tk M t', (∀ b o, s.heap.get? b = some o → h'.get? b = some o) → M ∈ ns → (∀ a, a ∈ ns → a ≤ M) → Q (.int M t') { s with heap := h', toks := tk }) : wpAny (model prog w) A (call (.builtin "max") [.ref l] [("default", d)]) Q E s := by
  obtain ⟨xs, e⟩ := hi.allInts.items
  have hn : numsOf (intItems xs).toList = ns := by rw [← e]; exact hi.numsOf
  rw [nums_intItems] at hn
  subst hn
  rw [e] at hl
  refine mx_call (iter_intList hl fun s2 e st hfp hlI => ?_)
  subst e
  refine ⟨_, _, _, _, _, _, _, rfl, Walks.list (A := A.in1) hh _ l hlI (intItems xs), st, hfp, CmpOf.ints_gt (numAt xs) (fun _ _ => intItems_at), fun z h' tk hk => ?_, fun z v h' tk hv hk => ?_⟩
  · refine h0 ?_ h' tk (old_kept hk)
    have z2 : xs.size = 0 := by simpa [intItems] using z
    rw [Array.eq_empty_of_size_eq_zero z2]
    rfl
  · have hsz : 0 < xs.size := by simpa [intItems] using z
    have hv : (intItems xs)[argBest (fun i j => decide (numAt xs i > numAt xs j)) (xs.size - 1)]? = some v := by simpa [intItems] using hv
    obtain ⟨t, rfl⟩ := intItems_at hv
    obtain ⟨_, h2⟩ := argBest_gt (numAt xs) (xs.size - 1)
    refine h h' tk _ t (old_kept hk) ?_ fun a ha => ?_
    · rw [numAt_eq]
      have z3 := (argBest_gt (numAt xs) (xs.size - 1)).1
      exact PySem.getD_mem (by rw [List.length_map, Array.length_toList]; omega)
    · obtain ⟨j, hj, rfl⟩ := mem_getD ha
      rw [List.length_map, Array.length_toList] at hj
      rw [← numAt_eq]
      exact h2 j (by omega)
end
def rMaxDf (K : PySem.W.Frag) : List V → List V → Hp → VK → Prop := fun vs zs H Q => ∃ (a : Addr) (ns : List Int) (z : V), vs = [V.ref a] ∧ zs = [z] ∧ SqL K H a (ns.map V.int) ∧ (ns = [] → Q z H) ∧ ∀ m, m ∈ ns → (∀ y, y ∈ ns → y ≤ m) → Q (.int m) H
theorem cr_maxDf {X : Cx} (hc : X.calm = true) : CallRK X (.builtin "max") ["default"] (rMaxDf X.K) := by
  intro pins s σ H vs zs us ws Q I r rz h
  obtain ⟨a, ns, z, rfl, rfl, hs, q0, q⟩ := h
  obtain ⟨its, rv, hl, _⟩ := I.list hs
  obtain rfl := Vals.ref1 r
  obtain ⟨w1, rfl, e1⟩ := vals1 rz
  exact mx_raw (I.ok.hd hc) hl.isList rv.ints (fun e h' tk hk => ⟨z, H, I.kept hk, e1, q0 e⟩) fun h' tk m t' hk h1 h2 => ⟨.int _, H, I.kept hk, ⟨_, rfl⟩, q m h1 h2⟩
/-! ### in Mini -/
def maxL : Int → List Int → Int
  | a, [] => a
  | a, b :: r => maxL (if b > a then b else a) r
theorem maxL_le : ∀ (l : List Int) (a : Int), a ≤ maxL a l
  | [], a => Int.le_refl a
  | b :: r, a => by
    unfold maxL
    refine Int.le_trans ?_ (maxL_le r _)
    split <;> omega
theorem maxL_all : ∀ (l : List Int) (a y : Int), y ∈ a :: l → y ≤ maxL a l
  | [], a, y, h => by simp at h; subst h; exact Int.le_refl _
  | b :: r, a, y, h => by
    unfold maxL
    rcases List.mem_cons.mp h with h | h
    · subst h
      refine Int.le_trans ?_ (maxL_le r _)
      split <;> omega
    · rcases List.mem_cons.mp h with h | h
      · subst h
        refine Int.le_trans ?_ (maxL_le r _)
        split <;> omega
      · exact maxL_all r _ y (List.mem_cons_of_mem _ h)
theorem maxL_mem : ∀ (l : List Int) (a : Int), maxL a l ∈ a :: l
  | [], a => by simp [maxL]
  | b :: r, a => by
    unfold maxL
    have z := maxL_mem r (if b > a then b else a)
    rcases List.mem_cons.mp z with z | z
    · rw [z]
      split <;> simp
    · exact List.mem_cons_of_mem _ (List.mem_cons_of_mem _ z)
def eMaxD (ml mz : ME) : ME := fun σ S => (ml σ S).bind fun x S1 => (mz σ S1).bind fun z S2 => match listAt S2 x with
  | some es => (match asInts es with
    | some [] => .ok z S2
    | some (a :: r) => .ok (.int (maxL a r)) S2
    | none => .bad)
  | none => .bad
section
variable {G : Gx} {X : Cx} {W : WX} {e z : Expr} {ml mz : ME} {p pos kpos : Pos}
theorem se_maxD (cc : Cc G X W) (he : SE G X W e ml) (hz : SE G X W z mz) (hg : Gl X "max") (hm : X.mg "max" = none) (hs : starEach [e] X.env = (false, eval e X.env) :: starEach [] X.env := by rfl)
    (h1 : backTo pos (starEach [e] X.env) = (false, eval e X.env) :: backTo pos (starEach [] X.env) := by rfl) (h2 : (backTo pos (starEach [e] X.env)).any (·.1) = false := by rfl)
    (h3 : (backToKw pos (keywordEach [⟨some "default", z, kpos⟩] X.env)).all (·.1.isSome) = true := by rfl) (h4 : (backToKw pos (keywordEach [⟨some "default", z, kpos⟩] X.env)).any (·.1.isNone) = false := by rfl)
    (h5 : (backToKw pos (keywordEach [⟨some "default", z, kpos⟩] X.env)).filterMap (·.1) = [("default" : Str)] := by rfl) : SE G X W (.Call (.Name "max" p) [e] [⟨some "default", z, kpos⟩] pos) (eMaxD ml mz) := by
  refine se_of (pe_callBK (cr_maxDf cc.calm) hg hm (by decide +kernel) (sa_cons he sa_nil hs) (pk_cons hz pk_nil) (he := h1) (hpl := h2) (hall := h3) (hnone := h4) (hks := h5)) fun σ H Q ρ σs S rl re p => ?_
  refine ⟨ρ, σs, S, rl, re, one_go p fun ρ1 H1 S1 d x l1 rl1 rv1 p1 => ?_⟩
  refine ⟨ρ1, σs, S1, rl1, re.mono l1, PostR.bind (R := RV G) (r := mz σs S1) p1 fun ρ2 H2 S2 y v l2 rl2 rv2 p2 => ?_⟩
  cases q : listAt S2 d with
  | none => simp only [q] at p2; exact p2.elim
  | some es =>
    simp only [q] at p2
    cases q2 : asInts es with
    | none => simp only [q2] at p2; exact p2.elim
    | some ns =>
      simp only [q2] at p2
      obtain ⟨a, zs, rfl, hq, hr⟩ := listAt_rel rl2 (rv1.mono l2) q
      refine ⟨a, ns, v, rfl, rfl, by rw [cc.k, ← asInts_rel hr q2]; exact hq, fun e0 => ?_, fun m h1 h2 => ?_⟩
      · subst e0
        exact post_ok p2 rl2 rv2
      · cases ns with
        | nil => cases h1
        | cons b r =>
          have e1 : m = maxL b r := Int.le_antisymm (maxL_all r b m h1) (h2 _ (maxL_mem r b))
          subst e1
          exact post_ok p2 rl2 (.int _)
/-! ### is, is not -/
def isF (neg : Bool) : D → D → Store → Res D := fun x y S => match x, y with
  | .bl a, .bl b => .ok (.bl (xor neg (decide (a = b)))) S
  | .non, .non => .ok (.bl (xor neg true)) S
  | _, .non => .ok (.bl (xor neg false)) S
  | _, _ => .bad
theorem rv_non {ρ : Wd} {H : Hp} {d : D} {x : V} (h : RV G ρ H d x) : x = .non ↔ d = .non := by
  cases h <;> simp
theorem ops_is : OpS G X W (compareOp .Is) (isF false) := fun pins s σ H x y v u Q ρ S d1 d2 I rx ry rl r1 r2 p => by
  unfold isF at p
  split at p
  · rename_i a b
    cases r1
    cases r2
    exact op_isBl pins s σ H _ _ v u Q I rx ry ⟨a, b, rfl, rfl, by simpa using post_ok p rl (.bl _)⟩
  · cases r1
    cases r2
    exact op_isN pins s σ H _ _ v u Q I rx ry ⟨rfl, by simpa using post_ok p rl (.bl _)⟩
  · rename_i h1
    cases r2
    have n1 : x ≠ .non := fun z => h1 ((rv_non r1).mp z)
    exact op_isN pins s σ H _ _ v u Q I rx ry ⟨rfl, by simpa [n1] using post_ok p rl (.bl _)⟩
  · exact p.elim
theorem ops_isnot : OpS G X W (compareOp .IsNot) (isF true) := fun pins s σ H x y v u Q ρ S d1 d2 I rx ry rl r1 r2 p => by
  unfold isF at p
  split at p
  · rename_i a b
    cases r1
    cases r2
    exact op_notBl pins s σ H _ _ v u Q I rx ry ⟨a, b, rfl, rfl, by simpa using post_ok p rl (.bl _)⟩
  · cases r1
    cases r2
    exact op_notN pins s σ H _ _ v u Q I rx ry ⟨rfl, by simpa using post_ok p rl (.bl _)⟩
  · rename_i h1
    cases r2
    have n1 : x ≠ .non := fun z => h1 ((rv_non r1).mp z)
    exact op_notN pins s σ H _ _ v u Q I rx ry ⟨rfl, by simpa [n1] using post_ok p rl (.bl _)⟩
  · exact p.elim
end
end L2.Mi

set_option Elab.async false
set_option linter.all false
set_option maxRecDepth 100000
set_option maxHeartbeats 4000000
/-! Mini, 39: dict comprehensions, sorted texts. -/
namespace L2.Mi
open PySem PySem.Spec PyProof.Rows
def dcGo (src : Src) (t : TgN) (mt : MT) (mk mv : ME) (σ : En) : Nat → Nat → List (D × D) → Store → Res (List (D × D))
  | 0, _, _, _ => .bad
  | n + 1, k, acc, S => match src k S with
    | none => .bad
    | some none => .ok acc S
    | some (some d) => (match t.put d σ with
      | none => .bad
      | some σ2 => (match mt σ2 S with
        | .ok true S1 => (match mk σ2 S1 with
          | .ok y S2 => (match keyD y with
            | none => .bad
            | some _ => (match mv σ2 S2 with
              | .ok z S3 => if acc.length < lim then dcGo src t mt mk mv σ n (k + 1) (putD acc y z) S3 else .bad
              | _ => .bad))
          | _ => .bad)
        | .ok false S1 => dcGo src t mt mk mv σ n (k + 1) acc S1
        | _ => .bad))
/-- {k: v for t in iter if ..}: a dict of the store -/
def eDc (mi : MI) (t : TgN) (mt : MT) (mk mv : ME) (vs : List Nat) (n : Nat) : ME := fun σ S => (mi σ S).bind fun src S1 => (dcGo src t mt mk mv (wipeD σ vs) n 0 [] S1).bind fun kvs S2 => .ok (.ref S2.size) (S2.push (.dic false kvs))
section
variable {G : Gx} {X : Cx} {W : WX}
theorem Mv.show {v h : List Addr} {a : Addr} {H : Hp} : Mv G ⟨v, a :: h⟩ H ⟨v ++ [a], h⟩ H := by
  have nn : ∀ b, (⟨v, a :: h⟩ : Wd).no b → (⟨v ++ [a], h⟩ : Wd).no b := fun b n => by
    have n2 : b ≠ a ∧ b ∉ h := by simpa [Wd.no] using n.2
    exact ⟨by simp [n.1, n2.1], n2.2⟩
  exact ⟨fun i b e => pre_get (List.prefix_append _ _) e, fun _ _ _ q => q, fun b _ n q => ⟨nn b n, q⟩, fun b _ n _ q => ⟨nn b n, q⟩⟩
theorem RKs.mono {ρ ρ' : Wd} {H H' : Hp} (l : Le G ρ H ρ' H') {ds : List (D × D)} {vs : List (Key × V)} (r : RKs G ρ H ds vs) : RKs G ρ' H' ds vs := r.move l.mv
theorem dc_read {mi : MI} {t : TgN} {mt : MT} {mk mv : ME} {vs : List Nat} {n : Nat} {K : PySem.W.Frag} (hv : ∀ i ∈ t.slots, i ∈ vs) {σ : St} {H : Hp} {Q : VK} {ρ : Wd} {σs : En} {S : Store} (rl : Rl G ρ S H) (re : RE G ρ H σs σ)
    (p : Post G ρ H (eDc mi t mt mk mv vs n σs S) Q (EW W σ)) :
    tDc (tmi G W mi) (t.tg K) (tmt G W0 mt) (tm G W0 mk) (tm G W0 mv) vs σ H Q := by
  refine ⟨ρ, σs, S, rl, re, PostR.bind (R := JR G) p fun ρ1 H1 S1 src J l1 rl1 jr p1 => ?_⟩
  intro Dl hD
  have re1 := re.mono l1
  refine ⟨fun i m H => ∃ ρ S acc xs, Le G ⟨ρ1.v, Dl :: ρ1.h⟩ (L2.upd H1 Dl (.dK xs)) ρ H ∧ Rl G ρ S H ∧ H Dl = some (.dK xs) ∧ RKs G ρ H acc xs ∧ Post G ρ1 H1 ((dcGo src t mt mk mv (wipeD σs vs) m i acc S).bind fun kvs S2 => .ok (.ref S2.size) (S2.push (.dic false kvs))) Q (EW W σ),
    ⟨n, ⟨ρ1.v, Dl :: ρ1.h⟩, S1, [], [], Le.refl, rl1.hide hD, upd_same, .nil, p1⟩, ?_⟩
  rintro i m H2 ⟨ρ2, S2, acc, xs, l3, rl2, hDl, ra, p2⟩
  have hid : ρ2.h = Dl :: ρ1.h := l3.hid
  have hh1 : ∀ b, b ∈ ρ1.h → H1 b ≠ none := fun b hb => (rl1.hh b hb).2.ne
  have lo : Le G ρ1 H1 ⟨ρ2.v, ρ1.h⟩ H2 := Le.hide hD hh1 l3
  have e2 : ρ2 = ⟨ρ2.v, Dl :: ρ1.h⟩ := by rw [← hid]
  have nDv : Dl ∉ ρ2.v := (rl2.hh Dl (by rw [hid]; simp)).1
  have nDh : Dl ∉ ρ1.h := fun z => hh1 Dl z hD
  cases m with
  | zero => exact False.elim p2
  | succ m =>
    obtain ⟨j1, j2⟩ := jr ρ2 S2 H2 ((Mv.hide hD).trans l3.mv) (fun a o u q => l3.kz a o u (by rw [upd_ne (ne_of_none q hD)]; exact q)) rl2 i
    unfold dcGo at p2
    cases q : src i S2 with
    | none => simp only [q] at p2; exact False.elim p2
    | some o =>
      cases o with
      | none =>
        simp only [q] at p2
        refine .inl ⟨j2 q, ?_⟩
        have ls : Le G ρ1 H1 ⟨ρ2.v ++ [Dl], ρ1.h⟩ H2 := ⟨lo.pre.trans (List.prefix_append _ _), rfl, lo.tk, lo.kl, lo.kp, fun a na ha => by
          have z := lo.ni a na ha
          have ne : a ≠ Dl := fun z => ha.ne (by rw [z]; exact hD)
          exact ⟨⟨by simp [z.1.1, ne], z.1.2⟩, z.2⟩, lo.kh, lo.kz⟩
        have rs : Rl G ⟨ρ2.v ++ [Dl], ρ1.h⟩ (S2.push (.dic false acc)) H2 := by
          have mvs : Mv G ρ2 H2 ⟨ρ2.v ++ [Dl], ρ1.h⟩ H2 := by
            have z : Mv G ⟨ρ2.v, Dl :: ρ1.h⟩ H2 ⟨ρ2.v ++ [Dl], ρ1.h⟩ H2 := Mv.show
            rw [← e2] at z
            exact z
          refine ⟨by simp [rl2.len, Store.size_push], ?_, fun a ha => ?_, fun j ob e => ?_, rl2.tb⟩
          · show (ρ2.v ++ [Dl]).Nodup
            rw [List.nodup_append]
            refine ⟨rl2.nd, by simp, fun a ha b hb => ?_⟩
            simp only [List.mem_singleton] at hb
            subst hb
            rintro rfl
            exact nDv ha
          · have ha2 : a ∈ ρ2.h := by rw [hid]; exact List.mem_cons_of_mem _ ha
            obtain ⟨h1, h2⟩ := rl2.hh a ha2
            have ne : a ≠ Dl := fun z => nDh (by rw [← z]; exact ha)
            exact ⟨by simp [h1, ne], h2⟩
          · by_cases hj : j = S2.size
            · subst hj
              rw [Store.get_push_same] at e
              cases e
              exact ⟨Dl, .dK xs, by rw [← rl2.len]; simp, hDl, .dK (ra.move mvs)⟩
            · rw [Store.get_push_ne hj] at e
              obtain ⟨a, u, h1, h2, h3⟩ := rl2.ob j ob e
              exact ⟨a, u, pre_get (List.prefix_append _ _) h1, h2, h3.move mvs⟩
        exact p2 ⟨ρ2.v ++ [Dl], ρ1.h⟩ H2 _ ls rs (.ref (by rw [← rl2.len]; simp))
      | some d =>
        simp only [q] at p2
        obtain ⟨go, yl⟩ := j1 d q
        refine .inr ⟨go, fun H => ∃ ρ S acc xs, Le G ⟨ρ1.v, Dl :: ρ1.h⟩ (L2.upd H1 Dl (.dK xs)) ρ H ∧ Rl G ρ S H ∧ H Dl = some (.dK xs) ∧ RKs G ρ H acc xs ∧ Post G ρ1 H1 ((dcGo src t mt mk mv (wipeD σs vs) m (i + 1) acc S).bind fun kvs S2 => .ok (.ref S2.size) (S2.push (.dic false kvs))) Q (EW W σ),
          fun H' w => ⟨m, Nat.lt_succ_self m, w⟩, fun x H3 hy => ?_⟩
        obtain ⟨l4, rl3, rv3⟩ := yl x H3 hy
        have mD : Dl ∈ ρ2.h := by rw [hid]; simp
        have hD3 : H3 Dl = some (.dK xs) := by rw [l4.kh Dl mD (by rw [hDl]; simp)]; exact hDl
        cases q1 : t.put d (wipeD σs vs) with
        | none => simp only [q1] at p2; exact False.elim p2
        | some σ2 =>
          simp only [q1] at p2
          have reh : RE G ρ2 H3 σs σ := (re1.move ((Mv.hide hD).trans l3.mv)).mono l4
          refine put_go rv3 (reh.wipe vs) q1 vs hv fun σ' re' e' => ⟨by rw [e', wipe_wipe], ρ2, σ2, S2, rl3, re', ?_⟩
          cases q2 : mt σ2 S2 with
          | exc xx S3 => simp only [q2] at p2; exact False.elim p2
          | bad => simp only [q2] at p2; exact False.elim p2
          | ok b S3 =>
            intro ρ4 H4 b' l5 rl4 eb
            subst eb
            have mD4 : Dl ∈ ρ4.h := by rw [l5.hid]; exact mD
            have hD4 : H4 Dl = some (.dK xs) := by rw [l5.kh Dl mD (by rw [hD3]; simp)]; exact hD3
            cases b with
            | false =>
              simp only [q2] at p2
              show if false = true then _ else _
              rw [if_neg Bool.false_ne_true]
              exact ⟨ρ4, S3, acc, xs, (l3.trans l4).trans l5, rl4, hD4, ra.mono (l4.trans l5), p2⟩
            | true =>
              simp only [q2] at p2
              show if true = true then _ else _
              rw [if_pos rfl]
              refine ⟨ρ4, σ2, S3, rl4, re'.mono l5, ?_⟩
              cases q3 : mk σ2 S3 with
              | exc xx S4 => simp only [q3] at p2; exact False.elim p2
              | bad => simp only [q3] at p2; exact False.elim p2
              | ok y S4 =>
                simp only [q3] at p2
                intro ρ5 H5 yv l6 rl5 ry
                cases q4 : keyD y with
                | none => simp only [q4] at p2; exact False.elim p2
                | some k =>
                  simp only [q4] at p2
                  refine ⟨ρ5, σ2, S4, rl5, (re'.mono l5).mono l6, ?_⟩
                  have mD5 : Dl ∈ ρ5.h := by rw [l6.hid]; exact mD4
                  have hD5 : H5 Dl = some (.dK xs) := by rw [l6.kh Dl mD4 (by rw [hD4]; simp)]; exact hD4
                  cases q5 : mv σ2 S4 with
                  | exc xx S5 => simp only [q5] at p2; exact False.elim p2
                  | bad => simp only [q5] at p2; exact False.elim p2
                  | ok z S5 =>
                    simp only [q5] at p2
                    intro ρ6 H6 zv l7 rl6 rz
                    have mD6 : Dl ∈ ρ6.h := by rw [l7.hid]; exact mD5
                    have hD6 : H6 Dl = some (.dK xs) := by rw [l7.kh Dl mD5 (by rw [hD5]; simp)]; exact hD5
                    have nv6 : Dl ∉ ρ6.v := (rl6.hh Dl mD6).1
                    by_cases hl : acc.length < lim
                    · rw [if_pos hl] at p2
                      refine ⟨xs, k, key_rel q4 ry, hD6, by rw [← ra.len]; exact lim_lt hl, ρ6, S5, putD acc y z, putK xs k zv, ?_, rl6.grow hD6 trivial mD6, upd_same, ?_, p2⟩
                      · exact Le.grow hD hD6 trivial nv6 ((((l3.trans l4).trans l5).trans l6).trans l7)
                      · exact (putD_rel q4 rz (ra.mono (((l4.trans l5).trans l6).trans l7))).move (Mv.grow hD6 trivial mD6)
                    · rw [if_neg hl] at p2
                      exact False.elim p2
theorem se_dc {kx vx tg iter : Expr} {ifs : List Expr} {scope : Scope} {own : List (Str × Nat)} {pos : Pos} {mi : MI} {t : TgN} {mt : MT} {mk mv : ME} (n : Nat) (cc : Cc G X W) (hi : SI G X W tg iter mi) (ok : BlkOk X.N X.env.scope scope own) (hv : ∀ i ∈ t.slots, i ∈ own.map (·.2))
    (hg : ∀ (s : Shared) (H : Hp) (C : Addr) (cl : List (Str × Addr)) (fp : List Addr), Cc G (X.blk s H scope (compEnvC scope cl C X.env) fp) W0 → PG (X.blk s H scope (compEnvC scope cl C X.env) fp) tg (t.tg X.K))
    (ht : ∀ (s : Shared) (H : Hp) (C : Addr) (cl : List (Str × Addr)) (fp : List Addr), Cc G (X.blk s H scope (compEnvC scope cl C X.env) fp) W0 → PTs (X.blk s H scope (compEnvC scope cl C X.env) fp) ifs (tmt G W0 mt))
    (hk : ∀ (s : Shared) (H : Hp) (C : Addr) (cl : List (Str × Addr)) (fp : List Addr), Cc G (X.blk s H scope (compEnvC scope cl C X.env) fp) W0 → SE G (X.blk s H scope (compEnvC scope cl C X.env) fp) W0 kx mk)
    (he : ∀ (s : Shared) (H : Hp) (C : Addr) (cl : List (Str × Addr)) (fp : List Addr), Cc G (X.blk s H scope (compEnvC scope cl C X.env) fp) W0 → SE G (X.blk s H scope (compEnvC scope cl C X.env) fp) W0 vx mv) (hs : ∀ x, foldedSetIterable iter X.env x = pure x := by intro _; rfl) :
    SE G X W (.DictComp kx vx [⟨tg, iter, ifs, 0⟩] scope pos) (eDc mi t mt mk mv (own.map (·.2)) n) :=
  se_of (pe_dc cc.calm cc.nd hi ok (fun s H C cl fp => hg s H C cl fp (cc_blk cc)) (fun s H C cl fp => ht s H C cl fp (cc_blk cc)) (fun s H C cl fp => hk s H C cl fp (cc_blk cc)) (fun s H C cl fp => he s H C cl fp (cc_blk cc)) hs) fun σ H Q ρ σs S rl re p => dc_read hv rl re p
end
/-! ### sorted -/
/-- texts put in order: one by one into a list in order -/
def insT (x : List Nat) : List (List Nat) → List (List Nat)
  | [] => [x]
  | y :: r => if ltCps y x then y :: insT x r else x :: y :: r
def sortT : List (List Nat) → List (List Nat)
  | [] => []
  | x :: r => insT x (sortT r)
theorem ltc_tot : ∀ {x y : List Nat}, ltCps x y = false → ltCps y x = false → x = y
  | [], [], _, _ => rfl
  | [], _ :: _, h, _ => by simp [ltCps] at h
  | _ :: _, [], _, h => by simp [ltCps] at h
  | a :: r, b :: t, h1, h2 => by
    simp [ltCps] at h1 h2
    have e : a = b := by omega
    subst e
    rw [ltc_tot (h1.2 rfl) (h2.2 rfl)]
theorem ltc_le : ∀ {x y z : List Nat}, ltCps y x = false → ltCps z y = false → ltCps z x = false
  | [], _, [], _, _ => rfl
  | [], [], _ :: _, _, h => by simp [ltCps]
  | [], _ :: _, _ :: _, _, _ => by simp [ltCps]
  | _ :: _, [], _, h, _ => by simp [ltCps] at h
  | _ :: _, _ :: _, [], _, h => by simp [ltCps] at h
  | a :: r, b :: t, c :: u, h1, h2 => by
    simp [ltCps] at h1 h2 ⊢
    refine ⟨by omega, fun e => ?_⟩
    have e1 : b = a := by omega
    have e2 : c = b := by omega
    exact ltc_le (h1.2 e1) (h2.2 e2)
theorem ltc_irr : ∀ x : List Nat, ltCps x x = false
  | [] => rfl
  | a :: r => by simp [ltCps, ltc_irr r]
theorem ltc_as {x y : List Nat} (h : ltCps x y = true) : ltCps y x = false := by
  cases q : ltCps y x with
  | false => rfl
  | true =>
    exfalso
    revert h q
    induction x generalizing y with
    | nil => cases y <;> simp [ltCps]
    | cons a r ih =>
      cases y with
      | nil => simp [ltCps]
      | cons b t =>
        intro h1 h2
        simp [ltCps] at h1 h2
        rcases h1 with h1 | ⟨h1, h3⟩
        · rcases h2 with h2 | ⟨h2, _⟩ <;> omega
        · rcases h2 with h2 | ⟨_, h4⟩
          · omega
          · exact ih h3 h4
abbrev OrdT (l : List (List Nat)) : Prop := l.Pairwise fun x y => ltCps y x = false
theorem insT_perm (x : List Nat) : ∀ l, (insT x l).Perm (x :: l)
  | [] => List.Perm.refl _
  | y :: r => by
    unfold insT
    split
    · exact ((insT_perm x r).cons y).trans (List.Perm.swap x y r)
    · exact List.Perm.refl _
theorem insT_ord (x : List Nat) : ∀ {l}, OrdT l → OrdT (insT x l)
  | [], _ => List.pairwise_singleton _ _
  | y :: r, h => by
    obtain ⟨h1, h2⟩ := List.pairwise_cons.mp h
    unfold insT
    cases q : ltCps y x with
    | true =>
      rw [if_pos rfl]
      refine List.pairwise_cons.mpr ⟨fun z hz => ?_, insT_ord x h2⟩
      rcases List.mem_cons.mp ((insT_perm x r).mem_iff.mp hz) with e | e
      · rw [e]; exact ltc_as q
      · exact h1 z e
    | false =>
      rw [if_neg Bool.false_ne_true]
      refine List.pairwise_cons.mpr ⟨fun z hz => ?_, h⟩
      rcases List.mem_cons.mp hz with e | e
      · rw [e]; exact q
      · exact ltc_le q (h1 z e)
theorem sortT_perm : ∀ l, (sortT l).Perm l
  | [] => List.Perm.refl _
  | x :: r => (insT_perm x (sortT r)).trans ((sortT_perm r).cons x)
theorem sortT_ord : ∀ l, OrdT (sortT l)
  | [] => List.Pairwise.nil
  | x :: r => insT_ord x (sortT_ord r)
theorem ord_uniq : ∀ {l m : List (List Nat)}, OrdT l → OrdT m → l.Perm m → l = m
  | [], m, _, _, p => (List.Perm.eq_nil p.symm).symm
  | x :: l, [], _, _, p => absurd p.length_eq (by simp)
  | x :: l, y :: m, hl, hm, p => by
    obtain ⟨a1, a2⟩ := List.pairwise_cons.mp hl
    obtain ⟨b1, b2⟩ := List.pairwise_cons.mp hm
    have e : x = y := by
      have k1 : ltCps x y = false := by
        rcases List.mem_cons.mp (p.mem_iff.mp (List.mem_cons_self (a := x) (l := l))) with z | z
        · rw [z]; exact ltc_irr y
        · exact b1 x z
      have k2 : ltCps y x = false := by
        rcases List.mem_cons.mp (p.mem_iff.mpr (List.mem_cons_self (a := y) (l := m))) with z | z
        · rw [z]; exact ltc_irr x
        · exact a1 y z
      exact ltc_tot k1 k2
    subst e
    rw [ord_uniq a2 b2 (List.Perm.cons_inv p)]
theorem rising_ord : ∀ (l : List Str) (x : Str), risingS x l = true → OrdT ((x :: l).map (·.cps.toList))
  | [], x, _ => List.pairwise_singleton _ _
  | y :: r, x, h => by
    unfold risingS at h
    simp only [Bool.and_eq_true, Bool.not_eq_true'] at h
    have ih := rising_ord r y h.2
    rw [List.map_cons]
    refine List.pairwise_cons.mpr ⟨fun z hz => ?_, ih⟩
    rw [List.map_cons] at ih hz
    rcases List.mem_cons.mp hz with e | e
    · rw [e]; exact h.1
    · exact ltc_le h.1 ((List.pairwise_cons.mp ih).1 z e)
theorem sorted_ord {l : List Str} (h : sortedS l = true) : OrdT (l.map (·.cps.toList)) := by
  cases l with
  | nil => exact List.Pairwise.nil
  | cons x r => exact rising_ord r x h
/-- there is one such list -/
theorem sorted_is {ys : List Str} {ks : List (List Nat)} (p : ys.Perm (ks.map fun y => (⟨y.toArray⟩ : Str))) (h : sortedS ys = true) : ys = (sortT ks).map fun y => (⟨y.toArray⟩ : Str) := by
  have p2 := p.map (fun s : Str => s.cps.toList)
  rw [List.map_map] at p2
  have e0 : ks.map ((fun s : Str => s.cps.toList) ∘ fun y => (⟨y.toArray⟩ : Str)) = ks := by
    conv => rhs; rw [← List.map_id ks]
    exact List.map_congr_left fun y _ => by simp
  rw [e0] at p2
  have e := ord_uniq (sorted_ord h) (sortT_ord ks) (p2.trans (sortT_perm ks).symm)
  rw [← e, List.map_map]
  conv => lhs; rw [← List.map_id ys]
  exact List.map_congr_left fun y _ => by simp
def keysT : List (D × D) → Option (List (List Nat))
  | [] => some []
  | (.str x, _) :: r => (keysT r).map (x :: ·)
  | _ :: _ => none
section
variable {G : Gx} {X : Cx} {W : WX} {ρ : Wd} {H : Hp} {S : Store}
theorem keysT_rel : ∀ {kvs : List (D × D)} {kus : List (Key × V)} {ks : List (List Nat)}, RKs G ρ H kvs kus → keysT kvs = some ks → kus.map (·.1) = (ks.map fun y => (⟨y.toArray⟩ : Str)).map Sum.inr
  | _, _, _, .nil, h => by cases h; rfl
  | _, _, ks, @RKs.cons _ _ _ d e k v kvs kus hk r t, h => by
    cases d with
    | str x =>
      unfold keysT at h
      cases q : keysT kvs with
      | none => rw [q] at h; cases h
      | some zs =>
        rw [q] at h
        cases h
        cases hk
        simp [keysT_rel t q]
    | _ => simp [keysT] at h
theorem rvs_strs : ∀ l : List (List Nat), RVs G ρ H (l.map D.str) ((l.map fun y => (⟨y.toArray⟩ : Str)).map V.str)
  | [] => .nil
  | x :: r => .cons (.str x) (rvs_strs r)
/-- sorted of a dict whose keys are texts -/
def sortDF : FN := fun xs S => match xs with
  | [x] => (match dicK S x with
    | some kvs => (match keysT kvs with | some ks => if ks.length < 64 then .ok (.lv ((sortT ks).map D.str)) S else .bad | none => .bad)
    | none => .bad)
  | _ => .bad
theorem fns_sortD (cc : Cc G X W) : FnS G X W (.builtin "sorted") sortDF := FnS.of (call_sortedD cc.calm) fun ρ S H ds xs Q E rl r p => by
  unfold sortDF at p
  split at p
  · rename_i d
    obtain ⟨x, rfl, h⟩ := rvs1 r
    cases q : dicK S d with
    | none => simp only [q] at p; exact p.elim
    | some kvs =>
      simp only [q] at p
      cases q2 : keysT kvs with
      | none => simp only [q2] at p; exact p.elim
      | some ks =>
        simp only [q2] at p
        by_cases hl : ks.length < 64
        · rw [if_pos hl] at p
          obtain ⟨n, a, kus, rfl, rfl, _, _, h1, h2⟩ := dicK_rel rl h q
          refine ⟨a, kus, ks.map fun y => (⟨y.toArray⟩ : Str), rfl, .inl h1, keysT_rel h2 q2, by simpa using hl, fun ys b pm so hb => ?_⟩
          rw [sorted_is pm so]
          exact post_new p rl hb (.lv (rl.no hb) upd_same (rvs_strs _))
        · rw [if_neg hl] at p
          exact p.elim
  · exact p.elim
/-- sorted of a list of texts -/
def sortLF : FN := fun xs S => match xs with
  | [x] => (match listAt S x with
    | some es => (match strsD es with | some ks => if ks.length < 64 then .ok (.lv ((sortT ks).map D.str)) S else .bad | none => .bad)
    | none => .bad)
  | _ => .bad
theorem fns_sortL (cc : Cc G X W) : FnS G X W (.builtin "sorted") sortLF := FnS.of cr_sortedS fun ρ S H ds xs Q E rl r p => by
  unfold sortLF at p
  split at p
  · rename_i d
    obtain ⟨x, rfl, h⟩ := rvs1 r
    cases q : listAt S d with
    | none => simp only [q] at p; exact p.elim
    | some es =>
      simp only [q] at p
      cases q2 : strsD es with
      | none => simp only [q2] at p; exact p.elim
      | some ks =>
        simp only [q2] at p
        by_cases hl : ks.length < 64
        · rw [if_pos hl] at p
          obtain ⟨a, zs, rfl, hq, hr⟩ := listAt_rel rl h q
          refine ⟨a, ks.map fun y => (⟨y.toArray⟩ : Str), rfl, by rw [cc.k, ← strs_rel hr q2]; exact hq, by simpa using hl, fun ys b pm so hb => ?_⟩
          rw [sorted_is pm so]
          exact post_new p rl hb (.lv (rl.no hb) upd_same (rvs_strs _))
        · rw [if_neg hl] at p
          exact p.elim
  · exact p.elim
end
end L2.Mi

set_option Elab.async false
set_option linter.all false
set_option maxRecDepth 100000
set_option maxHeartbeats 4000000
/-! Mini, 40: x = [..] on one line; a dict locked while a statement runs. -/
namespace L2.Mi
open PySem PySem.Spec PyProof.Rows
section
variable {G : Gx} {X : Cx} {W : WX}
theorem ss_setLc {i : Nat} {y : Str} {py : Pos} {elt tg iter : Expr} {ifs : List Expr} {scope : Scope} {own : List (Str × Nat)} {pos spos : Pos} {mi : MI} {t : TgN} {mt : MT} {me : ME} (n : Nat) (cc : Cc G X W) (hy : X.N[i]? = some y) (hyl : X.env.scope.names.lookup y = some .local) (hk : X.env.scope.kind = .function) (hl : (py.line == pos.line) = true)
    (ha : (scope.names.any fun (n, k) => n == y && (k == .local || k == .cell)) = false) (hi : SI G X W tg iter mi) (ok : BlkOk X.N X.env.scope scope own) (hv : ∀ i ∈ t.slots, i ∈ own.map (·.2))
    (hg : ∀ (s : Shared) (H : Hp) (C : Addr) (cl : List (Str × Addr)) (fp : List Addr), Cc G (X.blk s H scope (compEnvC scope cl C X.env) fp) W0 → PG (X.blk s H scope (compEnvC scope cl C X.env) fp) tg (t.tg X.K))
    (ht : ∀ (s : Shared) (H : Hp) (C : Addr) (cl : List (Str × Addr)) (fp : List Addr), Cc G (X.blk s H scope (compEnvC scope cl C X.env) fp) W0 → PTs (X.blk s H scope (compEnvC scope cl C X.env) fp) ifs (tmt G W0 mt))
    (he : ∀ (s : Shared) (H : Hp) (C : Addr) (cl : List (Str × Addr)) (fp : List Addr), Cc G (X.blk s H scope (compEnvC scope cl C X.env) fp) W0 → SE G (X.blk s H scope (compEnvC scope cl C X.env) fp) W0 elt me) (hs : ∀ x, foldedSetIterable iter X.env x = pure x := by intro _; rfl) :
    SS G X W (.Assign [.Name y py] (.ListComp elt [⟨tg, iter, ifs, 0⟩] scope pos) spos) (sSet i (eLcV mi t mt me (own.map (·.2)) n)) := by
  refine ss_of (ps_setLc cc.calm cc.nd hy hyl (sw_true hk hyl hl ha) hi ok (fun s H C cl fp => hg s H C cl fp (cc_blk cc)) (fun s H C cl fp => ht s H C cl fp (cc_blk cc)) (fun s H C cl fp => he s H C cl fp (cc_blk cc)) hs) fun σ H Dn ρ σs S rl re p => ?_
  have p0 : Post G ρ H (eLcV mi t mt me (own.map (·.2)) n σs S) (fun x H1 => L2.gName i x σ H1 Dn.nx) (EW W σ) := do_go re p fun ρ1 H1 S1 d v l1 rl1 rv1 p1 => p1 ρ1 H1 _ Le.refl rl1 ((re.mono l1).set i rv1)
  exact lc_read hv (fun ds S2 => .ok (.lv ds) S2) rl re (fun ρ' H' S' ds xs Dl rl' h1 h2 h3 p' => post_ok (S := S') p' rl' (.lv h2 h1 h3)) p0
end
/-! ### the lock -/
def sLock (i : Nat) (m : MS) : MS := fun σ S => match σ[i]? with
  | some (some (.ref n)) => (match S.get n with
    | some (.dic t kvs) => (match m σ (S.set n (.lck (.dic t kvs))) with
      | .nx σ1 S1 => .nx σ1 (S1.set n (.dic t kvs))
      | .rt d S1 => .rt d (S1.set n (.dic t kvs))
      | _ => .bad)
    | _ => .bad)
  | _ => .bad
theorem unlock_mv {G : Gx} {ρ1 : Wd} {H1 : Hp} {n : Nat} {a : Addr} {u : HO} {od : Obj} (hi1 : ρ1.v[n]? = some a) (k1 : H1 a = some (.frz od u)) (it : ¬ IsT (.frz od u)) : Mv G ρ1 H1 ρ1 (L2.upd H1 a u) := by
  refine ⟨fun _ _ h => h, fun b x t h => ?_, fun b xs nn h => ⟨nn, ?_⟩, fun b x nn k h => ⟨nn, ?_⟩⟩
  · rw [upd_ne (show b ≠ a from fun z => by rw [z, k1] at h; cases h; exact it t)]
    exact h
  · rw [upd_ne (show b ≠ a from fun z => nn.1 (by rw [z]; exact List.mem_of_getElem? hi1))]
    exact h
  · have ne : b ≠ a := fun z => nn.1 (by rw [z]; exact List.mem_of_getElem? hi1)
    rcases h with h | ⟨q, h⟩
    · exact .inl (by rw [upd_ne ne]; exact h)
    · exact .inr ⟨q, by rw [upd_ne ne]; exact h⟩
theorem ss_lock {G : Gx} {X : Cx} {W : WX} {st : Stmt} {m : MS} (i : Nat) (h : SS G X W st m) : SS G X W st (sLock i m) := by
  refine ss_of (ps_lock h) fun σ H Dn ρ σs S rl re p => ?_
  unfold sLock at p
  cases q1 : σs[i]? with
  | none => simp only [q1] at p; exact p.elim
  | some o1 =>
    cases o1 with
    | none => simp only [q1] at p; exact p.elim
    | some d =>
      cases d with
      | ref n =>
        simp only [q1] at p
        cases q2 : S.get n with
        | none => simp only [q2] at p; exact p.elim
        | some ob =>
          cases ob with
          | dic t kvs =>
            simp only [q2] at p
            obtain ⟨v, _, rv⟩ := re.get i _ q1
            cases rv with
            | @ref _ a hi =>
              obtain ⟨u, hu, ro⟩ := rl.at hi q2
              obtain ⟨nt, mu, it⟩ := dic_ho ro
              refine ⟨a, u, hu, mu, fun od => ⟨ρ, σs, S.set n (.lck (.dic t kvs)), rl.set hi q2 hu nt (.lck ro), re.mono (rl.leUpd hi hu nt), ?_⟩⟩
              cases q3 : m σs (S.set n (.lck (.dic t kvs))) with
              | exc x σ1 S1 => simp only [q3] at p; exact p.elim
              | bad => simp only [q3] at p; exact p.elim
              | bk σ1 S1 => simp only [q3] at p; exact p.elim
              | ct σ1 S1 => simp only [q3] at p; exact p.elim
              | nx σ1 S1 =>
                simp only [q3] at p
                intro ρ1 H1 w l1 rl1 re1
                have k1 : H1 a = some (.frz od u) := l1.kz a od u upd_same
                have le := unlock_le rl hi hu nt l1
                have hi1 := pre_get l1.pre hi
                exact ⟨k1, p ρ1 (L2.upd H1 a u) w le (unlock_rl rl1 hi1 k1 (it od) (ro.mono le)) (re1.move (unlock_mv hi1 k1 (it od)))⟩
              | rt d S1 =>
                simp only [q3] at p
                intro ρ1 H1 w l1 rl1 rv1
                have k1 : H1 a = some (.frz od u) := l1.kz a od u upd_same
                have le := unlock_le rl hi hu nt l1
                have hi1 := pre_get l1.pre hi
                exact ⟨k1, p ρ1 (L2.upd H1 a u) w le (unlock_rl rl1 hi1 k1 (it od) (ro.mono le)) (rv1.move (unlock_mv hi1 k1 (it od)))⟩
          | _ => simp only [q2] at p; exact p.elim
      | _ => simp only [q1] at p; exact p.elim
end L2.Mi

set_option Elab.async false
set_option linter.all false
set_option maxRecDepth 100000
set_option maxHeartbeats 1000000
/-! Mini, 41: what a run gives, by what is wanted of it. -/
namespace L2.Mi
open PySem
def Res.sat {α : Type} (r : Res α) (Q : α → Store → Prop) (E : Xn → Store → Prop) : Prop := match r with
  | .ok a S => Q a S
  | .exc x S => E x S
  | .bad => False
/-- what is wanted behind a statement: next, return, exception, break, continue -/
structure Wt where
  n : En → Store → Prop
  r : D → Store → Prop
  e : Xn → Store → Prop := fun _ _ => False
  b : En → Store → Prop := fun _ _ => False
  c : En → Store → Prop := fun _ _ => False
def RS.sat (r : RS) (w : Wt) : Prop := match r with
  | .nx σ S => w.n σ S
  | .rt d S => w.r d S
  | .exc x _ S => w.e x S
  | .bk σ S => w.b σ S
  | .ct σ S => w.c σ S
  | .bad => False
abbrev NoX : Xn → Store → Prop := fun _ _ => False
section
variable {α β : Type} {S S1 : Store} {Q Q' : α → Store → Prop} {E E' : Xn → Store → Prop} {x : Xn} {a : α}
@[simp] theorem sat_ok : (Res.ok a S).sat Q E = Q a S := (rfl)
@[simp] theorem sat_exc : (Res.exc x S : Res α).sat Q E = E x S := (rfl)
@[simp] theorem sat_bind {r : Res β} {f : β → Store → Res α} : (r.bind f).sat Q E = r.sat (fun b S1 => (f b S1).sat Q E) E := by cases r <;> rfl
theorem Res.sat.imp {r : Res α} (h : r.sat Q E) (h1 : ∀ a S, Q a S → Q' a S) (h2 : ∀ x S, E x S → E' x S) : r.sat Q' E' := by
  cases r with
  | ok a S => exact h1 _ _ h
  | exc x S => exact h2 _ _ h
  | bad => exact h
theorem Res.sat.mono {r : Res α} (h : r.sat Q E) (h1 : ∀ a S, Q a S → Q' a S) : r.sat Q' E := h.imp h1 fun _ _ h => h
theorem Res.sat.noX {r : Res α} (h : r.sat Q NoX) (h1 : ∀ a S, Q a S → Q' a S) : r.sat Q' E := h.imp h1 fun _ _ h => h.elim
/-- an equation is as good -/
theorem sat_eq {r : Res α} (e : r = .ok a S) (h : Q a S) : r.sat Q E := by rw [e]; exact h
theorem sat_ex {r : Res α} (h : r.sat Q NoX) : ∃ a S, r = .ok a S ∧ Q a S := by
  cases r with
  | ok a S => exact ⟨a, S, rfl, h⟩
  | exc x S => exact h.elim
  | bad => exact h.elim
end
section
variable {σ σ' : En} {S S1 : Store} {w w' : Wt} {m a b : ME} {t : MT} {k l : MS} {d : D} {x : Xn} {i : Nat}
@[simp] theorem sat_nx : (RS.nx σ S).sat w = w.n σ S := (rfl)
@[simp] theorem sat_rt : (RS.rt d S).sat w = w.r d S := (rfl)
@[simp] theorem sat_xc : (RS.exc x σ S).sat w = w.e x S := (rfl)
@[simp] theorem sat_bk : (RS.bk σ S).sat w = w.b σ S := (rfl)
@[simp] theorem sat_ct : (RS.ct σ S).sat w = w.c σ S := (rfl)
theorem RS.sat.imp {r : RS} (h : r.sat w) (h1 : ∀ σ S, w.n σ S → w'.n σ S) (h2 : ∀ d S, w.r d S → w'.r d S) (h3 : ∀ x S, w.e x S → w'.e x S) (h4 : ∀ σ S, w.b σ S → w'.b σ S) (h5 : ∀ σ S, w.c σ S → w'.c σ S) : r.sat w' := by
  cases r with
  | nx σ S => exact h1 _ _ h
  | rt d S => exact h2 _ _ h
  | exc x σ S => exact h3 _ _ h
  | bk σ S => exact h4 _ _ h
  | ct σ S => exact h5 _ _ h
  | bad => exact h
@[simp] theorem sat_seq : (sSeq k l σ S).sat w = (k σ S).sat { w with n := fun σ1 S1 => (l σ1 S1).sat w } := by
  unfold sSeq
  cases k σ S <;> rfl
@[simp] theorem sat_ret : (sRet m σ S).sat w = (m σ S).sat w.r w.e := by
  unfold sRet
  cases m σ S <;> rfl
@[simp] theorem sat_drop : (sDrop m σ S).sat w = (m σ S).sat (fun _ S1 => w.n σ S1) w.e := by
  unfold sDrop
  cases m σ S <;> rfl
@[simp] theorem sat_set : (sSet i m σ S).sat w = (m σ S).sat (fun d S1 => w.n (σ.set i (some d)) S1) w.e := by
  unfold sSet sAsg gName
  cases m σ S <;> rfl
@[simp] theorem sat_if : (sIf t k l σ S).sat w = (t σ S).sat (fun c S1 => if c then (k σ S1).sat w else (l σ S1).sat w) w.e := by
  unfold sIf
  cases t σ S with
  | ok c S1 => cases c <;> rfl
  | _ => rfl
@[simp] theorem sat_next : (sNext σ S).sat w = w.n σ S := (rfl)
@[simp] theorem sat_break : (sBreak σ S).sat w = w.b σ S := (rfl)
@[simp] theorem sat_cont : (sCont σ S).sat w = w.c σ S := (rfl)
theorem sat_par {i j : Nat} : (sPar i j a b σ S).sat w = (a σ S).sat (fun x S1 => (b σ S1).sat (fun y S2 => w.n ((σ.set i (some x)).set j (some y)) S2) w.e) w.e := by
  unfold sPar
  simp only [aList_cons, aList_nil]
  cases a σ S with
  | ok x S1 =>
    simp only [bind_ok', sat_ok]
    cases b σ S1 <;> rfl
  | _ => rfl
theorem sat_raise {c f : Nat} : (sRaise c f m σ S).sat w = (m σ S).sat (fun d S1 => w.e ⟨c, [(f, d)]⟩ S1) w.e := by
  unfold sRaise
  cases m σ S <;> rfl
theorem sat_asg {g : MG} : (sAsg m g σ S).sat w = (m σ S).sat (fun d S1 => (g d σ S1).sat (fun σ2 S2 => w.n σ2 S2) NoX) w.e := by
  unfold sAsg
  cases m σ S with
  | ok d S1 =>
    simp only [sat_ok]
    cases g d σ S1 <;> rfl
  | _ => rfl
/-- the end of a def -/
theorem sat_fin {r : RS} {Q : D → Store → Prop} {E : Xn → Store → Prop} (h : r.sat ⟨fun _ S => Q .non S, Q, E, fun _ _ => False, fun _ _ => False⟩) : (fin r).sat Q E := by
  cases r with
  | bk σ S => exact h.elim
  | ct σ S => exact h.elim
  | _ => exact h
/-! ### loops -/
/-- turn by turn over items; I: what stands ahead of each, by what is left -/
theorem forL_sat {g : MG} {b : MS} (I : List D → En → Store → Prop) {w : Wt} (step : ∀ d ds σ S, I (d :: ds) σ S → (g d σ S).sat (fun σ1 S1 => (b σ1 S1).sat ⟨I ds, w.r, w.e, w.n, I ds⟩) NoX) (done : ∀ σ S, I [] σ S → w.n σ S) :
    ∀ (ds : List D) (σ : En) (S : Store), I ds σ S → (forL g b ds σ S).sat w
  | [], σ, S, h => done σ S h
  | d :: ds, σ, S, h => by
    have z := step d ds σ S h
    rw [forL_cons]
    cases q : g d σ S with
    | ok σ1 S1 =>
      rw [q] at z
      simp only
      have z2 : (b σ1 S1).sat ⟨I ds, w.r, w.e, w.n, I ds⟩ := z
      cases q2 : b σ1 S1 with
      | nx σ2 S2 => rw [q2] at z2; exact forL_sat I step done ds σ2 S2 z2
      | ct σ2 S2 => rw [q2] at z2; exact forL_sat I step done ds σ2 S2 z2
      | bk σ2 S2 => rw [q2] at z2; exact z2
      | rt d S2 => rw [q2] at z2; exact z2
      | exc x σ2 S2 => rw [q2] at z2; exact z2
      | bad => rw [q2] at z2; exact z2
    | exc x S1 => rw [q] at z; exact z.elim
    | bad => rw [q] at z; exact z.elim
/-- a text's signs -/
def chars (l : List Nat) : List D := l.map fun c => .str [c]
theorem chars_get {l : List Nat} {k : Nat} : (l[k]?).map (fun c => D.str [c]) = (chars l)[k]? := by
  unfold chars
  rw [List.getElem?_map]
theorem src_txt {m : ME} {σ : En} {S S1 : Store} {l : List Nat} (ha : m σ S = .ok (.str l) S1) : ∃ src, iTxt m σ S = .ok src S1 ∧ ∀ k S, src k S = some (chars l)[k]? := by
  unfold iTxt
  rw [ha, bind_ok']
  exact ⟨_, rfl, fun k S => by rw [← chars_get]⟩
/-- what is walked in a for or a comprehension -/
def Walk (mi : MI) (σ : En) (S : Store) (ds : List D) (S1 : Store) : Prop := ∃ src, mi σ S = .ok src S1 ∧ ∀ k S, src k S = some ds[k]?
theorem walk_seq {m : ME} {σ : En} {S S1 : Store} {d : D} {ds : List D} (ha : m σ S = .ok d S1) (hd : itsD d = some ds) : Walk (iSeq m) σ S ds S1 := src_its ha hd
theorem walk_txt {m : ME} {σ : En} {S S1 : Store} {l : List Nat} (ha : m σ S = .ok (.str l) S1) : Walk (iTxt m) σ S (chars l) S1 := src_txt ha
theorem walk_r1 {a : ME} {σ : En} {S S1 : Store} {j : Int} (ha : a σ S = .ok (.int j) S1) (h0 : -1000000 < j) (h1 : j < 1000000) : Walk (iRange1 a) σ S (ups 0 j.toNat) S1 := src_r1 ha h0 h1
theorem walk_r2 {a b : ME} {σ : En} {S S1 S2 : Store} {i j : Int} (ha : a σ S = .ok (.int i) S1) (hb : b σ S1 = .ok (.int j) S2) (i0 : -1000000 < i) (i1 : i < 1000000) (h0 : -1000000 < j) (h1 : j < 1000000) : Walk (iRange2 a b) σ S (ups i (j - i).toNat) S2 := src_r2 ha hb i0 i1 h0 h1
theorem walk_or1 {a b : MI} {σ : En} {S S1 : Store} {ds : List D} (h : Walk a σ S ds S1) : Walk (iOr a b) σ S ds S1 := by
  obtain ⟨src, e, h⟩ := h
  exact ⟨src, by unfold iOr orB; rw [e], h⟩
theorem walk_or2 {a b : MI} {σ : En} {S S1 : Store} {ds : List D} (n : a σ S = .bad) (h : Walk b σ S ds S1) : Walk (iOr a b) σ S ds S1 := by
  obtain ⟨src, e, h⟩ := h
  exact ⟨src, by unfold iOr orB; rw [n, e], h⟩
theorem seq_no {m : ME} {σ : En} {S S1 : Store} {l : List Nat} (ha : m σ S = .ok (.str l) S1) : iSeq m σ S = .bad := by
  unfold iSeq
  rw [ha, bind_ok']
  rfl
/-- over a text where either may stand -/
theorem walk_text {m : ME} {σ : En} {S S1 : Store} {l : List Nat} (ha : m σ S = .ok (.str l) S1) : Walk (iOr (iSeq m) (iTxt m)) σ S (chars l) S1 := walk_or2 (seq_no ha) (walk_txt ha)
theorem walk_list {m n : ME} {σ : En} {S S1 : Store} {d : D} {ds : List D} (ha : m σ S = .ok d S1) (hd : itsD d = some ds) : Walk (iOr (iSeq m) (iTxt n)) σ S ds S1 := walk_or1 (walk_seq ha hd)
theorem for_sat {mi : MI} {g : MG} {b : MS} {n : Nat} {ds : List D} (I : List D → En → Store → Prop) {w : Wt} (hw : Walk mi σ S ds S1) (hn : ds.length < n) (h : I ds σ S1)
    (step : ∀ d ds σ S, I (d :: ds) σ S → (g d σ S).sat (fun σ1 S1 => (b σ1 S1).sat ⟨I ds, w.r, w.e, w.n, I ds⟩) NoX) (done : ∀ σ S, I [] σ S → w.n σ S) : (sFor mi g b n σ S).sat w := by
  obtain ⟨src, e, hs⟩ := hw
  unfold sFor
  rw [e]
  simp only
  rw [forGo_list hs n 0 σ S1 (by omega) (by omega)]
  exact forL_sat I step done ds σ S1 h
/-- while: I by what is left of turns -/
theorem while_sat {t : MT} {b : MS} {w : Wt} (I : Nat → En → Store → Prop) (step : ∀ k σ S, I k σ S → (t σ S).sat (fun c S1 => if c then (b σ S1).sat ⟨fun σ2 S2 => ∃ j, j < k ∧ I j σ2 S2, w.r, w.e, w.n, fun σ2 S2 => ∃ j, j < k ∧ I j σ2 S2⟩ else w.n σ S1) w.e) :
    ∀ (n k : Nat) (σ : En) (S : Store), k < n → I k σ S → (sWhile t b n σ S).sat w
  | 0, k, σ, S, h, _ => absurd h (by omega)
  | n + 1, k, σ, S, hn, h => by
    have z := step k σ S h
    unfold sWhile
    cases q : t σ S with
    | ok c S1 =>
      rw [q] at z
      cases c with
      | false => exact z
      | true =>
        have z2 : (b σ S1).sat ⟨fun σ2 S2 => ∃ j, j < k ∧ I j σ2 S2, w.r, w.e, w.n, fun σ2 S2 => ∃ j, j < k ∧ I j σ2 S2⟩ := z
        simp only
        cases q2 : b σ S1 with
        | nx σ2 S2 => rw [q2] at z2; obtain ⟨j, hj, hi⟩ := z2; exact while_sat I step n j σ2 S2 (by omega) hi
        | ct σ2 S2 => rw [q2] at z2; obtain ⟨j, hj, hi⟩ := z2; exact while_sat I step n j σ2 S2 (by omega) hi
        | bk σ2 S2 => rw [q2] at z2; exact z2
        | rt d S2 => rw [q2] at z2; exact z2
        | exc x σ2 S2 => rw [q2] at z2; exact z2
        | bad => rw [q2] at z2; exact z2
    | exc x S1 => rw [q] at z; exact z
    | bad => rw [q] at z; exact z
/-- a comprehension; I: by what is left, what is found -/
theorem lcGo_sat {src : Src} {t : TgN} {mt : MT} {me : ME} {σ : En} {ds : List D} (h : ∀ k S, src k S = some ds[k]?) (I : List D → List D → Store → Prop)
    (step : ∀ d r acc S, I (d :: r) acc S → ∃ σ2, t.put d σ = some σ2 ∧ (mt σ2 S).sat (fun c S1 => if c then (me σ2 S1).sat (fun y S2 => acc.length < lim ∧ I r (acc ++ [y]) S2) NoX else I r acc S1) NoX) :
    ∀ (n k : Nat) (acc : List D) (S : Store), ds.length < n + k → k ≤ ds.length → I (ds.drop k) acc S → (lcGo src t mt me σ n k acc S).sat (fun acc2 S2 => I [] acc2 S2) NoX
  | 0, k, acc, S, h1, h2, _ => absurd h1 (by omega)
  | n + 1, k, acc, S, h1, h2, hi => by
    unfold lcGo
    rw [h k S]
    by_cases hk : k < ds.length
    · rw [List.getElem?_eq_getElem hk]
      rw [List.drop_eq_getElem_cons hk] at hi
      obtain ⟨σ2, e1, z⟩ := step _ _ _ _ hi
      simp only [e1]
      cases q : mt σ2 S with
      | ok c S1 =>
        rw [q] at z
        cases c with
        | false => exact lcGo_sat h I step n (k + 1) acc S1 (by omega) (by omega) z
        | true =>
          have z2 : (me σ2 S1).sat (fun y S2 => acc.length < lim ∧ I (ds.drop (k + 1)) (acc ++ [y]) S2) NoX := z
          simp only
          cases q2 : me σ2 S1 with
          | ok y S2 =>
            rw [q2] at z2
            obtain ⟨z3, z4⟩ := z2
            simp only
            rw [if_pos z3]
            exact lcGo_sat h I step n (k + 1) _ S2 (by omega) (by omega) z4
          | exc x S2 => rw [q2] at z2; exact z2.elim
          | bad => rw [q2] at z2; exact z2.elim
      | exc x S1 => rw [q] at z; exact z.elim
      | bad => rw [q] at z; exact z.elim
    · rw [List.getElem?_eq_none (by omega)]
      rw [List.drop_eq_nil_of_le (by omega)] at hi
      exact hi
theorem lc_sat {mi : MI} {t : TgN} {mt : MT} {me : ME} {vs : List Nat} {n : Nat} {ds : List D} {Q : D → Store → Prop} {E : Xn → Store → Prop} (I : List D → List D → Store → Prop) (hw : Walk mi σ S ds S1) (hn : ds.length < n) (h : I ds [] S1)
    (step : ∀ d r acc S, I (d :: r) acc S → ∃ σ2, t.put d (wipeD σ vs) = some σ2 ∧ (mt σ2 S).sat (fun c S1 => if c then (me σ2 S1).sat (fun y S2 => acc.length < lim ∧ I r (acc ++ [y]) S2) NoX else I r acc S1) NoX)
    (done : ∀ acc S, I [] acc S → Q (.lv acc) S) : (eLcV mi t mt me vs n σ S).sat Q E := by
  obtain ⟨src, e, hs⟩ := hw
  unfold eLcV
  rw [e, bind_ok', sat_bind]
  exact (lcGo_sat hs I step n 0 [] S1 (by omega) (by omega) h).noX fun acc S2 z => done acc S2 z
end
end L2.Mi

set_option Elab.async false
set_option linter.all false
set_option maxRecDepth 100000
set_option maxHeartbeats 1000000
/-! Mini, 42: the program's tokens: kind_of, end_of_run, tokens_of. -/
namespace L2.Mi
open PySem
def LETS : List Nat := [97, 98, 99, 100, 101, 102, 103, 104, 105, 106, 107, 108, 109, 110, 111, 112, 113, 114, 115, 116, 117, 118, 119, 120, 121, 122]
def DIGS : List Nat := [48, 49, 50, 51, 52, 53, 54, 55, 56, 57]
def LD (c : Nat) : Bool := decide (c ∈ LETS) || decide (c ∈ DIGS)
abbrev MARK : List Nat := [109, 97, 114, 107]
abbrev NAME : List Nat := [110, 97, 109, 101]
abbrev BADW : List Nat := [98, 97, 100]
abbrev NUMB : List Nat := [110, 117, 109, 98, 101, 114]
abbrev ENDW : List Nat := [101, 110, 100]
/-! ### values -/
theorem lim_big : 999999 ≤ lim := by unfold lim; decide
theorem itemF_str {S : Store} {l : List Nat} {k : Nat} {c : Nat} (hl : l.length ≤ 900000) (h : l[k]? = some c) : itemF (.str l) (.int (k : Int)) S = .ok (.str [c]) S := by
  have e : itemF (.str l) (.int (k : Int)) S = if l.length ≤ lim then (match L2.atI l (k : Int) with | some c => .ok (.str [c]) S | none => .bad) else .bad := (rfl)
  rw [e, if_pos (by have := lim_big; omega), atI_nat h]
theorem lenF_str {S : Store} {l : List Nat} (hl : l.length ≤ 900000) : lenF [.str l] S = .ok (.int l.length) S := by
  unfold lenF
  simp only
  rw [if_pos (by have := lim_big; omega)]
theorem inF_chr {S : Store} {c : Nat} {z : List Nat} {neg : Bool} : inF neg (.str [c]) (.str z) S = .ok (.bl (if neg then !decide (c ∈ z) else decide (c ∈ z))) S := (rfl)
theorem strs_flat : ∀ ks : List (List Nat), (ks.map D.str).all flatD = true
  | [] => rfl
  | k :: ks => by
    rw [List.map_cons, List.all_cons, strs_flat ks]
    rfl
theorem any_eqD (w : List Nat) : ∀ ks : List (List Nat), ((ks.map D.str).any fun z => eqD z (.str w)) = ks.any (· == w)
  | [] => rfl
  | k :: ks => by
    rw [List.map_cons, List.any_cons, List.any_cons, any_eqD w ks]
    rfl
theorem inF_strs {S : Store} {w : List Nat} {ks : List (List Nat)} {d : D} {neg : Bool} (h : seqD S d = some (ks.map D.str)) : inF neg (.str w) d S = .ok (.bl (if neg then !(ks.any (· == w)) else ks.any (· == w))) S := by
  unfold inF
  simp only [h, strs_flat, flatD, Bool.and_self, if_true, any_eqD]
/-- a text of true signs -/
def Txt (R : List Nat) : Prop := ∀ c ∈ R, c < 0x110000
theorem Txt.ok {R : List Nat} (h : Txt R) : PyData.strOk ⟨R.toArray⟩ = true := by
  unfold PyData.strOk
  simp only [List.all_toArray, List.all_eq_true, decide_eq_true_eq]
  exact h
theorem Txt.app {a b : List Nat} (h1 : Txt a) (h2 : Txt b) : Txt (a ++ b) := fun c hc => by
  rcases List.mem_append.mp hc with h | h
  · exact h1 c h
  · exact h2 c h
theorem Txt.sub {a b : List Nat} (h : Txt b) (hs : ∀ c ∈ a, c ∈ b) : Txt a := fun c hc => h c (hs c hc)
theorem str_beq {a b : List Nat} : ((⟨a.toArray⟩ : Str) == ⟨b.toArray⟩) = (a == b) := by
  by_cases h : a = b
  · subst h; simp
  · have n1 : (a == b) = false := beq_eq_false_iff_ne.mpr h
    rw [n1]
    refine beq_eq_false_iff_ne.mpr fun z => h ?_
    have z2 := congrArg (fun s : Str => s.cps.toList) z
    simpa using z2
theorem eqF_str {own : Op2} {a b : List Nat} {S : Store} (ha : Txt a) (hb : Txt b) : eqF own (.str a) (.str b) S = .ok (.bl (a == b)) S := by
  simp [eqF, dat, SeqAt.shaped, PyData.canLay0, PyData.depth, PyData.eqv, str_beq, ha.ok, hb.ok]
theorem neF_str {own : Op2} {a b : List Nat} {S : Store} (ha : Txt a) (hb : Txt b) : neF own (.str a) (.str b) S = .ok (.bl (!(a == b))) S := by
  simp [neF, dat, SeqAt.shaped, PyData.canLay0, PyData.depth, PyData.eqv, str_beq, ha.ok, hb.ok]
theorem cutD_nat {α : Type} {l : List α} {i j : Nat} (hij : i ≤ j) (hj : j ≤ l.length) : cutD l (some (i : Int)) (some (j : Int)) = (l.drop i).take (j - i) := by
  unfold cutD
  rw [HT.sIx_nat, HT.sIx_nat, Nat.min_eq_left hj, Nat.min_eq_left (by omega)]
theorem sliceF_str {S : Store} {l : List Nat} {i j : Nat} (hl : l.length ≤ 900000) (hij : i ≤ j) (hj : j ≤ l.length) : sliceF (.str l) (some (i : Int)) (some (j : Int)) S = .ok (.str ((l.drop i).take (j - i))) S := by
  unfold sliceF
  simp only
  rw [if_pos (by have := lim_big; omega), cutD_nat hij hj]
theorem appendF_ev {S : Store} {i : Nat} {ds : List D} {y : D} (h : S.get i = some (.lst ds)) (hl : ds.length < 900000) : appendF (.ref i) [y] S = .ok .non (S.set i (.lst (ds ++ [y]))) := by
  unfold appendF
  simp only [h]
  rw [if_pos (by have := lim_big; omega)]
theorem isLst_ev {S : Store} {i : Nat} {ds : List D} (h : S.get i = some (.lst ds)) : isLst (.ref i) S = true := by
  unfold isLst listAt
  simp only [h]
  rfl
@[simp] theorem eBm_ev {ck : D → Store → Bool} {f : D → List D → Store → Res D} {mo : ME} {ma : MA} {σ : En} {S : Store} : eBm ck f mo ma σ S = (mo σ S).bind fun o S1 => if ck o S1 then (ma σ S1).bind fun xs S2 => f o xs S2 else .bad := (rfl)
theorem Store.set_set {S : Store} {i : Nat} {o o' : Ob} : (S.set i o).set i o' = S.set i o' := by
  unfold Store.set
  simp
theorem Store.get_set_same' {S : Store} {i : Nat} {o o' : Ob} (h : S.get i = some o') : (S.set i o).get i = some o := Store.get_set_same (Store.get_lt h)
/-! ### kind_of -/
/-- len of texts -/
def LenOk (lx : FN) : Prop := ∀ (l : List Nat) (S : Store), l.length ≤ 900000 → lx [.str l] S = .ok (.int l.length) S
theorem lenF_ok : LenOk lenF := fun l S h => lenF_str h
theorem lenOr_ok {g : FN} : LenOk (fnOr lenF g) := fun l S h => by
  unfold fnOr
  rw [lenF_str h]
  rfl
def kindM (lx : FN) (oE : Op2) : MS :=
    sSeq (sIf (tOf (eBin (inF false) (eVar 0) (eVar 1))) (sRet (eC (.str MARK))) (sNext))
    (sSeq (sIf (tOf (eBin (inF false) (eBin itemF (eVar 0) (eC (.int 0))) (eC (.str LETS)))) (sRet (eC (.str NAME))) (sNext))
    (sSeq (sFor (iOr (iSeq (eVar 0)) (iTxt (eVar 0))) (gName 2) (sIf (tOf (eBin (inF true) (eVar 2) (eC (.str DIGS)))) (sRet (eC (.str BADW))) (sNext)) 100000)
    (sSeq (sIf (tAnd (tOf (eBin oE (eBin itemF (eVar 0) (eC (.int 0))) (eC (.str [48])))) (tOf (eBin gtI (eFn lx (aList [eVar 0])) (eC (.int 1))))) (sRet (eC (.str BADW))) (sNext))
    (sRet (eC (.str NUMB))))))
def allD (w : List Nat) : Bool := w.all fun c => decide (c ∈ DIGS)
def kindS (ks : List (List Nat)) (w : List Nat) : List Nat := if ks.any (· == w) then MARK else match w with
  | [] => BADW
  | c :: r => if decide (c ∈ LETS) then NAME else if allD (c :: r) then (if c == 48 && !r.isEmpty then BADW else NUMB) else BADW
theorem rt_of {r : RS} {d : D} {S : Store} (h : r.sat ⟨fun _ _ => False, fun d2 S2 => d2 = d ∧ S2 = S, fun _ _ => False, fun _ _ => False, fun _ _ => False⟩) : r = .rt d S := by
  cases r with
  | rt d2 S2 => obtain ⟨h1, h2⟩ := h; rw [h1, h2]
  | _ => exact h.elim
theorem chars_cons {l : List Nat} {d : D} {ds : List D} (h : d :: ds = chars l) : ∃ c r, l = c :: r ∧ d = .str [c] ∧ ds = chars r := by
  cases l with
  | nil => cases h
  | cons c r =>
    unfold chars at h
    rw [List.map_cons] at h
    cases h
    exact ⟨c, r, rfl, rfl, rfl⟩
theorem chars_nil {l : List Nat} (h : [] = chars l) : l = [] := by
  cases l with
  | nil => rfl
  | cons c r => cases h
theorem chars_len {l : List Nat} : (chars l).length = l.length := by unfold chars; simp
theorem kind_ok {lx : FN} (hx : LenOk lx) {own : Op2} {ks : List (List Nat)} {w : List Nat} {S : Store} {kd : D} (hk : seqD S kd = some (ks.map D.str)) (h0 : w ≠ []) (hl : w.length ≤ 90000) (ht : Txt w) :
    kindM lx (eqF own) [some (.str w), some kd, none] S = .rt (.str (kindS ks w)) S := by
  obtain ⟨c, r, rfl⟩ : ∃ c r, w = c :: r := by
    cases w with
    | nil => exact absurd rfl h0
    | cons c r => exact ⟨c, r, rfl⟩
  have i0 : itemF (.str (c :: r)) (.int 0) S = .ok (.str [c]) S := itemF_str (k := 0) (by omega) rfl
  have tc : Txt [c] := ht.sub fun x hx => by simp at hx; simp [hx]
  have t48 : Txt [48] := fun x hx => by simp at hx; omega
  refine rt_of ?_
  unfold kindM kindS
  simp only [sat_seq, sat_if, tOf_ev, eBin_ev, eVar_0, eVar_s, bind_ok', inF_strs hk, Bool.false_eq_true, if_false, sat_ok, sat_ret, eC_ev, sat_next, i0, inF_chr]
  cases q1 : ks.any (· == c :: r) with
  | true => simp
  | false =>
    simp only [Bool.false_eq_true, if_false]
    by_cases q2 : c ∈ LETS
    · simp [q2]
    · simp only [decide_eq_false q2, Bool.false_eq_true, if_false]
      refine for_sat (fun ds σ S2 => S2 = S ∧ (∃ o, σ = [some (.str (c :: r)), some kd, o]) ∧ ∃ p q, c :: r = p ++ q ∧ ds = chars q ∧ allD p = true) (walk_text eVar_0) (by rw [chars_len]; omega) ⟨rfl, ⟨none, rfl⟩, [], c :: r, rfl, rfl, rfl⟩ ?_ ?_
      · rintro d ds σ S2 ⟨rfl, ⟨o, rfl⟩, p, q, e1, e2, e3⟩
        obtain ⟨x, q', rfl, rfl, rfl⟩ := chars_cons e2
        simp only [gName_ev, sat_ok, List.set_cons_succ, List.set_cons_zero, sat_if, tOf_ev, eBin_ev, eVar_0, eVar_s, bind_ok', eC_ev, inF_chr, if_true, sat_ret, sat_next]
        by_cases q3 : x ∈ DIGS
        · simp only [decide_eq_true q3, Bool.not_true, Bool.false_eq_true, if_false]
          refine ⟨trivial, ⟨_, rfl⟩, p ++ [x], q', by simp [e1], rfl, ?_⟩
          unfold allD at e3 ⊢
          simp [e3, q3]
        · simp only [decide_eq_false q3, Bool.not_false, if_true]
          have q4 : allD (c :: r) = false := by
            rw [e1]
            unfold allD
            simp [q3]
          simp [q4]
      · rintro σ S2 ⟨rfl, ⟨o, rfl⟩, p, q, e1, e2, e3⟩
        have e4 := chars_nil e2
        subst e4
        rw [List.append_nil] at e1
        rw [← e1] at e3
        simp only [tAnd_ev, tOf_ev, eBin_ev, eVar_0, bind_ok', eC_ev, i0, eqF_str tc t48, sat_bind, sat_ok, eFn_ev, aList_cons, aList_nil, hx _ _ (show (c :: r).length ≤ 900000 by omega), gtI_ev, e3, if_true]
        by_cases q3 : c = 48
        · subst q3
          cases r with
          | nil => simp
          | cons b r => simp; omega
        · have n1 : ([c] == [48]) = false := by simp [q3]
          have n2 : (c == 48) = false := by simp [q3]
          simp [n1, n2]
/-! ### end_of_run -/
def endM (lx : FN) : MS :=
    sSeq (sSet 2 (eVar 1))
    (sSeq (sWhile (tAnd (tOf (eBin ltI (eVar 2) (eFn lx (aList [eVar 0])))) (tOr (tOf (eBin (inF false) (eBin itemF (eVar 0) (eVar 2)) (eC (.str LETS)))) (tOf (eBin (inF false) (eBin itemF (eVar 0) (eVar 2)) (eC (.str DIGS)))))) (sAug 2 addI (eC (.int 1))) 100000)
    (sRet (eVar 2)))
theorem end_ok {lx : FN} (hx : LenOk lx) {l r rest : List Nat} {a : Nat} {S : Store} (hl : l.length ≤ 90000) (hd : l.drop a = r ++ rest) (ha : a ≤ l.length) (hr : ∀ c ∈ r, LD c = true) (hs : ∀ c t, rest = c :: t → LD c = false) :
    endM lx [some (.str l), some (.int (a : Int)), none] S = .rt (.int ((a + r.length : Nat) : Int)) S := by
  refine rt_of ?_
  unfold endM
  simp only [sat_seq, sat_set, eVar_0, eVar_s, sat_ok, List.set_cons_succ, List.set_cons_zero]
  refine while_sat (fun k σ S2 => S2 = S ∧ ∃ p q, r = p ++ q ∧ k = q.length ∧ σ = [some (.str l), some (.int (a : Int)), some (.int ((a + p.length : Nat) : Int))]) ?_ 100000 r.length _ _ ?_ ⟨rfl, [], r, rfl, rfl, rfl⟩
  · rintro k σ S2 ⟨rfl, p, q, rfl, rfl, rfl⟩
    have hg : ∀ j : Nat, l[a + j]? = (p ++ q ++ rest)[j]? := fun j => by rw [← hd, List.getElem?_drop]
    have hgp : l[a + p.length]? = (q ++ rest)[0]? := by
      rw [hg, List.append_assoc, List.getElem?_append_right (Nat.le_refl _), Nat.sub_self]
    have hlen : l.length = a + p.length + q.length + rest.length := by
      have e := congrArg List.length hd
      rw [List.length_drop] at e
      simp at e
      omega
    simp only [tAnd_ev, tOf_ev, eBin_ev, eVar_0, eVar_s, bind_ok', eFn_ev, aList_cons, aList_nil, hx _ _ (show l.length ≤ 900000 by omega), ltI_ev, sat_bind, sat_ok]
    by_cases hlt : a + p.length < l.length
    · simp only [decide_eq_true (show ((a + p.length : Nat) : Int) < (l.length : Int) by omega), if_true]
      obtain ⟨c, hc⟩ : ∃ c, (q ++ rest)[0]? = some c := by
        cases q with
        | nil =>
          cases rest with
          | nil => simp at hlen; omega
          | cons c t => exact ⟨c, rfl⟩
        | cons c t => exact ⟨c, rfl⟩
      have hi : itemF (.str l) (.int ((a + p.length : Nat) : Int)) S2 = .ok (.str [c]) S2 := itemF_str (by omega) (hgp.trans hc)
      simp only [tOr_ev, tOf_ev, eBin_ev, eVar_0, eVar_s, bind_ok', hi, eC_ev, inF_chr, sat_bind, sat_ok, Bool.false_eq_true, if_false]
      cases q with
      | nil =>
        cases rest with
        | nil => cases hc
        | cons x t =>
          simp only [List.nil_append, List.getElem?_cons_zero, Option.some.injEq] at hc
          subst hc
          have z := hs x t rfl
          unfold LD at z
          simp only [Bool.or_eq_false_iff] at z
          simp only [z.1, z.2, Bool.false_eq_true, if_false, sat_ok, sat_ret, eVar_s, eVar_0]
          simp
      | cons x t =>
        simp only [List.cons_append, List.getElem?_cons_zero, Option.some.injEq] at hc
        subst hc
        have z := hr x (by simp)
        unfold LD at z
        have aug : sAug 2 addI (eC (.int 1)) [some (.str l), some (.int (a : Int)), some (.int ((a + p.length : Nat) : Int))] S2 = .nx [some (.str l), some (.int (a : Int)), some (.int (((a + p.length : Nat) : Int) + 1))] S2 := rfl
        have goal : (sAug 2 addI (eC (.int 1)) [some (.str l), some (.int (a : Int)), some (.int ((a + p.length : Nat) : Int))] S2).sat ⟨fun σ2 S3 => ∃ j, j < (x :: t).length ∧ S3 = S2 ∧ ∃ p2 q2, p ++ x :: t = p2 ++ q2 ∧ j = q2.length ∧ σ2 = [some (.str l), some (.int (a : Int)), some (.int ((a + p2.length : Nat) : Int))], fun d2 S3 => d2 = .int ((a + (p ++ x :: t).length : Nat) : Int) ∧ S3 = S2, fun _ _ => False, fun σ1 S1 => (sRet (eVar 2) σ1 S1).sat ⟨fun _ _ => False, fun d2 S3 => d2 = .int ((a + (p ++ x :: t).length : Nat) : Int) ∧ S3 = S2, fun _ _ => False, fun _ _ => False, fun _ _ => False⟩, fun σ2 S3 => ∃ j, j < (x :: t).length ∧ S3 = S2 ∧ ∃ p2 q2, p ++ x :: t = p2 ++ q2 ∧ j = q2.length ∧ σ2 = [some (.str l), some (.int (a : Int)), some (.int ((a + p2.length : Nat) : Int))]⟩ := by
          rw [aug]
          refine ⟨t.length, by simp, rfl, p ++ [x], t, by simp, rfl, ?_⟩
          simp
          omega
        cases q1 : decide (x ∈ LETS) with
        | true => simp only [q1, if_true, sat_ok]; exact goal
        | false =>
          rw [q1, Bool.false_or] at z
          simp only [q1, z, Bool.false_eq_true, if_false, if_true, sat_ok]
          exact goal
    · simp only [decide_eq_false (show ¬ ((a + p.length : Nat) : Int) < (l.length : Int) by omega), Bool.false_eq_true, if_false, sat_ok, sat_ret, eVar_s, eVar_0]
      have : q.length = 0 := by omega
      simp
      omega
  · have e := congrArg List.length hd
    rw [List.length_drop] at e
    simp at e
    omega
end L2.Mi

set_option Elab.async false
set_option linter.all false
set_option maxRecDepth 100000
set_option maxHeartbeats 1000000
/-! Mini, 43: tokens_of. -/
namespace L2.Mi
open PySem
structure Tok where
  k : List Nat
  w : List Nat
  p : Nat
def Tok.d (t : Tok) : D := .tup [.str t.k, .str t.w, .int (t.p : Int)]
/-- the tokens of a rest that stands at a -/
inductive Tk (sg : List Nat) (ks : List (List Nat)) : Nat → List Nat → List Tok → Prop
  | nil {a : Nat} : Tk sg ks a [] [⟨ENDW, [], a⟩]
  | gap {a c : Nat} {t : List Nat} {ts : List Tok} (h : c = 32 ∨ c = 10) (r : Tk sg ks (a + 1) t ts) : Tk sg ks a (c :: t) ts
  | sign {a c : Nat} {t : List Nat} {ts : List Tok} (h1 : c ≠ 32) (h2 : c ≠ 10) (h : c ∈ sg) (r : Tk sg ks (a + 1) t ts) : Tk sg ks a (c :: t) (⟨MARK, [c], a⟩ :: ts)
  | run {a : Nat} {w rest : List Nat} {ts : List Tok} (h0 : w ≠ []) (h1 : ∀ c ∈ w, LD c = true) (h2 : ∀ c t, rest = c :: t → LD c = false) (h3 : kindS ks w ≠ BADW) (r : Tk sg ks (a + w.length) rest ts) : Tk sg ks a (w ++ rest) (⟨kindS ks w, w, a⟩ :: ts)
  | odd {a c : Nat} {t : List Nat} (h1 : c ≠ 32) (h2 : c ≠ 10) (h : c ∉ sg) (h3 : LD c = false) : Tk sg ks a (c :: t) [⟨BADW, [], a⟩]
  | bad {a : Nat} {w rest : List Nat} (h0 : w ≠ []) (h1 : ∀ c ∈ w, LD c = true) (h2 : ∀ c t, rest = c :: t → LD c = false) (h3 : kindS ks w = BADW) : Tk sg ks a (w ++ rest) [⟨BADW, [], a⟩]
def tokT (lx : FN) : MT := tOf (eBin ltI (eVar 4) (eFn lx (aList [eVar 0])))
def tokA (m : List ME) : MS := sDrop (eBm isLst appendF (eVar 3) (aList [eTup m]))
def tokB (oE : Op2) (kF eF : FN) : MS := sIf (tOf (eBin (inF false) (eBin itemF (eVar 0) (eVar 4)) (eTup [eC (.str [32]), eC (.str [10])]))) (sAug 4 addI (eC (.int 1))) (sIf (tOf (eBin (inF false) (eBin itemF (eVar 0) (eVar 4)) (eVar 1))) (sSeq (sDrop (eBm isLst appendF (eVar 3) (aList [eTup [eC (.str MARK), eBin itemF (eVar 0) (eVar 4), eVar 4]])))
    (sAug 4 addI (eC (.int 1)))) (sSeq (sSet 5 (eFn eF (aList [eVar 0, eVar 4])))
    (sSeq (sIf (tOr (tOf (eBin oE (eVar 5) (eVar 4))) (tOf (eBin oE (eFn kF (aList [eSlice (eVar 0) (oSome (eVar 4)) (oSome (eVar 5)), eVar 2])) (eC (.str BADW))))) (sSeq (sDrop (eBm isLst appendF (eVar 3) (aList [eTup [eC (.str BADW), eC (.str []), eVar 4]])))
    (sRet (eVar 3))) (sNext))
    (sSeq (sDrop (eBm isLst appendF (eVar 3) (aList [eTup [eFn kF (aList [eSlice (eVar 0) (oSome (eVar 4)) (oSome (eVar 5)), eVar 2]), eSlice (eVar 0) (oSome (eVar 4)) (oSome (eVar 5)), eVar 4]])))
    (sSet 4 (eVar 5))))))
def tokE (lx : FN) : MS := sSeq (sDrop (eBm isLst appendF (eVar 3) (aList [eTup [eC (.str ENDW), eC (.str []), eFn lx (aList [eVar 0])]])))
    (sRet (eVar 3))
def toksM (lx : FN) (oE : Op2) (kF eF : FN) : MS := sSeq (sSet 3 (eLst [])) (sSeq (sSet 4 (eC (.int 0))) (sSeq (sWhile (tokT lx) (tokB oE kF eF) 100000) (tokE lx)))
theorem LD_no {c : Nat} (h : LD c = true) : c ≠ 32 ∧ c ≠ 10 := by
  refine ⟨fun z => ?_, fun z => ?_⟩ <;> subst z <;> exact absurd h (by decide)
theorem while_step {t : MT} {b : MS} {n : Nat} {σ : En} {S : Store} : sWhile t b (n + 1) σ S = (match t σ S with
    | .ok true S1 => (match b σ S1 with
      | .nx σ2 S2 => sWhile t b n σ2 S2
      | .ct σ2 S2 => sWhile t b n σ2 S2
      | .bk σ2 S2 => .nx σ2 S2
      | r => r)
    | .ok false S1 => .nx σ S1
    | .exc x S1 => .exc x σ S1
    | .bad => .bad) := (rfl)
theorem oSome_ev {m : ME} {σ : En} {S S1 : Store} {i : Int} (h : m σ S = .ok (.int i) S1) : oSome m σ S = .ok (some i) S1 := by
  unfold oSome
  rw [h]
  rfl
@[simp] theorem eSlice_ev {m : ME} {lo hi : MO} {σ : En} {S : Store} : eSlice m lo hi σ S = (m σ S).bind fun x S1 => (lo σ S1).bind fun l S2 => (hi σ S2).bind fun h S3 => sliceF x l h S3 := (rfl)
structure TokF (ks : List (List Nat)) (kd : D) (oE : Op2) (kF eF : FN) : Prop where
  kq : ∀ S, seqD S kd = some (ks.map D.str)
  eI : ∀ i j S, oE (.int i) (.int j) S = .ok (.bl (i == j)) S
  eS : ∀ a b S, Txt a → Txt b → oE (.str a) (.str b) S = .ok (.bl (a == b)) S
  kF : ∀ w S, w ≠ [] → w.length ≤ 90000 → Txt w → kF [.str w, kd] S = .ok (.str (kindS ks w)) S
  eF : ∀ (l r rest : List Nat) (a : Nat) S, l.length ≤ 90000 → l.drop a = r ++ rest → a ≤ l.length → (∀ c ∈ r, LD c = true) → (∀ c t, rest = c :: t → LD c = false) → eF [.str l, .int (a : Int)] S = .ok (.int ((a + r.length : Nat) : Int)) S
theorem kindS_txt {ks : List (List Nat)} {w : List Nat} : Txt (kindS ks w) := by
  have m : Txt MARK := by unfold Txt; decide
  have b : Txt BADW := by unfold Txt; decide
  have n : Txt NAME := by unfold Txt; decide
  have u : Txt NUMB := by unfold Txt; decide
  unfold kindS
  split
  · exact m
  · split
    · exact b
    · split
      · exact n
      · split
        · split
          · exact b
          · exact u
        · exact b
section
variable {sg : List Nat} {ks : List (List Nat)} {kd : D} {oE : Op2} {kF eF lx : FN} {k : Nat} {l : List Nat}
theorem tok_go (hx : LenOk lx) (F : TokF ks kd oE kF eF) (hsg : ∀ c ∈ sg, LD c = false) (hl : l.length ≤ 90000) (htx : Txt l) {a : Nat} {rest : List Nat} {ts : List Tok} (h : Tk sg ks a rest ts) :
    ∀ (pre : List Nat) (acc : List D) (S : Store) (n : Nat) (o5 : Option D), l = pre ++ rest → a = pre.length → S.get k = some (.lst acc) → acc.length + rest.length ≤ 90000 → rest.length < n →
      sSeq (sWhile (tokT lx) (tokB oE kF eF) n) (tokE lx) [some (.str l), some (.str sg), some kd, some (.ref k), some (.int (a : Int)), o5] S = .rt (.ref k) (S.set k (.lst (acc ++ ts.map Tok.d))) := by
  have tB : Txt BADW := by unfold Txt; decide
  have test : ∀ {a : Nat} {o5 : Option D} {S : Store}, tokT lx [some (.str l), some (.str sg), some kd, some (.ref k), some (.int (a : Int)), o5] S = .ok (decide (a < l.length)) S := fun {a o5 S} => by
    unfold tokT
    simp only [tOf_ev, eBin_ev, eVar_s, eVar_0, bind_ok', eFn_ev, aList_cons, aList_nil, hx _ _ (show l.length ≤ 900000 by omega), ltI_ev]
    congr 1
    by_cases h : a < l.length
    · rw [decide_eq_true h, decide_eq_true (by omega)]
    · rw [decide_eq_false h, decide_eq_false (by omega)]
  induction h with
  | @nil a =>
    intro pre acc S n o5 e1 e2 hg hb hn
    obtain ⟨n, rfl⟩ : ∃ m, n = m + 1 := ⟨n - 1, by simp at hn; omega⟩
    have el : l.length = a := by rw [e1, e2]; simp
    rw [sSeq_ev, while_step, test, decide_eq_false (by omega)]
    unfold tokE
    simp only [sSeq_ev, sDrop_ev, eBm_ev, eVar_s, eVar_0, bind_ok', isLst_ev hg, if_true, aList_cons, aList_nil, eTup_ev, eC_ev, eFn_ev, hx _ _ (show l.length ≤ 900000 by omega), appendF_ev hg (show acc.length < 900000 by omega), sRet_ev, el]
    rfl
  | @gap a c t ts h r ih =>
    intro pre acc S n o5 e1 e2 hg hb hn
    obtain ⟨n, rfl⟩ : ∃ m, n = m + 1 := ⟨n - 1, by simp at hn; omega⟩
    have hc : l[a]? = some c := by rw [e1, e2]; simp
    have hlt : a < l.length := (List.getElem?_eq_some_iff.mp hc).1
    have i0 : itemF (.str l) (.int (a : Int)) S = .ok (.str [c]) S := itemF_str (by omega) hc
    have w2 : seqD S (.tup [.str [32], .str [10]]) = some ([[32], [10]].map D.str) := rfl
    have body : tokB oE kF eF [some (.str l), some (.str sg), some kd, some (.ref k), some (.int (a : Int)), o5] S = .nx [some (.str l), some (.str sg), some kd, some (.ref k), some (.int ((a + 1 : Nat) : Int)), o5] S := by
      unfold tokB
      have y : ([[32], [10]] : List (List Nat)).any (· == [c]) = true := by rcases h with rfl | rfl <;> rfl
      simp only [sIf_ev, tOf_ev, eBin_ev, eVar_s, eVar_0, bind_ok', i0, eTup_ev, aList_cons, aList_nil, eC_ev, inF_strs w2, Bool.false_eq_true, if_false, y, if_true]
      rfl
    rw [sSeq_ev, while_step, test, decide_eq_true hlt]
    simp only [body]
    have z := ih (pre ++ [c]) acc S n o5 (by simp [e1]) (by simp [e2]) hg (by simp at hb; omega) (by simp at hn; omega)
    rw [sSeq_ev] at z
    exact z
  | @sign a c t ts h1 h2 h r ih =>
    intro pre acc S n o5 e1 e2 hg hb hn
    obtain ⟨n, rfl⟩ : ∃ m, n = m + 1 := ⟨n - 1, by simp at hn; omega⟩
    have hc : l[a]? = some c := by rw [e1, e2]; simp
    have hlt : a < l.length := (List.getElem?_eq_some_iff.mp hc).1
    have i0 : ∀ S, itemF (.str l) (.int (a : Int)) S = .ok (.str [c]) S := fun S => itemF_str (by omega) hc
    have w2 : seqD S (.tup [.str [32], .str [10]]) = some ([[32], [10]].map D.str) := rfl
    have body : tokB oE kF eF [some (.str l), some (.str sg), some kd, some (.ref k), some (.int (a : Int)), o5] S = .nx [some (.str l), some (.str sg), some kd, some (.ref k), some (.int ((a + 1 : Nat) : Int)), o5] (S.set k (.lst (acc ++ [(⟨MARK, [c], a⟩ : Tok).d]))) := by
      unfold tokB
      have y : ([[32], [10]] : List (List Nat)).any (· == [c]) = false := by simp [Ne.symm h1, Ne.symm h2]
      simp only [sIf_ev, tOf_ev, eBin_ev, eVar_s, eVar_0, bind_ok', i0, eTup_ev, aList_cons, aList_nil, eC_ev, inF_strs w2, inF_chr, Bool.false_eq_true, if_false, y, decide_eq_true h, if_true, sSeq_ev, sDrop_ev, eBm_ev, isLst_ev hg, appendF_ev hg (show acc.length < 900000 by omega)]
      rfl
    rw [sSeq_ev, while_step, test, decide_eq_true hlt]
    simp only [body]
    have z := ih (pre ++ [c]) (acc ++ [(⟨MARK, [c], a⟩ : Tok).d]) (S.set k (.lst (acc ++ [(⟨MARK, [c], a⟩ : Tok).d]))) n o5 (by simp [e1]) (by simp [e2]) (Store.get_set_same' hg) (by simp at hb ⊢; omega) (by simp at hn; omega)
    rw [sSeq_ev, Store.set_set] at z
    rw [z, List.map_cons, List.append_assoc]
    rfl
  | @run a w rest ts h0 h1 h2 h3 r ih =>
    intro pre acc S n o5 e1 e2 hg hb hn
    obtain ⟨n, rfl⟩ : ∃ m, n = m + 1 := ⟨n - 1, by simp at hn; omega⟩
    obtain ⟨c, w', rfl⟩ : ∃ c w', w = c :: w' := by
      cases w with
      | nil => exact absurd rfl h0
      | cons c w' => exact ⟨c, w', rfl⟩
    have hc : l[a]? = some c := by rw [e1, e2]; simp
    have hlt : a < l.length := (List.getElem?_eq_some_iff.mp hc).1
    have hLD := h1 c (by simp)
    obtain ⟨n1, n2⟩ := LD_no hLD
    have n3 : c ∉ sg := fun z => by rw [hsg c z] at hLD; cases hLD
    have i0 : ∀ S, itemF (.str l) (.int (a : Int)) S = .ok (.str [c]) S := fun S => itemF_str (by omega) hc
    have w2 : seqD S (.tup [.str [32], .str [10]]) = some ([[32], [10]].map D.str) := rfl
    have hd : l.drop a = (c :: w') ++ rest := by rw [e1, e2, List.drop_left]
    have hlen : l.length = a + (c :: w').length + rest.length := by rw [e1, e2]; simp; omega
    have ee := F.eF l (c :: w') rest a S (by omega) hd (by omega) h1 h2
    have sl : ∀ S, sliceF (.str l) (some (a : Int)) (some ((a + (c :: w').length : Nat) : Int)) S = .ok (.str (c :: w')) S := fun S => by
      rw [sliceF_str (by omega) (by omega) (by omega), hd, Nat.add_sub_cancel_left, List.take_left]
    have tw : Txt (c :: w') := htx.sub fun x hx => by rw [e1]; simp only [List.mem_append]; exact .inr (.inl hx)
    have kk : ∀ S, kF [.str (c :: w'), kd] S = .ok (.str (kindS ks (c :: w'))) S := fun S => F.kF _ S (by simp) (by omega) tw
    have y : ([[32], [10]] : List (List Nat)).any (· == [c]) = false := by simp [Ne.symm n1, Ne.symm n2]
    have ne1 : ((((a + (c :: w').length : Nat) : Int)) == (a : Int)) = false := by
      refine beq_eq_false_iff_ne.mpr ?_
      simp only [List.length_cons]
      omega
    have ne2 : (kindS ks (c :: w') == BADW) = false := beq_eq_false_iff_ne.mpr h3
    have o1 : ∀ (S : Store), oSome (eVar 4) [some (.str l), some (.str sg), some kd, some (.ref k), some (.int (a : Int)), some (.int ((a + (c :: w').length : Nat) : Int))] S = .ok (some (a : Int)) S := fun S => rfl
    have o2 : ∀ (S : Store), oSome (eVar 5) [some (.str l), some (.str sg), some kd, some (.ref k), some (.int (a : Int)), some (.int ((a + (c :: w').length : Nat) : Int))] S = .ok (some ((a + (c :: w').length : Nat) : Int)) S := fun S => rfl
    have body : tokB oE kF eF [some (.str l), some (.str sg), some kd, some (.ref k), some (.int (a : Int)), o5] S = .nx [some (.str l), some (.str sg), some kd, some (.ref k), some (.int ((a + (c :: w').length : Nat) : Int)), some (.int ((a + (c :: w').length : Nat) : Int))] (S.set k (.lst (acc ++ [(⟨kindS ks (c :: w'), c :: w', a⟩ : Tok).d]))) := by
      unfold tokB
      simp only [sIf_ev, tOf_ev, eBin_ev, eVar_s, eVar_0, bind_ok', i0, eTup_ev, aList_cons, aList_nil, eC_ev, inF_strs w2, inF_chr, Bool.false_eq_true, if_false, y, decide_eq_false n3, sSeq_ev, sAsg_ev, eFn_ev, ee, gName_ev, List.set_cons_succ, List.set_cons_zero, tOr_ev, F.eI, ne1, eSlice_ev, o1, o2, sl, kk, F.eS _ _ _ kindS_txt tB, ne2, sNext_ev, sDrop_ev, eBm_ev, isLst_ev hg, if_true, appendF_ev hg (show acc.length < 900000 by omega)]
      rfl
    rw [sSeq_ev, while_step, test, decide_eq_true hlt]
    simp only [body]
    have z := ih (pre ++ (c :: w')) (acc ++ [(⟨kindS ks (c :: w'), c :: w', a⟩ : Tok).d]) (S.set k (.lst (acc ++ [(⟨kindS ks (c :: w'), c :: w', a⟩ : Tok).d]))) n (some (.int ((a + (c :: w').length : Nat) : Int))) (by simp [e1]) (by simp [e2]) (Store.get_set_same' hg) (by simp at hb ⊢; omega) (by simp at hn; omega)
    rw [sSeq_ev, Store.set_set] at z
    rw [z, List.map_cons, List.append_assoc]
    rfl
  | @odd a c t h1 h2 h h3 =>
    intro pre acc S n o5 e1 e2 hg hb hn
    obtain ⟨n, rfl⟩ : ∃ m, n = m + 1 := ⟨n - 1, by simp at hn; omega⟩
    have hc : l[a]? = some c := by rw [e1, e2]; simp
    have hlt : a < l.length := (List.getElem?_eq_some_iff.mp hc).1
    have i0 : ∀ S, itemF (.str l) (.int (a : Int)) S = .ok (.str [c]) S := fun S => itemF_str (by omega) hc
    have w2 : seqD S (.tup [.str [32], .str [10]]) = some ([[32], [10]].map D.str) := rfl
    have hd : l.drop a = [] ++ c :: t := by rw [e1, e2, List.drop_left]; rfl
    have ee := F.eF l [] (c :: t) a S (by omega) hd (by omega) (by simp) (fun x y z => by cases z; exact h3)
    have y : ([[32], [10]] : List (List Nat)).any (· == [c]) = false := by simp [Ne.symm h1, Ne.symm h2]
    have body : tokB oE kF eF [some (.str l), some (.str sg), some kd, some (.ref k), some (.int (a : Int)), o5] S = .rt (.ref k) (S.set k (.lst (acc ++ [(⟨BADW, [], a⟩ : Tok).d]))) := by
      unfold tokB
      simp only [sIf_ev, tOf_ev, eBin_ev, eVar_s, eVar_0, bind_ok', i0, eTup_ev, aList_cons, aList_nil, eC_ev, inF_strs w2, inF_chr, Bool.false_eq_true, if_false, y, decide_eq_false h, sSeq_ev, sAsg_ev, eFn_ev, ee, gName_ev, List.set_cons_succ, List.set_cons_zero, tOr_ev, F.eI, List.length_nil, Nat.add_zero, beq_self_eq_true, if_true, sDrop_ev, eBm_ev, isLst_ev hg, appendF_ev hg (show acc.length < 900000 by omega), sRet_ev]
      rfl
    rw [sSeq_ev, while_step, test, decide_eq_true hlt]
    simp only [body]
    rfl
  | @bad a w rest h0 h1 h2 h3 =>
    intro pre acc S n o5 e1 e2 hg hb hn
    obtain ⟨n, rfl⟩ : ∃ m, n = m + 1 := ⟨n - 1, by simp at hn; omega⟩
    obtain ⟨c, w', rfl⟩ : ∃ c w', w = c :: w' := by
      cases w with
      | nil => exact absurd rfl h0
      | cons c w' => exact ⟨c, w', rfl⟩
    have hc : l[a]? = some c := by rw [e1, e2]; simp
    have hlt : a < l.length := (List.getElem?_eq_some_iff.mp hc).1
    have hLD := h1 c (by simp)
    obtain ⟨n1, n2⟩ := LD_no hLD
    have n3 : c ∉ sg := fun z => by rw [hsg c z] at hLD; cases hLD
    have i0 : ∀ S, itemF (.str l) (.int (a : Int)) S = .ok (.str [c]) S := fun S => itemF_str (by omega) hc
    have w2 : seqD S (.tup [.str [32], .str [10]]) = some ([[32], [10]].map D.str) := rfl
    have hd : l.drop a = (c :: w') ++ rest := by rw [e1, e2, List.drop_left]
    have hlen : l.length = a + (c :: w').length + rest.length := by rw [e1, e2]; simp; omega
    have ee := F.eF l (c :: w') rest a S (by omega) hd (by omega) h1 h2
    have sl : ∀ S, sliceF (.str l) (some (a : Int)) (some ((a + (c :: w').length : Nat) : Int)) S = .ok (.str (c :: w')) S := fun S => by
      rw [sliceF_str (by omega) (by omega) (by omega), hd, Nat.add_sub_cancel_left, List.take_left]
    have tw : Txt (c :: w') := htx.sub fun x hx => by rw [e1]; simp only [List.mem_append]; exact .inr (.inl hx)
    have kk : ∀ S, kF [.str (c :: w'), kd] S = .ok (.str BADW) S := fun S => by rw [F.kF _ S (by simp) (by omega) tw, h3]
    have y : ([[32], [10]] : List (List Nat)).any (· == [c]) = false := by simp [Ne.symm n1, Ne.symm n2]
    have ne1 : ((((a + (c :: w').length : Nat) : Int)) == (a : Int)) = false := by
      refine beq_eq_false_iff_ne.mpr ?_
      simp only [List.length_cons]
      omega
    have o1 : ∀ (S : Store), oSome (eVar 4) [some (.str l), some (.str sg), some kd, some (.ref k), some (.int (a : Int)), some (.int ((a + (c :: w').length : Nat) : Int))] S = .ok (some (a : Int)) S := fun S => rfl
    have o2 : ∀ (S : Store), oSome (eVar 5) [some (.str l), some (.str sg), some kd, some (.ref k), some (.int (a : Int)), some (.int ((a + (c :: w').length : Nat) : Int))] S = .ok (some ((a + (c :: w').length : Nat) : Int)) S := fun S => rfl
    have body : tokB oE kF eF [some (.str l), some (.str sg), some kd, some (.ref k), some (.int (a : Int)), o5] S = .rt (.ref k) (S.set k (.lst (acc ++ [(⟨BADW, [], a⟩ : Tok).d]))) := by
      unfold tokB
      simp only [sIf_ev, tOf_ev, eBin_ev, eVar_s, eVar_0, bind_ok', i0, eTup_ev, aList_cons, aList_nil, eC_ev, inF_strs w2, inF_chr, Bool.false_eq_true, if_false, y, decide_eq_false n3, sSeq_ev, sAsg_ev, eFn_ev, ee, gName_ev, List.set_cons_succ, List.set_cons_zero, tOr_ev, F.eI, ne1, eSlice_ev, o1, o2, sl, kk, F.eS _ _ _ tB tB, beq_self_eq_true, sDrop_ev, eBm_ev, isLst_ev hg, if_true, appendF_ev hg (show acc.length < 900000 by omega), sRet_ev]
      rfl
    rw [sSeq_ev, while_step, test, decide_eq_true hlt]
    simp only [body]
    rfl
theorem toks_ok (hx : LenOk lx) (F : TokF ks kd oE kF eF) (hsg : ∀ c ∈ sg, LD c = false) (hl : l.length ≤ 90000) (htx : Txt l) {ts : List Tok} (h : Tk sg ks 0 l ts) {S : Store} :
    toksM lx oE kF eF [some (.str l), some (.str sg), some kd, none, none, none] S = .rt (.ref S.size) (S.push (.lst (ts.map Tok.d))) := by
  unfold toksM
  have z := tok_go (k := S.size) hx F hsg hl htx h [] [] (S.push (.lst [])) 100000 none rfl rfl Store.get_push_same (by simp; omega) (by omega)
  have e : ((S.push (.lst [])).set S.size (.lst ([] ++ ts.map Tok.d))) = S.push (.lst (ts.map Tok.d)) := by
    unfold Store.set Store.push Store.size
    simp
  rw [e] at z
  simp only [sSeq_ev, sAsg_ev, eLst_ev, aList_nil, bind_ok', gName_ev, List.set_cons_succ, List.set_cons_zero, eC_ev] at z ⊢
  exact z
end
end L2.Mi

set_option Elab.async false
set_option linter.all false
set_option maxRecDepth 100000
set_option maxHeartbeats 1000000
/-! Mini, 44: the program's grammar as a plain reader of tokens. -/
namespace L2.Mi
open PySem
inductive PErr where
  | syn (p : Nat)
  | big (w : List Nat)
  | none
abbrev NUMBERS : List Nat := [110, 117, 109, 98, 101, 114, 115]
abbrev DEGREE : List Nat := [100, 101, 103, 114, 101, 101]
abbrev NESTING : List Nat := [110, 101, 115, 116, 105, 110, 103]
def Tok.is (t : Tok) (w : List Nat) : Bool := t.k == MARK && t.w == w
abbrev PR (β : Type) := Except PErr (β × List Tok)
def pAcc (w : List Nat) : List Tok → Option (List Tok)
  | t :: r => if t.is w then some r else none
  | [] => none
def pExp (w : List Nat) : List Tok → PR Unit
  | t :: r => if t.is w then .ok ((), r) else .error (.syn t.p)
  | [] => .error .none
def pName : List Tok → PR (List Nat)
  | t :: r => if t.k == NAME then .ok (t.w, r) else .error (.syn t.p)
  | [] => .error .none
inductive Fac where
  | num (v : Int) | nn | ctr (w : List Nat)
def Fac.d : Fac → D
  | .num v => .int v
  | .nn => .str [110]
  | .ctr w => .str w
def Fac.stop : Fac → Bool
  | .ctr _ => true
  | _ => false
def numV (w : List Nat) : Int := (PySem.intText? ⟨w.toArray⟩).getD 0
def pFac (named : Bool) : List Tok → PR Fac
  | t :: r => if t.k == NUMB then (if 150 < t.w.length then .error (.big NUMBERS) else .ok (.num (numV t.w), r))
    else if t.is [110] then .ok (.nn, r) else if named then (if t.k == NAME then .ok (.ctr t.w, r) else .error (.syn t.p)) else .error (.syn t.p)
  | [] => .error .none
def pPow (named : Bool) : List Tok → PR Fac
  | t :: r => if t.k == NUMB then .error (.syn t.p) else pFac named (t :: r)
  | [] => .error .none
def pTermL (named : Bool) : Nat → Fac → List Fac → List Tok → PR (List Fac)
  | 0, _, _, _ => .error .none
  | f + 1, x, acc, r => if x.stop then .ok (acc, r) else match pAcc [42] r with
    | none => .ok (acc, r)
    | some r1 => match pPow named r1 with
      | .error e => .error e
      | .ok (y, r2) => pTermL named f y (acc ++ [y]) r2
structure Term where
  c : List Nat
  p : Nat
  v : Int
def Term.add (t : Term) : Fac → Term
  | .num v => { t with v := v }
  | .nn => { t with p := t.p + 1 }
  | .ctr w => { t with c := w }
def termOf (fs : List Fac) : Term := fs.foldl Term.add ⟨[], 0, 1⟩
def pTerm (named : Bool) (r : List Tok) : PR Term := match pFac named r with
  | .error e => .error e
  | .ok (x, r1) => match pTermL named (r1.length + 1) x [x] r1 with
    | .error e => .error e
    | .ok (fs, r2) => if 3 < (termOf fs).p then .error (.big DEGREE) else .ok (termOf fs, r2)
def pSumL (named : Bool) : Nat → Int → List (Int × Term) → List Tok → PR (List (Int × Term))
  | 0, _, _, _ => .error .none
  | f + 1, s, acc, r => match pTerm named r with
    | .error e => .error e
    | .ok (t, r1) => match pAcc [43] r1 with
      | some r2 => pSumL named f 1 (acc ++ [(s, t)]) r2
      | none => match pAcc [45] r1 with
        | some r2 => pSumL named f (-1) (acc ++ [(s, t)]) r2
        | none => .ok (acc ++ [(s, t)], r1)
def pSum (named : Bool) (r : List Tok) : PR (List (Int × Term)) := match pAcc [45] r with
  | some r1 => pSumL named (r1.length + 1) (-1) [] r1
  | none => pSumL named (r.length + 1) 1 [] r
abbrev wFLUSH : List Nat := [102, 108, 117, 115, 104]
abbrev wFOR : List Nat := [102, 111, 114]
abbrev wREAD : List Nat := [114, 101, 97, 100]
abbrev wWRITE : List Nat := [119, 114, 105, 116, 101]
abbrev wARRAY : List Nat := [97, 114, 114, 97, 121]
def andThen {α β : Type} (a : PR α) (f : α → List Tok → PR β) : PR β := match a with
  | .error e => .error e
  | .ok (x, r) => f x r
def pBlockL (st : List Tok → PR Unit) : Nat → List Tok → PR Unit
  | 0, _ => .error .none
  | f + 1, r => match pAcc [125] r with
    | some r1 => .ok ((), r1)
    | none => match st r with
      | .error e => .error e
      | .ok (_, r1) => pBlockL st f r1
def pAccess (r : List Tok) : PR Unit := andThen (match pAcc wREAD r with | some r1 => .ok ((), r1) | none => pExp wWRITE r) fun _ r1 => andThen (pName r1) fun _ r2 => andThen (pExp [91] r2) fun _ r3 => andThen (pSum true r3) fun _ r4 => pExp [93] r4
/-- the head of a loop: its name, its size -/
def pHead (r : List Tok) : PR Unit := andThen (pName r) fun _ r1 => andThen (pSum false r1) fun _ r2 => .ok ((), r2)
def pStmt : Nat → List Tok → PR Unit
  | m, r => match pAcc wFLUSH r with
    | some r1 => .ok ((), r1)
    | none => match pAcc wFOR r with
      | none => pAccess r
      | some r1 => andThen (pHead r1) fun _ r2 => match m with
        | 0 => if (pAcc [123] r2).isSome then .error (.big NESTING) else pExp [123] r2
        | m + 1 => andThen (pExp [123] r2) fun _ r3 => pBlockL (pStmt m) (r3.length + 1) r3
def pOpen (st : List Tok → PR Unit) : Nat → List Tok → PR Unit
  | 0, _ => .error .none
  | f + 1, r => match r with
    | [] => .error .none
    | t :: q => if t.k == ENDW then .ok ((), t :: q) else match st (t :: q) with
      | .error e => .error e
      | .ok (_, r1) => pOpen st f r1
def pArrs : Nat → List (List Nat × List (Int × Term)) → List Tok → PR (List (List Nat × List (Int × Term)))
  | 0, _, _ => .error .none
  | f + 1, acc, r => match pAcc wARRAY r with
    | none => .ok (acc, r)
    | some r1 => andThen (pName r1) fun x r2 => andThen (pSum false r2) fun tm r3 => pArrs f (acc ++ [(x, tm)]) r3
def pProg (r : List Tok) : PR (List (List Nat × List (Int × Term))) := andThen (pArrs (r.length + 1) [] r) fun as r1 => andThen (pOpen (pStmt 5) (r1.length + 1) r1) fun _ r2 => .ok (as, r2)
/-! ### what is left grows less, and ends with a stop -/
def Tok.ends (t : Tok) : Prop := t.k = ENDW ∨ t.k = BADW
def Stop (ts : List Tok) : Prop := ∃ p t, ts = p ++ [t] ∧ t.ends
theorem Stop.ne {ts : List Tok} (h : Stop ts) : ts ≠ [] := by
  obtain ⟨p, t, rfl, _⟩ := h
  simp
theorem Stop.cons {ts : List Tok} (h : Stop ts) : ∃ t r, ts = t :: r := by
  cases ts with
  | nil => exact absurd rfl h.ne
  | cons t r => exact ⟨t, r, rfl⟩
theorem Stop.tail {t : Tok} {r : List Tok} (h : Stop (t :: r)) (n : ¬ t.ends) : Stop r := by
  obtain ⟨p, u, e, hu⟩ := h
  cases p with
  | nil =>
    simp at e
    rw [← e.1] at hu
    exact absurd hu n
  | cons x p =>
    simp at e
    exact ⟨p, u, e.2, hu⟩
theorem Tok.is_k {t : Tok} {w : List Nat} (h : t.is w = true) : t.k = MARK ∧ t.w = w := by
  unfold Tok.is at h
  simp only [Bool.and_eq_true, beq_iff_eq] at h
  exact h
theorem not_ends {t : Tok} {k : List Nat} (h : t.k = k) (n1 : k ≠ ENDW) (n2 : k ≠ BADW) : ¬ t.ends := by
  unfold Tok.ends
  rw [h]
  exact fun z => z.elim n1 n2
theorem Tok.is_go {t : Tok} {w : List Nat} (h : t.is w = true) : ¬ t.ends := not_ends (Tok.is_k h).1 (by decide) (by decide)
/-- a reader that goes on: less is left, and it is a rest -/
def Goes (r : List Tok) (r' : List Tok) : Prop := ∃ p, r = p ++ r' ∧ p ≠ [] ∧ Stop r'
theorem Goes.lt {r r' : List Tok} (h : Goes r r') : r'.length < r.length := by
  obtain ⟨p, rfl, hp, _⟩ := h
  have : 0 < p.length := List.length_pos_iff.mpr hp
  simp
  omega
theorem Goes.trans {a b c : List Tok} (h1 : Goes a b) (h2 : Goes b c) : Goes a c := by
  obtain ⟨p, rfl, hp, _⟩ := h1
  obtain ⟨q, rfl, hq, hs⟩ := h2
  exact ⟨p ++ q, by simp, by simp [hp], hs⟩
theorem Goes.one {t : Tok} {r : List Tok} (h : Stop (t :: r)) (n : ¬ t.ends) : Goes (t :: r) r := ⟨[t], rfl, by simp, h.tail n⟩
theorem pAcc_goes {w : List Nat} {r r1 : List Tok} (hs : Stop r) (h : pAcc w r = some r1) : Goes r r1 := by
  obtain ⟨t, q, rfl⟩ := hs.cons
  simp only [pAcc] at h
  by_cases hi : t.is w = true
  · rw [if_pos hi] at h
    cases h
    exact Goes.one hs (Tok.is_go hi)
  · rw [if_neg hi] at h
    cases h
end L2.Mi

set_option Elab.async false
set_option linter.all false
set_option maxRecDepth 100000
set_option maxHeartbeats 1000000
/-! Mini, 45: for over a list of the store that stays; dict comprehensions by what is wanted; dicts. -/
namespace L2.Mi
open PySem
section
variable {σ : En} {S S1 : Store}
/-- what is walked, while the store is as P says -/
def WalkP (mi : MI) (σ : En) (S : Store) (ds : List D) (S1 : Store) (P : Store → Prop) : Prop := ∃ src, mi σ S = .ok src S1 ∧ ∀ k S, P S → src k S = some ds[k]?
theorem walk_ref {m : ME} {q : Nat} {ds : List D} (ha : m σ S = .ok (.ref q) S1) (h : S1.get q = some (.lst ds)) : WalkP (iSeq m) σ S ds S1 fun S => S.get q = some (.lst ds) := by
  have e : listAt S1 (.ref q) = some ds := listAt_ref h
  have e0 : iSeq m σ S = .ok (fun k S' => (listAt S' (.ref q)).map fun ds => ds[k]?) S1 := by
    unfold iSeq
    rw [ha, bind_ok']
    simp only [tupD, e]
  refine ⟨_, e0, fun k S2 h2 => ?_⟩
  have e2 : listAt S2 (.ref q) = some ds := listAt_ref h2
  simp only [e2, Option.map_some]
theorem walkP_or1 {a b : MI} {ds : List D} {P : Store → Prop} (h : WalkP a σ S ds S1 P) : WalkP (iOr a b) σ S ds S1 P := by
  obtain ⟨src, e, h⟩ := h
  exact ⟨src, by unfold iOr orB; rw [e], h⟩
theorem forGo_sat {src : Src} {g : MG} {b : MS} {ds : List D} {P : Store → Prop} (h : ∀ k S, P S → src k S = some ds[k]?) (I : List D → En → Store → Prop) (hP : ∀ ds σ S, I ds σ S → P S) {w : Wt}
    (step : ∀ d ds σ S, I (d :: ds) σ S → (g d σ S).sat (fun σ1 S1 => (b σ1 S1).sat ⟨I ds, w.r, w.e, w.n, I ds⟩) NoX) (done : ∀ σ S, I [] σ S → w.n σ S) :
    ∀ (n k : Nat) (σ : En) (S : Store), ds.length < n + k → k ≤ ds.length → I (ds.drop k) σ S → (forGo src g b n k σ S).sat w
  | 0, k, σ, S, h1, h2, _ => absurd h1 (by omega)
  | n + 1, k, σ, S, h1, h2, hi => by
    unfold forGo
    rw [h k S (hP _ _ _ hi)]
    by_cases hk : k < ds.length
    · rw [List.drop_eq_getElem_cons hk] at hi
      rw [List.getElem?_eq_getElem hk]
      have z := step _ _ _ _ hi
      simp only
      cases q : g ds[k] σ S with
      | ok σ1 S1 =>
        rw [q] at z
        have z2 : (b σ1 S1).sat ⟨I (ds.drop (k + 1)), w.r, w.e, w.n, I (ds.drop (k + 1))⟩ := z
        simp only
        cases q2 : b σ1 S1 with
        | nx σ2 S2 => rw [q2] at z2; exact forGo_sat h I hP step done n (k + 1) σ2 S2 (by omega) (by omega) z2
        | ct σ2 S2 => rw [q2] at z2; exact forGo_sat h I hP step done n (k + 1) σ2 S2 (by omega) (by omega) z2
        | bk σ2 S2 => rw [q2] at z2; exact z2
        | rt d S2 => rw [q2] at z2; exact z2
        | exc x σ2 S2 => rw [q2] at z2; exact z2
        | bad => rw [q2] at z2; exact z2
      | exc x S1 => rw [q] at z; exact z.elim
      | bad => rw [q] at z; exact z.elim
    · rw [List.drop_eq_nil_of_le (by omega)] at hi
      rw [List.getElem?_eq_none (by omega)]
      exact done σ S hi
theorem for_satP {mi : MI} {g : MG} {b : MS} {n : Nat} {ds : List D} {P : Store → Prop} (I : List D → En → Store → Prop) {w : Wt} (hw : WalkP mi σ S ds S1 P) (hP : ∀ ds σ S, I ds σ S → P S) (hn : ds.length < n) (h : I ds σ S1)
    (step : ∀ d ds σ S, I (d :: ds) σ S → (g d σ S).sat (fun σ1 S1 => (b σ1 S1).sat ⟨I ds, w.r, w.e, w.n, I ds⟩) NoX) (done : ∀ σ S, I [] σ S → w.n σ S) : (sFor mi g b n σ S).sat w := by
  obtain ⟨src, e, hs⟩ := hw
  unfold sFor
  rw [e]
  simp only
  exact forGo_sat hs I hP step done n 0 σ S1 (by omega) (by omega) h
theorem walk_ky {m : ME} {n : Nat} {kvs : List (D × D)} (ha : m σ S = .ok (.ref n) S1) (h : S1.get n = some (.lck (.dic false kvs))) : Walk (iKy m) σ S (kvs.map (·.1)) S1 := by
  have e0 : iKy m σ S = .ok (fun k _ => some ((kvs[k]?).map (·.1))) S1 := by
    unfold iKy
    rw [ha, bind_ok']
    simp only [h]
  exact ⟨_, e0, fun k S => by rw [List.getElem?_map]⟩
theorem dcGo_sat {src : Src} {t : TgN} {mt : MT} {mk mv : ME} {σ : En} {ds : List D} (h : ∀ k S, src k S = some ds[k]?) (I : List D → List (D × D) → Store → Prop)
    (step : ∀ d r acc S, I (d :: r) acc S → ∃ σ2, t.put d σ = some σ2 ∧ (mt σ2 S).sat (fun c S1 => if c then (mk σ2 S1).sat (fun y S2 => (∃ k, keyD y = some k) ∧ (mv σ2 S2).sat (fun z S3 => acc.length < lim ∧ I r (putD acc y z) S3) NoX) NoX else I r acc S1) NoX) :
    ∀ (n k : Nat) (acc : List (D × D)) (S : Store), ds.length < n + k → k ≤ ds.length → I (ds.drop k) acc S → (dcGo src t mt mk mv σ n k acc S).sat (fun acc2 S2 => I [] acc2 S2) NoX
  | 0, k, acc, S, h1, h2, _ => absurd h1 (by omega)
  | n + 1, k, acc, S, h1, h2, hi => by
    unfold dcGo
    rw [h k S]
    by_cases hk : k < ds.length
    · rw [List.getElem?_eq_getElem hk]
      rw [List.drop_eq_getElem_cons hk] at hi
      obtain ⟨σ2, e1, z⟩ := step _ _ _ _ hi
      simp only [e1]
      cases q : mt σ2 S with
      | ok c S1 =>
        rw [q] at z
        cases c with
        | false => exact dcGo_sat h I step n (k + 1) acc S1 (by omega) (by omega) z
        | true =>
          have z2 : (mk σ2 S1).sat (fun y S2 => (∃ k, keyD y = some k) ∧ (mv σ2 S2).sat (fun z S3 => acc.length < lim ∧ I (ds.drop (k + 1)) (putD acc y z) S3) NoX) NoX := z
          simp only
          cases q2 : mk σ2 S1 with
          | ok y S2 =>
            rw [q2] at z2
            obtain ⟨⟨ky, hy⟩, z3⟩ := z2
            simp only [hy]
            cases q3 : mv σ2 S2 with
            | ok v S3 =>
              rw [q3] at z3
              obtain ⟨z4, z5⟩ := z3
              simp only
              rw [if_pos z4]
              exact dcGo_sat h I step n (k + 1) _ S3 (by omega) (by omega) z5
            | exc x S3 => rw [q3] at z3; exact z3.elim
            | bad => rw [q3] at z3; exact z3.elim
          | exc x S2 => rw [q2] at z2; exact z2.elim
          | bad => rw [q2] at z2; exact z2.elim
      | exc x S1 => rw [q] at z; exact z.elim
      | bad => rw [q] at z; exact z.elim
    · rw [List.getElem?_eq_none (by omega)]
      rw [List.drop_eq_nil_of_le (by omega)] at hi
      exact hi
theorem dc_sat {mi : MI} {t : TgN} {mt : MT} {mk mv : ME} {vs : List Nat} {n : Nat} {ds : List D} {Q : D → Store → Prop} {E : Xn → Store → Prop} (I : List D → List (D × D) → Store → Prop) (hw : Walk mi σ S ds S1) (hn : ds.length < n) (h : I ds [] S1)
    (step : ∀ d r acc S, I (d :: r) acc S → ∃ σ2, t.put d (wipeD σ vs) = some σ2 ∧ (mt σ2 S).sat (fun c S1 => if c then (mk σ2 S1).sat (fun y S2 => (∃ k, keyD y = some k) ∧ (mv σ2 S2).sat (fun z S3 => acc.length < lim ∧ I r (putD acc y z) S3) NoX) NoX else I r acc S1) NoX)
    (done : ∀ acc S, I [] acc S → Q (.ref S.size) (S.push (.dic false acc))) : (eDc mi t mt mk mv vs n σ S).sat Q E := by
  obtain ⟨src, e, hs⟩ := hw
  unfold eDc
  rw [e, bind_ok', sat_bind]
  exact (dcGo_sat hs I step n 0 [] S1 (by omega) (by omega) h).noX fun acc S2 z => done acc S2 z
theorem lock_sat {i n : Nat} {m : ME} {kvs : List (D × D)} {Q : D → Store → Prop} {E : Xn → Store → Prop} (h1 : σ[i]? = some (some (.ref n))) (h2 : S.get n = some (.dic false kvs)) (h : (m σ (S.set n (.lck (.dic false kvs)))).sat (fun d S1 => Q d (S1.set n (.dic false kvs))) NoX) : (eLock i m σ S).sat Q E := by
  unfold eLock
  simp only [h1, h2]
  cases q : m σ (S.set n (.lck (.dic false kvs))) with
  | ok d S1 => rw [q] at h; exact h
  | exc x S1 => rw [q] at h; exact h.elim
  | bad => rw [q] at h; exact h.elim
end
/-! ### dicts -/
theorem eqKD_str {a b : List Nat} : eqKD (.str a) (.str b) = (a == b) := rfl
theorem eqKD_int {a b : Int} : eqKD (.int a) (.int b) = (a == b) := rfl
theorem valD_mem {kvs : List (D × D)} {k : D} {v : D} (h : valD kvs k = some v) : ∃ q ∈ kvs, eqKD q.1 k = true ∧ q.2 = v := by
  unfold valD at h
  cases q : kvs.find? fun q => eqKD q.1 k with
  | none => rw [q] at h; cases h
  | some x =>
    rw [q] at h
    cases h
    exact ⟨x, List.mem_of_find?_eq_some q, by have z := List.find?_some (p := fun q : D × D => eqKD q.1 k) q; exact z, rfl⟩
theorem valD_some {kvs : List (D × D)} {k : D} {q : D × D} (h : q ∈ kvs) (e : eqKD q.1 k = true) : ∃ v, valD kvs k = some v := by
  unfold valD
  cases z : kvs.find? fun q => eqKD q.1 k with
  | none => exact absurd e (by simpa using List.find?_eq_none.mp z q h)
  | some x => exact ⟨x.2, rfl⟩
theorem putD_mem {kvs : List (D × D)} {k v : D} {q : D × D} (h : q ∈ putD kvs k v) : q ∈ kvs ∨ q = (k, v) ∨ ∃ p ∈ kvs, eqKD p.1 k = true ∧ q = (p.1, v) := by
  unfold putD at h
  split at h
  · obtain ⟨p, hp, e⟩ := List.mem_map.mp h
    by_cases z : eqKD p.1 k = true
    · rw [if_pos z] at e
      exact .inr (.inr ⟨p, hp, z, e.symm⟩)
    · rw [if_neg z] at e
      exact .inl (e ▸ hp)
  · rcases List.mem_append.mp h with h | h
    · exact .inl h
    · exact .inr (.inl (by simpa using h))
theorem putD_len {kvs : List (D × D)} {k v : D} : (putD kvs k v).length ≤ kvs.length + 1 := by
  unfold putD
  split <;> simp
theorem putD_ne {kvs : List (D × D)} {k v : D} : putD kvs k v ≠ [] := by
  unfold putD
  split
  · rename_i h
    intro z
    have e : kvs = [] := by simpa using z
    rw [e] at h
    simp at h
  · simp
theorem dicK_ref {S : Store} {n : Nat} {kvs : List (D × D)} (h : S.get n = some (.dic false kvs)) : dicK S (.ref n) = some kvs := by
  unfold dicK
  simp only [h]
theorem dicL_ref {S : Store} {n : Nat} {kvs : List (D × D)} (h : S.get n = some (.lck (.dic false kvs))) : dicL S (.ref n) = some kvs := by
  unfold dicL
  simp only [h]
theorem dgetL_ev {S : Store} {n : Nat} {kvs : List (D × D)} {y v : D} {k : Key} (h : S.get n = some (.lck (.dic false kvs))) (hy : keyD y = some k) (hv : valD kvs y = some v) : dgetL (.ref n) y S = .ok v S := by
  unfold dgetL
  simp only [dicL_ref h, hy, hv]
theorem dgetF_ev {S : Store} {n : Nat} {kvs : List (D × D)} {y v : D} {k : Key} (h : S.get n = some (.dic false kvs)) (hy : keyD y = some k) (hv : valD kvs y = some v) : dgetF (.ref n) y S = .ok v S := by
  unfold dgetF
  simp only [dicK_ref h, hy, hv]
end L2.Mi

set_option Elab.async false
set_option linter.all false
set_option maxRecDepth 100000
set_option maxHeartbeats 1000000
/-! Mini, 46: the plain reader goes on. -/
namespace L2.Mi
open PySem
theorem pName_goes {r r' : List Tok} {x : List Nat} (hs : Stop r) (h : pName r = .ok (x, r')) : Goes r r' := by
  obtain ⟨t, q, rfl⟩ := hs.cons
  simp only [pName] at h
  by_cases hk : (t.k == NAME) = true
  · rw [if_pos hk] at h
    cases h
    exact Goes.one hs (not_ends (beq_iff_eq.mp hk) (by decide) (by decide))
  · rw [if_neg hk] at h
    cases h
theorem pExp_goes {w : List Nat} {r r' : List Tok} {x : Unit} (hs : Stop r) (h : pExp w r = .ok (x, r')) : Goes r r' := by
  obtain ⟨t, q, rfl⟩ := hs.cons
  simp only [pExp] at h
  by_cases hk : t.is w = true
  · rw [if_pos hk] at h
    cases h
    exact Goes.one hs (Tok.is_go hk)
  · rw [if_neg hk] at h
    cases h
theorem pFac_goes {named : Bool} {r r' : List Tok} {x : Fac} (hs : Stop r) (h : pFac named r = .ok (x, r')) : Goes r r' := by
  obtain ⟨t, q, rfl⟩ := hs.cons
  simp only [pFac] at h
  by_cases h1 : (t.k == NUMB) = true
  · rw [if_pos h1] at h
    by_cases h2 : 150 < t.w.length
    · rw [if_pos h2] at h
      cases h
    · rw [if_neg h2] at h
      cases h
      exact Goes.one hs (not_ends (beq_iff_eq.mp h1) (by decide) (by decide))
  · rw [if_neg h1] at h
    by_cases h2 : t.is [110] = true
    · rw [if_pos h2] at h
      cases h
      exact Goes.one hs (Tok.is_go h2)
    · rw [if_neg h2] at h
      cases named with
      | false => cases h
      | true =>
        simp only [if_true] at h
        by_cases h3 : (t.k == NAME) = true
        · rw [if_pos h3] at h
          cases h
          exact Goes.one hs (not_ends (beq_iff_eq.mp h3) (by decide) (by decide))
        · rw [if_neg h3] at h
          cases h
theorem pPow_goes {named : Bool} {r r' : List Tok} {x : Fac} (hs : Stop r) (h : pPow named r = .ok (x, r')) : Goes r r' := by
  obtain ⟨t, q, rfl⟩ := hs.cons
  simp only [pPow] at h
  by_cases h1 : (t.k == NUMB) = true
  · rw [if_pos h1] at h
    cases h
  · rw [if_neg h1] at h
    exact pFac_goes hs h
def Goes0 (r r' : List Tok) : Prop := r' = r ∨ Goes r r'
theorem Goes.st {r r' : List Tok} (h : Goes r r') : Stop r' := by
  obtain ⟨_, _, _, h⟩ := h
  exact h
theorem Goes.trans0 {a b c : List Tok} (h1 : Goes a b) (h2 : Goes0 b c) : Goes a c := by
  rcases h2 with rfl | h2
  · exact h1
  · exact h1.trans h2
theorem pTermL_goes {named : Bool} : ∀ (f : Nat) {x : Fac} {acc fs : List Fac} {r r' : List Tok}, Stop r → pTermL named f x acc r = .ok (fs, r') → Goes0 r r'
  | 0, _, _, _, _, _, _, h => by cases h
  | f + 1, x, acc, fs, r, r', hs, h => by
    rw [pTermL] at h
    by_cases h1 : x.stop = true
    · rw [if_pos h1] at h
      cases h
      exact .inl rfl
    · rw [if_neg h1] at h
      cases e : pAcc [42] r with
      | none =>
        rw [e] at h
        cases h
        exact .inl rfl
      | some r1 =>
        simp only [e] at h
        have g1 := pAcc_goes hs e
        cases e2 : pPow named r1 with
        | error er => simp only [e2] at h; cases h
        | ok q =>
          obtain ⟨y, r2⟩ := q
          simp only [e2] at h
          have g2 := g1.trans (pPow_goes g1.st e2)
          exact .inr (g2.trans0 (pTermL_goes f g2.st h))
theorem pTerm_goes {named : Bool} {r r' : List Tok} {t : Term} (hs : Stop r) (h : pTerm named r = .ok (t, r')) : Goes r r' := by
  unfold pTerm at h
  cases e : pFac named r with
  | error er => simp only [e] at h; cases h
  | ok q =>
    obtain ⟨x, r1⟩ := q
    simp only [e] at h
    have g1 := pFac_goes hs e
    cases e2 : pTermL named (r1.length + 1) x [x] r1 with
    | error er => simp only [e2] at h; cases h
    | ok q =>
      obtain ⟨fs, r2⟩ := q
      simp only [e2] at h
      by_cases h3 : 3 < (termOf fs).p
      · rw [if_pos h3] at h
        cases h
      · rw [if_neg h3] at h
        cases h
        exact g1.trans0 (pTermL_goes _ g1.st e2)
theorem pSumL_goes {named : Bool} : ∀ (f : Nat) {s : Int} {acc tm : List (Int × Term)} {r r' : List Tok}, Stop r → pSumL named f s acc r = .ok (tm, r') → Goes r r'
  | 0, _, _, _, _, _, _, h => by cases h
  | f + 1, s, acc, tm, r, r', hs, h => by
    rw [pSumL] at h
    cases e : pTerm named r with
    | error er => simp only [e] at h; cases h
    | ok q =>
      obtain ⟨t, r1⟩ := q
      simp only [e] at h
      have g1 := pTerm_goes hs e
      cases e1 : pAcc [43] r1 with
      | some r2 =>
        simp only [e1] at h
        have g2 := g1.trans (pAcc_goes g1.st e1)
        exact g2.trans (pSumL_goes f g2.st h)
      | none =>
        simp only [e1] at h
        cases e2 : pAcc [45] r1 with
        | some r2 =>
          simp only [e2] at h
          have g2 := g1.trans (pAcc_goes g1.st e2)
          exact g2.trans (pSumL_goes f g2.st h)
        | none =>
          simp only [e2] at h
          cases h
          exact g1
theorem pSum_goes {named : Bool} {r r' : List Tok} {tm : List (Int × Term)} (hs : Stop r) (h : pSum named r = .ok (tm, r')) : Goes r r' := by
  unfold pSum at h
  cases e : pAcc [45] r with
  | some r1 =>
    simp only [e] at h
    have g1 := pAcc_goes hs e
    exact g1.trans (pSumL_goes _ g1.st h)
  | none =>
    simp only [e] at h
    exact pSumL_goes _ hs h
theorem andThen_ok {α β : Type} {a : PR α} {f : α → List Tok → PR β} {y : β} {r' : List Tok} (h : andThen a f = .ok (y, r')) : ∃ x r1, a = .ok (x, r1) ∧ f x r1 = .ok (y, r') := by
  cases a with
  | error e => cases h
  | ok q => exact ⟨q.1, q.2, rfl, h⟩
theorem pAccess_goes {r r' : List Tok} {x : Unit} (hs : Stop r) (h : pAccess r = .ok (x, r')) : Goes r r' := by
  unfold pAccess at h
  obtain ⟨_, r1, e1, h⟩ := andThen_ok h
  obtain ⟨_, r2, e2, h⟩ := andThen_ok h
  obtain ⟨_, r3, e3, h⟩ := andThen_ok h
  obtain ⟨_, r4, e4, h⟩ := andThen_ok h
  have g1 : Goes r r1 := by
    cases q : pAcc wREAD r with
    | some z =>
      rw [q] at e1
      cases e1
      exact pAcc_goes hs q
    | none =>
      rw [q] at e1
      exact pExp_goes hs e1
  have g2 := g1.trans (pName_goes g1.st e2)
  have g3 := g2.trans (pExp_goes g2.st e3)
  have g4 := g3.trans (pSum_goes g3.st e4)
  exact g4.trans (pExp_goes g4.st h)
theorem pBlockL_goes {st : List Tok → PR Unit} (hst : ∀ r r' x, Stop r → st r = .ok (x, r') → Goes r r') : ∀ (f : Nat) {r r' : List Tok} {x : Unit}, Stop r → pBlockL st f r = .ok (x, r') → Goes r r'
  | 0, _, _, _, _, h => by cases h
  | f + 1, r, r', x, hs, h => by
    rw [pBlockL] at h
    cases e : pAcc [125] r with
    | some r1 =>
      simp only [e] at h
      cases h
      exact pAcc_goes hs e
    | none =>
      simp only [e] at h
      cases e2 : st r with
      | error er => simp only [e2] at h; cases h
      | ok q =>
        obtain ⟨_, r1⟩ := q
        simp only [e2] at h
        have g := hst _ _ _ hs e2
        exact g.trans (pBlockL_goes hst f g.st h)
theorem pHead_goes {r r' : List Tok} {x : Unit} (hs : Stop r) (h : pHead r = .ok (x, r')) : Goes r r' := by
  unfold pHead at h
  obtain ⟨_, r1, e1, h⟩ := andThen_ok h
  obtain ⟨_, r2, e2, h⟩ := andThen_ok h
  cases h
  have g1 := pName_goes hs e1
  exact g1.trans (pSum_goes g1.st e2)
theorem pStmt_goes : ∀ (m : Nat) {r r' : List Tok} {x : Unit}, Stop r → pStmt m r = .ok (x, r') → Goes r r'
  | m, r, r', x, hs, h => by
    rw [pStmt] at h
    cases e : pAcc wFLUSH r with
    | some r1 =>
      simp only [e] at h
      cases h
      exact pAcc_goes hs e
    | none =>
      simp only [e] at h
      cases e1 : pAcc wFOR r with
      | none =>
        simp only [e1] at h
        exact pAccess_goes hs h
      | some r1 =>
        simp only [e1] at h
        have g1 := pAcc_goes hs e1
        obtain ⟨_, r2, e2, h⟩ := andThen_ok h
        have g2 := g1.trans (pHead_goes g1.st e2)
        cases m with
        | zero =>
          simp only at h
          split at h
          · cases h
          · exact g2.trans (pExp_goes g2.st h)
        | succ m =>
          simp only at h
          obtain ⟨_, r3, e3, h⟩ := andThen_ok h
          have g3 := g2.trans (pExp_goes g2.st e3)
          exact g3.trans (pBlockL_goes (fun r r' x hs h => pStmt_goes m hs h) _ g3.st h)
end L2.Mi

set_option Elab.async false
set_option linter.all false
set_option maxRecDepth 100000
set_option maxHeartbeats 1000000
/-! Mini, 47: what holds of all tokens of a text. -/
namespace L2.Mi
open PySem
theorem kindS_cases {ks : List (List Nat)} {w : List Nat} : (kindS ks w = MARK ∧ ks.any (· == w) = true) ∨ (kindS ks w = NAME ∧ ks.any (· == w) = false) ∨ (kindS ks w = NUMB ∧ allD w = true ∧ w ≠ []) ∨ kindS ks w = BADW := by
  unfold kindS
  cases h : ks.any (· == w) with
  | true => exact .inl ⟨rfl, rfl⟩
  | false =>
    simp only [Bool.false_eq_true, if_false]
    cases w with
    | nil => exact .inr (.inr (.inr rfl))
    | cons c r =>
      by_cases h1 : c ∈ LETS
      · simp [h1]
      · simp only [decide_eq_false h1, Bool.false_eq_true, if_false]
        by_cases h2 : allD (c :: r) = true
        · rw [if_pos h2]
          by_cases h3 : (c == 48 && !r.isEmpty) = true
          · rw [if_pos h3]
            exact .inr (.inr (.inr rfl))
          · rw [if_neg h3]
            exact .inr (.inr (.inl ⟨rfl, h2, by simp⟩))
        · rw [if_neg h2]
          exact .inr (.inr (.inr rfl))
theorem digs_num {w : List Nat} (h : allD w = true) (h0 : w ≠ []) (hl : w.length ≤ 150) : ∃ v, PySem.intText? ⟨w.toArray⟩ = some v := by
  have e : ((⟨w.toArray⟩ : Str).cps.toList) = w := by simp
  refine ⟨_, intText_digits (x := ⟨w.toArray⟩) ?_ ?_ ?_⟩
  · rw [e]
    intro c hc
    unfold allD at h
    have z := List.all_eq_true.mp h c hc
    have z2 : c ∈ DIGS := by simpa using z
    unfold DIGS at z2
    simp at z2
    constructor <;> omega
  · rw [e]; exact h0
  · show (⟨w.toArray⟩ : Str).length ≤ 4300
    simp [Str.length]
    omega
structure TokA (ks : List (List Nat)) (m : Nat) (t : Tok) : Prop where
  k : Txt t.k
  w : Txt t.w
  v : t.k = NUMB → t.w.length ≤ 150 → ∃ v, PySem.intText? ⟨t.w.toArray⟩ = some v
  n : t.k = NAME → ks.any (· == t.w) = false
  l : t.w.length ≤ m
theorem tk_all {sg : List Nat} {ks : List (List Nat)} {a : Nat} {l : List Nat} {ts : List Tok} {m : Nat} (h : Tk sg ks a l ts) : Txt l → l.length ≤ m → (∀ t ∈ ts, TokA ks m t) ∧ Stop ts ∧ ts.length ≤ l.length + 1 := by
  have tE : Txt ENDW := by unfold Txt; decide
  have tB : Txt BADW := by unfold Txt; decide
  have tM : Txt MARK := by unfold Txt; decide
  have t0 : Txt [] := fun c hc => nomatch hc
  have one : ∀ {k : List Nat} {p : Nat}, Txt k → k ≠ NUMB → k ≠ NAME → TokA ks m ⟨k, [], p⟩ := fun hk n1 n2 => ⟨hk, t0, fun z => absurd z n1, fun z => absurd z n2, Nat.zero_le _⟩
  induction h with
  | @nil a => exact fun _ _ => ⟨fun t ht => by simp at ht; subst ht; exact one tE (by decide) (by decide), ⟨[], _, rfl, .inl rfl⟩, by simp⟩
  | @gap a c t ts h r ih =>
    intro hx hl
    obtain ⟨i1, i2, i3⟩ := ih (hx.sub fun x hx => by simp [hx]) (by simp at hl; omega)
    exact ⟨i1, i2, by simp; omega⟩
  | @sign a c t ts h1 h2 h r ih =>
    intro hx hl
    obtain ⟨i1, i2, i3⟩ := ih (hx.sub fun x hx => by simp [hx]) (by simp at hl; omega)
    refine ⟨fun u hu => ?_, ?_, by simp; omega⟩
    · rcases List.mem_cons.mp hu with rfl | hu
      · exact ⟨tM, hx.sub fun x hx => by simp at hx; simp [hx], fun z => absurd (show MARK = NUMB from z) (by decide), fun z => absurd (show MARK = NAME from z) (by decide), by simp at hl ⊢; omega⟩
      · exact i1 u hu
    · obtain ⟨p, u, e, hu⟩ := i2
      exact ⟨_ :: p, u, by rw [e]; rfl, hu⟩
  | @run a w rest ts h0 h1 h2 h3 r ih =>
    intro hx hl
    obtain ⟨i1, i2, i3⟩ := ih (hx.sub fun x hx => by simp [hx]) (by simp at hl; omega)
    have hw : 0 < w.length := List.length_pos_iff.mpr h0
    refine ⟨fun u hu => ?_, ?_, by simp; omega⟩
    · rcases List.mem_cons.mp hu with rfl | hu
      · refine ⟨kindS_txt, hx.sub fun x hx => by simp [hx], fun z hb => ?_, fun z => ?_, by simp at hl ⊢; omega⟩
        · have z : kindS ks w = NUMB := z
          rcases kindS_cases (ks := ks) (w := w) with ⟨q, _⟩ | ⟨q, _⟩ | ⟨_, q1, q2⟩ | q
          · rw [q] at z; exact absurd z (by decide)
          · rw [q] at z; exact absurd z (by decide)
          · exact digs_num q1 q2 hb
          · rw [q] at z; exact absurd z (by decide)
        · have z : kindS ks w = NAME := z
          rcases kindS_cases (ks := ks) (w := w) with ⟨q, _⟩ | ⟨_, q⟩ | ⟨q, _, _⟩ | q
          · rw [q] at z; exact absurd z (by decide)
          · exact q
          · rw [q] at z; exact absurd z (by decide)
          · rw [q] at z; exact absurd z (by decide)
      · exact i1 u hu
    · obtain ⟨p, u, e, hu⟩ := i2
      exact ⟨_ :: p, u, by rw [e]; rfl, hu⟩
  | @odd a c t h1 h2 h h3 => exact fun _ _ => ⟨fun t ht => by simp at ht; subst ht; exact one tB (by decide) (by decide), ⟨[], _, rfl, .inr rfl⟩, by simp⟩
  | @bad a w rest h0 h1 h2 h3 => exact fun _ _ => ⟨fun t ht => by simp at ht; subst ht; exact one tB (by decide) (by decide), ⟨[], _, rfl, .inr rfl⟩, by simp⟩
end L2.Mi

set_option Elab.async false
set_option linter.all false
set_option maxRecDepth 100000
set_option maxHeartbeats 1000000
/-! Mini, 48: how many parts a sum has; tokens of known words; pieces of texts. -/
namespace L2.Mi
open PySem
theorem pSumL_len {named : Bool} : ∀ (f : Nat) {s : Int} {acc tm : List (Int × Term)} {r r' : List Tok}, Stop r → pSumL named f s acc r = .ok (tm, r') → tm.length + r'.length ≤ acc.length + r.length
  | 0, _, _, _, _, _, _, h => by cases h
  | f + 1, s, acc, tm, r, r', hs, h => by
    rw [pSumL] at h
    cases e : pTerm named r with
    | error er => simp only [e] at h; cases h
    | ok q =>
      obtain ⟨t, r1⟩ := q
      simp only [e] at h
      have g1 := pTerm_goes hs e
      have l1 := g1.lt
      cases e1 : pAcc [43] r1 with
      | some r2 =>
        simp only [e1] at h
        have g2 := pAcc_goes g1.st e1
        have l2 := g2.lt
        have z := pSumL_len f g2.st h
        rw [List.length_append, List.length_singleton] at z
        omega
      | none =>
        simp only [e1] at h
        cases e2 : pAcc [45] r1 with
        | some r2 =>
          simp only [e2] at h
          have g2 := pAcc_goes g1.st e2
          have l2 := g2.lt
          have z := pSumL_len f g2.st h
          rw [List.length_append, List.length_singleton] at z
          omega
        | none =>
          simp only [e2] at h
          cases h
          rw [List.length_append, List.length_singleton]
          omega
theorem pSum_len {named : Bool} {r r' : List Tok} {tm : List (Int × Term)} (hs : Stop r) (h : pSum named r = .ok (tm, r')) : tm.length + r'.length ≤ r.length := by
  unfold pSum at h
  cases e : pAcc [45] r with
  | some r1 =>
    simp only [e] at h
    have g := pAcc_goes hs e
    have z := pSumL_len _ g.st h
    have := g.lt
    simp at z
    omega
  | none =>
    simp only [e] at h
    have z := pSumL_len _ hs h
    simpa using z
theorem Stop.suffix {ts p q : List Tok} (h : Stop ts) (e : ts = p ++ q) (hq : q ≠ []) : Stop q := by
  obtain ⟨a, t, e2, ht⟩ := h
  have hq2 : q = q.dropLast ++ [q.getLast hq] := (List.dropLast_concat_getLast hq).symm
  rw [hq2, ← List.append_assoc] at e
  rw [e] at e2
  have := List.append_inj' e2 rfl
  simp at this
  exact ⟨q.dropLast, q.getLast hq, hq2, by rw [this.2]; exact ht⟩
/-- few tokens, few parts -/
theorem few_sums {ts : List Tok} (hs : Stop ts) (hl : ts.length < 64) : ∀ p q, ts = p ++ q → ∀ tm r', pSum true q = .ok (tm, r') → tm.length < 64 := by
  intro p q e tm r' h
  have hq : q ≠ [] := fun z => by rw [z] at h; cases h
  have z := pSum_len (hs.suffix e hq) h
  have e2 := congrArg List.length e
  rw [List.length_append] at e2
  omega
theorem Tk.word {sg : List Nat} {ks : List (List Nat)} {a : Nat} {w rest K : List Nat} {ts : List Tok} (hk : kindS ks w = K) (hK : K ≠ BADW) (h0 : w ≠ []) (h1 : ∀ c ∈ w, LD c = true) (h2 : ∀ c t, rest = c :: t → LD c = false) (r : Tk sg ks (a + w.length) rest ts) : Tk sg ks a (w ++ rest) (⟨K, w, a⟩ :: ts) := by
  subst hk
  exact .run h0 h1 h2 hK r
theorem cutD_mem {α : Type} {l : List α} {lo hi : Option Int} {c : α} (h : c ∈ cutD l lo hi) : c ∈ l := List.mem_of_mem_drop (List.mem_of_mem_take h)
theorem cutD_len {α : Type} {l : List α} {lo hi : Option Int} : (cutD l lo hi).length ≤ l.length := by
  unfold cutD
  rw [List.length_take, List.length_drop]
  omega
theorem sliceF_txt {S : Store} {l : List Nat} {lo hi : Option Int} (hl : l.length ≤ 900000) : sliceF (.str l) lo hi S = .ok (.str (cutD l lo hi)) S := by
  unfold sliceF
  simp only
  rw [if_pos (by have := lim_big; omega)]
theorem addF_str {own : Op2} {S : Store} {a b : List Nat} (h : a.length + b.length ≤ 900000) : addF own (.str a) (.str b) S = .ok (.str (a ++ b)) S := by
  unfold addF
  simp only
  rw [if_pos (by have := lim_big; omega)]
theorem LD_lt {c : Nat} (h : LD c = true) : c < 0x110000 := by
  unfold LD at h
  rw [Bool.or_eq_true, decide_eq_true_eq, decide_eq_true_eq] at h
  rcases h with h | h
  · unfold LETS at h
    simp at h
    omega
  · unfold DIGS at h
    simp at h
    omega
end L2.Mi

set_option Elab.async false
set_option linter.all false
set_option maxRecDepth 100000
set_option maxHeartbeats 1000000
/-! Mini, 49: what stands beside a change; draws. -/
namespace L2.Mi
open PySem
/-- all that stood stands, but what is at r -/
structure Fr (S S' : Store) (r : Nat) : Prop where
  sz : S.size ≤ S'.size
  same : ∀ j, j < S.size → j ≠ r → S'.get j = S.get j
theorem Fr.refl {S : Store} {r : Nat} : Fr S S r := ⟨Nat.le_refl _, fun _ _ _ => rfl⟩
theorem Fr.trans {S S1 S2 : Store} {r : Nat} (a : Fr S S1 r) (b : Fr S1 S2 r) : Fr S S2 r := ⟨Nat.le_trans a.sz b.sz, fun j h n => (b.same j (Nat.lt_of_lt_of_le h a.sz) n).trans (a.same j h n)⟩
theorem Fr.get {S S1 : Store} {r j : Nat} {o : Ob} (a : Fr S S1 r) (h : S.get j = some o) (n : j ≠ r) : S1.get j = some o := (a.same j (Store.get_lt h) n).trans h
theorem Fr.push {S : Store} {r : Nat} {o : Ob} : Fr S (S.push o) r := ⟨by rw [Store.size_push]; omega, fun j h _ => Store.get_push_lt h⟩
theorem Fr.set {S : Store} {r : Nat} {o : Ob} : Fr S (S.set r o) r := ⟨by rw [Store.size_set]; exact Nat.le_refl _, fun j _ n => Store.get_set_ne (Ne.symm n)⟩
/-- what is new may be changed -/
theorem Fr.set_new {S S1 : Store} {r j : Nat} {o : Ob} (a : Fr S S1 r) (h : S.size ≤ j) : Fr S (S1.set j o) r := ⟨by rw [Store.size_set]; exact a.sz, fun i hi n => by rw [Store.get_set_ne (by omega)]; exact a.same i hi n⟩
theorem Fr.push_new {S S1 : Store} {r : Nat} {o : Ob} (a : Fr S S1 r) : Fr S (S1.push o) r := a.trans Fr.push
theorem opsI_or {f g h k : Op2} : OpsI (opOr (addF f) h) (opOr (mulF g) k) := ⟨fun _ _ _ => rfl, fun i j S q => by unfold opOr; rw [mulF_ev q]; rfl⟩
/-- one of a list, drawn -/
theorem pick {S : Store} {xs : List D} {r : Int} {m : Int} (hm : (xs.length : Int) = m) (r0 : 0 ≤ r) (r1 : r < m) : ∃ x, x ∈ xs ∧ itemF (.lv xs) (.int r) S = .ok x S := by
  have hl : r.toNat < xs.length := by omega
  refine ⟨xs[r.toNat], List.getElem_mem hl, itemF_seq (xs := xs) rfl ?_⟩
  have z := atI_nat (xs := xs) (k := r.toNat) (x := xs[r.toNat]) (List.getElem?_eq_getElem hl)
  rwa [Int.toNat_of_nonneg r0] at z
theorem Pool.lt {S : Store} {i : Nat} (h : Pool S i) : i < S.size := by obtain ⟨_, _, h, _⟩ := h; exact Store.get_lt h
theorem Pool.keep {S S' : Store} {i : Nat} (h : Pool S i) (e : S'.get i = S.get i) : Pool S' i := by
  obtain ⟨a, b, h1, h2⟩ := h
  exact ⟨a, b, e.trans h1, h2⟩
theorem Pool.push {S : Store} {i : Nat} {o : Ob} (h : Pool S i) : Pool (S.push o) i := h.keep (Store.get_push_lt h.lt)
theorem Pool.fr {S S' : Store} {i r : Nat} (h : Pool S i) (f : Fr S S' r) (n : i ≠ r) : Pool S' i := h.keep (f.same i h.lt n)
theorem Fr.other {S S' : Store} {r q : Nat} (f : Fr S S' r) (h : S.size ≤ r) : Fr S S' q := ⟨f.sz, fun j hj _ => f.same j hj (by omega)⟩
theorem Fr.any {S : Store} {r : Nat} : Fr S S r := Fr.refl
end L2.Mi

set_option Elab.async false
set_option linter.all false
set_option maxRecDepth 100000
set_option maxHeartbeats 1000000
/-! Mini, 50: equality of plain data. -/
namespace L2.Mi
open PySem
mutual
/-- plain data: no reference, texts in order, at most so deep -/
def okD : Nat → D → Bool
  | _, .non => true
  | _, .bl _ => true
  | _, .int _ => true
  | _, .str x => x.all (· < 0x110000)
  | n + 1, .tup ds => okDs n ds
  | n + 1, .kt ds => okDs n ds
  | n + 1, .lv ds => okDs n ds
  | _, _ => false
def okDs : Nat → List D → Bool
  | _, [] => true
  | n, d :: ds => okD n d && okDs n ds
end
mutual
def toP : D → PyData
  | .non => .none
  | .bl b => .bool b
  | .int i => .int i
  | .str x => .str ⟨x.toArray⟩
  | .tup ds => .tuple (toPs ds)
  | .kt ds => .tuple (toPs ds)
  | .lv ds => .list (toPs ds)
  | _ => .none
def toPs : List D → List PyData
  | [] => []
  | d :: ds => toP d :: toPs ds
end
theorem Txt.all {x : List Nat} (h : x.all (· < 0x110000) = true) : Txt x := fun c hc => by
  have := List.all_eq_true.mp h c hc
  simpa using this
theorem Txt.of_ok {x : List Nat} (h : Txt x) : x.all (· < 0x110000) = true := List.all_eq_true.mpr fun c hc => by simpa using h c hc
theorem okD_str {n : Nat} {x : List Nat} (h : Txt x) : okD n (.str x) = true := by
  cases n <;> (unfold okD; exact h.of_ok)
mutual
theorem dat_ok {S : Store} : ∀ (n k : Nat) (d : D), okD n d = true → dat (n + k) S d = some (toP d)
  | n, k, .non, _ => by cases n <;> cases k <;> rfl
  | n, k, .bl b, _ => by cases n <;> cases k <;> rfl
  | n, k, .int b, _ => by cases n <;> cases k <;> rfl
  | n, k, .str b, _ => by cases n <;> cases k <;> rfl
  | 0, k, .tup ds, h => by unfold okD at h; cases h
  | 0, k, .kt ds, h => by unfold okD at h; cases h
  | 0, k, .lv ds, h => by unfold okD at h; cases h
  | n + 1, k, .tup ds, h => by
    unfold okD at h
    rw [Nat.succ_add]
    unfold dat toP
    rw [dats_ok n k ds h]
    rfl
  | n + 1, k, .kt ds, h => by
    unfold okD at h
    rw [Nat.succ_add]
    unfold dat toP
    rw [dats_ok n k ds h]
    rfl
  | n + 1, k, .lv ds, h => by
    unfold okD at h
    rw [Nat.succ_add]
    unfold dat toP
    rw [dats_ok n k ds h]
    rfl
  | n, k, .ref _, h => by cases n <;> (unfold okD at h; cases h)
  | n, k, .ty _, h => by cases n <;> (unfold okD at h; cases h)
  | n, k, .dv _ _, h => by cases n <;> (unfold okD at h; cases h)
  | n, k, .cl _, h => by cases n <;> (unfold okD at h; cases h)
  | n, k, .fl _, h => by cases n <;> (unfold okD at h; cases h)
theorem dats_ok {S : Store} : ∀ (n k : Nat) (ds : List D), okDs n ds = true → mapO (dat (n + k) S) ds = some (toPs ds)
  | _, _, [], _ => rfl
  | n, k, d :: ds, h => by
    unfold okDs at h
    rw [Bool.and_eq_true] at h
    unfold mapO toPs
    rw [dat_ok n k d h.1, dats_ok n k ds h.2]
end
mutual
theorem lay_ok : ∀ (n : Nat) (d : D), okD n d = true → (toP d).canLay0 = true ∧ (toP d).depth ≤ n
  | n, .non, _ => by unfold toP; simp [PyData.canLay0, PyData.depth]
  | n, .bl b, _ => by unfold toP; simp [PyData.canLay0, PyData.depth]
  | n, .int b, _ => by unfold toP; simp [PyData.canLay0, PyData.depth]
  | n, .str b, h => by
    have h' : b.all (· < 0x110000) = true := by cases n <;> (unfold okD at h; exact h)
    have := (Txt.all h').ok
    unfold toP
    simp [PyData.canLay0, PyData.depth, this]
  | 0, .tup ds, h => by unfold okD at h; cases h
  | 0, .kt ds, h => by unfold okD at h; cases h
  | 0, .lv ds, h => by unfold okD at h; cases h
  | n + 1, .tup ds, h => by
    unfold okD at h
    have z := lays_ok n ds h
    unfold toP
    simp only [PyData.canLay0, PyData.depth]
    exact ⟨z.1, by omega⟩
  | n + 1, .kt ds, h => by
    unfold okD at h
    have z := lays_ok n ds h
    unfold toP
    simp only [PyData.canLay0, PyData.depth]
    exact ⟨z.1, by omega⟩
  | n + 1, .lv ds, h => by
    unfold okD at h
    have z := lays_ok n ds h
    unfold toP
    simp only [PyData.canLay0, PyData.depth]
    exact ⟨z.1, by omega⟩
  | n, .ref _, h => by cases n <;> (unfold okD at h; cases h)
  | n, .ty _, h => by cases n <;> (unfold okD at h; cases h)
  | n, .dv _ _, h => by cases n <;> (unfold okD at h; cases h)
  | n, .cl _, h => by cases n <;> (unfold okD at h; cases h)
  | n, .fl _, h => by cases n <;> (unfold okD at h; cases h)
theorem lays_ok : ∀ (n : Nat) (ds : List D), okDs n ds = true → PyData.canLayAll0 (toPs ds) = true ∧ PyData.depthAll (toPs ds) ≤ n
  | n, [], _ => by unfold toPs; simp [PyData.canLayAll0, PyData.depthAll]
  | n, d :: ds, h => by
    unfold okDs at h
    rw [Bool.and_eq_true] at h
    have z1 := lay_ok n d h.1
    have z2 := lays_ok n ds h.2
    unfold toPs
    simp only [PyData.canLayAll0, PyData.depthAll, z1.1, z2.1, Bool.and_self]
    exact ⟨trivial, by omega⟩
end
theorem shaped_ok {n : Nat} {d : D} (h : okD n d = true) (hn : n ≤ 64) : SeqAt.shaped (toP d) = true := by
  obtain ⟨h1, h2⟩ := lay_ok n d h
  simp [SeqAt.shaped, h1]
  omega
theorem dat_64 {n : Nat} {d : D} {S : Store} (h : okD n d = true) (hn : n ≤ 64) : dat 64 S d = some (toP d) := by
  have z := dat_ok (S := S) n (64 - n) d h
  rwa [Nat.add_sub_cancel' hn] at z
theorem eqF_ok {own : Op2} {a b : D} {S : Store} (n : Nat) (ha : okD n a = true) (hb : okD n b = true) (hn : n ≤ 64 := by decide) : eqF own a b S = .ok (.bl (PyData.eqv (toP a) (toP b))) S := by
  unfold eqF
  simp only [dat_64 ha hn, dat_64 hb hn, shaped_ok ha hn, shaped_ok hb hn, Bool.and_self, if_true]
theorem neF_ok {own : Op2} {a b : D} {S : Store} (n : Nat) (ha : okD n a = true) (hb : okD n b = true) (hn : n ≤ 64 := by decide) : neF own a b S = .ok (.bl (!PyData.eqv (toP a) (toP b))) S := by
  unfold neF
  simp only [dat_64 ha hn, dat_64 hb hn, shaped_ok ha hn, shaped_ok hb hn, Bool.and_self, if_true]
mutual
theorem eqv_self : ∀ d : D, PyData.eqv (toP d) (toP d) = true
  | .non => by unfold toP; simp [PyData.eqv]
  | .bl b => by unfold toP; simp [PyData.eqv]
  | .int i => by unfold toP; simp [PyData.eqv]
  | .str x => by unfold toP; simp [PyData.eqv]
  | .tup ds => by unfold toP; simp only [PyData.eqv]; exact eqvs_self ds
  | .kt ds => by unfold toP; simp only [PyData.eqv]; exact eqvs_self ds
  | .lv ds => by unfold toP; simp only [PyData.eqv]; exact eqvs_self ds
  | .ref _ => by unfold toP; simp [PyData.eqv]
  | .ty _ => by unfold toP; simp [PyData.eqv]
  | .dv _ _ => by unfold toP; simp [PyData.eqv]
  | .cl _ => by unfold toP; simp [PyData.eqv]
  | .fn _ => by unfold toP; simp [PyData.eqv]
  | .fl _ => by unfold toP; simp [PyData.eqv]
theorem eqvs_self : ∀ ds : List D, PyData.eqvAll (toPs ds) (toPs ds) = true
  | [] => by unfold toPs; simp [PyData.eqvAll]
  | d :: ds => by
    unfold toPs
    simp only [PyData.eqvAll, eqv_self d, eqvs_self ds, Bool.and_self]
end
theorem eqF_self {own : Op2} {a : D} {S : Store} (n : Nat) (ha : okD n a = true) (hn : n ≤ 64 := by decide) : eqF own a a S = .ok (.bl true) S := by
  rw [eqF_ok n ha ha hn, eqv_self]
theorem neF_self {own : Op2} {a : D} {S : Store} (n : Nat) (ha : okD n a = true) (hn : n ≤ 64 := by decide) : neF own a a S = .ok (.bl false) S := by
  rw [neF_ok n ha ha hn, eqv_self]
  rfl
end L2.Mi

set_option Elab.async false
set_option linter.all false
set_option maxRecDepth 100000
set_option maxHeartbeats 1000000
/-! Mini, 51: texts joined, cut, added. -/
namespace L2.Mi
open PySem
theorem strsD_map : ∀ ys : List (List Nat), strsD (ys.map D.str) = some ys
  | [] => rfl
  | y :: ys => by
    rw [List.map_cons]
    unfold strsD
    rw [strsD_map ys]
    rfl
theorem joinF_ev {S : Store} {a : List Nat} {ys : List (List Nat)} {d : D} (h : seqD S d = some (ys.map D.str)) (hl : totL ys + ys.length * a.length ≤ 1000000) : joinF (.str a) [d] S = .ok (.str (TL.joinL a ys)) S := by
  unfold joinF
  simp only [h, strsD_map]
  rw [if_pos hl]
theorem totL_cons {y : List Nat} {ys : List (List Nat)} : totL (y :: ys) = y.length + totL ys := by
  unfold totL
  simp
theorem totL_app {xs ys : List (List Nat)} : totL (xs ++ ys) = totL xs + totL ys := by
  unfold totL
  simp
theorem totL_le {k : Nat} : ∀ {ys : List (List Nat)}, (∀ y ∈ ys, y.length ≤ k) → totL ys ≤ ys.length * k
  | [], _ => by simp [totL]
  | y :: ys, h => by
    have h1 := h y (by simp)
    have h2 := totL_le (ys := ys) fun z hz => h z (by simp [hz])
    rw [totL_cons, List.length_cons, Nat.succ_mul]
    omega
theorem joinL_len (a : List Nat) : ∀ ys : List (List Nat), (TL.joinL a ys).length ≤ totL ys + ys.length * a.length
  | [] => by simp [TL.joinL]
  | [p] => by simp [TL.joinL, totL]
  | p :: q :: r => by
    have h := joinL_len a (q :: r)
    rw [totL_cons, List.length_cons, Nat.succ_mul]
    simp only [TL.joinL, List.length_append]
    omega
theorem joinL_nil : ∀ ys : List (List Nat), TL.joinL [] ys = ys.flatten
  | [] => rfl
  | [p] => by simp [TL.joinL]
  | p :: q :: r => by
    have h := joinL_nil (q :: r)
    simp only [TL.joinL, List.nil_append, h]
    simp
theorem joinL_txt {a : List Nat} (ha : Txt a) : ∀ {ys : List (List Nat)}, (∀ y ∈ ys, Txt y) → Txt (TL.joinL a ys)
  | [], _ => fun c hc => nomatch hc
  | [p], h => h p (by simp)
  | p :: q :: r, h => by
    simp only [TL.joinL]
    exact (h p (by simp)).app (ha.app (joinL_txt ha fun y hy => h y (by simp at hy ⊢; exact .inr hy)))
theorem Txt.nil : Txt [] := fun c hc => nomatch hc
theorem Txt.one {c : Nat} (h : c < 0x110000) : Txt [c] := fun x hx => by simp at hx; subst hx; exact h
theorem Txt.cut {l : List Nat} {lo hi : Option Int} (h : Txt l) : Txt (cutD l lo hi) := h.sub fun c hc => cutD_mem hc
theorem sat_and {α : Type} {r : Res α} {Q Q' : α → Store → Prop} {E : Xn → Store → Prop} (h : r.sat Q E) (h' : r.sat Q' E) : r.sat (fun a S => Q a S ∧ Q' a S) E := by
  cases r with
  | ok a S => exact ⟨h, h'⟩
  | exc x S => exact h
  | bad => exact h
/-- one sign of a text, drawn -/
theorem pickT {S : Store} {l : List Nat} {r m : Int} (hm : (l.length : Int) = m) (hl : l.length ≤ 1000) (r0 : 0 ≤ r) (r1 : r < m) : ∃ c, c ∈ l ∧ itemF (.str l) (.int r) S = .ok (.str [c]) S := by
  have h : r.toNat < l.length := by omega
  refine ⟨l[r.toNat], List.getElem_mem h, ?_⟩
  have z := itemF_str (S := S) (l := l) (k := r.toNat) (c := l[r.toNat]) (by omega) (List.getElem?_eq_getElem h)
  rwa [Int.toNat_of_nonneg r0] at z
end L2.Mi

set_option Elab.async false
set_option linter.all false
set_option maxRecDepth 100000
set_option maxHeartbeats 4000000
/-! Mini, 52: classmethods, a class held by a name and called, f-strings, extend. -/
namespace L2.Mi
open PySem PySem.Spec PyProof.Rows
theorem run_codeRS {X : Cx} {k : Nat} {f : Addr} {pins : List (Addr × Obj)} {σ : St} {H : Hp} {s : Shared} {Q : VK} {us : List Value} {vs : List V} {CX : CXT} {sp : Sp} {E : XK} (F : FnR X.prog X.w X.K X.mg X.base CX k f sp) (hr : Room k X.A) (hx : PassesAt CX X σ E)
    (I : Inv X pins σ H s) (r : Vals vs us) (h : sp vs H Q E) : codeAny (model X.prog X.w) X.A (.call (.ref f) ⟨us, []⟩) (fun r s' => match r with | .ok (.ret v) => EP X pins σ Q v s' | .ok _ => False | .error e => X.xe e s') s := by
  refine codeAny_mono (F X.A X.stack s H us vs Q E hr I.env0 r h) fun r s' hq => ?_
  cases r with
  | error e => exact hx pins H s e s' I hq
  | ok fl =>
    cases fl with
    | ret u => exact I.after hq
    | next => exact False.elim hq
    | brk => exact False.elim hq
    | cont => exact False.elim hq
section
variable {G : Gx} {X : Cx} {W : WX} {o e : Expr} {es : List Expr} {x name : Str} {p pos apos : Pos} {ma : MA} {mo : ME} {k : Nat} {f : FN}
/-! ### C.m(..) -/
def eCm (c : Nat) (f : FN) (mo : ME) (ma : MA) : ME := fun σ S => (mo σ S).bind fun d S1 => match d with
  | .cl c' => if c' = c then (ma σ S1).bind fun xs S2 => f (.cl c :: xs) S2 else .bad
  | _ => .bad
structure CmS (G : Gx) (X : Cx) (c : Nat) (m : Str) (k : Nat) (f : FN) : Prop where
  ex : ∃ (C p g : Addr) (mc : Value), G.cls c = some C ∧ ClX.CRead X.K C mc ∧ ClX.CMet X.K C mc m p g ∧ Cal G X.prog X.w X.mg X.base k g f
theorem se_cmeth {c : Nat} {pl : Sem Bool} (cc : Cc G X W) (he : SE G X W o mo) (hs : CmS G X c name k f) (hr : Room k X.A) (ha : SA G X W (e :: es) ma)
    (hst : starEach (e :: es) X.env = (false, eval e X.env) :: starEach es X.env := by rfl) (hpl : (backTo pos (starEach es X.env)).any (·.1) = false := by rfl)
    (ht : eval (.Call (.Attribute o name apos) (e :: es) [] pos) X.env = (do
      let ov ← eval o X.env
      standAt apos.atName
      let (f, first) ← holding [ov] (getMethod ov name pl)
      callWith pos f first (backTo pos (starEach (e :: es) X.env)) (backToKw pos (keywordEach [] X.env))) := by rfl) : SE G X W (.Call (.Attribute o name apos) (e :: es) [] pos) (eCm c f mo ma) := by
  obtain ⟨C, p0, g, mc, hC, hR, hM, F⟩ := hs.ex
  have F' : FnR X.prog X.w X.K X.mg X.base (L2.CX X.prog X.w) k g (spG G f) := by rw [cc.k]; exact F
  refine ⟨fun pins s σ H Q I ⟨ρ, σs, S, rl, re, p⟩ => ?_⟩
  refine PySem.W.methodCall_KW (pl := pl) (he.go I rl re p fun u s1 x H1 ρ1 S1 d I1 rx l1 rl1 re1 rv1 p1 => ?_) ht
  cases rv1 with
  | @cl c' C' hC' =>
    obtain rfl : u = Value.ref C' := rx
    simp only at p1
    by_cases hc : c' = c
    · subst hc
      rw [if_pos rfl] at p1
      rw [hC] at hC'
      cases hC'
      refine ClX.getmethcm_ok I1 hR hM fun s2 I2 => ?_
      refine ClX.callwith_cm I2 (ClX.base_none I1 (Nat.le_refl _)) hM.fi (ha.go I2 rl1 re1 p1 fun us s3 xs H3 ρ3 S3 ds I3 rx3 l3 rl3 re3 rv3 p3 => ⟨⟨ClX.pin_at I3, I3.kIn⟩, ?_⟩) hst hpl
      have z : wpAny (model X.prog X.w) X.A (call (.ref s1.heap.objs.size) us) (EP X ((s1.heap.objs.size, PySem.W.methodObj (.ref g) (.ref C)) :: pins) σ Q) X.xe s3 :=
        wpAny_call (PySem.W.method_call (ClX.pin_at I3) (run_codeRS (E := EW W σ) (us := .ref C :: us) (vs := .ref C :: xs) F' hr (passAt cc.tk σ) I3 (.cons rfl rx3) ⟨ρ3, S3, _, rl3, .cons (.cl hC) rv3, p3⟩))
      exact thn z fun _ _ y => ClX.unpinE y
    · rw [if_neg hc] at p1
      exact p1.elim
  | _ => exact p1.elim
/-! ### a name that holds a class, called -/
def eCallC (dk : Nat → Option FN) (mo : ME) (ma : MA) : ME := fun σ S => (mo σ S).bind fun d S1 => match d with
  | .cl c => (match dk c with | some g => (ma σ S1).bind fun xs S2 => g xs S2 | none => .bad)
  | _ => .bad
theorem se_callC {dk : Nat → Option FN} (he : SE G X W (.Name x p) mo) (hd : ∀ c g, dk c = some g → ∃ C, G.cls c = some C ∧ PySem.W.keepIn X.K (.ref C) = true ∧ FnS G X W (.ref C) g) (ha : SA G X W (e :: es) ma)
    (hst : starEach (e :: es) X.env = (false, eval e X.env) :: starEach es X.env := by rfl) (hpl : (backTo pos (starEach es X.env)).any (·.1) = false := by rfl) : SE G X W (.Call (.Name x p) (e :: es) [] pos) (eCallC dk mo ma) := by
  refine ⟨fun pins s σ H Q I ⟨ρ, σs, S, rl, re, p⟩ => ?_⟩
  refine wpAny_Call_Name_kw (he.go I rl re p fun u s1 x H1 ρ1 S1 d I1 rx l1 rl1 re1 rv1 p1 => ?_)
  cases rv1 with
  | @cl c' C' hC' =>
    obtain rfl : u = Value.ref C' := rx
    simp only at p1
    cases q : dk c' with
    | none => simp only [q] at p1; exact p1.elim
    | some g =>
      simp only [q] at p1
      obtain ⟨C, hC, hk, hF⟩ := hd c' g q
      rw [hC] at hC'
      cases hC'
      exact PySem.W.callWith_K (h₀ := X.base) I1.ok.mod.kin hk (ha.go I1 rl1 re1 p1 fun us s2 xs H2 ρ2 S2 ds I2 rx2 l2 rl2 re2 rv2 p2 => ⟨I2.kIn, hF pins s2 σ H2 xs us Q ρ2 S2 ds I2 rx2 rl2 rv2 p2⟩) hst hpl
  | _ => exact p1.elim
/-! ### f-strings -/
def fmtF : D → Store → Res D := fun x S => match x with
  | .str y => if y.length ≤ lim then .ok (.str y) S else .bad
  | .int i => if i.natAbs.log2 < 1920 then .ok (.str ((toString i : String) : Str).cps.toList) S else .bad
  | _ => .bad
theorem se_fmt {m : ME} (he : SE G X W e m) : SE G X W (.FormattedValue e (-1) none pos) (eUn fmtF m) := by
  refine se_of (pe_fmt he) fun σ H Q ρ σs S rl re p => ?_
  refine ⟨ρ, σs, S, rl, re, PostR.bind (R := RV G) (r := m σs S) p fun ρ1 H1 S1 d x l1 rl1 rv1 p1 => ?_⟩
  cases rv1 with
  | str l =>
    have p1 : Post G ρ1 H1 (if l.length ≤ lim then Res.ok (.str l) S1 else .bad) Q (EW W σ) := p1
    by_cases hl : l.length ≤ lim
    · rw [if_pos hl] at p1
      exact .inl ⟨_, rfl, by simpa [Str.length] using lim_le hl, post_ok p1 rl1 (.str l)⟩
    · rw [if_neg hl] at p1
      exact p1.elim
  | int i =>
    have p1 : Post G ρ1 H1 (if i.natAbs.log2 < 1920 then Res.ok (.str ((toString i : String) : Str).cps.toList) S1 else .bad) Q (EW W σ) := p1
    by_cases hl : i.natAbs.log2 < 1920
    · rw [if_pos hl] at p1
      exact .inr ⟨i, rfl, hl, post_ok p1 rl1 (rv_str _)⟩
    · rw [if_neg hl] at p1
      exact p1.elim
  | _ => exact p1.elim
def jGo : List ME → List Nat → En → Store → Res (List Nat)
  | [], acc, _, S => .ok acc S
  | m :: ms, acc, σ, S => (m σ S).bind fun d S1 => match d with
    | .str y => if (acc ++ y).length ≤ lim then jGo ms (acc ++ y) σ S1 else .bad
    | _ => .bad
def eJs (ms : List ME) : ME := fun σ S => (jGo ms [] σ S).bind fun l S1 => .ok (.str l) S1
inductive SJs (G : Gx) (X : Cx) (W : WX) : List Expr → List ME → Prop
  | nil : SJs G X W [] []
  | cons {e : Expr} {m : ME} {es : List Expr} {ms : List ME} (h : SE G X W e m) (r : SJs G X W es ms) : SJs G X W (e :: es) (m :: ms)
theorem SJs.pj {es : List Expr} {ms : List ME} (h : SJs G X W es ms) : PJ X es (ms.map (tm G W)) := by
  induction h with
  | nil => exact .nil
  | cons h r ih => exact .cons h ih
theorem str_app (a b : List Nat) : (⟨a.toArray⟩ : Str) ++ ⟨b.toArray⟩ = ⟨(a ++ b).toArray⟩ := by
  show Str.mk (a.toArray ++ b.toArray) = _
  simp
theorem js_ok {σ : St} {σs : En} {Q : Str → Hp → Prop} : ∀ (ms : List ME) (acc : List Nat) (ρ : Wd) (S : Store) (H : Hp), Rl G ρ S H → RE G ρ H σs σ → PostR (α := List Nat) (β := Str) G (fun _ _ l y => y = ⟨l.toArray⟩) ρ H (jGo ms acc σs S) Q (EW W σ) → tJs (ms.map (tm G W)) ⟨acc.toArray⟩ σ H Q
  | [], acc, ρ, S, H, rl, re, p => p ρ H _ Le.refl rl rfl
  | m :: ms, acc, ρ, S, H, rl, re, p => by
    refine ⟨ρ, σs, S, rl, re, PostR.bind (R := RV G) (r := m σs S) p fun ρ1 H1 S1 d x l1 rl1 rv1 p1 => ?_⟩
    cases rv1 with
    | str y =>
      have p1 : PostR (α := List Nat) (β := Str) G (fun _ _ l y => y = ⟨l.toArray⟩) ρ1 H1 (if (acc ++ y).length ≤ lim then jGo ms (acc ++ y) σs S1 else .bad) Q (EW W σ) := p1
      by_cases hl : (acc ++ y).length ≤ lim
      · rw [if_pos hl] at p1
        refine ⟨_, rfl, ?_, ?_⟩
        · rw [str_app]
          simpa [Str.length] using lim_le hl
        · rw [str_app]
          exact js_ok ms (acc ++ y) ρ1 S1 H1 rl1 (re.mono l1) p1
      · rw [if_neg hl] at p1
        exact p1.elim
    | _ => exact p1.elim
theorem se_joined {v1 v2 : Expr} {rest : List Expr} {ms : List ME} (h : SJs G X W (v1 :: v2 :: rest) ms) : SE G X W (.JoinedStr (v1 :: v2 :: rest) pos) (eJs ms) := by
  refine se_of (pe_joined h.pj) fun σ H Q ρ σs S rl re p => ?_
  refine js_ok ms [] ρ S H rl re (PostR.bind (α := List Nat) (β := Str) (R := fun _ _ l y => y = ⟨l.toArray⟩) (r := jGo ms [] σs S) p fun ρ1 H1 S1 l y l1 rl1 hy p1 => ?_)
  subst hy
  exact post_ok p1 rl1 (.str l)
theorem se_joined1 {m : ME} (h : SE G X W e m) : SE G X W (.JoinedStr [e] pos) m := ⟨fun pins s σ H Q I q => (pe_joined1 (pos := pos) h).run pins s σ H Q I q⟩
/-! ### extend -/
def extendF : D → List D → Store → Res D := fun o xs S => match o, xs with
  | .ref i, [y] => (match S.get i, lsN S y with
    | some (.lst ds), some es => if ds.length + es.length ≤ lim then .ok .non (S.set i (.lst (ds ++ es))) else .bad
    | _, _ => .bad)
  | _, _ => .bad
theorem mts_extend : MtS G X W "list.extend" extendF := MtS.of mt_extend fun ρ S H d ds x xs Q E rl r1 r2 p => by
  unfold extendF at p
  split at p
  · rename_i i y
    obtain ⟨z, rfl, hz⟩ := rvs1 r2
    cases r1 with
    | @ref i a hi =>
      cases q : S.get i with
      | none => simp only [q] at p; exact p.elim
      | some ob =>
        cases q2 : lsN S y with
        | none => simp only [q, q2] at p; cases ob <;> exact p.elim
        | some es =>
          cases ob with
          | lst ds =>
            simp only [q, q2] at p
            obtain ⟨us, hu, hr⟩ := lst_at rl hi q
            obtain ⟨b, zs, rfl, hb, hz2⟩ := lsN_rel rl hz q2
            by_cases hl : ds.length + es.length ≤ lim
            · rw [if_pos hl] at p
              exact ⟨a, b, us, zs, rfl, rfl, hu, hb, by rw [← hr.length, ← hz2.length]; exact lim_le hl, p ρ _ _ (rl.leUpd hi hu trivial) (rl.set hi q hu trivial (.lst (hr.append hz2))) .non⟩
            · rw [if_neg hl] at p
              exact p.elim
          | _ => simp only [q, q2] at p; exact p.elim
  · exact p.elim
end
/-! ### facts -/
section
variable {L : Lw} {K : Fg} {X : Cx} {W : WX} {C m : Str} {k : Nat} {g : FN}
def cmB (C m : Str) (K : Fg) : Bool := PySem.W.readsIn K (He.ga K C) (.type "type") && (He.eqO (PySem.W.specialIn K (.ref (He.ga K C)) "__getattribute__") (some (some (.builtin "type.__getattribute__"))) &&
  ((match PySem.W.findCls K (.ref (He.ga K C)) (.type "type") m with
    | some (.get (.builtin b) (.ref p) .none (.ref C')) => decide (b = "classmethod.__get__") && (decide (p = He.ma K (He.ga K C) m) && decide (C' = He.ga K C))
    | _ => false) && ((match PySem.W.recIn K (He.ma K (He.ga K C) m) "classmethod" with | some (.ref _ :: _) => true | _ => false) && PySem.W.fnIn K (cgA K C m))))
theorem cmS (c : L.Says K) (ci i : Nat) (hc : L.cls[ci]? = some C) (h : L.fa[i]? = some (.raw (cmB C m))) (F : Cal (L.gx K c) X.prog X.w X.mg X.base k (cgA K C m) g) (e : X.K = K := by rfl) : CmS (L.gx K c) X ci m k g := by
  obtain ⟨h1, z⟩ := ba (c.fact i h)
  obtain ⟨h2, z⟩ := ba z
  obtain ⟨h3, z⟩ := ba z
  obtain ⟨h4, h5⟩ := ba z
  refine ⟨_, He.ma K (He.ga K C) m, cgA K C m, .type "type", cls_of c ci hc, ⟨by rw [e]; exact h1, by rw [e]; exact He.eqO_ok h2⟩, ⟨?_, ?_, by rw [e]; exact h5⟩, F⟩
  · rw [e]
    split at h3
    · rename_i b p C' q
      obtain ⟨g1, z⟩ := ba h3
      obtain ⟨g2, g3⟩ := ba z
      rw [q, of_decide_eq_true g1, of_decide_eq_true g2, of_decide_eq_true g3]
    · cases h3
  · rw [e]
    unfold cgA
    split at h4
    · rename_i g rest q
      rw [q]
      exact ⟨rest, rfl⟩
    · cases h4
end
end L2.Mi

set_option Elab.async false
set_option linter.all false
set_option maxRecDepth 100000
set_option maxHeartbeats 4000000
/-! Mini, 53: a text many times. -/
namespace L2.Mi
open PySem PySem.Spec PyProof.Rows
def repS : D → D → Store → Res D := fun x y S => match x, y with
  | .str a, .int k => if 0 ≤ k ∧ k ≤ 1000 ∧ a.length ≤ 1000 then .ok (.str (List.replicate k.toNat a).flatten) S else .bad
  | _, _ => .bad
theorem fold_app (a : List Nat) : ∀ (n : Nat) (acc : Array Nat), ((List.replicate n a.toArray).foldl (· ++ ·) acc).toList = acc.toList ++ (List.replicate n a).flatten
  | 0, acc => by simp
  | n + 1, acc => by
    rw [List.replicate_succ, List.replicate_succ, List.foldl_cons, fold_app a n]
    simp
theorem txt_mul {a : List Nat} {k : Int} (h0 : 0 ≤ k) : Txt.mul ⟨a.toArray⟩ k = ⟨(List.replicate k.toNat a).flatten.toArray⟩ := by
  unfold Txt.mul
  by_cases h1 : k < 1
  · have : k = 0 := by omega
    subst this
    rfl
  · rw [if_neg h1]
    by_cases h2 : (k == 1 || (⟨a.toArray⟩ : Str).length == 0) = true
    · rw [if_pos h2]
      simp only [Bool.or_eq_true, beq_iff_eq] at h2
      rcases h2 with rfl | h2
      · simp
      · have : a = [] := List.eq_nil_of_length_eq_zero (by simpa [Str.length] using h2)
        subst this
        simp
    · rw [if_neg h2]
      have z := fold_app a k.toNat #[]
      simp only [List.nil_append] at z
      have : (List.replicate k.toNat a.toArray).foldl (· ++ ·) #[] = (List.replicate k.toNat a).flatten.toArray := by
        rw [← z]
      exact congrArg Str.mk this
section
variable {G : Gx} {X : Cx} {W : WX}
theorem ops_repS : OpS G X W (binaryOp .Mult) repS := by
  intro pins s σ H x y v u Q ρ S d1 d2 I rx ry rl r1 r2 p
  unfold repS at p
  cases r1 with
  | str a =>
    cases r2 with
    | int k =>
      simp only at p
      by_cases h : 0 ≤ k ∧ k ≤ 1000 ∧ a.length ≤ 1000
      · rw [if_pos h] at p
        obtain ⟨h1, h2, h3⟩ := h
        obtain ⟨t, rfl⟩ := rx
        obtain ⟨t', rfl⟩ := ry
        have hlen : (⟨a.toArray⟩ : Str).length = a.length := by simp [Str.length]
        refine SB.mul ⟨?_, fun n1 n2 => ?_, fun n1 n2 => ?_⟩ fun t2 k2 => ?_
        · rw [decide_eq_false (by omega), decide_eq_false (by omega)]
          rfl
        · rw [hlen]
          have h4 : (1000 : Int) ≤ (2 ^ 63 - 1) / k := by
            rw [Int.le_ediv_iff_mul_le (by omega)]
            omega
          omega
        · rw [hlen]
          have h4 : a.length * k.toNat ≤ 1000 * 1000 := Nat.mul_le_mul h3 (by omega)
          unfold PySem.Builtin.Str.tooLong
          simp
          have : sizeLine = 16777216 := sizeLine_eq
          omega
        · rw [txt_mul h1]
          exact ⟨.str _, H, I.tok k2, ⟨_, rfl⟩, post_ok p rl (.str _)⟩
      · rw [if_neg h] at p
        exact p.elim
    | _ => exact p.elim
  | _ => exact p.elim
end
end L2.Mi

set_option Elab.async false
set_option linter.all false
set_option maxRecDepth 100000
set_option maxHeartbeats 1000000
/-! Mini, 54: repr of plain data. -/
namespace L2.Mi
open PySem
mutual
/-- how long its text is at most; whole numbers of less than 1920 bits -/
def rsz : D → Nat
  | .str x => 10 * x.length + 2
  | .tup ds => rszs ds + 2
  | .kt ds => rszs ds + 2
  | .lv ds => rszs ds + 2
  | _ => 1921
def rszs : List D → Nat
  | [] => 0
  | d :: ds => rsz d + 2 + rszs ds
end
mutual
def intOk : D → Bool
  | .int i => decide (i.natAbs.log2 < 1920)
  | .tup ds => intOks ds
  | .kt ds => intOks ds
  | .lv ds => intOks ds
  | _ => true
def intOks : List D → Bool
  | [] => true
  | d :: ds => intOk d && intOks ds
end
theorem from_len : ∀ (ts : List Str) (k : Nat) (acc : Str), (textFrom k acc ts).length ≤ acc.length + piled ts
  | [], k, acc => by show acc.length ≤ _; omega
  | t :: ts, k, acc => by
    have z := from_len ts (k + 1) (acc ++ (if k > 0 then ", " else "" : String) ++ t)
    have h : ((if k > 0 then ", " else "" : String) : Str).length ≤ 2 := by
      by_cases hk : k > 0
      · rw [if_pos hk]; decide
      · rw [if_neg hk]; decide
    rw [strLen_append, strLen_append] at z
    have hp : piled (t :: ts) = t.length + 2 + piled ts := by simp [piled]
    rw [hp]
    show (textFrom (k + 1) _ ts).length ≤ _
    omega
theorem list_len (ts : List Str) : (listText ts).length ≤ piled ts + 2 := by
  have z := from_len ts 0 "["
  have h1 : ("[" : Str).length = 1 := by decide
  have h2 : ("]" : Str).length = 1 := by decide
  show (textFrom 0 "[" ts ++ "]").length ≤ _
  rw [strLen_append]
  omega
mutual
theorem shown_le : ∀ (n : Nat) (d : D), okD n d = true → intOk d = true → (toP d).shown.length ≤ rsz d ∧ (toP d).showable = true
  | n, .non, _, _ => by unfold toP; simp only [PyData.shown, PyData.showable]; exact ⟨by decide, trivial⟩
  | n, .bl b, _, _ => by unfold toP; simp only [PyData.shown, PyData.showable]; exact ⟨by cases b <;> decide, trivial⟩
  | n, .int i, _, hi => by
    unfold intOk at hi
    have h := of_decide_eq_true hi
    unfold toP
    simp only [PyData.shown, PyData.showable]
    refine ⟨?_, hi⟩
    have z := PyProof.Rows.int_text_len_1921 h
    unfold rsz
    exact z
  | n, .str x, h, _ => by
    have h' : x.all (· < 0x110000) = true := by cases n <;> (unfold okD at h; exact h)
    have hx := Txt.all h'
    unfold toP rsz
    simp only [PyData.shown, PyData.showable]
    refine ⟨?_, trivial⟩
    have z := StrLaws.reprText_len ⟨x.toArray⟩ fun c hc => by
      have := hx c (by simpa using hc)
      omega
    simpa [Str.length] using z
  | 0, .tup ds, h, _ => by unfold okD at h; cases h
  | 0, .kt ds, h, _ => by unfold okD at h; cases h
  | 0, .lv ds, h, _ => by unfold okD at h; cases h
  | n + 1, .tup ds, h, hi => by
    unfold okD at h
    unfold intOk at hi
    have z := showns_le n ds h hi
    have z2 := fmt_text (PyData.shownAll (toPs ds))
    unfold toP rsz
    simp only [PyData.shown, PyData.showable]
    exact ⟨by omega, z.2⟩
  | n + 1, .kt ds, h, hi => by
    unfold okD at h
    unfold intOk at hi
    have z := showns_le n ds h hi
    have z2 := fmt_text (PyData.shownAll (toPs ds))
    unfold toP rsz
    simp only [PyData.shown, PyData.showable]
    exact ⟨by omega, z.2⟩
  | n + 1, .lv ds, h, hi => by
    unfold okD at h
    unfold intOk at hi
    have z := showns_le n ds h hi
    have z2 := list_len (PyData.shownAll (toPs ds))
    unfold toP rsz
    simp only [PyData.shown, PyData.showable]
    exact ⟨by omega, z.2⟩
  | n, .ref _, h, _ => by cases n <;> (unfold okD at h; cases h)
  | n, .ty _, h, _ => by cases n <;> (unfold okD at h; cases h)
  | n, .dv _ _, h, _ => by cases n <;> (unfold okD at h; cases h)
  | n, .cl _, h, _ => by cases n <;> (unfold okD at h; cases h)
  | n, .fl _, h, _ => by cases n <;> (unfold okD at h; cases h)
theorem showns_le : ∀ (n : Nat) (ds : List D), okDs n ds = true → intOks ds = true → piled (PyData.shownAll (toPs ds)) ≤ rszs ds ∧ PyData.showableAll (toPs ds) = true
  | n, [], _, _ => by unfold toPs rszs; simp [PyData.shownAll, PyData.showableAll, piled]
  | n, d :: ds, h, hi => by
    unfold okDs at h
    unfold intOks at hi
    rw [Bool.and_eq_true] at h hi
    have z1 := shown_le n d h.1 hi.1
    have z2 := showns_le n ds h.2 hi.2
    unfold toPs rszs
    simp only [PyData.shownAll, PyData.showableAll, z1.2, z2.2, Bool.and_self]
    have hp : piled ((toP d).shown :: PyData.shownAll (toPs ds)) = (toP d).shown.length + 2 + piled (PyData.shownAll (toPs ds)) := by simp [piled]
    exact ⟨by omega, trivial⟩
end
mutual
theorem pyD_ok {S : Store} : ∀ (n k : Nat) (d : D), okD n d = true → pyD S (n + 1 + k) d = some (toP d)
  | n, k, .non, _ => by rw [show n + 1 + k = (n + k) + 1 by omega]; rfl
  | n, k, .bl b, _ => by rw [show n + 1 + k = (n + k) + 1 by omega]; rfl
  | n, k, .int b, _ => by rw [show n + 1 + k = (n + k) + 1 by omega]; rfl
  | n, k, .str b, _ => by rw [show n + 1 + k = (n + k) + 1 by omega]; rfl
  | 0, k, .tup ds, h => by unfold okD at h; cases h
  | 0, k, .kt ds, h => by unfold okD at h; cases h
  | 0, k, .lv ds, h => by unfold okD at h; cases h
  | n + 1, k, .tup ds, h => by
    unfold okD at h
    rw [show n + 1 + 1 + k = (n + 1 + k) + 1 by omega]
    unfold pyD toP
    simp only [tupD, pyDs_ok n k ds h]
    rfl
  | n + 1, k, .kt ds, h => by
    unfold okD at h
    rw [show n + 1 + 1 + k = (n + 1 + k) + 1 by omega]
    unfold pyD toP
    simp only [tupD, pyDs_ok n k ds h]
    rfl
  | n + 1, k, .lv ds, h => by
    unfold okD at h
    rw [show n + 1 + 1 + k = (n + 1 + k) + 1 by omega]
    unfold pyD toP
    simp only [tupD, listAt, pyDs_ok n k ds h]
    rfl
  | n, k, .ref _, h => by cases n <;> (unfold okD at h; cases h)
  | n, k, .ty _, h => by cases n <;> (unfold okD at h; cases h)
  | n, k, .dv _ _, h => by cases n <;> (unfold okD at h; cases h)
  | n, k, .cl _, h => by cases n <;> (unfold okD at h; cases h)
  | n, k, .fl _, h => by cases n <;> (unfold okD at h; cases h)
theorem pyDs_ok {S : Store} : ∀ (n k : Nat) (ds : List D), okDs n ds = true → optAll (pyD S (n + 1 + k)) ds = some (toPs ds)
  | _, _, [], _ => rfl
  | n, k, d :: ds, h => by
    unfold okDs at h
    rw [Bool.and_eq_true] at h
    unfold optAll toPs
    rw [pyD_ok n k d h.1, pyDs_ok n k ds h.2]
end
/-- the text of plain data -/
def rtx (d : D) : List Nat := (toP d).shown.cps.toList
theorem repr_ok {d : D} {S : Store} (n : Nat) (h : okD n d = true) (hn : n ≤ 7) (hi : intOk d = true) (hz : rsz d ≤ 10000000) : reprF 8 [d] S = .ok (.str (rtx d)) S := by
  have e : pyD S 8 d = some (toP d) := by
    have z := pyD_ok (S := S) n (7 - n) d h
    rwa [show n + 1 + (7 - n) = 8 by omega] at z
  obtain ⟨h1, h2⟩ := shown_le n d h hi
  obtain ⟨h3, h4⟩ := lay_ok n d h
  have ok : reprOk (toP d) = true := by
    unfold reprOk
    have h5 := PyData.hasDict_of_canLay _ h3
    have : sizeLine = 16777216 := sizeLine_eq
    rw [h2, h5, decide_eq_true (by omega), decide_eq_true (by omega)]
    rfl
  unfold reprF rtx
  simp only [e, ok, if_true]
end L2.Mi

set_option Elab.async false
set_option linter.all false
set_option maxRecDepth 100000
set_option maxHeartbeats 1000000
/-! Mini, 55: str of a text. -/
namespace L2.Mi
open PySem PySem.Spec PyProof.Rows
def strT : FN := fun xs S => match xs with
  | [.str l] => .ok (.str l) S
  | _ => .bad
section
variable {G : Gx} {X : Cx} {W : WX}
theorem fns_strT : FnS G X W (.type "str") strT := FnS.of SkE.call_str_str fun ρ S H ds xs Q E rl r p => by
  unfold strT at p
  match ds, r, p with
  | [.str l], .cons (.str _) .nil, p => exact ⟨_, rfl, post_ok p rl (.str l)⟩
end
end L2.Mi

set_option Elab.async false
set_option linter.all false
set_option maxRecDepth 100000
set_option maxHeartbeats 4000000
/-! Mini, 56: x(lambda: body), where x is: try: call it; return a constant; clauses that return. -/
namespace L2.Mi
open PySem PySem.Spec PyProof.Rows
theorem SmO.ex {o : Option HO} (h : SmO o) : ∃ u, o = some u ∧ NTb u := by
  cases o with
  | none => exact h.elim
  | some u => exact ⟨u, rfl, h⟩
theorem NTb.ne {u : HO} (h : NTb u) (ps : Array Value) : u ≠ .tbl ps := by
  rintro rfl
  exact h
/-- a table of code objects has grown -/
theorem Rl.lam {G : Gx} {ρ : Wd} {S : Store} {H H1 : Hp} (r : Rl G ρ S H) (e : LamX.ExtN H H1) (t : LamX.Tabs G.tabs H1) : Le G ρ H ρ H1 ∧ Rl G ρ S H1 := by
  have l : Le G ρ H ρ H1 := by
    refine ⟨List.prefix_refl _, rfl, fun a u i h => e a u h fun ps z => ?_, fun a xs _ h => e _ _ h (by intro ps z; cases z), fun a u _ k h => ?_, fun a n h => ⟨n, ?_⟩, fun a ha _ => ?_, fun a o u h => e _ _ h (by intro ps z; cases z)⟩
    · subst z
      exact i
    · rcases h with h | ⟨o, h⟩
      · refine .inl (e _ _ h fun ps z => ?_)
        subst z
        exact k
      · exact .inr ⟨o, e _ _ h (by intro ps z; cases z)⟩
    · obtain ⟨u, h1, h2⟩ := h.ex
      rw [e _ _ h1 h2.ne]
      exact h2
    · obtain ⟨u, h1, h2⟩ := (r.hh a ha).2.ex
      rw [e _ _ h1 h2.ne, h1]
  refine ⟨l, r.len, r.nd, fun a ha => ⟨(r.hh a ha).1, ?_⟩, fun i o h => ?_, t⟩
  · obtain ⟨u, h1, h2⟩ := (r.hh a ha).2.ex
    rw [e _ _ h1 h2.ne]
    exact h2
  · obtain ⟨a, u, h1, h2, h3⟩ := r.ob i o h
    exact ⟨a, u, h1, e _ _ h2 h3.ntb.ne, h3.mono l⟩
/-- less is wanted behind it -/
theorem PE.post {X : Cx} {e : Expr} {t : TE} (h : PE X e t) : PE X e (fun σ H Q => ∃ Q0 : VK, t σ H Q0 ∧ ∀ v H1, Q0 v H1 → Q v H1) :=
  ⟨fun pins s σ H Q I ⟨Q0, h0, k⟩ => wpAny_mono (h.run pins s σ H Q0 I h0) (fun _ _ ⟨x, H1, I1, r1, q1⟩ => ⟨x, H1, I1, r1, k _ _ q1⟩) fun _ _ z => z⟩
/-- the run -/
def eHeard (isx : Nat → Nat → Option Bool) (n : Nat) (fin : D) (hs : List Hd1) (m : ME) : ME := fun σ S => match m σ S with
  | .ok _ S1 => .ok fin S1
  | .exc x S1 => (match hGo isx x (List.replicate n none) S1 hs with
    | .rt d S2 => .ok d S2
    | _ => .bad)
  | .bad => .bad
def qHeard (G : Gx) (fin : D) (Q : VK) : VK := fun _ H => ∃ ρ S, Rl G ρ S H ∧ Post G ρ H (.ok fin S) Q (fun _ _ _ => False)
def xHeard (G : Gx) (isx : Nat → Nat → Option Bool) (n : Nat) (hs : List Hd1) (Q : VK) : XK := fun cls dd H => ∃ ρ S x, Rl G ρ S H ∧ RX G ρ H x cls dd ∧ PostS G ρ H (hGo isx x (List.replicate n none) S hs) { nx := fun _ H2 => Q .non H2, rt := Q } (fun _ _ _ _ => False)
def tHeard (G : Gx) (isx : Nat → Nat → Option Bool) (n : Nat) (fin : D) (hs : List Hd1) : (XK → Hp → VK → Prop) → Hp → VK → Prop := fun tl H Q => tl (xHeard G isx n hs Q) H (qHeard G fin Q)
theorem re_repl {G : Gx} {ρ : Wd} {H : Hp} {σ : St} {n : Nat} (h : σ.length = n) : RE G ρ H (List.replicate n none) σ := by
  refine ⟨by simp [h], fun j d e => ?_⟩
  obtain ⟨_, e⟩ := List.getElem?_eq_some_iff.mp e
  simp at e
section
variable {G : Gx} {X : Cx} {isx : Nat → Nat → Option Bool} {Ng : List Str} {x a q : Str} {sg : Scope} {g : Addr} {cdg : Value} {fe : Expr} {fin : D} {h0 : ExceptHandler} {hs : List ExceptHandler} {l : List Hd1} {p1 p2 p3 p4 p8 : Pos}
/-- the def's context where it is handed a lambda -/
abbrev hdX (X : Cx) (Ng : List Str) (x : Str) (sg : Scope) (g : Addr) (cdg : Value) (s : Shared) (H : Hp) : Cx := (cxOf C8.CX0 X.prog X.w X.K X.mg X.base Ng x sg g cdg X.A X.stack s H C8.E0).nox
theorem gives_heard (ck : X.K = G.K) (nd : Ng.Nodup) (hx : ∀ c1 c2 b v1 v2, isx c1 c2 = some b → G.clsv c1 = some v1 → G.clsv c2 = some v2 → PySem.W.exmOne G.K v1 v2 = some b)
    (hcl : ∀ s H, ClS G (hdX X Ng x sg g cdg s H) (h0 :: hs) l) (hf : ∀ s H W pn xe, SE G ((hdX X Ng x sg g cdg s H).tr pn xe) W fe (eC fin)) (hn0 : ∀ f : Addr, (L2.start Ng [V.ref f])[0]? = some (some (V.ref f)))
    (hsw : ∀ s H pn xe, swapsWith (.Call (.Name a p1) [] [] p2) none p3.line ((hdX X Ng x sg g cdg s H).tr pn xe).env = pure false := by intros; rfl) :
    LamX.GivesTo X Ng x sg g cdg [.Try [.Expr (.Call (.Name a p1) [] [] p2) p3, .Return (some fe) p4] (h0 :: hs) [] [] p8] a q (tHeard G isx Ng.length fin l) := by
  intro f c' s H Q tl act hc h
  obtain ⟨l2, k, go⟩ := clS_ok (X := hdX X Ng x sg g cdg s H) (W := fun _ _ _ _ => False) ck hx (hcl s H)
  refine ⟨_, pss_one (ps_tryC (X := hdX X Ng x sg g cdg s H) (Wo := fun _ _ _ _ => False) nd rfl rfl LamX.takes0
      (tb := fun W2 D σ H => σ[0]? = some (some (.ref f)) ∧ H c' = some (LamX.CodeO c' q) ∧ ∃ E : XK, (∀ cls d σ' H', E cls d H' → σ'.length = Ng.length → W2 cls d σ' H') ∧ tl E H (qHeard G fin D.rt)) (fun W2 pn xe t1 t2 => ?_) k), ?_⟩
  · refine ⟨fun pins s' σ H' D I ⟨z1, z2, E, hW, z3⟩ => ?_⟩
    have tk3 : Takes ((hdX X Ng x sg g cdg s H).tr pn xe) (fun cls d σ' H' => σ'.length = Ng.length → W2 cls d σ' H') := fun u s' ⟨a, B, sI, pins, σ, H, cls, d, e, I, nb, up, sky, na, os, ag, w⟩ =>
      t1 u s' ⟨a, B, sI, pins, σ, H, cls, d, e, I, nb, up, sky, na, os, ag, w I.len⟩
    have hp := act (fun cls d σ' H' => σ'.length = Ng.length → W2 cls d σ' H') pn xe E p1 p2 tk3 (fun cls d σ' H' z => hW cls d σ' H' z)
    refine (pss_cons (ps_expr (pos := p3) (PE.post hp) (hsw s H pn xe)) (pss_one (ps_ret (pos := p4) (hf s H W2 pn xe)))).run pins s' σ H' D I ⟨_, ⟨z1, z2, z3⟩, fun v H1 ⟨ρ, S, rl, p⟩ => ?_⟩
    exact ⟨ρ, List.replicate σ.length none, S, rl, re_repl rfl, p⟩
  · refine ⟨hn0 f, hc, _, fun cls d σ' H' ⟨ρ, S, y, rl, rx, p⟩ hl => ?_, h⟩
    exact go _ ρ H' y _ σ' S cls d rl (re_repl hl) rx p
end
section
variable {G : Gx} {X : Cx} {W : WX} {isx : Nat → Nat → Option Bool} {Ng : List Str} {x a : Str} {g c P : Addr} {k : Nat} {pg params : Arguments} {bg : List Stmt} {sg scope : Scope} {dV kV doc pm cdv ct oc : Value} {an od : Option Addr} {osl : Array (Option Value)} {body : Expr} {fin : D} {l : List Hd1} {m : ME} {p lpos pos : Pos}
theorem cc_lam {A : Around} {outer : List Env} {s : Shared} {H : Hp} {E : XK} {f c' : Addr} (cc : Cc G X W) : Cc G (LamX.lamCx X A outer s H E scope f c') (WF E) := ⟨cc.k, takes_of rfl rfl rfl rfl, passes_of rfl, rfl, cc.nd⟩
theorem se_heard (cc : Cc G X W) (hg : Gl X x) (hm : X.mg x = some (.ref g)) (hk : PySem.W.keepIn X.K (.ref g) = true)
    (lk : X.K.lookup g = some ⟨oc, od, .func (PySem.W.fnOf x x pg bg sg dV kV doc pm an cdv ct), osl⟩) (hcg : PySem.W.codeIn X.K cdv x = true) (hb : L2.Binds X.K (PySem.W.fnOf x x pg bg sg dV kV doc pm an cdv ct) [a] []) (Sg : FnScope Ng [a] sg) (hNg : Ng[0]? = some a) (hva : Vis sg a)
    (hG : LamX.GivesTo X Ng x sg g cdv bg a (X.env.qual ++ "<lambda>") (tHeard G isx Ng.length fin l))
    (TB : LamX.TabB X.base X.mg c P) (hcode : X.env.code = .ref c) (hT : G.tabs = [(P, X.env.qual ++ "<lambda>")]) (hr : Room (k + 2) X.A) (L : LamX.LamS X.env.scope scope) (hdef : defaultsOf params X.env = ([], []))
    (hbind : ∀ (q : Str) (cl : List (Str × Addr)) (pm cv ctv : Value), bindArgs (PySem.W.kla_fn "<lambda>" q params body scope cl pm cv ctv) ⟨[], []⟩ = pure [])
    (hbody : ∀ (A : Around) (outer : List Env) (s : Shared) (H : Hp) (E : XK) (f c' : Addr), Room k (A.deeper (LamX.lamEnv X scope s.heap.objs.size f c')) → Cc G (LamX.lamCx X A outer s H E scope f c') (WF E) → SE G (LamX.lamCx X A outer s H E scope f c') (WF E) body m)
    (hdb : (x == ("__debug__" : Str)) = false := by decide) (hd : (a == ("__debug__" : Str)) = false := by decide) (hcd : (a == ("__classdict__" : Str)) = false := by decide) :
    SE G X W (.Call (.Name x p) [.Lambda params body scope lpos] [] pos) (eHeard isx Ng.length fin l m) := by
  refine PE.weak (LamX.pe_lamcall (T := G.tabs) (TT := tHeard G isx Ng.length fin l) (t := fun E => tm G (WF E) m) hg hm hk lk hcg hb Sg hNg hva hG TB hcode (by rw [hT]; exact List.mem_singleton.mpr rfl) (fun p hp _ => by rw [hT] at hp; rw [List.mem_singleton.mp hp]) hr L hdef hbind
    (fun A outer s H E f c' hr2 => hbody A outer s H E f c' hr2 (cc_lam cc)) hdb hd hcd) fun σ H Q ⟨ρ, σs, S, rl, re, p⟩ => ⟨rl.tb, fun H1 e t => ?_⟩
  obtain ⟨l1, rl1⟩ := rl.lam e t
  refine ⟨ρ, σs, S, rl1, re.mono l1, ?_⟩
  unfold eHeard at p
  cases hm : m σs S with
  | bad => rw [hm] at p; exact p.elim
  | ok d S1 =>
    rw [hm] at p
    exact fun ρ2 H2 v l2 rl2 rv => ⟨ρ2, S1, rl2, fun ρ3 H3 u l3 rl3 ru => p ρ3 H3 u (l1.trans (l2.trans l3)) rl3 ru⟩
  | exc y S1 =>
    rw [hm] at p
    refine fun ρ2 H2 cls dd l2 rl2 rx => ⟨ρ2, S1, y, rl2, rx, ?_⟩
    cases hh : hGo isx y (List.replicate Ng.length none) S1 l with
    | rt d S2 => simp only [hh] at p; exact fun ρ3 H3 u l3 rl3 ru => p ρ3 H3 u (l1.trans (l2.trans l3)) rl3 ru
    | nx _ _ => simp only [hh] at p; exact p.elim
    | bk _ _ => simp only [hh] at p; exact p.elim
    | ct _ _ => simp only [hh] at p; exact p.elim
    | exc _ _ _ => simp only [hh] at p; exact p.elim
    | bad => simp only [hh] at p; exact p.elim
end
end L2.Mi

set_option Elab.async false
set_option linter.all false
set_option maxRecDepth 100000
set_option maxHeartbeats 4000000
/-! Mini, 57: a law that makes lambdas: its def, its end. -/
namespace L2.Mi
open PySem PySem.Spec PyProof.Rows
section
variable {P : Program} {w : World} {K : Fg} {mg : Str → Option Value} {base : Heap} {cx : CXT} {k : Nat} {f : Addr} {name qual : Str} {params : Arguments} {body : List Stmt} {scope : Scope} {dvs : List V} {kws : List (Str × V)} {fd : FuncData} {N ps : List Str} {sp : Sp}
theorem fnGc_of (F : FunD K name qual params body scope dvs kws f fd) (S : FnScope N ps scope) (ln : ∀ vs H Q E, sp vs H Q E → vs.length = ps.length)
    (hb : ∀ (A : Around) (out : List Env) (s : Shared) (H : Hp) (vs : List V) (Q : VK) (E : XK), NoG A → Room k (A.deeper (envOfC qual scope s.heap.objs.size f fd.code)) → sp vs H Q E →
      ∃ t, PSs (cxOf cx P w K mg base N qual scope f fd.code A out s H E) body t ∧ t { nx := fun _ H2 => Q .non H2, rt := Q } (start N vs) H) : FnG P w K mg base cx (k + 1) f fd ps sp := by
  obtain ⟨oc, od, dV, kV, doc, pm, an, cdv, ct, osl, e0, look, hcd, _, _⟩ := F.ex
  subst e0
  refine ⟨ln, fun A out s H ar us vs Q E ng room env bnd rel hs => ?_⟩
  have inK : K.In s.heap := env.mod.kin.keeps fun b o q => (env.bs b o q).1
  have nl : s.heap.NoLimit := env.mod.nolimit.keeps fun b o q => (env.bs b o q).1
  have par : ∀ y ∈ ps.zip us, scope.names.lookup y.1 = some .local ∨ (scope.names.lookup y.1 = some .cell ∧ ((cellsFrom (s.heap.objs.size + 1) scope.names []).lookup y.1).isSome = true) := by
    rintro ⟨a, b⟩ hy
    refine (S.par a (List.of_mem_zip hy).1).imp id fun q => ⟨q, PySem.W.cellsFrom_some _ _ _ (.inl q)⟩
  refine codeAny_call_function room.depth (inK _ _ look) rfl S.co S.gen rfl (PySem.W.codeRec_of inK hcd) (bnd _ _ _ _ (wpAny_newFunctionEnv_cells S.kind par fun env2 he s1 x => ?_))
  subst he
  refine ⟨nl.keeps x.toInCall.keep, codeAny_func ?_⟩
  obtain ⟨t, ht, q⟩ := hb A out s H vs Q E ng (room.deeper _) hs
  have I : Inv (cxOf cx P w K mg base N qual scope f cdv A out s H E) [] (start N vs) H s1 := inv_start S room.hd env (ln _ _ _ _ hs) rel x
  refine wpAny_mono (ht.run [] s1 _ H _ I q) (fun fl s2 z => ?_) fun _ _ z => z
  cases fl with
  | ret u => obtain ⟨v, σ2, H2, J, rv, q2⟩ := z; exact ⟨v, H2, J.os, J.bare, J.base, J.hok, rv, q2⟩
  | next => obtain ⟨σ2, H2, J, q2⟩ := z; exact ⟨.non, H2, J.os, J.bare, J.base, J.hok, rfl, q2⟩
  | brk => obtain ⟨_, _, _, q2⟩ := z; exact q2.elim
  | cont => obtain ⟨_, _, _, q2⟩ := z; exact q2.elim
end
section
variable {G : Gx} {P : Program} {w : World} {mg : Str → Option Value} {base : Heap} {N ps : List Str} {x qual : Str} {params : Arguments} {body : List Stmt} {scope : Scope} {dvs : List V} {kws : List (Str × V)} {f : Addr} {fd : FuncData} {k : Nat} {ms : MS}
theorem fndL_ok (F : FunD G.K x qual params body scope dvs kws f fd) (S : FnScope N ps scope)
    (hb : ∀ (A : Around) (out : List Env) (s : Shared) (H : Hp) (E : XK), Room k (A.deeper (envOfC qual scope s.heap.objs.size f fd.code)) → NoG (A.deeper (envOfC qual scope s.heap.objs.size f fd.code)) →
      Cc G (cxOf (L2.CX P w) P w G.K mg base N qual scope f fd.code A out s H E) (WF E) → SSs G (cxOf (L2.CX P w) P w G.K mg base N qual scope f fd.code A out s H E) (WF E) body ms) :
    FnG P w G.K mg base (L2.CX P w) (k + 1) f fd ps (spF G (bodyRun N.length ms) ps.length) := by
  refine fnGc_of F S (fun vs H Q E ⟨_, _, _, h, _⟩ => h) fun A out s H vs Q E ng hr ⟨ρ, St, ds, hn, rl, rv, p⟩ => ?_
  refine ⟨_, hb A out s H E hr ng ⟨rfl, takes_of rfl rfl rfl rfl, passes_of rfl, rfl, S.nd⟩, ρ, _, St, rl, re_start rv, ?_⟩
  unfold bodyRun at p
  cases q : ms (ds.map some ++ List.replicate (N.length - ds.length) none) St with
  | rt d S1 => rw [q] at p; exact p
  | nx σ1 S1 => rw [q] at p; exact fun ρ1 H1 σ2 l1 rl1 re1 => p ρ1 H1 .non l1 rl1 .non
  | exc y σ1 S1 => rw [q] at p; exact fun ρ1 H1 σ2 c dd l1 rl1 re1 rx => p ρ1 H1 c dd l1 rl1 rx
  | bk σ1 S1 => rw [q] at p; exact p.elim
  | ct σ1 S1 => rw [q] at p; exact p.elim
  | bad => rw [q] at p; exact p.elim
end
/-! ### the law's end -/
/-- only the script and the table -/
def OnlyT (T : Addr) (H : Hp) : Prop := H T = some (.tbl #[]) ∧ ∀ b, H b = none ∨ b = T ∨ ∃ o xs, H b = some (.frz o (.lst xs))
section
variable {P : Program} {w : World} {K : Fg} {mg mb : Str → Option Value} {cx : CXT} {k : Nat} {fa a c T : Addr} {fd : FuncData} {x : Str} {sp : Sp} {s1 : Shared} {vs : List Value} {ns : List Int}
theorem law_callT (inK : K.In s1.heap) (hns : s1.heap.Ns mainGlobals mg) (hb : s1.heap.Ns builtinsNs mb) (hbb : ∀ x : Str, x ≠ "__name__" → mb x = bootBuiltins x) (nl : s1.heap.NoLimit) (hg : s1.gens = #[])
    (hT : s1.heap.get? T = some { cls := .none, data := .fields #[] }) (nT : K.lookup T = none) (hC : PySem.W.codeHdIn K c T = true)
    (hbm : ∃ (bm : Addr) (ob : Obj), mg "__builtins__" = some (.ref bm) ∧ bm ≠ builtinsNs ∧ s1.heap.get? bm = some ob ∧ ob.cls = .type "module" ∧ ob.dict = some builtinsNs ∧ ob.data = .plain)
    (ha : s1.heap.get? a = some { cls := .type "list", data := .seq vs.toArray }) (hi : IntsAre vs ns) (hl : ns.length ≤ sizeLine) (hr : Room k callerA)
    (F : ∀ base : Heap, K.In base → base.Ns mainGlobals mg → LamX.TabB base mg c T → FnG P w K mg base cx k fa fd [x] sp) (bnd : ∀ (s : Shared) (u : Value), BindsTo s fd ⟨[u], []⟩ [(x, u)])
    (hsp : ∀ H : Hp, OnlyT T H → SqL K H a (ns.map V.int) → sp [.ref a] H (fun v _ => v = .bl true) fun _ _ _ => False) (hcx : ∀ H e s2, cx [] H s1 (fun _ _ _ => False) e s2 → False) :
    codeAny (model P w) callerA (.call (.ref fa) ⟨[.ref a], []⟩) (fun r s2 => r = .ok (.ret (.bool true)) ∧ OldK s1.heap s2.heap ∧ s2.os = s1.os ∧ AllBare s2.gens) s1 := by
  have rel := vals_ints hi
  have len := hi.length
  have aT : a ≠ T := fun z => by
    rw [z, hT] at ha
    have z2 : Data.fields #[] = Data.seq vs.toArray _ := congrArg Obj.data (Option.some.inj ha)
    cases z2
  have main : ∀ H : Hp, OnlyT T H → SqL K H a (ns.map V.int) → HOk P w H s1.heap → (∀ b, H b ≠ none → b = a ∨ b = T) → (H a ≠ none → K.lookup a = none) →
      codeAny (model P w) callerA (.call (.ref fa) ⟨[.ref a], []⟩) (fun r s2 => r = .ok (.ret (.bool true)) ∧ OldK s1.heap s2.heap ∧ s2.os = s1.os ∧ AllBare s2.gens) s1 := by
    intro H only sq ok one out
    have free : ∀ {b : Addr} {o : Obj}, s1.heap.get? b = some o → (∀ u n, o.data ≠ .seq u n) → o.data ≠ .fields #[] → H b = none := fun {b o} e z1 z2 => by
      cases q : H b with
      | none => rfl
      | some u =>
        rcases one b (by rw [q]; simp) with y | y
        · rw [y, ha] at e; cases e; exact (z1 _ _ rfl).elim
        · rw [y, hT] at e; cases e; exact (z2 rfl).elim
    have nsk : ∀ {b : Addr} {m : Str → Option Value}, s1.heap.Ns b m → (hidT s1.heap H).Ns b m := fun {b m} ⟨o, es, ep, e, d, r⟩ => ⟨o, es, ep, hidT_get e (free e (fun u n z => by rw [d] at z; cases z) fun z => by rw [d] at z; cases z), d, r⟩
    have hK : K.In (hidT s1.heap H) := fun b o e => hidT_get (inK b o e) (by
      cases q : H b with
      | none => rfl
      | some u =>
        rcases one b (by rw [q]; simp) with y | y
        · rw [y] at e q; rw [out (by rw [q]; simp)] at e; cases e
        · rw [y, nT] at e; cases e)
    have md : Mod K mg (hidT s1.heap H) := ⟨hK, nsk hns, ⟨mb, nsk hb, hbb⟩, let ⟨mc, z1, z2⟩ := nl; ⟨mc, nsk z1, z2⟩⟩
    have noG : ∀ b : Addr, (∃ o, s1.heap.get? b = some o ∧ o.data = .plain) → b ≠ mainGlobals ∧ b ≠ T := fun b ⟨o, e, d⟩ => by
      refine ⟨fun z => ?_, fun z => ?_⟩
      · obtain ⟨o2, es, ep, e2, d2, _⟩ := hns
        rw [z, e2] at e; cases e; rw [d2] at d; cases d
      · rw [z, hT] at e; cases e; cases d
    have TB : LamX.TabB (hidT s1.heap H) mg c T := by
      refine ⟨PySem.W.codeHd_of_K hK hC, ?_, fun z => ?_⟩
      · obtain ⟨bm, ob, b1, b2, b3, b4, b5, b6⟩ := hbm
        obtain ⟨z1, z2⟩ := noG bm ⟨ob, b3, b6⟩
        exact ⟨bm, ob, b1, b2, z1, z2, hidT_get b3 (free b3 (fun u n z => by rw [b6] at z; cases z) fun z => by rw [b6] at z; cases z), b4, b5, b6⟩
      · obtain ⟨o2, es, ep, e2, d2, _⟩ := hns
        rw [z, hT] at e2; cases e2; cases d2
    have env : Env0 P w K mg (hidT s1.heap H) callerA [] s1 H := ⟨rfl, md, fun b o e => of_hidT e, Nat.le_of_eq (hidT_size _ _), trivial, fun b z => (List.not_mem_nil (show b ∈ ([] : List Addr) from z)).elim, ok, .of_eq hg⟩
    refine codeAny_mono ((F _ hK (nsk hns) TB).go callerA [] s1 H ⟨[.ref a], []⟩ [.ref a] [.ref a] _ _ rfl hr env (bnd s1 (.ref a)) (.cons rfl .nil) (hsp H only sq)) fun r s2 z => ?_
    cases r with
    | error e => exact (hcx H e s2 z).elim
    | ok fl => cases fl with
      | ret u =>
        obtain ⟨v, H2, z1, z2, un, ok2, rv, q⟩ := z
        have q2 : v = .bl true := q
        subst q2
        obtain rfl : u = Value.bool true := rv
        have key : ∀ b o, b ≠ T → s1.heap.get? b = some o → s2.heap.get? b = some o := fun b o nb e => by
          rcases only.2 b with z | z | ⟨ob, xs, z⟩
          · exact un.keep b o e z (fun y => (List.not_mem_nil (show b ∈ ([] : List Addr) from y)).elim) (by simp)
          · exact (nb z).elim
          · have y1 := (ok b _ z).1
            have y2 := (ok2 b _ (un.frzs b ob _ z)).1
            rw [e] at y1; cases y1
            exact y2
        obtain ⟨more, zt⟩ := un.tbls T #[] only.1
        have hT2 : s2.heap.get? T = some { cls := .none, data := .fields (#[] ++ more) } := ok2 T _ zt
        have hC1 : PySem.W.CodeHd s1.heap c T := PySem.W.codeHd_of_K inK hC
        refine ⟨rfl, ⟨fun b o e => ?_, fun b o e => ?_⟩, z1, z2⟩
        · by_cases y : b = T
          · subst y
            rw [hT] at e; cases e
            exact .inr (.inl ⟨(hC1.tab hT).isCodeTable, rfl, #[], more, rfl, hT2⟩)
          · exact .inl (key b o y e)
        · by_cases y : b = T
          · subst y; exact ⟨_, hT2⟩
          · exact ⟨o, key b o y e⟩
      | _ => exact False.elim z
  cases hk : K.lookup a with
  | some o =>
    have e := inK a o hk
    rw [ha] at e
    cases e
    let H : Hp := fun b => if b = T then some (.tbl #[]) else none
    have at1 : H T = some (.tbl #[]) := if_pos rfl
    have at2 : ∀ b, b ≠ T → H b = none := fun b z => if_neg z
    refine main H ⟨at1, fun b => ?_⟩ (.inr ⟨_, vs.toArray, _, hk, rfl, rfl, rfl, by rw [List.size_toArray, len]; exact hl, by simpa using rel⟩) (fun b u z => ?_) (fun b z => ?_) fun z => (z (at2 a aT)).elim
    · by_cases q : b = T
      · exact .inr (.inl q)
      · exact .inl (at2 b q)
    · by_cases q : b = T
      · subst q; rw [at1] at z; cases z; exact hT
      · rw [at2 b q] at z; cases z
    · by_cases q : b = T
      · exact .inr q
      · exact (z (at2 b q)).elim
  | none =>
    let ob : HO := .frz { cls := .type "list", data := .seq vs.toArray } (.lst (ns.map V.int))
    let H : Hp := fun b => if b = a then some ob else if b = T then some (.tbl #[]) else none
    have at1 : H a = some ob := if_pos rfl
    have at3 : H T = some (.tbl #[]) := (if_neg (fun z => aT z.symm)).trans (if_pos rfl)
    have at2 : ∀ b, b ≠ a → b ≠ T → H b = none := fun b z y => (if_neg z).trans (if_neg y)
    refine main H ⟨at3, fun b => ?_⟩ (.inl (.inr ⟨_, at1⟩)) (fun b u z => ?_) (fun b z => ?_) fun _ => hk
    · by_cases q : b = a
      · subst q; exact .inr (.inr ⟨_, _, at1⟩)
      · by_cases q2 : b = T
        · exact .inr (.inl q2)
        · exact .inl (at2 b q q2)
    · by_cases q : b = a
      · subst q
        rw [at1] at z; cases z
        exact ⟨ha, by rw [List.length_map]; exact hl, vs, _, rel, ha⟩
      · by_cases q2 : b = T
        · subst q2; rw [at3] at z; cases z; exact hT
        · rw [at2 b q q2] at z; cases z
    · by_cases q : b = a
      · exact .inl q
      · by_cases q2 : b = T
        · exact .inr q2
        · exact (z (at2 b q q2)).elim
end
theorem startT_ok {G : Gx} {H : Hp} {T a : Addr} {q : Str} {ns : List Int} (hT : G.tabs = [(T, q)]) (ho : OnlyT T H) (hS : SqL G.K H a (ns.map V.int)) : Rl G ⟨[], []⟩ ⟨[]⟩ H ∧ RV G ⟨[], []⟩ H (.fl (ns.map D.int)) (.ref a) := by
  refine ⟨⟨rfl, List.nodup_nil, fun b h => (List.not_mem_nil h).elim, fun i o h => ?_, fun p hp => ?_⟩, .fl ?_ (ints_rel ns)⟩
  · cases h
  · rw [hT] at hp
    rw [List.mem_singleton.mp hp]
    exact LamX.TabS.nil ho.1
  · rcases hS with (h | h) | h
    · rcases ho.2 a with z | z | ⟨o, xs, z⟩
      · rw [h] at z; cases z
      · rw [z, ho.1] at h; cases h
      · rw [h] at z; cases z
    · exact .inl h
    · exact .inr (.inr h)
/-- the law's table, as the head tells it -/
def tbB (x : Str) : Fm := .raw fun K => match PySem.W.tabIn K x with
  | some p => (K.lookup p.2).isNone && PySem.W.codeHdIn K p.1 p.2
  | none => false
theorem tbB_ok {L : Lw} {K : Fg} (c : L.Says K) (i : Nat) {x q : Str} (ht : L.tab = some (x, q)) (h : L.fa[i]? = some (tbB x)) : ∃ p, PySem.W.tabIn K x = some p ∧ K.lookup p.2 = none ∧ PySem.W.codeHdIn K p.1 p.2 = true ∧ (L.gx K c).tabs = [(p.2, q)] := by
  have z := c.fact i h
  have z2 : (match PySem.W.tabIn K x with | some p => (K.lookup p.2).isNone && PySem.W.codeHdIn K p.1 p.2 | none => false) = true := z
  cases e : PySem.W.tabIn K x with
  | none => rw [e] at z2; cases z2
  | some p =>
    rw [e] at z2
    obtain ⟨h1, h2⟩ := ba z2
    refine ⟨p, rfl, Option.isNone_iff_eq_none.mp h1, h2, ?_⟩
    show L.tabsA K = _
    unfold Lw.tabsA
    simp only [ht, e]
theorem walkT {l : PySem.W.OpenLaw} {n k : Nat} {q : Program} {loose : List Str} {XP : (Str → Option Value) → Heap → Prop} {L : Lw} {N : Nat} {d dr : DefRec} {x lx lq : Str} {run : FN}
    (hn : l.most = some n) (hn2 : n ≤ sizeLine) (hdf : d.params.defaults = []) (hr : Room k callerA) (hrec : (recsOf q).find? (fun e => e.name == lx) = some dr) (i : Nat) (ht : L.tab = some (lx, lq)) (hi : L.fa[i]? = some (tbB lx))
    (F : ∀ (w : World) (mg : Str → Option Value) (fa : Addr) (K : Fg) (c : L.Says K), Ns K mg → mg d.name = some (.ref fa) →
      ∃ fd : FuncData, (∀ (s : Shared) (u : Value), BindsTo s fd ⟨[u], []⟩ [(x, u)]) ∧ ∀ (p : Addr × Addr), PySem.W.tabIn K lx = some p → (L.gx K c).tabs = [(p.2, lq)] → ∀ base : Heap, K.In base → base.Ns mainGlobals mg → LamX.TabB base mg p.1 p.2 → FnG l.prog w K mg base (L2.CX l.prog w) k fa fd [x] (spF (L.gx K c) run 1))
    (good : ∀ ns : List Int, ns.length ≤ n → (∀ z ∈ ns, Builtin.Int.intBits z ≤ 1048576) → ∃ S, run [.fl (ns.map D.int)] ⟨[]⟩ = .ok (.bl true) S) :
    PySem.W.WalkO q loose XP (L.hook N).says l.row.toRowW d [] (fun f vs => PySem.call f vs) := by
  refine Att.attach_callB hn hdf fun w s0 s1 mg mb fa o pm cd doc a vs ns T ⟨K, KX, c⟩ ho hd hcd hmg hobj hints hlen hbits hg => ?_
  obtain ⟨fd, hb, hF⟩ := F w mg fa K c ⟨_, KX, T.T.g⟩ hmg
  obtain ⟨p, e1, e2, e3, e4⟩ := tbB_ok c i ht hi
  obtain ⟨_, e5⟩ := PySem.W.tab_of T.T KX hrec e1
  refine law_callT KX T.T.g T.T.b T.T.builtins T.T.nolimit hg e5 e2 e3 T.T.bmain hobj hints (Nat.le_trans hlen hn2) hr (hF p e1 e4) hb (fun H hO hS => ?_) fun H e s2 h => ?_
  · obtain ⟨rl, rv⟩ := startT_ok (G := L.gx K c) e4 hO hS
    obtain ⟨S, e⟩ := good ns hlen hbits
    refine ⟨⟨[], []⟩, ⟨[]⟩, _, rfl, rl, .cons rv .nil, ?_⟩
    rw [e]
    intro ρ2 H2 v _ _ r
    cases r
    rfl
  · obtain ⟨_, _, _, _, _, _, _, _, _, _, _, _, z⟩ := h
    exact z.elim
end L2.Mi

set_option Elab.async false
set_option linter.all false
set_option maxRecDepth 100000
set_option maxHeartbeats 4000000
/-! Mini, 58: defs as values; x(lambda: body) as the derivations take it. -/
namespace L2.Mi
open PySem PySem.Spec PyProof.Rows
section
variable {G : Gx} {X : Cx} {W : WX} {x : Str} {p pos : Pos} {e : Expr} {es : List Expr} {mo : ME} {ma : MA}
def eCallV (df : Nat → Option FN) (mo : ME) (ma : MA) : ME := fun σ S => (mo σ S).bind fun d S1 => match d with
  | .fn c => (match df c with | some g => (ma σ S1).bind fun xs S2 => g xs S2 | none => .bad)
  | _ => .bad
theorem se_callV {df : Nat → Option FN} (he : SE G X W (.Name x p) mo) (hd : ∀ c g, df c = some g → ∃ C, G.fns c = some C ∧ PySem.W.keepIn X.K (.ref C) = true ∧ FnS G X W (.ref C) g) (ha : SA G X W (e :: es) ma)
    (hst : starEach (e :: es) X.env = (false, eval e X.env) :: starEach es X.env := by rfl) (hpl : (backTo pos (starEach es X.env)).any (·.1) = false := by rfl) : SE G X W (.Call (.Name x p) (e :: es) [] pos) (eCallV df mo ma) := by
  refine ⟨fun pins s σ H Q I ⟨ρ, σs, S, rl, re, p⟩ => ?_⟩
  refine wpAny_Call_Name_kw (he.go I rl re p fun u s1 x H1 ρ1 S1 d I1 rx l1 rl1 re1 rv1 p1 => ?_)
  cases rv1 with
  | @fn c' C' hC' =>
    obtain rfl : u = Value.ref C' := rx
    simp only at p1
    cases q : df c' with
    | none => simp only [q] at p1; exact p1.elim
    | some g =>
      simp only [q] at p1
      obtain ⟨C, hC, hk, hF⟩ := hd c' g q
      rw [hC] at hC'
      cases hC'
      exact PySem.W.callWith_K (h₀ := X.base) I1.ok.mod.kin hk (ha.go I1 rl1 re1 p1 fun us s2 xs H2 ρ2 S2 ds I2 rx2 l2 rl2 re2 rv2 p2 => ⟨I2.kIn, hF pins s2 σ H2 xs us Q ρ2 S2 ds I2 rx2 rl2 rv2 p2⟩) hst hpl
  | _ => exact p1.elim
end
section
variable {L : Lw} {K : Fg} {X : Cx} {W : WX} {x : Str} {pos : Pos}
theorem fns_at (c : L.Says K) (j : Nat) {d : DefM} (h : L.defs[j]? = some d) : (L.gx K c).fns j = some (d.pth.ad K) := by
  show (L.defs[j]?).map (fun d => d.pth.ad K) = _
  rw [h]
  rfl
/-- a def's name -/
theorem se_fnv (c : L.Says K) (N : Ns K X.mg) (i j : Nat) {d : DefM} (h : L.fa[i]? = some (.glo x)) (hj : L.defs[j]? = some d) (hp : d.pth = .g x) (hg : Gl X x) (hdb : (x == ("__debug__" : Str)) = false := by decide) : SE (L.gx K c) X W (.Name x pos) (eC (.fn j)) := by
  refine se_glob hg (N.glo c i h) (v := .ref (He.ga K x)) rfl (fun ρ H => .fn ?_) hdb
  rw [fns_at c j hj, hp]
  rfl
end
theorem code_of {K : Fg} {x qual : Str} {params : Arguments} {body : List Stmt} {scope : Scope} {dvs : List V} {kws : List (Str × V)} {fd : FuncData} {p : Addr × Addr} (F : FunD K x qual params body scope dvs kws (He.ga K x) fd) (h : PySem.W.tabIn K x = some p) : fd.code = .ref p.1 := by
  obtain ⟨oc, od, dV, kV, doc, pm, an, cdv, ct, osl, e0, look, hcg, _, _⟩ := F.ex
  unfold PySem.W.tabIn at h
  unfold He.ga at look
  split at h
  · rename_i f hf
    rw [hf] at look
    simp only [look] at h
    split at h
    · rename_i c hc
      split at h
      · split at h
        · cases h
          exact hc
        · cases h
      · cases h
    · cases h
  · cases h
structure CkS (G : Gx) (X : Cx) : Prop where
  k : X.K = G.K
section
variable {G : Gx} {X : Cx} {W : WX} {isx : Nat → Nat → Option Bool} {Ng : List Str} {x a : Str} {g c P : Addr} {k : Nat} {pg params : Arguments} {sg scope : Scope} {body fe : Expr} {fin : D} {h0 : ExceptHandler} {hs : List ExceptHandler} {l : List Hd1} {m : ME} {p lpos pos p1 p2 p3 p4 p8 : Pos} {dvs : List V} {fd : FuncData}
theorem se_heardF (cc : Cc G X W) (ng : NoG X.A) (hr : Room (k + 2) X.A) (F : FunD G.K x x pg [.Try [.Expr (.Call (.Name a p1) [] [] p2) p3, .Return (some fe) p4] (h0 :: hs) [] [] p8] sg dvs [] g fd)
    (hg : Gl X x) (hm : X.mg x = some (.ref g)) (hb : L2.Binds G.K fd [a] [])
    (Sg : FnScope Ng [a] sg) (hNg : Ng[0]? = some a) (hva : Vis sg a) (hx : ∀ c1 c2 b v1 v2, isx c1 c2 = some b → G.clsv c1 = some v1 → G.clsv c2 = some v2 → PySem.W.exmOne G.K v1 v2 = some b)
    (hcl : ∀ cdv s H, CkS G (hdX X Ng x sg g cdv s H) → Room (k + 1) (hdX X Ng x sg g cdv s H).A → NoG (hdX X Ng x sg g cdv s H).A → ClS G (hdX X Ng x sg g cdv s H) (h0 :: hs) l)
    (hf : ∀ cdv s H W pn xe, SE G ((hdX X Ng x sg g cdv s H).tr pn xe) W fe (eC fin)) (hn0 : ∀ f : Addr, (L2.start Ng [V.ref f])[0]? = some (some (V.ref f)))
    (hsw : ∀ cdv s H pn xe, swapsWith (.Call (.Name a p1) [] [] p2) none p3.line ((hdX X Ng x sg g cdv s H).tr pn xe).env = pure false)
    (TB : LamX.TabB X.base X.mg c P) (hcode : X.env.code = .ref c) (hT : G.tabs = [(P, X.env.qual ++ "<lambda>")]) (hL : LamX.lamSB X.env.scope scope = true) (hdef : defaultsOf params X.env = ([], []))
    (hbind : ∀ (q : Str) (cl : List (Str × Addr)) (pm cv ctv : Value), bindArgs (PySem.W.kla_fn "<lambda>" q params body scope cl pm cv ctv) ⟨[], []⟩ = pure [])
    (hbody : ∀ (A : Around) (outer : List Env) (s : Shared) (H : Hp) (E : XK) (f c' : Addr), Room k (LamX.lamCx X A outer s H E scope f c').A → Cc G (LamX.lamCx X A outer s H E scope f c') (WF E) → SE G (LamX.lamCx X A outer s H E scope f c') (WF E) body m)
    (hdb : (x == ("__debug__" : Str)) = false := by decide) (hd : (a == ("__debug__" : Str)) = false := by decide) (hcd : (a == ("__classdict__" : Str)) = false := by decide) :
    SE G X W (.Call (.Name x p) [.Lambda params body scope lpos] [] pos) (eHeard isx Ng.length fin l m) := by
  obtain ⟨oc, od, dV, kV, doc, pm, an, cdv, ct, osl, e0, look, hcg, _, _⟩ := F.ex
  refine se_heard (k := k) cc hg hm (by rw [cc.k]; exact F.kp) (by rw [cc.k, ← e0]; exact look) (by rw [cc.k]; exact hcg) (by rw [cc.k, ← e0]; exact hb) Sg hNg hva
    (gives_heard cc.k Sg.nd hx (fun s H => hcl cdv s H ⟨cc.k⟩ (hr.deeper _) ng) (hf cdv) hn0 (hsw cdv)) TB hcode hT hr (LamX.lamS_by hL) hdef hbind (fun A outer s H E f c' hr2 cc2 => hbody A outer s H E f c' hr2 cc2) hdb hd hcd
end
end L2.Mi

set_option Elab.async false
set_option linter.all false
set_option maxRecDepth 100000
set_option maxHeartbeats 4000000
/-! Mini, 59: tokens of written texts by computing; a number of free digits between two written texts. -/
namespace L2.Mi
open PySem
variable {sg : List Nat} {ks : List (List Nat)}
/-- the tokens of a written part that ends with no open word -/
def tkP (sg : List Nat) (ks : List (List Nat)) : Nat → Nat → List Nat → Option (List Tok)
  | 0, _, _ => none
  | _ + 1, _, [] => some []
  | f + 1, a, c :: t => if c = 32 ∨ c = 10 then tkP sg ks f (a + 1) t else if c ∈ sg then (tkP sg ks f (a + 1) t).map (⟨MARK, [c], a⟩ :: ·) else
    if (c :: t).takeWhile LD = [] ∨ (c :: t).dropWhile LD = [] ∨ kindS ks ((c :: t).takeWhile LD) = BADW then none
    else (tkP sg ks f (a + ((c :: t).takeWhile LD).length) ((c :: t).dropWhile LD)).map (⟨kindS ks ((c :: t).takeWhile LD), (c :: t).takeWhile LD, a⟩ :: ·)
/-- the tokens of a written text to its end -/
def tkE (sg : List Nat) (ks : List (List Nat)) : Nat → Nat → List Nat → Option (List Tok)
  | 0, _, _ => none
  | _ + 1, a, [] => some [⟨ENDW, [], a⟩]
  | f + 1, a, c :: t => if c = 32 ∨ c = 10 then tkE sg ks f (a + 1) t else if c ∈ sg then (tkE sg ks f (a + 1) t).map (⟨MARK, [c], a⟩ :: ·) else
    if (c :: t).takeWhile LD = [] ∨ kindS ks ((c :: t).takeWhile LD) = BADW then none
    else (tkE sg ks f (a + ((c :: t).takeWhile LD).length) ((c :: t).dropWhile LD)).map (⟨kindS ks ((c :: t).takeWhile LD), (c :: t).takeWhile LD, a⟩ :: ·)
theorem tw_all : ∀ l : List Nat, ∀ c ∈ l.takeWhile LD, LD c = true
  | [], c, h => by cases h
  | x :: l, c, h => by
    by_cases q : LD x = true
    · rw [List.takeWhile_cons_of_pos q] at h
      rcases List.mem_cons.mp h with rfl | h
      · exact q
      · exact tw_all l c h
    · rw [List.takeWhile_cons_of_neg q] at h
      cases h
theorem dw_head : ∀ l : List Nat, ∀ c t, l.dropWhile LD = c :: t → LD c = false
  | [], c, t, h => by cases h
  | x :: l, c, t, h => by
    by_cases q : LD x = true
    · rw [List.dropWhile_cons_of_pos q] at h
      exact dw_head l c t h
    · rw [List.dropWhile_cons_of_neg q] at h
      cases h
      simpa using q
theorem tkE_ok : ∀ (f a : Nat) (l : List Nat) {ts : List Tok}, tkE sg ks f a l = some ts → Tk sg ks a l ts
  | 0, _, _, _, h => by cases h
  | _ + 1, a, [], _, h => by
    cases h
    exact .nil
  | f + 1, a, c :: t, ts, h => by
    unfold tkE at h
    by_cases q1 : c = 32 ∨ c = 10
    · rw [if_pos q1] at h
      exact .gap q1 (tkE_ok f (a + 1) t h)
    · rw [if_neg q1] at h
      by_cases q2 : c ∈ sg
      · rw [if_pos q2] at h
        obtain ⟨ts2, e, rfl⟩ := Option.map_eq_some_iff.mp h
        exact .sign (fun z => q1 (.inl z)) (fun z => q1 (.inr z)) q2 (tkE_ok f (a + 1) t e)
      · rw [if_neg q2] at h
        by_cases q3 : (c :: t).takeWhile LD = [] ∨ kindS ks ((c :: t).takeWhile LD) = BADW
        · rw [if_pos q3] at h; cases h
        · rw [if_neg q3] at h
          obtain ⟨ts2, e, rfl⟩ := Option.map_eq_some_iff.mp h
          have z := Tk.run (sg := sg) (ks := ks) (a := a) (fun z => q3 (.inl z)) (tw_all _) (dw_head _) (fun z => q3 (.inr z)) (tkE_ok f _ _ e)
          rw [List.takeWhile_append_dropWhile] at z
          exact z
theorem tkP_ok : ∀ (f a : Nat) (l : List Nat) {ts tr : List Tok} {R : List Nat}, tkP sg ks f a l = some ts → Tk sg ks (a + l.length) R tr → Tk sg ks a (l ++ R) (ts ++ tr)
  | 0, _, _, _, _, _, h, _ => by cases h
  | _ + 1, a, [], _, _, _, h, r => by
    cases h
    exact r
  | f + 1, a, c :: t, ts, tr, R, h, r => by
    have r1 : Tk sg ks (a + 1 + t.length) R tr := by
      have e : a + (c :: t).length = a + 1 + t.length := by simp; omega
      rw [e] at r
      exact r
    unfold tkP at h
    by_cases q1 : c = 32 ∨ c = 10
    · rw [if_pos q1] at h
      exact .gap q1 (tkP_ok f (a + 1) t h r1)
    · rw [if_neg q1] at h
      by_cases q2 : c ∈ sg
      · rw [if_pos q2] at h
        obtain ⟨ts2, e, rfl⟩ := Option.map_eq_some_iff.mp h
        exact .sign (fun z => q1 (.inl z)) (fun z => q1 (.inr z)) q2 (tkP_ok f (a + 1) t e r1)
      · rw [if_neg q2] at h
        by_cases q3 : (c :: t).takeWhile LD = [] ∨ (c :: t).dropWhile LD = [] ∨ kindS ks ((c :: t).takeWhile LD) = BADW
        · rw [if_pos q3] at h; cases h
        · rw [if_neg q3] at h
          obtain ⟨ts2, e, rfl⟩ := Option.map_eq_some_iff.mp h
          have le : ((c :: t).takeWhile LD).length + ((c :: t).dropWhile LD).length = (c :: t).length := by
            rw [← List.length_append, List.takeWhile_append_dropWhile]
          have r2 : Tk sg ks (a + ((c :: t).takeWhile LD).length + ((c :: t).dropWhile LD).length) R tr := by
            rw [Nat.add_assoc, le]
            exact r
          have z := Tk.run (sg := sg) (ks := ks) (a := a) (w := (c :: t).takeWhile LD) (rest := (c :: t).dropWhile LD ++ R) (fun z => q3 (.inl z)) (tw_all _) (fun x y hx => ?_) (fun z => q3 (.inr (.inr z))) (tkP_ok f _ _ e r2)
          · rw [← List.append_assoc, List.takeWhile_append_dropWhile] at z
            exact z
          · cases hd : (c :: t).dropWhile LD with
            | nil => exact absurd (.inr (.inl hd)) q3
            | cons u v =>
              rw [hd] at hx
              cases hx
              exact dw_head _ _ _ hd
/-- a number of free digits, none of them 0 -/
structure Num (w : List Nat) : Prop where
  ne : w ≠ []
  dg : ∀ c ∈ w, 49 ≤ c ∧ c ≤ 57
theorem Num.ld {w : List Nat} (h : Num w) : ∀ c ∈ w, LD c = true := fun c hc => by
  obtain ⟨h1, h2⟩ := h.dg c hc
  have : c = 49 ∨ c = 50 ∨ c = 51 ∨ c = 52 ∨ c = 53 ∨ c = 54 ∨ c = 55 ∨ c = 56 ∨ c = 57 := by omega
  rcases this with rfl | rfl | rfl | rfl | rfl | rfl | rfl | rfl | rfl <;> decide
theorem Num.txt {w : List Nat} (h : Num w) : Txt w := fun c hc => by
  obtain ⟨h1, h2⟩ := h.dg c hc
  omega
theorem Num.kind {w : List Nat} (h : Num w) (hk : ∀ k ∈ ks, ∀ c t, k = c :: t → 57 < c) (hn : ∀ k ∈ ks, k ≠ []) : kindS ks w = NUMB := by
  cases w with
  | nil => exact absurd rfl h.ne
  | cons c r =>
    obtain ⟨h1, h2⟩ := h.dg c (List.mem_cons_self ..)
    have e1 : (ks.any (· == c :: r)) = false := by
      rw [List.any_eq_false]
      intro k hk1 z
      have z := eq_of_beq z
      have := hk k hk1 c r z
      omega
    have e2 : decide (c ∈ LETS) = false := by
      rw [decide_eq_false_iff_not]
      unfold LETS
      simp only [List.mem_cons, List.not_mem_nil, or_false, not_or]
      omega
    have e3 : allD (c :: r) = true := by
      unfold allD
      rw [List.all_eq_true]
      intro x hx
      obtain ⟨g1, g2⟩ := h.dg x hx
      rw [decide_eq_true_eq]
      unfold DIGS
      simp only [List.mem_cons, List.not_mem_nil, or_false]
      omega
    have e4 : (c == 48) = false := by
      rw [beq_eq_false_iff_ne]
      omega
    unfold kindS
    simp only [e1, e2, e3, e4, Bool.false_eq_true, if_false, if_true, Bool.false_and]
/-- written text, a number, written text -/
theorem tk_num {w A B : List Nat} {ta tb : List Tok} {f g : Nat} (hw : Num w) (hk : ∀ k ∈ ks, ∀ c t, k = c :: t → 57 < c) (hn : ∀ k ∈ ks, k ≠ []) (hA : tkP sg ks f 0 A = some ta) (hB : tkE sg ks g (A.length + w.length) B = some tb) (hb : ∀ c t, B = c :: t → LD c = false) :
    Tk sg ks 0 (A ++ (w ++ B)) (ta ++ ⟨NUMB, w, A.length⟩ :: tb) := by
  refine tkP_ok f 0 A hA ?_
  have z := Tk.run (sg := sg) (ks := ks) (a := A.length) hw.ne hw.ld hb (by rw [hw.kind hk hn]; decide) (tkE_ok g _ B hB)
  rw [hw.kind hk hn] at z
  rw [Nat.zero_add]
  exact z
end L2.Mi

set_option Elab.async false
set_option linter.all false
set_option maxRecDepth 100000
set_option maxHeartbeats 4000000
/-! The program of law_k05_sizes_in_texts: runs, derivations. Printed by gen.py. -/
namespace L2.Mi.Pg
open PySem PySem.Spec PyProof.Rows
abbrev pw : Program := PySem.Challenge.pw_farmisses_k05_sizes_in_texts
def top (i : Nat) : Stmt := pw.main.body.getD i (.Pass ⟨0, 0, 0, 0⟩)
abbrev s_0 : Stmt := inClass (top 2) 0
abbrev s_1 : Stmt := inClass (top 3) 0
abbrev s_2 : Stmt := inClass (top 4) 0
abbrev s_3 : Stmt := top 13
abbrev s_4 : Stmt := top 14
abbrev s_5 : Stmt := top 15
abbrev s_6 : Stmt := top 16
abbrev s_7 : Stmt := inClass (top 17) 0
abbrev s_8 : Stmt := inClass (top 17) 1
abbrev s_9 : Stmt := inClass (top 17) 2
abbrev s_10 : Stmt := inClass (top 17) 3
abbrev s_11 : Stmt := inClass (top 17) 4
abbrev s_12 : Stmt := inClass (top 17) 5
abbrev s_13 : Stmt := inClass (top 17) 6
abbrev s_14 : Stmt := inClass (top 17) 7
abbrev s_15 : Stmt := inClass (top 17) 8
abbrev s_16 : Stmt := inClass (top 17) 9
abbrev s_17 : Stmt := inClass (top 17) 10
abbrev s_18 : Stmt := inClass (top 17) 11
abbrev s_19 : Stmt := inClass (top 17) 12
abbrev s_20 : Stmt := inClass (top 17) 13
abbrev s_21 : Stmt := inClass (top 17) 14
abbrev s_22 : Stmt := inClass (top 17) 15
abbrev s_23 : Stmt := inClass (top 17) 16
abbrev s_24 : Stmt := inClass (top 17) 17
abbrev s_25 : Stmt := top 18
abbrev s_26 : Stmt := top 19
abbrev s_27 : Stmt := top 20
abbrev s_28 : Stmt := top 22
abbrev s_29 : Stmt := top 23
abbrev s_30 : Stmt := top 24
abbrev s_31 : Stmt := top 25
abbrev s_32 : Stmt := top 26
abbrev s_33 : Stmt := top 27
abbrev s_34 : Stmt := top 28
def oAdd (call : Nat → FN) : D → D → Store → Res D := opOr (addF noOwn) catR
def oSub (call : Nat → FN) : D → D → Store → Res D := subF noOwn
def oMul (call : Nat → FN) : D → D → Store → Res D := opOr (mulF noOwn) (opOr repF repS)
def dNeg (call : Nat → FN) : Disp := fun c => match c with | _ => none
def oNeg (call : Nat → FN) : D → Store → Res D := negF (dNeg call)
def isiT : List (Tag × Tag × Bool) := [(.b "NoneType", .b "str", false), (.b "bool", .b "str", false), (.b "int", .b "str", false), (.b "str", .b "str", true), (.b "tuple", .b "str", false), (.b "list", .b "str", false), (.b "dict", .b "str", false), (.b "type", .b "str", false), (.o 0, .b "str", false)]
def isiL (t u : Tag) : Option Bool := (isiT.find? fun q => q.1 == t && q.2.1 == u).map (·.2.2)
def oEq (call : Nat → FN) : D → D → Store → Res D := eqF noOwn
def oNe (call : Nat → FN) : D → D → Store → Res D := neF noOwn
def dFn (call : Nat → FN) : Disp := fun c => match c with | 25 => some (call 25) | 26 => some (call 26) | 27 => some (call 27) | _ => none
def isxT : List (Nat × Nat × Bool) := [(1, 1, true), (1, 2, false), (1, 3, false), (2, 1, false), (2, 2, true), (2, 3, false), (3, 1, false), (3, 2, false), (3, 3, true)]
def isxL (i j : Nat) : Option Bool := isxTab isxT i j
def me_accept (call : Nat → FN) : Disp := fun c => match c with | 0 => some (call 10) | _ => none
def me_current (call : Nat → FN) : Disp := fun c => match c with | 0 => some (call 8) | _ => none
def me_expect (call : Nat → FN) : Disp := fun c => match c with | 0 => some (call 11) | _ => none
def me_is_next (call : Nat → FN) : Disp := fun c => match c with | 0 => some (call 9) | _ => none
def me_read_block (call : Nat → FN) : Disp := fun c => match c with | 0 => some (call 19) | _ => none
def me_read_end (call : Nat → FN) : Disp := fun c => match c with | 0 => some (call 22) | _ => none
def me_read_factor (call : Nat → FN) : Disp := fun c => match c with | 0 => some (call 13) | _ => none
def me_read_form (call : Nat → FN) : Disp := fun c => match c with | 0 => some (call 18) | _ => none
def me_read_loop (call : Nat → FN) : Disp := fun c => match c with | 0 => some (call 21) | _ => none
def me_read_name (call : Nat → FN) : Disp := fun c => match c with | 0 => some (call 12) | _ => none
def me_read_open_block (call : Nat → FN) : Disp := fun c => match c with | 0 => some (call 23) | _ => none
def me_read_power (call : Nat → FN) : Disp := fun c => match c with | 0 => some (call 15) | _ => none
def me_read_program (call : Nat → FN) : Disp := fun c => match c with | 0 => some (call 24) | _ => none
def me_read_size (call : Nat → FN) : Disp := fun c => match c with | 0 => some (call 17) | _ => none
def me_read_statement (call : Nat → FN) : Disp := fun c => match c with | 0 => some (call 20) | _ => none
def me_read_sum (call : Nat → FN) : Disp := fun c => match c with | 0 => some (call 16) | _ => none
def me_read_term (call : Nat → FN) : Disp := fun c => match c with | 0 => some (call 14) | _ => none
def at_at (call : Nat → FN) : ADisp := fun c => match c with | 0 => some none | _ => none
def at_depth (call : Nat → FN) : ADisp := fun c => match c with | 0 => some none | _ => none
def at_tokens (call : Nat → FN) : ADisp := fun c => match c with | 0 => some none | _ => none
def st_at (c : Nat) : Bool := match c with | 0 => true | _ => false
def st_depth (c : Nat) : Bool := match c with | 0 => true | _ => false
def st_tokens (c : Nat) : Bool := match c with | 0 => true | _ => false
def m_3 (call : Nat → FN) : MS :=
  -- kind_of
    sSeq (sIf (tOf (eBin (inF false) (eVar 0) (eVar 1))) (sRet (eC (.str [109, 97, 114, 107]))) (sNext))
    (sSeq (sIf (tOf (eBin (inF false) (eBin itemF (eVar 0) (eC (.int 0))) (eC (.str [97, 98, 99, 100, 101, 102, 103, 104, 105, 106, 107, 108, 109, 110, 111, 112, 113, 114, 115, 116, 117, 118, 119, 120, 121, 122])))) (sRet (eC (.str [110, 97, 109, 101]))) (sNext))
    (sSeq (sFor (iOr (iSeq (eVar 0)) (iTxt (eVar 0))) (gName 2) (sIf (tOf (eBin (inF true) (eVar 2) (eC (.str [48, 49, 50, 51, 52, 53, 54, 55, 56, 57])))) (sRet (eC (.str [98, 97, 100]))) (sNext)) 100000)
    (sSeq (sIf (tAnd (tOf (eBin (oEq call) (eBin itemF (eVar 0) (eC (.int 0))) (eC (.str [48])))) (tOf (eBin gtI (eFn lenF (aList [eVar 0])) (eC (.int 1))))) (sRet (eC (.str [98, 97, 100]))) (sNext))
    (sRet (eC (.str [110, 117, 109, 98, 101, 114]))))))
def m_4 (call : Nat → FN) : MS :=
  -- end_of_run
    sSeq (sSet 2 (eVar 1))
    (sSeq (sWhile (tAnd (tOf (eBin ltI (eVar 2) (eFn lenF (aList [eVar 0])))) (tOr (tOf (eBin (inF false) (eBin itemF (eVar 0) (eVar 2)) (eC (.str [97, 98, 99, 100, 101, 102, 103, 104, 105, 106, 107, 108, 109, 110, 111, 112, 113, 114, 115, 116, 117, 118, 119, 120, 121, 122])))) (tOf (eBin (inF false) (eBin itemF (eVar 0) (eVar 2)) (eC (.str [48, 49, 50, 51, 52, 53, 54, 55, 56, 57])))))) (sAug 2 addI (eC (.int 1))) 100000)
    (sRet (eVar 2)))
def m_5 (call : Nat → FN) : MS :=
  -- tokens_of
    sSeq (sSet 3 (eLst []))
    (sSeq (sSet 4 (eC (.int 0)))
    (sSeq (sWhile (tOf (eBin ltI (eVar 4) (eFn lenF (aList [eVar 0])))) (sIf (tOf (eBin (inF false) (eBin itemF (eVar 0) (eVar 4)) (eTup [eC (.str [32]), eC (.str [10])]))) (sAug 4 addI (eC (.int 1))) (sIf (tOf (eBin (inF false) (eBin itemF (eVar 0) (eVar 4)) (eVar 1))) (sSeq (sDrop (eBm isLst appendF (eVar 3) (aList [eTup [eC (.str [109, 97, 114, 107]), eBin itemF (eVar 0) (eVar 4), eVar 4]])))
    (sAug 4 addI (eC (.int 1)))) (sSeq (sSet 5 (eFn (call 4) (aList [eVar 0, eVar 4])))
    (sSeq (sIf (tOr (tOf (eBin (oEq call) (eVar 5) (eVar 4))) (tOf (eBin (oEq call) (eFn (call 3) (aList [eSlice (eVar 0) (oSome (eVar 4)) (oSome (eVar 5)), eVar 2])) (eC (.str [98, 97, 100]))))) (sSeq (sDrop (eBm isLst appendF (eVar 3) (aList [eTup [eC (.str [98, 97, 100]), eC (.str []), eVar 4]])))
    (sRet (eVar 3))) (sNext))
    (sSeq (sDrop (eBm isLst appendF (eVar 3) (aList [eTup [eFn (call 3) (aList [eSlice (eVar 0) (oSome (eVar 4)) (oSome (eVar 5)), eVar 2]), eSlice (eVar 0) (oSome (eVar 4)) (oSome (eVar 5)), eVar 4]])))
    (sSet 4 (eVar 5))))))) 100000)
    (sSeq (sDrop (eBm isLst appendF (eVar 3) (aList [eTup [eC (.str [101, 110, 100]), eC (.str []), eFn lenF (aList [eVar 0])]])))
    (sRet (eVar 3)))))
def m_6 (call : Nat → FN) : MS :=
  -- parts_from
    sSeq (sLock 0 (sSet 1 (eLcV (iKy (eVar 0)) (.one 2) (tOf (eBin (oNe call) (eBin dgetL (eVar 0) (eVar 2)) (eC (.int 0)))) (eVar 2) [2] 100000)))
    (sRet (eFn tupleF (aList [eLcV (iRange1 (eBin (oAdd call) (eMaxD (eVar 1) (eUn (oNeg call) (eC (.int 1)))) (eC (.int 1)))) (.one 2) (tYesM) (eDget2 (eVar 0) (eVar 2) (eC (.int 0))) [2] 100000])))
def m_7 (call : Nat → FN) : MS :=
  -- Reader.__init__
    sSeq (sFld st_tokens 0 (eVar 0) (eFn (call 5) (aList [eVar 1])))
    (sSeq (sFld st_at 1 (eVar 0) (eC (.int 0)))
    (sFld st_depth 2 (eVar 0) (eC (.int 0))))
def m_8 (call : Nat → FN) : MS :=
  -- Reader.current
    sRet (eBin itemF (eUn (attrF (at_tokens call) 0) (eVar 0)) (eUn (attrF (at_at call) 1) (eVar 0)))
def m_9 (call : Nat → FN) : MS :=
  -- Reader.is_next
    sRet (eBin (oEq call) (eSlice (eMeth (me_current call) 3 (eVar 0) (aList [])) (oNone) (oSome (eC (.int 2)))) (eTup [eC (.str [109, 97, 114, 107]), eVar 1]))
def m_10 (call : Nat → FN) : MS :=
  -- Reader.accept
    sSeq (sIf (tNot (tTru (eMeth (me_is_next call) 4 (eVar 0) (aList [eVar 1])))) (sRet (eC (.bl false))) (sNext))
    (sSeq (sFaug (· + ·) st_at 1 (eVar 0) (eC (.int 1)))
    (sRet (eC (.bl true))))
def m_11 (call : Nat → FN) : MS :=
  -- Reader.expect
    sIf (tNot (tTru (eMeth (me_accept call) 5 (eVar 0) (aList [eVar 1])))) (sRaise 2 6 (eBin itemF (eMeth (me_current call) 3 (eVar 0) (aList [])) (eC (.int 2)))) (sNext)
def m_12 (call : Nat → FN) : MS :=
  -- Reader.read_name
    sSeq (sAsg (eMeth (me_current call) 3 (eVar 0) (aList [])) (gTup [gName 1, gName 2, gName 3]))
    (sSeq (sIf (tOf (eBin (oNe call) (eVar 1) (eC (.str [110, 97, 109, 101])))) (sRaise 2 6 (eVar 3)) (sNext))
    (sSeq (sFaug (· + ·) st_at 1 (eVar 0) (eC (.int 1)))
    (sRet (eVar 2))))
def m_13 (call : Nat → FN) : MS :=
  -- Reader.read_factor
    sSeq (sAsg (eMeth (me_current call) 3 (eVar 0) (aList [])) (gTup [gName 2, gName 3, gName 4]))
    (sSeq (sIf (tOf (eBin (oEq call) (eVar 2) (eC (.str [110, 117, 109, 98, 101, 114])))) (sSeq (sIf (tOf (eBin gtI (eFn lenF (aList [eVar 3])) (eC (.int 150)))) (sRaise 3 7 (eC (.str [110, 117, 109, 98, 101, 114, 115]))) (sNext))
    (sSeq (sFaug (· + ·) st_at 1 (eVar 0) (eC (.int 1)))
    (sRet (eFn (fnOr intF intT) (aList [eVar 3]))))) (sNext))
    (sSeq (sIf (tTru (eMeth (me_accept call) 5 (eVar 0) (aList [eC (.str [110])]))) (sRet (eC (.str [110]))) (sNext))
    (sSeq (sIf (tNot (tTru (eVar 1))) (sRaise 2 6 (eVar 4)) (sNext))
    (sRet (eMeth (me_read_name call) 8 (eVar 0) (aList []))))))
def m_14 (call : Nat → FN) : MS :=
  -- Reader.read_term
    sSeq (sAsg (eTup [eC (.int 1), eC (.int 0), eC (.str [])]) (gTup [gName 2, gName 3, gName 4]))
    (sSeq (sSet 5 (eMeth (me_read_factor call) 9 (eVar 0) (aList [eVar 1])))
    (sSeq (sSet 6 (eLst [eVar 5]))
    (sSeq (sWhile (tOr (tNot (tTru (eFn (isiF isiL) (aList [eBin itemF (eVar 6) (eUn (oNeg call) (eC (.int 1))), eC (.ty "str")])))) (tOf (eBin (oEq call) (eBin itemF (eVar 6) (eUn (oNeg call) (eC (.int 1)))) (eC (.str [110]))))) (sSeq (sIf (tNot (tTru (eMeth (me_accept call) 5 (eVar 0) (aList [eC (.str [42])])))) (sBreak) (sNext))
    (sSeq (sSet 7 (eMeth (me_read_power call) 10 (eVar 0) (aList [eVar 1])))
    (sDrop (eBm isLst appendF (eVar 6) (aList [eVar 7]))))) 100000)
    (sSeq (sFor (iOr (iSeq (eVar 6)) (iTxt (eVar 6))) (gName 7) (sIf (tOf (eBin (oEq call) (eVar 7) (eC (.str [110])))) (sAug 3 addI (eC (.int 1))) (sIf (tTru (eFn (isiF isiL) (aList [eVar 7, eC (.ty "str")]))) (sSet 4 (eVar 7)) (sSet 2 (eVar 7)))) 100000)
    (sSeq (sIf (tOf (eBin gtI (eVar 3) (eC (.int 3)))) (sRaise 3 7 (eC (.str [100, 101, 103, 114, 101, 101]))) (sNext))
    (sRet (eTup [eVar 4, eVar 3, eVar 2])))))))
def m_15 (call : Nat → FN) : MS :=
  -- Reader.read_power
    sSeq (sIf (tOf (eBin (oEq call) (eBin itemF (eMeth (me_current call) 3 (eVar 0) (aList [])) (eC (.int 0))) (eC (.str [110, 117, 109, 98, 101, 114])))) (sRaise 2 6 (eBin itemF (eMeth (me_current call) 3 (eVar 0) (aList [])) (eC (.int 2)))) (sNext))
    (sRet (eMeth (me_read_factor call) 9 (eVar 0) (aList [eVar 1])))
def m_16 (call : Nat → FN) : MS :=
  -- Reader.read_sum
    sSeq (sSet 2 (eDnew))
    (sSeq (sSet 3 (eIf (tTru (eMeth (me_accept call) 5 (eVar 0) (aList [eC (.str [45])]))) (eUn (oNeg call) (eC (.int 1))) (eC (.int 1))))
    (sSeq (sWhile (tOf (eBin (oNe call) (eVar 3) (eC (.int 0)))) (sSeq (sAsg (eMeth (me_read_term call) 11 (eVar 0) (aList [eVar 1])) (gTup [gName 4, gName 5, gName 6]))
    (sSeq (sSet 7 (eDsetd (eVar 2) (eVar 4) (eDnew)))
    (sSeq (sDput (eVar 7) (eVar 5) (eBin (oAdd call) (eDget2 (eVar 7) (eVar 5) (eC (.int 0))) (eBin (oMul call) (eVar 3) (eVar 6))))
    (sSet 3 (eIf (tTru (eMeth (me_accept call) 5 (eVar 0) (aList [eC (.str [43])]))) (eC (.int 1)) (eIf (tTru (eMeth (me_accept call) 5 (eVar 0) (aList [eC (.str [45])]))) (eUn (oNeg call) (eC (.int 1))) (eC (.int 0)))))))) 100000)
    (sRet (eLock 2 (eDc (iKy (eVar 2)) (.one 4) (tYesM) (eVar 4) (eFn (call 6) (aList [eBin dgetL (eVar 2) (eVar 4)])) [4] 100000)))))
def m_17 (call : Nat → FN) : MS :=
  -- Reader.read_size
    sRet (eBin dgetF (eMeth (me_read_sum call) 12 (eVar 0) (aList [eC (.bl false)])) (eC (.str [])))
def m_18 (call : Nat → FN) : MS :=
  -- Reader.read_form
    sSeq (sSet 1 (eMeth (me_read_sum call) 12 (eVar 0) (aList [eC (.bl true)])))
    (sSeq (sSet 2 (eLcV (iOr (iSeq (eFn (fnOr sortLF sortDF) (aList [eVar 1]))) (iTxt (eFn (fnOr sortLF sortDF) (aList [eVar 1])))) (.one 3) (tAnd (tOf (eBin (oNe call) (eVar 3) (eC (.str [])))) (tOf (eBin (oNe call) (eBin dgetF (eVar 1) (eVar 3)) (eTup [])))) (eTup [eVar 3, eBin dgetF (eVar 1) (eVar 3)]) [3] 100000))
    (sRet (eTup [eDget2 (eVar 1) (eC (.str [])) (eTup []), eFn tupleF (aList [eVar 2])])))
def m_19 (call : Nat → FN) : MS :=
  -- Reader.read_block
    sSeq (sSet 1 (eLst []))
    (sSeq (sWhile (tNot (tTru (eMeth (me_accept call) 5 (eVar 0) (aList [eC (.str [125])])))) (sDrop (eBm isLst appendF (eVar 1) (aList [eMeth (me_read_statement call) 13 (eVar 0) (aList [])]))) 100000)
    (sRet (eFn tupleF (aList [eVar 1]))))
def m_20 (call : Nat → FN) : MS :=
  -- Reader.read_statement
    sSeq (sIf (tTru (eMeth (me_accept call) 5 (eVar 0) (aList [eC (.str [102, 108, 117, 115, 104])]))) (sRet (eTup [eC (.str [102, 108, 117, 115, 104])])) (sNext))
    (sSeq (sIf (tTru (eMeth (me_accept call) 5 (eVar 0) (aList [eC (.str [102, 111, 114])]))) (sRet (eMeth (me_read_loop call) 14 (eVar 0) (aList []))) (sNext))
    (sSeq (sSet 1 (eIf (tTru (eMeth (me_accept call) 5 (eVar 0) (aList [eC (.str [114, 101, 97, 100])]))) (eC (.str [114, 101, 97, 100])) (eC (.str [119, 114, 105, 116, 101]))))
    (sSeq (sIf (tOf (eBin (oEq call) (eVar 1) (eC (.str [119, 114, 105, 116, 101])))) (sDrop (eMeth (me_expect call) 15 (eVar 0) (aList [eC (.str [119, 114, 105, 116, 101])]))) (sNext))
    (sSeq (sSet 2 (eMeth (me_read_name call) 8 (eVar 0) (aList [])))
    (sSeq (sDrop (eMeth (me_expect call) 15 (eVar 0) (aList [eC (.str [91])])))
    (sSeq (sSet 3 (eMeth (me_read_form call) 16 (eVar 0) (aList [])))
    (sSeq (sDrop (eMeth (me_expect call) 15 (eVar 0) (aList [eC (.str [93])])))
    (sRet (eTup [eVar 1, eVar 2, eVar 3])))))))))
def m_21 (call : Nat → FN) : MS :=
  -- Reader.read_loop
    sSeq (sSet 1 (eMeth (me_read_name call) 8 (eVar 0) (aList [])))
    (sSeq (sSet 2 (eMeth (me_read_size call) 17 (eVar 0) (aList [])))
    (sSeq (sIf (tAnd (tTru (eMeth (me_is_next call) 4 (eVar 0) (aList [eC (.str [123])]))) (tOf (eBin (oEq call) (eUn (attrF (at_depth call) 2) (eVar 0)) (eC (.int 5))))) (sRaise 3 7 (eC (.str [110, 101, 115, 116, 105, 110, 103]))) (sNext))
    (sSeq (sDrop (eMeth (me_expect call) 15 (eVar 0) (aList [eC (.str [123])])))
    (sSeq (sFaug (· + ·) st_depth 2 (eVar 0) (eC (.int 1)))
    (sSeq (sSet 3 (eMeth (me_read_block call) 18 (eVar 0) (aList [])))
    (sSeq (sFaug (· - ·) st_depth 2 (eVar 0) (eC (.int 1)))
    (sRet (eTup [eC (.str [102, 111, 114]), eVar 1, eVar 2, eVar 3]))))))))
def m_22 (call : Nat → FN) : MS :=
  -- Reader.read_end
    sIf (tOf (eBin (oNe call) (eBin itemF (eMeth (me_current call) 3 (eVar 0) (aList [])) (eC (.int 0))) (eC (.str [101, 110, 100])))) (sRaise 2 6 (eBin itemF (eMeth (me_current call) 3 (eVar 0) (aList [])) (eC (.int 2)))) (sNext)
def m_23 (call : Nat → FN) : MS :=
  -- Reader.read_open_block
    sSeq (sSet 1 (eLst []))
    (sSeq (sWhile (tOf (eBin (oNe call) (eBin itemF (eMeth (me_current call) 3 (eVar 0) (aList [])) (eC (.int 0))) (eC (.str [101, 110, 100])))) (sDrop (eBm isLst appendF (eVar 1) (aList [eMeth (me_read_statement call) 13 (eVar 0) (aList [])]))) 100000)
    (sRet (eFn tupleF (aList [eVar 1]))))
def m_24 (call : Nat → FN) : MS :=
  -- Reader.read_program
    sSeq (sSet 1 (eLst []))
    (sSeq (sWhile (tTru (eMeth (me_accept call) 5 (eVar 0) (aList [eC (.str [97, 114, 114, 97, 121])]))) (sSeq (sSet 2 (eMeth (me_read_name call) 8 (eVar 0) (aList [])))
    (sDrop (eBm isLst appendF (eVar 1) (aList [eTup [eVar 2, eMeth (me_read_size call) 17 (eVar 0) (aList [])]])))) 100000)
    (sRet (eTup [eFn tupleF (aList [eVar 1]), eMeth (me_read_open_block call) 19 (eVar 0) (aList [])])))
def m_25 (call : Nat → FN) : MS :=
  -- parse
    sSeq (sIf (tNot (tTru (eFn (isiF isiL) (aList [eVar 0, eC (.ty "str")])))) (sRaise 1 20 (eVar 0)) (sNext))
    (sRet (eMeth (me_read_program call) 21 (eFn (makeW 0 (call 7)) (aList [eVar 0])) (aList [])))
def m_26 (call : Nat → FN) : MS :=
  -- parse_size
    sSeq (sIf (tNot (tTru (eFn (isiF isiL) (aList [eVar 0, eC (.ty "str")])))) (sRaise 1 20 (eVar 0)) (sNext))
    (sSeq (sSet 1 (eFn (makeW 0 (call 7)) (aList [eVar 0])))
    (sSeq (sSet 2 (eMeth (me_read_size call) 17 (eVar 1) (aList [])))
    (sSeq (sDrop (eMeth (me_read_end call) 22 (eVar 1) (aList [])))
    (sRet (eVar 2)))))
def m_27 (call : Nat → FN) : MS :=
  -- parse_block
    sSeq (sIf (tNot (tTru (eFn (isiF isiL) (aList [eVar 0, eC (.ty "str")])))) (sRaise 1 20 (eVar 0)) (sNext))
    (sRet (eMeth (me_read_open_block call) 19 (eFn (makeW 0 (call 7)) (aList [eVar 0])) (aList [])))
def m_28 (call : Nat → FN) : MS :=
  -- _law_pool
    sSeq (sSet 2 (eC (.int 0)))
    (sSeq (sIf (tOf (eBin ltI (eVar 1) (eFn lenF (aList [eVar 0])))) (sSet 2 (eBin itemF (eVar 0) (eVar 1))) (sNext))
    (sSeq (sSet 3 (eFn absF (aList [eVar 2])))
    (sSeq (sSet 4 (eBin modI (eBin (oMul call) (eFn intF (aList [eBin (oAdd call) (eBin modI (eFn intF (aList [eVar 2])) (eC (.int 2147483629))) (eBin (oMul call) (eC (.int 104729)) (eBin (oAdd call) (eVar 1) (eC (.int 1))))])) (eBin (oAdd call) (eVar 1) (eC (.int 7)))) (eC (.int 2147483629))))
    (sSeq (sSet 5 (eBin modI (eBin (oMul call) (eBin modI (eFn intF (aList [eBin (oMul call) (eVar 4) (eVar 4)])) (eC (.int 2147483629))) (eC (.int 48271))) (eC (.int 2147483647))))
    (sRet (eLst [eBin (oMul call) (eVar 3) (eFn intF (aList [eBin geI (eVar 3) (eBin powI (eC (.int 10)) (eC (.int 18)))])), eVar 5]))))))
def m_29 (call : Nat → FN) : MS :=
  -- _law_take
    sSeq (sIf (tOf (eBin gtI (eBin itemF (eVar 0) (eC (.int 0))) (eC (.int 0)))) (sSeq (sSet 2 (eBin modI (eFn intF (aList [eBin itemF (eVar 0) (eC (.int 0))])) (eVar 1)))
    (sSeq (sAsg (eBin divI (eBin itemF (eVar 0) (eC (.int 0))) (eVar 1)) (gSub (eVar 0) (eC (.int 0)) setL))
    (sRet (eVar 2)))) (sNext))
    (sSeq (sAsg (eBin modI (eFn intF (aList [eBin (oAdd call) (eBin (oMul call) (eBin itemF (eVar 0) (eC (.int 1))) (eC (.int 48271))) (eC (.int 12345))])) (eC (.int 2147483647))) (gSub (eVar 0) (eC (.int 1)) setL))
    (sRet (eBin modI (eBin divI (eBin modI (eFn intF (aList [eBin (oMul call) (eBin itemF (eVar 0) (eC (.int 1))) (eBin itemF (eVar 0) (eC (.int 1)))])) (eC (.int 2147483629))) (eC (.int 64))) (eVar 1))))
def m_31 (call : Nat → FN) : MS :=
  -- _law_loops
    sRet (eBin (oAdd call) (eBin (oAdd call) (eBin (oMul call) (eC (.str [102, 111, 114, 32, 105, 32, 110, 32, 123, 32])) (eVar 0)) (eVar 1)) (eBin (oMul call) (eC (.str [32, 125])) (eVar 0)))
def m_32 (call : Nat → FN) : MS :=
  -- _law_texts
    sSeq (sSet 3 (eBm isStr joinF (eC (.str [42])) (aList [eBin (oMul call) (eLv [eC (.str [110])]) (eVar 1)])))
    (sSeq (sSet 4 (eLv [eBin (oAdd call) (eC (.str [97, 114, 114, 97, 121, 32, 97, 32])) (eVar 0), eBin (oAdd call) (eBin (oAdd call) (eC (.str [97, 114, 114, 97, 121, 32, 97, 32, 110, 32, 43, 32])) (eVar 0)) (eC (.str [42, 110])), eBin (oAdd call) (eBin (oAdd call) (eC (.str [102, 111, 114, 32, 105, 32, 45, 32])) (eVar 0)) (eC (.str [32, 123, 32, 125]))]))
    (sSeq (sSet 4 (eBin (oAdd call) (eVar 4) (eLv [eBin (oAdd call) (eBin (oAdd call) (eC (.str [114, 101, 97, 100, 32, 97, 91])) (eVar 0)) (eC (.str [42, 105, 93])), eBin (oAdd call) (eBin (oAdd call) (eC (.str [114, 101, 97, 100, 32, 97, 91, 105, 32, 43, 32])) (eVar 0)) (eC (.str [93])), eBin (oAdd call) (eC (.str [97, 114, 114, 97, 121, 32, 97, 32])) (eVar 3)])))
    (sSeq (sSet 4 (eBin (oAdd call) (eVar 4) (eLv [eBin (oAdd call) (eBin (oAdd call) (eC (.str [114, 101, 97, 100, 32, 97, 91, 51, 42])) (eVar 3)) (eC (.str [42, 105, 93])), eBin (oAdd call) (eBin (oAdd call) (eC (.str [102, 111, 114, 32, 105, 32, 50, 32, 45, 32])) (eVar 3)) (eC (.str [32, 123, 32, 125]))])))
    (sSeq (sSet 5 (eC (.str [102, 111, 114, 32, 106, 32, 110, 32, 123, 32, 114, 101, 97, 100, 32, 97, 91, 106, 93, 32, 125, 32, 102, 108, 117, 115, 104])))
    (sRet (eBin (oAdd call) (eVar 4) (eLv [eFn (call 31) (aList [eVar 2, eC (.str [102, 108, 117, 115, 104])]), eFn (call 31) (aList [eBin (oSub call) (eVar 2) (eC (.int 1)), eVar 5])])))))))
def m_33 (call : Nat → FN) : MS :=
  -- _law_due
    sSeq (sIf (tOf (eBin ltI (eVar 0) (eC (.int 5)))) (sRet (eIf (tOf (eBin gtI (eVar 1) (eC (.int 150)))) (eC (.str [110, 117, 109, 98, 101, 114, 115])) (eC (.str [102, 105, 110, 101])))) (sNext))
    (sSeq (sIf (tOf (eBin ltI (eVar 0) (eC (.int 8)))) (sRet (eIf (tOf (eBin gtI (eVar 2) (eC (.int 3)))) (eC (.str [100, 101, 103, 114, 101, 101])) (eC (.str [102, 105, 110, 101])))) (sNext))
    (sRet (eIf (tOf (eBin gtI (eVar 3) (eC (.int 5)))) (eC (.str [110, 101, 115, 116, 105, 110, 103])) (eC (.str [102, 105, 110, 101])))))
def m_34 (call : Nat → FN) : MS :=
  -- law
    sSeq (sFor (iOr (iSeq (eLv [eC .non, eC (.int 5), eLv [eC (.str [110])], eTup [eC (.str [110])], eC (.bl true)])) (iTxt (eLv [eC .non, eC (.int 5), eLv [eC (.str [110])], eTup [eC (.str [110])], eC (.bl true)]))) (gName 1) (sFor (iOr (iSeq (eLv [eC (.fn 25), eC (.fn 26), eC (.fn 27)])) (iTxt (eLv [eC (.fn 25), eC (.fn 26), eC (.fn 27)]))) (gName 2) (sIf (tOf (eBin (oNe call) (eHeard isxL 2 (.str [102, 105, 110, 101]) [⟨3, some 1, xF 3 7⟩, ⟨2, some 1, xF 2 6⟩, ⟨1, some 1, xLv [xC (.str [116, 101, 120, 116]), xFn (reprF 8) [xF 1 20]]⟩] (eCallV (dFn call) (eVar 2) (aList [eVar 1]))) (eLv [eC (.str [116, 101, 120, 116]), eFn (reprF 8) (aList [eVar 1])]))) (sRet (eC (.bl false))) (sNext)) 100000) 100000)
    (sSeq (sFor (iRange1 (eFn max2F (aList [eC (.int 1), eFn min2F (aList [eFn lenF (aList [eVar 0]), eC (.int 6)])]))) (gName 3) (sSeq (sSet 4 (eFn (call 28) (aList [eVar 0, eVar 3])))
    (sSeq (sPar3 5 6 7 (eBin (oAdd call) (eC (.int 149)) (eFn (call 29) (aList [eVar 4, eC (.int 4)]))) (eBin (oAdd call) (eC (.int 2)) (eFn (call 29) (aList [eVar 4, eC (.int 4)]))) (eBin (oAdd call) (eC (.int 4)) (eFn (call 29) (aList [eVar 4, eC (.int 4)]))))
    (sSeq (sSet 8 (eBm isStr joinF (eC (.str [])) (aList [eLcV (iRange1 (eVar 5)) (.one 9) (tYesM) (eBin itemF (eC (.str [49, 50, 51, 52, 53, 54, 55, 56, 57])) (eFn (call 29) (aList [eVar 4, eC (.int 9)]))) [9] 100000])))
    (sSeq (sFor (iEn (eFn (call 32) (aList [eVar 8, eVar 6, eVar 7]))) (gTup [gName 10, gName 11]) (sSeq (sSet 12 (eFn (call 33) (aList [eVar 10, eVar 5, eVar 6, eVar 7])))
    (sSeq (sIf (tOf (eBin (oNe call) (eHeard isxL 2 (.str [102, 105, 110, 101]) [⟨3, some 1, xF 3 7⟩, ⟨2, some 1, xF 2 6⟩, ⟨1, some 1, xLv [xC (.str [116, 101, 120, 116]), xFn (reprF 8) [xF 1 20]]⟩] (eFn (pureF (call 25)) (aList [eVar 11]))) (eVar 12))) (sRet (eC (.bl false))) (sNext))
    (sSeq (sIf (tOf (eBin (oNe call) (eHeard isxL 2 (.str [102, 105, 110, 101]) [⟨3, some 1, xF 3 7⟩, ⟨2, some 1, xF 2 6⟩, ⟨1, some 1, xLv [xC (.str [116, 101, 120, 116]), xFn (reprF 8) [xF 1 20]]⟩] (eFn (pureF (call 25)) (aList [eBin (oAdd call) (eVar 11) (eC (.str [32, 93]))]))) (eIf (tOf (eBin (oEq call) (eVar 12) (eC (.str [102, 105, 110, 101])))) (eBin (oAdd call) (eFn lenF (aList [eVar 11])) (eC (.int 1))) (eVar 12)))) (sRet (eC (.bl false))) (sNext))
    (sIf (tOf (eBin (oNe call) (eHeard isxL 2 (.str [102, 105, 110, 101]) [⟨3, some 1, xF 3 7⟩, ⟨2, some 1, xF 2 6⟩, ⟨1, some 1, xLv [xC (.str [116, 101, 120, 116]), xFn (reprF 8) [xF 1 20]]⟩] (eFn (pureF (call 25)) (aList [eBin (oAdd call) (eC (.str [102, 108, 117, 115, 104, 32, 125, 32])) (eVar 11)]))) (eC (.int 6)))) (sRet (eC (.bl false))) (sNext))))) 100000)
    (sSeq (sIf (tOf (eBin (oNe call) (eHeard isxL 2 (.str [102, 105, 110, 101]) [⟨3, some 1, xF 3 7⟩, ⟨2, some 1, xF 2 6⟩, ⟨1, some 1, xLv [xC (.str [116, 101, 120, 116]), xFn (reprF 8) [xF 1 20]]⟩] (eFn (pureF (call 26)) (aList [eVar 8]))) (eFn (call 33) (aList [eC (.int 0), eVar 5, eVar 6, eVar 7])))) (sRet (eC (.bl false))) (sNext))
    (sSeq (sIf (tOf (eBin (oNe call) (eHeard isxL 2 (.str [102, 105, 110, 101]) [⟨3, some 1, xF 3 7⟩, ⟨2, some 1, xF 2 6⟩, ⟨1, some 1, xLv [xC (.str [116, 101, 120, 116]), xFn (reprF 8) [xF 1 20]]⟩] (eFn (pureF (call 26)) (aList [eBin (oAdd call) (eC (.str [110, 42])) (eVar 8)]))) (eC (.int 2)))) (sRet (eC (.bl false))) (sNext))
    (sIf (tOf (eBin (oNe call) (eHeard isxL 2 (.str [102, 105, 110, 101]) [⟨3, some 1, xF 3 7⟩, ⟨2, some 1, xF 2 6⟩, ⟨1, some 1, xLv [xC (.str [116, 101, 120, 116]), xFn (reprF 8) [xF 1 20]]⟩] (eFn (pureF (call 25)) (aList [eBin (oAdd call) (eC (.str [102, 111, 114, 32])) (eVar 8)]))) (eC (.int 4)))) (sRet (eC (.bl false))) (sNext)))))))) 100000)
    (sSeq (sIf (tOf (eBin (oNe call) (eHeard isxL 2 (.str [102, 105, 110, 101]) [⟨3, some 1, xF 3 7⟩, ⟨2, some 1, xF 2 6⟩, ⟨1, some 1, xLv [xC (.str [116, 101, 120, 116]), xFn (reprF 8) [xF 1 20]]⟩] (eFn (pureF (call 25)) (aList [eBin (oMul call) (eC (.str [102, 111, 114, 32, 105, 32, 110, 32, 123])) (eC (.int 9))]))) (eC (.str [110, 101, 115, 116, 105, 110, 103])))) (sRet (eC (.bl false))) (sNext))
    (sRet (eBin (oEq call) (eHeard isxL 2 (.str [102, 105, 110, 101]) [⟨3, some 1, xF 3 7⟩, ⟨2, some 1, xF 2 6⟩, ⟨1, some 1, xLv [xC (.str [116, 101, 120, 116]), xFn (reprF 8) [xF 1 20]]⟩] (eFn (pureF (call 25)) (aList [eBin (oMul call) (eC (.str [110])) (eC (.int 20))]))) (eC (.int 0))))))
def bodies : List ((Nat → FN) → FN) := [fun call => fun _ _ => .bad,
  fun call => fun _ _ => .bad,
  fun call => fun _ _ => .bad,
  fun call => callD 2 [] (bodyRun 3 (m_3 call)),
  fun call => callD 2 [] (bodyRun 3 (m_4 call)),
  fun call => callD 3 [(.str [123, 125, 91, 93, 43, 45, 42]), (.kt [(.str [97, 114, 114, 97, 121]), (.str [102, 111, 114]), (.str [114, 101, 97, 100]), (.str [119, 114, 105, 116, 101]), (.str [102, 108, 117, 115, 104]), (.str [110])])] (bodyRun 6 (m_5 call)),
  fun call => callD 1 [] (bodyRun 3 (m_6 call)),
  fun call => callD 2 [] (bodyRun 2 (m_7 call)),
  fun call => callD 1 [] (bodyRun 1 (m_8 call)),
  fun call => callD 2 [] (bodyRun 2 (m_9 call)),
  fun call => callD 2 [] (bodyRun 2 (m_10 call)),
  fun call => callD 2 [] (bodyRun 2 (m_11 call)),
  fun call => callD 1 [] (bodyRun 4 (m_12 call)),
  fun call => callD 2 [] (bodyRun 5 (m_13 call)),
  fun call => callD 2 [] (bodyRun 8 (m_14 call)),
  fun call => callD 2 [] (bodyRun 2 (m_15 call)),
  fun call => callD 2 [] (bodyRun 8 (m_16 call)),
  fun call => callD 1 [] (bodyRun 1 (m_17 call)),
  fun call => callD 1 [] (bodyRun 4 (m_18 call)),
  fun call => callD 1 [] (bodyRun 2 (m_19 call)),
  fun call => callD 1 [] (bodyRun 4 (m_20 call)),
  fun call => callD 1 [] (bodyRun 4 (m_21 call)),
  fun call => callD 1 [] (bodyRun 1 (m_22 call)),
  fun call => callD 1 [] (bodyRun 2 (m_23 call)),
  fun call => callD 1 [] (bodyRun 3 (m_24 call)),
  fun call => callD 1 [] (bodyRun 1 (m_25 call)),
  fun call => callD 1 [] (bodyRun 3 (m_26 call)),
  fun call => callD 1 [] (bodyRun 1 (m_27 call)),
  fun call => callD 2 [] (bodyRun 6 (m_28 call)),
  fun call => callD 2 [] (bodyRun 3 (m_29 call)),
  fun call => fun _ _ => .bad,
  fun call => callD 2 [] (bodyRun 2 (m_31 call)),
  fun call => callD 3 [] (bodyRun 6 (m_32 call)),
  fun call => callD 4 [] (bodyRun 4 (m_33 call)),
  fun call => fun _ _ => .bad]
def run : Nat → Nat → FN
  | 0, _ => fun _ _ => .bad
  | n + 1, i => (bodies.getD i fun _ _ _ => .bad) (run n)
theorem run_3 {n : Nat} {S : Store} {a0 : D} {a1 : D} : run (n + 1) 3 [a0, a1] S = fin (m_3 (run n) [some a0, some a1, none] S) := rfl
theorem run_4 {n : Nat} {S : Store} {a0 : D} {a1 : D} : run (n + 1) 4 [a0, a1] S = fin (m_4 (run n) [some a0, some a1, none] S) := rfl
theorem run_5 {n : Nat} {S : Store} {a0 : D} {a1 : D} {a2 : D} : run (n + 1) 5 [a0, a1, a2] S = fin (m_5 (run n) [some a0, some a1, some a2, none, none, none] S) := rfl
theorem run_5_ {n : Nat} {S : Store} {a0 : D} {a1 : D} : run (n + 1) 5 [a0, a1] S = fin (m_5 (run n) [some a0, some a1, some (.kt [(.str [97, 114, 114, 97, 121]), (.str [102, 111, 114]), (.str [114, 101, 97, 100]), (.str [119, 114, 105, 116, 101]), (.str [102, 108, 117, 115, 104]), (.str [110])]), none, none, none] S) := rfl
theorem run_5__ {n : Nat} {S : Store} {a0 : D} : run (n + 1) 5 [a0] S = fin (m_5 (run n) [some a0, some (.str [123, 125, 91, 93, 43, 45, 42]), some (.kt [(.str [97, 114, 114, 97, 121]), (.str [102, 111, 114]), (.str [114, 101, 97, 100]), (.str [119, 114, 105, 116, 101]), (.str [102, 108, 117, 115, 104]), (.str [110])]), none, none, none] S) := rfl
theorem run_6 {n : Nat} {S : Store} {a0 : D} : run (n + 1) 6 [a0] S = fin (m_6 (run n) [some a0, none, none] S) := rfl
theorem run_7 {n : Nat} {S : Store} {a0 : D} {a1 : D} : run (n + 1) 7 [a0, a1] S = fin (m_7 (run n) [some a0, some a1] S) := rfl
theorem run_8 {n : Nat} {S : Store} {a0 : D} : run (n + 1) 8 [a0] S = fin (m_8 (run n) [some a0] S) := rfl
theorem run_9 {n : Nat} {S : Store} {a0 : D} {a1 : D} : run (n + 1) 9 [a0, a1] S = fin (m_9 (run n) [some a0, some a1] S) := rfl
theorem run_10 {n : Nat} {S : Store} {a0 : D} {a1 : D} : run (n + 1) 10 [a0, a1] S = fin (m_10 (run n) [some a0, some a1] S) := rfl
theorem run_11 {n : Nat} {S : Store} {a0 : D} {a1 : D} : run (n + 1) 11 [a0, a1] S = fin (m_11 (run n) [some a0, some a1] S) := rfl
theorem run_12 {n : Nat} {S : Store} {a0 : D} : run (n + 1) 12 [a0] S = fin (m_12 (run n) [some a0, none, none, none] S) := rfl
theorem run_13 {n : Nat} {S : Store} {a0 : D} {a1 : D} : run (n + 1) 13 [a0, a1] S = fin (m_13 (run n) [some a0, some a1, none, none, none] S) := rfl
theorem run_14 {n : Nat} {S : Store} {a0 : D} {a1 : D} : run (n + 1) 14 [a0, a1] S = fin (m_14 (run n) [some a0, some a1, none, none, none, none, none, none] S) := rfl
theorem run_15 {n : Nat} {S : Store} {a0 : D} {a1 : D} : run (n + 1) 15 [a0, a1] S = fin (m_15 (run n) [some a0, some a1] S) := rfl
theorem run_16 {n : Nat} {S : Store} {a0 : D} {a1 : D} : run (n + 1) 16 [a0, a1] S = fin (m_16 (run n) [some a0, some a1, none, none, none, none, none, none] S) := rfl
theorem run_17 {n : Nat} {S : Store} {a0 : D} : run (n + 1) 17 [a0] S = fin (m_17 (run n) [some a0] S) := rfl
theorem run_18 {n : Nat} {S : Store} {a0 : D} : run (n + 1) 18 [a0] S = fin (m_18 (run n) [some a0, none, none, none] S) := rfl
theorem run_19 {n : Nat} {S : Store} {a0 : D} : run (n + 1) 19 [a0] S = fin (m_19 (run n) [some a0, none] S) := rfl
theorem run_20 {n : Nat} {S : Store} {a0 : D} : run (n + 1) 20 [a0] S = fin (m_20 (run n) [some a0, none, none, none] S) := rfl
theorem run_21 {n : Nat} {S : Store} {a0 : D} : run (n + 1) 21 [a0] S = fin (m_21 (run n) [some a0, none, none, none] S) := rfl
theorem run_22 {n : Nat} {S : Store} {a0 : D} : run (n + 1) 22 [a0] S = fin (m_22 (run n) [some a0] S) := rfl
theorem run_23 {n : Nat} {S : Store} {a0 : D} : run (n + 1) 23 [a0] S = fin (m_23 (run n) [some a0, none] S) := rfl
theorem run_24 {n : Nat} {S : Store} {a0 : D} : run (n + 1) 24 [a0] S = fin (m_24 (run n) [some a0, none, none] S) := rfl
theorem run_25 {n : Nat} {S : Store} {a0 : D} : run (n + 1) 25 [a0] S = fin (m_25 (run n) [some a0] S) := rfl
theorem run_26 {n : Nat} {S : Store} {a0 : D} : run (n + 1) 26 [a0] S = fin (m_26 (run n) [some a0, none, none] S) := rfl
theorem run_27 {n : Nat} {S : Store} {a0 : D} : run (n + 1) 27 [a0] S = fin (m_27 (run n) [some a0] S) := rfl
theorem run_28 {n : Nat} {S : Store} {a0 : D} {a1 : D} : run (n + 1) 28 [a0, a1] S = fin (m_28 (run n) [some a0, some a1, none, none, none, none] S) := rfl
theorem run_29 {n : Nat} {S : Store} {a0 : D} {a1 : D} : run (n + 1) 29 [a0, a1] S = fin (m_29 (run n) [some a0, some a1, none] S) := rfl
theorem run_31 {n : Nat} {S : Store} {a0 : D} {a1 : D} : run (n + 1) 31 [a0, a1] S = fin (m_31 (run n) [some a0, some a1] S) := rfl
theorem run_32 {n : Nat} {S : Store} {a0 : D} {a1 : D} {a2 : D} : run (n + 1) 32 [a0, a1, a2] S = fin (m_32 (run n) [some a0, some a1, some a2, none, none, none] S) := rfl
theorem run_33 {n : Nat} {S : Store} {a0 : D} {a1 : D} {a2 : D} {a3 : D} : run (n + 1) 33 [a0, a1, a2, a3] S = fin (m_33 (run n) [some a0, some a1, some a2, some a3] S) := rfl
end L2.Mi.Pg

set_option Elab.async false
set_option linter.all false
set_option maxRecDepth 100000
set_option maxHeartbeats 4000000
/-! The program of law_k05_sizes_in_texts: runs, derivations. Printed by gen.py. -/
namespace L2.Mi.Pg
open PySem PySem.Spec PyProof.Rows
def defs : List DefM := [⟨.m "InvalidText" "__init__", "__init__", "InvalidText.__init__", s_0, []⟩,
  ⟨.m "InvalidSyntax" "__init__", "__init__", "InvalidSyntax.__init__", s_1, []⟩,
  ⟨.m "TooLarge" "__init__", "__init__", "TooLarge.__init__", s_2, []⟩,
  ⟨.g "kind_of", "kind_of", "kind_of", s_3, []⟩,
  ⟨.g "end_of_run", "end_of_run", "end_of_run", s_4, []⟩,
  ⟨.g "tokens_of", "tokens_of", "tokens_of", s_5, [(.str [123, 125, 91, 93, 43, 45, 42]), (.kt [(.str [97, 114, 114, 97, 121]), (.str [102, 111, 114]), (.str [114, 101, 97, 100]), (.str [119, 114, 105, 116, 101]), (.str [102, 108, 117, 115, 104]), (.str [110])])]⟩,
  ⟨.g "parts_from", "parts_from", "parts_from", s_6, []⟩,
  ⟨.m "Reader" "__init__", "__init__", "Reader.__init__", s_7, []⟩,
  ⟨.m "Reader" "current", "current", "Reader.current", s_8, []⟩,
  ⟨.m "Reader" "is_next", "is_next", "Reader.is_next", s_9, []⟩,
  ⟨.m "Reader" "accept", "accept", "Reader.accept", s_10, []⟩,
  ⟨.m "Reader" "expect", "expect", "Reader.expect", s_11, []⟩,
  ⟨.m "Reader" "read_name", "read_name", "Reader.read_name", s_12, []⟩,
  ⟨.m "Reader" "read_factor", "read_factor", "Reader.read_factor", s_13, []⟩,
  ⟨.m "Reader" "read_term", "read_term", "Reader.read_term", s_14, []⟩,
  ⟨.m "Reader" "read_power", "read_power", "Reader.read_power", s_15, []⟩,
  ⟨.m "Reader" "read_sum", "read_sum", "Reader.read_sum", s_16, []⟩,
  ⟨.m "Reader" "read_size", "read_size", "Reader.read_size", s_17, []⟩,
  ⟨.m "Reader" "read_form", "read_form", "Reader.read_form", s_18, []⟩,
  ⟨.m "Reader" "read_block", "read_block", "Reader.read_block", s_19, []⟩,
  ⟨.m "Reader" "read_statement", "read_statement", "Reader.read_statement", s_20, []⟩,
  ⟨.m "Reader" "read_loop", "read_loop", "Reader.read_loop", s_21, []⟩,
  ⟨.m "Reader" "read_end", "read_end", "Reader.read_end", s_22, []⟩,
  ⟨.m "Reader" "read_open_block", "read_open_block", "Reader.read_open_block", s_23, []⟩,
  ⟨.m "Reader" "read_program", "read_program", "Reader.read_program", s_24, []⟩,
  ⟨.g "parse", "parse", "parse", s_25, []⟩,
  ⟨.g "parse_size", "parse_size", "parse_size", s_26, []⟩,
  ⟨.g "parse_block", "parse_block", "parse_block", s_27, []⟩,
  ⟨.g "_law_pool", "_law_pool", "_law_pool", s_28, []⟩,
  ⟨.g "_law_take", "_law_take", "_law_take", s_29, []⟩,
  ⟨.g "_law_heard", "_law_heard", "_law_heard", s_30, []⟩,
  ⟨.g "_law_loops", "_law_loops", "_law_loops", s_31, []⟩,
  ⟨.g "_law_texts", "_law_texts", "_law_texts", s_32, []⟩,
  ⟨.g "_law_due", "_law_due", "_law_due", s_33, []⟩,
  ⟨.g "law", "law", "law", s_34, []⟩]
def fa : List Fm := [.glo "law",
  .con "LETTERS" (.str [97, 98, 99, 100, 101, 102, 103, 104, 105, 106, 107, 108, 109, 110, 111, 112, 113, 114, 115, 116, 117, 118, 119, 120, 121, 122]),
  .con "DIGITS" (.str [48, 49, 50, 51, 52, 53, 54, 55, 56, 57]),
  .free "len",
  .glo "end_of_run",
  .glo "kind_of",
  .free "max",
  .free "range",
  .free "tuple",
  .glo "tokens_of",
  .oex "InvalidSyntax",
  .noat "InvalidSyntax" "position",
  .glo "InvalidSyntax",
  .con "LONGEST" (.int 150),
  .oex "TooLarge",
  .noat "TooLarge" "word",
  .glo "TooLarge",
  .free "int",
  .free "str",
  .free "isinstance",
  .con "WIDEST" (.int 3),
  .glo "parts_from",
  .free "sorted",
  .con "DEEPEST" (.int 5),
  .oex "InvalidText",
  .noat "InvalidText" "value",
  .glo "InvalidText",
  .glo "Reader",
  .mkr "Reader",
  .free "abs",
  .glo "_law_loops",
  .glo "parse",
  .glo "parse_size",
  .glo "parse_block",
  .glo "_law_heard",
  .free "repr",
  .free "min",
  .glo "_law_pool",
  .glo "_law_take",
  .glo "_law_texts",
  .free "enumerate",
  .glo "_law_due",
  .exm "InvalidText" "InvalidText" true,
  .exm "InvalidText" "InvalidSyntax" false,
  .exm "InvalidText" "TooLarge" false,
  .exm "InvalidSyntax" "InvalidText" false,
  .exm "InvalidSyntax" "InvalidSyntax" true,
  .exm "InvalidSyntax" "TooLarge" false,
  .exm "TooLarge" "InvalidText" false,
  .exm "TooLarge" "InvalidSyntax" false,
  .exm "TooLarge" "TooLarge" true,
  .noat "Reader" "at",
  .noat "Reader" "depth",
  .noat "Reader" "tokens",
  .meth "Reader" "accept",
  .meth "Reader" "current",
  .meth "Reader" "expect",
  .meth "Reader" "is_next",
  .meth "Reader" "read_block",
  .meth "Reader" "read_end",
  .meth "Reader" "read_factor",
  .meth "Reader" "read_form",
  .meth "Reader" "read_loop",
  .meth "Reader" "read_name",
  .meth "Reader" "read_open_block",
  .meth "Reader" "read_power",
  .meth "Reader" "read_program",
  .meth "Reader" "read_size",
  .meth "Reader" "read_statement",
  .meth "Reader" "read_sum",
  .meth "Reader" "read_term",
  tbB "law"]
def L : Lw where
  cls := ["Reader"]
  flds := ["tokens", "at", "depth", "current", "is_next", "accept", "position", "word", "read_name", "read_factor", "read_power", "read_term", "read_sum", "read_statement", "read_loop", "expect", "read_form", "read_size", "read_block", "read_open_block", "value", "read_program", "read_end"]
  isi := isiT
  xcl := ["FarError", "InvalidText", "InvalidSyntax", "TooLarge"]
  defs := defs
  fa := fa
  tab := some ("law", "law.<locals>.<lambda>")
  fok := by decide +kernel
section
variable {K : Fg} {c : L.Says K} {X : Cx} {W : WX} {n : Nat}
def isG (j : Nat) : Bool := [30, 34].contains j
abbrev IH (c : L.Says K) (P : Program) (w : World) (mg : Str → Option Value) (base : Heap) (n : Nat) : Prop := (∀ (j : Nat) {d : DefM}, defs[j]? = some d → isG j = false → Cal (L.gx K c) P w mg base (lv n) (d.pth.ad K) (run n j)) ∧ (∀ (j : Nat) {d : DefM}, defs[j]? = some d → CalG (L.gx K c) P w mg base (lv n) (d.pth.ad K) (run n j))
theorem isxL_ok (c : L.Says K) : ∀ c1 c2 b v1 v2, isxL c1 c2 = some b → (L.gx K c).clsv c1 = some v1 → (L.gx K c).clsv c2 = some v2 → PySem.W.exmOne (L.gx K c).K v1 v2 = some b := isxTab_ok c (by decide +kernel)
theorem hu_of {k : Nat} (hr : Room k X.A) : X.A.units + 64 < cLine := by have := hr.un; omega
theorem oAdd_ok (cc : Cc (L.gx K c) X W) (hr : Room (lv n + 1) X.A) (ih : IH c X.prog X.w X.mg X.base n) : OpS (L.gx K c) X W (binaryOp .Add) (oAdd (run n)) := (ops_add cc (noOwn_ok)).or ops_catR
theorem oSub_ok (cc : Cc (L.gx K c) X W) (hr : Room (lv n + 1) X.A) (ih : IH c X.prog X.w X.mg X.base n) : OpS (L.gx K c) X W (binaryOp .Sub) (oSub (run n)) := ops_sub (noOwn_ok)
theorem oMul_ok (cc : Cc (L.gx K c) X W) (hr : Room (lv n + 1) X.A) (ih : IH c X.prog X.w X.mg X.base n) : OpS (L.gx K c) X W (binaryOp .Mult) (oMul (run n)) := (ops_mul (noOwn_ok)).or ((ops_rep cc).or ops_repS)
theorem oNeg_ok (cc : Cc (L.gx K c) X W) (hr : Room (lv n + 1) X.A) (ih : IH c X.prog X.w X.mg X.base n) : UnS (L.gx K c) X W (unaryOp .USub) (oNeg (run n)) := uns_neg (fun ci g h => by
    unfold dNeg at h
    split at h
    · cases h)
theorem oEq_ok (cc : Cc (L.gx K c) X W) (hr : Room (lv n + 1) X.A) (ih : IH c X.prog X.w X.mg X.base n) : OpS (L.gx K c) X W (compareOp .Eq) (oEq (run n)) := ops_eq cc (hu_of hr) noOwn_ok
theorem oNe_ok (cc : Cc (L.gx K c) X W) (hr : Room (lv n + 1) X.A) (ih : IH c X.prog X.w X.mg X.base n) : OpS (L.gx K c) X W (compareOp .NotEq) (oNe (run n)) := ops_ne cc (hu_of hr) noOwn_ok
theorem me_accept_ok (cc : Cc (L.gx K c) X W) (hr : Room (lv n + 1) X.A) (ih : IH c X.prog X.w X.mg X.base n) : ∀ ci g, me_accept (run n) ci = some g → MethS (L.gx K c) X W "accept" ci g := fun ci g h => by
    unfold me_accept at h
    split at h
    · cases h; exact methS c 0 54 rfl rfl (fns_cal cc (ih.1 10 rfl rfl) (hr.mono (Nat.le_succ _))) cc.k
    · cases h
theorem me_current_ok (cc : Cc (L.gx K c) X W) (hr : Room (lv n + 1) X.A) (ih : IH c X.prog X.w X.mg X.base n) : ∀ ci g, me_current (run n) ci = some g → MethS (L.gx K c) X W "current" ci g := fun ci g h => by
    unfold me_current at h
    split at h
    · cases h; exact methS c 0 55 rfl rfl (fns_cal cc (ih.1 8 rfl rfl) (hr.mono (Nat.le_succ _))) cc.k
    · cases h
theorem me_expect_ok (cc : Cc (L.gx K c) X W) (hr : Room (lv n + 1) X.A) (ih : IH c X.prog X.w X.mg X.base n) : ∀ ci g, me_expect (run n) ci = some g → MethS (L.gx K c) X W "expect" ci g := fun ci g h => by
    unfold me_expect at h
    split at h
    · cases h; exact methS c 0 56 rfl rfl (fns_cal cc (ih.1 11 rfl rfl) (hr.mono (Nat.le_succ _))) cc.k
    · cases h
theorem me_is_next_ok (cc : Cc (L.gx K c) X W) (hr : Room (lv n + 1) X.A) (ih : IH c X.prog X.w X.mg X.base n) : ∀ ci g, me_is_next (run n) ci = some g → MethS (L.gx K c) X W "is_next" ci g := fun ci g h => by
    unfold me_is_next at h
    split at h
    · cases h; exact methS c 0 57 rfl rfl (fns_cal cc (ih.1 9 rfl rfl) (hr.mono (Nat.le_succ _))) cc.k
    · cases h
theorem me_read_block_ok (cc : Cc (L.gx K c) X W) (hr : Room (lv n + 1) X.A) (ih : IH c X.prog X.w X.mg X.base n) : ∀ ci g, me_read_block (run n) ci = some g → MethS (L.gx K c) X W "read_block" ci g := fun ci g h => by
    unfold me_read_block at h
    split at h
    · cases h; exact methS c 0 58 rfl rfl (fns_cal cc (ih.1 19 rfl rfl) (hr.mono (Nat.le_succ _))) cc.k
    · cases h
theorem me_read_end_ok (cc : Cc (L.gx K c) X W) (hr : Room (lv n + 1) X.A) (ih : IH c X.prog X.w X.mg X.base n) : ∀ ci g, me_read_end (run n) ci = some g → MethS (L.gx K c) X W "read_end" ci g := fun ci g h => by
    unfold me_read_end at h
    split at h
    · cases h; exact methS c 0 59 rfl rfl (fns_cal cc (ih.1 22 rfl rfl) (hr.mono (Nat.le_succ _))) cc.k
    · cases h
theorem me_read_factor_ok (cc : Cc (L.gx K c) X W) (hr : Room (lv n + 1) X.A) (ih : IH c X.prog X.w X.mg X.base n) : ∀ ci g, me_read_factor (run n) ci = some g → MethS (L.gx K c) X W "read_factor" ci g := fun ci g h => by
    unfold me_read_factor at h
    split at h
    · cases h; exact methS c 0 60 rfl rfl (fns_cal cc (ih.1 13 rfl rfl) (hr.mono (Nat.le_succ _))) cc.k
    · cases h
theorem me_read_form_ok (cc : Cc (L.gx K c) X W) (hr : Room (lv n + 1) X.A) (ih : IH c X.prog X.w X.mg X.base n) : ∀ ci g, me_read_form (run n) ci = some g → MethS (L.gx K c) X W "read_form" ci g := fun ci g h => by
    unfold me_read_form at h
    split at h
    · cases h; exact methS c 0 61 rfl rfl (fns_cal cc (ih.1 18 rfl rfl) (hr.mono (Nat.le_succ _))) cc.k
    · cases h
theorem me_read_loop_ok (cc : Cc (L.gx K c) X W) (hr : Room (lv n + 1) X.A) (ih : IH c X.prog X.w X.mg X.base n) : ∀ ci g, me_read_loop (run n) ci = some g → MethS (L.gx K c) X W "read_loop" ci g := fun ci g h => by
    unfold me_read_loop at h
    split at h
    · cases h; exact methS c 0 62 rfl rfl (fns_cal cc (ih.1 21 rfl rfl) (hr.mono (Nat.le_succ _))) cc.k
    · cases h
theorem me_read_name_ok (cc : Cc (L.gx K c) X W) (hr : Room (lv n + 1) X.A) (ih : IH c X.prog X.w X.mg X.base n) : ∀ ci g, me_read_name (run n) ci = some g → MethS (L.gx K c) X W "read_name" ci g := fun ci g h => by
    unfold me_read_name at h
    split at h
    · cases h; exact methS c 0 63 rfl rfl (fns_cal cc (ih.1 12 rfl rfl) (hr.mono (Nat.le_succ _))) cc.k
    · cases h
theorem me_read_open_block_ok (cc : Cc (L.gx K c) X W) (hr : Room (lv n + 1) X.A) (ih : IH c X.prog X.w X.mg X.base n) : ∀ ci g, me_read_open_block (run n) ci = some g → MethS (L.gx K c) X W "read_open_block" ci g := fun ci g h => by
    unfold me_read_open_block at h
    split at h
    · cases h; exact methS c 0 64 rfl rfl (fns_cal cc (ih.1 23 rfl rfl) (hr.mono (Nat.le_succ _))) cc.k
    · cases h
theorem me_read_power_ok (cc : Cc (L.gx K c) X W) (hr : Room (lv n + 1) X.A) (ih : IH c X.prog X.w X.mg X.base n) : ∀ ci g, me_read_power (run n) ci = some g → MethS (L.gx K c) X W "read_power" ci g := fun ci g h => by
    unfold me_read_power at h
    split at h
    · cases h; exact methS c 0 65 rfl rfl (fns_cal cc (ih.1 15 rfl rfl) (hr.mono (Nat.le_succ _))) cc.k
    · cases h
theorem me_read_program_ok (cc : Cc (L.gx K c) X W) (hr : Room (lv n + 1) X.A) (ih : IH c X.prog X.w X.mg X.base n) : ∀ ci g, me_read_program (run n) ci = some g → MethS (L.gx K c) X W "read_program" ci g := fun ci g h => by
    unfold me_read_program at h
    split at h
    · cases h; exact methS c 0 66 rfl rfl (fns_cal cc (ih.1 24 rfl rfl) (hr.mono (Nat.le_succ _))) cc.k
    · cases h
theorem me_read_size_ok (cc : Cc (L.gx K c) X W) (hr : Room (lv n + 1) X.A) (ih : IH c X.prog X.w X.mg X.base n) : ∀ ci g, me_read_size (run n) ci = some g → MethS (L.gx K c) X W "read_size" ci g := fun ci g h => by
    unfold me_read_size at h
    split at h
    · cases h; exact methS c 0 67 rfl rfl (fns_cal cc (ih.1 17 rfl rfl) (hr.mono (Nat.le_succ _))) cc.k
    · cases h
theorem me_read_statement_ok (cc : Cc (L.gx K c) X W) (hr : Room (lv n + 1) X.A) (ih : IH c X.prog X.w X.mg X.base n) : ∀ ci g, me_read_statement (run n) ci = some g → MethS (L.gx K c) X W "read_statement" ci g := fun ci g h => by
    unfold me_read_statement at h
    split at h
    · cases h; exact methS c 0 68 rfl rfl (fns_cal cc (ih.1 20 rfl rfl) (hr.mono (Nat.le_succ _))) cc.k
    · cases h
theorem me_read_sum_ok (cc : Cc (L.gx K c) X W) (hr : Room (lv n + 1) X.A) (ih : IH c X.prog X.w X.mg X.base n) : ∀ ci g, me_read_sum (run n) ci = some g → MethS (L.gx K c) X W "read_sum" ci g := fun ci g h => by
    unfold me_read_sum at h
    split at h
    · cases h; exact methS c 0 69 rfl rfl (fns_cal cc (ih.1 16 rfl rfl) (hr.mono (Nat.le_succ _))) cc.k
    · cases h
theorem me_read_term_ok (cc : Cc (L.gx K c) X W) (hr : Room (lv n + 1) X.A) (ih : IH c X.prog X.w X.mg X.base n) : ∀ ci g, me_read_term (run n) ci = some g → MethS (L.gx K c) X W "read_term" ci g := fun ci g h => by
    unfold me_read_term at h
    split at h
    · cases h; exact methS c 0 70 rfl rfl (fns_cal cc (ih.1 14 rfl rfl) (hr.mono (Nat.le_succ _))) cc.k
    · cases h
theorem at_at_f (cc : Cc (L.gx K c) X W) : ∀ ci, at_at (run n) ci = some none → FieldS (L.gx K c) X "at" ci := fun ci h => by
    unfold at_at at h
    split at h
    · exact fieldS c 0 51 rfl rfl cc.k
    · cases h
theorem at_at_p (cc : Cc (L.gx K c) X W) (hr : Room (lv n + 1) X.A) (ih : IH c X.prog X.w X.mg X.base n) : ∀ ci g, at_at (run n) ci = some (some g) → PropS (L.gx K c) X "at" ci g := fun ci g h => by
    unfold at_at at h
    split at h
    · cases h
    · cases h
theorem at_depth_f (cc : Cc (L.gx K c) X W) : ∀ ci, at_depth (run n) ci = some none → FieldS (L.gx K c) X "depth" ci := fun ci h => by
    unfold at_depth at h
    split at h
    · exact fieldS c 0 52 rfl rfl cc.k
    · cases h
theorem at_depth_p (cc : Cc (L.gx K c) X W) (hr : Room (lv n + 1) X.A) (ih : IH c X.prog X.w X.mg X.base n) : ∀ ci g, at_depth (run n) ci = some (some g) → PropS (L.gx K c) X "depth" ci g := fun ci g h => by
    unfold at_depth at h
    split at h
    · cases h
    · cases h
theorem at_tokens_f (cc : Cc (L.gx K c) X W) : ∀ ci, at_tokens (run n) ci = some none → FieldS (L.gx K c) X "tokens" ci := fun ci h => by
    unfold at_tokens at h
    split at h
    · exact fieldS c 0 53 rfl rfl cc.k
    · cases h
theorem at_tokens_p (cc : Cc (L.gx K c) X W) (hr : Room (lv n + 1) X.A) (ih : IH c X.prog X.w X.mg X.base n) : ∀ ci g, at_tokens (run n) ci = some (some g) → PropS (L.gx K c) X "tokens" ci g := fun ci g h => by
    unfold at_tokens at h
    split at h
    · cases h
    · cases h
theorem st_at_ok (cc : Cc (L.gx K c) X W) : ∀ ci, st_at ci = true → FieldS (L.gx K c) X "at" ci := fun ci h => by
    unfold st_at at h
    split at h
    · exact fieldS c 0 51 rfl rfl cc.k
    · cases h
theorem st_depth_ok (cc : Cc (L.gx K c) X W) : ∀ ci, st_depth ci = true → FieldS (L.gx K c) X "depth" ci := fun ci h => by
    unfold st_depth at h
    split at h
    · exact fieldS c 0 52 rfl rfl cc.k
    · cases h
theorem st_tokens_ok (cc : Cc (L.gx K c) X W) : ∀ ci, st_tokens ci = true → FieldS (L.gx K c) X "tokens" ci := fun ci h => by
    unfold st_tokens at h
    split at h
    · exact fieldS c 0 53 rfl rfl cc.k
    · cases h
variable {P : Program} {w : World} {mg : Str → Option Value} {base : Heap}
theorem sc_0 : FnScope ["self", "value"] ["self", "value"] (defScope s_0) := ⟨rfl, rfl, rfl, by decide +kernel, rfl, by decide +kernel, by decide +kernel⟩
theorem xi_0 {c : L.Says K} : XInit P w K mg base "InvalidText" "value" := by
  obtain ⟨M⟩ := c.fn 0 rfl
  have hv : M.dvs = [] := List.eq_nil_of_length_eq_zero (by rw [← (M.rd ⟨[], []⟩ fun _ => none).length]; rfl)
  exact ⟨M.fd, ["self", "value"], xi_ok (K := K) (k := 0) M.F sc_0 (Or.inl rfl) (Or.inl rfl), FunD.bindsN (K := K) (ps := ["self", "value"]) (hv ▸ M.F) fun _ _ _ _ _ _ us hl => match us, hl with | [_, _], _ => rfl⟩
theorem sc_1 : FnScope ["self", "position"] ["self", "position"] (defScope s_1) := ⟨rfl, rfl, rfl, by decide +kernel, rfl, by decide +kernel, by decide +kernel⟩
theorem xi_1 {c : L.Says K} : XInit P w K mg base "InvalidSyntax" "position" := by
  obtain ⟨M⟩ := c.fn 1 rfl
  have hv : M.dvs = [] := List.eq_nil_of_length_eq_zero (by rw [← (M.rd ⟨[], []⟩ fun _ => none).length]; rfl)
  exact ⟨M.fd, ["self", "position"], xi_ok (K := K) (k := 0) M.F sc_1 (Or.inl rfl) (Or.inl rfl), FunD.bindsN (K := K) (ps := ["self", "position"]) (hv ▸ M.F) fun _ _ _ _ _ _ us hl => match us, hl with | [_, _], _ => rfl⟩
theorem sc_2 : FnScope ["self", "word"] ["self", "word"] (defScope s_2) := ⟨rfl, rfl, rfl, by decide +kernel, rfl, by decide +kernel, by decide +kernel⟩
theorem xi_2 {c : L.Says K} : XInit P w K mg base "TooLarge" "word" := by
  obtain ⟨M⟩ := c.fn 2 rfl
  have hv : M.dvs = [] := List.eq_nil_of_length_eq_zero (by rw [← (M.rd ⟨[], []⟩ fun _ => none).length]; rfl)
  exact ⟨M.fd, ["self", "word"], xi_ok (K := K) (k := 0) M.F sc_2 (Or.inl rfl) (Or.inl rfl), FunD.bindsN (K := K) (ps := ["self", "word"]) (hv ▸ M.F) fun _ _ _ _ _ _ us hl => match us, hl with | [_, _], _ => rfl⟩
theorem dFn_ok (cc : Cc (L.gx K c) X W) (hr : Room (lv n + 1) X.A) (ih : IH c X.prog X.w X.mg X.base n) : ∀ ci g, dFn (run n) ci = some g → ∃ C, (L.gx K c).fns ci = some C ∧ PySem.W.keepIn X.K (.ref C) = true ∧ FnS (L.gx K c) X W (.ref C) g := fun ci g h => by
    unfold dFn at h
    split at h
    · cases h; exact ⟨_, fns_at c 25 rfl, by rw [cc.k]; exact keep_of c 31, (fns_cal cc (ih.1 25 rfl rfl) (hr.mono (Nat.le_succ _)))⟩
    · cases h; exact ⟨_, fns_at c 26 rfl, by rw [cc.k]; exact keep_of c 32, (fns_cal cc (ih.1 26 rfl rfl) (hr.mono (Nat.le_succ _)))⟩
    · cases h; exact ⟨_, fns_at c 27 rfl, by rw [cc.k]; exact keep_of c 33, (fns_cal cc (ih.1 27 rfl rfl) (hr.mono (Nat.le_succ _)))⟩
    · cases h
abbrev N_30 : List Str := ["_law_call", "e"]
theorem sc_30 : FnScope N_30 ["_law_call"] (defScope s_30) := ⟨rfl, rfl, rfl, by decide +kernel, rfl, by decide +kernel, by decide +kernel⟩
abbrev N_3 : List Str := ["word", "keywords", "char"]
theorem sc_3 : FnScope N_3 ["word", "keywords"] (defScope s_3) := ⟨rfl, rfl, rfl, by decide +kernel, rfl, by decide +kernel, by decide +kernel⟩
theorem ok_3 (NS : Ns K mg) (n : Nat) (ih : IH c P w mg base n) (M : FnM (L.gx K c) ⟨.g "kind_of", "kind_of", "kind_of", s_3, []⟩) : FnOk P w (L.gx K c).K mg base (L2.CX P w) (lv n + 1 + 1) ((.g "kind_of" : Pth).ad (L.gx K c).K) M.fd ["word", "keywords"] (spF (L.gx K c) (bodyRun N_3.length (m_3 (run n))) (["word", "keywords"] : List Str).length) := by
  refine fnd_ok (G := L.gx K c) (k := lv n + 1) (ms := m_3 (run n)) M.F sc_3 fun cdv A outer s H E hr cc => ?_
  exact sss_cons (ss_if (st_cmp (ops_in cc) (se_var 0) (se_var 1)) (sss_one (ss_ret (se_str [109, 97, 114, 107]))) (sss_nil))
    (sss_cons (ss_if (st_cmp (ops_in cc) (se_ix (ixs_item cc) (se_var 0) (se_int)) (se_con c NS 1 rfl rfl)) (sss_one (ss_ret (se_str [110, 97, 109, 101]))) (sss_nil))
    (sss_cons (ss_for 100000 cc (si_or (si_seq cc (se_var 0)) (si_txt (se_var 0))) (sg_name cc.nd rfl (by first | exact Or.inl rfl | exact Or.inr rfl)) (sss_one (ss_if (st_cmp (ops_notIn cc) (se_var 2) (se_con c NS 2 rfl rfl)) (sss_one (ss_ret (se_str [98, 97, 100]))) (sss_nil))))
    (sss_cons (ss_if (st_w (sw_and (st_cmp (oEq_ok cc hr ih) (se_ix (ixs_item cc) (se_var 0) (se_int)) (se_str [48])) (sw_and1 (st_cmp ops_gt (se_callB (fns_len cc) rfl (NS.free c 3) (by decide +kernel) (sa_cons (se_var 0) (sa_nil))) (se_int))))) (sss_one (ss_ret (se_str [98, 97, 100]))) (sss_nil))
    (sss_one (ss_ret (se_str [110, 117, 109, 98, 101, 114]))))))
theorem cal_3 (NS : Ns K mg) (n : Nat) (ih : IH c P w mg base n) : Cal (L.gx K c) P w mg base (lv (n + 1)) ((.g "kind_of" : Pth).ad K) (run (n + 1) 3) := by
  obtain ⟨M⟩ := c.fn 3 rfl
  have hv : M.dvs = [] := List.eq_nil_of_length_eq_zero (by rw [← (M.rd ⟨[], []⟩ fun _ => none).length]; rfl)
  exact cal_defD (ok_3 NS n ih M) rfl (fun j hj => ⟨[], by rw [hv]; cases j <;> exact .nil, FunD.bindsN (ps := ["word", "keywords"]) (hv ▸ M.F) fun _ _ _ _ _ _ us hl => match us, hl with | [_, _], _ => rfl⟩) M.rd
abbrev N_4 : List Str := ["text", "start", "at"]
theorem sc_4 : FnScope N_4 ["text", "start"] (defScope s_4) := ⟨rfl, rfl, rfl, by decide +kernel, rfl, by decide +kernel, by decide +kernel⟩
theorem ok_4 (NS : Ns K mg) (n : Nat) (ih : IH c P w mg base n) (M : FnM (L.gx K c) ⟨.g "end_of_run", "end_of_run", "end_of_run", s_4, []⟩) : FnOk P w (L.gx K c).K mg base (L2.CX P w) (lv n + 1 + 1) ((.g "end_of_run" : Pth).ad (L.gx K c).K) M.fd ["text", "start"] (spF (L.gx K c) (bodyRun N_4.length (m_4 (run n))) (["text", "start"] : List Str).length) := by
  refine fnd_ok (G := L.gx K c) (k := lv n + 1) (ms := m_4 (run n)) M.F sc_4 fun cdv A outer s H E hr cc => ?_
  exact sss_cons (ss_set (i := 2) cc.nd rfl (by first | exact Or.inl rfl | exact Or.inr rfl) (se_var 1))
    (sss_cons (ss_while 100000 cc (st_w (sw_and (st_cmp ops_lt (se_var 2) (se_callB (fns_len cc) rfl (NS.free c 3) (by decide +kernel) (sa_cons (se_var 0) (sa_nil)))) (sw_and1 (st_w (sw_or (st_cmp (ops_in cc) (se_ix (ixs_item cc) (se_var 0) (se_var 2)) (se_con c NS 1 rfl rfl)) (sw_or1 (st_cmp (ops_in cc) (se_ix (ixs_item cc) (se_var 0) (se_var 2)) (se_con c NS 2 rfl rfl)))))))) (sss_one (ss_augA (i := 2) cc rfl (by first | exact Or.inl rfl | exact Or.inr rfl) (se_int))))
    (sss_one (ss_ret (se_var 2))))
theorem cal_4 (NS : Ns K mg) (n : Nat) (ih : IH c P w mg base n) : Cal (L.gx K c) P w mg base (lv (n + 1)) ((.g "end_of_run" : Pth).ad K) (run (n + 1) 4) := by
  obtain ⟨M⟩ := c.fn 4 rfl
  have hv : M.dvs = [] := List.eq_nil_of_length_eq_zero (by rw [← (M.rd ⟨[], []⟩ fun _ => none).length]; rfl)
  exact cal_defD (ok_4 NS n ih M) rfl (fun j hj => ⟨[], by rw [hv]; cases j <;> exact .nil, FunD.bindsN (ps := ["text", "start"]) (hv ▸ M.F) fun _ _ _ _ _ _ us hl => match us, hl with | [_, _], _ => rfl⟩) M.rd
abbrev N_5 : List Str := ["text", "signs", "keywords", "found", "at", "stop"]
theorem sc_5 : FnScope N_5 ["text", "signs", "keywords"] (defScope s_5) := ⟨rfl, rfl, rfl, by decide +kernel, rfl, by decide +kernel, by decide +kernel⟩
theorem ok_5 (NS : Ns K mg) (n : Nat) (ih : IH c P w mg base n) (M : FnM (L.gx K c) ⟨.g "tokens_of", "tokens_of", "tokens_of", s_5, [(.str [123, 125, 91, 93, 43, 45, 42]), (.kt [(.str [97, 114, 114, 97, 121]), (.str [102, 111, 114]), (.str [114, 101, 97, 100]), (.str [119, 114, 105, 116, 101]), (.str [102, 108, 117, 115, 104]), (.str [110])])]⟩) : FnOk P w (L.gx K c).K mg base (L2.CX P w) (lv n + 1 + 1) ((.g "tokens_of" : Pth).ad (L.gx K c).K) M.fd ["text", "signs", "keywords"] (spF (L.gx K c) (bodyRun N_5.length (m_5 (run n))) (["text", "signs", "keywords"] : List Str).length) := by
  refine fnd_ok (G := L.gx K c) (k := lv n + 1) (ms := m_5 (run n)) M.F sc_5 fun cdv A outer s H E hr cc => ?_
  exact sss_cons (ss_set (i := 3) cc.nd rfl (by first | exact Or.inl rfl | exact Or.inr rfl) (se_lst (sa_nil) (szl rfl)))
    (sss_cons (ss_set (i := 4) cc.nd rfl (by first | exact Or.inl rfl | exact Or.inr rfl) (se_int))
    (sss_cons (ss_while 100000 cc (st_cmp ops_lt (se_var 4) (se_callB (fns_len cc) rfl (NS.free c 3) (by decide +kernel) (sa_cons (se_var 0) (sa_nil)))) (sss_one (ss_if (st_cmp (ops_in cc) (se_ix (ixs_item cc) (se_var 0) (se_var 4)) (se_tup (sa_cons (se_str [32]) (sa_cons (se_str [10]) (sa_nil))) (szl rfl))) (sss_one (ss_augA (i := 4) cc rfl (by first | exact Or.inl rfl | exact Or.inr rfl) (se_int))) (sss_one (ss_if (st_cmp (ops_in cc) (se_ix (ixs_item cc) (se_var 0) (se_var 4)) (se_var 1)) (sss_cons (ss_expr (se_bm PySem.F.plainAttrs_list PySem.F.slot_list_append PySem.F.type_list_append mts_append (ck_list cc) (se_var 3) (sa_cons (se_tup (sa_cons (se_str [109, 97, 114, 107]) (sa_cons (se_ix (ixs_item cc) (se_var 0) (se_var 4)) (sa_cons (se_var 4) (sa_nil)))) (szl rfl)) (sa_nil))))
    (sss_one (ss_augA (i := 4) cc rfl (by first | exact Or.inl rfl | exact Or.inr rfl) (se_int)))) (sss_cons (ss_set (i := 5) cc.nd rfl (by first | exact Or.inl rfl | exact Or.inr rfl) (se_call (fns_cal cc (ih.1 4 rfl rfl) (hr.mono (Nat.le_succ _))) rfl (NS.glo c 4) (keep_of c 4) (sa_cons (se_var 0) (sa_cons (se_var 4) (sa_nil)))))
    (sss_cons (ss_if (st_w (sw_or (st_cmp (oEq_ok cc hr ih) (se_var 5) (se_var 4)) (sw_or1 (st_cmp (oEq_ok cc hr ih) (se_call (fns_cal cc (ih.1 3 rfl rfl) (hr.mono (Nat.le_succ _))) rfl (NS.glo c 5) (keep_of c 5) (sa_cons (se_slice cc (se_var 0) (so_some (se_var 4)) (so_some (se_var 5))) (sa_cons (se_var 2) (sa_nil)))) (se_str [98, 97, 100]))))) (sss_cons (ss_expr (se_bm PySem.F.plainAttrs_list PySem.F.slot_list_append PySem.F.type_list_append mts_append (ck_list cc) (se_var 3) (sa_cons (se_tup (sa_cons (se_str [98, 97, 100]) (sa_cons (se_str []) (sa_cons (se_var 4) (sa_nil)))) (szl rfl)) (sa_nil))))
    (sss_one (ss_ret (se_var 3)))) (sss_nil))
    (sss_cons (ss_expr (se_bm PySem.F.plainAttrs_list PySem.F.slot_list_append PySem.F.type_list_append mts_append (ck_list cc) (se_var 3) (sa_cons (se_tup (sa_cons (se_call (fns_cal cc (ih.1 3 rfl rfl) (hr.mono (Nat.le_succ _))) rfl (NS.glo c 5) (keep_of c 5) (sa_cons (se_slice cc (se_var 0) (so_some (se_var 4)) (so_some (se_var 5))) (sa_cons (se_var 2) (sa_nil)))) (sa_cons (se_slice cc (se_var 0) (so_some (se_var 4)) (so_some (se_var 5))) (sa_cons (se_var 4) (sa_nil)))) (szl rfl)) (sa_nil))))
    (sss_one (ss_set (i := 4) cc.nd rfl (by first | exact Or.inl rfl | exact Or.inr rfl) (se_var 5)))))))))))
    (sss_cons (ss_expr (se_bm PySem.F.plainAttrs_list PySem.F.slot_list_append PySem.F.type_list_append mts_append (ck_list cc) (se_var 3) (sa_cons (se_tup (sa_cons (se_str [101, 110, 100]) (sa_cons (se_str []) (sa_cons (se_callB (fns_len cc) rfl (NS.free c 3) (by decide +kernel) (sa_cons (se_var 0) (sa_nil))) (sa_nil)))) (szl rfl)) (sa_nil))))
    (sss_one (ss_ret (se_var 3))))))
theorem cal_5 (NS : Ns K mg) (n : Nat) (ih : IH c P w mg base n) : Cal (L.gx K c) P w mg base (lv (n + 1)) ((.g "tokens_of" : Pth).ad K) (run (n + 1) 5) := by
  obtain ⟨M⟩ := c.fn 5 rfl
  have hv : M.dvs.length = 2 := by rw [← (M.rd ⟨[], []⟩ fun _ => none).length]; rfl
  have hne : M.dvs ≠ [] := fun e => by rw [e] at hv; cases hv
  exact cal_defD (ok_5 NS n ih M) rfl (fun j hj => by
    rw [hv] at hj
    match j, hj with
    | 0, _ => exact FunD.binds1 M.F 1 0 hne (by rw [hv]; rfl) fun _ _ _ _ _ _ _ us its hl hi => match us, hl, its, (hi.trans hv) with | [_], _, [_, _], _ => ⟨_, rfl, rfl⟩
    | 1, _ => exact FunD.binds1 M.F 2 1 hne (by rw [hv]; rfl) fun _ _ _ _ _ _ _ us its hl hi => match us, hl, its, (hi.trans hv) with | [_, _], _, [_, _], _ => ⟨_, rfl, rfl⟩
    | 2, _ => exact FunD.binds1 M.F 3 2 hne (by rw [hv]; rfl) fun _ _ _ _ _ _ _ us its hl hi => match us, hl, its, (hi.trans hv) with | [_, _, _], _, [_, _], _ => ⟨_, rfl, rfl⟩
    | k + 3, h => exact absurd h (by omega)) M.rd
abbrev N_6 : List Str := ["found", "powers", "power"]
theorem sc_6 : FnScope N_6 ["found"] (defScope s_6) := ⟨rfl, rfl, rfl, by decide +kernel, rfl, by decide +kernel, by decide +kernel⟩
theorem ok_6 (NS : Ns K mg) (n : Nat) (ih : IH c P w mg base n) (M : FnM (L.gx K c) ⟨.g "parts_from", "parts_from", "parts_from", s_6, []⟩) : FnOk P w (L.gx K c).K mg base (L2.CX P w) (lv n + 1 + 1) ((.g "parts_from" : Pth).ad (L.gx K c).K) M.fd ["found"] (spF (L.gx K c) (bodyRun N_6.length (m_6 (run n))) (["found"] : List Str).length) := by
  refine fnd_ok (G := L.gx K c) (k := lv n + 1) (ms := m_6 (run n)) M.F sc_6 fun cdv A outer s H E hr cc => ?_
  exact sss_cons (ss_lock 0 (ss_setLc (i := 1) (own := [("power", 2)]) (t := (.one 2)) 100000 cc rfl rfl rfl rfl rfl (si_ky (se_var 0)) (blkOk_by (N := N_6) (sc := defScope s_6) (by decide +kernel)) (by decide) (fun _ _ _ _ _ cc => pg_name cc.nd rfl (by first | exact Or.inl rfl | exact Or.inr rfl)) (fun _ _ _ _ _ cc => sts_one (st_cmp (oNe_ok cc hr ih) (se_dgetL (hu_of hr) (se_var 0) (se_var 2)) (se_int))) (fun _ _ _ _ _ cc => se_var 2)))
    (sss_one (ss_ret (se_callTy (fns_tuple cc) rfl (NS.free c 8) (by decide +kernel) (sa_cons (se_lcc (own := [("power", 2)]) (t := (.one 2)) 100000 cc (si_range1 (sa_cons (se_bin (oAdd_ok cc hr ih) (se_maxD cc (se_var 1) (se_un (oNeg_ok cc hr ih) (se_int)) rfl (NS.free c 6)) (se_int)) (sa_nil)) rfl (NS.free c 7)) (blkOk_by (N := N_6) (sc := defScope s_6) (by decide +kernel)) (by decide) (fun _ _ _ _ _ cc => pg_name cc.nd rfl (by first | exact Or.inl rfl | exact Or.inr rfl)) (fun _ _ _ _ _ cc => sts_nil) (fun _ _ _ _ _ cc => se_dget2 (hu_of hr) (se_var 0) (se_var 2) (se_int))) (sa_nil)))))
theorem cal_6 (NS : Ns K mg) (n : Nat) (ih : IH c P w mg base n) : Cal (L.gx K c) P w mg base (lv (n + 1)) ((.g "parts_from" : Pth).ad K) (run (n + 1) 6) := by
  obtain ⟨M⟩ := c.fn 6 rfl
  have hv : M.dvs = [] := List.eq_nil_of_length_eq_zero (by rw [← (M.rd ⟨[], []⟩ fun _ => none).length]; rfl)
  exact cal_defD (ok_6 NS n ih M) rfl (fun j hj => ⟨[], by rw [hv]; cases j <;> exact .nil, FunD.bindsN (ps := ["found"]) (hv ▸ M.F) fun _ _ _ _ _ _ us hl => match us, hl with | [_], _ => rfl⟩) M.rd
abbrev N_7 : List Str := ["self", "text"]
theorem sc_7 : FnScope N_7 ["self", "text"] (defScope s_7) := ⟨rfl, rfl, rfl, by decide +kernel, rfl, by decide +kernel, by decide +kernel⟩
theorem ok_7 (NS : Ns K mg) (n : Nat) (ih : IH c P w mg base n) (M : FnM (L.gx K c) ⟨.m "Reader" "__init__", "__init__", "Reader.__init__", s_7, []⟩) : FnOk P w (L.gx K c).K mg base (L2.CX P w) (lv n + 1 + 1) ((.m "Reader" "__init__" : Pth).ad (L.gx K c).K) M.fd ["self", "text"] (spF (L.gx K c) (bodyRun N_7.length (m_7 (run n))) (["self", "text"] : List Str).length) := by
  refine fnd_ok (G := L.gx K c) (k := lv n + 1) (ms := m_7 (run n)) M.F sc_7 fun cdv A outer s H E hr cc => ?_
  exact sss_cons (ss_fld cc (se_var 0) (se_call (fns_cal cc (ih.1 5 rfl rfl) (hr.mono (Nat.le_succ _))) rfl (NS.glo c 9) (keep_of c 9) (sa_cons (se_var 1) (sa_nil))) rfl (st_tokens_ok cc))
    (sss_cons (ss_fld cc (se_var 0) (se_int) rfl (st_at_ok cc))
    (sss_one (ss_fld cc (se_var 0) (se_int) rfl (st_depth_ok cc))))
theorem cal_7 (NS : Ns K mg) (n : Nat) (ih : IH c P w mg base n) : Cal (L.gx K c) P w mg base (lv (n + 1)) ((.m "Reader" "__init__" : Pth).ad K) (run (n + 1) 7) := by
  obtain ⟨M⟩ := c.fn 7 rfl
  have hv : M.dvs = [] := List.eq_nil_of_length_eq_zero (by rw [← (M.rd ⟨[], []⟩ fun _ => none).length]; rfl)
  exact cal_defD (ok_7 NS n ih M) rfl (fun j hj => ⟨[], by rw [hv]; cases j <;> exact .nil, FunD.bindsN (ps := ["self", "text"]) (hv ▸ M.F) fun _ _ _ _ _ _ us hl => match us, hl with | [_, _], _ => rfl⟩) M.rd
abbrev N_8 : List Str := ["self"]
theorem sc_8 : FnScope N_8 ["self"] (defScope s_8) := ⟨rfl, rfl, rfl, by decide +kernel, rfl, by decide +kernel, by decide +kernel⟩
theorem ok_8 (NS : Ns K mg) (n : Nat) (ih : IH c P w mg base n) (M : FnM (L.gx K c) ⟨.m "Reader" "current", "current", "Reader.current", s_8, []⟩) : FnOk P w (L.gx K c).K mg base (L2.CX P w) (lv n + 1 + 1) ((.m "Reader" "current" : Pth).ad (L.gx K c).K) M.fd ["self"] (spF (L.gx K c) (bodyRun N_8.length (m_8 (run n))) (["self"] : List Str).length) := by
  refine fnd_ok (G := L.gx K c) (k := lv n + 1) (ms := m_8 (run n)) M.F sc_8 fun cdv A outer s H E hr cc => ?_
  exact sss_one (ss_ret (se_ix (ixs_item cc) (se_attr cc (se_var 0) rfl (at_tokens_f cc) (at_tokens_p cc hr ih)) (se_attr cc (se_var 0) rfl (at_at_f cc) (at_at_p cc hr ih))))
theorem cal_8 (NS : Ns K mg) (n : Nat) (ih : IH c P w mg base n) : Cal (L.gx K c) P w mg base (lv (n + 1)) ((.m "Reader" "current" : Pth).ad K) (run (n + 1) 8) := by
  obtain ⟨M⟩ := c.fn 8 rfl
  have hv : M.dvs = [] := List.eq_nil_of_length_eq_zero (by rw [← (M.rd ⟨[], []⟩ fun _ => none).length]; rfl)
  exact cal_defD (ok_8 NS n ih M) rfl (fun j hj => ⟨[], by rw [hv]; cases j <;> exact .nil, FunD.bindsN (ps := ["self"]) (hv ▸ M.F) fun _ _ _ _ _ _ us hl => match us, hl with | [_], _ => rfl⟩) M.rd
abbrev N_9 : List Str := ["self", "word"]
theorem sc_9 : FnScope N_9 ["self", "word"] (defScope s_9) := ⟨rfl, rfl, rfl, by decide +kernel, rfl, by decide +kernel, by decide +kernel⟩
theorem ok_9 (NS : Ns K mg) (n : Nat) (ih : IH c P w mg base n) (M : FnM (L.gx K c) ⟨.m "Reader" "is_next", "is_next", "Reader.is_next", s_9, []⟩) : FnOk P w (L.gx K c).K mg base (L2.CX P w) (lv n + 1 + 1) ((.m "Reader" "is_next" : Pth).ad (L.gx K c).K) M.fd ["self", "word"] (spF (L.gx K c) (bodyRun N_9.length (m_9 (run n))) (["self", "word"] : List Str).length) := by
  refine fnd_ok (G := L.gx K c) (k := lv n + 1) (ms := m_9 (run n)) M.F sc_9 fun cdv A outer s H E hr cc => ?_
  exact sss_one (ss_ret (se_cmp (oEq_ok cc hr ih) (se_slice cc (se_meth0 cc (se_var 0) rfl (me_current_ok cc hr ih)) (so_none) (so_some (se_int))) (se_tup (sa_cons (se_str [109, 97, 114, 107]) (sa_cons (se_var 1) (sa_nil))) (szl rfl))))
theorem cal_9 (NS : Ns K mg) (n : Nat) (ih : IH c P w mg base n) : Cal (L.gx K c) P w mg base (lv (n + 1)) ((.m "Reader" "is_next" : Pth).ad K) (run (n + 1) 9) := by
  obtain ⟨M⟩ := c.fn 9 rfl
  have hv : M.dvs = [] := List.eq_nil_of_length_eq_zero (by rw [← (M.rd ⟨[], []⟩ fun _ => none).length]; rfl)
  exact cal_defD (ok_9 NS n ih M) rfl (fun j hj => ⟨[], by rw [hv]; cases j <;> exact .nil, FunD.bindsN (ps := ["self", "word"]) (hv ▸ M.F) fun _ _ _ _ _ _ us hl => match us, hl with | [_, _], _ => rfl⟩) M.rd
abbrev N_10 : List Str := ["self", "word"]
theorem sc_10 : FnScope N_10 ["self", "word"] (defScope s_10) := ⟨rfl, rfl, rfl, by decide +kernel, rfl, by decide +kernel, by decide +kernel⟩
theorem ok_10 (NS : Ns K mg) (n : Nat) (ih : IH c P w mg base n) (M : FnM (L.gx K c) ⟨.m "Reader" "accept", "accept", "Reader.accept", s_10, []⟩) : FnOk P w (L.gx K c).K mg base (L2.CX P w) (lv n + 1 + 1) ((.m "Reader" "accept" : Pth).ad (L.gx K c).K) M.fd ["self", "word"] (spF (L.gx K c) (bodyRun N_10.length (m_10 (run n))) (["self", "word"] : List Str).length) := by
  refine fnd_ok (G := L.gx K c) (k := lv n + 1) (ms := m_10 (run n)) M.F sc_10 fun cdv A outer s H E hr cc => ?_
  exact sss_cons (ss_if (st_not (st_tru cc (se_meth cc (se_var 0) rfl (me_is_next_ok cc hr ih) (sa_cons (se_var 1) (sa_nil))))) (sss_one (ss_ret (se_bl))) (sss_nil))
    (sss_cons (ss_faugA (se_var 0) (se_int) rfl (st_at_ok cc))
    (sss_one (ss_ret (se_bl))))
theorem cal_10 (NS : Ns K mg) (n : Nat) (ih : IH c P w mg base n) : Cal (L.gx K c) P w mg base (lv (n + 1)) ((.m "Reader" "accept" : Pth).ad K) (run (n + 1) 10) := by
  obtain ⟨M⟩ := c.fn 10 rfl
  have hv : M.dvs = [] := List.eq_nil_of_length_eq_zero (by rw [← (M.rd ⟨[], []⟩ fun _ => none).length]; rfl)
  exact cal_defD (ok_10 NS n ih M) rfl (fun j hj => ⟨[], by rw [hv]; cases j <;> exact .nil, FunD.bindsN (ps := ["self", "word"]) (hv ▸ M.F) fun _ _ _ _ _ _ us hl => match us, hl with | [_, _], _ => rfl⟩) M.rd
abbrev N_11 : List Str := ["self", "word"]
theorem sc_11 : FnScope N_11 ["self", "word"] (defScope s_11) := ⟨rfl, rfl, rfl, by decide +kernel, rfl, by decide +kernel, by decide +kernel⟩
theorem ok_11 (NS : Ns K mg) (n : Nat) (ih : IH c P w mg base n) (M : FnM (L.gx K c) ⟨.m "Reader" "expect", "expect", "Reader.expect", s_11, []⟩) : FnOk P w (L.gx K c).K mg base (L2.CX P w) (lv n + 1 + 1) ((.m "Reader" "expect" : Pth).ad (L.gx K c).K) M.fd ["self", "word"] (spF (L.gx K c) (bodyRun N_11.length (m_11 (run n))) (["self", "word"] : List Str).length) := by
  refine fnd_ok (G := L.gx K c) (k := lv n + 1) (ms := m_11 (run n)) M.F sc_11 fun cdv A outer s H E hr cc => ?_
  exact sss_one (ss_if (st_not (st_tru cc (se_meth cc (se_var 0) rfl (me_accept_ok cc hr ih) (sa_cons (se_var 1) (sa_nil))))) (sss_one (ss_raiseL 2 6 10 11 12 cc NS rfl rfl rfl rfl rfl (xi_1 (c := c)) (hr.mono (two_le _)) rfl (se_ix (ixs_item cc) (se_meth0 cc (se_var 0) rfl (me_current_ok cc hr ih)) (se_int)))) (sss_nil))
theorem cal_11 (NS : Ns K mg) (n : Nat) (ih : IH c P w mg base n) : Cal (L.gx K c) P w mg base (lv (n + 1)) ((.m "Reader" "expect" : Pth).ad K) (run (n + 1) 11) := by
  obtain ⟨M⟩ := c.fn 11 rfl
  have hv : M.dvs = [] := List.eq_nil_of_length_eq_zero (by rw [← (M.rd ⟨[], []⟩ fun _ => none).length]; rfl)
  exact cal_defD (ok_11 NS n ih M) rfl (fun j hj => ⟨[], by rw [hv]; cases j <;> exact .nil, FunD.bindsN (ps := ["self", "word"]) (hv ▸ M.F) fun _ _ _ _ _ _ us hl => match us, hl with | [_, _], _ => rfl⟩) M.rd
abbrev N_12 : List Str := ["self", "kind", "word", "position"]
theorem sc_12 : FnScope N_12 ["self"] (defScope s_12) := ⟨rfl, rfl, rfl, by decide +kernel, rfl, by decide +kernel, by decide +kernel⟩
theorem ok_12 (NS : Ns K mg) (n : Nat) (ih : IH c P w mg base n) (M : FnM (L.gx K c) ⟨.m "Reader" "read_name", "read_name", "Reader.read_name", s_12, []⟩) : FnOk P w (L.gx K c).K mg base (L2.CX P w) (lv n + 1 + 1) ((.m "Reader" "read_name" : Pth).ad (L.gx K c).K) M.fd ["self"] (spF (L.gx K c) (bodyRun N_12.length (m_12 (run n))) (["self"] : List Str).length) := by
  refine fnd_ok (G := L.gx K c) (k := lv n + 1) (ms := m_12 (run n)) M.F sc_12 fun cdv A outer s H E hr cc => ?_
  exact sss_cons (ss_asg (se_meth0 cc (se_var 0) rfl (me_current_ok cc hr ih)) (sg_tup cc (sgs_cons (sg_name cc.nd rfl (by first | exact Or.inl rfl | exact Or.inr rfl)) (sgs_cons (sg_name cc.nd rfl (by first | exact Or.inl rfl | exact Or.inr rfl)) (sgs_cons (sg_name cc.nd rfl (by first | exact Or.inl rfl | exact Or.inr rfl)) (sgs_nil))))))
    (sss_cons (ss_if (st_cmp (oNe_ok cc hr ih) (se_var 1) (se_str [110, 97, 109, 101])) (sss_one (ss_raiseL 2 6 10 11 12 cc NS rfl rfl rfl rfl rfl (xi_1 (c := c)) (hr.mono (two_le _)) rfl (se_var 3))) (sss_nil))
    (sss_cons (ss_faugA (se_var 0) (se_int) rfl (st_at_ok cc))
    (sss_one (ss_ret (se_var 2)))))
theorem cal_12 (NS : Ns K mg) (n : Nat) (ih : IH c P w mg base n) : Cal (L.gx K c) P w mg base (lv (n + 1)) ((.m "Reader" "read_name" : Pth).ad K) (run (n + 1) 12) := by
  obtain ⟨M⟩ := c.fn 12 rfl
  have hv : M.dvs = [] := List.eq_nil_of_length_eq_zero (by rw [← (M.rd ⟨[], []⟩ fun _ => none).length]; rfl)
  exact cal_defD (ok_12 NS n ih M) rfl (fun j hj => ⟨[], by rw [hv]; cases j <;> exact .nil, FunD.bindsN (ps := ["self"]) (hv ▸ M.F) fun _ _ _ _ _ _ us hl => match us, hl with | [_], _ => rfl⟩) M.rd
abbrev N_13 : List Str := ["self", "named", "kind", "word", "position"]
theorem sc_13 : FnScope N_13 ["self", "named"] (defScope s_13) := ⟨rfl, rfl, rfl, by decide +kernel, rfl, by decide +kernel, by decide +kernel⟩
theorem ok_13 (NS : Ns K mg) (n : Nat) (ih : IH c P w mg base n) (M : FnM (L.gx K c) ⟨.m "Reader" "read_factor", "read_factor", "Reader.read_factor", s_13, []⟩) : FnOk P w (L.gx K c).K mg base (L2.CX P w) (lv n + 1 + 1) ((.m "Reader" "read_factor" : Pth).ad (L.gx K c).K) M.fd ["self", "named"] (spF (L.gx K c) (bodyRun N_13.length (m_13 (run n))) (["self", "named"] : List Str).length) := by
  refine fnd_ok (G := L.gx K c) (k := lv n + 1) (ms := m_13 (run n)) M.F sc_13 fun cdv A outer s H E hr cc => ?_
  exact sss_cons (ss_asg (se_meth0 cc (se_var 0) rfl (me_current_ok cc hr ih)) (sg_tup cc (sgs_cons (sg_name cc.nd rfl (by first | exact Or.inl rfl | exact Or.inr rfl)) (sgs_cons (sg_name cc.nd rfl (by first | exact Or.inl rfl | exact Or.inr rfl)) (sgs_cons (sg_name cc.nd rfl (by first | exact Or.inl rfl | exact Or.inr rfl)) (sgs_nil))))))
    (sss_cons (ss_if (st_cmp (oEq_ok cc hr ih) (se_var 2) (se_str [110, 117, 109, 98, 101, 114])) (sss_cons (ss_if (st_cmp ops_gt (se_callB (fns_len cc) rfl (NS.free c 3) (by decide +kernel) (sa_cons (se_var 3) (sa_nil))) (se_con c NS 13 rfl rfl)) (sss_one (ss_raiseL 3 7 14 15 16 cc NS rfl rfl rfl rfl rfl (xi_2 (c := c)) (hr.mono (two_le _)) rfl (se_str [110, 117, 109, 98, 101, 114, 115]))) (sss_nil))
    (sss_cons (ss_faugA (se_var 0) (se_int) rfl (st_at_ok cc))
    (sss_one (ss_ret (se_callTy (fns_int.or fns_intT) rfl (NS.free c 17) (by decide +kernel) (sa_cons (se_var 3) (sa_nil))))))) (sss_nil))
    (sss_cons (ss_if (st_tru cc (se_meth cc (se_var 0) rfl (me_accept_ok cc hr ih) (sa_cons (se_str [110]) (sa_nil)))) (sss_one (ss_ret (se_str [110]))) (sss_nil))
    (sss_cons (ss_if (st_not (st_tru cc (se_var 1))) (sss_one (ss_raiseL 2 6 10 11 12 cc NS rfl rfl rfl rfl rfl (xi_1 (c := c)) (hr.mono (two_le _)) rfl (se_var 4))) (sss_nil))
    (sss_one (ss_ret (se_meth0 cc (se_var 0) rfl (me_read_name_ok cc hr ih)))))))
theorem cal_13 (NS : Ns K mg) (n : Nat) (ih : IH c P w mg base n) : Cal (L.gx K c) P w mg base (lv (n + 1)) ((.m "Reader" "read_factor" : Pth).ad K) (run (n + 1) 13) := by
  obtain ⟨M⟩ := c.fn 13 rfl
  have hv : M.dvs = [] := List.eq_nil_of_length_eq_zero (by rw [← (M.rd ⟨[], []⟩ fun _ => none).length]; rfl)
  exact cal_defD (ok_13 NS n ih M) rfl (fun j hj => ⟨[], by rw [hv]; cases j <;> exact .nil, FunD.bindsN (ps := ["self", "named"]) (hv ▸ M.F) fun _ _ _ _ _ _ us hl => match us, hl with | [_, _], _ => rfl⟩) M.rd
abbrev N_14 : List Str := ["self", "named", "number", "power", "counter", "first", "found", "one"]
theorem sc_14 : FnScope N_14 ["self", "named"] (defScope s_14) := ⟨rfl, rfl, rfl, by decide +kernel, rfl, by decide +kernel, by decide +kernel⟩
theorem ok_14 (NS : Ns K mg) (n : Nat) (ih : IH c P w mg base n) (M : FnM (L.gx K c) ⟨.m "Reader" "read_term", "read_term", "Reader.read_term", s_14, []⟩) : FnOk P w (L.gx K c).K mg base (L2.CX P w) (lv n + 1 + 1) ((.m "Reader" "read_term" : Pth).ad (L.gx K c).K) M.fd ["self", "named"] (spF (L.gx K c) (bodyRun N_14.length (m_14 (run n))) (["self", "named"] : List Str).length) := by
  refine fnd_ok (G := L.gx K c) (k := lv n + 1) (ms := m_14 (run n)) M.F sc_14 fun cdv A outer s H E hr cc => ?_
  exact sss_cons (ss_asg (se_tup (sa_cons (se_int) (sa_cons (se_int) (sa_cons (se_str []) (sa_nil)))) (szl rfl)) (sg_tup cc (sgs_cons (sg_name cc.nd rfl (by first | exact Or.inl rfl | exact Or.inr rfl)) (sgs_cons (sg_name cc.nd rfl (by first | exact Or.inl rfl | exact Or.inr rfl)) (sgs_cons (sg_name cc.nd rfl (by first | exact Or.inl rfl | exact Or.inr rfl)) (sgs_nil))))))
    (sss_cons (ss_set (i := 5) cc.nd rfl (by first | exact Or.inl rfl | exact Or.inr rfl) (se_meth cc (se_var 0) rfl (me_read_factor_ok cc hr ih) (sa_cons (se_var 1) (sa_nil))))
    (sss_cons (ss_set (i := 6) cc.nd rfl (by first | exact Or.inl rfl | exact Or.inr rfl) (se_lst (sa_cons (se_var 5) (sa_nil)) (szl rfl)))
    (sss_cons (ss_while 100000 cc (st_w (sw_or (st_not (st_tru cc (se_callB (fns_isi cc) rfl (NS.free c 19) (by decide +kernel) (sa_cons (se_ix (ixs_item cc) (se_var 6) (se_un (oNeg_ok cc hr ih) (se_int))) (sa_cons (se_bltn rfl (NS.free c 18) (by decide +kernel)) (sa_nil)))))) (sw_or1 (st_cmp (oEq_ok cc hr ih) (se_ix (ixs_item cc) (se_var 6) (se_un (oNeg_ok cc hr ih) (se_int))) (se_str [110]))))) (sss_cons (ss_if (st_not (st_tru cc (se_meth cc (se_var 0) rfl (me_accept_ok cc hr ih) (sa_cons (se_str [42]) (sa_nil))))) (sss_one (ss_break)) (sss_nil))
    (sss_cons (ss_set (i := 7) cc.nd rfl (by first | exact Or.inl rfl | exact Or.inr rfl) (se_meth cc (se_var 0) rfl (me_read_power_ok cc hr ih) (sa_cons (se_var 1) (sa_nil))))
    (sss_one (ss_expr (se_bm PySem.F.plainAttrs_list PySem.F.slot_list_append PySem.F.type_list_append mts_append (ck_list cc) (se_var 6) (sa_cons (se_var 7) (sa_nil))))))))
    (sss_cons (ss_for 100000 cc (si_or (si_seq cc (se_var 6)) (si_txt (se_var 6))) (sg_name cc.nd rfl (by first | exact Or.inl rfl | exact Or.inr rfl)) (sss_one (ss_if (st_cmp (oEq_ok cc hr ih) (se_var 7) (se_str [110])) (sss_one (ss_augA (i := 3) cc rfl (by first | exact Or.inl rfl | exact Or.inr rfl) (se_int))) (sss_one (ss_if (st_tru cc (se_callB (fns_isi cc) rfl (NS.free c 19) (by decide +kernel) (sa_cons (se_var 7) (sa_cons (se_bltn rfl (NS.free c 18) (by decide +kernel)) (sa_nil))))) (sss_one (ss_set (i := 4) cc.nd rfl (by first | exact Or.inl rfl | exact Or.inr rfl) (se_var 7))) (sss_one (ss_set (i := 2) cc.nd rfl (by first | exact Or.inl rfl | exact Or.inr rfl) (se_var 7))))))))
    (sss_cons (ss_if (st_cmp ops_gt (se_var 3) (se_con c NS 20 rfl rfl)) (sss_one (ss_raiseL 3 7 14 15 16 cc NS rfl rfl rfl rfl rfl (xi_2 (c := c)) (hr.mono (two_le _)) rfl (se_str [100, 101, 103, 114, 101, 101]))) (sss_nil))
    (sss_one (ss_ret (se_tup (sa_cons (se_var 4) (sa_cons (se_var 3) (sa_cons (se_var 2) (sa_nil)))) (szl rfl)))))))))
theorem cal_14 (NS : Ns K mg) (n : Nat) (ih : IH c P w mg base n) : Cal (L.gx K c) P w mg base (lv (n + 1)) ((.m "Reader" "read_term" : Pth).ad K) (run (n + 1) 14) := by
  obtain ⟨M⟩ := c.fn 14 rfl
  have hv : M.dvs = [] := List.eq_nil_of_length_eq_zero (by rw [← (M.rd ⟨[], []⟩ fun _ => none).length]; rfl)
  exact cal_defD (ok_14 NS n ih M) rfl (fun j hj => ⟨[], by rw [hv]; cases j <;> exact .nil, FunD.bindsN (ps := ["self", "named"]) (hv ▸ M.F) fun _ _ _ _ _ _ us hl => match us, hl with | [_, _], _ => rfl⟩) M.rd
abbrev N_15 : List Str := ["self", "named"]
theorem sc_15 : FnScope N_15 ["self", "named"] (defScope s_15) := ⟨rfl, rfl, rfl, by decide +kernel, rfl, by decide +kernel, by decide +kernel⟩
theorem ok_15 (NS : Ns K mg) (n : Nat) (ih : IH c P w mg base n) (M : FnM (L.gx K c) ⟨.m "Reader" "read_power", "read_power", "Reader.read_power", s_15, []⟩) : FnOk P w (L.gx K c).K mg base (L2.CX P w) (lv n + 1 + 1) ((.m "Reader" "read_power" : Pth).ad (L.gx K c).K) M.fd ["self", "named"] (spF (L.gx K c) (bodyRun N_15.length (m_15 (run n))) (["self", "named"] : List Str).length) := by
  refine fnd_ok (G := L.gx K c) (k := lv n + 1) (ms := m_15 (run n)) M.F sc_15 fun cdv A outer s H E hr cc => ?_
  exact sss_cons (ss_if (st_cmp (oEq_ok cc hr ih) (se_ix (ixs_item cc) (se_meth0 cc (se_var 0) rfl (me_current_ok cc hr ih)) (se_int)) (se_str [110, 117, 109, 98, 101, 114])) (sss_one (ss_raiseL 2 6 10 11 12 cc NS rfl rfl rfl rfl rfl (xi_1 (c := c)) (hr.mono (two_le _)) rfl (se_ix (ixs_item cc) (se_meth0 cc (se_var 0) rfl (me_current_ok cc hr ih)) (se_int)))) (sss_nil))
    (sss_one (ss_ret (se_meth cc (se_var 0) rfl (me_read_factor_ok cc hr ih) (sa_cons (se_var 1) (sa_nil)))))
theorem cal_15 (NS : Ns K mg) (n : Nat) (ih : IH c P w mg base n) : Cal (L.gx K c) P w mg base (lv (n + 1)) ((.m "Reader" "read_power" : Pth).ad K) (run (n + 1) 15) := by
  obtain ⟨M⟩ := c.fn 15 rfl
  have hv : M.dvs = [] := List.eq_nil_of_length_eq_zero (by rw [← (M.rd ⟨[], []⟩ fun _ => none).length]; rfl)
  exact cal_defD (ok_15 NS n ih M) rfl (fun j hj => ⟨[], by rw [hv]; cases j <;> exact .nil, FunD.bindsN (ps := ["self", "named"]) (hv ▸ M.F) fun _ _ _ _ _ _ us hl => match us, hl with | [_, _], _ => rfl⟩) M.rd
abbrev N_16 : List Str := ["self", "named", "found", "sign", "counter", "power", "number", "own"]
theorem sc_16 : FnScope N_16 ["self", "named"] (defScope s_16) := ⟨rfl, rfl, rfl, by decide +kernel, rfl, by decide +kernel, by decide +kernel⟩
theorem ok_16 (NS : Ns K mg) (n : Nat) (ih : IH c P w mg base n) (M : FnM (L.gx K c) ⟨.m "Reader" "read_sum", "read_sum", "Reader.read_sum", s_16, []⟩) : FnOk P w (L.gx K c).K mg base (L2.CX P w) (lv n + 1 + 1) ((.m "Reader" "read_sum" : Pth).ad (L.gx K c).K) M.fd ["self", "named"] (spF (L.gx K c) (bodyRun N_16.length (m_16 (run n))) (["self", "named"] : List Str).length) := by
  refine fnd_ok (G := L.gx K c) (k := lv n + 1) (ms := m_16 (run n)) M.F sc_16 fun cdv A outer s H E hr cc => ?_
  exact sss_cons (ss_set (i := 2) cc.nd rfl (by first | exact Or.inl rfl | exact Or.inr rfl) (se_dnew))
    (sss_cons (ss_set (i := 3) cc.nd rfl (by first | exact Or.inl rfl | exact Or.inr rfl) (se_if (st_tru cc (se_meth cc (se_var 0) rfl (me_accept_ok cc hr ih) (sa_cons (se_str [45]) (sa_nil)))) (se_un (oNeg_ok cc hr ih) (se_int)) (se_int)))
    (sss_cons (ss_while 100000 cc (st_cmp (oNe_ok cc hr ih) (se_var 3) (se_int)) (sss_cons (ss_asg (se_meth cc (se_var 0) rfl (me_read_term_ok cc hr ih) (sa_cons (se_var 1) (sa_nil))) (sg_tup cc (sgs_cons (sg_name cc.nd rfl (by first | exact Or.inl rfl | exact Or.inr rfl)) (sgs_cons (sg_name cc.nd rfl (by first | exact Or.inl rfl | exact Or.inr rfl)) (sgs_cons (sg_name cc.nd rfl (by first | exact Or.inl rfl | exact Or.inr rfl)) (sgs_nil))))))
    (sss_cons (ss_set (i := 7) cc.nd rfl (by first | exact Or.inl rfl | exact Or.inr rfl) (se_dsetd (se_var 2) (se_var 4) (se_dnew)))
    (sss_cons (ss_dput (hu_of hr) (se_var 7) (se_var 5) (se_bin (oAdd_ok cc hr ih) (se_dget2 (hu_of hr) (se_var 7) (se_var 5) (se_int)) (se_bin (oMul_ok cc hr ih) (se_var 3) (se_var 6))))
    (sss_one (ss_set (i := 3) cc.nd rfl (by first | exact Or.inl rfl | exact Or.inr rfl) (se_if (st_tru cc (se_meth cc (se_var 0) rfl (me_accept_ok cc hr ih) (sa_cons (se_str [43]) (sa_nil)))) (se_int) (se_if (st_tru cc (se_meth cc (se_var 0) rfl (me_accept_ok cc hr ih) (sa_cons (se_str [45]) (sa_nil)))) (se_un (oNeg_ok cc hr ih) (se_int)) (se_int)))))))))
    (sss_one (ss_ret (se_lock 2 (se_dc (own := [("counter", 4)]) (t := (.one 4)) 100000 cc (si_ky (se_var 2)) (blkOk_by (N := N_16) (sc := defScope s_16) (by decide +kernel)) (by decide) (fun _ _ _ _ _ cc => pg_name cc.nd rfl (by first | exact Or.inl rfl | exact Or.inr rfl)) (fun _ _ _ _ _ cc => sts_nil) (fun _ _ _ _ _ cc => se_var 4) (fun _ _ _ _ _ cc => se_call (fns_cal cc (ih.1 6 rfl rfl) (hr.mono (Nat.le_succ _))) rfl (NS.glo c 21) (keep_of c 21) (sa_cons (se_dgetL (hu_of hr) (se_var 2) (se_var 4)) (sa_nil)))))))))
theorem cal_16 (NS : Ns K mg) (n : Nat) (ih : IH c P w mg base n) : Cal (L.gx K c) P w mg base (lv (n + 1)) ((.m "Reader" "read_sum" : Pth).ad K) (run (n + 1) 16) := by
  obtain ⟨M⟩ := c.fn 16 rfl
  have hv : M.dvs = [] := List.eq_nil_of_length_eq_zero (by rw [← (M.rd ⟨[], []⟩ fun _ => none).length]; rfl)
  exact cal_defD (ok_16 NS n ih M) rfl (fun j hj => ⟨[], by rw [hv]; cases j <;> exact .nil, FunD.bindsN (ps := ["self", "named"]) (hv ▸ M.F) fun _ _ _ _ _ _ us hl => match us, hl with | [_, _], _ => rfl⟩) M.rd
abbrev N_17 : List Str := ["self"]
theorem sc_17 : FnScope N_17 ["self"] (defScope s_17) := ⟨rfl, rfl, rfl, by decide +kernel, rfl, by decide +kernel, by decide +kernel⟩
theorem ok_17 (NS : Ns K mg) (n : Nat) (ih : IH c P w mg base n) (M : FnM (L.gx K c) ⟨.m "Reader" "read_size", "read_size", "Reader.read_size", s_17, []⟩) : FnOk P w (L.gx K c).K mg base (L2.CX P w) (lv n + 1 + 1) ((.m "Reader" "read_size" : Pth).ad (L.gx K c).K) M.fd ["self"] (spF (L.gx K c) (bodyRun N_17.length (m_17 (run n))) (["self"] : List Str).length) := by
  refine fnd_ok (G := L.gx K c) (k := lv n + 1) (ms := m_17 (run n)) M.F sc_17 fun cdv A outer s H E hr cc => ?_
  exact sss_one (ss_ret (se_dget (hu_of hr) (se_meth cc (se_var 0) rfl (me_read_sum_ok cc hr ih) (sa_cons (se_bl) (sa_nil))) (se_str [])))
theorem cal_17 (NS : Ns K mg) (n : Nat) (ih : IH c P w mg base n) : Cal (L.gx K c) P w mg base (lv (n + 1)) ((.m "Reader" "read_size" : Pth).ad K) (run (n + 1) 17) := by
  obtain ⟨M⟩ := c.fn 17 rfl
  have hv : M.dvs = [] := List.eq_nil_of_length_eq_zero (by rw [← (M.rd ⟨[], []⟩ fun _ => none).length]; rfl)
  exact cal_defD (ok_17 NS n ih M) rfl (fun j hj => ⟨[], by rw [hv]; cases j <;> exact .nil, FunD.bindsN (ps := ["self"]) (hv ▸ M.F) fun _ _ _ _ _ _ us hl => match us, hl with | [_], _ => rfl⟩) M.rd
abbrev N_18 : List Str := ["self", "found", "factors", "counter"]
theorem sc_18 : FnScope N_18 ["self"] (defScope s_18) := ⟨rfl, rfl, rfl, by decide +kernel, rfl, by decide +kernel, by decide +kernel⟩
theorem ok_18 (NS : Ns K mg) (n : Nat) (ih : IH c P w mg base n) (M : FnM (L.gx K c) ⟨.m "Reader" "read_form", "read_form", "Reader.read_form", s_18, []⟩) : FnOk P w (L.gx K c).K mg base (L2.CX P w) (lv n + 1 + 1) ((.m "Reader" "read_form" : Pth).ad (L.gx K c).K) M.fd ["self"] (spF (L.gx K c) (bodyRun N_18.length (m_18 (run n))) (["self"] : List Str).length) := by
  refine fnd_ok (G := L.gx K c) (k := lv n + 1) (ms := m_18 (run n)) M.F sc_18 fun cdv A outer s H E hr cc => ?_
  exact sss_cons (ss_set (i := 1) cc.nd rfl (by first | exact Or.inl rfl | exact Or.inr rfl) (se_meth cc (se_var 0) rfl (me_read_sum_ok cc hr ih) (sa_cons (se_bl) (sa_nil))))
    (sss_cons (ss_setLc (i := 2) (own := [("counter", 3)]) (t := (.one 3)) 100000 cc rfl rfl rfl rfl rfl (si_or (si_seq cc (se_callB (FnS.or (fns_sortL cc) (fns_sortD cc)) rfl (NS.free c 22) (by decide +kernel) (sa_cons (se_var 1) (sa_nil)))) (si_txt (se_callB (FnS.or (fns_sortL cc) (fns_sortD cc)) rfl (NS.free c 22) (by decide +kernel) (sa_cons (se_var 1) (sa_nil))))) (blkOk_by (N := N_18) (sc := defScope s_18) (by decide +kernel)) (by decide) (fun _ _ _ _ _ cc => pg_name cc.nd rfl (by first | exact Or.inl rfl | exact Or.inr rfl)) (fun _ _ _ _ _ cc => sts_one (st_w (sw_and (st_cmp (oNe_ok cc hr ih) (se_var 3) (se_str [])) (sw_and1 (st_cmp (oNe_ok cc hr ih) (se_dget (hu_of hr) (se_var 1) (se_var 3)) (se_tup (sa_nil) (szl rfl))))))) (fun _ _ _ _ _ cc => se_tup (sa_cons (se_var 3) (sa_cons (se_dget (hu_of hr) (se_var 1) (se_var 3)) (sa_nil))) (szl rfl)))
    (sss_one (ss_ret (se_tup (sa_cons (se_dget2 (hu_of hr) (se_var 1) (se_str []) (se_tup (sa_nil) (szl rfl))) (sa_cons (se_callTy (fns_tuple cc) rfl (NS.free c 8) (by decide +kernel) (sa_cons (se_var 2) (sa_nil))) (sa_nil))) (szl rfl)))))
theorem cal_18 (NS : Ns K mg) (n : Nat) (ih : IH c P w mg base n) : Cal (L.gx K c) P w mg base (lv (n + 1)) ((.m "Reader" "read_form" : Pth).ad K) (run (n + 1) 18) := by
  obtain ⟨M⟩ := c.fn 18 rfl
  have hv : M.dvs = [] := List.eq_nil_of_length_eq_zero (by rw [← (M.rd ⟨[], []⟩ fun _ => none).length]; rfl)
  exact cal_defD (ok_18 NS n ih M) rfl (fun j hj => ⟨[], by rw [hv]; cases j <;> exact .nil, FunD.bindsN (ps := ["self"]) (hv ▸ M.F) fun _ _ _ _ _ _ us hl => match us, hl with | [_], _ => rfl⟩) M.rd
abbrev N_19 : List Str := ["self", "statements"]
theorem sc_19 : FnScope N_19 ["self"] (defScope s_19) := ⟨rfl, rfl, rfl, by decide +kernel, rfl, by decide +kernel, by decide +kernel⟩
theorem ok_19 (NS : Ns K mg) (n : Nat) (ih : IH c P w mg base n) (M : FnM (L.gx K c) ⟨.m "Reader" "read_block", "read_block", "Reader.read_block", s_19, []⟩) : FnOk P w (L.gx K c).K mg base (L2.CX P w) (lv n + 1 + 1) ((.m "Reader" "read_block" : Pth).ad (L.gx K c).K) M.fd ["self"] (spF (L.gx K c) (bodyRun N_19.length (m_19 (run n))) (["self"] : List Str).length) := by
  refine fnd_ok (G := L.gx K c) (k := lv n + 1) (ms := m_19 (run n)) M.F sc_19 fun cdv A outer s H E hr cc => ?_
  exact sss_cons (ss_set (i := 1) cc.nd rfl (by first | exact Or.inl rfl | exact Or.inr rfl) (se_lst (sa_nil) (szl rfl)))
    (sss_cons (ss_while 100000 cc (st_not (st_tru cc (se_meth cc (se_var 0) rfl (me_accept_ok cc hr ih) (sa_cons (se_str [125]) (sa_nil))))) (sss_one (ss_expr (se_bm PySem.F.plainAttrs_list PySem.F.slot_list_append PySem.F.type_list_append mts_append (ck_list cc) (se_var 1) (sa_cons (se_meth0 cc (se_var 0) rfl (me_read_statement_ok cc hr ih)) (sa_nil))))))
    (sss_one (ss_ret (se_callTy (fns_tuple cc) rfl (NS.free c 8) (by decide +kernel) (sa_cons (se_var 1) (sa_nil))))))
theorem cal_19 (NS : Ns K mg) (n : Nat) (ih : IH c P w mg base n) : Cal (L.gx K c) P w mg base (lv (n + 1)) ((.m "Reader" "read_block" : Pth).ad K) (run (n + 1) 19) := by
  obtain ⟨M⟩ := c.fn 19 rfl
  have hv : M.dvs = [] := List.eq_nil_of_length_eq_zero (by rw [← (M.rd ⟨[], []⟩ fun _ => none).length]; rfl)
  exact cal_defD (ok_19 NS n ih M) rfl (fun j hj => ⟨[], by rw [hv]; cases j <;> exact .nil, FunD.bindsN (ps := ["self"]) (hv ▸ M.F) fun _ _ _ _ _ _ us hl => match us, hl with | [_], _ => rfl⟩) M.rd
abbrev N_20 : List Str := ["self", "word", "name", "form"]
theorem sc_20 : FnScope N_20 ["self"] (defScope s_20) := ⟨rfl, rfl, rfl, by decide +kernel, rfl, by decide +kernel, by decide +kernel⟩
theorem ok_20 (NS : Ns K mg) (n : Nat) (ih : IH c P w mg base n) (M : FnM (L.gx K c) ⟨.m "Reader" "read_statement", "read_statement", "Reader.read_statement", s_20, []⟩) : FnOk P w (L.gx K c).K mg base (L2.CX P w) (lv n + 1 + 1) ((.m "Reader" "read_statement" : Pth).ad (L.gx K c).K) M.fd ["self"] (spF (L.gx K c) (bodyRun N_20.length (m_20 (run n))) (["self"] : List Str).length) := by
  refine fnd_ok (G := L.gx K c) (k := lv n + 1) (ms := m_20 (run n)) M.F sc_20 fun cdv A outer s H E hr cc => ?_
  exact sss_cons (ss_if (st_tru cc (se_meth cc (se_var 0) rfl (me_accept_ok cc hr ih) (sa_cons (se_str [102, 108, 117, 115, 104]) (sa_nil)))) (sss_one (ss_ret (se_tup (sa_cons (se_str [102, 108, 117, 115, 104]) (sa_nil)) (szl rfl)))) (sss_nil))
    (sss_cons (ss_if (st_tru cc (se_meth cc (se_var 0) rfl (me_accept_ok cc hr ih) (sa_cons (se_str [102, 111, 114]) (sa_nil)))) (sss_one (ss_ret (se_meth0 cc (se_var 0) rfl (me_read_loop_ok cc hr ih)))) (sss_nil))
    (sss_cons (ss_set (i := 1) cc.nd rfl (by first | exact Or.inl rfl | exact Or.inr rfl) (se_if (st_tru cc (se_meth cc (se_var 0) rfl (me_accept_ok cc hr ih) (sa_cons (se_str [114, 101, 97, 100]) (sa_nil)))) (se_str [114, 101, 97, 100]) (se_str [119, 114, 105, 116, 101])))
    (sss_cons (ss_if (st_cmp (oEq_ok cc hr ih) (se_var 1) (se_str [119, 114, 105, 116, 101])) (sss_one (ss_expr (se_meth cc (se_var 0) rfl (me_expect_ok cc hr ih) (sa_cons (se_str [119, 114, 105, 116, 101]) (sa_nil))))) (sss_nil))
    (sss_cons (ss_set (i := 2) cc.nd rfl (by first | exact Or.inl rfl | exact Or.inr rfl) (se_meth0 cc (se_var 0) rfl (me_read_name_ok cc hr ih)))
    (sss_cons (ss_expr (se_meth cc (se_var 0) rfl (me_expect_ok cc hr ih) (sa_cons (se_str [91]) (sa_nil))))
    (sss_cons (ss_set (i := 3) cc.nd rfl (by first | exact Or.inl rfl | exact Or.inr rfl) (se_meth0 cc (se_var 0) rfl (me_read_form_ok cc hr ih)))
    (sss_cons (ss_expr (se_meth cc (se_var 0) rfl (me_expect_ok cc hr ih) (sa_cons (se_str [93]) (sa_nil))))
    (sss_one (ss_ret (se_tup (sa_cons (se_var 1) (sa_cons (se_var 2) (sa_cons (se_var 3) (sa_nil)))) (szl rfl)))))))))))
theorem cal_20 (NS : Ns K mg) (n : Nat) (ih : IH c P w mg base n) : Cal (L.gx K c) P w mg base (lv (n + 1)) ((.m "Reader" "read_statement" : Pth).ad K) (run (n + 1) 20) := by
  obtain ⟨M⟩ := c.fn 20 rfl
  have hv : M.dvs = [] := List.eq_nil_of_length_eq_zero (by rw [← (M.rd ⟨[], []⟩ fun _ => none).length]; rfl)
  exact cal_defD (ok_20 NS n ih M) rfl (fun j hj => ⟨[], by rw [hv]; cases j <;> exact .nil, FunD.bindsN (ps := ["self"]) (hv ▸ M.F) fun _ _ _ _ _ _ us hl => match us, hl with | [_], _ => rfl⟩) M.rd
abbrev N_21 : List Str := ["self", "name", "parts", "block"]
theorem sc_21 : FnScope N_21 ["self"] (defScope s_21) := ⟨rfl, rfl, rfl, by decide +kernel, rfl, by decide +kernel, by decide +kernel⟩
theorem ok_21 (NS : Ns K mg) (n : Nat) (ih : IH c P w mg base n) (M : FnM (L.gx K c) ⟨.m "Reader" "read_loop", "read_loop", "Reader.read_loop", s_21, []⟩) : FnOk P w (L.gx K c).K mg base (L2.CX P w) (lv n + 1 + 1) ((.m "Reader" "read_loop" : Pth).ad (L.gx K c).K) M.fd ["self"] (spF (L.gx K c) (bodyRun N_21.length (m_21 (run n))) (["self"] : List Str).length) := by
  refine fnd_ok (G := L.gx K c) (k := lv n + 1) (ms := m_21 (run n)) M.F sc_21 fun cdv A outer s H E hr cc => ?_
  exact sss_cons (ss_set (i := 1) cc.nd rfl (by first | exact Or.inl rfl | exact Or.inr rfl) (se_meth0 cc (se_var 0) rfl (me_read_name_ok cc hr ih)))
    (sss_cons (ss_set (i := 2) cc.nd rfl (by first | exact Or.inl rfl | exact Or.inr rfl) (se_meth0 cc (se_var 0) rfl (me_read_size_ok cc hr ih)))
    (sss_cons (ss_if (st_w (sw_and (st_tru cc (se_meth cc (se_var 0) rfl (me_is_next_ok cc hr ih) (sa_cons (se_str [123]) (sa_nil)))) (sw_and1 (st_cmp (oEq_ok cc hr ih) (se_attr cc (se_var 0) rfl (at_depth_f cc) (at_depth_p cc hr ih)) (se_con c NS 23 rfl rfl))))) (sss_one (ss_raiseL 3 7 14 15 16 cc NS rfl rfl rfl rfl rfl (xi_2 (c := c)) (hr.mono (two_le _)) rfl (se_str [110, 101, 115, 116, 105, 110, 103]))) (sss_nil))
    (sss_cons (ss_expr (se_meth cc (se_var 0) rfl (me_expect_ok cc hr ih) (sa_cons (se_str [123]) (sa_nil))))
    (sss_cons (ss_faugA (se_var 0) (se_int) rfl (st_depth_ok cc))
    (sss_cons (ss_set (i := 3) cc.nd rfl (by first | exact Or.inl rfl | exact Or.inr rfl) (se_meth0 cc (se_var 0) rfl (me_read_block_ok cc hr ih)))
    (sss_cons (ss_faugM (se_var 0) (se_int) rfl (st_depth_ok cc))
    (sss_one (ss_ret (se_tup (sa_cons (se_str [102, 111, 114]) (sa_cons (se_var 1) (sa_cons (se_var 2) (sa_cons (se_var 3) (sa_nil))))) (szl rfl))))))))))
theorem cal_21 (NS : Ns K mg) (n : Nat) (ih : IH c P w mg base n) : Cal (L.gx K c) P w mg base (lv (n + 1)) ((.m "Reader" "read_loop" : Pth).ad K) (run (n + 1) 21) := by
  obtain ⟨M⟩ := c.fn 21 rfl
  have hv : M.dvs = [] := List.eq_nil_of_length_eq_zero (by rw [← (M.rd ⟨[], []⟩ fun _ => none).length]; rfl)
  exact cal_defD (ok_21 NS n ih M) rfl (fun j hj => ⟨[], by rw [hv]; cases j <;> exact .nil, FunD.bindsN (ps := ["self"]) (hv ▸ M.F) fun _ _ _ _ _ _ us hl => match us, hl with | [_], _ => rfl⟩) M.rd
abbrev N_22 : List Str := ["self"]
theorem sc_22 : FnScope N_22 ["self"] (defScope s_22) := ⟨rfl, rfl, rfl, by decide +kernel, rfl, by decide +kernel, by decide +kernel⟩
theorem ok_22 (NS : Ns K mg) (n : Nat) (ih : IH c P w mg base n) (M : FnM (L.gx K c) ⟨.m "Reader" "read_end", "read_end", "Reader.read_end", s_22, []⟩) : FnOk P w (L.gx K c).K mg base (L2.CX P w) (lv n + 1 + 1) ((.m "Reader" "read_end" : Pth).ad (L.gx K c).K) M.fd ["self"] (spF (L.gx K c) (bodyRun N_22.length (m_22 (run n))) (["self"] : List Str).length) := by
  refine fnd_ok (G := L.gx K c) (k := lv n + 1) (ms := m_22 (run n)) M.F sc_22 fun cdv A outer s H E hr cc => ?_
  exact sss_one (ss_if (st_cmp (oNe_ok cc hr ih) (se_ix (ixs_item cc) (se_meth0 cc (se_var 0) rfl (me_current_ok cc hr ih)) (se_int)) (se_str [101, 110, 100])) (sss_one (ss_raiseL 2 6 10 11 12 cc NS rfl rfl rfl rfl rfl (xi_1 (c := c)) (hr.mono (two_le _)) rfl (se_ix (ixs_item cc) (se_meth0 cc (se_var 0) rfl (me_current_ok cc hr ih)) (se_int)))) (sss_nil))
theorem cal_22 (NS : Ns K mg) (n : Nat) (ih : IH c P w mg base n) : Cal (L.gx K c) P w mg base (lv (n + 1)) ((.m "Reader" "read_end" : Pth).ad K) (run (n + 1) 22) := by
  obtain ⟨M⟩ := c.fn 22 rfl
  have hv : M.dvs = [] := List.eq_nil_of_length_eq_zero (by rw [← (M.rd ⟨[], []⟩ fun _ => none).length]; rfl)
  exact cal_defD (ok_22 NS n ih M) rfl (fun j hj => ⟨[], by rw [hv]; cases j <;> exact .nil, FunD.bindsN (ps := ["self"]) (hv ▸ M.F) fun _ _ _ _ _ _ us hl => match us, hl with | [_], _ => rfl⟩) M.rd
abbrev N_23 : List Str := ["self", "statements"]
theorem sc_23 : FnScope N_23 ["self"] (defScope s_23) := ⟨rfl, rfl, rfl, by decide +kernel, rfl, by decide +kernel, by decide +kernel⟩
theorem ok_23 (NS : Ns K mg) (n : Nat) (ih : IH c P w mg base n) (M : FnM (L.gx K c) ⟨.m "Reader" "read_open_block", "read_open_block", "Reader.read_open_block", s_23, []⟩) : FnOk P w (L.gx K c).K mg base (L2.CX P w) (lv n + 1 + 1) ((.m "Reader" "read_open_block" : Pth).ad (L.gx K c).K) M.fd ["self"] (spF (L.gx K c) (bodyRun N_23.length (m_23 (run n))) (["self"] : List Str).length) := by
  refine fnd_ok (G := L.gx K c) (k := lv n + 1) (ms := m_23 (run n)) M.F sc_23 fun cdv A outer s H E hr cc => ?_
  exact sss_cons (ss_set (i := 1) cc.nd rfl (by first | exact Or.inl rfl | exact Or.inr rfl) (se_lst (sa_nil) (szl rfl)))
    (sss_cons (ss_while 100000 cc (st_cmp (oNe_ok cc hr ih) (se_ix (ixs_item cc) (se_meth0 cc (se_var 0) rfl (me_current_ok cc hr ih)) (se_int)) (se_str [101, 110, 100])) (sss_one (ss_expr (se_bm PySem.F.plainAttrs_list PySem.F.slot_list_append PySem.F.type_list_append mts_append (ck_list cc) (se_var 1) (sa_cons (se_meth0 cc (se_var 0) rfl (me_read_statement_ok cc hr ih)) (sa_nil))))))
    (sss_one (ss_ret (se_callTy (fns_tuple cc) rfl (NS.free c 8) (by decide +kernel) (sa_cons (se_var 1) (sa_nil))))))
theorem cal_23 (NS : Ns K mg) (n : Nat) (ih : IH c P w mg base n) : Cal (L.gx K c) P w mg base (lv (n + 1)) ((.m "Reader" "read_open_block" : Pth).ad K) (run (n + 1) 23) := by
  obtain ⟨M⟩ := c.fn 23 rfl
  have hv : M.dvs = [] := List.eq_nil_of_length_eq_zero (by rw [← (M.rd ⟨[], []⟩ fun _ => none).length]; rfl)
  exact cal_defD (ok_23 NS n ih M) rfl (fun j hj => ⟨[], by rw [hv]; cases j <;> exact .nil, FunD.bindsN (ps := ["self"]) (hv ▸ M.F) fun _ _ _ _ _ _ us hl => match us, hl with | [_], _ => rfl⟩) M.rd
abbrev N_24 : List Str := ["self", "arrays", "name"]
theorem sc_24 : FnScope N_24 ["self"] (defScope s_24) := ⟨rfl, rfl, rfl, by decide +kernel, rfl, by decide +kernel, by decide +kernel⟩
theorem ok_24 (NS : Ns K mg) (n : Nat) (ih : IH c P w mg base n) (M : FnM (L.gx K c) ⟨.m "Reader" "read_program", "read_program", "Reader.read_program", s_24, []⟩) : FnOk P w (L.gx K c).K mg base (L2.CX P w) (lv n + 1 + 1) ((.m "Reader" "read_program" : Pth).ad (L.gx K c).K) M.fd ["self"] (spF (L.gx K c) (bodyRun N_24.length (m_24 (run n))) (["self"] : List Str).length) := by
  refine fnd_ok (G := L.gx K c) (k := lv n + 1) (ms := m_24 (run n)) M.F sc_24 fun cdv A outer s H E hr cc => ?_
  exact sss_cons (ss_set (i := 1) cc.nd rfl (by first | exact Or.inl rfl | exact Or.inr rfl) (se_lst (sa_nil) (szl rfl)))
    (sss_cons (ss_while 100000 cc (st_tru cc (se_meth cc (se_var 0) rfl (me_accept_ok cc hr ih) (sa_cons (se_str [97, 114, 114, 97, 121]) (sa_nil)))) (sss_cons (ss_set (i := 2) cc.nd rfl (by first | exact Or.inl rfl | exact Or.inr rfl) (se_meth0 cc (se_var 0) rfl (me_read_name_ok cc hr ih)))
    (sss_one (ss_expr (se_bm PySem.F.plainAttrs_list PySem.F.slot_list_append PySem.F.type_list_append mts_append (ck_list cc) (se_var 1) (sa_cons (se_tup (sa_cons (se_var 2) (sa_cons (se_meth0 cc (se_var 0) rfl (me_read_size_ok cc hr ih)) (sa_nil))) (szl rfl)) (sa_nil)))))))
    (sss_one (ss_ret (se_tup (sa_cons (se_callTy (fns_tuple cc) rfl (NS.free c 8) (by decide +kernel) (sa_cons (se_var 1) (sa_nil))) (sa_cons (se_meth0 cc (se_var 0) rfl (me_read_open_block_ok cc hr ih)) (sa_nil))) (szl rfl)))))
theorem cal_24 (NS : Ns K mg) (n : Nat) (ih : IH c P w mg base n) : Cal (L.gx K c) P w mg base (lv (n + 1)) ((.m "Reader" "read_program" : Pth).ad K) (run (n + 1) 24) := by
  obtain ⟨M⟩ := c.fn 24 rfl
  have hv : M.dvs = [] := List.eq_nil_of_length_eq_zero (by rw [← (M.rd ⟨[], []⟩ fun _ => none).length]; rfl)
  exact cal_defD (ok_24 NS n ih M) rfl (fun j hj => ⟨[], by rw [hv]; cases j <;> exact .nil, FunD.bindsN (ps := ["self"]) (hv ▸ M.F) fun _ _ _ _ _ _ us hl => match us, hl with | [_], _ => rfl⟩) M.rd
abbrev N_25 : List Str := ["text"]
theorem sc_25 : FnScope N_25 ["text"] (defScope s_25) := ⟨rfl, rfl, rfl, by decide +kernel, rfl, by decide +kernel, by decide +kernel⟩
theorem ok_25 (NS : Ns K mg) (n : Nat) (ih : IH c P w mg base n) (M : FnM (L.gx K c) ⟨.g "parse", "parse", "parse", s_25, []⟩) : FnOk P w (L.gx K c).K mg base (L2.CX P w) (lv n + 1 + 1) ((.g "parse" : Pth).ad (L.gx K c).K) M.fd ["text"] (spF (L.gx K c) (bodyRun N_25.length (m_25 (run n))) (["text"] : List Str).length) := by
  refine fnd_ok (G := L.gx K c) (k := lv n + 1) (ms := m_25 (run n)) M.F sc_25 fun cdv A outer s H E hr cc => ?_
  exact sss_cons (ss_if (st_not (st_tru cc (se_callB (fns_isi cc) rfl (NS.free c 19) (by decide +kernel) (sa_cons (se_var 0) (sa_cons (se_bltn rfl (NS.free c 18) (by decide +kernel)) (sa_nil)))))) (sss_one (ss_raiseL 1 20 24 25 26 cc NS rfl rfl rfl rfl rfl (xi_0 (c := c)) (hr.mono (two_le _)) rfl (se_var 0))) (sss_nil))
    (sss_one (ss_ret (se_meth0 cc (se_call (fns_make cc (cls_of c 0 rfl) (mk_of c 28 rfl) (ih.1 7 rfl rfl) hr) rfl (NS.glo c 27) (keep_of c 27) (sa_cons (se_var 0) (sa_nil))) rfl (me_read_program_ok cc hr ih))))
theorem cal_25 (NS : Ns K mg) (n : Nat) (ih : IH c P w mg base n) : Cal (L.gx K c) P w mg base (lv (n + 1)) ((.g "parse" : Pth).ad K) (run (n + 1) 25) := by
  obtain ⟨M⟩ := c.fn 25 rfl
  have hv : M.dvs = [] := List.eq_nil_of_length_eq_zero (by rw [← (M.rd ⟨[], []⟩ fun _ => none).length]; rfl)
  exact cal_defD (ok_25 NS n ih M) rfl (fun j hj => ⟨[], by rw [hv]; cases j <;> exact .nil, FunD.bindsN (ps := ["text"]) (hv ▸ M.F) fun _ _ _ _ _ _ us hl => match us, hl with | [_], _ => rfl⟩) M.rd
abbrev N_26 : List Str := ["text", "reader", "found"]
theorem sc_26 : FnScope N_26 ["text"] (defScope s_26) := ⟨rfl, rfl, rfl, by decide +kernel, rfl, by decide +kernel, by decide +kernel⟩
theorem ok_26 (NS : Ns K mg) (n : Nat) (ih : IH c P w mg base n) (M : FnM (L.gx K c) ⟨.g "parse_size", "parse_size", "parse_size", s_26, []⟩) : FnOk P w (L.gx K c).K mg base (L2.CX P w) (lv n + 1 + 1) ((.g "parse_size" : Pth).ad (L.gx K c).K) M.fd ["text"] (spF (L.gx K c) (bodyRun N_26.length (m_26 (run n))) (["text"] : List Str).length) := by
  refine fnd_ok (G := L.gx K c) (k := lv n + 1) (ms := m_26 (run n)) M.F sc_26 fun cdv A outer s H E hr cc => ?_
  exact sss_cons (ss_if (st_not (st_tru cc (se_callB (fns_isi cc) rfl (NS.free c 19) (by decide +kernel) (sa_cons (se_var 0) (sa_cons (se_bltn rfl (NS.free c 18) (by decide +kernel)) (sa_nil)))))) (sss_one (ss_raiseL 1 20 24 25 26 cc NS rfl rfl rfl rfl rfl (xi_0 (c := c)) (hr.mono (two_le _)) rfl (se_var 0))) (sss_nil))
    (sss_cons (ss_set (i := 1) cc.nd rfl (by first | exact Or.inl rfl | exact Or.inr rfl) (se_call (fns_make cc (cls_of c 0 rfl) (mk_of c 28 rfl) (ih.1 7 rfl rfl) hr) rfl (NS.glo c 27) (keep_of c 27) (sa_cons (se_var 0) (sa_nil))))
    (sss_cons (ss_set (i := 2) cc.nd rfl (by first | exact Or.inl rfl | exact Or.inr rfl) (se_meth0 cc (se_var 1) rfl (me_read_size_ok cc hr ih)))
    (sss_cons (ss_expr (se_meth0 cc (se_var 1) rfl (me_read_end_ok cc hr ih)))
    (sss_one (ss_ret (se_var 2))))))
theorem cal_26 (NS : Ns K mg) (n : Nat) (ih : IH c P w mg base n) : Cal (L.gx K c) P w mg base (lv (n + 1)) ((.g "parse_size" : Pth).ad K) (run (n + 1) 26) := by
  obtain ⟨M⟩ := c.fn 26 rfl
  have hv : M.dvs = [] := List.eq_nil_of_length_eq_zero (by rw [← (M.rd ⟨[], []⟩ fun _ => none).length]; rfl)
  exact cal_defD (ok_26 NS n ih M) rfl (fun j hj => ⟨[], by rw [hv]; cases j <;> exact .nil, FunD.bindsN (ps := ["text"]) (hv ▸ M.F) fun _ _ _ _ _ _ us hl => match us, hl with | [_], _ => rfl⟩) M.rd
abbrev N_27 : List Str := ["text"]
theorem sc_27 : FnScope N_27 ["text"] (defScope s_27) := ⟨rfl, rfl, rfl, by decide +kernel, rfl, by decide +kernel, by decide +kernel⟩
theorem ok_27 (NS : Ns K mg) (n : Nat) (ih : IH c P w mg base n) (M : FnM (L.gx K c) ⟨.g "parse_block", "parse_block", "parse_block", s_27, []⟩) : FnOk P w (L.gx K c).K mg base (L2.CX P w) (lv n + 1 + 1) ((.g "parse_block" : Pth).ad (L.gx K c).K) M.fd ["text"] (spF (L.gx K c) (bodyRun N_27.length (m_27 (run n))) (["text"] : List Str).length) := by
  refine fnd_ok (G := L.gx K c) (k := lv n + 1) (ms := m_27 (run n)) M.F sc_27 fun cdv A outer s H E hr cc => ?_
  exact sss_cons (ss_if (st_not (st_tru cc (se_callB (fns_isi cc) rfl (NS.free c 19) (by decide +kernel) (sa_cons (se_var 0) (sa_cons (se_bltn rfl (NS.free c 18) (by decide +kernel)) (sa_nil)))))) (sss_one (ss_raiseL 1 20 24 25 26 cc NS rfl rfl rfl rfl rfl (xi_0 (c := c)) (hr.mono (two_le _)) rfl (se_var 0))) (sss_nil))
    (sss_one (ss_ret (se_meth0 cc (se_call (fns_make cc (cls_of c 0 rfl) (mk_of c 28 rfl) (ih.1 7 rfl rfl) hr) rfl (NS.glo c 27) (keep_of c 27) (sa_cons (se_var 0) (sa_nil))) rfl (me_read_open_block_ok cc hr ih))))
theorem cal_27 (NS : Ns K mg) (n : Nat) (ih : IH c P w mg base n) : Cal (L.gx K c) P w mg base (lv (n + 1)) ((.g "parse_block" : Pth).ad K) (run (n + 1) 27) := by
  obtain ⟨M⟩ := c.fn 27 rfl
  have hv : M.dvs = [] := List.eq_nil_of_length_eq_zero (by rw [← (M.rd ⟨[], []⟩ fun _ => none).length]; rfl)
  exact cal_defD (ok_27 NS n ih M) rfl (fun j hj => ⟨[], by rw [hv]; cases j <;> exact .nil, FunD.bindsN (ps := ["text"]) (hv ▸ M.F) fun _ _ _ _ _ _ us hl => match us, hl with | [_], _ => rfl⟩) M.rd
abbrev N_28 : List Str := ["_law_script", "_law_k", "_law_cell", "_law_heavy", "_law_blend", "_law_seed"]
theorem sc_28 : FnScope N_28 ["_law_script", "_law_k"] (defScope s_28) := ⟨rfl, rfl, rfl, by decide +kernel, rfl, by decide +kernel, by decide +kernel⟩
theorem ok_28 (NS : Ns K mg) (n : Nat) (ih : IH c P w mg base n) (M : FnM (L.gx K c) ⟨.g "_law_pool", "_law_pool", "_law_pool", s_28, []⟩) : FnOk P w (L.gx K c).K mg base (L2.CX P w) (lv n + 1 + 1) ((.g "_law_pool" : Pth).ad (L.gx K c).K) M.fd ["_law_script", "_law_k"] (spF (L.gx K c) (bodyRun N_28.length (m_28 (run n))) (["_law_script", "_law_k"] : List Str).length) := by
  refine fnd_ok (G := L.gx K c) (k := lv n + 1) (ms := m_28 (run n)) M.F sc_28 fun cdv A outer s H E hr cc => ?_
  exact sss_cons (ss_set (i := 2) cc.nd rfl (by first | exact Or.inl rfl | exact Or.inr rfl) (se_int))
    (sss_cons (ss_if (st_cmp ops_lt (se_var 1) (se_callB (fns_len cc) rfl (NS.free c 3) (by decide +kernel) (sa_cons (se_var 0) (sa_nil)))) (sss_one (ss_set (i := 2) cc.nd rfl (by first | exact Or.inl rfl | exact Or.inr rfl) (se_ix (ixs_item cc) (se_var 0) (se_var 1)))) (sss_nil))
    (sss_cons (ss_set (i := 3) cc.nd rfl (by first | exact Or.inl rfl | exact Or.inr rfl) (se_callB (fns_abs) rfl (NS.free c 29) (by decide +kernel) (sa_cons (se_var 2) (sa_nil))))
    (sss_cons (ss_set (i := 4) cc.nd rfl (by first | exact Or.inl rfl | exact Or.inr rfl) (se_bin ops_mod (se_bin (oMul_ok cc hr ih) (se_callTy (fns_int) rfl (NS.free c 17) (by decide +kernel) (sa_cons (se_bin (oAdd_ok cc hr ih) (se_bin ops_mod (se_callTy (fns_int) rfl (NS.free c 17) (by decide +kernel) (sa_cons (se_var 2) (sa_nil))) (se_int)) (se_bin (oMul_ok cc hr ih) (se_int) (se_bin (oAdd_ok cc hr ih) (se_var 1) (se_int)))) (sa_nil))) (se_bin (oAdd_ok cc hr ih) (se_var 1) (se_int))) (se_int)))
    (sss_cons (ss_set (i := 5) cc.nd rfl (by first | exact Or.inl rfl | exact Or.inr rfl) (se_bin ops_mod (se_bin (oMul_ok cc hr ih) (se_bin ops_mod (se_callTy (fns_int) rfl (NS.free c 17) (by decide +kernel) (sa_cons (se_bin (oMul_ok cc hr ih) (se_var 4) (se_var 4)) (sa_nil))) (se_int)) (se_int)) (se_int)))
    (sss_one (ss_ret (se_lst (sa_cons (se_bin (oMul_ok cc hr ih) (se_var 3) (se_callTy (fns_int) rfl (NS.free c 17) (by decide +kernel) (sa_cons (se_cmp ops_ge (se_var 3) (se_bin ops_pow (se_int) (se_int))) (sa_nil)))) (sa_cons (se_var 5) (sa_nil))) (szl rfl))))))))
theorem cal_28 (NS : Ns K mg) (n : Nat) (ih : IH c P w mg base n) : Cal (L.gx K c) P w mg base (lv (n + 1)) ((.g "_law_pool" : Pth).ad K) (run (n + 1) 28) := by
  obtain ⟨M⟩ := c.fn 28 rfl
  have hv : M.dvs = [] := List.eq_nil_of_length_eq_zero (by rw [← (M.rd ⟨[], []⟩ fun _ => none).length]; rfl)
  exact cal_defD (ok_28 NS n ih M) rfl (fun j hj => ⟨[], by rw [hv]; cases j <;> exact .nil, FunD.bindsN (ps := ["_law_script", "_law_k"]) (hv ▸ M.F) fun _ _ _ _ _ _ us hl => match us, hl with | [_, _], _ => rfl⟩) M.rd
abbrev N_29 : List Str := ["_law_pool_here", "_law_wide", "_law_result"]
theorem sc_29 : FnScope N_29 ["_law_pool_here", "_law_wide"] (defScope s_29) := ⟨rfl, rfl, rfl, by decide +kernel, rfl, by decide +kernel, by decide +kernel⟩
theorem ok_29 (NS : Ns K mg) (n : Nat) (ih : IH c P w mg base n) (M : FnM (L.gx K c) ⟨.g "_law_take", "_law_take", "_law_take", s_29, []⟩) : FnOk P w (L.gx K c).K mg base (L2.CX P w) (lv n + 1 + 1) ((.g "_law_take" : Pth).ad (L.gx K c).K) M.fd ["_law_pool_here", "_law_wide"] (spF (L.gx K c) (bodyRun N_29.length (m_29 (run n))) (["_law_pool_here", "_law_wide"] : List Str).length) := by
  refine fnd_ok (G := L.gx K c) (k := lv n + 1) (ms := m_29 (run n)) M.F sc_29 fun cdv A outer s H E hr cc => ?_
  exact sss_cons (ss_if (st_cmp ops_gt (se_ix (ixs_item cc) (se_var 0) (se_int)) (se_int)) (sss_cons (ss_set (i := 2) cc.nd rfl (by first | exact Or.inl rfl | exact Or.inr rfl) (se_bin ops_mod (se_callTy (fns_int) rfl (NS.free c 17) (by decide +kernel) (sa_cons (se_ix (ixs_item cc) (se_var 0) (se_int)) (sa_nil))) (se_var 1)))
    (sss_cons (ss_asg (se_bin ops_div (se_ix (ixs_item cc) (se_var 0) (se_int)) (se_var 1)) (sg_sub (W := WF E) (se_var 0) (se_int) sts_list))
    (sss_one (ss_ret (se_var 2))))) (sss_nil))
    (sss_cons (ss_asg (se_bin ops_mod (se_callTy (fns_int) rfl (NS.free c 17) (by decide +kernel) (sa_cons (se_bin (oAdd_ok cc hr ih) (se_bin (oMul_ok cc hr ih) (se_ix (ixs_item cc) (se_var 0) (se_int)) (se_int)) (se_int)) (sa_nil))) (se_int)) (sg_sub (W := WF E) (se_var 0) (se_int) sts_list))
    (sss_one (ss_ret (se_bin ops_mod (se_bin ops_div (se_bin ops_mod (se_callTy (fns_int) rfl (NS.free c 17) (by decide +kernel) (sa_cons (se_bin (oMul_ok cc hr ih) (se_ix (ixs_item cc) (se_var 0) (se_int)) (se_ix (ixs_item cc) (se_var 0) (se_int))) (sa_nil))) (se_int)) (se_int)) (se_var 1)))))
theorem cal_29 (NS : Ns K mg) (n : Nat) (ih : IH c P w mg base n) : Cal (L.gx K c) P w mg base (lv (n + 1)) ((.g "_law_take" : Pth).ad K) (run (n + 1) 29) := by
  obtain ⟨M⟩ := c.fn 29 rfl
  have hv : M.dvs = [] := List.eq_nil_of_length_eq_zero (by rw [← (M.rd ⟨[], []⟩ fun _ => none).length]; rfl)
  exact cal_defD (ok_29 NS n ih M) rfl (fun j hj => ⟨[], by rw [hv]; cases j <;> exact .nil, FunD.bindsN (ps := ["_law_pool_here", "_law_wide"]) (hv ▸ M.F) fun _ _ _ _ _ _ us hl => match us, hl with | [_, _], _ => rfl⟩) M.rd
abbrev N_31 : List Str := ["_law_deep", "_law_inside"]
theorem sc_31 : FnScope N_31 ["_law_deep", "_law_inside"] (defScope s_31) := ⟨rfl, rfl, rfl, by decide +kernel, rfl, by decide +kernel, by decide +kernel⟩
theorem ok_31 (NS : Ns K mg) (n : Nat) (ih : IH c P w mg base n) (M : FnM (L.gx K c) ⟨.g "_law_loops", "_law_loops", "_law_loops", s_31, []⟩) : FnOk P w (L.gx K c).K mg base (L2.CX P w) (lv n + 1 + 1) ((.g "_law_loops" : Pth).ad (L.gx K c).K) M.fd ["_law_deep", "_law_inside"] (spF (L.gx K c) (bodyRun N_31.length (m_31 (run n))) (["_law_deep", "_law_inside"] : List Str).length) := by
  refine fnd_ok (G := L.gx K c) (k := lv n + 1) (ms := m_31 (run n)) M.F sc_31 fun cdv A outer s H E hr cc => ?_
  exact sss_one (ss_ret (se_bin (oAdd_ok cc hr ih) (se_bin (oAdd_ok cc hr ih) (se_bin (oMul_ok cc hr ih) (se_str [102, 111, 114, 32, 105, 32, 110, 32, 123, 32]) (se_var 0)) (se_var 1)) (se_bin (oMul_ok cc hr ih) (se_str [32, 125]) (se_var 0))))
theorem cal_31 (NS : Ns K mg) (n : Nat) (ih : IH c P w mg base n) : Cal (L.gx K c) P w mg base (lv (n + 1)) ((.g "_law_loops" : Pth).ad K) (run (n + 1) 31) := by
  obtain ⟨M⟩ := c.fn 31 rfl
  have hv : M.dvs = [] := List.eq_nil_of_length_eq_zero (by rw [← (M.rd ⟨[], []⟩ fun _ => none).length]; rfl)
  exact cal_defD (ok_31 NS n ih M) rfl (fun j hj => ⟨[], by rw [hv]; cases j <;> exact .nil, FunD.bindsN (ps := ["_law_deep", "_law_inside"]) (hv ▸ M.F) fun _ _ _ _ _ _ us hl => match us, hl with | [_, _], _ => rfl⟩) M.rd
abbrev N_32 : List Str := ["_law_number", "_law_powers", "_law_deep", "_law_part", "_law_found", "_law_inner"]
theorem sc_32 : FnScope N_32 ["_law_number", "_law_powers", "_law_deep"] (defScope s_32) := ⟨rfl, rfl, rfl, by decide +kernel, rfl, by decide +kernel, by decide +kernel⟩
theorem ok_32 (NS : Ns K mg) (n : Nat) (ih : IH c P w mg base n) (M : FnM (L.gx K c) ⟨.g "_law_texts", "_law_texts", "_law_texts", s_32, []⟩) : FnOk P w (L.gx K c).K mg base (L2.CX P w) (lv n + 1 + 1) ((.g "_law_texts" : Pth).ad (L.gx K c).K) M.fd ["_law_number", "_law_powers", "_law_deep"] (spF (L.gx K c) (bodyRun N_32.length (m_32 (run n))) (["_law_number", "_law_powers", "_law_deep"] : List Str).length) := by
  refine fnd_ok (G := L.gx K c) (k := lv n + 1) (ms := m_32 (run n)) M.F sc_32 fun cdv A outer s H E hr cc => ?_
  exact sss_cons (ss_set (i := 3) cc.nd rfl (by first | exact Or.inl rfl | exact Or.inr rfl) (se_bm PySem.F.plainAttrs_str PySem.F.slot_str_join PySem.F.type_str_join (mts_join cc) ck_str (se_str [42]) (sa_cons (se_bin (oMul_ok cc hr ih) (se_lv (sa_cons (se_str [110]) (sa_nil)) (szl rfl)) (se_var 1)) (sa_nil))))
    (sss_cons (ss_set (i := 4) cc.nd rfl (by first | exact Or.inl rfl | exact Or.inr rfl) (se_lv (sa_cons (se_bin (oAdd_ok cc hr ih) (se_str [97, 114, 114, 97, 121, 32, 97, 32]) (se_var 0)) (sa_cons (se_bin (oAdd_ok cc hr ih) (se_bin (oAdd_ok cc hr ih) (se_str [97, 114, 114, 97, 121, 32, 97, 32, 110, 32, 43, 32]) (se_var 0)) (se_str [42, 110])) (sa_cons (se_bin (oAdd_ok cc hr ih) (se_bin (oAdd_ok cc hr ih) (se_str [102, 111, 114, 32, 105, 32, 45, 32]) (se_var 0)) (se_str [32, 123, 32, 125])) (sa_nil)))) (szl rfl)))
    (sss_cons (ss_set (i := 4) cc.nd rfl (by first | exact Or.inl rfl | exact Or.inr rfl) (se_bin (oAdd_ok cc hr ih) (se_var 4) (se_lv (sa_cons (se_bin (oAdd_ok cc hr ih) (se_bin (oAdd_ok cc hr ih) (se_str [114, 101, 97, 100, 32, 97, 91]) (se_var 0)) (se_str [42, 105, 93])) (sa_cons (se_bin (oAdd_ok cc hr ih) (se_bin (oAdd_ok cc hr ih) (se_str [114, 101, 97, 100, 32, 97, 91, 105, 32, 43, 32]) (se_var 0)) (se_str [93])) (sa_cons (se_bin (oAdd_ok cc hr ih) (se_str [97, 114, 114, 97, 121, 32, 97, 32]) (se_var 3)) (sa_nil)))) (szl rfl))))
    (sss_cons (ss_set (i := 4) cc.nd rfl (by first | exact Or.inl rfl | exact Or.inr rfl) (se_bin (oAdd_ok cc hr ih) (se_var 4) (se_lv (sa_cons (se_bin (oAdd_ok cc hr ih) (se_bin (oAdd_ok cc hr ih) (se_str [114, 101, 97, 100, 32, 97, 91, 51, 42]) (se_var 3)) (se_str [42, 105, 93])) (sa_cons (se_bin (oAdd_ok cc hr ih) (se_bin (oAdd_ok cc hr ih) (se_str [102, 111, 114, 32, 105, 32, 50, 32, 45, 32]) (se_var 3)) (se_str [32, 123, 32, 125])) (sa_nil))) (szl rfl))))
    (sss_cons (ss_set (i := 5) cc.nd rfl (by first | exact Or.inl rfl | exact Or.inr rfl) (se_str [102, 111, 114, 32, 106, 32, 110, 32, 123, 32, 114, 101, 97, 100, 32, 97, 91, 106, 93, 32, 125, 32, 102, 108, 117, 115, 104]))
    (sss_one (ss_ret (se_bin (oAdd_ok cc hr ih) (se_var 4) (se_lv (sa_cons (se_call (fns_cal cc (ih.1 31 rfl rfl) (hr.mono (Nat.le_succ _))) rfl (NS.glo c 30) (keep_of c 30) (sa_cons (se_var 2) (sa_cons (se_str [102, 108, 117, 115, 104]) (sa_nil)))) (sa_cons (se_call (fns_cal cc (ih.1 31 rfl rfl) (hr.mono (Nat.le_succ _))) rfl (NS.glo c 30) (keep_of c 30) (sa_cons (se_bin (oSub_ok cc hr ih) (se_var 2) (se_int)) (sa_cons (se_var 5) (sa_nil)))) (sa_nil))) (szl rfl)))))))))
theorem cal_32 (NS : Ns K mg) (n : Nat) (ih : IH c P w mg base n) : Cal (L.gx K c) P w mg base (lv (n + 1)) ((.g "_law_texts" : Pth).ad K) (run (n + 1) 32) := by
  obtain ⟨M⟩ := c.fn 32 rfl
  have hv : M.dvs = [] := List.eq_nil_of_length_eq_zero (by rw [← (M.rd ⟨[], []⟩ fun _ => none).length]; rfl)
  exact cal_defD (ok_32 NS n ih M) rfl (fun j hj => ⟨[], by rw [hv]; cases j <;> exact .nil, FunD.bindsN (ps := ["_law_number", "_law_powers", "_law_deep"]) (hv ▸ M.F) fun _ _ _ _ _ _ us hl => match us, hl with | [_, _, _], _ => rfl⟩) M.rd
abbrev N_33 : List Str := ["_law_at", "_law_digits", "_law_powers", "_law_deep"]
theorem sc_33 : FnScope N_33 ["_law_at", "_law_digits", "_law_powers", "_law_deep"] (defScope s_33) := ⟨rfl, rfl, rfl, by decide +kernel, rfl, by decide +kernel, by decide +kernel⟩
theorem ok_33 (NS : Ns K mg) (n : Nat) (ih : IH c P w mg base n) (M : FnM (L.gx K c) ⟨.g "_law_due", "_law_due", "_law_due", s_33, []⟩) : FnOk P w (L.gx K c).K mg base (L2.CX P w) (lv n + 1 + 1) ((.g "_law_due" : Pth).ad (L.gx K c).K) M.fd ["_law_at", "_law_digits", "_law_powers", "_law_deep"] (spF (L.gx K c) (bodyRun N_33.length (m_33 (run n))) (["_law_at", "_law_digits", "_law_powers", "_law_deep"] : List Str).length) := by
  refine fnd_ok (G := L.gx K c) (k := lv n + 1) (ms := m_33 (run n)) M.F sc_33 fun cdv A outer s H E hr cc => ?_
  exact sss_cons (ss_if (st_cmp ops_lt (se_var 0) (se_int)) (sss_one (ss_ret (se_if (st_cmp ops_gt (se_var 1) (se_int)) (se_str [110, 117, 109, 98, 101, 114, 115]) (se_str [102, 105, 110, 101])))) (sss_nil))
    (sss_cons (ss_if (st_cmp ops_lt (se_var 0) (se_int)) (sss_one (ss_ret (se_if (st_cmp ops_gt (se_var 2) (se_int)) (se_str [100, 101, 103, 114, 101, 101]) (se_str [102, 105, 110, 101])))) (sss_nil))
    (sss_one (ss_ret (se_if (st_cmp ops_gt (se_var 3) (se_int)) (se_str [110, 101, 115, 116, 105, 110, 103]) (se_str [102, 105, 110, 101])))))
theorem cal_33 (NS : Ns K mg) (n : Nat) (ih : IH c P w mg base n) : Cal (L.gx K c) P w mg base (lv (n + 1)) ((.g "_law_due" : Pth).ad K) (run (n + 1) 33) := by
  obtain ⟨M⟩ := c.fn 33 rfl
  have hv : M.dvs = [] := List.eq_nil_of_length_eq_zero (by rw [← (M.rd ⟨[], []⟩ fun _ => none).length]; rfl)
  exact cal_defD (ok_33 NS n ih M) rfl (fun j hj => ⟨[], by rw [hv]; cases j <;> exact .nil, FunD.bindsN (ps := ["_law_at", "_law_digits", "_law_powers", "_law_deep"]) (hv ▸ M.F) fun _ _ _ _ _ _ us hl => match us, hl with | [_, _, _, _], _ => rfl⟩) M.rd
abbrev N_34 : List Str := ["_law_script", "_law_odd", "_law_door", "_law_k", "_law_pool_here", "_law_digits", "_law_powers", "_law_deep", "_law_number", "_law_turn", "_law_at", "_law_text", "_law_due_here"]
theorem sc_34 : FnScope N_34 ["_law_script"] (defScope s_34) := ⟨rfl, rfl, rfl, by decide +kernel, rfl, by decide +kernel, by decide +kernel⟩
theorem ok_34 (NS : Ns K mg) (n : Nat) (ih : IH c P w mg base n) (M : FnM (L.gx K c) ⟨.g "law", "law", "law", s_34, []⟩) {p : Addr × Addr} (hp : PySem.W.tabIn K "law" = some p) (hT : (L.gx K c).tabs = [(p.2, ("law.<locals>.<lambda>" : Str))]) (TB : LamX.TabB base mg p.1 p.2) : FnG P w (L.gx K c).K mg base (L2.CX P w) (lv n + 3 + 1) ((.g "law" : Pth).ad (L.gx K c).K) M.fd ["_law_script"] (spF (L.gx K c) (bodyRun N_34.length (m_34 (run n))) (["_law_script"] : List Str).length) := by
  obtain ⟨Mh_30⟩ := c.fn 30 rfl
  have hvh_30 : Mh_30.dvs = [] := List.eq_nil_of_length_eq_zero (by rw [← (Mh_30.rd ⟨[], []⟩ fun _ => none).length]; rfl)
  have hb_30 := FunD.bindsN (ps := ["_law_call"]) (hvh_30 ▸ Mh_30.F) fun _ _ _ _ _ _ us hl => match us, hl with | [_], _ => rfl
  have hcode := code_of M.F hp
  refine fndL_ok (G := L.gx K c) (k := lv n + 3) (ms := m_34 (run n)) M.F sc_34 fun A outer s H E hrT ng cc => ?_
  have hr := hrT.mono (show lv n + 1 ≤ lv n + 3 by omega)
  exact sss_cons (ss_for 100000 cc (si_or (si_seq cc (se_lv (sa_cons (se_non) (sa_cons (se_int) (sa_cons (se_lv (sa_cons (se_str [110]) (sa_nil)) (szl rfl)) (sa_cons (se_tup (sa_cons (se_str [110]) (sa_nil)) (szl rfl)) (sa_cons (se_bl) (sa_nil)))))) (szl rfl))) (si_txt (se_lv (sa_cons (se_non) (sa_cons (se_int) (sa_cons (se_lv (sa_cons (se_str [110]) (sa_nil)) (szl rfl)) (sa_cons (se_tup (sa_cons (se_str [110]) (sa_nil)) (szl rfl)) (sa_cons (se_bl) (sa_nil)))))) (szl rfl)))) (sg_name cc.nd rfl (by first | exact Or.inl rfl | exact Or.inr rfl)) (sss_one (ss_for 100000 cc (si_or (si_seq cc (se_lv (sa_cons (se_fnv c NS 31 25 rfl rfl rfl rfl) (sa_cons (se_fnv c NS 32 26 rfl rfl rfl rfl) (sa_cons (se_fnv c NS 33 27 rfl rfl rfl rfl) (sa_nil)))) (szl rfl))) (si_txt (se_lv (sa_cons (se_fnv c NS 31 25 rfl rfl rfl rfl) (sa_cons (se_fnv c NS 32 26 rfl rfl rfl rfl) (sa_cons (se_fnv c NS 33 27 rfl rfl rfl rfl) (sa_nil)))) (szl rfl)))) (sg_name cc.nd rfl (by first | exact Or.inl rfl | exact Or.inr rfl)) (sss_one (ss_if (st_cmp (oNe_ok cc hr ih) (se_heardF (Ng := N_30) (a := "_law_call") cc ng hrT Mh_30.F rfl (NS.glo c 34) hb_30 sc_30 rfl (Or.inl rfl) (isxL_ok c) (fun _ _ _ cc hr ng => ClS.named ⟨rfl, rfl, .inl (NS.glo c 16)⟩ (clsv_of c 3 rfl) rfl rfl (sx_fL (j := 1) 3 7 14 15 cc.k rfl rfl rfl rfl rfl (by first | exact Or.inl rfl | exact Or.inr (Or.inl rfl) | exact Or.inr (Or.inr rfl))) (ClS.named ⟨rfl, rfl, .inl (NS.glo c 12)⟩ (clsv_of c 2 rfl) rfl rfl (sx_fL (j := 1) 2 6 10 11 cc.k rfl rfl rfl rfl rfl (by first | exact Or.inl rfl | exact Or.inr (Or.inl rfl) | exact Or.inr (Or.inr rfl))) (ClS.named ⟨rfl, rfl, .inl (NS.glo c 26)⟩ (clsv_of c 1 rfl) rfl rfl (sx_lv (sxa_cons (sx_c fun _ _ _ => se_str [116, 101, 120, 116]) (sxa_cons (sx_fn (fun _ _ _ => fns_repr 8 cc.k ng (by have h := hu_of2 hr; exact h)) rfl (NS.free c 35) (by decide +kernel) (sxa_cons (sx_fL (j := 1) 1 20 24 25 cc.k rfl rfl rfl rfl rfl (by first | exact Or.inl rfl | exact Or.inr (Or.inl rfl) | exact Or.inr (Or.inr rfl))) sxa_nil)) (sxa_nil)))) (ClS.nil)))) (fun _ _ _ _ _ _ => se_str [102, 105, 110, 101]) (fun _ => rfl) (fun _ _ _ _ _ => rfl) TB hcode hT (by kernel_rfl) rfl (fun _ _ _ _ _ => rfl) (fun _ _ _ _ _ _ _ hr cc => se_callV (se_var 2) (dFn_ok cc hr ih) (sa_cons (se_var 1) (sa_nil)))) (se_lv (sa_cons (se_str [116, 101, 120, 116]) (sa_cons (se_callB (fns_repr 8 cc.k ng (hu_of hr)) rfl (NS.free c 35) (by decide +kernel) (sa_cons (se_var 1) (sa_nil))) (sa_nil))) (szl rfl))) (sss_one (ss_ret (se_bl))) (sss_nil))))))
    (sss_cons (ss_for 100000 cc (si_range1 (sa_cons (se_callB (fns_max2 cc) rfl (NS.free c 6) (by decide +kernel) (sa_cons (se_int) (sa_cons (se_callB (fns_min2 cc) rfl (NS.free c 36) (by decide +kernel) (sa_cons (se_callB (fns_len cc) rfl (NS.free c 3) (by decide +kernel) (sa_cons (se_var 0) (sa_nil))) (sa_cons (se_int) (sa_nil)))) (sa_nil)))) (sa_nil)) rfl (NS.free c 7)) (sg_name cc.nd rfl (by first | exact Or.inl rfl | exact Or.inr rfl)) (sss_cons (ss_set (i := 4) cc.nd rfl (by first | exact Or.inl rfl | exact Or.inr rfl) (se_call (fns_cal cc (ih.1 28 rfl rfl) (hr.mono (Nat.le_succ _))) rfl (NS.glo c 37) (keep_of c 37) (sa_cons (se_var 0) (sa_cons (se_var 3) (sa_nil)))))
    (sss_cons (ss_par3 (i := 5) (j := 6) (l := 7) cc.calm cc.nd rfl rfl rfl (by decide) (by decide) (by decide) rfl rfl rfl (sa_cons (se_bin (oAdd_ok cc hr ih) (se_int) (se_call (fns_cal cc (ih.1 29 rfl rfl) (hr.mono (Nat.le_succ _))) rfl (NS.glo c 38) (keep_of c 38) (sa_cons (se_var 4) (sa_cons (se_int) (sa_nil))))) (sa_cons (se_bin (oAdd_ok cc hr ih) (se_int) (se_call (fns_cal cc (ih.1 29 rfl rfl) (hr.mono (Nat.le_succ _))) rfl (NS.glo c 38) (keep_of c 38) (sa_cons (se_var 4) (sa_cons (se_int) (sa_nil))))) (sa_cons (se_bin (oAdd_ok cc hr ih) (se_int) (se_call (fns_cal cc (ih.1 29 rfl rfl) (hr.mono (Nat.le_succ _))) rfl (NS.glo c 38) (keep_of c 38) (sa_cons (se_var 4) (sa_cons (se_int) (sa_nil))))) (sa_nil)))))
    (sss_cons (ss_set (i := 8) cc.nd rfl (by first | exact Or.inl rfl | exact Or.inr rfl) (se_bm PySem.F.plainAttrs_str PySem.F.slot_str_join PySem.F.type_str_join (mts_join cc) ck_str (se_str []) (sa_cons (se_lcc (own := [("_law_turn", 9)]) (t := (.one 9)) 100000 cc (si_range1 (sa_cons (se_var 5) (sa_nil)) rfl (NS.free c 7)) (blkOk_by (N := N_34) (sc := defScope s_34) (by decide +kernel)) (by decide) (fun _ _ _ _ _ cc => pg_name cc.nd rfl (by first | exact Or.inl rfl | exact Or.inr rfl)) (fun _ _ _ _ _ cc => sts_nil) (fun _ _ _ _ _ cc => se_ix (ixs_item cc) (se_str [49, 50, 51, 52, 53, 54, 55, 56, 57]) (se_call (fns_cal cc (ih.1 29 rfl rfl) (hr.mono (Nat.le_succ _))) rfl (NS.glo c 38) (keep_of c 38) (sa_cons (se_var 4) (sa_cons (se_int) (sa_nil)))))) (sa_nil))))
    (sss_cons (ss_for 100000 cc (si_en cc (se_call (fns_cal cc (ih.1 32 rfl rfl) (hr.mono (Nat.le_succ _))) rfl (NS.glo c 39) (keep_of c 39) (sa_cons (se_var 8) (sa_cons (se_var 6) (sa_cons (se_var 7) (sa_nil))))) rfl (NS.free c 40)) (sg_tup cc (sgs_cons (sg_name cc.nd rfl (by first | exact Or.inl rfl | exact Or.inr rfl)) (sgs_cons (sg_name cc.nd rfl (by first | exact Or.inl rfl | exact Or.inr rfl)) (sgs_nil)))) (sss_cons (ss_set (i := 12) cc.nd rfl (by first | exact Or.inl rfl | exact Or.inr rfl) (se_call (fns_cal cc (ih.1 33 rfl rfl) (hr.mono (Nat.le_succ _))) rfl (NS.glo c 41) (keep_of c 41) (sa_cons (se_var 10) (sa_cons (se_var 5) (sa_cons (se_var 6) (sa_cons (se_var 7) (sa_nil)))))))
    (sss_cons (ss_if (st_cmp (oNe_ok cc hr ih) (se_heardF (Ng := N_30) (a := "_law_call") cc ng hrT Mh_30.F rfl (NS.glo c 34) hb_30 sc_30 rfl (Or.inl rfl) (isxL_ok c) (fun _ _ _ cc hr ng => ClS.named ⟨rfl, rfl, .inl (NS.glo c 16)⟩ (clsv_of c 3 rfl) rfl rfl (sx_fL (j := 1) 3 7 14 15 cc.k rfl rfl rfl rfl rfl (by first | exact Or.inl rfl | exact Or.inr (Or.inl rfl) | exact Or.inr (Or.inr rfl))) (ClS.named ⟨rfl, rfl, .inl (NS.glo c 12)⟩ (clsv_of c 2 rfl) rfl rfl (sx_fL (j := 1) 2 6 10 11 cc.k rfl rfl rfl rfl rfl (by first | exact Or.inl rfl | exact Or.inr (Or.inl rfl) | exact Or.inr (Or.inr rfl))) (ClS.named ⟨rfl, rfl, .inl (NS.glo c 26)⟩ (clsv_of c 1 rfl) rfl rfl (sx_lv (sxa_cons (sx_c fun _ _ _ => se_str [116, 101, 120, 116]) (sxa_cons (sx_fn (fun _ _ _ => fns_repr 8 cc.k ng (by have h := hu_of2 hr; exact h)) rfl (NS.free c 35) (by decide +kernel) (sxa_cons (sx_fL (j := 1) 1 20 24 25 cc.k rfl rfl rfl rfl rfl (by first | exact Or.inl rfl | exact Or.inr (Or.inl rfl) | exact Or.inr (Or.inr rfl))) sxa_nil)) (sxa_nil)))) (ClS.nil)))) (fun _ _ _ _ _ _ => se_str [102, 105, 110, 101]) (fun _ => rfl) (fun _ _ _ _ _ => rfl) TB hcode hT (by kernel_rfl) rfl (fun _ _ _ _ _ => rfl) (fun _ _ _ _ _ _ _ hr cc => se_call (fns_pure (fns_cal cc (ih.1 25 rfl rfl) (hr.mono (Nat.le_succ _)))) rfl (NS.glo c 31) (keep_of c 31) (sa_cons (se_var 11) (sa_nil)))) (se_var 12)) (sss_one (ss_ret (se_bl))) (sss_nil))
    (sss_cons (ss_if (st_cmp (oNe_ok cc hr ih) (se_heardF (Ng := N_30) (a := "_law_call") cc ng hrT Mh_30.F rfl (NS.glo c 34) hb_30 sc_30 rfl (Or.inl rfl) (isxL_ok c) (fun _ _ _ cc hr ng => ClS.named ⟨rfl, rfl, .inl (NS.glo c 16)⟩ (clsv_of c 3 rfl) rfl rfl (sx_fL (j := 1) 3 7 14 15 cc.k rfl rfl rfl rfl rfl (by first | exact Or.inl rfl | exact Or.inr (Or.inl rfl) | exact Or.inr (Or.inr rfl))) (ClS.named ⟨rfl, rfl, .inl (NS.glo c 12)⟩ (clsv_of c 2 rfl) rfl rfl (sx_fL (j := 1) 2 6 10 11 cc.k rfl rfl rfl rfl rfl (by first | exact Or.inl rfl | exact Or.inr (Or.inl rfl) | exact Or.inr (Or.inr rfl))) (ClS.named ⟨rfl, rfl, .inl (NS.glo c 26)⟩ (clsv_of c 1 rfl) rfl rfl (sx_lv (sxa_cons (sx_c fun _ _ _ => se_str [116, 101, 120, 116]) (sxa_cons (sx_fn (fun _ _ _ => fns_repr 8 cc.k ng (by have h := hu_of2 hr; exact h)) rfl (NS.free c 35) (by decide +kernel) (sxa_cons (sx_fL (j := 1) 1 20 24 25 cc.k rfl rfl rfl rfl rfl (by first | exact Or.inl rfl | exact Or.inr (Or.inl rfl) | exact Or.inr (Or.inr rfl))) sxa_nil)) (sxa_nil)))) (ClS.nil)))) (fun _ _ _ _ _ _ => se_str [102, 105, 110, 101]) (fun _ => rfl) (fun _ _ _ _ _ => rfl) TB hcode hT (by kernel_rfl) rfl (fun _ _ _ _ _ => rfl) (fun _ _ _ _ _ _ _ hr cc => se_call (fns_pure (fns_cal cc (ih.1 25 rfl rfl) (hr.mono (Nat.le_succ _)))) rfl (NS.glo c 31) (keep_of c 31) (sa_cons (se_bin (oAdd_ok cc hr ih) (se_var 11) (se_str [32, 93])) (sa_nil)))) (se_if (st_cmp (oEq_ok cc hr ih) (se_var 12) (se_str [102, 105, 110, 101])) (se_bin (oAdd_ok cc hr ih) (se_callB (fns_len cc) rfl (NS.free c 3) (by decide +kernel) (sa_cons (se_var 11) (sa_nil))) (se_int)) (se_var 12))) (sss_one (ss_ret (se_bl))) (sss_nil))
    (sss_one (ss_if (st_cmp (oNe_ok cc hr ih) (se_heardF (Ng := N_30) (a := "_law_call") cc ng hrT Mh_30.F rfl (NS.glo c 34) hb_30 sc_30 rfl (Or.inl rfl) (isxL_ok c) (fun _ _ _ cc hr ng => ClS.named ⟨rfl, rfl, .inl (NS.glo c 16)⟩ (clsv_of c 3 rfl) rfl rfl (sx_fL (j := 1) 3 7 14 15 cc.k rfl rfl rfl rfl rfl (by first | exact Or.inl rfl | exact Or.inr (Or.inl rfl) | exact Or.inr (Or.inr rfl))) (ClS.named ⟨rfl, rfl, .inl (NS.glo c 12)⟩ (clsv_of c 2 rfl) rfl rfl (sx_fL (j := 1) 2 6 10 11 cc.k rfl rfl rfl rfl rfl (by first | exact Or.inl rfl | exact Or.inr (Or.inl rfl) | exact Or.inr (Or.inr rfl))) (ClS.named ⟨rfl, rfl, .inl (NS.glo c 26)⟩ (clsv_of c 1 rfl) rfl rfl (sx_lv (sxa_cons (sx_c fun _ _ _ => se_str [116, 101, 120, 116]) (sxa_cons (sx_fn (fun _ _ _ => fns_repr 8 cc.k ng (by have h := hu_of2 hr; exact h)) rfl (NS.free c 35) (by decide +kernel) (sxa_cons (sx_fL (j := 1) 1 20 24 25 cc.k rfl rfl rfl rfl rfl (by first | exact Or.inl rfl | exact Or.inr (Or.inl rfl) | exact Or.inr (Or.inr rfl))) sxa_nil)) (sxa_nil)))) (ClS.nil)))) (fun _ _ _ _ _ _ => se_str [102, 105, 110, 101]) (fun _ => rfl) (fun _ _ _ _ _ => rfl) TB hcode hT (by kernel_rfl) rfl (fun _ _ _ _ _ => rfl) (fun _ _ _ _ _ _ _ hr cc => se_call (fns_pure (fns_cal cc (ih.1 25 rfl rfl) (hr.mono (Nat.le_succ _)))) rfl (NS.glo c 31) (keep_of c 31) (sa_cons (se_bin (oAdd_ok cc hr ih) (se_str [102, 108, 117, 115, 104, 32, 125, 32]) (se_var 11)) (sa_nil)))) (se_int)) (sss_one (ss_ret (se_bl))) (sss_nil)))))))
    (sss_cons (ss_if (st_cmp (oNe_ok cc hr ih) (se_heardF (Ng := N_30) (a := "_law_call") cc ng hrT Mh_30.F rfl (NS.glo c 34) hb_30 sc_30 rfl (Or.inl rfl) (isxL_ok c) (fun _ _ _ cc hr ng => ClS.named ⟨rfl, rfl, .inl (NS.glo c 16)⟩ (clsv_of c 3 rfl) rfl rfl (sx_fL (j := 1) 3 7 14 15 cc.k rfl rfl rfl rfl rfl (by first | exact Or.inl rfl | exact Or.inr (Or.inl rfl) | exact Or.inr (Or.inr rfl))) (ClS.named ⟨rfl, rfl, .inl (NS.glo c 12)⟩ (clsv_of c 2 rfl) rfl rfl (sx_fL (j := 1) 2 6 10 11 cc.k rfl rfl rfl rfl rfl (by first | exact Or.inl rfl | exact Or.inr (Or.inl rfl) | exact Or.inr (Or.inr rfl))) (ClS.named ⟨rfl, rfl, .inl (NS.glo c 26)⟩ (clsv_of c 1 rfl) rfl rfl (sx_lv (sxa_cons (sx_c fun _ _ _ => se_str [116, 101, 120, 116]) (sxa_cons (sx_fn (fun _ _ _ => fns_repr 8 cc.k ng (by have h := hu_of2 hr; exact h)) rfl (NS.free c 35) (by decide +kernel) (sxa_cons (sx_fL (j := 1) 1 20 24 25 cc.k rfl rfl rfl rfl rfl (by first | exact Or.inl rfl | exact Or.inr (Or.inl rfl) | exact Or.inr (Or.inr rfl))) sxa_nil)) (sxa_nil)))) (ClS.nil)))) (fun _ _ _ _ _ _ => se_str [102, 105, 110, 101]) (fun _ => rfl) (fun _ _ _ _ _ => rfl) TB hcode hT (by kernel_rfl) rfl (fun _ _ _ _ _ => rfl) (fun _ _ _ _ _ _ _ hr cc => se_call (fns_pure (fns_cal cc (ih.1 26 rfl rfl) (hr.mono (Nat.le_succ _)))) rfl (NS.glo c 32) (keep_of c 32) (sa_cons (se_var 8) (sa_nil)))) (se_call (fns_cal cc (ih.1 33 rfl rfl) (hr.mono (Nat.le_succ _))) rfl (NS.glo c 41) (keep_of c 41) (sa_cons (se_int) (sa_cons (se_var 5) (sa_cons (se_var 6) (sa_cons (se_var 7) (sa_nil))))))) (sss_one (ss_ret (se_bl))) (sss_nil))
    (sss_cons (ss_if (st_cmp (oNe_ok cc hr ih) (se_heardF (Ng := N_30) (a := "_law_call") cc ng hrT Mh_30.F rfl (NS.glo c 34) hb_30 sc_30 rfl (Or.inl rfl) (isxL_ok c) (fun _ _ _ cc hr ng => ClS.named ⟨rfl, rfl, .inl (NS.glo c 16)⟩ (clsv_of c 3 rfl) rfl rfl (sx_fL (j := 1) 3 7 14 15 cc.k rfl rfl rfl rfl rfl (by first | exact Or.inl rfl | exact Or.inr (Or.inl rfl) | exact Or.inr (Or.inr rfl))) (ClS.named ⟨rfl, rfl, .inl (NS.glo c 12)⟩ (clsv_of c 2 rfl) rfl rfl (sx_fL (j := 1) 2 6 10 11 cc.k rfl rfl rfl rfl rfl (by first | exact Or.inl rfl | exact Or.inr (Or.inl rfl) | exact Or.inr (Or.inr rfl))) (ClS.named ⟨rfl, rfl, .inl (NS.glo c 26)⟩ (clsv_of c 1 rfl) rfl rfl (sx_lv (sxa_cons (sx_c fun _ _ _ => se_str [116, 101, 120, 116]) (sxa_cons (sx_fn (fun _ _ _ => fns_repr 8 cc.k ng (by have h := hu_of2 hr; exact h)) rfl (NS.free c 35) (by decide +kernel) (sxa_cons (sx_fL (j := 1) 1 20 24 25 cc.k rfl rfl rfl rfl rfl (by first | exact Or.inl rfl | exact Or.inr (Or.inl rfl) | exact Or.inr (Or.inr rfl))) sxa_nil)) (sxa_nil)))) (ClS.nil)))) (fun _ _ _ _ _ _ => se_str [102, 105, 110, 101]) (fun _ => rfl) (fun _ _ _ _ _ => rfl) TB hcode hT (by kernel_rfl) rfl (fun _ _ _ _ _ => rfl) (fun _ _ _ _ _ _ _ hr cc => se_call (fns_pure (fns_cal cc (ih.1 26 rfl rfl) (hr.mono (Nat.le_succ _)))) rfl (NS.glo c 32) (keep_of c 32) (sa_cons (se_bin (oAdd_ok cc hr ih) (se_str [110, 42]) (se_var 8)) (sa_nil)))) (se_int)) (sss_one (ss_ret (se_bl))) (sss_nil))
    (sss_one (ss_if (st_cmp (oNe_ok cc hr ih) (se_heardF (Ng := N_30) (a := "_law_call") cc ng hrT Mh_30.F rfl (NS.glo c 34) hb_30 sc_30 rfl (Or.inl rfl) (isxL_ok c) (fun _ _ _ cc hr ng => ClS.named ⟨rfl, rfl, .inl (NS.glo c 16)⟩ (clsv_of c 3 rfl) rfl rfl (sx_fL (j := 1) 3 7 14 15 cc.k rfl rfl rfl rfl rfl (by first | exact Or.inl rfl | exact Or.inr (Or.inl rfl) | exact Or.inr (Or.inr rfl))) (ClS.named ⟨rfl, rfl, .inl (NS.glo c 12)⟩ (clsv_of c 2 rfl) rfl rfl (sx_fL (j := 1) 2 6 10 11 cc.k rfl rfl rfl rfl rfl (by first | exact Or.inl rfl | exact Or.inr (Or.inl rfl) | exact Or.inr (Or.inr rfl))) (ClS.named ⟨rfl, rfl, .inl (NS.glo c 26)⟩ (clsv_of c 1 rfl) rfl rfl (sx_lv (sxa_cons (sx_c fun _ _ _ => se_str [116, 101, 120, 116]) (sxa_cons (sx_fn (fun _ _ _ => fns_repr 8 cc.k ng (by have h := hu_of2 hr; exact h)) rfl (NS.free c 35) (by decide +kernel) (sxa_cons (sx_fL (j := 1) 1 20 24 25 cc.k rfl rfl rfl rfl rfl (by first | exact Or.inl rfl | exact Or.inr (Or.inl rfl) | exact Or.inr (Or.inr rfl))) sxa_nil)) (sxa_nil)))) (ClS.nil)))) (fun _ _ _ _ _ _ => se_str [102, 105, 110, 101]) (fun _ => rfl) (fun _ _ _ _ _ => rfl) TB hcode hT (by kernel_rfl) rfl (fun _ _ _ _ _ => rfl) (fun _ _ _ _ _ _ _ hr cc => se_call (fns_pure (fns_cal cc (ih.1 25 rfl rfl) (hr.mono (Nat.le_succ _)))) rfl (NS.glo c 31) (keep_of c 31) (sa_cons (se_bin (oAdd_ok cc hr ih) (se_str [102, 111, 114, 32]) (se_var 8)) (sa_nil)))) (se_int)) (sss_one (ss_ret (se_bl))) (sss_nil))))))))))
    (sss_cons (ss_if (st_cmp (oNe_ok cc hr ih) (se_heardF (Ng := N_30) (a := "_law_call") cc ng hrT Mh_30.F rfl (NS.glo c 34) hb_30 sc_30 rfl (Or.inl rfl) (isxL_ok c) (fun _ _ _ cc hr ng => ClS.named ⟨rfl, rfl, .inl (NS.glo c 16)⟩ (clsv_of c 3 rfl) rfl rfl (sx_fL (j := 1) 3 7 14 15 cc.k rfl rfl rfl rfl rfl (by first | exact Or.inl rfl | exact Or.inr (Or.inl rfl) | exact Or.inr (Or.inr rfl))) (ClS.named ⟨rfl, rfl, .inl (NS.glo c 12)⟩ (clsv_of c 2 rfl) rfl rfl (sx_fL (j := 1) 2 6 10 11 cc.k rfl rfl rfl rfl rfl (by first | exact Or.inl rfl | exact Or.inr (Or.inl rfl) | exact Or.inr (Or.inr rfl))) (ClS.named ⟨rfl, rfl, .inl (NS.glo c 26)⟩ (clsv_of c 1 rfl) rfl rfl (sx_lv (sxa_cons (sx_c fun _ _ _ => se_str [116, 101, 120, 116]) (sxa_cons (sx_fn (fun _ _ _ => fns_repr 8 cc.k ng (by have h := hu_of2 hr; exact h)) rfl (NS.free c 35) (by decide +kernel) (sxa_cons (sx_fL (j := 1) 1 20 24 25 cc.k rfl rfl rfl rfl rfl (by first | exact Or.inl rfl | exact Or.inr (Or.inl rfl) | exact Or.inr (Or.inr rfl))) sxa_nil)) (sxa_nil)))) (ClS.nil)))) (fun _ _ _ _ _ _ => se_str [102, 105, 110, 101]) (fun _ => rfl) (fun _ _ _ _ _ => rfl) TB hcode hT (by kernel_rfl) rfl (fun _ _ _ _ _ => rfl) (fun _ _ _ _ _ _ _ hr cc => se_call (fns_pure (fns_cal cc (ih.1 25 rfl rfl) (hr.mono (Nat.le_succ _)))) rfl (NS.glo c 31) (keep_of c 31) (sa_cons (se_bin (oMul_ok cc hr ih) (se_str [102, 111, 114, 32, 105, 32, 110, 32, 123]) (se_int)) (sa_nil)))) (se_str [110, 101, 115, 116, 105, 110, 103])) (sss_one (ss_ret (se_bl))) (sss_nil))
    (sss_one (ss_ret (se_cmp (oEq_ok cc hr ih) (se_heardF (Ng := N_30) (a := "_law_call") cc ng hrT Mh_30.F rfl (NS.glo c 34) hb_30 sc_30 rfl (Or.inl rfl) (isxL_ok c) (fun _ _ _ cc hr ng => ClS.named ⟨rfl, rfl, .inl (NS.glo c 16)⟩ (clsv_of c 3 rfl) rfl rfl (sx_fL (j := 1) 3 7 14 15 cc.k rfl rfl rfl rfl rfl (by first | exact Or.inl rfl | exact Or.inr (Or.inl rfl) | exact Or.inr (Or.inr rfl))) (ClS.named ⟨rfl, rfl, .inl (NS.glo c 12)⟩ (clsv_of c 2 rfl) rfl rfl (sx_fL (j := 1) 2 6 10 11 cc.k rfl rfl rfl rfl rfl (by first | exact Or.inl rfl | exact Or.inr (Or.inl rfl) | exact Or.inr (Or.inr rfl))) (ClS.named ⟨rfl, rfl, .inl (NS.glo c 26)⟩ (clsv_of c 1 rfl) rfl rfl (sx_lv (sxa_cons (sx_c fun _ _ _ => se_str [116, 101, 120, 116]) (sxa_cons (sx_fn (fun _ _ _ => fns_repr 8 cc.k ng (by have h := hu_of2 hr; exact h)) rfl (NS.free c 35) (by decide +kernel) (sxa_cons (sx_fL (j := 1) 1 20 24 25 cc.k rfl rfl rfl rfl rfl (by first | exact Or.inl rfl | exact Or.inr (Or.inl rfl) | exact Or.inr (Or.inr rfl))) sxa_nil)) (sxa_nil)))) (ClS.nil)))) (fun _ _ _ _ _ _ => se_str [102, 105, 110, 101]) (fun _ => rfl) (fun _ _ _ _ _ => rfl) TB hcode hT (by kernel_rfl) rfl (fun _ _ _ _ _ => rfl) (fun _ _ _ _ _ _ _ hr cc => se_call (fns_pure (fns_cal cc (ih.1 25 rfl rfl) (hr.mono (Nat.le_succ _)))) rfl (NS.glo c 31) (keep_of c 31) (sa_cons (se_bin (oMul_ok cc hr ih) (se_str [110]) (se_int)) (sa_nil)))) (se_int))))))
theorem all (NS : Ns K mg) : ∀ n, IH c P w mg base n
  | 0 => ⟨fun j _ _ _ => cal0, fun j _ _ => calG0⟩
  | n + 1 => by
    have ih := all NS n
    have one : ∀ (j : Nat) {d : DefM}, defs[j]? = some d → isG j = false → Cal (L.gx K c) P w mg base (lv (n + 1)) (d.pth.ad K) (run (n + 1) j) := fun j d h z => by
      match j, h with
      | 0, h => cases h; exact cal0
      | 1, h => cases h; exact cal0
      | 2, h => cases h; exact cal0
      | 3, h => cases h; exact cal_3 NS n ih
      | 4, h => cases h; exact cal_4 NS n ih
      | 5, h => cases h; exact cal_5 NS n ih
      | 6, h => cases h; exact cal_6 NS n ih
      | 7, h => cases h; exact cal_7 NS n ih
      | 8, h => cases h; exact cal_8 NS n ih
      | 9, h => cases h; exact cal_9 NS n ih
      | 10, h => cases h; exact cal_10 NS n ih
      | 11, h => cases h; exact cal_11 NS n ih
      | 12, h => cases h; exact cal_12 NS n ih
      | 13, h => cases h; exact cal_13 NS n ih
      | 14, h => cases h; exact cal_14 NS n ih
      | 15, h => cases h; exact cal_15 NS n ih
      | 16, h => cases h; exact cal_16 NS n ih
      | 17, h => cases h; exact cal_17 NS n ih
      | 18, h => cases h; exact cal_18 NS n ih
      | 19, h => cases h; exact cal_19 NS n ih
      | 20, h => cases h; exact cal_20 NS n ih
      | 21, h => cases h; exact cal_21 NS n ih
      | 22, h => cases h; exact cal_22 NS n ih
      | 23, h => cases h; exact cal_23 NS n ih
      | 24, h => cases h; exact cal_24 NS n ih
      | 25, h => cases h; exact cal_25 NS n ih
      | 26, h => cases h; exact cal_26 NS n ih
      | 27, h => cases h; exact cal_27 NS n ih
      | 28, h => cases h; exact cal_28 NS n ih
      | 29, h => cases h; exact cal_29 NS n ih
      | 30, h => cases h; exact cal0
      | 31, h => cases h; exact cal_31 NS n ih
      | 32, h => cases h; exact cal_32 NS n ih
      | 33, h => cases h; exact cal_33 NS n ih
      | 34, h => cases h; exact cal0
      | k + 35, h => exact absurd h (by simp [defs])
    refine ⟨one, fun j d h => ?_⟩
    match j, h with
    | 0, h => exact (one 0 h rfl).toG
    | 1, h => exact (one 1 h rfl).toG
    | 2, h => exact (one 2 h rfl).toG
    | 3, h => exact (one 3 h rfl).toG
    | 4, h => exact (one 4 h rfl).toG
    | 5, h => exact (one 5 h rfl).toG
    | 6, h => exact (one 6 h rfl).toG
    | 7, h => exact (one 7 h rfl).toG
    | 8, h => exact (one 8 h rfl).toG
    | 9, h => exact (one 9 h rfl).toG
    | 10, h => exact (one 10 h rfl).toG
    | 11, h => exact (one 11 h rfl).toG
    | 12, h => exact (one 12 h rfl).toG
    | 13, h => exact (one 13 h rfl).toG
    | 14, h => exact (one 14 h rfl).toG
    | 15, h => exact (one 15 h rfl).toG
    | 16, h => exact (one 16 h rfl).toG
    | 17, h => exact (one 17 h rfl).toG
    | 18, h => exact (one 18 h rfl).toG
    | 19, h => exact (one 19 h rfl).toG
    | 20, h => exact (one 20 h rfl).toG
    | 21, h => exact (one 21 h rfl).toG
    | 22, h => exact (one 22 h rfl).toG
    | 23, h => exact (one 23 h rfl).toG
    | 24, h => exact (one 24 h rfl).toG
    | 25, h => exact (one 25 h rfl).toG
    | 26, h => exact (one 26 h rfl).toG
    | 27, h => exact (one 27 h rfl).toG
    | 28, h => exact (one 28 h rfl).toG
    | 29, h => exact (one 29 h rfl).toG
    | 30, h => exact calG0
    | 31, h => exact (one 31 h rfl).toG
    | 32, h => exact (one 32 h rfl).toG
    | 33, h => exact (one 33 h rfl).toG
    | 34, h => exact calG0
    | k + 35, h => exact absurd h (by simp [defs])
end
end L2.Mi.Pg

set_option Elab.async false
set_option linter.all false
set_option maxRecDepth 100000
set_option maxHeartbeats 4000000
/-! The program of law_k05_sizes_in_texts: runs, derivations. Printed by gen.py. -/
namespace L2.Mi.Pg
open PySem PySem.Spec PyProof.Rows
/-! ### the head -/
abbrev R : PySem.W.OpenRow := PySem.W.OpenLaw.row PySem.Challenge.rw_farmisses_k05_sizes_in_texts
abbrev hk : PySem.W.Hook := L.hook 6
def ob (s : PySem.W.SharedT) : AlM := L.obsG 6 (HandSHeadRun.getT s)
theorem ob_eq (s : PySem.W.SharedT) : ob s = hk.obs s.abs := Lw.obsG_eq (HandSHeadRun.getT_eq s)
def loose0 : List Str := ["FarError", "InvalidText", "InvalidSyntax", "TooLarge", "LETTERS", "DIGITS", "SIGNS", "KEYWORDS", "LONGEST", "DEEPEST", "WIDEST", "kind_of", "end_of_run", "tokens_of", "parts_from"]
def loose1 : List Str := ["Reader", "parse", "parse_size", "parse_block", "_law_pool", "_law_take", "_law_heard", "_law_loops", "_law_texts", "_law_due"]
def loose : List Str := loose0 ++ loose1
theorem head (w : World) : HandSHeadRun.RunEq R (PySem.W.view R.prog [28]) hk ob 20000 loose w := by
  intro os
  kernel_rfl
end L2.Mi.Pg

set_option Elab.async false
set_option linter.all false
set_option maxRecDepth 100000
set_option maxHeartbeats 1000000
/-! The reader of texts, 1: tokens one by one. From the template RD1. -/
namespace L2.Mi.Pg
open PySem
def perrX : PErr → Xn
  | .syn p => ⟨2, [(6, .int (p : Int))]⟩
  | .big w => ⟨3, [(7, .str w)]⟩
  | .none => ⟨0, []⟩
def rdO (k i d : Nat) : Ob := .ins 0 [(0, .ref k), (1, .int (i : Int)), (2, .int (d : Int))]
structure TokOk (t : Tok) : Prop where
  k : Txt t.k
  w : Txt t.w
  v : t.k = NUMB → t.w.length ≤ 150 → ∃ v, PySem.intText? ⟨t.w.toArray⟩ = some v
  n : t.k = NAME → t.w ≠ [110]
structure RdR (S : Store) (r k : Nat) (ts rest : List Tok) (d : Nat) : Prop where
  pre : ∃ pre, ts = pre ++ rest ∧ S.get r = some (rdO k pre.length d)
  hk : S.get k = some (.lst (ts.map Tok.d))
  ne : r ≠ k
  st : Stop rest
  tx : ∀ t ∈ ts, TokOk t
  ln : ts.length ≤ 90000
  wl : ∀ t ∈ ts, t.w.length ≤ 900000
  sm : ∀ p q, ts = p ++ q → ∀ tm r', pSum true q = .ok (tm, r') → tm.length < 64
section
variable {S : Store} {r k : Nat} {ts rest : List Tok} {d n : Nat} {t : Tok} {E : Xn → Store → Prop}
theorem RdR.r_lt (h : RdR S r k ts rest d) : r < S.size := by
  obtain ⟨pre, _, e⟩ := h.pre
  exact Store.get_lt e
theorem RdR.k_lt (h : RdR S r k ts rest d) : k < S.size := Store.get_lt h.hk
theorem RdR.tail (h : RdR S r k ts (t :: rest) d) (n : ¬ t.ends) {pre : List Tok} (e : ts = pre ++ t :: rest) : RdR (S.set r (rdO k (pre.length + 1) d)) r k ts rest d := by
  obtain ⟨p0, _, hg⟩ := h.pre
  refine ⟨⟨pre ++ [t], by simp [e], by rw [Store.get_set_same' hg]; simp⟩, ?_, h.ne, h.st.tail n, h.tx, h.ln, h.wl, h.sm⟩
  rw [Store.get_set_ne h.ne]
  exact h.hk
theorem RdR.keep {S1 : Store} (h : RdR S r k ts rest d) (h1 : S1.get r = S.get r) (h2 : S1.get k = S.get k) : RdR S1 r k ts rest d := by
  obtain ⟨pre, e, hg⟩ := h.pre
  exact ⟨⟨pre, e, by rw [h1]; exact hg⟩, by rw [h2]; exact h.hk, h.ne, h.st, h.tx, h.ln, h.wl, h.sm⟩
theorem RdR.push {o : Ob} (h : RdR S r k ts rest d) : RdR (S.push o) r k ts rest d := h.keep (Store.get_push_lt h.r_lt) (Store.get_push_lt h.k_lt)
theorem RdR.set_other {j : Nat} {o : Ob} (h : RdR S r k ts rest d) (n1 : j ≠ r) (n2 : j ≠ k) : RdR (S.set j o) r k ts rest d := h.keep (Store.get_set_ne n1) (Store.get_set_ne n2)
theorem pre_uniq {p q : List Tok} (h : p ++ rest = q ++ rest) : p = q := List.append_cancel_right h
theorem attr_fld {c fi : Nat} {fs : List (Nat × D)} {ad : ADisp} {v : D} (h : S.get r = some (.ins c fs)) (ha : ad c = some none) (hl : fs.lookup fi = some v) : attrF ad fi (.ref r) S = .ok v S := by
  unfold attrF
  simp only [h, ha, hl]
theorem meth_ev {c fi : Nat} {fs : List (Nat × D)} {ds : Disp} {g : FN} {mo : ME} {ma : MA} {σ : En} {S1 : Store} (h0 : mo σ S = .ok (.ref r) S1) (h : S1.get r = some (.ins c fs)) (ha : ds c = some g) (hl : fs.lookup fi = none) :
    eMeth ds fi mo ma σ S = (ma σ S1).bind fun xs S2 => g (.ref r :: xs) S2 := by
  unfold eMeth
  rw [h0, bind_ok']
  simp only [h, ha, hl]
/-- a method of the reader -/
theorem rd_meth {fi : Nat} {ds : Disp} {g : FN} {mo : ME} {ma : MA} {σ : En} (H : RdR S r k ts rest d) (h0 : mo σ S = .ok (.ref r) S) (ha : ds 0 = some g) (hl : ∀ k i d : D, [(0, k), (1, i), (2, d)].lookup fi = none) :
    eMeth ds fi mo ma σ S = (ma σ S).bind fun xs S2 => g (.ref r :: xs) S2 := by
  obtain ⟨pre, _, hg⟩ := H.pre
  exact meth_ev h0 hg ha (hl _ _ _)
theorem k_cur {m : Nat} {mo : ME} {ma : MA} {σ : En} (H : RdR S r k ts rest d) (h0 : mo σ S = .ok (.ref r) S) : eMeth (me_current (run m)) 3 mo ma σ S = (ma σ S).bind fun xs S2 => run m 8 (.ref r :: xs) S2 := rd_meth H h0 rfl fun _ _ _ => rfl
theorem k_isn {m : Nat} {mo : ME} {ma : MA} {σ : En} (H : RdR S r k ts rest d) (h0 : mo σ S = .ok (.ref r) S) : eMeth (me_is_next (run m)) 4 mo ma σ S = (ma σ S).bind fun xs S2 => run m 9 (.ref r :: xs) S2 := rd_meth H h0 rfl fun _ _ _ => rfl
theorem k_acc {m : Nat} {mo : ME} {ma : MA} {σ : En} (H : RdR S r k ts rest d) (h0 : mo σ S = .ok (.ref r) S) : eMeth (me_accept (run m)) 5 mo ma σ S = (ma σ S).bind fun xs S2 => run m 10 (.ref r :: xs) S2 := rd_meth H h0 rfl fun _ _ _ => rfl
theorem k_exp {m : Nat} {mo : ME} {ma : MA} {σ : En} (H : RdR S r k ts rest d) (h0 : mo σ S = .ok (.ref r) S) : eMeth (me_expect (run m)) 15 mo ma σ S = (ma σ S).bind fun xs S2 => run m 11 (.ref r :: xs) S2 := rd_meth H h0 rfl fun _ _ _ => rfl
theorem k_nam {m : Nat} {mo : ME} {ma : MA} {σ : En} (H : RdR S r k ts rest d) (h0 : mo σ S = .ok (.ref r) S) : eMeth (me_read_name (run m)) 8 mo ma σ S = (ma σ S).bind fun xs S2 => run m 12 (.ref r :: xs) S2 := rd_meth H h0 rfl fun _ _ _ => rfl
theorem k_fac {m : Nat} {mo : ME} {ma : MA} {σ : En} (H : RdR S r k ts rest d) (h0 : mo σ S = .ok (.ref r) S) : eMeth (me_read_factor (run m)) 9 mo ma σ S = (ma σ S).bind fun xs S2 => run m 13 (.ref r :: xs) S2 := rd_meth H h0 rfl fun _ _ _ => rfl
theorem k_ter {m : Nat} {mo : ME} {ma : MA} {σ : En} (H : RdR S r k ts rest d) (h0 : mo σ S = .ok (.ref r) S) : eMeth (me_read_term (run m)) 11 mo ma σ S = (ma σ S).bind fun xs S2 => run m 14 (.ref r :: xs) S2 := rd_meth H h0 rfl fun _ _ _ => rfl
theorem k_pow {m : Nat} {mo : ME} {ma : MA} {σ : En} (H : RdR S r k ts rest d) (h0 : mo σ S = .ok (.ref r) S) : eMeth (me_read_power (run m)) 10 mo ma σ S = (ma σ S).bind fun xs S2 => run m 15 (.ref r :: xs) S2 := rd_meth H h0 rfl fun _ _ _ => rfl
theorem k_sum {m : Nat} {mo : ME} {ma : MA} {σ : En} (H : RdR S r k ts rest d) (h0 : mo σ S = .ok (.ref r) S) : eMeth (me_read_sum (run m)) 12 mo ma σ S = (ma σ S).bind fun xs S2 => run m 16 (.ref r :: xs) S2 := rd_meth H h0 rfl fun _ _ _ => rfl
theorem k_siz {m : Nat} {mo : ME} {ma : MA} {σ : En} (H : RdR S r k ts rest d) (h0 : mo σ S = .ok (.ref r) S) : eMeth (me_read_size (run m)) 17 mo ma σ S = (ma σ S).bind fun xs S2 => run m 17 (.ref r :: xs) S2 := rd_meth H h0 rfl fun _ _ _ => rfl
theorem k_frm {m : Nat} {mo : ME} {ma : MA} {σ : En} (H : RdR S r k ts rest d) (h0 : mo σ S = .ok (.ref r) S) : eMeth (me_read_form (run m)) 16 mo ma σ S = (ma σ S).bind fun xs S2 => run m 18 (.ref r :: xs) S2 := rd_meth H h0 rfl fun _ _ _ => rfl
theorem k_blk {m : Nat} {mo : ME} {ma : MA} {σ : En} (H : RdR S r k ts rest d) (h0 : mo σ S = .ok (.ref r) S) : eMeth (me_read_block (run m)) 18 mo ma σ S = (ma σ S).bind fun xs S2 => run m 19 (.ref r :: xs) S2 := rd_meth H h0 rfl fun _ _ _ => rfl
theorem k_stm {m : Nat} {mo : ME} {ma : MA} {σ : En} (H : RdR S r k ts rest d) (h0 : mo σ S = .ok (.ref r) S) : eMeth (me_read_statement (run m)) 13 mo ma σ S = (ma σ S).bind fun xs S2 => run m 20 (.ref r :: xs) S2 := rd_meth H h0 rfl fun _ _ _ => rfl
theorem k_lop {m : Nat} {mo : ME} {ma : MA} {σ : En} (H : RdR S r k ts rest d) (h0 : mo σ S = .ok (.ref r) S) : eMeth (me_read_loop (run m)) 14 mo ma σ S = (ma σ S).bind fun xs S2 => run m 21 (.ref r :: xs) S2 := rd_meth H h0 rfl fun _ _ _ => rfl
theorem k_opn {m : Nat} {mo : ME} {ma : MA} {σ : En} (H : RdR S r k ts rest d) (h0 : mo σ S = .ok (.ref r) S) : eMeth (me_read_open_block (run m)) 19 mo ma σ S = (ma σ S).bind fun xs S2 => run m 23 (.ref r :: xs) S2 := rd_meth H h0 rfl fun _ _ _ => rfl
theorem k_prg {m : Nat} {mo : ME} {ma : MA} {σ : En} (H : RdR S r k ts rest d) (h0 : mo σ S = .ok (.ref r) S) : eMeth (me_read_program (run m)) 21 mo ma σ S = (ma σ S).bind fun xs S2 => run m 24 (.ref r :: xs) S2 := rd_meth H h0 rfl fun _ _ _ => rfl
theorem cur_ok (H : RdR S r k ts (t :: rest) d) : run (n + 1) 8 [.ref r] S = .ok t.d S := by
  obtain ⟨pre, e, hg⟩ := H.pre
  rw [run_8]
  unfold m_8
  have e1 : attrF (at_tokens (run n)) 0 (.ref r) S = .ok (.ref k) S := attr_fld hg rfl rfl
  have e2 : attrF (at_at (run n)) 1 (.ref r) S = .ok (.int (pre.length : Int)) S := attr_fld hg rfl rfl
  have e3 : itemF (.ref k) (.int (pre.length : Int)) S = .ok t.d S := itemF_seq (seqAt_list (listAt_ref H.hk)) (atI_nat (by rw [e]; simp))
  simp only [sRet_ev, eBin_ev, eUn_ev, eVar_0, bind_ok', e1, e2, e3, fin_rt]
theorem eq_two {own : Op2} {a b c e : List Nat} (h1 : Txt a) (h2 : Txt b) (h3 : Txt c) (h4 : Txt e) : eqF own (.tup [.str a, .str b]) (.tup [.str c, .str e]) S = .ok (.bl (a == c && b == e)) S := by
  simp [eqF, dat, mapO, SeqAt.shaped, PyData.canLay0, PyData.canLayAll0, PyData.depth, PyData.depthAll, PyData.eqv, PyData.eqvAll, str_beq, h1.ok, h2.ok, h3.ok, h4.ok]
theorem tMARK : Txt MARK := by unfold Txt; decide
theorem isn_ok {w : List Nat} (H : RdR S r k ts (t :: rest) d) (hw : Txt w) : run (n + 2) 9 [.ref r, .str w] S = .ok (.bl (t.is w)) S := by
  obtain ⟨pre, e, hg⟩ := H.pre
  have ht := H.tx t (by rw [e]; simp)
  rw [run_9]
  unfold m_9
  have e1 := cur_ok (n := n) H
  have e2 : sliceF t.d none (some 2) S = .ok (.tup [.str t.k, .str t.w]) S := rfl
  have e3 : oSome (eC (.int 2)) [some (.ref r), some (.str w)] S = .ok (some 2) S := rfl
  have e4 : oNone [some (.ref r), some (.str w)] S = .ok none S := rfl
  simp only [sRet_ev, eBin_ev, eSlice_ev, k_cur H eVar_0, aList_nil, bind_ok', e1, e3, e4, e2, eTup_ev, aList_cons, eC_ev, eVar_s, eVar_0, oEq, eq_two ht.k ht.w tMARK hw, fin_rt]
  rfl
theorem adv_ev {σ : En} {mo : ME} {pre : List Tok} (hg : S.get r = some (rdO k pre.length d)) (h0 : mo σ S = .ok (.ref r) S) : sFaug (· + ·) st_at 1 mo (eC (.int 1)) σ S = .nx σ (S.set r (rdO k (pre.length + 1) d)) := by
  unfold sFaug augR
  rw [h0, bind_ok']
  have e1 : fldInt st_at 1 (.ref r) S = some (r, 0, (pre.length : Int)) := by
    unfold fldInt
    simp only [hg, rdO]
    rfl
  have e2 : fldPut 1 r 0 (.int ((pre.length : Int) + 1)) S = some (S.set r (rdO k (pre.length + 1) d)) := by
    unfold fldPut
    simp only [hg, rdO]
    rfl
  simp only [e1, eC_ev, bind_ok', e2]
/-- accept -/
theorem acc_ok {w : List Nat} (H : RdR S r k ts rest d) (hw : Txt w) : (run (n + 3) 10 [.ref r, .str w] S).sat (fun v S' => (∃ rest', pAcc w rest = some rest' ∧ v = .bl true ∧ RdR S' r k ts rest' d ∧ Fr S S' r) ∨ (pAcc w rest = none ∧ v = .bl false ∧ S' = S)) E := by
  obtain ⟨t, rest, rfl⟩ := H.st.cons
  obtain ⟨pre, e, hg⟩ := H.pre
  rw [run_10]
  refine sat_fin ?_
  unfold m_10
  simp only [sat_seq, sat_if, tNot_ev, tTru_ev, k_isn H eVar_0, aList_cons, aList_nil, eVar_s, eVar_0, bind_ok', isn_ok (n := n) H hw, truD_bl, sat_ok, sat_ret, eC_ev, sat_next, pAcc]
  cases hi : t.is w with
  | false => exact .inr ⟨by simp, by first | rfl | trivial, by first | rfl | trivial⟩
  | true =>
    simp only [Bool.not_true, Bool.false_eq_true, if_false, adv_ev hg eVar_0, sat_nx, if_true]
    exact .inl ⟨rest, by first | rfl | trivial, by first | rfl | trivial, H.tail (Tok.is_go hi) e, Fr.set⟩
/-- what a method of the reader does -/
def SpQ {β : Type} (S0 : Store) (r k : Nat) (ts : List Tok) (d : Nat) (res : PR β) (V : β → D → Store → Prop) (v : D) (S' : Store) : Prop := ∃ b rest', res = .ok (b, rest') ∧ V b v S' ∧ RdR S' r k ts rest' d ∧ Fr S0 S' r
def SpE {β : Type} (res : PR β) (e : Xn) (_ : Store) : Prop := ∃ er, res = .error er ∧ e = perrX er
def SpW {β : Type} (S0 : Store) (r k : Nat) (ts : List Tok) (d : Nat) (res : PR β) (V : β → D → Store → Prop) : Wt := ⟨fun _ S' => SpQ S0 r k ts d res V .non S', SpQ S0 r k ts d res V, SpE res, fun _ _ => False, fun _ _ => False⟩
def Sp {β : Type} (S0 : Store) (r k : Nat) (ts : List Tok) (d : Nat) (res : PR β) (V : β → D → Store → Prop) (x : Res D) : Prop := x.sat (SpQ S0 r k ts d res V) (SpE res)
theorem sp_fin {β : Type} {S0 : Store} {res : PR β} {V : β → D → Store → Prop} {x : RS} (h : x.sat (SpW S0 r k ts d res V)) : Sp S0 r k ts d res V (fin x) := sat_fin h
theorem truth_of {c : Bool} : truD S (.bl c) = some c := rfl
theorem exp_ok {w : List Nat} (H : RdR S r k ts rest d) (hw : Txt w) : Sp S r k ts d (pExp w rest) (fun _ _ _ => True) (run (n + 4) 11 [.ref r, .str w] S) := by
  unfold Sp
  rw [run_11]
  refine sat_fin ?_
  unfold m_11
  simp only [sat_if, tNot_ev, tTru_ev, k_acc H eVar_0, aList_cons, aList_nil, eVar_s, eVar_0, bind_ok', sat_bind]
  refine (acc_ok (n := n) H hw).mono fun v S' hv => ?_
  obtain ⟨t, q, rfl⟩ := H.st.cons
  rcases hv with ⟨rest', e, rfl, H', f⟩ | ⟨e, rfl, rfl⟩
  · simp only [truD_bl, sat_ok, Bool.not_true, Bool.false_eq_true, if_false, sat_next]
    simp only [pAcc] at e
    by_cases hi : t.is w = true
    · rw [if_pos hi] at e
      cases e
      exact ⟨(), _, by simp only [pExp, hi, if_true], trivial, H', f⟩
    · rw [if_neg hi] at e
      cases e
  · simp only [truD_bl, sat_ok, Bool.not_false, if_true, sat_raise, eBin_ev, k_cur H eVar_0, aList_nil, bind_ok', cur_ok (n := n + 2) H, eC_ev]
    have e3 : itemF t.d (.int 2) S' = .ok (.int (t.p : Int)) S' := rfl
    simp only [e3, sat_ok]
    simp only [pAcc] at e
    by_cases hi : t.is w = true
    · rw [if_pos hi] at e
      cases e
    · exact ⟨.syn t.p, by simp only [pExp, hi, if_false, Bool.false_eq_true], rfl⟩
theorem tNAME : Txt NAME := by unfold Txt; decide
theorem tNUMB : Txt NUMB := by unfold Txt; decide
theorem tEND : Txt ENDW := by unfold Txt; decide
theorem tn : Txt [110] := by unfold Txt; decide
theorem tstar : Txt [42] := by unfold Txt; decide
theorem tplus : Txt [43] := by unfold Txt; decide
theorem tminus : Txt [45] := by unfold Txt; decide
theorem gt3 {t : Tok} {i j l : Nat} {σ : En} : gTup [gName i, gName j, gName l] t.d σ S = .ok (((σ.set i (some (.str t.k))).set j (some (.str t.w))).set l (some (.int (t.p : Int)))) S := rfl
theorem nam_ok (H : RdR S r k ts rest d) : Sp S r k ts d (pName rest) (fun w v _ => v = .str w ∧ Txt w) (run (n + 2) 12 [.ref r] S) := by
  obtain ⟨t, rest, rfl⟩ := H.st.cons
  obtain ⟨pre, e, hg⟩ := H.pre
  have ht := H.tx t (by rw [e]; simp)
  unfold Sp
  rw [run_12]
  refine sat_fin ?_
  unfold m_12
  simp only [sat_seq, sat_asg, k_cur H eVar_0, aList_nil, bind_ok', cur_ok (n := n) H, sat_ok, gt3, List.set_cons_succ, List.set_cons_zero, sat_if, tOf_ev, eBin_ev, eVar_s, eVar_0, eC_ev, oNe, neF_str ht.k tNAME, sat_raise, sat_next, pName]
  cases hi : t.k == NAME with
  | false => simp only [Bool.not_false, if_true]; exact ⟨.syn t.p, rfl, rfl⟩
  | true =>
    simp only [Bool.not_true, Bool.false_eq_true, if_false, adv_ev hg eVar_0, sat_nx, sat_ret, eVar_s, eVar_0, sat_ok]
    exact ⟨t.w, rest, rfl, ⟨rfl, ht.w⟩, H.tail (not_ends (beq_iff_eq.mp hi) (by decide) (by decide)) e, Fr.set⟩
end
end L2.Mi.Pg

set_option Elab.async false
set_option linter.all false
set_option maxRecDepth 100000
set_option maxHeartbeats 1000000
/-! The reader of texts, 2: factors, terms. From the template RD2. -/
namespace L2.Mi.Pg
open PySem
section
variable {S : Store} {r k : Nat} {ts rest : List Tok} {d n : Nat} {t : Tok} {named : Bool}
structure FacOk (named : Bool) (x : Fac) : Prop where
  tx : ∀ w, x = .ctr w → Txt w ∧ w ≠ [110] ∧ named = true
theorem int_text {w : List Nat} {v : Int} (h : PySem.intText? ⟨w.toArray⟩ = some v) (hl : w.length ≤ 150) : fnOr intF intT [.str w] S = .ok (.int v) S := by
  have e1 : intF [.str w] S = .bad := rfl
  unfold fnOr orB intT
  rw [e1]
  simp only [h]
  rw [if_pos (by omega)]
theorem fac_ok (H : RdR S r k ts rest d) : Sp S r k ts d (pFac named rest) (fun x v _ => v = x.d ∧ FacOk named x) (run (n + 4) 13 [.ref r, .bl named] S) := by
  obtain ⟨t, rest, rfl⟩ := H.st.cons
  obtain ⟨pre, e, hg⟩ := H.pre
  have ht := H.tx t (by rw [e]; simp)
  unfold Sp
  rw [run_13]
  refine sat_fin ?_
  unfold m_13
  simp only [sat_seq, sat_asg, k_cur H eVar_0, aList_nil, bind_ok', cur_ok (n := n + 2) H, sat_ok, gt3, List.set_cons_succ, List.set_cons_zero, sat_if, tOf_ev, eBin_ev, eVar_s, eVar_0, eC_ev, oEq, eqF_str ht.k tNUMB, sat_next, pFac]
  cases h1 : t.k == NUMB with
  | true =>
    have kn : t.k = NUMB := beq_iff_eq.mp h1
    simp only [if_true]
    by_cases hl : 150 < t.w.length
    · by_cases hb : t.w.length ≤ 900000
      · simp only [eFn_ev, aList_cons, aList_nil, eVar_s, eVar_0, bind_ok', lenF_str hb, gtI_ev, decide_eq_true (show (150 : Int) < (t.w.length : Int) by omega), sat_ok, if_true, sat_raise, hl]
        exact ⟨.big NUMBERS, rfl, rfl⟩
      · exact absurd (H.wl t (by rw [e]; simp)) (by omega)
    · obtain ⟨v, hv⟩ := ht.v kn (by omega)
      simp only [eFn_ev, aList_cons, aList_nil, eVar_s, eVar_0, bind_ok', lenF_str (show t.w.length ≤ 900000 by omega), gtI_ev, decide_eq_false (show ¬ (150 : Int) < (t.w.length : Int) by omega), sat_ok, Bool.false_eq_true, if_false, adv_ev hg eVar_0, sat_nx, sat_ret, int_text hv (show t.w.length ≤ 150 by omega), hl]
      refine ⟨.num (numV t.w), rest, rfl, ⟨?_, ⟨fun w z => by cases z⟩⟩, H.tail (not_ends kn (by decide) (by decide)) e, Fr.set⟩
      unfold numV Fac.d
      rw [hv]
      rfl
  | false =>
    simp only [Bool.false_eq_true, if_false, tTru_ev, k_acc H eVar_0, aList_cons, aList_nil, eC_ev, bind_ok', sat_bind]
    refine (acc_ok (n := n) H tn).mono fun v S' hv => ?_
    simp only [pAcc] at hv
    rcases hv with ⟨rest', e1, rfl, H', f⟩ | ⟨e1, rfl, rfl⟩
    · by_cases hi : t.is [110] = true
      · rw [if_pos hi] at e1
        cases e1
        simp only [truD_bl, sat_ok, if_true, sat_ret, eC_ev, hi]
        exact ⟨.nn, _, rfl, ⟨rfl, ⟨fun w z => by cases z⟩⟩, H', f⟩
      · rw [if_neg hi] at e1
        cases e1
    · by_cases hi : t.is [110] = true
      · rw [if_pos hi] at e1
        cases e1
      · have hi2 : t.is [110] = false := by simpa using hi
        simp only [truD_bl, sat_ok, Bool.false_eq_true, if_false, sat_next, sat_if, tNot_ev, tTru_ev, eVar_s, eVar_0, bind_ok', hi2]
        cases named with
        | false =>
          simp only [Bool.not_false, if_true, sat_raise, eVar_s, eVar_0, sat_ok, Bool.false_eq_true, if_false]
          exact ⟨.syn t.p, rfl, rfl⟩
        | true =>
          simp only [Bool.not_true, Bool.false_eq_true, if_false, sat_next, sat_ret, k_nam H eVar_0, aList_nil, bind_ok', if_true]
          refine (nam_ok (n := n + 1) H).imp (fun v S' ⟨w, rest', e2, ⟨hv, hw⟩, H', f⟩ => ?_) fun x S' ⟨er, e2, hx⟩ => ?_
          · simp only [pName] at e2
            by_cases hk : (t.k == NAME) = true
            · rw [if_pos hk] at e2
              cases e2
              rw [if_pos hk]
              exact ⟨.ctr t.w, _, rfl, ⟨hv, ⟨fun w z => by cases z; exact ⟨hw, ht.n (beq_iff_eq.mp hk), rfl⟩⟩⟩, H', f⟩
            · rw [if_neg hk] at e2
              cases e2
          · simp only [pName] at e2
            by_cases hk : (t.k == NAME) = true
            · rw [if_pos hk] at e2
              cases e2
            · rw [if_neg hk] at e2
              rw [if_neg hk]
              cases e2
              exact ⟨_, rfl, hx⟩
theorem pow_ok (H : RdR S r k ts rest d) : Sp S r k ts d (pPow named rest) (fun x v _ => v = x.d ∧ FacOk named x) (run (n + 5) 15 [.ref r, .bl named] S) := by
  obtain ⟨t, rest, rfl⟩ := H.st.cons
  obtain ⟨pre, e, hg⟩ := H.pre
  have ht := H.tx t (by rw [e]; simp)
  unfold Sp
  rw [run_15]
  refine sat_fin ?_
  unfold m_15
  have e0 : itemF t.d (.int 0) S = .ok (.str t.k) S := rfl
  have e2 : itemF t.d (.int 2) S = .ok (.int (t.p : Int)) S := rfl
  simp only [sat_seq, sat_if, tOf_ev, eBin_ev, k_cur H eVar_0, aList_nil, bind_ok', cur_ok (n := n + 3) H, eC_ev, e0, oEq, eqF_str ht.k tNUMB, sat_ok, sat_raise, e2, sat_next, pPow]
  cases h1 : t.k == NUMB with
  | true => simp only [if_true]; exact ⟨.syn t.p, rfl, rfl⟩
  | false =>
    simp only [Bool.false_eq_true, if_false, sat_ret, k_fac H eVar_0, aList_cons, aList_nil, eVar_s, eVar_0, bind_ok']
    exact fac_ok (n := n) H
/-! ### terms -/
theorem isi_fac {x : Fac} : isiF isiL [x.d, .ty "str"] S = .ok (.bl (match x with | .num _ => false | _ => true)) S := by
  cases x <;> kernel_rfl
theorem eq_n {x : Fac} (h : FacOk named x) : oEq (run n) x.d (.str [110]) S = .ok (.bl (match x with | .nn => true | _ => false)) S := by
  cases x with
  | num v =>
    simp [oEq, Fac.d, eqF, dat, SeqAt.shaped, PyData.canLay0, PyData.depth, PyData.eqv, tn.ok]
  | nn => exact eqF_str tn tn
  | ctr w =>
    obtain ⟨h1, h2, _⟩ := h.tx w rfl
    have e : (w == [110]) = false := beq_eq_false_iff_ne.mpr h2
    unfold oEq Fac.d
    rw [eqF_str h1 tn, e]
theorem last_it {S : Store} {q : Nat} {fs : List Fac} {x : Fac} (h : S.get q = some (.lst ((fs ++ [x]).map Fac.d))) : itemF (.ref q) (.int (-1)) S = .ok x.d S := by
  refine itemF_seq (seqAt_list (listAt_ref h)) ?_
  unfold L2.atI L2.ixN
  rw [List.length_map, List.length_append, List.length_singleton, if_neg (by omega), if_pos (by omega)]
  have e : (((-1 : Int) + ((fs.length + 1 : Nat) : Int))).toNat = fs.length := by omega
  simp only [e, Option.bind_some, List.map_append, List.map_cons, List.map_nil]
  rw [List.getElem?_append_right (by simp)]
  simp
def tTest (call : Nat → FN) : MT := tOr (tNot (tTru (eFn (isiF isiL) (aList [eBin itemF (eVar 6) (eUn (oNeg call) (eC (.int 1))), eC (.ty "str")])))) (tOf (eBin (oEq call) (eBin itemF (eVar 6) (eUn (oNeg call) (eC (.int 1)))) (eC (.str [110]))))
theorem tTest_ev {q : Nat} {fs : List Fac} {x : Fac} {o0 o1 o2 o3 o4 o5 o7 : Option D} (h : S.get q = some (.lst ((fs ++ [x]).map Fac.d))) (hx : FacOk named x) : tTest (run n) [o0, o1, o2, o3, o4, o5, some (.ref q), o7] S = .ok (!x.stop) S := by
  unfold tTest
  simp only [tOr_ev, tNot_ev, tTru_ev, eFn_ev, aList_cons, aList_nil, eBin_ev, eVar_s, eVar_0, eUn_ev, eC_ev, bind_ok', oNeg, negF_ev, last_it h, isi_fac, truD_bl, tOf_ev, eq_n hx]
  cases x <;> rfl
def tLoop (call : Nat → FN) : MS := sSeq (sIf (tNot (tTru (eMeth (me_accept call) 5 (eVar 0) (aList [eC (.str [42])])))) (sBreak) (sNext))
    (sSeq (sSet 7 (eMeth (me_read_power call) 10 (eVar 0) (aList [eVar 1])))
    (sDrop (eBm isLst appendF (eVar 6) (aList [eVar 7]))))
def tFor (call : Nat → FN) : MS := sIf (tOf (eBin (oEq call) (eVar 7) (eC (.str [110])))) (sAug 3 addI (eC (.int 1))) (sIf (tTru (eFn (isiF isiL) (aList [eVar 7, eC (.ty "str")]))) (sSet 4 (eVar 7)) (sSet 2 (eVar 7)))
def tTail (call : Nat → FN) : MS := sSeq (sFor (iOr (iSeq (eVar 6)) (iTxt (eVar 6))) (gName 7) (tFor call) 100000)
    (sSeq (sIf (tOf (eBin gtI (eVar 3) (eC (.int 3)))) (sRaise 3 7 (eC (.str DEGREE))) (sNext))
    (sRet (eTup [eVar 4, eVar 3, eVar 2])))
theorem m_ter (call : Nat → FN) : m_14 call = sSeq (sAsg (eTup [eC (.int 1), eC (.int 0), eC (.str [])]) (gTup [gName 2, gName 3, gName 4]))
    (sSeq (sSet 5 (eMeth (me_read_factor call) 9 (eVar 0) (aList [eVar 1])))
    (sSeq (sSet 6 (eLst [eVar 5]))
    (sSeq (sWhile (tTest call) (tLoop call) 100000) (tTail call)))) := rfl
structure TermOk (named : Bool) (t : Term) : Prop where
  tx : Txt t.c
  p : t.p ≤ 3
  n : named = false → t.c = []
def termD (t : Term) : D := .tup [.str t.c, .int (t.p : Int), .int t.v]
theorem foldl_snoc {t : Term} {fs : List Fac} {x : Fac} : (fs ++ [x]).foldl Term.add t = (fs.foldl Term.add t).add x := by
  rw [List.foldl_append]
  rfl
theorem tFor_ev {x : Fac} {T : Term} {o0 o1 o5 o6 : Option D} (hx : FacOk named x) : tFor (run n) [o0, o1, some (.int T.v), some (.int (T.p : Int)), some (.str T.c), o5, o6, some x.d] S = .nx [o0, o1, some (.int (T.add x).v), some (.int ((T.add x).p : Int)), some (.str (T.add x).c), o5, o6, some x.d] S := by
  unfold tFor
  simp only [sIf_ev, tOf_ev, eBin_ev, eVar_s, eVar_0, eC_ev, bind_ok', eq_n hx]
  cases x with
  | num v =>
    simp only [Bool.false_eq_true, if_false, tTru_ev, eFn_ev, aList_cons, aList_nil, eVar_s, eVar_0, eC_ev, bind_ok', isi_fac, truD_bl]
    rfl
  | nn =>
    simp only [if_true]
    rfl
  | ctr w =>
    simp only [Bool.false_eq_true, if_false, if_true, tTru_ev, eFn_ev, aList_cons, aList_nil, eVar_s, eVar_0, eC_ev, bind_ok', isi_fac, truD_bl]
    rfl
theorem add_ok {T : Term} {x : Fac} (hx : FacOk named x) (h : Txt T.c ∧ (named = false → T.c = [])) : Txt (T.add x).c ∧ (named = false → (T.add x).c = []) := by
  cases x with
  | num v => exact h
  | nn => exact h
  | ctr w =>
    obtain ⟨h1, _, h3⟩ := hx.tx w rfl
    exact ⟨h1, fun z => by rw [h3] at z; cases z⟩
abbrev VTerm (named : Bool) : Term → D → Store → Prop := fun t v _ => v = termD t ∧ TermOk named t
theorem ter_tail {S0 : Store} {q : Nat} {fs : List Fac} {rest0 : List Tok} {o5 o7 : Option D} (H : RdR S r k ts rest d) (fr : Fr S0 S r) (hg : S.get q = some (.lst (fs.map Fac.d))) (hall : ∀ z ∈ fs, FacOk named z) (hl : fs.length ≤ 90001)
    (hR : pTerm named rest0 = if 3 < (termOf fs).p then .error (.big DEGREE) else .ok (termOf fs, rest)) :
    (tTail (run n) [some (.ref r), some (.bl named), some (.int 1), some (.int 0), some (.str []), o5, some (.ref q), o7] S).sat (SpW S0 r k ts d (pTerm named rest0) (VTerm named)) := by
  unfold tTail
  rw [sat_seq]
  refine for_satP (fun ds σ S' => S' = S ∧ ∃ p z o, fs = p ++ z ∧ ds = z.map Fac.d ∧ σ = [some (.ref r), some (.bl named), some (.int (termOf p).v), some (.int ((termOf p).p : Int)), some (.str (termOf p).c), o5, some (.ref q), o] ∧ Txt (termOf p).c ∧ (named = false → (termOf p).c = []))
    (walkP_or1 (walk_ref (S1 := S) (by simp only [eVar_s, eVar_0]) hg)) (fun ds σ S' h => by rw [h.1]; exact hg) (by rw [List.length_map]; omega) ⟨rfl, [], fs, o7, rfl, rfl, rfl, (fun c hc => nomatch hc), fun _ => rfl⟩ ?_ ?_
  · rintro x ds σ S' ⟨rfl, p, z, o, e1, e2, rfl, h3, h4⟩
    cases z with
    | nil => cases e2
    | cons y z =>
      rw [List.map_cons] at e2
      cases e2
      have hy := hall y (by rw [e1]; simp)
      simp only [gName_ev, sat_ok, List.set_cons_succ, List.set_cons_zero, tFor_ev hy, sat_nx]
      have e5 : termOf (p ++ [y]) = (termOf p).add y := foldl_snoc
      exact ⟨trivial, p ++ [y], z, _, by simp [e1], rfl, by rw [e5], by rw [e5]; exact (add_ok hy ⟨h3, h4⟩).1, by rw [e5]; exact (add_ok hy ⟨h3, h4⟩).2⟩
  · rintro σ S' ⟨rfl, p, z, o, e1, e2, rfl, h3, h4⟩
    have ez : z = [] := by
      cases z with
      | nil => rfl
      | cons y z => cases e2
    subst ez
    rw [List.append_nil] at e1
    subst e1
    simp only [sat_seq, sat_if, tOf_ev, eBin_ev, eVar_s, eVar_0, eC_ev, bind_ok', gtI_ev, sat_ok, sat_raise, sat_next, sat_ret, eTup_ev, aList_cons, aList_nil]
    by_cases h : 3 < (termOf fs).p
    · rw [if_pos h] at hR
      simp only [decide_eq_true (show (3 : Int) < ((termOf fs).p : Int) by omega), if_true]
      exact ⟨.big DEGREE, hR, rfl⟩
    · rw [if_neg h] at hR
      simp only [decide_eq_false (show ¬ (3 : Int) < ((termOf fs).p : Int) by omega), Bool.false_eq_true, if_false]
      exact ⟨termOf fs, rest, hR, ⟨rfl, ⟨h3, by omega, h4⟩⟩, H, fr⟩
theorem RdR.len (H : RdR S r k ts rest d) : rest.length ≤ 90000 := by
  obtain ⟨p, e, _⟩ := H.pre
  have e2 := congrArg List.length e
  have := H.ln
  rw [List.length_append] at e2
  omega
theorem ter_ok (H : RdR S r k ts rest d) : Sp S r k ts d (pTerm named rest) (VTerm named) (run (n + 6) 14 [.ref r, .bl named] S) := by
  rw [run_14]
  refine sp_fin ?_
  rw [m_ter]
  have g0 : gTup [gName 2, gName 3, gName 4] (.tup [.int 1, .int 0, .str []]) [some (.ref r), some (.bl named), none, none, none, none, none, none] S = .ok [some (.ref r), some (.bl named), some (.int 1), some (.int 0), some (.str []), none, none, none] S := rfl
  simp only [sat_seq, sat_asg, eTup_ev, aList_cons, aList_nil, eC_ev, bind_ok', sat_ok, g0, sat_set, k_fac H eVar_0, eVar_s, eVar_0]
  refine (fac_ok (n := n + 1) H).imp (fun v S1 ⟨x, r1, e1, ⟨hv, hx⟩, H1, f1⟩ => ?_) fun x S' ⟨er, e1, hx⟩ => ⟨er, by simp only [pTerm, e1], hx⟩
  subst hv
  simp only [List.set_cons_succ, List.set_cons_zero, eLst_ev, aList_cons, aList_nil, eVar_s, eVar_0, bind_ok', sat_ok]
  -- the list of factors stands at q
  obtain ⟨q, hq⟩ : ∃ q, q = S1.size := ⟨_, rfl⟩
  have ne_r : q ≠ r := by have := H1.r_lt; omega
  have ne_k : q ≠ k := by have := H1.k_lt; omega
  have hS : S.size ≤ q := by have := f1.sz; omega
  have l1 := H1.len
  have hT : ∀ fs rest', pTermL named (r1.length + 1) x [x] r1 = .ok (fs, rest') → pTerm named rest = if 3 < (termOf fs).p then .error (.big DEGREE) else .ok (termOf fs, rest') := fun fs rest' e2 => by simp only [pTerm, e1, e2]
  have hE : ∀ er, pTermL named (r1.length + 1) x [x] r1 = .error er → pTerm named rest = .error er := fun er e2 => by simp only [pTerm, e1, e2]
  refine while_sat (fun j σ S' => ∃ fs y rest' o7, j = rest'.length ∧ σ = [some (.ref r), some (.bl named), some (.int 1), some (.int 0), some (.str []), some x.d, some (.ref q), o7] ∧
      S'.get q = some (.lst ((fs ++ [y]).map Fac.d)) ∧ (∀ z ∈ fs ++ [y], FacOk named z) ∧ RdR S' r k ts rest' d ∧ Fr S S' r ∧ (fs ++ [y]).length + rest'.length ≤ 90001 ∧
      ∃ f, rest'.length < f ∧ pTermL named f y (fs ++ [y]) rest' = pTermL named (r1.length + 1) x [x] r1) ?_ 100000 r1.length _ _ (by omega) ?_
  · rintro j σ S' ⟨fs, y, rest', o7, rfl, rfl, hg, hall, H', f', hb, f, hf, hR⟩
    have hy := hall y (by simp)
    rw [tTest_ev hg hy]
    obtain ⟨f, rfl⟩ : ∃ g, f = g + 1 := ⟨f - 1, by omega⟩
    rw [pTermL] at hR
    have hlen : (fs ++ [y]).length ≤ 90001 := by omega
    simp only [sat_ok]
    cases hst : y.stop with
    | true =>
      rw [hst, if_pos rfl] at hR
      simp only [Bool.not_true, Bool.false_eq_true, if_false]
      exact ter_tail H' f' hg hall hlen (hT _ _ hR.symm)
    | false =>
      rw [hst, if_neg Bool.false_ne_true] at hR
      simp only [Bool.not_false, if_true]
      unfold tLoop
      simp only [sat_seq, sat_if, tNot_ev, tTru_ev, k_acc H' eVar_0, aList_cons, aList_nil, eC_ev, bind_ok', sat_bind]
      refine (acc_ok (n := n + 2) H' tstar).mono fun v S2 hv => ?_
      rcases hv with ⟨r2, e2, rfl, H2, f2⟩ | ⟨e2, rfl, rfl⟩
      · rw [e2] at hR
        simp only [truD_bl, sat_ok, Bool.not_true, Bool.false_eq_true, if_false, sat_next, sat_set, k_pow H2 eVar_0, aList_cons, aList_nil, eVar_s, eVar_0, bind_ok']
        refine (pow_ok (n := n) H2).imp (fun v S3 ⟨z, r3, e3, ⟨hv, hz⟩, H3, f3⟩ => ?_) fun x2 S3 ⟨er, e3, hx2⟩ => ?_
        · subst hv
          have hg3 : S3.get q = some (.lst ((fs ++ [y]).map Fac.d)) := f3.get (f2.get hg ne_r) ne_r
          simp only [e3] at hR
          simp only [List.set_cons_succ, List.set_cons_zero, sat_drop, eBm_ev, eVar_s, eVar_0, bind_ok', isLst_ev hg3, if_true, aList_cons, aList_nil, appendF_ev hg3 (show ((fs ++ [y]).map Fac.d).length < 900000 by rw [List.length_map]; omega), sat_ok]
          have lt2 := (pAcc_goes H'.st e2).lt
          have lt3 := (pPow_goes H2.st e3).lt
          refine ⟨r3.length, by omega, fs ++ [y], z, r3, _, rfl, rfl, ?_, ?_, H3.set_other ne_r ne_k, (f'.trans (f2.trans f3)).set_new hS, ?_, f, by omega, hR⟩
          · rw [Store.get_set_same' hg3]
            simp
          · intro u hu
            rcases List.mem_append.mp hu with hu | hu
            · exact hall u hu
            · simp at hu
              rw [hu]
              exact hz
          · simp at hb ⊢
            omega
        · simp only [e3] at hR
          exact ⟨er, hE er hR.symm, hx2⟩
      · rw [e2] at hR
        simp only [truD_bl, sat_ok, Bool.not_false, if_true, sat_break]
        exact ter_tail H' f' hg hall hlen (hT _ _ hR.symm)
  · exact ⟨[], x, r1, none, rfl, by rw [hq]; rfl, by rw [hq]; exact Store.get_push_same, by simpa using hx, H1.push, f1.push_new, by simp; omega, _, Nat.lt_succ_self _, rfl⟩
end
end L2.Mi.Pg

set_option Elab.async false
set_option linter.all false
set_option maxRecDepth 100000
set_option maxHeartbeats 1000000
/-! The reader of texts, 3: parts_from. From the template RD3. -/
namespace L2.Mi.Pg
open PySem
/-! ### dicts from numbers to numbers -/
abbrev ZZ := List (Int × Int)
def ownD (kv : ZZ) : List (D × D) := kv.map fun q => (D.int q.1, D.int q.2)
def lookZ (kv : ZZ) (p : Int) : Option Int := (kv.find? fun q => q.1 == p).map (·.2)
def putZ (kv : ZZ) (p v : Int) : ZZ := if (kv.any fun q => q.1 == p) = true then kv.map (fun q => if q.1 == p then (q.1, v) else q) else kv ++ [(p, v)]
theorem val_own (p : Int) : ∀ kv : ZZ, valD (ownD kv) (.int p) = (lookZ kv p).map D.int
  | [] => rfl
  | q :: kv => by
    have ih := val_own p kv
    unfold valD lookZ ownD at ih ⊢
    rw [List.map_cons, List.find?_cons, List.find?_cons]
    simp only [eqKD_int]
    cases q.1 == p with
    | true => rfl
    | false => exact ih
theorem put_own (kv : ZZ) (p v : Int) : putD (ownD kv) (.int p) (.int v) = ownD (putZ kv p v) := by
  have e1 : ((ownD kv).any fun q => eqKD q.1 (.int p)) = kv.any fun q => q.1 == p := by
    unfold ownD
    rw [List.any_map]
    rfl
  unfold putD putZ
  rw [e1]
  by_cases h : (kv.any fun q => q.1 == p) = true
  · rw [if_pos h, if_pos h]
    unfold ownD
    rw [List.map_map, List.map_map]
    refine List.map_congr_left fun q _ => ?_
    simp only [Function.comp_apply, eqKD_int]
    by_cases z : (q.1 == p) = true <;> simp only [z, if_true, if_false, Bool.false_eq_true]
  · rw [if_neg h, if_neg h]
    unfold ownD
    rw [List.map_append]
    rfl
theorem lookZ_mem {kv : ZZ} {q : Int × Int} (h : q ∈ kv) : ∃ v, lookZ kv q.1 = some v := by
  unfold lookZ
  cases z : kv.find? fun x => x.1 == q.1 with
  | none => exact absurd (List.find?_eq_none.mp z q h) (by simp)
  | some x => exact ⟨x.2, rfl⟩
theorem putZ_mem {kv : ZZ} {p v : Int} {q : Int × Int} (h : q ∈ putZ kv p v) : q.1 = p ∨ ∃ x ∈ kv, x.1 = q.1 := by
  unfold putZ at h
  split at h
  · obtain ⟨x, hx, e⟩ := List.mem_map.mp h
    refine .inr ⟨x, hx, ?_⟩
    split at e <;> rw [← e]
  · rcases List.mem_append.mp h with h | h
    · exact .inr ⟨q, h, rfl⟩
    · simp at h
      exact .inl (by rw [h])
theorem putZ_len {kv : ZZ} {p v : Int} : (putZ kv p v).length ≤ kv.length + 1 := by
  unfold putZ
  split <;> simp
def nz (kv : ZZ) (p : Int) : Bool := match lookZ kv p with | some v => !(v == 0) | none => false
def maxZ (l : List Int) : Int := match l with | [] => -1 | a :: r => maxL a r
def keysNz (kv : ZZ) : List Int := (kv.map (·.1)).filter (nz kv)
def parts (kv : ZZ) : List Int := (List.range (maxZ (keysNz kv) + 1).toNat).map fun (p : Nat) => (lookZ kv (p : Int)).getD 0
structure OwnOk (kv : ZZ) : Prop where
  p : ∀ q ∈ kv, 0 ≤ q.1 ∧ q.1 ≤ 3
  l : kv.length ≤ 90001
theorem maxZ_le {kv : ZZ} (h : OwnOk kv) : -1 ≤ maxZ (keysNz kv) ∧ maxZ (keysNz kv) ≤ 3 := by
  unfold maxZ
  cases e : keysNz kv with
  | nil => constructor <;> simp
  | cons a r =>
    have hm := maxL_mem r a
    rw [← e] at hm
    unfold keysNz at hm
    obtain ⟨q, hq, e2⟩ := List.mem_map.mp (List.mem_filter.mp hm).1
    have := h.p q hq
    simp only
    rw [← e2]
    omega
theorem Store.set_same {S : Store} {j : Nat} {o : Ob} (h : S.get j = some o) : S.set j o = S := by
  have hl := Store.get_lt h
  unfold Store.get at h
  unfold Store.set
  obtain ⟨l⟩ := S
  simp only [Store.mk.injEq]
  refine List.ext_getElem? fun i => ?_
  by_cases hi : j = i
  · subst hi
    rw [List.getElem?_set_self hl]
    exact h.symm
  · rw [List.getElem?_set_ne hi]
section
variable {S : Store} {r k : Nat} {ts rest : List Tok} {d n : Nat} {t : Tok} {named : Bool}
theorem lockS_nx {i j : Nat} {m : MS} {σ σ1 : En} {S1 : Store} {kvs : List (D × D)} (h1 : σ[i]? = some (some (.ref j))) (h2 : S.get j = some (.dic false kvs)) (h : m σ (S.set j (.lck (.dic false kvs))) = .nx σ1 S1) : sLock i m σ S = .nx σ1 (S1.set j (.dic false kvs)) := by
  unfold sLock
  simp only [h1, h2, h]
def pComp (call : Nat → FN) : ME := eLcV (iKy (eVar 0)) (.one 2) (tOf (eBin (oNe call) (eBin dgetL (eVar 0) (eVar 2)) (eC (.int 0)))) (eVar 2) [2] 100000
def pTup (call : Nat → FN) : ME := eLcV (iRange1 (eBin (oAdd call) (eMaxD (eVar 1) (eUn (oNeg call) (eC (.int 1)))) (eC (.int 1)))) (.one 2) (tYesM) (eDget2 (eVar 0) (eVar 2) (eC (.int 0))) [2] 100000
theorem m_par (call : Nat → FN) : m_6 call = sSeq (sLock 0 (sSet 1 (pComp call))) (sRet (eFn tupleF (aList [pTup call]))) := rfl
theorem asInts_ints (l : List Int) : asInts (l.map D.int) = some l := asInts_map l
theorem par_ok {j : Nat} {kv : ZZ} (hg : S.get j = some (.dic false (ownD kv))) (ho : OwnOk kv) : run (n + 1) 6 [.ref j] S = .ok (.tup ((parts kv).map D.int)) S := by
  rw [run_6, m_par]
  have hgl : (S.set j (.lck (.dic false (ownD kv)))).get j = some (.lck (.dic false (ownD kv))) := Store.get_set_same' hg
  have e1 : pComp (run n) [some (.ref j), none, none] (S.set j (.lck (.dic false (ownD kv)))) = .ok (.lv ((keysNz kv).map D.int)) (S.set j (.lck (.dic false (ownD kv)))) := by
    obtain ⟨src, s1, s2⟩ := walk_ky (σ := [some (.ref j), none, none]) (m := eVar 0) eVar_0 hgl
    have z := eLcV_list (t := .one 2) (mt := tOf (eBin (oNe (run n)) (eBin dgetL (eVar 0) (eVar 2)) (eC (.int 0)))) (me := eVar 2) (vs := [2]) (n := 100000) (fun q => match q with | .int p => nz kv p | _ => false) id s1 s2 (fun q hq => by
      obtain ⟨x, hx, rfl⟩ := List.mem_map.mp hq
      unfold ownD at hx
      obtain ⟨y, hy, rfl⟩ := List.mem_map.mp hx
      obtain ⟨v, hv⟩ := lookZ_mem hy
      refine ⟨[some (.ref j), none, some (.int y.1)], rfl, ?_, fun _ => rfl⟩
      have e2 : valD (ownD kv) (.int y.1) = some (.int v) := by rw [val_own, hv]; rfl
      have e3 : dgetL (.ref j) (.int y.1) (S.set j (.lck (.dic false (ownD kv)))) = .ok (.int v) _ := dgetL_ev hgl rfl e2
      simp only [tOf_ev, eBin_ev, eVar_s, eVar_0, bind_ok', e3, eC_ev, oNe, neF_int]
      simp [nz, hv]) (by simp [ownD]; have := ho.l; omega) (by simp [ownD]; have := ho.l; omega)
    unfold pComp
    rw [z]
    congr 2
    unfold keysNz ownD
    rw [List.map_id, List.map_map, List.filter_map, List.filter_map, List.map_map]
    rfl
  have e2 : sLock 0 (sSet 1 (pComp (run n))) [some (.ref j), none, none] S = .nx [some (.ref j), some (.lv ((keysNz kv).map D.int)), none] S := by
    have z := lockS_nx (i := 0) (m := sSet 1 (pComp (run n))) (σ := [some (.ref j), none, none]) (σ1 := [some (.ref j), some (.lv ((keysNz kv).map D.int)), none]) (S1 := S.set j (.lck (.dic false (ownD kv)))) rfl hg (by simp only [sAsg_ev, e1, gName_ev, List.set_cons_succ, List.set_cons_zero])
    rw [Store.set_set, Store.set_same hg] at z
    exact z
  have hm := maxZ_le ho
  have e3 : eMaxD (eVar 1) (eUn (oNeg (run n)) (eC (.int 1))) [some (.ref j), some (.lv ((keysNz kv).map D.int)), none] S = .ok (.int (maxZ (keysNz kv))) S := by
    unfold eMaxD
    simp only [eVar_s, eVar_0, bind_ok', eUn_ev, eC_ev, oNeg, negF_ev, listAt, asInts_ints]
    unfold maxZ
    cases keysNz kv <;> rfl
  have e4 : pTup (run n) [some (.ref j), some (.lv ((keysNz kv).map D.int)), none] S = .ok (.lv ((parts kv).map D.int)) S := by
    obtain ⟨src, s1, s2⟩ := walk_r1 (a := eBin (oAdd (run n)) (eMaxD (eVar 1) (eUn (oNeg (run n)) (eC (.int 1)))) (eC (.int 1))) (σ := [some (.ref j), some (.lv ((keysNz kv).map D.int)), none]) (S := S) (S1 := S) (j := maxZ (keysNz kv) + 1) (by
      simp only [eBin_ev, e3, bind_ok', eC_ev, oAdd, opOr, orB, addF_ev]) (by omega) (by omega)
    have z := eLcV_list (t := .one 2) (mt := tYesM) (me := eDget2 (eVar 0) (eVar 2) (eC (.int 0))) (vs := [2]) (n := 100000) (fun _ => true) (fun q => match q with | .int p => .int ((lookZ kv p).getD 0) | q => q) s1 s2 (fun q hq => by
      unfold ups at hq
      obtain ⟨x, hx, rfl⟩ := List.mem_map.mp hq
      refine ⟨[some (.ref j), some (.lv ((keysNz kv).map D.int)), some (.int (0 + (x : Int)))], rfl, rfl, fun _ => ?_⟩
      unfold eDget2
      simp only [eVar_s, eVar_0, bind_ok', dicK_ref hg, eC_ev, keyD, val_own]
      cases lookZ kv (0 + (x : Int)) <;> rfl) (by rw [ups_len]; omega) (by rw [ups_len]; omega)
    unfold pTup
    rw [z]
    congr 2
    unfold parts ups
    rw [List.filter_eq_self.mpr (fun _ _ => rfl), List.map_map, List.map_map]
    refine List.map_congr_left fun x _ => ?_
    simp
  simp only [sSeq_ev, e2, sRet_ev, eFn_ev, aList_cons, aList_nil, e4, bind_ok', tupleF_list (show listAt S (.lv ((parts kv).map D.int)) = some ((parts kv).map D.int) from rfl), fin_rt]
end
end L2.Mi.Pg

set_option Elab.async false
set_option linter.all false
set_option maxRecDepth 100000
set_option maxHeartbeats 1000000
/-! The reader of texts, 4: sums. From the template RD4. -/
namespace L2.Mi.Pg
open PySem
abbrev FL := List (List Nat × Nat)
def foundD (F : FL) : List (D × D) := F.map fun q => (D.str q.1, D.ref q.2)
theorem val_found {F : FL} {c : List Nat} {v : D} (h : valD (foundD F) (.str c) = some v) : ∃ q ∈ F, q.1 = c ∧ v = .ref q.2 := by
  obtain ⟨x, hx, e1, e2⟩ := valD_mem h
  unfold foundD at hx
  obtain ⟨q, hq, rfl⟩ := List.mem_map.mp hx
  rw [eqKD_str] at e1
  exact ⟨q, hq, beq_iff_eq.mp e1, e2.symm⟩
theorem put_none {kvs : List (D × D)} {k v : D} (h : valD kvs k = none) : putD kvs k v = kvs ++ [(k, v)] := by
  unfold putD
  rw [if_neg]
  intro z
  obtain ⟨q, hq, e⟩ := List.any_eq_true.mp z
  obtain ⟨u, hu⟩ := valD_some hq e
  rw [h] at hu
  cases hu
structure SumInv (S0 S : Store) (f : Nat) (F : FL) (acc : List (Int × Term)) (named : Bool) : Prop where
  hf : S.get f = some (.dic false (foundD F))
  f0 : S0.size ≤ f
  all : ∀ q ∈ F, Txt q.1 ∧ S0.size ≤ q.2 ∧ q.2 ≠ f ∧ ∃ kv, S.get q.2 = some (.dic false (ownD kv)) ∧ (∀ x ∈ kv, 0 ≤ x.1 ∧ x.1 ≤ 3) ∧ kv.length ≤ acc.length
  nm : named = false → ∀ q ∈ F, q.1 = []
  ln : F.length ≤ acc.length
  ne : acc ≠ [] → F ≠ []
  nil : acc = [] → F = []
  one : ∀ s t, acc = [(s, t)] → ∃ j, F = [(t.c, j)] ∧ S.get j = some (.dic false (ownD [((t.p : Int), s * t.v)]))
theorem SumInv.keep {S0 S S1 : Store} {f r : Nat} {F : FL} {acc : List (Int × Term)} {named : Bool} (h : SumInv S0 S f F acc named) (hr : r < S0.size) (fr : Fr S S1 r) : SumInv S0 S1 f F acc named := by
  have k : ∀ {j o}, S0.size ≤ j → S.get j = some o → S1.get j = some o := fun hj e => fr.get e (by omega)
  refine ⟨k h.f0 h.hf, h.f0, fun q hq => ?_, h.nm, h.ln, h.ne, h.nil, fun s t e => ?_⟩
  · obtain ⟨a1, a2, a3, kv, a4, a5⟩ := h.all q hq
    exact ⟨a1, a2, a3, kv, k a2 a4, a5⟩
  · obtain ⟨j, e1, e2⟩ := h.one s t e
    have := (h.all (t.c, j) (by rw [e1]; simp)).2.1
    exact ⟨j, e1, k this e2⟩
section
variable {S : Store} {r k : Nat} {ts rest : List Tok} {d n : Nat} {t : Tok} {named : Bool}
def sTest (call : Nat → FN) : MT := tOf (eBin (oNe call) (eVar 3) (eC (.int 0)))
def sSign (call : Nat → FN) : ME := eIf (tTru (eMeth (me_accept call) 5 (eVar 0) (aList [eC (.str [43])]))) (eC (.int 1)) (eIf (tTru (eMeth (me_accept call) 5 (eVar 0) (aList [eC (.str [45])]))) (eUn (oNeg call) (eC (.int 1))) (eC (.int 0)))
def sPut (call : Nat → FN) : MS := sDput (eVar 7) (eVar 5) (eBin (oAdd call) (eDget2 (eVar 7) (eVar 5) (eC (.int 0))) (eBin (oMul call) (eVar 3) (eVar 6)))
def sRest (call : Nat → FN) : MS := sSeq (sSet 7 (eDsetd (eVar 2) (eVar 4) (eDnew))) (sSeq (sPut call) (sSet 3 (sSign call)))
def sBody (call : Nat → FN) : MS := sSeq (sAsg (eMeth (me_read_term call) 11 (eVar 0) (aList [eVar 1])) (gTup [gName 4, gName 5, gName 6])) (sRest call)
theorem seq2_nx {a b c : MS} {σ σ' : En} {S S' : Store} (h : sSeq a b σ S = .nx σ' S') : sSeq a (sSeq b c) σ S = c σ' S' := by
  unfold sSeq at h ⊢
  cases q : a σ S with
  | nx σ1 S1 =>
    rw [q] at h
    simp only at h ⊢
    rw [h]
  | _ => rw [q] at h; cases h
def sTail (call : Nat → FN) : MS := sRet (eLock 2 (eDc (iKy (eVar 2)) (.one 4) (tYesM) (eVar 4) (eFn (call 6) (aList [eBin dgetL (eVar 2) (eVar 4)])) [4] 100000))
theorem m_sum (call : Nat → FN) : m_16 call = sSeq (sSet 2 (eDnew))
    (sSeq (sSet 3 (eIf (tTru (eMeth (me_accept call) 5 (eVar 0) (aList [eC (.str [45])]))) (eUn (oNeg call) (eC (.int 1))) (eC (.int 1))))
    (sSeq (sWhile (sTest call) (sBody call) 100000) (sTail call))) := rfl
abbrev GL := List (List Nat × List Int)
def gotD (G : GL) : List (D × D) := G.map fun x => (D.str x.1, D.tup (x.2.map D.int))
structure VSum (S0 : Store) (named : Bool) (tm : List (Int × Term)) (v : D) (S : Store) : Prop where
  ex : ∃ q G, v = .ref q ∧ S0.size ≤ q ∧ S.get q = some (.dic false (gotD G)) ∧ (∀ x ∈ G, Txt x.1) ∧ G.length ≤ tm.length ∧ G ≠ [] ∧ (named = false → ∀ x ∈ G, x.1 = []) ∧ (∀ s t, tm = [(s, t)] → G = [(t.c, parts [((t.p : Int), s * t.v)])])
theorem oAdd_int {i j : Int} : oAdd (run n) (.int i) (.int j) S = .ok (.int (i + j)) S := rfl
theorem oMul_int {i j : Int} (h : mulOk i j = true) : oMul (run n) (.int i) (.int j) S = .ok (.int (i * j)) S := by
  unfold oMul opOr
  rw [mulF_ev h]
  rfl
/-- own[power] = own.get(power, 0) + sign * number -/
theorem sPut_ev {j : Nat} {kv : ZZ} {p s v : Int} {o0 o1 o2 o4 : Option D} (hg : S.get j = some (.dic false (ownD kv))) (hl : kv.length ≤ 90001) (hs : s = 1 ∨ s = -1) :
    sPut (run n) [o0, o1, o2, some (.int s), o4, some (.int p), some (.int v), some (.ref j)] S = .nx [o0, o1, o2, some (.int s), o4, some (.int p), some (.int v), some (.ref j)] (S.set j (.dic false (ownD (putZ kv p ((lookZ kv p).getD 0 + s * v))))) := by
  have m : mulOk s v = true := mulOk_l (by rcases hs with h | h <;> omega) (by rcases hs with h | h <;> omega)
  have e1 : eDget2 (eVar 7) (eVar 5) (eC (.int 0)) [o0, o1, o2, some (.int s), o4, some (.int p), some (.int v), some (.ref j)] S = .ok (.int ((lookZ kv p).getD 0)) S := by
    unfold eDget2
    simp only [eVar_s, eVar_0, bind_ok', dicK_ref hg, eC_ev, keyD, val_own]
    cases lookZ kv p <;> rfl
  have e2 : ((ownD kv).length < lim) := by unfold ownD; rw [List.length_map]; have := lim_big; omega
  unfold sPut sDput
  simp only [eBin_ev, e1, bind_ok', eVar_s, eVar_0, oMul_int m, oAdd_int, dicK_ref hg, keyD]
  rw [if_pos e2, put_own]
/-- own = found.setdefault(counter, {}) -/
theorem setd_ev {S0 : Store} {f : Nat} {F : FL} {acc : List (Int × Term)} {T : Term} {o0 o1 o3 o5 o6 o7 : Option D} (hI : SumInv S0 S f F acc named) (hT : TermOk named T) (hl : acc.length ≤ 90000) :
    ∃ j F' S' kv, eDsetd (eVar 2) (eVar 4) eDnew [o0, o1, some (.ref f), o3, some (.str T.c), o5, o6, o7] S = .ok (.ref j) S' ∧ S'.get j = some (.dic false (ownD kv)) ∧ (∀ x ∈ kv, 0 ≤ x.1 ∧ x.1 ≤ 3) ∧ kv.length ≤ acc.length ∧ j ≠ f ∧ S0.size ≤ j ∧
      S'.get f = some (.dic false (foundD F')) ∧ (∀ q ∈ F', q.2 = j ∨ q ∈ F) ∧ (∀ q ∈ F', Txt q.1) ∧ (named = false → ∀ q ∈ F', q.1 = []) ∧ F'.length ≤ F.length + 1 ∧ F' ≠ [] ∧ (acc = [] → F' = [(T.c, j)] ∧ kv = []) ∧
      (∀ i o, i ≠ f → S.get i = some o → S'.get i = some o) ∧ S.size ≤ S'.size := by
  have hd := dicK_ref hI.hf
  have hfl := Store.get_lt hI.hf
  have hp : (S.push (.dic false [])).get f = some (.dic false (foundD F)) := by rw [Store.get_push_lt hfl]; exact hI.hf
  have hd2 := dicK_ref hp
  have hlen : (foundD F).length < lim := by unfold foundD; rw [List.length_map]; have := lim_big; have := hI.ln; omega
  unfold eDsetd
  simp only [eVar_s, eVar_0, bind_ok', hd, eDnew, hd2, keyD]
  rw [if_pos hlen]
  cases q : valD (foundD F) (.str T.c) with
  | some v =>
    obtain ⟨x, hx, e1, rfl⟩ := val_found q
    obtain ⟨a1, a2, a3, kv, a4, a5, a6⟩ := hI.all x hx
    refine ⟨x.2, F, _, kv, rfl, Store.get_push_some a4, a5, a6, a3, a2, hp, fun q hq => .inr hq, fun q hq => (hI.all q hq).1, hI.nm, by omega, (fun z => by rw [z] at hx; cases hx), (fun z => ?_), fun i o _ e => Store.get_push_some e, by rw [Store.size_push]; omega⟩
    rw [hI.nil z] at hx
    cases hx
  | none =>
    have ne : S.size ≠ f := by omega
    refine ⟨S.size, F ++ [(T.c, S.size)], _, [], rfl, ?_, (fun x hx => nomatch hx), Nat.zero_le _, ne, Nat.le_trans hI.f0 (Nat.le_of_lt hfl), ?_, ?_, ?_, ?_, by simp, by simp, (fun z => ⟨by rw [hI.nil z]; rfl, rfl⟩), ?_, by rw [Store.size_set, Store.size_push]; omega⟩
    · rw [Store.get_set_ne (Ne.symm ne), Store.get_push_same]
      rfl
    · rw [Store.get_set_same' hp, put_none q]
      unfold foundD
      rw [List.map_append]
      rfl
    · intro x hx
      rcases List.mem_append.mp hx with h | h
      · exact .inr h
      · simp at h
        exact .inl (by rw [h])
    · intro x hx
      rcases List.mem_append.mp hx with h | h
      · exact (hI.all x h).1
      · simp at h
        rw [h]
        exact hT.tx
    · intro z x hx
      rcases List.mem_append.mp hx with h | h
      · exact hI.nm z x h
      · simp at h
        rw [h]
        exact hT.n z
    · intro i o hi e
      rw [Store.get_set_ne (Ne.symm hi)]
      exact Store.get_push_some e
/-- the round of a term -/
theorem sum_round {S0 : Store} {f : Nat} {F : FL} {acc : List (Int × Term)} {T : Term} {s : Int} {o0 o1 o7 : Option D} (hI : SumInv S0 S f F acc named) (hT : TermOk named T) (hl : acc.length ≤ 90000) (hs : s = 1 ∨ s = -1) :
    ∃ F' S' j, (sSeq (sSet 7 (eDsetd (eVar 2) (eVar 4) (eDnew))) (sPut (run n)) [o0, o1, some (.ref f), some (.int s), some (.str T.c), some (.int (T.p : Int)), some (.int T.v), o7] S) = .nx [o0, o1, some (.ref f), some (.int s), some (.str T.c), some (.int (T.p : Int)), some (.int T.v), some (.ref j)] S' ∧
      SumInv S0 S' f F' (acc ++ [(s, T)]) named ∧ (∀ i o, i < S0.size → S.get i = some o → S'.get i = some o) ∧ S.size ≤ S'.size := by
  obtain ⟨j, F', S1, kv, e1, h1, h2, h3, h4, h5, h6, h7, h8, h9, h10, h11, h12, h13, h14⟩ := setd_ev (o0 := o0) (o1 := o1) (o3 := some (.int s)) (o5 := some (.int (T.p : Int))) (o6 := some (.int T.v)) (o7 := o7) hI hT hl
  have e2 := sPut_ev (n := n) (p := (T.p : Int)) (v := T.v) (o0 := o0) (o1 := o1) (o2 := some (.ref f)) (o4 := some (.str T.c)) h1 (show kv.length ≤ 90001 by omega) hs
  have e4 : sSet 7 (eDsetd (eVar 2) (eVar 4) eDnew) [o0, o1, some (.ref f), some (.int s), some (.str T.c), some (.int (T.p : Int)), some (.int T.v), o7] S = .nx [o0, o1, some (.ref f), some (.int s), some (.str T.c), some (.int (T.p : Int)), some (.int T.v), some (.ref j)] S1 := by
    simp only [sAsg_ev, e1, gName_ev]
    rfl
  refine ⟨F', _, j, by rw [sSeq_ev, e4]; exact e2, ?_, ?_, ?_⟩
  · generalize hw : (lookZ kv (T.p : Int)).getD 0 + s * T.v = w
    have hgj : (S1.set j (.dic false (ownD (putZ kv (T.p : Int) w)))).get j = some (.dic false (ownD (putZ kv (T.p : Int) w))) := Store.get_set_same' h1
    have pz : ∀ x ∈ putZ kv (T.p : Int) w, 0 ≤ x.1 ∧ x.1 ≤ 3 := fun x hx => by
      rcases putZ_mem hx with h | ⟨y, hy, h⟩
      · have := hT.p; omega
      · have := h2 y hy; omega
    refine ⟨by rw [Store.get_set_ne h4]; exact h6, hI.f0, fun q hq => ?_, h9, by simp; have := hI.ln; omega, fun _ => h11, fun z => absurd z (by simp), fun s2 t2 z => ?_⟩
    · by_cases hj : q.2 = j
      · refine ⟨h8 q hq, by omega, by omega, putZ kv (T.p : Int) w, by rw [hj]; exact hgj, pz, ?_⟩
        have := putZ_len (kv := kv) (p := (T.p : Int)) (v := w)
        simp
        omega
      · rcases h7 q hq with h | h
        · exact absurd h hj
        · obtain ⟨a1, a2, a3, kv2, a4, a5, a6⟩ := hI.all q h
          refine ⟨a1, a2, a3, kv2, ?_, a5, by simp; omega⟩
          rw [Store.get_set_ne (Ne.symm hj)]
          exact h13 _ _ a3 a4
    · have hnil : acc = [] := by
        cases acc with
        | nil => rfl
        | cons a acc => simp at z
      subst hnil
      simp at z
      obtain ⟨z1, z2⟩ := z
      obtain ⟨g1, g2⟩ := h12 rfl
      refine ⟨j, by rw [g1, z2], ?_⟩
      rw [hgj, g2, ← hw, g2, ← z1, ← z2]
      have e3 : (lookZ [] (T.p : Int)).getD 0 + s * T.v = s * T.v := by simp [lookZ]
      rw [e3]
      rfl
  · intro i o hi e
    rw [Store.get_set_ne (show j ≠ i by omega)]
    exact h13 i o (by have := hI.f0; omega) e
  · rw [Store.size_set]
    exact h14
end
end L2.Mi.Pg

set_option Elab.async false
set_option linter.all false
set_option maxRecDepth 100000
set_option maxHeartbeats 1000000
/-! The reader of texts, 5: read_sum, read_size. From the template RD5. -/
namespace L2.Mi.Pg
open PySem
def putG (G : GL) (c : List Nat) (ps : List Int) : GL := if (G.any fun q => q.1 == c) = true then G.map (fun q => if q.1 == c then (q.1, ps) else q) else G ++ [(c, ps)]
theorem put_got (G : GL) (c : List Nat) (ps : List Int) : putD (gotD G) (.str c) (.tup (ps.map D.int)) = gotD (putG G c ps) := by
  have e1 : ((gotD G).any fun q => eqKD q.1 (.str c)) = G.any fun q => q.1 == c := by
    unfold gotD
    rw [List.any_map]
    rfl
  unfold putD putG
  rw [e1]
  by_cases h : (G.any fun q => q.1 == c) = true
  · rw [if_pos h, if_pos h]
    unfold gotD
    rw [List.map_map, List.map_map]
    refine List.map_congr_left fun q _ => ?_
    simp only [Function.comp_apply, eqKD_str]
    by_cases z : (q.1 == c) = true <;> simp only [z, if_true, if_false, Bool.false_eq_true]
  · rw [if_neg h, if_neg h]
    unfold gotD
    rw [List.map_append]
    rfl
theorem putG_mem {G : GL} {c : List Nat} {ps : List Int} {q : List Nat × List Int} (h : q ∈ putG G c ps) : q.1 = c ∨ ∃ x ∈ G, x.1 = q.1 := by
  unfold putG at h
  split at h
  · obtain ⟨x, hx, e⟩ := List.mem_map.mp h
    refine .inr ⟨x, hx, ?_⟩
    split at e <;> rw [← e]
  · rcases List.mem_append.mp h with h | h
    · exact .inr ⟨q, h, rfl⟩
    · simp at h
      exact .inl (by rw [h])
theorem putG_len {G : GL} {c : List Nat} {ps : List Int} : (putG G c ps).length ≤ G.length + 1 := by
  unfold putG
  split <;> simp
theorem putG_ne {G : GL} {c : List Nat} {ps : List Int} : putG G c ps ≠ [] := by
  unfold putG
  split
  · rename_i h
    intro z
    have e : G = [] := by simpa using z
    rw [e] at h
    simp at h
  · simp
section
variable {S : Store} {r k : Nat} {ts rest : List Tok} {d n : Nat} {t : Tok} {named : Bool}
theorem sum_tail {S0 : Store} {f : Nat} {F : FL} {acc : List (Int × Term)} {rest0 : List Tok} {o0 o1 o3 o4 o5 o6 o7 : Option D} (hI : SumInv S0 S f F acc named) (H : RdR S r k ts rest d) (fr : Fr S0 S r) (hk : k < S0.size) (hl : acc.length ≤ 90000) (ha : acc ≠ []) (hR : pSum named rest0 = .ok (acc, rest)) :
    (sTail (run (n + 1)) [o0, o1, some (.ref f), o3, o4, o5, o6, o7] S).sat (SpW S0 r k ts d (pSum named rest0) (VSum S0 named)) := by
  have nr : f ≠ r := fun z => by
    obtain ⟨pre, _, e⟩ := H.pre
    rw [← z, hI.hf] at e
    cases e
  have nk : f ≠ k := by have := hI.f0; omega
  unfold sTail
  rw [sat_ret]
  refine lock_sat (n := f) rfl hI.hf ?_
  have hgl : (S.set f (.lck (.dic false (foundD F)))).get f = some (.lck (.dic false (foundD F))) := Store.get_set_same' hI.hf
  refine dc_sat (fun ds a2 S2 => S2 = S.set f (.lck (.dic false (foundD F))) ∧ ∃ p z G, F = p ++ z ∧ ds = z.map (fun q => D.str q.1) ∧ a2 = gotD G ∧ (∀ x ∈ G, Txt x.1) ∧ G.length ≤ p.length ∧ (p ≠ [] → G ≠ []) ∧ (named = false → ∀ x ∈ G, x.1 = []) ∧
      (∀ c j kv, F = [(c, j)] → S.get j = some (.dic false (ownD kv)) → p = F → G = [(c, parts kv)]) ∧ (p = [] → G = [])) (walk_ky (m := eVar 2) (by simp only [eVar_s, eVar_0]) hgl) ?_ ⟨rfl, [], F, [], rfl, ?_, rfl, (fun x hx => nomatch hx), Nat.le_refl _, (fun z => absurd rfl z), (fun _ x hx => nomatch hx), (fun c j kv e _ e2 => by rw [e] at e2; cases e2), fun _ => rfl⟩ ?_ ?_
  · unfold foundD
    simp
    have := hI.ln
    omega
  · unfold foundD
    rw [List.map_map]
    rfl
  · rintro x ds a2 S2 ⟨rfl, p, z, G, e1, e2, rfl, g1, g2, g3, g4, g5, g6⟩
    cases z with
    | nil => cases e2
    | cons q z =>
      rw [List.map_cons] at e2
      cases e2
      have hq : q ∈ F := by rw [e1]; simp
      refine ⟨[o0, o1, some (.ref f), o3, some (.str q.1), o5, o6, o7], rfl, ?_⟩
      have hmem : (D.str q.1, D.ref q.2) ∈ foundD F := List.mem_map.mpr ⟨q, hq, rfl⟩
      obtain ⟨v, hv⟩ := valD_some (k := .str q.1) hmem (by simp [eqKD_str])
      obtain ⟨y, hy, y1, rfl⟩ := val_found hv
      obtain ⟨a1, a2, a3, kv, a4, a5, a6⟩ := hI.all y hy
      have e3 : dgetL (.ref f) (.str q.1) (S.set f (.lck (.dic false (foundD F)))) = .ok (.ref y.2) _ := dgetL_ev hgl rfl hv
      have a4' : (S.set f (.lck (.dic false (foundD F)))).get y.2 = some (.dic false (ownD kv)) := by rw [Store.get_set_ne (Ne.symm a3)]; exact a4
      have e4 := par_ok (n := n) a4' ⟨a5, by omega⟩
      have e0 : tYesM [o0, o1, some (.ref f), o3, some (.str q.1), o5, o6, o7] (S.set f (.lck (.dic false (foundD F)))) = .ok true (S.set f (.lck (.dic false (foundD F)))) := rfl
      simp only [e0, sat_ok, if_true, eVar_s, eVar_0, eFn_ev, aList_cons, aList_nil, eBin_ev, bind_ok', e3, e4]
      refine ⟨⟨_, rfl⟩, ?_, trivial, p ++ [q], z, putG G q.1 (parts kv), by simp [e1], rfl, put_got _ _ _, ?_, ?_, fun _ => putG_ne, ?_, ?_, fun z => absurd z (by simp)⟩
      · unfold gotD
        rw [List.length_map]
        have e5 := congrArg List.length e1
        rw [List.length_append] at e5
        have := hI.ln
        have := lim_big
        omega
      · intro x hx
        rcases putG_mem hx with h | ⟨u, hu, h⟩
        · rw [h]; exact (hI.all q hq).1
        · rw [← h]; exact g1 u hu
      · have := putG_len (G := G) (c := q.1) (ps := parts kv)
        simp
        omega
      · intro zn x hx
        rcases putG_mem hx with h | ⟨u, hu, h⟩
        · rw [h]; exact hI.nm zn q hq
        · rw [← h]; exact g4 zn u hu
      · intro c j kv2 eF hj ep
        have hp : p = [] := by
          rw [eF] at e1
          cases p with
          | nil => rfl
          | cons b p => simp at e1
        rw [eF] at hy hq
        simp at hy hq
        have e6 : kv2 = kv := by
          rw [hy] at a4
          rw [a4] at hj
          have h7 : ownD kv = ownD kv2 := by simpa only [Option.some.injEq, Ob.dic.injEq, true_and] using hj
          have inj : ∀ a b : ZZ, ownD a = ownD b → a = b := by
            intro a
            induction a with
            | nil => intro b h; cases b with | nil => rfl | cons _ _ => cases h
            | cons u a ih =>
              intro b h
              cases b with
              | nil => cases h
              | cons w b =>
                unfold ownD at h
                rw [List.map_cons, List.map_cons] at h
                obtain ⟨u1, u2⟩ := u
                obtain ⟨w1, w2⟩ := w
                simp only [List.cons.injEq, Prod.mk.injEq, D.int.injEq] at h
                obtain ⟨⟨h1, h2⟩, h3⟩ := h
                rw [ih b h3, h1, h2]
          exact (inj _ _ h7).symm
        rw [g6 hp, e6, hq]
        rfl
  · rintro a2 S2 ⟨rfl, p, z, G, e1, e2, rfl, g1, g2, g3, g4, g5, g6⟩
    have ez : z = [] := by
      cases z with
      | nil => rfl
      | cons y z => cases e2
    subst ez
    rw [List.append_nil] at e1
    subst e1
    have hfl := Store.get_lt hI.hf
    have hsz : (S.set f (.lck (.dic false (foundD F)))).size = S.size := Store.size_set _ _ _
    have hr := H.r_lt
    have hkl := H.k_lt
    have keep : ∀ i, i ≠ f → i < S.size → (((S.set f (.lck (.dic false (foundD F)))).push (.dic false (gotD G))).set f (.dic false (foundD F))).get i = S.get i := fun i hi hl => by
      rw [Store.get_set_ne (Ne.symm hi), Store.get_push_lt (by rw [hsz]; exact hl), Store.get_set_ne (Ne.symm hi)]
    refine ⟨acc, rest, hR, ⟨S.size, G, by rw [hsz], by have := hI.f0; omega, ?_, g1, by have := hI.ln; omega, g3 (hI.ne ha), g4, fun s t e => ?_⟩, H.keep (keep r (Ne.symm nr) hr) (keep k (Ne.symm nk) hkl), ⟨?_, fun j hj nj => ?_⟩⟩
    · rw [Store.get_set_ne (by omega), ← hsz, Store.get_push_same]
    · obtain ⟨j, h1, h2⟩ := hI.one s t e
      exact g5 t.c j _ h1 h2 rfl
    · rw [Store.size_set, Store.size_push, hsz]
      have := fr.sz
      omega
    · rw [keep j (by have := hI.f0; omega) (by have := fr.sz; omega)]
      exact fr.same j hj nj
theorem if_sat {t : MT} {a b : ME} {σ : En} {Q : D → Store → Prop} {E : Xn → Store → Prop} (h : (t σ S).sat (fun c S1 => if c then (a σ S1).sat Q E else (b σ S1).sat Q E) E) : (eIf t a b σ S).sat Q E := by
  unfold eIf
  rw [sat_bind]
  refine h.mono fun c S1 z => ?_
  cases c <;> exact z
theorem sum_ok (H : RdR S r k ts rest d) : Sp S r k ts d (pSum named rest) (VSum S named) (run (n + 7) 16 [.ref r, .bl named] S) := by
  rw [run_16]
  refine sp_fin ?_
  rw [m_sum]
  have hr := H.r_lt
  have hkl := H.k_lt
  have hl0 := H.len
  have H0 : RdR (S.push (.dic false [])) r k ts rest d := H.push
  have I0 : SumInv S (S.push (.dic false [])) S.size [] [] named := ⟨Store.get_push_same, Nat.le_refl _, (fun q hq => nomatch hq), (fun _ q hq => nomatch hq), Nat.le_refl _, (fun z => absurd rfl z), fun _ => rfl, fun s t z => by cases z⟩
  -- the rounds
  have loop : ∀ (S1 : Store) (r1 : List Tok) (s0 : Int) (f0 : Nat), RdR S1 r k ts r1 d → SumInv S S1 S.size [] [] named → Fr S S1 r → (s0 = 1 ∨ s0 = -1) → r1.length < f0 → pSumL named f0 s0 [] r1 = pSum named rest →
      (sSeq (sWhile (sTest (run (n + 6))) (sBody (run (n + 6))) 100000) (sTail (run (n + 6))) [some (.ref r), some (.bl named), some (.ref S.size), some (.int s0), none, none, none, none] S1).sat (SpW S r k ts d (pSum named rest) (VSum S named)) := by
    intro S1 r1 s0 f0 H1 I1 F1 hs0 hf0 hR0
    rw [sat_seq]
    refine while_sat (fun j σ S' => ∃ F acc rest' s o4 o5 o6 o7, σ = [some (.ref r), some (.bl named), some (.ref S.size), some (.int s), o4, o5, o6, o7] ∧ RdR S' r k ts rest' d ∧ SumInv S S' S.size F acc named ∧ Fr S S' r ∧ acc.length + rest'.length ≤ r1.length ∧
      ((s = 0 ∧ acc ≠ [] ∧ pSum named rest = .ok (acc, rest') ∧ j = rest'.length) ∨ ((s = 1 ∨ s = -1) ∧ j = rest'.length + 1 ∧ ∃ f, rest'.length < f ∧ pSumL named f s acc rest' = pSum named rest))) ?_ 100000 (r1.length + 1) _ _ (by have := H1.len; omega) ⟨[], [], r1, s0, none, none, none, none, rfl, H1, I1, F1, by simp, .inr ⟨hs0, rfl, f0, hf0, hR0⟩⟩
    rintro j σ S' ⟨F, acc, rest', s, o4, o5, o6, o7, rfl, H', I', F', hb, hs⟩
    have hl1 := H1.len
    have test : sTest (run (n + 6)) [some (.ref r), some (.bl named), some (.ref S.size), some (.int s), o4, o5, o6, o7] S' = .ok (!(s == 0)) S' := by
      unfold sTest
      simp only [tOf_ev, eBin_ev, eVar_s, eVar_0, eC_ev, bind_ok', oNe, neF_int]
    rw [test, sat_ok]
    rcases hs with ⟨rfl, ha, hR, _⟩ | ⟨hs, rfl, f, hf, hR⟩
    · simp only [beq_self_eq_true, Bool.not_true, Bool.false_eq_true, if_false]
      exact sum_tail (n := n + 5) I' H' F' hkl (by omega) ha hR
    · have ne0 : (s == 0) = false := by rcases hs with h | h <;> rw [h] <;> rfl
      simp only [ne0, Bool.not_false, if_true]
      obtain ⟨f, rfl⟩ : ∃ g, f = g + 1 := ⟨f - 1, by omega⟩
      rw [pSumL] at hR
      unfold sBody
      simp only [sat_seq, sat_asg, k_ter H' eVar_0, aList_cons, aList_nil, eVar_s, eVar_0, bind_ok']
      refine (ter_ok (n := n) H').imp (fun v S2 ⟨T, r2, e2, ⟨hv, hT⟩, H2, f2⟩ => ?_) fun x S2 ⟨er, e2, hx⟩ => ⟨er, by rw [← hR]; simp only [e2], hx⟩
      subst hv
      simp only [e2] at hR
      have g2 := (pTerm_goes H'.st e2).lt
      have gt : gTup [gName 4, gName 5, gName 6] (termD T) [some (.ref r), some (.bl named), some (.ref S.size), some (.int s), o4, o5, o6, o7] S2 = .ok [some (.ref r), some (.bl named), some (.ref S.size), some (.int s), some (.str T.c), some (.int (T.p : Int)), some (.int T.v), o7] S2 := rfl
      rw [gt, sat_ok]
      have I2 := I'.keep hr f2
      obtain ⟨Fn, S3, jj, e3, I3, k3, z3⟩ := sum_round (n := n + 6) (o0 := some (.ref r)) (o1 := some (.bl named)) (o7 := o7) I2 hT (by omega) hs
      have nr3 : ∀ i o, i < S.size → S2.get i = some o → S3.get i = some o := k3
      have H3 : RdR S3 r k ts r2 d := by
        obtain ⟨pre, ep, hg⟩ := H2.pre
        exact H2.keep ((k3 r _ hr hg).trans hg.symm) ((k3 k _ hkl H2.hk).trans H2.hk.symm)
      have F3 : Fr S S3 r := by
        have F2 := F'.trans f2
        refine ⟨Nat.le_trans F2.sz z3, fun i hi ni => ?_⟩
        obtain ⟨o, ho⟩ := Store.all (S := S) i hi
        rw [k3 i o hi ((F2.same i hi ni).trans ho), ho]
      unfold sRest
      rw [seq2_nx e3, sat_set]
      -- the sign
      have len3 : (acc ++ [(s, T)]).length + r2.length ≤ r1.length := by simp; omega
      unfold sSign
      refine if_sat ?_
      simp only [tTru_ev, k_acc H3 eVar_0, aList_cons, aList_nil, eC_ev, bind_ok', sat_bind]
      refine (acc_ok (n := n + 3) H3 tplus).mono fun v S4 hv => ?_
      rcases hv with ⟨r4, e4, rfl, H4, f4⟩ | ⟨e4, rfl, rfl⟩
      · simp only [e4] at hR
        simp only [truD_bl, sat_ok, if_true]
        have g4 := (pAcc_goes H3.st e4).lt
        exact ⟨r4.length + 1, by omega, Fn, acc ++ [(s, T)], r4, 1, _, _, _, _, rfl, H4, I3.keep hr f4, F3.trans f4, by omega, .inr ⟨.inl rfl, rfl, f, by omega, hR⟩⟩
      · simp only [e4] at hR
        simp only [truD_bl, sat_ok, Bool.false_eq_true, if_false]
        refine if_sat ?_
        simp only [tTru_ev, k_acc H3 eVar_0, aList_cons, aList_nil, eC_ev, bind_ok', sat_bind]
        refine (acc_ok (n := n + 3) H3 tminus).mono fun v S5 hv => ?_
        rcases hv with ⟨r5, e5, rfl, H5, f5⟩ | ⟨e5, rfl, rfl⟩
        · simp only [e5] at hR
          simp only [truD_bl, sat_ok, if_true, eUn_ev, eC_ev, bind_ok', oNeg, negF_ev]
          have g5 := (pAcc_goes H3.st e5).lt
          exact ⟨r5.length + 1, by omega, Fn, acc ++ [(s, T)], r5, -1, _, _, _, _, rfl, H5, I3.keep hr f5, F3.trans f5, by omega, .inr ⟨.inr rfl, rfl, f, by omega, hR⟩⟩
        · simp only [e5] at hR
          simp only [truD_bl, sat_ok, Bool.false_eq_true, if_false]
          exact ⟨r2.length, by omega, Fn, acc ++ [(s, T)], r2, 0, _, _, _, _, rfl, H3, I3, F3, len3, .inl ⟨rfl, by simp, hR.symm, rfl⟩⟩
  have e0 : sSet 2 eDnew [some (.ref r), some (.bl named), none, none, none, none, none, none] S = .nx [some (.ref r), some (.bl named), some (.ref S.size), none, none, none, none, none] (S.push (.dic false [])) := rfl
  rw [sSeq_ev, e0]
  simp only
  rw [sat_seq, sat_set]
  refine if_sat ?_
  simp only [tTru_ev, k_acc H0 eVar_0, aList_cons, aList_nil, eC_ev, bind_ok', sat_bind]
  refine (acc_ok (n := n + 3) H0 tminus).mono fun v S4 hv => ?_
  rcases hv with ⟨r4, e4, rfl, H4, f4⟩ | ⟨e4, rfl, rfl⟩
  · simp only [truD_bl, sat_ok, if_true, eUn_ev, eC_ev, bind_ok', oNeg, negF_ev]
    exact loop S4 r4 (-1) (r4.length + 1) H4 (I0.keep hr f4) (Fr.push.trans f4) (.inr rfl) (by omega) (by unfold pSum; simp only [e4])
  · simp only [truD_bl, sat_ok, Bool.false_eq_true, if_false]
    exact loop _ rest 1 (rest.length + 1) H0 I0 Fr.push (.inl rfl) (by omega) (by unfold pSum; simp only [e4])
end
end L2.Mi.Pg

set_option Elab.async false
set_option linter.all false
set_option maxRecDepth 100000
set_option maxHeartbeats 1000000
/-! The reader of texts, 6: read_size, read_form. From the template RD6. -/
namespace L2.Mi.Pg
open PySem
theorem noRefs_ints : ∀ l : List Int, noRefs (l.map D.int) = true
  | [] => rfl
  | _ :: l => by
    rw [List.map_cons]
    unfold noRefs
    rw [noRefs_ints l]
    rfl
theorem noRefs_app : ∀ {a b : List D}, noRefs a = true → noRefs b = true → noRefs (a ++ b) = true
  | [], _, _, h => h
  | x :: a, b, h1, h2 => by
    unfold noRefs at h1
    rw [Bool.and_eq_true] at h1
    show noRefs (x :: (a ++ b)) = true
    unfold noRefs
    rw [h1.1, noRefs_app h1.2 h2]
    rfl
theorem noRef_tup {ds : List D} (h : noRefs ds = true) : noRef (.tup ds) = true := by
  unfold noRef
  exact h
section
variable {S : Store} {r k : Nat} {ts rest : List Tok} {d n : Nat} {t : Tok} {named : Bool}
def VSize (tm : List (Int × Term)) (v : D) (_ : Store) : Prop := ∃ ps : List Int, v = .tup (ps.map D.int) ∧ ∀ s t, tm = [(s, t)] → ps = parts [((t.p : Int), s * t.v)]
theorem val_got {G : GL} {c : List Nat} {v : D} (h : valD (gotD G) (.str c) = some v) : ∃ q ∈ G, q.1 = c ∧ v = .tup (q.2.map D.int) := by
  obtain ⟨x, hx, e1, e2⟩ := valD_mem h
  unfold gotD at hx
  obtain ⟨q, hq, rfl⟩ := List.mem_map.mp hx
  rw [eqKD_str] at e1
  exact ⟨q, hq, beq_iff_eq.mp e1, e2.symm⟩
theorem siz_ok (H : RdR S r k ts rest d) : Sp S r k ts d (pSum false rest) VSize (run (n + 8) 17 [.ref r] S) := by
  rw [run_17]
  refine sp_fin ?_
  unfold m_17
  simp only [sat_ret, eBin_ev, k_sum H eVar_0, aList_cons, aList_nil, eC_ev, bind_ok', sat_bind]
  refine (sum_ok (n := n) H).imp (fun v S1 ⟨tm, r1, e1, ⟨q, G, hv, g1, g2, g3, g4, g5, g6, g7⟩, H1, f1⟩ => ?_) fun x S1 h => h
  subst hv
  obtain ⟨x, G', rfl⟩ : ∃ x G', G = x :: G' := by
    cases G with
    | nil => exact absurd rfl g5
    | cons x G' => exact ⟨x, G', rfl⟩
  have hx := g6 rfl x (by simp)
  have e2 : valD (gotD (x :: G')) (.str []) = some (.tup (x.2.map D.int)) := by
    unfold valD gotD
    rw [List.map_cons, List.find?_cons, hx]
    rfl
  rw [dgetF_ev g2 rfl e2, sat_ok]
  refine ⟨tm, r1, e1, ⟨x.2, rfl, fun s t e => ?_⟩, H1, f1⟩
  have e3 := g7 s t e
  simp at e3
  rw [e3.1]
theorem keys_got : ∀ G : GL, keysT (gotD G) = some (G.map (·.1))
  | [] => rfl
  | x :: G => by
    have ih := keys_got G
    unfold gotD at ih ⊢
    rw [List.map_cons, List.map_cons]
    unfold keysT
    rw [ih]
    rfl
theorem list_none {j : Nat} {kvs : List (D × D)} (h : S.get j = some (.dic false kvs)) : listAt S (.ref j) = none := by
  unfold listAt
  simp only [h]
theorem sort_ev {j : Nat} {G : GL} (h : S.get j = some (.dic false (gotD G))) (hl : G.length < 64) : fnOr sortLF sortDF [.ref j] S = .ok (.lv ((sortT (G.map (·.1))).map D.str)) S := by
  have e1 : sortLF [.ref j] S = .bad := by
    unfold sortLF
    simp only [list_none h]
  unfold fnOr orB
  rw [e1]
  unfold sortDF
  simp only [dicK_ref h, keys_got]
  rw [if_pos (by simpa using hl)]
def fComp (call : Nat → FN) : ME := eLcV (iOr (iSeq (eFn (fnOr sortLF sortDF) (aList [eVar 1]))) (iTxt (eFn (fnOr sortLF sortDF) (aList [eVar 1])))) (.one 3) (tAnd (tOf (eBin (oNe call) (eVar 3) (eC (.str [])))) (tOf (eBin (oNe call) (eBin dgetF (eVar 1) (eVar 3)) (eTup [])))) (eTup [eVar 3, eBin dgetF (eVar 1) (eVar 3)]) [3] 100000
theorem m_frm (call : Nat → FN) : m_18 call = sSeq (sSet 1 (eMeth (me_read_sum call) 12 (eVar 0) (aList [eC (.bl true)])))
    (sSeq (sSet 2 (fComp call))
    (sRet (eTup [eDget2 (eVar 1) (eC (.str [])) (eTup []), eFn tupleF (aList [eVar 2])]))) := rfl
abbrev VNo {β : Type} : β → D → Store → Prop := fun _ v _ => noRef v = true
theorem tnil : Txt [] := fun c hc => nomatch hc
theorem frm_ok (H : RdR S r k ts rest d) : Sp S r k ts d (pSum true rest) VNo (run (n + 8) 18 [.ref r] S) := by
  rw [run_18]
  refine sp_fin ?_
  rw [m_frm]
  simp only [sat_seq, sat_set, k_sum H eVar_0, aList_cons, aList_nil, eC_ev, bind_ok']
  refine (sum_ok (n := n) H).imp (fun v S1 ⟨tm, r1, e1, ⟨q, G, hv, g1, g2, g3, g4, g5, g6, g7⟩, H1, f1⟩ => ?_) fun x S1 h => h
  subst hv
  obtain ⟨pre, ep, _⟩ := H.pre
  have hsm := H.sm pre rest ep tm r1 e1
  have es : eFn (fnOr sortLF sortDF) (aList [eVar 1]) [some (.ref r), some (.ref q), none, none] S1 = .ok (.lv ((sortT (G.map (·.1))).map D.str)) S1 := by
    simp only [eFn_ev, aList_cons, aList_nil, eVar_s, eVar_0, bind_ok', sort_ev g2 (show G.length < 64 by omega)]
  show (fComp (run (n + 7)) [some (.ref r), some (.ref q), none, none] S1).sat _ _
  unfold fComp
  have perm := sortT_perm (G.map (·.1))
  refine lc_sat (fun ds acc S2 => S2 = S1 ∧ (∃ z, ds = z.map D.str ∧ ∀ c ∈ z, c ∈ G.map (·.1)) ∧ noRefs acc = true ∧ acc.length + ds.length ≤ 64) (walk_list es rfl) (by rw [List.length_map, perm.length_eq, List.length_map]; omega)
    ⟨rfl, ⟨_, rfl, fun c hc => perm.mem_iff.mp hc⟩, rfl, by rw [List.length_map, perm.length_eq, List.length_map]; simp; omega⟩ ?_ ?_
  · rintro x ds acc S2 ⟨rfl, ⟨z, e2, hz⟩, hn, hl⟩
    cases z with
    | nil => cases e2
    | cons c z =>
      rw [List.map_cons] at e2
      cases e2
      obtain ⟨y, hy, hyc⟩ := List.mem_map.mp (hz c (by simp))
      have hmem : (D.str y.1, D.tup (y.2.map D.int)) ∈ gotD G := List.mem_map.mpr ⟨y, hy, rfl⟩
      obtain ⟨v, hv⟩ := valD_some (k := .str c) hmem (by rw [eqKD_str, hyc]; simp)
      obtain ⟨w, hw, w1, rfl⟩ := val_got hv
      have tc : Txt c := by rw [← hyc]; exact g3 y hy
      have e3 := dgetF_ev g2 rfl hv
      refine ⟨[some (.ref r), some (.ref q), none, some (.str c)], rfl, ?_⟩
      have e4 : ∀ (o : Op2), neF o (.tup (w.2.map D.int)) (.tup []) S2 = .ok (.bl (!decide (w.2 = []))) S2 := fun o => neF_tup (d1 := .tup (w.2.map D.int)) (d2 := .tup []) (ps := w.2) (qs := []) rfl rfl
      simp only [tAnd_ev, tOf_ev, eBin_ev, eVar_s, eVar_0, eC_ev, bind_ok', oNe, neF_str tc tnil, sat_bind, sat_ok]
      have next : noRefs (acc ++ [D.tup [.str c, .tup (w.2.map D.int)]]) = true := noRefs_app hn (by
        have := noRef_tup (noRefs_ints w.2)
        simp [noRefs, noRef] at this ⊢
        exact this)
      have lims := lim_big
      simp only [List.length_cons] at hl
      cases (c == [])
      · simp only [Bool.not_false, if_true, e3, bind_ok', eTup_ev, aList_nil, e4, sat_ok, aList_cons, eVar_s, eVar_0, eBin_ev]
        by_cases hw0 : w.2 = []
        · simp only [decide_eq_true hw0, Bool.not_true, Bool.false_eq_true, if_false]
          exact ⟨trivial, ⟨z, rfl, fun c hc => hz c (by simp [hc])⟩, hn, by omega⟩
        · simp only [decide_eq_false hw0, Bool.not_false, if_true]
          exact ⟨by omega, trivial, ⟨z, rfl, fun c hc => hz c (by simp [hc])⟩, next, by rw [List.length_append, List.length_singleton]; omega⟩
      · simp only [Bool.not_true, Bool.false_eq_true, if_false, sat_ok]
        exact ⟨trivial, ⟨z, rfl, fun c hc => hz c (by simp [hc])⟩, hn, by omega⟩
  · rintro acc S2 ⟨rfl, _, hn, _⟩
    have e5 : eDget2 (eVar 1) (eC (.str [])) (eTup []) [some (.ref r), some (.ref q), some (.lv acc), none] S2 = .ok ((valD (gotD G) (.str [])).getD (.tup [])) S2 := by
      unfold eDget2
      simp only [eVar_s, eVar_0, bind_ok', dicK_ref g2, eC_ev, eTup_ev, aList_nil, keyD]
    have e6 : tupleF [.lv acc] S2 = .ok (.tup acc) S2 := tupleF_list rfl
    show (sRet _ [some (.ref r), some (.ref q), some (.lv acc), none] S2).sat _
    simp only [sat_ret, eTup_ev, aList_cons, aList_nil, e5, bind_ok', eFn_ev, eVar_s, eVar_0, e6, sat_ok]
    refine ⟨tm, r1, e1, ?_, H1, f1⟩
    refine noRef_tup ?_
    have h1 : noRef ((valD (gotD G) (.str [])).getD (.tup [])) = true := by
      cases hv : valD (gotD G) (.str []) with
      | none => rfl
      | some v =>
        obtain ⟨w, _, _, rfl⟩ := val_got hv
        exact noRef_tup (noRefs_ints _)
    unfold noRefs
    rw [h1]
    unfold noRefs
    rw [noRef_tup hn]
    rfl
end
end L2.Mi.Pg

set_option Elab.async false
set_option linter.all false
set_option maxRecDepth 100000
set_option maxHeartbeats 1000000
/-! The reader of texts, 7: statements, blocks, loops. From the template RD7. -/
namespace L2.Mi.Pg
open PySem
section
variable {S : Store} {r k : Nat} {ts rest : List Tok} {d n : Nat} {t : Tok} {named : Bool}
theorem tW {w : List Nat} (h : w.all (· < 0x110000) = true) : Txt w := fun c hc => by
  have := List.all_eq_true.mp h c hc
  simpa using this
/-- an accept, then one of two ways -/
theorem acc_if {β : Type} {w : List Nat} {σ : En} {a b : MS} {W : Wt} (H : RdR S r k ts rest d) (hw : Txt w) (h0 : σ[0]? = some (some (.ref r)))
    (yes : ∀ r1 S1, pAcc w rest = some r1 → RdR S1 r k ts r1 d → Fr S S1 r → (a σ S1).sat W) (no : pAcc w rest = none → (b σ S).sat W) :
    (sIf (tTru (eMeth (me_accept (run (n + 3))) 5 (eVar 0) (aList [eC (.str w)]))) a b σ S).sat W := by
  have e0 : eVar 0 σ S = .ok (.ref r) S := eVar_ev h0
  simp only [sat_if, tTru_ev, k_acc H e0, aList_cons, aList_nil, eC_ev, bind_ok', sat_bind]
  refine (acc_ok (n := n) H hw).mono fun v S1 hv => ?_
  rcases hv with ⟨r1, e, rfl, H1, f1⟩ | ⟨e, rfl, rfl⟩
  · simp only [truD_bl, sat_ok, if_true]
    exact yes r1 S1 e H1 f1
  · simp only [truD_bl, sat_ok, Bool.false_eq_true, if_false]
    exact no e
abbrev StmOk (r k : Nat) (ts : List Tok) (m : Nat) : Prop := ∀ {S : Store} {rest : List Tok} {n d : Nat}, d + m = 5 → RdR S r k ts rest d → Sp S r k ts d (pStmt m rest) VNo (run (n + 10 + 3 * m) 20 [.ref r] S)
/-! ### accesses -/
def aWrite (call : Nat → FN) : MS := sIf (tOf (eBin (oEq call) (eVar 1) (eC (.str wWRITE)))) (sDrop (eMeth (me_expect call) 15 (eVar 0) (aList [eC (.str wWRITE)]))) (sNext)
def aRest (call : Nat → FN) : MS := sSeq (sSet 2 (eMeth (me_read_name call) 8 (eVar 0) (aList [])))
    (sSeq (sDrop (eMeth (me_expect call) 15 (eVar 0) (aList [eC (.str [91])])))
    (sSeq (sSet 3 (eMeth (me_read_form call) 16 (eVar 0) (aList [])))
    (sSeq (sDrop (eMeth (me_expect call) 15 (eVar 0) (aList [eC (.str [93])])))
    (sRet (eTup [eVar 1, eVar 2, eVar 3])))))
def aAccess (call : Nat → FN) : MS := sSeq (sSet 1 (eIf (tTru (eMeth (me_accept call) 5 (eVar 0) (aList [eC (.str wREAD)]))) (eC (.str wREAD)) (eC (.str wWRITE)))) (sSeq (aWrite call) (aRest call))
theorem m_stm (call : Nat → FN) : m_20 call = sSeq (sIf (tTru (eMeth (me_accept call) 5 (eVar 0) (aList [eC (.str wFLUSH)]))) (sRet (eTup [eC (.str wFLUSH)])) (sNext))
    (sSeq (sIf (tTru (eMeth (me_accept call) 5 (eVar 0) (aList [eC (.str wFOR)]))) (sRet (eMeth (me_read_loop call) 14 (eVar 0) (aList []))) (sNext)) (aAccess call)) := rfl
theorem t91 : Txt [91] := tW rfl
theorem t93 : Txt [93] := tW rfl
theorem tRead : Txt wREAD := tW rfl
theorem tWrite : Txt wWRITE := tW rfl
theorem access_ok {S0 : Store} {rest0 : List Tok} {β : Type} {res : PR Unit} (H : RdR S r k ts rest d) (fr : Fr S0 S r) (hR : res = pAccess rest) : (aAccess (run (n + 9)) [some (.ref r), none, none, none] S).sat (SpW S0 r k ts d res VNo) := by
  subst hR
  -- behind the word
  have tail : ∀ {S1 : Store} {r1 : List Tok} {w : List Nat}, RdR S1 r k ts r1 d → Fr S0 S1 r → pAccess rest = (andThen (pName r1) fun _ r2 => andThen (pExp [91] r2) fun _ r3 => andThen (pSum true r3) fun _ r4 => pExp [93] r4) → (aRest (run (n + 9)) [some (.ref r), some (.str w), none, none] S1).sat (SpW S0 r k ts d (pAccess rest) VNo) := by
    intro S1 r1 w H1 f1 e1
    unfold aRest
    simp only [sat_seq, sat_set, k_nam H1 eVar_0, aList_nil, bind_ok']
    refine (nam_ok (n := n + 7) H1).imp (fun v S2 ⟨x, r2, e2, ⟨hv, hx⟩, H2, f2⟩ => ?_) fun x S2 ⟨er, e2, hx⟩ => ⟨er, by rw [e1, e2]; rfl, hx⟩
    subst hv
    simp only [List.set_cons_succ, List.set_cons_zero, sat_drop, k_exp H2 eVar_0, aList_cons, aList_nil, eC_ev, bind_ok']
    refine (exp_ok (n := n + 5) H2 t91).imp (fun v S3 ⟨_, r3, e3, _, H3, f3⟩ => ?_) fun x S3 ⟨er, e3, hx⟩ => ⟨er, by rw [e1, e2]; simp only [andThen, e3], hx⟩
    simp only [k_frm H3 eVar_0, aList_nil, bind_ok']
    refine (frm_ok (n := n + 1) H3).imp (fun v S4 ⟨tm, r4, e4, hv, H4, f4⟩ => ?_) fun x S4 ⟨er, e4, hx⟩ => ⟨er, by rw [e1, e2]; simp only [andThen, e3, e4], hx⟩
    simp only [List.set_cons_succ, List.set_cons_zero, k_exp H4 eVar_0, aList_cons, aList_nil, eC_ev, bind_ok']
    refine (exp_ok (n := n + 5) H4 t93).imp (fun v2 S5 ⟨_, r5, e5, _, H5, f5⟩ => ?_) fun x S5 ⟨er, e5, hx⟩ => ⟨er, by rw [e1, e2]; simp only [andThen, e3, e4, e5], hx⟩
    show (sRet _ [some (.ref r), some (.str w), some (.str x), some v] S5).sat _
    simp only [sat_ret, eTup_ev, aList_cons, aList_nil, eVar_s, eVar_0, bind_ok', sat_ok]
    refine ⟨(), r5, by rw [e1, e2]; simp only [andThen, e3, e4, e5], ?_, H5, f1.trans (f2.trans (f3.trans (f4.trans f5)))⟩
    refine noRef_tup ?_
    simp only [noRefs, noRef, hv, Bool.and_self]
  unfold aAccess
  rw [sat_seq, sat_set]
  refine if_sat ?_
  simp only [tTru_ev, k_acc H eVar_0, aList_cons, aList_nil, eC_ev, bind_ok', sat_bind]
  refine (acc_ok (n := n + 6) H tRead).mono fun v S1 hv => ?_
  rcases hv with ⟨r1, e, rfl, H1, f1⟩ | ⟨e, rfl, hS⟩
  · simp only [truD_bl, sat_ok, if_true]
    show (sSeq (aWrite (run (n + 9))) (aRest (run (n + 9))) [some (.ref r), some (.str wREAD), none, none] S1).sat _
    have e2 : aWrite (run (n + 9)) [some (.ref r), some (.str wREAD), none, none] S1 = .nx [some (.ref r), some (.str wREAD), none, none] S1 := by
      unfold aWrite
      simp only [sIf_ev, tOf_ev, eBin_ev, eVar_s, eVar_0, eC_ev, bind_ok', oEq, eqF_str tRead tWrite]
      rfl
    rw [sSeq_ev, e2]
    exact tail H1 (fr.trans f1) (by unfold pAccess; rw [e]; rfl)
  · subst hS
    simp only [truD_bl, sat_ok, Bool.false_eq_true, if_false]
    show (sSeq (aWrite (run (n + 9))) (aRest (run (n + 9))) [some (.ref r), some (.str wWRITE), none, none] S1).sat _
    rw [sat_seq]
    unfold aWrite
    simp only [sat_if, tOf_ev, eBin_ev, eVar_s, eVar_0, eC_ev, bind_ok', oEq, eqF_str tWrite tWrite, beq_self_eq_true, sat_ok, if_true, sat_drop, k_exp H eVar_0, aList_cons, aList_nil]
    refine (exp_ok (n := n + 5) H tWrite).imp (fun v S1 ⟨_, r1, e1, _, H1, f1⟩ => ?_) fun x S1 ⟨er, e1, hx⟩ => ⟨er, by unfold pAccess; rw [e]; simp only [andThen, e1], hx⟩
    exact tail H1 (fr.trans f1) (by unfold pAccess; rw [e]; simp only [andThen, e1])
/-! ### blocks -/
def bTest (call : Nat → FN) : MT := tNot (tTru (eMeth (me_accept call) 5 (eVar 0) (aList [eC (.str [125])])))
def bBody (call : Nat → FN) : MS := sDrop (eBm isLst appendF (eVar 1) (aList [eMeth (me_read_statement call) 13 (eVar 0) (aList [])]))
theorem m_blk (call : Nat → FN) : m_19 call = sSeq (sSet 1 (eLst [])) (sSeq (sWhile (bTest call) (bBody call) 100000) (sRet (eFn tupleF (aList [eVar 1])))) := rfl
theorem t125 : Txt [125] := tW rfl
theorem t123 : Txt [123] := tW rfl
/-- a statement is read and put behind the others -/
theorem put_stm {m q : Nat} {acc : List D} {W : Wt} (hs : StmOk r k ts m) (hd : d + m = 5) (H : RdR S r k ts rest d) (hg : S.get q = some (.lst acc)) (hq : q ≠ r) (hl : acc.length ≤ 90000) 
    (ok : ∀ v S2 r2, pStmt m rest = .ok ((), r2) → noRef v = true → RdR S2 r k ts r2 d → Fr S S2 r → S2.get q = some (.lst acc) → W.n [some (.ref r), some (.ref q)] (S2.set q (.lst (acc ++ [v])))) (bad : ∀ x S2, SpE (pStmt m rest) x S2 → W.e x S2) :
    (bBody (run (n + 10 + 3 * m)) [some (.ref r), some (.ref q)] S).sat W := by
  unfold bBody
  simp only [sat_drop, eBm_ev, eVar_s, eVar_0, bind_ok', isLst_ev hg, if_true, aList_cons, aList_nil, k_stm H eVar_0, sat_bind]
  refine (hs (n := n) hd H).imp (fun v S2 ⟨_, r2, e2, hv, H2, f2⟩ => ?_) fun x S2 h => bad x S2 h
  have hg2 := f2.get hg hq
  simp only [sat_ok, appendF_ev hg2 (show acc.length < 900000 by omega)]
  exact ok v S2 r2 e2 hv H2 f2 hg2
theorem blk_ok {m : Nat} (hs : StmOk r k ts m) (hd : d + m = 5) (H : RdR S r k ts rest d) : Sp S r k ts d (pBlockL (pStmt m) (rest.length + 1) rest) VNo (run (n + 11 + 3 * m) 19 [.ref r] S) := by
  have e0 : n + 11 + 3 * m = (n + 10 + 3 * m) + 1 := by omega
  rw [e0, run_19]
  refine sp_fin ?_
  rw [m_blk]
  have e1 : sSet 1 (eLst []) [some (.ref r), none] S = .nx [some (.ref r), some (.ref S.size)] (S.push (.lst [])) := rfl
  rw [sSeq_ev, e1]
  simp only
  rw [sat_seq]
  have nr : S.size ≠ r := by have := H.r_lt; omega
  have nk : S.size ≠ k := by have := H.k_lt; omega
  have l0 := H.len
  refine while_sat (fun j σ S' => ∃ acc rest', j = rest'.length ∧ σ = [some (.ref r), some (.ref S.size)] ∧ RdR S' r k ts rest' d ∧ Fr S S' r ∧ S'.get S.size = some (.lst acc) ∧ noRefs acc = true ∧ acc.length + rest'.length ≤ rest.length ∧
    ∃ f, rest'.length < f ∧ pBlockL (pStmt m) f rest' = pBlockL (pStmt m) (rest.length + 1) rest) ?_ 100000 rest.length _ _ (by omega) ⟨[], rest, rfl, rfl, H.push, Fr.push, Store.get_push_same, rfl, by simp, _, by omega, rfl⟩
  rintro j σ S' ⟨acc, rest', rfl, rfl, H', f', hg, hn, hb, f, hf, hR⟩
  obtain ⟨f, rfl⟩ : ∃ g, f = g + 1 := ⟨f - 1, by omega⟩
  rw [pBlockL] at hR
  have e2 : n + 10 + 3 * m = (n + 7 + 3 * m) + 3 := by omega
  unfold bTest
  simp only [tNot_ev, tTru_ev, k_acc H' eVar_0, aList_cons, aList_nil, eC_ev, bind_ok', sat_bind]
  rw [e2]
  refine (acc_ok (n := n + 7 + 3 * m) H' t125).mono fun v S2 hv => ?_
  rcases hv with ⟨r2, e3, rfl, H2, f2⟩ | ⟨e3, rfl, rfl⟩
  · simp only [e3] at hR
    simp only [truD_bl, sat_ok, Bool.not_true, Bool.false_eq_true, if_false, sat_ret, eFn_ev, aList_cons, aList_nil, eVar_s, eVar_0, bind_ok', tupleF_list (listAt_ref (f2.get hg nr))]
    exact ⟨(), r2, hR.symm, noRef_tup hn, H2, f'.trans f2⟩
  · simp only [e3] at hR
    simp only [truD_bl, sat_ok, Bool.not_false, if_true]
    rw [← e2]
    refine put_stm hs hd H' hg nr (by omega) (fun v S3 r3 e4 hv H3 f3 hg3 => ?_) (fun x S3 ⟨er, e4, hx⟩ => ⟨er, by rw [← hR]; simp only [e4], hx⟩)
    simp only [e4] at hR
    have g3 := (pStmt_goes m H'.st e4).lt
    exact ⟨r3.length, by omega, acc ++ [v], r3, rfl, rfl, H3.set_other nr nk, (f'.trans f3).set_new (Nat.le_refl _), Store.get_set_same' hg3, noRefs_app hn (by simp only [noRefs, hv, Bool.and_self]), by rw [List.length_append, List.length_singleton]; omega, f, by omega, hR⟩
/-! ### loops -/
def lDeep (call : Nat → FN) : MS := sIf (tAnd (tTru (eMeth (me_is_next call) 4 (eVar 0) (aList [eC (.str [123])]))) (tOf (eBin (oEq call) (eUn (attrF (at_depth call) 2) (eVar 0)) (eC (.int 5))))) (sRaise 3 7 (eC (.str NESTING))) (sNext)
def lRest (call : Nat → FN) : MS := sSeq (sDrop (eMeth (me_expect call) 15 (eVar 0) (aList [eC (.str [123])])))
    (sSeq (sFaug (· + ·) st_depth 2 (eVar 0) (eC (.int 1)))
    (sSeq (sSet 3 (eMeth (me_read_block call) 18 (eVar 0) (aList [])))
    (sSeq (sFaug (· - ·) st_depth 2 (eVar 0) (eC (.int 1)))
    (sRet (eTup [eC (.str [102, 111, 114]), eVar 1, eVar 2, eVar 3])))))
theorem m_lop (call : Nat → FN) : m_21 call = sSeq (sSet 1 (eMeth (me_read_name call) 8 (eVar 0) (aList [])))
    (sSeq (sSet 2 (eMeth (me_read_size call) 17 (eVar 0) (aList []))) (sSeq (lDeep call) (lRest call))) := rfl
theorem deep_ev {g : Int → Int → Int} {z : Nat} {σ : En} {mo : ME} {i : Nat} (hg : S.get r = some (rdO k i d)) (h0 : mo σ S = .ok (.ref r) S) (hz : g (d : Int) 1 = (z : Int)) : sFaug g st_depth 2 mo (eC (.int 1)) σ S = .nx σ (S.set r (rdO k i z)) := by
  unfold sFaug augR
  rw [h0, bind_ok']
  have e1 : fldInt st_depth 2 (.ref r) S = some (r, 0, (d : Int)) := by
    unfold fldInt
    simp only [hg, rdO]
    rfl
  have e2 : fldPut 2 r 0 (.int (g (d : Int) 1)) S = some (S.set r (rdO k i z)) := by
    unfold fldPut
    rw [hz]
    simp only [hg, rdO]
    rfl
  simp only [e1, eC_ev, bind_ok', e2]
theorem RdR.deep {z : Nat} (H : RdR S r k ts rest d) : ∃ i, S.get r = some (rdO k i d) ∧ RdR (S.set r (rdO k i z)) r k ts rest z := by
  obtain ⟨pre, e, hg⟩ := H.pre
  refine ⟨pre.length, hg, ⟨⟨pre, e, Store.get_set_same' hg⟩, ?_, H.ne, H.st, H.tx, H.ln, H.wl, H.sm⟩⟩
  rw [Store.get_set_ne H.ne]
  exact H.hk
/-- a loop behind its first word -/
def pLoop (m : Nat) (r1 : List Tok) : PR Unit := andThen (pHead r1) fun _ r2 => match m with
  | 0 => if (pAcc [123] r2).isSome then .error (.big NESTING) else pExp [123] r2
  | m + 1 => andThen (pExp [123] r2) fun _ r3 => pBlockL (pStmt m) (r3.length + 1) r3
theorem lop_ok {m : Nat} (hs : ∀ j, m = j + 1 → StmOk r k ts j) (hd : d + m = 5) (H : RdR S r k ts rest d) : Sp S r k ts d (pLoop m rest) VNo (run (n + 9 + 3 * m) 21 [.ref r] S) := by
  have e0 : n + 9 + 3 * m = (n + 8 + 3 * m) + 1 := by omega
  rw [e0, run_21]
  refine sp_fin ?_
  rw [m_lop]
  simp only [sat_seq, sat_set, k_nam H eVar_0, aList_nil, bind_ok']
  have e1 : n + 8 + 3 * m = (n + 6 + 3 * m) + 2 := by omega
  rw [e1]
  refine (nam_ok (n := n + 6 + 3 * m) H).imp (fun v S1 ⟨x, r1, f1, ⟨hv, hx⟩, H1, F1⟩ => ?_) fun x S1 ⟨er, f1, hx⟩ => ⟨er, by unfold pLoop pHead; rw [f1]; rfl, hx⟩
  subst hv
  rw [← e1]
  simp only [List.set_cons_succ, List.set_cons_zero, k_siz H1 eVar_0, aList_nil, bind_ok']
  have e2 : n + 8 + 3 * m = (n + 3 * m) + 8 := by omega
  rw [e2]
  refine (siz_ok (n := n + 3 * m) H1).imp (fun v S2 ⟨tm, r2, f2, ⟨ps, hv, _⟩, H2, F2⟩ => ?_) fun x S2 ⟨er, f2, hx⟩ => ⟨er, by unfold pLoop pHead; rw [f1]; simp only [andThen, f2], hx⟩
  subst hv
  rw [← e2]
  have hh : pHead rest = .ok ((), r2) := by unfold pHead; rw [f1]; simp only [andThen, f2]
  obtain ⟨t, q2, rfl⟩ := H2.st.cons
  -- the test
  have e3 : n + 8 + 3 * m = (n + 6 + 3 * m) + 2 := by omega
  have hi := isn_ok (n := n + 6 + 3 * m) H2 t123
  rw [← e3] at hi
  have ha : attrF (at_depth (run (n + 8 + 3 * m))) 2 (.ref r) S2 = .ok (.int (d : Int)) S2 := by
    obtain ⟨pre, _, hg⟩ := H2.pre
    exact attr_fld hg rfl rfl
  unfold lDeep
  show (sIf _ _ _ [some (.ref r), some (.str x), some (.tup (ps.map D.int)), none] S2).sat _
  simp only [sat_if, tAnd_ev, tTru_ev, k_isn H2 eVar_0, aList_cons, aList_nil, eC_ev, bind_ok', hi, truD_bl, sat_bind, sat_ok, tOf_ev, eBin_ev, eUn_ev, eVar_0, ha, oEq, eqF_int]
  -- what comes behind the test
  have go : ¬ (t.is [123] = true ∧ m = 0) → (lRest (run (n + 8 + 3 * m)) [some (.ref r), some (.str x), some (.tup (ps.map D.int)), none] S2).sat (SpW S r k ts d (pLoop m rest) VNo) := by
    intro hno
    unfold lRest
    simp only [sat_seq, sat_drop, k_exp H2 eVar_0, aList_cons, aList_nil, eC_ev, bind_ok']
    have e4 : n + 8 + 3 * m = (n + 4 + 3 * m) + 4 := by omega
    rw [e4]
    refine (exp_ok (n := n + 4 + 3 * m) H2 t123).imp (fun v S3 ⟨_, r3, f3, _, H3, F3⟩ => ?_) fun y S3 ⟨er, f3, hy⟩ => ⟨er, ?_, hy⟩
    · rw [← e4]
      have ht : t.is [123] = true := by
        simp only [pExp] at f3
        by_cases h : t.is [123] = true
        · exact h
        · rw [if_neg h] at f3
          cases f3
      obtain ⟨j, rfl⟩ : ∃ j, m = j + 1 := ⟨m - 1, by
        have : m ≠ 0 := fun z => hno ⟨ht, z⟩
        omega⟩
      obtain ⟨i, hg, H4⟩ := H3.deep (z := d + 1)
      rw [deep_ev (z := d + 1) hg eVar_0 (by omega), sat_nx]
      simp only [k_blk H4 eVar_0, aList_nil, bind_ok', sat_set]
      have e5 : n + 8 + 3 * (j + 1) = n + 11 + 3 * j := by omega
      rw [e5]
      refine (blk_ok (n := n) (hs j rfl) (show d + 1 + j = 5 by omega) H4).imp (fun v S5 ⟨_, r5, f5, hv, H5, F5⟩ => ?_) fun y S5 ⟨er, f5, hy⟩ => ⟨er, by unfold pLoop; rw [hh]; simp only [andThen, f3, f5], hy⟩
      obtain ⟨i5, hg5, H6⟩ := H5.deep (z := d)
      show (sFaug _ st_depth 2 (eVar 0) (eC (.int 1)) [some (.ref r), some (.str x), some (.tup (ps.map D.int)), some v] S5).sat _
      rw [deep_ev (z := d) hg5 eVar_0 (by omega), sat_nx]
      simp only [sat_ret, eTup_ev, aList_cons, aList_nil, eC_ev, eVar_s, eVar_0, bind_ok', sat_ok]
      refine ⟨(), r5, by unfold pLoop; rw [hh]; simp only [andThen, f3, f5], ?_, H6, F1.trans (F2.trans (F3.trans (Fr.set.trans (F5.trans Fr.set))))⟩
      refine noRef_tup ?_
      simp only [noRefs, noRef, noRefs_ints, hv, Bool.and_self]
    · unfold pLoop
      rw [hh]
      simp only [andThen]
      cases m with
      | succ j => simp only [f3]
      | zero =>
        simp only [pExp, pAcc] at f3 ⊢
        by_cases h : t.is [123] = true
        · rw [if_pos h] at f3
          cases f3
        · rw [if_neg h] at f3
          simp only [h, if_false, Option.isSome_none, Bool.false_eq_true]
          exact f3
  cases ht : t.is [123] with
  | false =>
    simp only [Bool.false_eq_true, if_false, sat_ok, sat_next]
    exact go (by rw [ht]; simp)
  | true =>
    simp only [if_true, sat_ok]
    by_cases hm : m = 0
    · subst hm
      have hd5 : d = 5 := by omega
      subst hd5
      simp only [sat_raise, eC_ev, sat_ok]
      refine ⟨.big NESTING, ?_, rfl⟩
      unfold pLoop
      rw [hh]
      simp only [andThen, pAcc, ht, if_true, Option.isSome_some]
    · have n5 : ((d : Int) == 5) = false := by
        refine beq_eq_false_iff_ne.mpr ?_
        omega
      simp only [n5, Bool.false_eq_true, if_false, sat_next]
      exact go (by rw [ht]; simp [hm])
theorem stm_of {m : Nat} (hs : ∀ j, m = j + 1 → StmOk r k ts j) : StmOk r k ts m := by
  intro S rest n d hd H
  have e0 : n + 10 + 3 * m = (n + 9 + 3 * m) + 1 := by omega
  rw [e0, run_20]
  refine sp_fin ?_
  rw [m_stm, sat_seq]
  have e1 : n + 9 + 3 * m = (n + 6 + 3 * m) + 3 := by omega
  rw [e1]
  have tf : Txt wFLUSH := tW rfl
  have to : Txt wFOR := tW rfl
  refine acc_if (β := Unit) H tf rfl (fun r1 S1 f1 H1 F1 => ?_) fun f1 => ?_
  · simp only [sat_ret, eTup_ev, aList_cons, aList_nil, eC_ev, bind_ok', sat_ok]
    exact ⟨(), r1, by rw [pStmt]; simp only [f1], rfl, H1, F1⟩
  · rw [sat_next]
    show (sSeq _ _ _ _).sat _
    rw [sat_seq]
    refine acc_if (β := Unit) H to rfl (fun r1 S1 f2 H1 F1 => ?_) fun f2 => ?_
    · rw [← e1]
      simp only [sat_ret, k_lop H1 eVar_0, aList_nil, bind_ok']
      have e2 : pStmt m rest = pLoop m r1 := by
        rw [pStmt]
        simp only [f1, f2]
        rfl
      refine (lop_ok (n := n) hs hd H1).imp (fun v S2 ⟨_, r2, f3, hv, H2, F2⟩ => ⟨(), r2, by rw [e2, f3], hv, H2, F1.trans F2⟩) fun x S2 ⟨er, f3, hx⟩ => ⟨er, by rw [e2, f3], hx⟩
    · rw [sat_next]
      show (aAccess _ _ _).sat _
      have e3 : n + 6 + 3 * m + 3 = (n + 3 * m) + 9 := by omega
      rw [e3]
      exact access_ok (β := Unit) (rest0 := rest) H Fr.refl (by rw [pStmt]; simp only [f1, f2])
theorem stm_ok : ∀ m, StmOk r k ts m
  | 0 => stm_of fun j h => by cases h
  | m + 1 => stm_of fun j h => by cases h; exact stm_ok m
end
end L2.Mi.Pg

set_option Elab.async false
set_option linter.all false
set_option maxRecDepth 100000
set_option maxHeartbeats 1000000
/-! The reader of texts, 8: whole programs. From the template RD8. -/
namespace L2.Mi.Pg
open PySem
section
variable {S : Store} {r k : Nat} {ts rest : List Tok} {d n : Nat} {t : Tok} {named : Bool}
def oTest (call : Nat → FN) : MT := tOf (eBin (oNe call) (eBin itemF (eMeth (me_current call) 3 (eVar 0) (aList [])) (eC (.int 0))) (eC (.str ENDW)))
theorem m_opn (call : Nat → FN) : m_23 call = sSeq (sSet 1 (eLst [])) (sSeq (sWhile (oTest call) (bBody call) 100000) (sRet (eFn tupleF (aList [eVar 1])))) := rfl
theorem opn_ok (H : RdR S r k ts rest 0) : Sp S r k ts 0 (pOpen (pStmt 5) (rest.length + 1) rest) VNo (run (n + 26) 23 [.ref r] S) := by
  rw [run_23]
  refine sp_fin ?_
  rw [m_opn]
  have e1 : sSet 1 (eLst []) [some (.ref r), none] S = .nx [some (.ref r), some (.ref S.size)] (S.push (.lst [])) := rfl
  rw [sSeq_ev, e1]
  simp only
  rw [sat_seq]
  have nr : S.size ≠ r := by have := H.r_lt; omega
  have nk : S.size ≠ k := by have := H.k_lt; omega
  have l0 := H.len
  refine while_sat (fun j σ S' => ∃ acc rest', j = rest'.length ∧ σ = [some (.ref r), some (.ref S.size)] ∧ RdR S' r k ts rest' 0 ∧ Fr S S' r ∧ S'.get S.size = some (.lst acc) ∧ noRefs acc = true ∧ acc.length + rest'.length ≤ rest.length ∧
    ∃ f, rest'.length < f ∧ pOpen (pStmt 5) f rest' = pOpen (pStmt 5) (rest.length + 1) rest) ?_ 100000 rest.length _ _ (by omega) ⟨[], rest, rfl, rfl, H.push, Fr.push, Store.get_push_same, rfl, by simp, _, by omega, rfl⟩
  rintro j σ S' ⟨acc, rest', rfl, rfl, H', f', hg, hn, hb, f, hf, hR⟩
  obtain ⟨f, rfl⟩ : ∃ g, f = g + 1 := ⟨f - 1, by omega⟩
  obtain ⟨t, q, rfl⟩ := H'.st.cons
  rw [pOpen] at hR
  have ht := H'.tx t (by obtain ⟨p, e, _⟩ := H'.pre; rw [e]; simp)
  have e0 : itemF t.d (.int 0) S' = .ok (.str t.k) S' := rfl
  unfold oTest
  simp only [tOf_ev, eBin_ev, k_cur H' eVar_0, aList_nil, bind_ok', cur_ok (n := n + 24) H', eC_ev, e0, oNe, neF_str ht.k tEND, sat_ok]
  cases hk : t.k == ENDW with
  | true =>
    rw [hk, if_pos rfl] at hR
    simp only [Bool.not_true, Bool.false_eq_true, if_false, sat_ret, eFn_ev, aList_cons, aList_nil, eVar_s, eVar_0, bind_ok', tupleF_list (listAt_ref hg), sat_ok]
    exact ⟨(), t :: q, hR.symm, noRef_tup hn, H', f'⟩
  | false =>
    rw [hk, if_neg Bool.false_ne_true] at hR
    simp only [Bool.not_false, if_true]
    refine put_stm (n := n) (m := 5) (stm_ok 5) rfl H' hg nr (by omega) (fun v S3 r3 e4 hv H3 f3 hg3 => ?_) (fun x S3 ⟨er, e4, hx⟩ => ⟨er, by rw [← hR]; simp only [e4], hx⟩)
    simp only [e4] at hR
    have g3 := (pStmt_goes 5 H'.st e4).lt
    exact ⟨r3.length, by omega, acc ++ [v], r3, rfl, rfl, H3.set_other nr nk, (f'.trans f3).set_new (Nat.le_refl _), Store.get_set_same' hg3, noRefs_app hn (by simp only [noRefs, hv, Bool.and_self]), by rw [List.length_append, List.length_singleton]; omega, f, by omega, hR⟩
/-! ### arrays -/
inductive ArrOk : List (List Nat × List (Int × Term)) → List D → Prop
  | nil : ArrOk [] []
  | snoc {as : List (List Nat × List (Int × Term))} {ds : List D} {x : List Nat} {tm : List (Int × Term)} {ps : List Int} (h : ArrOk as ds) (hp : ∀ s t, tm = [(s, t)] → ps = parts [((t.p : Int), s * t.v)]) : ArrOk (as ++ [(x, tm)]) (ds ++ [.tup [.str x, .tup (ps.map D.int)]])
theorem ArrOk.len {as : List (List Nat × List (Int × Term))} {ds : List D} (h : ArrOk as ds) : ds.length = as.length := by
  induction h with
  | nil => rfl
  | snoc h hp ih => simp [ih]
theorem ArrOk.no {as : List (List Nat × List (Int × Term))} {ds : List D} (h : ArrOk as ds) : noRefs ds = true := by
  induction h with
  | nil => rfl
  | snoc h hp ih => exact noRefs_app ih (by simp only [noRefs, noRef, noRefs_ints, Bool.and_self])
def gBody (call : Nat → FN) : MS := sSeq (sSet 2 (eMeth (me_read_name call) 8 (eVar 0) (aList [])))
    (sDrop (eBm isLst appendF (eVar 1) (aList [eTup [eVar 2, eMeth (me_read_size call) 17 (eVar 0) (aList [])]])))
def gTest (call : Nat → FN) : MT := tTru (eMeth (me_accept call) 5 (eVar 0) (aList [eC (.str wARRAY)]))
def gEnd (call : Nat → FN) : MS := sRet (eTup [eFn tupleF (aList [eVar 1]), eMeth (me_read_open_block call) 19 (eVar 0) (aList [])])
theorem m_prg (call : Nat → FN) : m_24 call = sSeq (sSet 1 (eLst [])) (sSeq (sWhile (gTest call) (gBody call) 100000) (gEnd call)) := rfl
def VProg (as : List (List Nat × List (Int × Term))) (v : D) (_ : Store) : Prop := ∃ ds st, v = .tup [.tup ds, st] ∧ ArrOk as ds ∧ noRef st = true
theorem tARRAY : Txt wARRAY := tW rfl
theorem prg_ok (H : RdR S r k ts rest 0) : Sp S r k ts 0 (pProg rest) VProg (run (n + 27) 24 [.ref r] S) := by
  rw [run_24]
  refine sp_fin ?_
  rw [m_prg]
  have e1 : sSet 1 (eLst []) [some (.ref r), none, none] S = .nx [some (.ref r), some (.ref S.size), none] (S.push (.lst [])) := rfl
  rw [sSeq_ev, e1]
  simp only
  rw [sat_seq]
  have nr : S.size ≠ r := by have := H.r_lt; omega
  have nk : S.size ≠ k := by have := H.k_lt; omega
  have l0 := H.len
  have hE : ∀ er, pArrs (rest.length + 1) [] rest = .error er → pProg rest = .error er := fun er e => by unfold pProg; rw [e]; rfl
  refine while_sat (fun j σ S' => ∃ as acc rest' o, j = rest'.length ∧ σ = [some (.ref r), some (.ref S.size), o] ∧ RdR S' r k ts rest' 0 ∧ Fr S S' r ∧ S'.get S.size = some (.lst acc) ∧ ArrOk as acc ∧ as.length + rest'.length ≤ rest.length ∧
    ∃ f, rest'.length < f ∧ pArrs f as rest' = pArrs (rest.length + 1) [] rest) ?_ 100000 rest.length _ _ (by omega) ⟨[], [], rest, none, rfl, rfl, H.push, Fr.push, Store.get_push_same, .nil, by simp, _, by omega, rfl⟩
  rintro j σ S' ⟨as, acc, rest', o, rfl, rfl, H', f', hg, hA, hb, f, hf, hR⟩
  obtain ⟨f, rfl⟩ : ∃ g, f = g + 1 := ⟨f - 1, by omega⟩
  rw [pArrs] at hR
  unfold gTest
  simp only [tTru_ev, k_acc H' eVar_0, aList_cons, aList_nil, eC_ev, bind_ok', sat_bind]
  refine (acc_ok (n := n + 23) H' tARRAY).mono fun v S2 hv => ?_
  rcases hv with ⟨r2, e3, rfl, H2, f2⟩ | ⟨e3, rfl, rfl⟩
  · simp only [e3] at hR
    simp only [truD_bl, sat_ok, if_true]
    unfold gBody
    simp only [sat_seq, sat_set, k_nam H2 eVar_0, aList_nil, bind_ok']
    refine (nam_ok (n := n + 24) H2).imp (fun v S3 ⟨x, r3, e4, ⟨hv, hx⟩, H3, f3⟩ => ?_) fun x S3 ⟨er, e4, hx⟩ => ⟨er, hE er (by rw [← hR, e4]; rfl), hx⟩
    subst hv
    simp only [e4, andThen] at hR
    have hg3 := f3.get (f2.get hg nr) nr
    show (sDrop _ [some (.ref r), some (.ref S.size), some (.str x)] S3).sat _
    simp only [sat_drop, eBm_ev, eVar_s, eVar_0, bind_ok', isLst_ev hg3, if_true, aList_cons, aList_nil, eTup_ev, k_siz H3 eVar_0, sat_bind]
    refine (siz_ok (n := n + 18) H3).imp (fun v S4 ⟨tm, r4, e5, ⟨ps, hv, hp⟩, H4, f4⟩ => ?_) fun x S4 ⟨er, e5, hx⟩ => ⟨er, hE er (by rw [← hR]; simp only [e5]), hx⟩
    subst hv
    simp only [e5] at hR
    have hg4 := f4.get hg3 nr
    have la := hA.len
    simp only [sat_ok, appendF_ev hg4 (show acc.length < 900000 by omega)]
    have g2 := (pAcc_goes H'.st e3).lt
    have g3 := (pName_goes H2.st e4).lt
    have g4 := (pSum_goes H3.st e5).lt
    exact ⟨r4.length, by omega, as ++ [(x, tm)], _, r4, _, rfl, rfl, H4.set_other nr nk, (f'.trans (f2.trans (f3.trans f4))).set_new (Nat.le_refl _), Store.get_set_same' hg4, .snoc hA hp, by rw [List.length_append, List.length_singleton]; omega, f, by omega, hR⟩
  · simp only [e3] at hR
    simp only [truD_bl, sat_ok, Bool.false_eq_true, if_false]
    unfold gEnd
    simp only [sat_ret, eTup_ev, aList_cons, aList_nil, eFn_ev, eVar_s, eVar_0, bind_ok', tupleF_list (listAt_ref hg), k_opn H' eVar_0, sat_bind]
    refine (opn_ok (n := n) H').imp (fun v S3 ⟨_, r3, e4, hv, H3, f3⟩ => ?_) fun x S3 ⟨er, e4, hx⟩ => ⟨er, by unfold pProg; rw [← hR]; simp only [andThen, e4], hx⟩
    simp only [sat_ok]
    exact ⟨as, r3, by unfold pProg; rw [← hR]; simp only [andThen, e4], ⟨acc, v, rfl, hA, hv⟩, H3, f'.trans f3⟩
end
end L2.Mi.Pg

set_option Elab.async false
set_option linter.all false
set_option maxRecDepth 100000
set_option maxHeartbeats 1000000
/-! The reader of texts, 9: Reader(text), parse. From the template RD9. -/
namespace L2.Mi.Pg
open PySem
abbrev SGS : List Nat := [123, 125, 91, 93, 43, 45, 42]
abbrev KWS : List (List Nat) := [wARRAY, wFOR, wREAD, wWRITE, wFLUSH, [110]]
section
variable {S : Store} {r k : Nat} {ts rest : List Tok} {d n : Nat} {t : Tok} {named : Bool} {l : List Nat}
theorem tokF : TokF KWS (.kt (KWS.map D.str)) (oEq (run (n + 1))) (run (n + 1) 3) (run (n + 1) 4) where
  kq := fun S => rfl
  eI := fun i j S => eqF_int
  eS := fun a b S ha hb => eqF_str ha hb
  kF := fun w S h0 hl ht => by
    rw [run_3]
    have e : m_3 (run n) = kindM lenF (eqF noOwn) := rfl
    rw [e, kind_ok lenF_ok (ks := KWS) (kd := .kt (KWS.map D.str)) rfl h0 hl ht]
    rfl
  eF := fun l r rest a S hl hd ha hr hs => by
    rw [run_4]
    have e : m_4 (run n) = endM lenF := rfl
    rw [e, end_ok lenF_ok hl hd ha hr hs]
    rfl
theorem tok_ok (h : Tk SGS KWS 0 l ts) (hl : l.length ≤ 90000) (hx : Txt l) : run (n + 2) 5 [.str l] S = .ok (.ref S.size) (S.push (.lst (ts.map Tok.d))) := by
  rw [run_5__]
  have e : m_5 (run (n + 1)) = toksM lenF (oEq (run (n + 1))) (run (n + 1) 3) (run (n + 1) 4) := rfl
  rw [e]
  have z := toks_ok (S := S) lenF_ok (tokF (n := n)) (sg := SGS) (by decide) hl hx h
  show fin (toksM _ _ _ _ [some (.str l), some (.str SGS), some (.kt (KWS.map D.str)), none, none, none] S) = _
  rw [z]
  rfl
theorem fld_ev {ok : Nat → Bool} {fi c : Nat} {fs : List (Nat × D)} {mo mv : ME} {σ : En} {S1 : Store} {v : D} (h0 : mv σ S = .ok v S1) (h1 : mo σ S1 = .ok (.ref r) S1) (hg : S1.get r = some (.ins c fs)) (hok : ok c = true) (hl : fs.length < 900) : sFld ok fi mo mv σ S = .nx σ (S1.set r (.ins c (putN fi v fs))) := by
  unfold sFld
  simp only [h0, h1, bind_ok', fldSet, hg, hok, decide_eq_true hl, Bool.and_self, if_true]
/-- a text that is read: its tokens, few parts in each index -/
structure Reads (l : List Nat) (ts : List Tok) : Prop where
  tk : Tk SGS KWS 0 l ts
  ln : l.length ≤ 80000
  tx : Txt l
  sm : ∀ p q, ts = p ++ q → ∀ tm r', pSum true q = .ok (tm, r') → tm.length < 64
theorem mk_ok (h : Reads l ts) : ∃ S', makeW 0 (run (n + 3) 7) [.str l] S = .ok (.ref S.size) S' ∧ RdR S' S.size (S.size + 1) ts ts 0 ∧ Fr S S' S.size := by
  obtain ⟨a1, a2, a3⟩ := tk_all (m := 80000) h.tk h.tx h.ln
  have ht := tok_ok (n := n) (S := S.push (.ins 0 [])) h.tk (by have := h.ln; omega) h.tx
  have hsz : (S.push (.ins 0 [])).size = S.size + 1 := Store.size_push _ _
  rw [hsz] at ht
  generalize hT : Ob.lst (ts.map Tok.d) = T at ht
  have g1 : ((S.push (.ins 0 [])).push T).get S.size = some (.ins 0 []) := by
    rw [Store.get_push_lt (by omega), Store.get_push_same]
  have f1 := fld_ev (ok := st_tokens) (fi := 0) (σ := [some (.ref S.size), some (.str l)]) (mo := eVar 0) (mv := eFn (run (n + 2) 5) (aList [eVar 1])) (S := S.push (.ins 0 [])) (S1 := (S.push (.ins 0 [])).push T) (v := .ref (S.size + 1)) (by
    simp only [eFn_ev, aList_cons, aList_nil, eVar_s, eVar_0, bind_ok', ht]) eVar_0 g1 rfl (by simp)
  have g2 := Store.get_set_same' (o := .ins 0 (putN 0 (.ref (S.size + 1)) [])) g1
  have f2 := fld_ev (ok := st_at) (fi := 1) (σ := [some (.ref S.size), some (.str l)]) (mo := eVar 0) (mv := eC (.int 0)) eC_ev eVar_0 g2 rfl (by simp [putN])
  rw [Store.set_set] at f2
  have g3 := Store.get_set_same' (o := .ins 0 (putN 1 (.int 0) (putN 0 (.ref (S.size + 1)) []))) g1
  have f3 := fld_ev (ok := st_depth) (fi := 2) (σ := [some (.ref S.size), some (.str l)]) (mo := eVar 0) (mv := eC (.int 0)) eC_ev eVar_0 g3 rfl (by simp [putN])
  rw [Store.set_set] at f3
  have hE : Ob.ins 0 (putN 2 (.int 0) (putN 1 (.int 0) (putN 0 (.ref (S.size + 1)) []))) = rdO (S.size + 1) 0 0 := rfl
  rw [hE] at f3
  refine ⟨((S.push (.ins 0 [])).push T).set S.size (rdO (S.size + 1) 0 0), ?_, ⟨⟨[], rfl, Store.get_set_same' g1⟩, ?_, by omega, a2, fun t ht => ?_, by have := h.ln; omega, fun t ht => ?_, h.sm⟩, ⟨by rw [Store.size_set, Store.size_push, Store.size_push]; omega, fun j hj nj => ?_⟩⟩
  · unfold makeW
    rw [run_7]
    have em : m_7 (run (n + 2)) = sSeq (sFld st_tokens 0 (eVar 0) (eFn (run (n + 2) 5) (aList [eVar 1]))) (sSeq (sFld st_at 1 (eVar 0) (eC (.int 0))) (sFld st_depth 2 (eVar 0) (eC (.int 0)))) := rfl
    rw [em]
    simp only [sSeq_ev, f1, f2, f3, fin_nx, bind_ok']
  · rw [Store.get_set_ne (by omega), ← hsz, Store.get_push_same, hT]
  · have z := a1 t ht
    refine ⟨z.k, z.w, z.v, fun hk e => ?_⟩
    have z2 := z.n hk
    rw [e] at z2
    exact absurd z2 (by decide)
  · have := (a1 t ht).l
    omega
  · rw [Store.get_set_ne (Ne.symm nj), Store.get_push_lt (by omega), Store.get_push_lt hj]
theorem prs_ok (h : Reads l ts) : (run (n + 28) 25 [.str l] S).sat (fun v _ => ∃ as rest', pProg ts = .ok (as, rest') ∧ ∃ ds st, v = .tup [.tup ds, st] ∧ ArrOk as ds ∧ noRef st = true) (fun e _ => ∃ er, pProg ts = .error er ∧ e = perrX er) := by
  rw [run_25]
  refine sat_fin ?_
  unfold m_25
  have e0 : isiF isiL [.str l, .ty "str"] S = .ok (.bl true) S := by kernel_rfl
  simp only [sat_seq, sat_if, tNot_ev, tTru_ev, eFn_ev, aList_cons, aList_nil, eVar_0, eC_ev, bind_ok', e0, truD_bl, sat_ok, Bool.not_true, Bool.false_eq_true, if_false, sat_next, sat_ret]
  obtain ⟨S', e1, H, f⟩ := mk_ok (n := n + 24) (S := S) h
  have e2 : eFn (makeW 0 (run (n + 27) 7)) (aList [eVar 0]) [some (.str l)] S = .ok (.ref S.size) S' := by
    simp only [eFn_ev, aList_cons, aList_nil, eVar_0, bind_ok', e1]
  obtain ⟨pre, _, hg⟩ := H.pre
  rw [meth_ev (r := S.size) (g := run (n + 27) 24) e2 hg rfl rfl]
  simp only [aList_nil, bind_ok']
  exact (prg_ok (n := n) H).imp (fun v S2 ⟨as, r', f1, ⟨ds, st, f2, f3, f4⟩, _⟩ => ⟨as, r', f1, ds, st, f2, f3, f4⟩) fun x S2 h => h
end
end L2.Mi.Pg

set_option Elab.async false
set_option linter.all false
set_option maxRecDepth 100000
set_option maxHeartbeats 1000000
/-! The draws. From the template PL. -/
namespace L2.Mi.Pg
open PySem
section
variable {S : Store} {i n : Nat} {w : Int} {E : Xn → Store → Prop}
theorem tk_ok (hp : Pool S i) (w0 : 0 < w) (w1 : w < 2 ^ 31) : ∃ r S', run (n + 1) 29 [.ref i, .int w] S = .ok (.int r) S' ∧ 0 ≤ r ∧ r < w ∧ Pool S' i ∧ Fr S S' i ∧ S'.size = S.size := by
  obtain ⟨r, o, e, h1, h2, h3⟩ := take_ok (oA := oAdd (run n)) (oM := oMul (run n)) opsI_or hp w0 w1
  exact ⟨r, _, by rw [run_29]; exact e, h1, h2, h3, Fr.set, Store.size_set _ _ _⟩
theorem tk (hp : Pool S i) (w0 : 0 < w) (w1 : w < 2 ^ 31) : (run (n + 1) 29 [.ref i, .int w] S).sat (fun v S' => ∃ r, v = .int r ∧ 0 ≤ r ∧ r < w ∧ Pool S' i ∧ Fr S S' i ∧ S'.size = S.size) E := by
  obtain ⟨r, S', e, h⟩ := tk_ok (n := n) hp w0 w1
  rw [e]
  exact ⟨r, rfl, h⟩
theorem pl {ns : List Int} {k : Nat} (hk : k < 1000) (hl : ns.length ≤ 1000) : (run (n + 1) 28 [.fl (ns.map D.int), .int (k : Int)] S).sat (fun v S' => v = .ref S.size ∧ Pool S' S.size ∧ Fr S S' S.size ∧ S'.size = S.size + 1) E := by
  obtain ⟨o, e, h⟩ := pool_ok (lx := lenF) (oA := oAdd (run n)) (oM := oMul (run n)) (S := S) (ns := ns) opsI_or (by rfl) hk hl
  rw [run_28]
  refine sat_eq e ⟨rfl, h, Fr.push, Store.size_push _ _⟩
/-- how many rounds a law goes -/
theorem rounds_ok {ns : List Int} {σ : En} {K : Int} (hK : 0 ≤ K) (hK2 : K ≤ 64) (hl : ns.length ≤ 1000) : ∃ m : Nat, eFn max2F (aList [eC (.int 1), eFn min2F (aList [eFn (lenF) (aList [eVar 0]), eC (.int K)])]) (some (.fl (ns.map D.int)) :: σ) S = .ok (.int (m : Int)) S ∧ m ≤ 64 := by
  have hlen : (lenF) [.fl (ns.map D.int)] S = .ok (.int (ns.length : Int)) S := by
    have z : lenF [.fl (ns.map D.int)] S = .ok (.int (ns.length : Int)) S := by rw [lenF_seq (xs := ns.map D.int) rfl, List.length_map]
    first | exact z | (unfold fnOr; rw [z]; rfl)
  refine ⟨(if (if K < (ns.length : Int) then K else (ns.length : Int)) > 1 then (if K < (ns.length : Int) then K else (ns.length : Int)) else 1).toNat, ?_, ?_⟩
  · simp only [eFn_ev, aList_cons, aList_nil, eC_ev, eVar_0, bind_ok', hlen, min2F, max2F_ev]
    congr 2
    split <;> split <;> omega
  · split <;> split <;> omega
end
end L2.Mi.Pg

set_option Elab.async false
set_option linter.all false
set_option maxRecDepth 100000
set_option maxHeartbeats 2000000
/-! k05, 1: parse as it is heard. -/
namespace L2.Mi.Pg
open PySem
section
variable {S : Store} {n : Nat} {l : List Nat} {ts : List Tok} {σ : En}
def er {β : Type} : PR β → Option PErr
  | .ok _ => none
  | .error e => some e
abbrev FINE : List Nat := [102, 105, 110, 101]
def hdD : Option PErr → D
  | none => .str FINE
  | some (.big w) => .str w
  | some (.syn p) => .int (p : Int)
  | some .none => .non
abbrev HDS : List Hd1 := [⟨3, some 1, xF 3 7⟩, ⟨2, some 1, xF 2 6⟩, ⟨1, some 1, xLv [xC (.str [116, 101, 120, 116]), xFn (reprF 8) [xF 1 20]]⟩]
/-- a pure call that ends as res says -/
def Ends {β : Type} (f : FN) (xs : List D) (res : PR β) : Prop := ∀ S, (∃ v, er res = none ∧ pureF f xs S = .ok v S) ∨ ∃ e, er res = some e ∧ pureF f xs S = .exc (perrX e) S
theorem noRef_err (e : PErr) : noRefF (perrX e).fs = true := by cases e <;> rfl
theorem ends_of {β : Type} {f : FN} {xs : List D} {res : PR β} (hx : noRefs xs = true) (h : (f xs ⟨[]⟩).sat (fun v _ => er res = none ∧ noRef v = true) (fun x _ => ∃ e, res = .error e ∧ x = perrX e)) : Ends f xs res := by
  intro S
  unfold pureF
  rw [if_pos hx]
  cases q : f xs ⟨[]⟩ with
  | ok v S1 =>
    rw [q] at h
    obtain ⟨h1, h2⟩ := h
    exact .inl ⟨v, h1, by simp only [h2, if_true]⟩
  | exc x S1 =>
    rw [q] at h
    obtain ⟨e, h1, rfl⟩ := h
    exact .inr ⟨e, by rw [h1]; rfl, by simp only [noRef_err, if_true]⟩
  | bad => rw [q] at h; exact h.elim
theorem parse_ends (h : Reads l ts) : Ends (run (n + 28) 25) [.str l] (pProg ts) := by
  refine ends_of rfl ((prs_ok (n := n) h).imp (fun v S2 ⟨as, r', e1, ds, st, e2, e3, e4⟩ => ⟨by rw [e1]; rfl, ?_⟩) fun x S2 h => h)
  subst e2
  have z := e3.no
  simp only [noRef, noRefs, z, e4, Bool.and_self]
/-- heard -/
theorem heard_ok {β : Type} {f : FN} {xs : List D} {res : PR β} {ma : MA} (h : Ends f xs res) (ha : ma σ S = .ok xs S) (hn : er res ≠ some .none) : eHeard isxL 2 (.str FINE) HDS (eFn (pureF f) ma) σ S = .ok (hdD (er res)) S := by
  unfold eHeard
  rw [eFn_ev, ha, bind_ok']
  rcases h S with ⟨v, h1, h2⟩ | ⟨e, h1, h2⟩
  · rw [h2, h1]
    rfl
  · rw [h2, h1]
    cases e with
    | syn p => kernel_rfl
    | big w => kernel_rfl
    | none => exact absurd h1 hn
end
end L2.Mi.Pg

set_option Elab.async false
set_option linter.all false
set_option maxRecDepth 100000
set_option maxHeartbeats 2000000
/-! k05, 2: parse_size as it is heard. -/
namespace L2.Mi.Pg
open PySem
section
variable {S : Store} {r k d n : Nat} {l : List Nat} {ts rest : List Tok} {σ : En}
def pEnd : List Tok → PR Unit
  | t :: q => if t.k == ENDW then .ok ((), t :: q) else .error (.syn t.p)
  | [] => .error .none
def pSize (ts : List Tok) : PR Unit := andThen (pSum false ts) fun _ q => pEnd q
theorem k_end {m : Nat} {mo : ME} {ma : MA} {σ : En} (H : RdR S r k ts rest d) (h0 : mo σ S = .ok (.ref r) S) (fi : Nat) (hl : ∀ k i d : D, [(0, k), (1, i), (2, d)].lookup fi = none) : eMeth (me_read_end (run m)) fi mo ma σ S = (ma σ S).bind fun xs S2 => run m 22 (.ref r :: xs) S2 := rd_meth H h0 rfl hl
theorem end_ok2 (H : RdR S r k ts rest d) : Sp S r k ts d (pEnd rest) (fun _ _ _ => True) (run (n + 3) 22 [.ref r] S) := by
  unfold Sp
  rw [run_22]
  refine sat_fin ?_
  unfold m_22
  obtain ⟨t, q, rfl⟩ := H.st.cons
  have e0 : itemF t.d (.int 0) S = .ok (.str t.k) S := rfl
  have e2 : itemF t.d (.int 2) S = .ok (.int (t.p : Int)) S := rfl
  obtain ⟨pre, he, _⟩ := H.pre
  have e1 : oNe (run (n + 2)) (.str t.k) (.str ENDW) S = .ok (.bl (!(t.k == ENDW))) S := neF_str (H.tx t (by rw [he]; simp)).k tEND
  simp only [sat_if, tOf_ev, eBin_ev, k_cur H eVar_0, aList_nil, bind_ok', cur_ok (n := n + 1) H, eC_ev, e0, e1, sat_ok]
  by_cases hk : (t.k == ENDW) = true
  · simp only [hk, Bool.not_true, Bool.false_eq_true, if_false, sat_next]
    exact ⟨(), _, by simp only [pEnd, hk, if_true], trivial, H, Fr.refl⟩
  · have hk : (t.k == ENDW) = false := by simpa using hk
    simp only [hk, Bool.not_false, if_true, sat_raise, eBin_ev, k_cur H eVar_0, aList_nil, bind_ok', cur_ok (n := n + 1) H, eC_ev, e2, sat_ok]
    exact ⟨.syn t.p, by simp only [pEnd, hk, Bool.false_eq_true, if_false], rfl⟩
theorem size_sat (h : Reads l ts) : (run (n + 28) 26 [.str l] S).sat (fun v _ => er (pSize ts) = none ∧ noRef v = true) (fun x _ => ∃ e, pSize ts = .error e ∧ x = perrX e) := by
  rw [run_26]
  refine sat_fin ?_
  unfold m_26
  have e0 : isiF isiL [.str l, .ty "str"] S = .ok (.bl true) S := by kernel_rfl
  obtain ⟨S1, e1, H, f⟩ := mk_ok (n := n + 24) (S := S) h
  simp only [sat_seq, sat_if, tNot_ev, tTru_ev, eFn_ev, aList_cons, aList_nil, eVar_0, eC_ev, bind_ok', e0, truD_bl, sat_ok, Bool.not_true, Bool.false_eq_true, if_false, sat_next, sat_set, e1, List.set_cons_succ, List.set_cons_zero]
  simp only [k_siz H (show eVar 1 [some (.str l), some (.ref S.size), none] S1 = .ok (.ref S.size) S1 from rfl), aList_nil, bind_ok', sat_bind]
  refine (siz_ok (n := n + 19) H).imp (fun v S2 ⟨b, q, z1, ⟨ps, z2, _⟩, H2, f2⟩ => ?_) fun x S2 ⟨e, z1, z2⟩ => ⟨e, by unfold pSize andThen; rw [z1], z2⟩
  subst z2
  simp only [sat_drop, k_end H2 (show eVar 1 [some (.str l), some (.ref S.size), some (.tup (ps.map D.int))] S2 = .ok (.ref S.size) S2 from rfl) 22 (fun _ _ _ => rfl), aList_nil, bind_ok', sat_bind]
  refine (end_ok2 (n := n + 24) H2).imp (fun v S3 ⟨b2, q2, y1, _⟩ => ?_) fun x S3 ⟨e, y1, y2⟩ => ⟨e, by unfold pSize andThen; rw [z1]; exact y1, y2⟩
  simp only [sat_ret]
  exact ⟨by unfold pSize andThen; rw [z1]; simp only [y1]; rfl, noRef_tup (noRefs_ints ps)⟩
theorem size_ends (h : Reads l ts) : Ends (run (n + 28) 26) [.str l] (pSize ts) := ends_of rfl (size_sat h)
end
end L2.Mi.Pg

set_option Elab.async false
set_option linter.all false
set_option maxRecDepth 100000
set_option maxHeartbeats 2000000
/-! k05, 3: the texts are read. -/
namespace L2.Mi.Pg
open PySem
section
variable {S : Store} {n : Nat} {l A B w : List Nat} {ts ta tb : List Tok} {f g : Nat}
theorem kws1 : ∀ k ∈ KWS, ∀ c t, k = c :: t → 57 < c := by
  intro k hk c t e
  simp only [List.mem_cons, List.not_mem_nil, or_false] at hk
  rcases hk with rfl | rfl | rfl | rfl | rfl | rfl <;> (cases e; decide)
theorem kws2 : ∀ k ∈ KWS, k ≠ [] := by
  intro k hk
  simp only [List.mem_cons, List.not_mem_nil, or_false] at hk
  rcases hk with rfl | rfl | rfl | rfl | rfl | rfl <;> simp
theorem reads_of (h : Tk SGS KWS 0 l ts) (hl : l.length ≤ 80000) (hx : Txt l) (hs : ts.length < 64) : Reads l ts := by
  obtain ⟨_, a2, _⟩ := tk_all (m := 80000) h hx hl
  exact ⟨h, hl, hx, few_sums a2 hs⟩
/-- a written text -/
theorem reads_c (h : tkE SGS KWS f 0 l = some ts) (hl : l.length ≤ 80000) (hx : l.all (· < 0x110000) = true) (hs : ts.length < 64) : Reads l ts := reads_of (tkE_ok f 0 l h) hl (tW hx) hs
/-- written, a number, written -/
theorem reads_n (hw : Num w) (hA : tkP SGS KWS f 0 A = some ta) (hB : tkE SGS KWS g (A.length + w.length) B = some tb) (hb : ∀ c t, B = c :: t → LD c = false) (hl : A.length + (w.length + B.length) ≤ 80000)
    (hxa : A.all (· < 0x110000) = true) (hxb : B.all (· < 0x110000) = true) (hs : ta.length + (tb.length + 1) < 64) : Reads (A ++ (w ++ B)) (ta ++ ⟨NUMB, w, A.length⟩ :: tb) :=
  reads_of (tk_num hw kws1 kws2 hA hB hb) (by simpa using hl) ((tW hxa).app (hw.txt.app (tW hxb))) (by simpa using hs)
end
end L2.Mi.Pg

set_option Elab.async false
set_option linter.all false
set_option maxRecDepth 100000
set_option maxHeartbeats 2000000
/-! k05, 4: the ten texts. -/
namespace L2.Mi.Pg
open PySem
section
variable {S : Store} {n : Nat} {f : Nat → Nat}
def nw (L : Nat) (f : Nat → Nat) : List Nat := (List.range L).map f
/-- n*n*.. -/
def pws : Nat → List Nat
  | 0 => []
  | 1 => [110]
  | k + 2 => [110, 42] ++ pws (k + 1)
def reps (l : List Nat) : Nat → List Nat
  | 0 => []
  | k + 1 => l ++ reps l k
def loops (d : Nat) (x : List Nat) : List Nat := reps [102, 111, 114, 32, 105, 32, 110, 32, 123, 32] d ++ (x ++ reps [32, 125] d)
def txs (w : List Nat) (p d : Nat) : List (List Nat) := [[97, 114, 114, 97, 121, 32, 97, 32] ++ (w ++ []), [97, 114, 114, 97, 121, 32, 97, 32, 110, 32, 43, 32] ++ (w ++ [42, 110]), [102, 111, 114, 32, 105, 32, 45, 32] ++ (w ++ [32, 123, 32, 125]), [114, 101, 97, 100, 32, 97, 91] ++ (w ++ [42, 105, 93]), [114, 101, 97, 100, 32, 97, 91, 105, 32, 43, 32] ++ (w ++ [93]), [97, 114, 114, 97, 121, 32, 97, 32] ++ pws p, [114, 101, 97, 100, 32, 97, 91, 51, 42] ++ (pws p ++ [42, 105, 93]), [102, 111, 114, 32, 105, 32, 50, 32, 45, 32] ++ (pws p ++ [32, 123, 32, 125]), loops d [102, 108, 117, 115, 104], loops (d - 1) [102, 111, 114, 32, 106, 32, 110, 32, 123, 32, 114, 101, 97, 100, 32, 97, 91, 106, 93, 32, 125, 32, 102, 108, 117, 115, 104]]
structure PD (L p d : Nat) : Prop where
  l : L = 149 ∨ L = 150 ∨ L = 151 ∨ L = 152
  p : p = 2 ∨ p = 3 ∨ p = 4 ∨ p = 5
  d : d = 4 ∨ d = 5 ∨ d = 6 ∨ d = 7
theorem texts_ok {L p d : Nat} (h : PD L p d) : run (n + 3) 32 [.str (nw L f), .int (p : Int), .int (d : Int)] S = .ok (.lv ((txs (nw L f) p d).map D.str)) S := by
  obtain ⟨h1, h2, h3⟩ := h
  rcases h1 with rfl | rfl | rfl | rfl <;> rcases h2 with rfl | rfl | rfl | rfl <;> rcases h3 with rfl | rfl | rfl | rfl <;> kernel_rfl
def dueE (i L p d : Nat) : Option PErr := if i < 5 then (if 150 < L then some (.big NUMBERS) else none) else if i < 8 then (if 3 < p then some (.big DEGREE) else none) else if 5 < d then some (.big NESTING) else none
theorem due_ok {i L p d : Nat} (h : PD L p d) (hi : i < 10) : run (n + 1) 33 [.int (i : Int), .int (L : Int), .int (p : Int), .int (d : Int)] S = .ok (hdD (dueE i L p d)) S := by
  obtain ⟨h1, h2, h3⟩ := h
  have hj : i = 0 ∨ i = 1 ∨ i = 2 ∨ i = 3 ∨ i = 4 ∨ i = 5 ∨ i = 6 ∨ i = 7 ∨ i = 8 ∨ i = 9 := by omega
  rcases hj with rfl | rfl | rfl | rfl | rfl | rfl | rfl | rfl | rfl | rfl <;> rcases h1 with rfl | rfl | rfl | rfl <;> rcases h2 with rfl | rfl | rfl | rfl <;> rcases h3 with rfl | rfl | rfl | rfl <;> kernel_rfl
end
end L2.Mi.Pg

set_option Elab.async false
set_option linter.all false
set_option maxRecDepth 100000
set_option maxHeartbeats 2000000
/-! k05, 5: what the texts are read as. -/
namespace L2.Mi.Pg
open PySem
section
variable {S : Store} {n : Nat} {f : Nat → Nat} {L : Nat} {A B l : List Nat}
theorem nw_len : (nw L f).length = L := by simp [nw]
def tsN (A B w : List Nat) (L : Nat) : List Tok := (tkP SGS KWS 99 0 A).getD [] ++ ⟨NUMB, w, A.length⟩ :: (tkE SGS KWS 99 (A.length + L) B).getD []
def tsC (l : List Nat) : List Tok := (tkE SGS KWS 999 0 l).getD []
def chkN (A B : List Nat) (L : Nat) : Bool := (tkP SGS KWS 99 0 A).isSome && ((tkE SGS KWS 99 (A.length + L) B).isSome && ((match B with | [] => true | c :: _ => !LD c) && (decide (A.length + (L + B.length) ≤ 80000) && (A.all (· < 0x110000) && (B.all (· < 0x110000) &&
  decide (((tkP SGS KWS 99 0 A).getD []).length + (((tkE SGS KWS 99 (A.length + L) B).getD []).length + 1) < 64))))))
def chkC (l : List Nat) : Bool := (tkE SGS KWS 999 0 l).isSome && (decide (l.length ≤ 80000) && (l.all (· < 0x110000) && decide ((tsC l).length < 64)))
theorem some_getD {α : Type} {o : Option (List α)} (h : o.isSome = true) : o = some (o.getD []) := by
  cases o with
  | none => cases h
  | some x => rfl
theorem rd_num (hw : Num (nw L f)) (h : chkN A B L = true) : Reads (A ++ (nw L f ++ B)) (tsN A B (nw L f) L) := by
  obtain ⟨h1, h⟩ := ba h
  obtain ⟨h2, h⟩ := ba h
  obtain ⟨h3, h⟩ := ba h
  obtain ⟨h4, h⟩ := ba h
  obtain ⟨h5, h⟩ := ba h
  obtain ⟨h6, h7⟩ := ba h
  refine reads_n hw (some_getD h1) (by rw [nw_len]; exact some_getD h2) (fun c t e => ?_) (by rw [nw_len]; exact of_decide_eq_true h4) h5 h6 (of_decide_eq_true h7)
  subst e
  simpa using h3
theorem rd_cls (h : chkC l = true) : Reads l (tsC l) := by
  obtain ⟨h1, h⟩ := ba h
  obtain ⟨h2, h⟩ := ba h
  obtain ⟨h3, h4⟩ := ba h
  exact reads_c (some_getD h1) (of_decide_eq_true h2) h3 (of_decide_eq_true h4)
end
end L2.Mi.Pg

set_option Elab.async false
set_option linter.all false
set_option maxRecDepth 100000
set_option maxHeartbeats 2000000
/-! k05, 6: the texts with a number. Printed by mk05f.py. -/
namespace L2.Mi.Pg
open PySem
section
variable {f : Nat → Nat} {L : Nat}
theorem na_0 (h : L = 149 ∨ L = 150 ∨ L = 151 ∨ L = 152) (hw : Num (nw L f)) : ∃ ts, Reads ([97, 114, 114, 97, 121, 32, 97, 32] ++ (nw L f ++ [])) ts ∧ er (pProg ts) = (if 150 < L then some (.big NUMBERS) else none) := by
  rcases h with rfl | rfl | rfl | rfl <;> exact ⟨_, rd_num hw (by kernel_rfl), by kernel_rfl⟩
theorem nb_0 (h : L = 149 ∨ L = 150 ∨ L = 151 ∨ L = 152) (hw : Num (nw L f)) : ∃ ts, Reads ([97, 114, 114, 97, 121, 32, 97, 32] ++ (nw L f ++ [32, 93])) ts ∧ er (pProg ts) = (if 150 < L then some (.big NUMBERS) else some (.syn (9 + L))) := by
  rcases h with rfl | rfl | rfl | rfl <;> exact ⟨_, rd_num hw (by kernel_rfl), by kernel_rfl⟩
theorem nc_0 (h : L = 149 ∨ L = 150 ∨ L = 151 ∨ L = 152) (hw : Num (nw L f)) : ∃ ts, Reads ([102, 108, 117, 115, 104, 32, 125, 32, 97, 114, 114, 97, 121, 32, 97, 32] ++ (nw L f ++ [])) ts ∧ er (pProg ts) = some (.syn 6) := by
  rcases h with rfl | rfl | rfl | rfl <;> exact ⟨_, rd_num hw (by kernel_rfl), by kernel_rfl⟩
theorem na_1 (h : L = 149 ∨ L = 150 ∨ L = 151 ∨ L = 152) (hw : Num (nw L f)) : ∃ ts, Reads ([97, 114, 114, 97, 121, 32, 97, 32, 110, 32, 43, 32] ++ (nw L f ++ [42, 110])) ts ∧ er (pProg ts) = (if 150 < L then some (.big NUMBERS) else none) := by
  rcases h with rfl | rfl | rfl | rfl <;> exact ⟨_, rd_num hw (by kernel_rfl), by kernel_rfl⟩
theorem nb_1 (h : L = 149 ∨ L = 150 ∨ L = 151 ∨ L = 152) (hw : Num (nw L f)) : ∃ ts, Reads ([97, 114, 114, 97, 121, 32, 97, 32, 110, 32, 43, 32] ++ (nw L f ++ [42, 110, 32, 93])) ts ∧ er (pProg ts) = (if 150 < L then some (.big NUMBERS) else some (.syn (15 + L))) := by
  rcases h with rfl | rfl | rfl | rfl <;> exact ⟨_, rd_num hw (by kernel_rfl), by kernel_rfl⟩
theorem nc_1 (h : L = 149 ∨ L = 150 ∨ L = 151 ∨ L = 152) (hw : Num (nw L f)) : ∃ ts, Reads ([102, 108, 117, 115, 104, 32, 125, 32, 97, 114, 114, 97, 121, 32, 97, 32, 110, 32, 43, 32] ++ (nw L f ++ [42, 110])) ts ∧ er (pProg ts) = some (.syn 6) := by
  rcases h with rfl | rfl | rfl | rfl <;> exact ⟨_, rd_num hw (by kernel_rfl), by kernel_rfl⟩
theorem na_2 (h : L = 149 ∨ L = 150 ∨ L = 151 ∨ L = 152) (hw : Num (nw L f)) : ∃ ts, Reads ([102, 111, 114, 32, 105, 32, 45, 32] ++ (nw L f ++ [32, 123, 32, 125])) ts ∧ er (pProg ts) = (if 150 < L then some (.big NUMBERS) else none) := by
  rcases h with rfl | rfl | rfl | rfl <;> exact ⟨_, rd_num hw (by kernel_rfl), by kernel_rfl⟩
theorem nb_2 (h : L = 149 ∨ L = 150 ∨ L = 151 ∨ L = 152) (hw : Num (nw L f)) : ∃ ts, Reads ([102, 111, 114, 32, 105, 32, 45, 32] ++ (nw L f ++ [32, 123, 32, 125, 32, 93])) ts ∧ er (pProg ts) = (if 150 < L then some (.big NUMBERS) else some (.syn (13 + L))) := by
  rcases h with rfl | rfl | rfl | rfl <;> exact ⟨_, rd_num hw (by kernel_rfl), by kernel_rfl⟩
theorem nc_2 (h : L = 149 ∨ L = 150 ∨ L = 151 ∨ L = 152) (hw : Num (nw L f)) : ∃ ts, Reads ([102, 108, 117, 115, 104, 32, 125, 32, 102, 111, 114, 32, 105, 32, 45, 32] ++ (nw L f ++ [32, 123, 32, 125])) ts ∧ er (pProg ts) = some (.syn 6) := by
  rcases h with rfl | rfl | rfl | rfl <;> exact ⟨_, rd_num hw (by kernel_rfl), by kernel_rfl⟩
theorem na_3 (h : L = 149 ∨ L = 150 ∨ L = 151 ∨ L = 152) (hw : Num (nw L f)) : ∃ ts, Reads ([114, 101, 97, 100, 32, 97, 91] ++ (nw L f ++ [42, 105, 93])) ts ∧ er (pProg ts) = (if 150 < L then some (.big NUMBERS) else none) := by
  rcases h with rfl | rfl | rfl | rfl <;> exact ⟨_, rd_num hw (by kernel_rfl), by kernel_rfl⟩
theorem nb_3 (h : L = 149 ∨ L = 150 ∨ L = 151 ∨ L = 152) (hw : Num (nw L f)) : ∃ ts, Reads ([114, 101, 97, 100, 32, 97, 91] ++ (nw L f ++ [42, 105, 93, 32, 93])) ts ∧ er (pProg ts) = (if 150 < L then some (.big NUMBERS) else some (.syn (11 + L))) := by
  rcases h with rfl | rfl | rfl | rfl <;> exact ⟨_, rd_num hw (by kernel_rfl), by kernel_rfl⟩
theorem nc_3 (h : L = 149 ∨ L = 150 ∨ L = 151 ∨ L = 152) (hw : Num (nw L f)) : ∃ ts, Reads ([102, 108, 117, 115, 104, 32, 125, 32, 114, 101, 97, 100, 32, 97, 91] ++ (nw L f ++ [42, 105, 93])) ts ∧ er (pProg ts) = some (.syn 6) := by
  rcases h with rfl | rfl | rfl | rfl <;> exact ⟨_, rd_num hw (by kernel_rfl), by kernel_rfl⟩
theorem na_4 (h : L = 149 ∨ L = 150 ∨ L = 151 ∨ L = 152) (hw : Num (nw L f)) : ∃ ts, Reads ([114, 101, 97, 100, 32, 97, 91, 105, 32, 43, 32] ++ (nw L f ++ [93])) ts ∧ er (pProg ts) = (if 150 < L then some (.big NUMBERS) else none) := by
  rcases h with rfl | rfl | rfl | rfl <;> exact ⟨_, rd_num hw (by kernel_rfl), by kernel_rfl⟩
theorem nb_4 (h : L = 149 ∨ L = 150 ∨ L = 151 ∨ L = 152) (hw : Num (nw L f)) : ∃ ts, Reads ([114, 101, 97, 100, 32, 97, 91, 105, 32, 43, 32] ++ (nw L f ++ [93, 32, 93])) ts ∧ er (pProg ts) = (if 150 < L then some (.big NUMBERS) else some (.syn (13 + L))) := by
  rcases h with rfl | rfl | rfl | rfl <;> exact ⟨_, rd_num hw (by kernel_rfl), by kernel_rfl⟩
theorem nc_4 (h : L = 149 ∨ L = 150 ∨ L = 151 ∨ L = 152) (hw : Num (nw L f)) : ∃ ts, Reads ([102, 108, 117, 115, 104, 32, 125, 32, 114, 101, 97, 100, 32, 97, 91, 105, 32, 43, 32] ++ (nw L f ++ [93])) ts ∧ er (pProg ts) = some (.syn 6) := by
  rcases h with rfl | rfl | rfl | rfl <;> exact ⟨_, rd_num hw (by kernel_rfl), by kernel_rfl⟩
end
end L2.Mi.Pg

set_option Elab.async false
set_option linter.all false
set_option maxRecDepth 100000
set_option maxHeartbeats 2000000
/-! k05, 7: the written texts. Printed by mk05g.py. -/
namespace L2.Mi.Pg
open PySem
section
variable {f : Nat → Nat} {L p d : Nat}
theorem ca_5 (h : p = 2 ∨ p = 3 ∨ p = 4 ∨ p = 5) : ∃ ts, Reads ([97, 114, 114, 97, 121, 32, 97, 32] ++ pws p) ts ∧ er (pProg ts) = (if 3 < p then some (.big DEGREE) else none) := by
  rcases h with rfl | rfl | rfl | rfl <;> exact ⟨_, rd_cls (by kernel_rfl), by kernel_rfl⟩
theorem cb_5 (h : p = 2 ∨ p = 3 ∨ p = 4 ∨ p = 5) : ∃ ts, Reads (([97, 114, 114, 97, 121, 32, 97, 32] ++ pws p) ++ [32, 93]) ts ∧ er (pProg ts) = (if 3 < p then some (.big DEGREE) else some (.syn (([97, 114, 114, 97, 121, 32, 97, 32] ++ pws p).length + 1))) := by
  rcases h with rfl | rfl | rfl | rfl <;> exact ⟨_, rd_cls (by kernel_rfl), by kernel_rfl⟩
theorem cc_5 (h : p = 2 ∨ p = 3 ∨ p = 4 ∨ p = 5) : ∃ ts, Reads ([102, 108, 117, 115, 104, 32, 125, 32] ++ ([97, 114, 114, 97, 121, 32, 97, 32] ++ pws p)) ts ∧ er (pProg ts) = some (.syn 6) := by
  rcases h with rfl | rfl | rfl | rfl <;> exact ⟨_, rd_cls (by kernel_rfl), by kernel_rfl⟩
theorem ca_6 (h : p = 2 ∨ p = 3 ∨ p = 4 ∨ p = 5) : ∃ ts, Reads ([114, 101, 97, 100, 32, 97, 91, 51, 42] ++ (pws p ++ [42, 105, 93])) ts ∧ er (pProg ts) = (if 3 < p then some (.big DEGREE) else none) := by
  rcases h with rfl | rfl | rfl | rfl <;> exact ⟨_, rd_cls (by kernel_rfl), by kernel_rfl⟩
theorem cb_6 (h : p = 2 ∨ p = 3 ∨ p = 4 ∨ p = 5) : ∃ ts, Reads (([114, 101, 97, 100, 32, 97, 91, 51, 42] ++ (pws p ++ [42, 105, 93])) ++ [32, 93]) ts ∧ er (pProg ts) = (if 3 < p then some (.big DEGREE) else some (.syn (([114, 101, 97, 100, 32, 97, 91, 51, 42] ++ (pws p ++ [42, 105, 93])).length + 1))) := by
  rcases h with rfl | rfl | rfl | rfl <;> exact ⟨_, rd_cls (by kernel_rfl), by kernel_rfl⟩
theorem cc_6 (h : p = 2 ∨ p = 3 ∨ p = 4 ∨ p = 5) : ∃ ts, Reads ([102, 108, 117, 115, 104, 32, 125, 32] ++ ([114, 101, 97, 100, 32, 97, 91, 51, 42] ++ (pws p ++ [42, 105, 93]))) ts ∧ er (pProg ts) = some (.syn 6) := by
  rcases h with rfl | rfl | rfl | rfl <;> exact ⟨_, rd_cls (by kernel_rfl), by kernel_rfl⟩
theorem ca_7 (h : p = 2 ∨ p = 3 ∨ p = 4 ∨ p = 5) : ∃ ts, Reads ([102, 111, 114, 32, 105, 32, 50, 32, 45, 32] ++ (pws p ++ [32, 123, 32, 125])) ts ∧ er (pProg ts) = (if 3 < p then some (.big DEGREE) else none) := by
  rcases h with rfl | rfl | rfl | rfl <;> exact ⟨_, rd_cls (by kernel_rfl), by kernel_rfl⟩
theorem cb_7 (h : p = 2 ∨ p = 3 ∨ p = 4 ∨ p = 5) : ∃ ts, Reads (([102, 111, 114, 32, 105, 32, 50, 32, 45, 32] ++ (pws p ++ [32, 123, 32, 125])) ++ [32, 93]) ts ∧ er (pProg ts) = (if 3 < p then some (.big DEGREE) else some (.syn (([102, 111, 114, 32, 105, 32, 50, 32, 45, 32] ++ (pws p ++ [32, 123, 32, 125])).length + 1))) := by
  rcases h with rfl | rfl | rfl | rfl <;> exact ⟨_, rd_cls (by kernel_rfl), by kernel_rfl⟩
theorem cc_7 (h : p = 2 ∨ p = 3 ∨ p = 4 ∨ p = 5) : ∃ ts, Reads ([102, 108, 117, 115, 104, 32, 125, 32] ++ ([102, 111, 114, 32, 105, 32, 50, 32, 45, 32] ++ (pws p ++ [32, 123, 32, 125]))) ts ∧ er (pProg ts) = some (.syn 6) := by
  rcases h with rfl | rfl | rfl | rfl <;> exact ⟨_, rd_cls (by kernel_rfl), by kernel_rfl⟩
theorem ca_8 (h : d = 4 ∨ d = 5 ∨ d = 6 ∨ d = 7) : ∃ ts, Reads (loops d [102, 108, 117, 115, 104]) ts ∧ er (pProg ts) = (if 5 < d then some (.big NESTING) else none) := by
  rcases h with rfl | rfl | rfl | rfl <;> exact ⟨_, rd_cls (by kernel_rfl), by kernel_rfl⟩
theorem cb_8 (h : d = 4 ∨ d = 5 ∨ d = 6 ∨ d = 7) : ∃ ts, Reads ((loops d [102, 108, 117, 115, 104]) ++ [32, 93]) ts ∧ er (pProg ts) = (if 5 < d then some (.big NESTING) else some (.syn ((loops d [102, 108, 117, 115, 104]).length + 1))) := by
  rcases h with rfl | rfl | rfl | rfl <;> exact ⟨_, rd_cls (by kernel_rfl), by kernel_rfl⟩
theorem cc_8 (h : d = 4 ∨ d = 5 ∨ d = 6 ∨ d = 7) : ∃ ts, Reads ([102, 108, 117, 115, 104, 32, 125, 32] ++ (loops d [102, 108, 117, 115, 104])) ts ∧ er (pProg ts) = some (.syn 6) := by
  rcases h with rfl | rfl | rfl | rfl <;> exact ⟨_, rd_cls (by kernel_rfl), by kernel_rfl⟩
theorem ca_9 (h : d = 4 ∨ d = 5 ∨ d = 6 ∨ d = 7) : ∃ ts, Reads (loops (d - 1) [102, 111, 114, 32, 106, 32, 110, 32, 123, 32, 114, 101, 97, 100, 32, 97, 91, 106, 93, 32, 125, 32, 102, 108, 117, 115, 104]) ts ∧ er (pProg ts) = (if 5 < d then some (.big NESTING) else none) := by
  rcases h with rfl | rfl | rfl | rfl <;> exact ⟨_, rd_cls (by kernel_rfl), by kernel_rfl⟩
theorem cb_9 (h : d = 4 ∨ d = 5 ∨ d = 6 ∨ d = 7) : ∃ ts, Reads ((loops (d - 1) [102, 111, 114, 32, 106, 32, 110, 32, 123, 32, 114, 101, 97, 100, 32, 97, 91, 106, 93, 32, 125, 32, 102, 108, 117, 115, 104]) ++ [32, 93]) ts ∧ er (pProg ts) = (if 5 < d then some (.big NESTING) else some (.syn ((loops (d - 1) [102, 111, 114, 32, 106, 32, 110, 32, 123, 32, 114, 101, 97, 100, 32, 97, 91, 106, 93, 32, 125, 32, 102, 108, 117, 115, 104]).length + 1))) := by
  rcases h with rfl | rfl | rfl | rfl <;> exact ⟨_, rd_cls (by kernel_rfl), by kernel_rfl⟩
theorem cc_9 (h : d = 4 ∨ d = 5 ∨ d = 6 ∨ d = 7) : ∃ ts, Reads ([102, 108, 117, 115, 104, 32, 125, 32] ++ (loops (d - 1) [102, 111, 114, 32, 106, 32, 110, 32, 123, 32, 114, 101, 97, 100, 32, 97, 91, 106, 93, 32, 125, 32, 102, 108, 117, 115, 104])) ts ∧ er (pProg ts) = some (.syn 6) := by
  rcases h with rfl | rfl | rfl | rfl <;> exact ⟨_, rd_cls (by kernel_rfl), by kernel_rfl⟩
theorem sa (h : L = 149 ∨ L = 150 ∨ L = 151 ∨ L = 152) (hw : Num (nw L f)) : ∃ ts, Reads ([] ++ (nw L f ++ [])) ts ∧ er (pSize ts) = (if 150 < L then some (.big NUMBERS) else none) := by
  rcases h with rfl | rfl | rfl | rfl <;> exact ⟨_, rd_num hw (by kernel_rfl), by kernel_rfl⟩
theorem sb (h : L = 149 ∨ L = 150 ∨ L = 151 ∨ L = 152) (hw : Num (nw L f)) : ∃ ts, Reads ([110, 42] ++ (nw L f ++ [])) ts ∧ er (pSize ts) = some (.syn 2) := by
  rcases h with rfl | rfl | rfl | rfl <;> exact ⟨_, rd_num hw (by kernel_rfl), by kernel_rfl⟩
theorem sc (h : L = 149 ∨ L = 150 ∨ L = 151 ∨ L = 152) (hw : Num (nw L f)) : ∃ ts, Reads ([102, 111, 114, 32] ++ (nw L f ++ [])) ts ∧ er (pProg ts) = some (.syn 4) := by
  rcases h with rfl | rfl | rfl | rfl <;> exact ⟨_, rd_num hw (by kernel_rfl), by kernel_rfl⟩
theorem za : ∃ ts, Reads (reps [102, 111, 114, 32, 105, 32, 110, 32, 123] 9) ts ∧ er (pProg ts) = some (.big NESTING) := ⟨_, rd_cls (by kernel_rfl), by kernel_rfl⟩
theorem zb : ∃ ts, Reads (reps [110] 20) ts ∧ er (pProg ts) = some (.syn 0) := ⟨_, rd_cls (by kernel_rfl), by kernel_rfl⟩
end
end L2.Mi.Pg

set_option Elab.async false
set_option maxRecDepth 100000
namespace L2.Mi.Pg
open PySem
def odd1 (call : Nat → FN) : MS := sFor (iOr (iSeq (eLv [eC .non, eC (.int 5), eLv [eC (.str [110])], eTup [eC (.str [110])], eC (.bl true)])) (iTxt (eLv [eC .non, eC (.int 5), eLv [eC (.str [110])], eTup [eC (.str [110])], eC (.bl true)]))) (gName 1) (sFor (iOr (iSeq (eLv [eC (.fn 25), eC (.fn 26), eC (.fn 27)])) (iTxt (eLv [eC (.fn 25), eC (.fn 26), eC (.fn 27)]))) (gName 2) (sIf (tOf (eBin (oNe call) (eHeard isxL 2 (.str [102, 105, 110, 101]) [⟨3, some 1, xF 3 7⟩, ⟨2, some 1, xF 2 6⟩, ⟨1, some 1, xLv [xC (.str [116, 101, 120, 116]), xFn (reprF 8) [xF 1 20]]⟩] (eCallV (dFn call) (eVar 2) (aList [eVar 1]))) (eLv [eC (.str [116, 101, 120, 116]), eFn (reprF 8) (aList [eVar 1])]))) (sRet (eC (.bl false))) (sNext)) 100000) 100000
theorem odd_ok {n : Nat} {S : Store} {s : D} : odd1 (run (n + 29)) [some s, none, none, none, none, none, none, none, none, none, none, none, none] S = .nx [some s, some (.bl true), some (.fn 27), none, none, none, none, none, none, none, none, none, none] S := by kernel_rfl
theorem nw_of (w : List Nat) : w = nw w.length (fun i => w.getD i 0) := by
  refine List.ext_getElem (by simp [nw]) fun i h1 h2 => ?_
  simp [nw, List.getD, h1]
end L2.Mi.Pg

set_option Elab.async false
set_option linter.all false
set_option maxRecDepth 100000
set_option maxHeartbeats 2000000
/-! k05, 9: the number that is drawn. -/
namespace L2.Mi.Pg
open PySem
section
variable {S : Store} {n i L : Nat} {E : Xn → Store → Prop} {o0 o1 o2 o3 o6 o7 o8 o9 o10 o11 o12 : Option D}
def numE (call : Nat → FN) : ME := eBm isStr joinF (eC (.str [])) (aList [eLcV (iRange1 (eVar 5)) (.one 9) (tYesM) (eBin itemF (eC (.str [49, 50, 51, 52, 53, 54, 55, 56, 57])) (eFn (call 29) (aList [eVar 4, eC (.int 9)]))) [9] 100000])
theorem joinL_one : ∀ ys : List (List Nat), (∀ y ∈ ys, ∃ c, y = [c] ∧ 49 ≤ c ∧ c ≤ 57) → (TL.joinL [] ys).length = ys.length ∧ ∀ c ∈ TL.joinL [] ys, 49 ≤ c ∧ c ≤ 57 := by
  intro ys h
  rw [joinL_nil]
  induction ys with
  | nil => exact ⟨rfl, fun c hc => nomatch hc⟩
  | cons y ys ih =>
    obtain ⟨i1, i2⟩ := ih fun z hz => h z (List.mem_cons_of_mem _ hz)
    obtain ⟨c, rfl, h1, h2⟩ := h y (List.mem_cons_self ..)
    refine ⟨by simp only [List.flatten_cons, List.length_append, i1, List.length_cons, List.length_nil]; omega, fun x hx => ?_⟩
    rw [List.flatten_cons] at hx
    rcases List.mem_append.mp hx with z | z
    · rw [List.mem_singleton.mp z]; exact ⟨h1, h2⟩
    · exact i2 x z
theorem num_ok {z : Int} (hz : z = (L : Int)) (hp : Pool S i) (hL : 1 ≤ L) (hL2 : L ≤ 200) : (numE (run (n + 1)) [o0, o1, o2, o3, some (.ref i), some (.int z), o6, o7, o8, o9, o10, o11, o12] S).sat (fun v S' => ∃ w, v = .str w ∧ Num w ∧ w.length = L ∧ Pool S' i ∧ Fr S S' i ∧ S'.size = S.size) E := by
  unfold numE
  simp only [eC_ev, sat_ok, eBm_ev, isStr, if_true, bind_ok', aList_cons, aList_nil, sat_bind]
  have hwk : Walk (iRange1 (eVar 5)) [o0, o1, o2, o3, some (D.ref i), some (D.int z), o6, o7, o8, o9, o10, o11, o12] S (ups 0 z.toNat) S := walk_r1 (j := z) (by simp only [eVar_s, eVar_0]) (by omega) (by omega)
  have hl0 : (ups 0 z.toNat).length = L := by rw [ups_len, hz, Int.toNat_natCast]
  refine lc_sat (ds := ups 0 z.toNat) (S1 := S) ?I ?h1 ?h2 ?h3 ?h4 ?h5
  case I => exact fun ds acc S' => ∃ ys : List (List Nat), acc = ys.map D.str ∧ (∀ y ∈ ys, ∃ c, y = [c] ∧ 49 ≤ c ∧ c ≤ 57) ∧ ys.length + ds.length = L ∧ Pool S' i ∧ Fr S S' i ∧ S'.size = S.size
  · exact hwk
  · rw [hl0]; omega
  · refine ⟨[], rfl, fun y hy => ?_, by rw [hl0]; simp, hp, Fr.refl, rfl⟩
    cases hy
  · rintro d ds acc S' ⟨ys, rfl, hy, hl, hp', f', z'⟩
    refine ⟨_, rfl, ?_⟩
    obtain ⟨q, S2, e2, q0, q1, hp2, f2, z2⟩ := tk_ok (n := n) hp' (w := 9) (by omega) (by omega)
    obtain ⟨c, hc, e3⟩ := pickT (S := S2) (l := [49, 50, 51, 52, 53, 54, 55, 56, 57]) (m := 9) rfl (by decide) q0 q1
    show (Res.ok true S').sat _ _
    rw [sat_ok, if_pos rfl]
    show (eBin itemF (eC (.str [49, 50, 51, 52, 53, 54, 55, 56, 57])) (eFn (run (n + 1) 29) (aList [eVar 4, eC (.int 9)])) [o0, o1, o2, o3, some (.ref i), some (.int z), o6, o7, o8, some d, o10, o11, o12] S').sat _ _
    simp only [eBin_ev, eVar_s, eVar_0, eFn_ev, aList_cons, aList_nil, eC_ev, bind_ok', e2, e3, sat_ok]
    simp only [List.length_cons] at hl
    refine ⟨by rw [List.length_map]; have := lim_big; omega, ys ++ [[c]], by simp, fun y hy' => ?_, by simp; omega, hp2, f'.trans f2, z2.trans z'⟩
    rcases List.mem_append.mp hy' with h | h
    · exact hy y h
    · simp at h
      subst h
      refine ⟨c, rfl, ?_⟩
      simp at hc
      omega
  · rintro acc S' ⟨ys, rfl, hy, hl, hp', f', z'⟩
    have hl2 : ys.length = L := by simpa using hl
    obtain ⟨j1, j2⟩ := joinL_one ys hy
    have ht := totL_le (k := 1) (ys := ys) fun y hm => by obtain ⟨c, rfl, _⟩ := hy y hm; simp
    rw [joinF_ev (ys := ys) rfl (by simp; omega), sat_ok]
    exact ⟨_, rfl, ⟨fun z => by rw [z] at j1; simp at j1; omega, j2⟩, by omega, hp', f', z'⟩
end
end L2.Mi.Pg

set_option Elab.async false
set_option linter.all false
set_option maxRecDepth 100000
set_option maxHeartbeats 2000000
/-! k05, 10: the ten texts, each alone and with an error. -/
namespace L2.Mi.Pg
open PySem
section
variable {S : Store} {n : Nat} {f : Nat → Nat} {L p d : Nat}
abbrev FLB : List Nat := [102, 108, 117, 115, 104, 32, 125, 32]
structure Due (e : Option PErr) : Prop where
  o : e = none ∨ e = some (.big NUMBERS) ∨ e = some (.big DEGREE) ∨ e = some (.big NESTING)
/-- what is asked of a text -/
structure T3 (t : List Nat) (e : Option PErr) : Prop where
  a : ∃ ts, Reads t ts ∧ er (pProg ts) = e
  b : ∃ ts, Reads (t ++ [32, 93]) ts ∧ er (pProg ts) = some (e.getD (.syn (t.length + 1)))
  c : ∃ ts, Reads (FLB ++ t) ts ∧ er (pProg ts) = some (.syn 6)
theorem t3_num {A B A2 B2 : List Nat} {k : Nat} (hA : A2 = FLB ++ A) (hB : B2 = B ++ [32, 93]) (hk : k = A.length + B.length + 1)
    (h1 : ∃ ts, Reads (A ++ (nw L f ++ B)) ts ∧ er (pProg ts) = (if 150 < L then some (.big NUMBERS) else none))
    (h2 : ∃ ts, Reads (A ++ (nw L f ++ B2)) ts ∧ er (pProg ts) = (if 150 < L then some (.big NUMBERS) else some (.syn (k + L))))
    (h3 : ∃ ts, Reads (A2 ++ (nw L f ++ B)) ts ∧ er (pProg ts) = some (.syn 6)) : T3 (A ++ (nw L f ++ B)) (if 150 < L then some (.big NUMBERS) else none) := by
  subst hA hB hk
  refine ⟨h1, ?_, ?_⟩
  · obtain ⟨ts, z1, z2⟩ := h2
    refine ⟨ts, by rw [List.append_assoc, List.append_assoc]; exact z1, ?_⟩
    rw [z2]
    by_cases h : 150 < L
    · simp only [h, if_true, Option.getD_some]
    · simp only [h, if_false, Option.getD_none, List.length_append, nw_len]
      congr 2
      omega
  · obtain ⟨ts, z1, z2⟩ := h3
    exact ⟨ts, by rw [← List.append_assoc]; exact z1, z2⟩
theorem t3_cls {x : List Nat} {P : Prop} [Decidable P] {w : List Nat} (h1 : ∃ ts, Reads x ts ∧ er (pProg ts) = (if P then some (.big w) else none))
    (h2 : ∃ ts, Reads (x ++ [32, 93]) ts ∧ er (pProg ts) = (if P then some (.big w) else some (.syn (x.length + 1))))
    (h3 : ∃ ts, Reads (FLB ++ x) ts ∧ er (pProg ts) = some (.syn 6)) : T3 x (if P then some (.big w) else none) := by
  refine ⟨h1, ?_, h3⟩
  obtain ⟨ts, z1, z2⟩ := h2
  refine ⟨ts, z1, ?_⟩
  rw [z2]
  by_cases h : P
  · simp only [h, if_true, Option.getD_some]
  · simp only [h, if_false, Option.getD_none]
theorem all3 (h : PD L p d) (hw : Num (nw L f)) : ∀ (i : Nat) (t : List Nat), (txs (nw L f) p d)[i]? = some t → T3 t (dueE i L p d) := by
  intro i t ht
  have hi : i < 10 := by
    have := (List.getElem?_eq_some_iff.mp ht).1
    simpa [txs] using this
  have hj : i = 0 ∨ i = 1 ∨ i = 2 ∨ i = 3 ∨ i = 4 ∨ i = 5 ∨ i = 6 ∨ i = 7 ∨ i = 8 ∨ i = 9 := by omega
  rcases hj with rfl | rfl | rfl | rfl | rfl | rfl | rfl | rfl | rfl | rfl <;> (simp only [txs, List.getElem?_cons_zero, List.getElem?_cons_succ, Option.some.injEq] at ht; subst ht)
  · exact t3_num rfl rfl rfl (na_0 h.l hw) (nb_0 h.l hw) (nc_0 h.l hw)
  · exact t3_num rfl rfl rfl (na_1 h.l hw) (nb_1 h.l hw) (nc_1 h.l hw)
  · exact t3_num rfl rfl rfl (na_2 h.l hw) (nb_2 h.l hw) (nc_2 h.l hw)
  · exact t3_num rfl rfl rfl (na_3 h.l hw) (nb_3 h.l hw) (nc_3 h.l hw)
  · exact t3_num rfl rfl rfl (na_4 h.l hw) (nb_4 h.l hw) (nc_4 h.l hw)
  · exact t3_cls (ca_5 h.p) (cb_5 h.p) (cc_5 h.p)
  · exact t3_cls (ca_6 h.p) (cb_6 h.p) (cc_6 h.p)
  · exact t3_cls (ca_7 h.p) (cb_7 h.p) (cc_7 h.p)
  · exact t3_cls (ca_8 h.d) (cb_8 h.d) (cc_8 h.d)
  · exact t3_cls (ca_9 h.d) (cb_9 h.d) (cc_9 h.d)
theorem due_is (i : Nat) : Due (dueE i L p d) := by
  unfold dueE
  refine ⟨?_⟩
  repeat' split
  all_goals simp
theorem txs_len (h : PD L p d) {i : Nat} {t : List Nat} (ht : (txs (nw L f) p d)[i]? = some t) : t.length ≤ 900 := by
  have hi : i < 10 := by
    have := (List.getElem?_eq_some_iff.mp ht).1
    simpa [txs] using this
  have hj : i = 0 ∨ i = 1 ∨ i = 2 ∨ i = 3 ∨ i = 4 ∨ i = 5 ∨ i = 6 ∨ i = 7 ∨ i = 8 ∨ i = 9 := by omega
  obtain ⟨h1, h2, h3⟩ := h
  have hl : (nw L f).length ≤ 152 := by rw [nw_len]; omega
  have hp : (pws p).length ≤ 20 := by rcases h2 with rfl | rfl | rfl | rfl <;> decide
  have e1 : (loops d [102, 108, 117, 115, 104]).length ≤ 300 := by rcases h3 with rfl | rfl | rfl | rfl <;> decide
  have e2 : (loops (d - 1) [102, 111, 114, 32, 106, 32, 110, 32, 123, 32, 114, 101, 97, 100, 32, 97, 91, 106, 93, 32, 125, 32, 102, 108, 117, 115, 104]).length ≤ 300 := by rcases h3 with rfl | rfl | rfl | rfl <;> decide
  rcases hj with rfl | rfl | rfl | rfl | rfl | rfl | rfl | rfl | rfl | rfl <;> (simp only [txs, List.getElem?_cons_zero, List.getElem?_cons_succ, Option.some.injEq] at ht; subst ht; try simp only [List.length_append, List.length_cons, List.length_nil]) <;> omega
theorem oAdd_str {call : Nat → FN} {a b : List Nat} (h : a.length + b.length ≤ 900000) : oAdd call (.str a) (.str b) S = .ok (.str (a ++ b)) S := by
  unfold oAdd opOr orB
  rw [addF_str h]
def turn (call : Nat → FN) : MS := sSeq (sSet 12 (eFn (call 33) (aList [eVar 10, eVar 5, eVar 6, eVar 7])))
    (sSeq (sIf (tOf (eBin (oNe call) (eHeard isxL 2 (.str FINE) HDS (eFn (pureF (call 25)) (aList [eVar 11]))) (eVar 12))) (sRet (eC (.bl false))) (sNext))
    (sSeq (sIf (tOf (eBin (oNe call) (eHeard isxL 2 (.str FINE) HDS (eFn (pureF (call 25)) (aList [eBin (oAdd call) (eVar 11) (eC (.str [32, 93]))]))) (eIf (tOf (eBin (oEq call) (eVar 12) (eC (.str FINE)))) (eBin (oAdd call) (eFn lenF (aList [eVar 11])) (eC (.int 1))) (eVar 12)))) (sRet (eC (.bl false))) (sNext))
    (sIf (tOf (eBin (oNe call) (eHeard isxL 2 (.str FINE) HDS (eFn (pureF (call 25)) (aList [eBin (oAdd call) (eC (.str FLB)) (eVar 11)]))) (eC (.int 6)))) (sRet (eC (.bl false))) (sNext))))
theorem okHd {e : Option PErr} (h : Due e) : okD 1 (hdD e) = true := by
  rcases h.o with rfl | rfl | rfl | rfl <;> rfl
theorem heardS {σ : En} {ma : MA} {t : List Nat} {e : Option PErr} (h : ∃ ts, Reads t ts ∧ er (pProg ts) = e) (ha : ma σ S = .ok [.str t] S) (hn : e ≠ some .none) : eHeard isxL 2 (.str FINE) HDS (eFn (pureF (run (n + 28) 25)) ma) σ S = .ok (hdD e) S := by
  obtain ⟨ts, h1, rfl⟩ := h
  exact heard_ok (parse_ends h1) ha hn
theorem ne_self {a : D} (ha : okD 1 a = true) : oNe (run n) a a S = .ok (.bl false) S := neF_self 1 ha
theorem turn_ok {o0 o1 o2 o3 o4 o8 o9 o12 : Option D} {i : Nat} {t : List Nat} (h : PD L p d) (hi : i < 10) (h3 : T3 t (dueE i L p d)) (ht : t.length ≤ 900) :
    (turn (run (n + 28)) [o0, o1, o2, o3, o4, some (.int (L : Int)), some (.int (p : Int)), some (.int (d : Int)), o8, o9, some (.int (i : Int)), some (.str t), o12] S).sat ⟨fun σ S' => (∃ o, σ = [o0, o1, o2, o3, o4, some (.int (L : Int)), some (.int (p : Int)), some (.int (d : Int)), o8, o9, some (.int (i : Int)), some (.str t), o]) ∧ S' = S, fun _ _ => False, NoX, fun _ _ => False, fun _ _ => False⟩ := by
  unfold turn
  have hD := due_is (L := L) (p := p) (d := d) i
  have e1 := due_ok (n := n + 27) (S := S) h hi
  have hsyn : ∀ e : Option PErr, Due e → e ≠ some .none := by
    rintro e ⟨z⟩ rfl
    simp at z
  have hb2 : oAdd (run (n + 28)) (.str t) (.str [32, 93]) S = .ok (.str (t ++ [32, 93])) S := oAdd_str (by simp; omega)
  have hb3 : oAdd (run (n + 28)) (.str FLB) (.str t) S = .ok (.str (FLB ++ t)) S := oAdd_str (by simp; omega)
  simp only [sat_seq, sat_set, eFn_ev, aList_cons, aList_nil, eVar_s, eVar_0, bind_ok', e1, sat_ok, List.set_cons_succ, List.set_cons_zero, sat_if, tOf_ev, eBin_ev]
  generalize dueE i L p d = e at *
  have g1 := fun σ ha => heardS (n := n) (S := S) (σ := σ) (ma := aList [eVar 11]) h3.a ha (hsyn e hD)
  rw [g1 _ (by simp only [aList_cons, aList_nil, eVar_s, eVar_0, bind_ok'])]
  simp only [bind_ok', ne_self (okHd hD), eVar_s, eVar_0, sat_ok, Bool.false_eq_true, if_false, sat_next]
  have g2 := fun σ ha => heardS (n := n) (S := S) (σ := σ) (ma := aList [eBin (oAdd (run (n + 28))) (eVar 11) (eC (.str [32, 93]))]) h3.b ha (by rcases hD.o with rfl | rfl | rfl | rfl <;> simp)
  rw [g2 _ (by simp only [aList_cons, aList_nil, eVar_s, eVar_0, bind_ok', eBin_ev, eC_ev, hb2])]
  have g3 := fun σ ha => heardS (n := n) (S := S) (σ := σ) (ma := aList [eBin (oAdd (run (n + 28))) (eC (.str FLB)) (eVar 11)]) h3.c ha (by simp)
  have hl : lenF [.str t] S = .ok (.int (t.length : Int)) S := lenF_str (by omega)
  have ha1 : oAdd (run (n + 28)) (.int (t.length : Int)) (.int 1) S = .ok (.int ((t.length : Int) + 1)) S := rfl
  have hc6 : oNe (run (n + 28)) (hdD (some (.syn 6))) (.int 6) S = .ok (.bl false) S := by kernel_rfl
  rcases hD.o with rfl | rfl | rfl | rfl
  · have q : oEq (run (n + 28)) (hdD none) (.str FINE) S = .ok (.bl true) S := eqF_self 1 rfl
    have q2 : hdD (some ((none : Option PErr).getD (.syn (t.length + 1)))) = .int ((t.length : Int) + 1) := rfl
    have q3 : oNe (run (n + 28)) (.int ((t.length : Int) + 1)) (.int ((t.length : Int) + 1)) S = .ok (.bl false) S := ne_self rfl
    simp only [bind_ok', eIf_ev, tOf_ev, eBin_ev, eVar_s, eVar_0, eC_ev, q, if_true, eFn_ev, aList_cons, aList_nil, hl, ha1, q2, q3, sat_ok, Bool.false_eq_true, if_false, sat_next]
    rw [g3 _ (by simp only [aList_cons, aList_nil, eVar_s, eVar_0, bind_ok', eBin_ev, eC_ev, hb3])]
    simp only [bind_ok', eC_ev, hc6, sat_ok, Bool.false_eq_true, if_false, sat_next]
    exact ⟨⟨_, rfl⟩, by first | trivial | rfl⟩
  · have q : oEq (run (n + 28)) (hdD (some (.big NUMBERS))) (.str FINE) S = .ok (.bl false) S := by kernel_rfl
    have q2 : oNe (run (n + 28)) (hdD (some ((some (PErr.big NUMBERS)).getD (.syn (t.length + 1))))) (hdD (some (.big NUMBERS))) S = .ok (.bl false) S := by kernel_rfl
    simp only [bind_ok', eIf_ev, tOf_ev, eBin_ev, eVar_s, eVar_0, eC_ev, q, q2, sat_ok, Bool.false_eq_true, if_false, sat_next]
    rw [g3 _ (by simp only [aList_cons, aList_nil, eVar_s, eVar_0, bind_ok', eBin_ev, eC_ev, hb3])]
    simp only [bind_ok', eC_ev, hc6, sat_ok, Bool.false_eq_true, if_false, sat_next]
    exact ⟨⟨_, rfl⟩, by first | trivial | rfl⟩
  · have q : oEq (run (n + 28)) (hdD (some (.big DEGREE))) (.str FINE) S = .ok (.bl false) S := by kernel_rfl
    have q2 : oNe (run (n + 28)) (hdD (some ((some (PErr.big DEGREE)).getD (.syn (t.length + 1))))) (hdD (some (.big DEGREE))) S = .ok (.bl false) S := by kernel_rfl
    simp only [bind_ok', eIf_ev, tOf_ev, eBin_ev, eVar_s, eVar_0, eC_ev, q, q2, sat_ok, Bool.false_eq_true, if_false, sat_next]
    rw [g3 _ (by simp only [aList_cons, aList_nil, eVar_s, eVar_0, bind_ok', eBin_ev, eC_ev, hb3])]
    simp only [bind_ok', eC_ev, hc6, sat_ok, Bool.false_eq_true, if_false, sat_next]
    exact ⟨⟨_, rfl⟩, by first | trivial | rfl⟩
  · have q : oEq (run (n + 28)) (hdD (some (.big NESTING))) (.str FINE) S = .ok (.bl false) S := by kernel_rfl
    have q2 : oNe (run (n + 28)) (hdD (some ((some (PErr.big NESTING)).getD (.syn (t.length + 1))))) (hdD (some (.big NESTING))) S = .ok (.bl false) S := by kernel_rfl
    simp only [bind_ok', eIf_ev, tOf_ev, eBin_ev, eVar_s, eVar_0, eC_ev, q, q2, sat_ok, Bool.false_eq_true, if_false, sat_next]
    rw [g3 _ (by simp only [aList_cons, aList_nil, eVar_s, eVar_0, bind_ok', eBin_ev, eC_ev, hb3])]
    simp only [bind_ok', eC_ev, hc6, sat_ok, Bool.false_eq_true, if_false, sat_next]
    exact ⟨⟨_, rfl⟩, by first | trivial | rfl⟩
end
end L2.Mi.Pg

set_option Elab.async false
set_option linter.all false
set_option maxRecDepth 100000
set_option maxHeartbeats 2000000
/-! k05, 11: a round. -/
namespace L2.Mi.Pg
open PySem
section
variable {S : Store} {n : Nat}
def ens : Nat → List (List Nat) → List D
  | _, [] => []
  | i, w :: r => .tup [.int (i : Int), .str w] :: ens (i + 1) r
theorem ens_get : ∀ (ws : List (List Nat)) (i k : Nat), (ens i ws)[k]? = (ws[k]?).map fun w => D.tup [.int ((i + k : Nat) : Int), .str w]
  | [], i, k => by simp [ens]
  | w :: ws, i, 0 => by simp [ens]
  | w :: ws, i, k + 1 => by
    unfold ens
    rw [List.getElem?_cons_succ, ens_get ws (i + 1) k, List.getElem?_cons_succ, show i + 1 + k = i + (k + 1) by omega]
theorem ens_len : ∀ (ws : List (List Nat)) (i : Nat), (ens i ws).length = ws.length
  | [], _ => rfl
  | w :: ws, i => by unfold ens; simp [ens_len ws]
theorem walk_en {m : ME} {σ : En} {ws : List (List Nat)} (h : m σ S = .ok (.lv (ws.map D.str)) S) : Walk (iEn m) σ S (ens 0 ws) S := by
  refine ⟨enL (.lv (ws.map D.str)), by unfold iEn; rw [h, bind_ok']; rfl, fun k S => ?_⟩
  rw [ens_get]
  show enL (.lv (ws.map D.str)) k S = _
  unfold enL
  have : listAt S (.lv (ws.map D.str)) = some (ws.map D.str) := rfl
  simp only [this, List.getElem?_map]
  cases ws[k]? with
  | none => rfl
  | some w => simp
abbrev hrd (call : Nat → FN) (g : Nat) (m : ME) : ME := eHeard isxL 2 (.str FINE) HDS (eFn (pureF (call g)) (aList [m]))
def turns (call : Nat → FN) : MS := sFor (iEn (eFn (call 32) (aList [eVar 8, eVar 6, eVar 7]))) (gTup [gName 10, gName 11]) (turn call) 100000
theorem turns_ok {o0 o1 o2 o3 o4 o9 o10 o11 o12 : Option D} {L p d : Nat} {f : Nat → Nat} (h : PD L p d) (hw : Num (nw L f)) :
    (turns (run (n + 28)) [o0, o1, o2, o3, o4, some (.int (L : Int)), some (.int (p : Int)), some (.int (d : Int)), some (.str (nw L f)), o9, o10, o11, o12] S).sat ⟨fun σ S' => (∃ o10 o11 o12, σ = [o0, o1, o2, o3, o4, some (.int (L : Int)), some (.int (p : Int)), some (.int (d : Int)), some (.str (nw L f)), o9, o10, o11, o12]) ∧ S' = S, fun _ _ => False, NoX, fun _ _ => False, fun _ _ => False⟩ := by
  unfold turns
  have e1 := texts_ok (n := n + 25) (S := S) (f := f) h
  have hwk : Walk (iEn (eFn (run (n + 28) 32) (aList [eVar 8, eVar 6, eVar 7]))) [o0, o1, o2, o3, o4, some (.int (L : Int)), some (.int (p : Int)), some (.int (d : Int)), some (.str (nw L f)), o9, o10, o11, o12] S (ens 0 (txs (nw L f) p d)) S := walk_en (by
    simp only [eFn_ev, aList_cons, aList_nil, eVar_s, eVar_0, bind_ok', e1])
  refine for_sat (S1 := S) (ds := ens 0 (txs (nw L f) p d)) ?I ?h1 ?h2 ?h3 ?h4 ?h5
  case I => exact fun ds σ S' => S' = S ∧ ∃ (j : Nat) (us : List (List Nat)), ds = ens j us ∧ (∀ k : Nat, us[k]? = (txs (nw L f) p d)[j + k]?) ∧ ∃ o10 o11 o12, σ = [o0, o1, o2, o3, o4, some (.int (L : Int)), some (.int (p : Int)), some (.int (d : Int)), some (.str (nw L f)), o9, o10, o11, o12]
  case h1 => exact hwk
  case h2 => rw [ens_len]; simp [txs]
  case h3 => exact ⟨rfl, 0, _, rfl, fun k => by rw [Nat.zero_add], _, _, _, rfl⟩
  case h4 =>
    rintro e ds σ S' ⟨rfl, j, us, e2, hu, o10, o11, o12, rfl⟩
    cases us with
    | nil => cases e2
    | cons u us =>
      rw [ens] at e2
      cases e2
      have g : gTup [gName 10, gName 11] (.tup [.int (j : Int), .str u]) [o0, o1, o2, o3, o4, some (.int (L : Int)), some (.int (p : Int)), some (.int (d : Int)), some (.str (nw L f)), o9, o10, o11, o12] S' = .ok [o0, o1, o2, o3, o4, some (.int (L : Int)), some (.int (p : Int)), some (.int (d : Int)), some (.str (nw L f)), o9, some (.int (j : Int)), some (.str u), o12] S' := rfl
      rw [g, sat_ok]
      have hj : (txs (nw L f) p d)[j]? = some u := by
        have := hu 0
        simpa using this.symm
      have hj10 : j < 10 := by
        have := (List.getElem?_eq_some_iff.mp hj).1
        simpa [txs] using this
      refine (turn_ok (n := n) h hj10 (all3 h hw j u hj) (txs_len h hj)).imp (fun σ S5 ⟨⟨o, h1⟩, h2⟩ => ?_) (fun _ _ h => h.elim) (fun _ _ h => h.elim) (fun _ _ h => h.elim) (fun _ _ h => h.elim)
      subst h1 h2
      refine ⟨rfl, j + 1, us, rfl, fun k => ?_, _, _, _, rfl⟩
      have := hu (k + 1)
      rw [List.getElem?_cons_succ] at this
      rw [this]
      congr 1
      omega
  case h5 =>
    rintro σ S' ⟨rfl, j, us, e2, hu, o10, o11, o12, rfl⟩
    exact ⟨⟨_, _, _, rfl⟩, rfl⟩
/-- the three behind it -/
def three (call : Nat → FN) : MS :=
    sSeq (sIf (tOf (eBin (oNe call) (hrd call 26 (eVar 8)) (eFn (call 33) (aList [eC (.int 0), eVar 5, eVar 6, eVar 7])))) (sRet (eC (.bl false))) (sNext))
    (sSeq (sIf (tOf (eBin (oNe call) (hrd call 26 (eBin (oAdd call) (eC (.str [110, 42])) (eVar 8))) (eC (.int 2)))) (sRet (eC (.bl false))) (sNext))
    (sIf (tOf (eBin (oNe call) (hrd call 25 (eBin (oAdd call) (eC (.str [102, 111, 114, 32])) (eVar 8))) (eC (.int 4)))) (sRet (eC (.bl false))) (sNext)))
theorem heardZ {σ : En} {ma : MA} {t : List Nat} {e : Option PErr} (h : ∃ ts, Reads t ts ∧ er (pSize ts) = e) (ha : ma σ S = .ok [.str t] S) (hn : e ≠ some .none) : eHeard isxL 2 (.str FINE) HDS (eFn (pureF (run (n + 28) 26)) ma) σ S = .ok (hdD e) S := by
  obtain ⟨ts, h1, rfl⟩ := h
  exact heard_ok (size_ends h1) ha hn
theorem three_ok {o0 o1 o2 o3 o4 o9 o10 o11 o12 : Option D} {L p d : Nat} {f : Nat → Nat} (h : PD L p d) (hw : Num (nw L f)) :
    (three (run (n + 28)) [o0, o1, o2, o3, o4, some (.int (L : Int)), some (.int (p : Int)), some (.int (d : Int)), some (.str (nw L f)), o9, o10, o11, o12] S).sat ⟨fun σ S' => σ = [o0, o1, o2, o3, o4, some (.int (L : Int)), some (.int (p : Int)), some (.int (d : Int)), some (.str (nw L f)), o9, o10, o11, o12] ∧ S' = S, fun _ _ => False, NoX, fun _ _ => False, fun _ _ => False⟩ := by
  unfold three
  have hl : (nw L f).length ≤ 200 := by rw [nw_len]; have := h.l; omega
  have e0 := due_ok (n := n + 27) (S := S) (i := 0) h (by omega)
  have hb2 : oAdd (run (n + 28)) (.str [110, 42]) (.str (nw L f)) S = .ok (.str ([110, 42] ++ nw L f)) S := oAdd_str (by simp; omega)
  have hb3 : oAdd (run (n + 28)) (.str [102, 111, 114, 32]) (.str (nw L f)) S = .ok (.str ([102, 111, 114, 32] ++ nw L f)) S := oAdd_str (by simp; omega)
  have s1 : ∃ ts, Reads (nw L f) ts ∧ er (pSize ts) = dueE 0 L p d := by
    have z := sa (f := f) h.l hw
    rw [List.nil_append, List.append_nil] at z
    exact z
  have s2 := sb (f := f) h.l hw
  have s3 := sc (f := f) h.l hw
  rw [List.append_nil] at s2 s3
  have hD := due_is (L := L) (p := p) (d := d) 0
  have g1 := fun σ ha => heardZ (n := n) (S := S) (σ := σ) (ma := aList [eVar 8]) s1 ha (by rcases hD.o with z | z | z | z <;> rw [z] <;> simp)
  have g2 := fun σ ha => heardZ (n := n) (S := S) (σ := σ) (ma := aList [eBin (oAdd (run (n + 28))) (eC (.str [110, 42])) (eVar 8)]) s2 ha (by simp)
  have g3 := fun σ ha => heardS (n := n) (S := S) (σ := σ) (ma := aList [eBin (oAdd (run (n + 28))) (eC (.str [102, 111, 114, 32])) (eVar 8)]) s3 ha (by simp)
  have hc2 : oNe (run (n + 28)) (hdD (some (.syn 2))) (.int 2) S = .ok (.bl false) S := by kernel_rfl
  have hc4 : oNe (run (n + 28)) (hdD (some (.syn 4))) (.int 4) S = .ok (.bl false) S := by kernel_rfl
  simp only [hrd, sat_seq, sat_if, tOf_ev, eBin_ev]
  rw [g1 _ (by simp only [aList_cons, aList_nil, eVar_s, eVar_0, bind_ok'])]
  have e0' : run (n + 28) 33 [.int 0, .int (L : Int), .int (p : Int), .int (d : Int)] S = .ok (hdD (dueE 0 L p d)) S := e0
  have e0f : eFn (run (n + 28) 33) (aList [eC (.int 0), eVar 5, eVar 6, eVar 7]) [o0, o1, o2, o3, o4, some (.int (L : Int)), some (.int (p : Int)), some (.int (d : Int)), some (.str (nw L f)), o9, o10, o11, o12] S = .ok (hdD (dueE 0 L p d)) S := by
    simp only [eFn_ev, aList_cons, aList_nil, eC_ev, eVar_s, eVar_0, bind_ok', e0']
  simp only [bind_ok', e0f, ne_self (okHd hD), sat_ok, Bool.false_eq_true, if_false, sat_next]
  rw [g2 _ (by simp only [aList_cons, aList_nil, eVar_s, eVar_0, bind_ok', eBin_ev, eC_ev, hb2])]
  simp only [bind_ok', eC_ev, hc2, sat_ok, Bool.false_eq_true, if_false, sat_next]
  rw [g3 _ (by simp only [aList_cons, aList_nil, eVar_s, eVar_0, bind_ok', eBin_ev, eC_ev, hb3])]
  simp only [bind_ok', eC_ev, hc4, sat_ok, Bool.false_eq_true, if_false, sat_next]
  exact ⟨by first | trivial | rfl, by first | trivial | rfl⟩
def rnd (call : Nat → FN) : MS := sSeq (sSet 4 (eFn (call 28) (aList [eVar 0, eVar 3])))
    (sSeq (sPar3 5 6 7 (eBin (oAdd call) (eC (.int 149)) (eFn (call 29) (aList [eVar 4, eC (.int 4)]))) (eBin (oAdd call) (eC (.int 2)) (eFn (call 29) (aList [eVar 4, eC (.int 4)]))) (eBin (oAdd call) (eC (.int 4)) (eFn (call 29) (aList [eVar 4, eC (.int 4)]))))
    (sSeq (sSet 8 (numE call)) (sSeq (turns call) (three call))))
theorem sPar3_ev {a b c : ME} {σ : En} {S S1 S2 S3 : Store} {x y z : D} {i j l : Nat} (h1 : a σ S = .ok x S1) (h2 : b σ S1 = .ok y S2) (h3 : c σ S2 = .ok z S3) : sPar3 i j l a b c σ S = .nx (((σ.set i (some x)).set j (some y)).set l (some z)) S3 := by
  unfold sPar3
  simp only [aList_cons, aList_nil, h1, h2, h3, bind_ok']
def Env (ns : List Int) (σ : En) : Prop := ∃ o3 o4 o5 o6 o7 o8 o9 o10 o11 o12, σ = [some (.fl (ns.map D.int)), some (.bl true), some (.fn 27), o3, o4, o5, o6, o7, o8, o9, o10, o11, o12]
abbrev WnE (ns : List Int) : Wt := ⟨fun σ _ => Env ns σ, fun _ _ => False, NoX, fun _ _ => False, fun _ _ => False⟩
theorem rnd_ok {ns : List Int} {k : Nat} {o1 o2 o4 o5 o6 o7 o8 o9 o10 o11 o12 : Option D} (hk : k < 1000) (hl : ns.length ≤ 1000) (h1 : o1 = some (.bl true)) (h2 : o2 = some (.fn 27)) :
    (rnd (run (n + 28)) [some (.fl (ns.map D.int)), o1, o2, some (.int (k : Int)), o4, o5, o6, o7, o8, o9, o10, o11, o12] S).sat (WnE ns) := by
  subst h1 h2
  unfold rnd
  simp only [sat_seq, sat_set, eFn_ev, aList_cons, aList_nil, eVar_s, eVar_0, bind_ok']
  refine (pl (n := n + 27) hk hl).mono fun v S1 ⟨hv, hp, f, z⟩ => ?_
  subst hv
  simp only [List.set_cons_succ, List.set_cons_zero]
  obtain ⟨a, S2, e2, a0, a1, hp2, f2, z2⟩ := tk_ok (n := n + 27) hp (w := 4) (by omega) (by omega)
  obtain ⟨b, S3, e3, b0, b1, hp3, f3, z3⟩ := tk_ok (n := n + 27) hp2 (w := 4) (by omega) (by omega)
  obtain ⟨c, S4, e4, c0, c1, hp4, f4, z4⟩ := tk_ok (n := n + 27) hp3 (w := 4) (by omega) (by omega)
  rw [sPar3_ev (x := .int (149 + a)) (y := .int (2 + b)) (z := .int (4 + c)) (S1 := S2) (S2 := S3) (S3 := S4) (by simp only [eBin_ev, eC_ev, eFn_ev, aList_cons, aList_nil, eVar_s, eVar_0, bind_ok', e2, oAdd_int])
    (by simp only [eBin_ev, eC_ev, eFn_ev, aList_cons, aList_nil, eVar_s, eVar_0, bind_ok', e3, oAdd_int]) (by simp only [eBin_ev, eC_ev, eFn_ev, aList_cons, aList_nil, eVar_s, eVar_0, bind_ok', e4, oAdd_int])]
  obtain ⟨L, hL⟩ : ∃ L : Nat, 149 + a = (L : Int) := ⟨(149 + a).toNat, by omega⟩
  obtain ⟨p, hp'⟩ : ∃ L : Nat, 2 + b = (L : Int) := ⟨(2 + b).toNat, by omega⟩
  obtain ⟨d, hd⟩ : ∃ L : Nat, 4 + c = (L : Int) := ⟨(4 + c).toNat, by omega⟩
  have hPD : PD L p d := ⟨by omega, by omega, by omega⟩
  simp only [sat_nx, List.set_cons_succ, List.set_cons_zero]
  refine Res.sat.mono (num_ok (n := n + 27) hL hp4 (by omega) (by omega)) ?_
  rintro v S5 ⟨w, hv, hw, hwl, hp5, f5, z5⟩
  rw [hL, hp', hd]
  subst hv
  have hw2 := nw_of w
  rw [hwl] at hw2
  generalize (fun i => w.getD i 0) = f at hw2
  subst hw2
  refine (turns_ok (n := n) hPD hw).imp (fun σ S6 ⟨⟨o10, o11, o12, h1⟩, h2⟩ => ?_) (fun _ _ h => h.elim) (fun _ _ h => h.elim) (fun _ _ h => h.elim) (fun _ _ h => h.elim)
  subst h1 h2
  refine (three_ok (n := n) hPD hw).imp (fun σ S6 ⟨h1, h2⟩ => ?_) (fun _ _ h => h.elim) (fun _ _ h => h.elim) (fun _ _ h => h.elim) (fun _ _ h => h.elim)
  subst h1
  exact ⟨_, _, _, _, _, _, _, _, _, _, rfl⟩
def last (call : Nat → FN) : MS := sSeq (sIf (tOf (eBin (oNe call) (hrd call 25 (eBin (oMul call) (eC (.str [102, 111, 114, 32, 105, 32, 110, 32, 123])) (eC (.int 9)))) (eC (.str [110, 101, 115, 116, 105, 110, 103])))) (sRet (eC (.bl false))) (sNext))
    (sRet (eBin (oEq call) (hrd call 25 (eBin (oMul call) (eC (.str [110])) (eC (.int 20)))) (eC (.int 0))))
theorem last_ok {σ : En} : (last (run (n + 28)) σ S).sat ⟨fun _ _ => False, fun d _ => d = .bl true, NoX, fun _ _ => False, fun _ _ => False⟩ := by
  unfold last
  have m1 : oMul (run (n + 28)) (.str [102, 111, 114, 32, 105, 32, 110, 32, 123]) (.int 9) S = .ok (.str (reps [102, 111, 114, 32, 105, 32, 110, 32, 123] 9)) S := by kernel_rfl
  have m2 : oMul (run (n + 28)) (.str [110]) (.int 20) S = .ok (.str (reps [110] 20)) S := by kernel_rfl
  have g1 := fun σ ha => heardS (n := n) (S := S) (σ := σ) (ma := aList [eBin (oMul (run (n + 28))) (eC (.str [102, 111, 114, 32, 105, 32, 110, 32, 123])) (eC (.int 9))]) za ha (by simp)
  have g2 := fun σ ha => heardS (n := n) (S := S) (σ := σ) (ma := aList [eBin (oMul (run (n + 28))) (eC (.str [110])) (eC (.int 20))]) zb ha (by simp)
  have hc2 : oNe (run (n + 28)) (hdD (some (.big NESTING))) (.str [110, 101, 115, 116, 105, 110, 103]) S = .ok (.bl false) S := by kernel_rfl
  have hc4 : oEq (run (n + 28)) (hdD (some (.syn 0))) (.int 0) S = .ok (.bl true) S := by kernel_rfl
  simp only [hrd, sat_seq, sat_if, tOf_ev, eBin_ev, sat_ret]
  rw [g1 _ (by simp only [aList_cons, aList_nil, bind_ok', eBin_ev, eC_ev, m1])]
  simp only [bind_ok', eC_ev, hc2, sat_ok, Bool.false_eq_true, if_false, sat_next]
  rw [g2 _ (by simp only [aList_cons, aList_nil, bind_ok', eBin_ev, eC_ev, m2])]
  simp only [bind_ok', eC_ev, hc4, sat_ok]
theorem m34 (call : Nat → FN) : m_34 call = sSeq (odd1 call) (sSeq (sFor (iRange1 (eFn max2F (aList [eC (.int 1), eFn min2F (aList [eFn lenF (aList [eVar 0]), eC (.int 6)])]))) (gName 3) (rnd call) 100000) (last call)) := (rfl)
end
end L2.Mi.Pg
namespace Law
open PySem L2.Mi L2.Mi.Pg
theorem good (ns : List Int) (hl : ns.length ≤ 63) (hb : ∀ z ∈ ns, Builtin.Int.intBits z ≤ 1048576) : ∃ S, bodyRun 13 (L2.Mi.Pg.m_34 (L2.Mi.Pg.run 30)) [.fl (ns.map D.int)] ⟨[]⟩ = .ok (.bl true) S := by
  have h : (fin (L2.Mi.Pg.m_34 (L2.Mi.Pg.run 30) [some (.fl (ns.map D.int)), none, none, none, none, none, none, none, none, none, none, none, none] ⟨[]⟩)).sat (fun d _ => d = .bl true) NoX := by
    refine sat_fin ?_
    rw [m34, sat_seq, odd_ok (n := 1)]
    simp only [sat_nx]
    rw [sat_seq]
    obtain ⟨m, e, hm⟩ := rounds_ok (ns := ns) (σ := [some (.bl true), some (.fn 27), none, none, none, none, none, none, none, none, none, none]) (S := ⟨[]⟩) (K := 6) (by omega) (by omega) (by omega)
    have hwk := walk_r1 e (by omega) (by omega)
    refine for_sat (S1 := ⟨[]⟩) (ds := ups 0 (m : Int).toNat) ?I ?h1 ?h2 ?h3 ?h4 ?h5
    case I => exact fun ds σ S' => Env ns σ ∧ ∀ d ∈ ds, ∃ k : Nat, d = .int (k : Int) ∧ k < 1000
    case h1 => exact hwk
    case h2 => rw [ups_len]; omega
    case h3 =>
      refine ⟨⟨_, _, _, _, _, _, _, _, _, _, rfl⟩, fun d hd => ?_⟩
      unfold ups at hd
      obtain ⟨z, hz, rfl⟩ := List.mem_map.mp hd
      have := List.mem_range.mp hz
      exact ⟨z, by simp, by omega⟩
    case h4 =>
      rintro d ds σ S' ⟨⟨o3, o4, o5, o6, o7, o8, o9, o10, o11, o12, rfl⟩, hd⟩
      obtain ⟨k, rfl, hk⟩ := hd d (by simp)
      simp only [gName_ev, sat_ok, List.set_cons_succ, List.set_cons_zero]
      exact (rnd_ok (n := 2) hk (by omega) rfl rfl).imp (fun σ S5 h => ⟨h, fun d hd' => hd d (by simp [hd'])⟩) (fun _ _ h => h.elim) (fun _ _ h => h.elim) (fun _ _ h => h.elim) (fun _ _ h => h.elim)
    case h5 =>
      rintro σ S' _
      exact (last_ok (n := 2)).imp (fun _ _ h => h.elim) (fun _ _ h => h) (fun _ _ h => h.elim) (fun _ _ h => h.elim) (fun _ _ h => h.elim)
  obtain ⟨a, S, e, rfl⟩ := sat_ex h
  exact ⟨S, e⟩
end Law

open PySem PySem.W PySem.Calls PyProof.Rows L2.Mi
set_option maxRecDepth 100000 in
set_option maxHeartbeats 0 in
theorem PySem.Challenge.cw_farmisses_k05_sizes_in_texts_holds : PySem.Challenge.rw_farmisses_k05_sizes_in_texts.Holds := by
  w_on; o_law
  refine HandSHeadRun.head_any (r := OpenLaw.row PySem.Challenge.rw_farmisses_k05_sizes_in_texts) (q := view (OpenLaw.row PySem.Challenge.rw_farmisses_k05_sizes_in_texts).prog [28]) (H := L2.Mi.Pg.hk) (ob := L2.Mi.Pg.ob) (M := 20000) (loose := L2.Mi.Pg.loose) (d := HandSHeadRun.topDef (OpenLaw.row PySem.Challenge.rw_farmisses_k05_sizes_in_texts).prog 28) (kwd := []) L2.Mi.Pg.ob_eq
    (by kernel_rfl) (fun s => by kernel_rfl) L2.Mi.Pg.head (by kernel_rfl) (by kernel_rfl) (by kernel_rfl) (by rfl) (by first | assumption | decide +kernel) (by decide +kernel) ⟨rfl, rfl, rfl, rfl, rfl, by decide +kernel⟩ ?hw ?hc
  case hw => w_witness2
  case hc =>
    refine walkT (l := PySem.Challenge.rw_farmisses_k05_sizes_in_texts) (n := 63) (k := lv 30 + 4) (x := "_law_script") (L := L2.Mi.Pg.L) (run := bodyRun 13 (L2.Mi.Pg.m_34 (L2.Mi.Pg.run 30))) rfl (by decide) (by kernel_rfl) ⟨rfl, by decide, by decide⟩ (dr := HandSHeadRun.topDef (OpenLaw.row PySem.Challenge.rw_farmisses_k05_sizes_in_texts).prog 28) (by kernel_rfl) 71 rfl rfl ?F Law.good
    intro w mg fa K c NS hmg0
    have hmg : mg ("law" : PySem.Str) = some (.ref fa) := by
      have e : (HandSHeadRun.topDef (OpenLaw.row PySem.Challenge.rw_farmisses_k05_sizes_in_texts).prog 28).name = ("law" : PySem.Str) := by kernel_rfl
      rw [← e]
      exact hmg0
    obtain ⟨M⟩ := c.fn 34 rfl
    have hv : M.dvs = [] := List.eq_nil_of_length_eq_zero (by rw [← (M.rd ⟨[], []⟩ fun _ => none).length]; rfl)
    have e := hmg.symm.trans (NS.glo c 0)
    cases e
    have b := L2.FunD.bindsA (ps := ["_law_script"]) (hv ▸ M.F) fun _ _ _ _ _ _ us hl => match us, hl with | [_], _ => rfl
    exact ⟨M.fd, fun s v => b s [v] rfl, fun p hp hT base _ _ TB => L2.Mi.Pg.ok_34 NS 30 (L2.Mi.Pg.all NS 30) M hp hT TB⟩
#print axioms PySem.Challenge.cw_farmisses_k05_sizes_in_texts_holds
