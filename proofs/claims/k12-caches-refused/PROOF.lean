import PyProof.Rows.All
import Wide.All
import OpenK.AllK
import Wide.FinOn
import HandS.ForMost
import HandS.ForExc
import HandS.CallSlots
import HandS.Wide
import HandS.TupAny
import HandS.Style
import HandS.IsInst
import HandS.Walk
import HandS.TupLen
import KE.GoesMore
import HandS.Property
import HandS.Defaults
import HandS.Star
import KE.KOpsOwn
import KE.GoesEnum
import HandS.HeadNt
import HandS.HeadWalk
import HandS.Head2
import HandS.EndBits
import HandS.ExcInit
import HandS.ExcField
import HandS.ExcIs
import HandS.TryMany
import PyProof.ReprRoads
import HandS.TupMul
import PySem.Challenge.RW_farmisses_k12_caches_refused
set_option Elab.async false
set_option linter.all false
set_option maxRecDepth 100000
set_option maxHeartbeats 4000000
/-! Mini: a deterministic store semantics (tuples by value, lists, dicts and instances in a store), and how it lies over HandS's abstract heaps. -/
namespace L2.Mi
open PySem

/-! ### values and stores -/
inductive D where
  | non | bl (b : Bool) | int (i : Int) | str (x : List Nat) | tup (xs : List D) | ref (a : Nat) | ty (n : String)
  /-- a list, a dict that nobody changes; a tuple of the written part -/
  | lv (xs : List D) | dv (t : Bool) (kvs : List (D × D)) | kt (xs : List D)
  /-- a class of the program -/
  | cl (c : Nat)
  /-- a list that stood there before: the script, a table of the top -/
  | fl (xs : List D)

inductive Ob where
  | lst (xs : List D)
  | dic (t : Bool) (kvs : List (D × D))
  | ins (c : Nat) (fs : List (Nat × D))
  | lck (o : Ob)

structure Store where
  objs : List Ob
namespace Store
def size (S : Store) : Nat := S.objs.length
def get (S : Store) (i : Nat) : Option Ob := S.objs[i]?
def set (S : Store) (i : Nat) (o : Ob) : Store := ⟨S.objs.set i o⟩
def push (S : Store) (o : Ob) : Store := ⟨S.objs ++ [o]⟩
theorem size_set (S : Store) (i : Nat) (o : Ob) : (S.set i o).size = S.size := by simp [size, set]
theorem size_push (S : Store) (o : Ob) : (S.push o).size = S.size + 1 := by simp [size, push]
theorem get_lt {S : Store} {i : Nat} {o : Ob} (h : S.get i = some o) : i < S.size := (List.getElem?_eq_some_iff.mp h).1
theorem get_none {S : Store} {i : Nat} (h : S.size ≤ i) : S.get i = none := by
  unfold get size at *
  exact List.getElem?_eq_none_iff.mpr h
theorem get_set_same {S : Store} {i : Nat} {o : Ob} (h : i < S.size) : (S.set i o).get i = some o := by
  unfold get set size at *
  simp [h]
theorem get_set_ne {S : Store} {i j : Nat} {o : Ob} (h : i ≠ j) : (S.set i o).get j = S.get j := by
  unfold get set
  simp [List.getElem?_set_ne h]
theorem get_push_same {S : Store} {o : Ob} : (S.push o).get S.size = some o := by
  unfold get push size
  simp
theorem get_push_lt {S : Store} {i : Nat} {o : Ob} (h : i < S.size) : (S.push o).get i = S.get i := by
  unfold get push size at *
  simp [List.getElem?_append_left h]
theorem get_push_some {S : Store} {i : Nat} {o u : Ob} (h : S.get i = some u) : (S.push o).get i = some u := by
  rw [get_push_lt (get_lt h)]; exact h
theorem get_push_ne {S : Store} {i : Nat} {o : Ob} (h : i ≠ S.size) : (S.push o).get i = S.get i := by
  by_cases hl : i < S.size
  · exact get_push_lt hl
  · rw [get_none (S := S) (by omega), get_none (by rw [size_push]; omega)]
end Store

/-- an exception in flight: its class, its fields -/
structure Xn where
  c : Nat
  fs : List (Nat × D)

inductive Res (α : Type) where
  | ok (a : α) (S : Store)
  | exc (x : Xn) (S : Store)
  | bad
abbrev En := List (Option D)
inductive RS where
  | nx (σ : En) (S : Store)
  | rt (d : D) (S : Store)
  | bk (σ : En) (S : Store)
  | ct (σ : En) (S : Store)
  | exc (x : Xn) (σ : En) (S : Store)
  | bad
def Res.bind {α β : Type} (r : Res α) (f : α → Store → Res β) : Res β :=
  match r with
  | .ok a S => f a S
  | .exc x S => .exc x S
  | .bad => .bad
theorem Res.bind_ok {α β : Type} {a : α} {S : Store} {f : α → Store → Res β} : (Res.ok a S).bind f = f a S := rfl
theorem Res.bind_exc {α β : Type} {x : Xn} {S : Store} {f : α → Store → Res β} : (Res.exc x S : Res α).bind f = .exc x S := rfl
theorem Res.bind_bad {α β : Type} {f : α → Store → Res β} : (Res.bad : Res α).bind f = .bad := rfl
abbrev ME := En → Store → Res D
abbrev MA := En → Store → Res (List D)
abbrev MT := En → Store → Res Bool
abbrev MS := En → Store → RS

/-! ### how a store lies over an abstract heap -/
/-- what a class of the program must have -/
structure CI (K : PySem.W.Frag) (C : Addr) : Prop where
  cl : Cls K C
  ha : PySem.W.findIn K (.ref C) "__class__" = some (some (.builtin "object.__class__"))
  hn : PySem.W.specialIn K (.builtin "object.__class__") "__get__" = some (some (.builtin "getset_descriptor.__get__"))
  htk : PySem.W.takesIn K (.builtin "object.__class__") = some true
  hm : PySem.W.mroIn K C (.type "object") = some true
/-- a type: a built-in one, a class of the program -/
inductive Tag where
  | b (n : String) | o (c : Nat)
  deriving DecidableEq
def tagVal (cls : Nat → Option Addr) : Tag → Option Value
  | .b n => some (.type n)
  | .o c => (cls c).map Value.ref
/-- the program's tables: the written part, the classes by number, the fields' names by number, what isinstance says, the exceptions' classes -/
structure Gx where
  K : PySem.W.Frag
  cls : Nat → Option Addr
  fld : Nat → Str
  inj : ∀ i j, fld i = fld j → i = j
  clsv : Nat → Option Value
  ci : ∀ c C, cls c = some C → CI K C
  isi : Tag → Tag → Option Bool
  isi_ok : ∀ t u b tv uv, isi t u = some b → tagVal cls t = some tv → tagVal cls u = some uv → PySem.W.kitOne K tv uv = some b

/-! ### keys -/
def keyD : D → Option Key
  | .int i => some (.inl i)
  | .str x => some (.inr ⟨x.toArray⟩)
  | _ => none
def keysD : List D → Option (List Key)
  | [] => some []
  | d :: ds => match keyD d, keysD ds with
    | some k, some ks => some (k :: ks)
    | _, _ => none
def keyT : D → Option (List Key)
  | .tup ds => keysD ds
  | _ => none

/-- where the store's things stand, and what is hidden (a comprehension's list while it grows) -/
structure Wd where
  v : List Addr
  h : List Addr
def Wd.no (ρ : Wd) (a : Addr) : Prop := a ∉ ρ.v ∧ a ∉ ρ.h
def Wd.push (ρ : Wd) (a : Addr) : Wd := ⟨ρ.v ++ [a], ρ.h⟩

/-- a list that nothing changes -/
def FlAt (K : PySem.W.Frag) (H : Hp) (a : Addr) (xs : List V) : Prop := (∃ o, H a = some (.frz o (.lst xs))) ∨ SqL K (fun _ => none) a xs
section
variable (G : Gx) (ρ : Wd) (H : Hp)
mutual
inductive RV : D → V → Prop
  | non : RV .non .non
  | bl (b : Bool) : RV (.bl b) (.bl b)
  | int (i : Int) : RV (.int i) (.int i)
  | str (x : List Nat) : RV (.str x) (.str ⟨x.toArray⟩)
  | ty (n : String) : RV (.ty n) (.ty n)
  | cl {c : Nat} {C : Addr} : G.cls c = some C → RV (.cl c) (.ref C)
  | ref {i : Nat} {a : Addr} : ρ.v[i]? = some a → RV (.ref i) (.ref a)
  | tup {ds : List D} {a : Addr} {xs : List V} : H a = some (.tup xs) → RVs ds xs → RV (.tup ds) (.ref a)
  | kt {ds : List D} {a : Addr} {xs : List V} : SqT G.K (fun _ => none) a xs → RVs ds xs → RV (.kt ds) (.ref a)
  | lv {ds : List D} {a : Addr} {xs : List V} : ρ.no a → H a = some (.lst xs) → RVs ds xs → RV (.lv ds) (.ref a)
  | fl {ds : List D} {a : Addr} {xs : List V} : FlAt G.K H a xs → RVs ds xs → RV (.fl ds) (.ref a)
  | dvK {kvs : List (D × D)} {a : Addr} {kus : List (Key × V)} : ρ.no a → Rd H a (.dK kus) → RKs kvs kus → RV (.dv false kvs) (.ref a)
  | dvT {kvs : List (D × D)} {a : Addr} {kus : List (List Key × V)} : ρ.no a → Rd H a (.dT kus) → RTs kvs kus → RV (.dv true kvs) (.ref a)
inductive RVs : List D → List V → Prop
  | nil : RVs [] []
  | cons {d : D} {ds : List D} {v : V} {vs : List V} : RV d v → RVs ds vs → RVs (d :: ds) (v :: vs)
inductive RKs : List (D × D) → List (Key × V) → Prop
  | nil : RKs [] []
  | cons {d e : D} {k : Key} {v : V} {kvs : List (D × D)} {kus : List (Key × V)} : keyD d = some k → RV e v → RKs kvs kus → RKs ((d, e) :: kvs) ((k, v) :: kus)
inductive RTs : List (D × D) → List (List Key × V) → Prop
  | nil : RTs [] []
  | cons {d e : D} {k : List Key} {v : V} {kvs : List (D × D)} {kus : List (List Key × V)} : keyT d = some k → RV e v → RTs kvs kus → RTs ((d, e) :: kvs) ((k, v) :: kus)
end
end

def IsT : HO → Prop
  | .tup _ => True
  | .frz _ (.lst _) => True
  | .xd _ => True
  | _ => False
/-- tuples stay, frozen lists too -/
def TK (G : Gx) (H H' : Hp) : Prop := ∀ a u, IsT u → H a = some u → H' a = some u
theorem FlAt.move {G : Gx} {H H' : Hp} {a : Addr} {xs : List V} (t : TK G H H') (h : FlAt G.K H a xs) : FlAt G.K H' a xs := h.elim (fun ⟨o, h⟩ => .inl ⟨o, t a _ trivial h⟩) .inr
theorem FlAt.sq {K : PySem.W.Frag} {H : Hp} {a : Addr} {xs : List V} (h : FlAt K H a xs) : SqL K H a xs := by
  rcases h with ⟨o, h⟩ | (h | ⟨o, h⟩) | h
  · exact .inl (.inr ⟨o, h⟩)
  · cases h
  · cases h
  · exact .inr h
def IsDk : HO → Prop
  | .dK _ => True
  | .dT _ => True
  | _ => False
structure Le (G : Gx) (ρ : Wd) (H : Hp) (ρ' : Wd) (H' : Hp) : Prop where
  pre : ρ.v <+: ρ'.v
  hid : ρ'.h = ρ.h
  tk : TK G H H'
  kl : ∀ a xs, ρ.no a → H a = some (.lst xs) → H' a = some (.lst xs)
  kp : ∀ a u, ρ.no a → IsDk u → Rd H a u → Rd H' a u
  ni : ∀ a, ρ.no a → H a ≠ none → ρ'.no a ∧ H' a ≠ none
  kh : ∀ a, a ∈ ρ.h → H a ≠ none → H' a = H a
theorem rd_some {H : Hp} {a : Addr} {u : HO} (h : Rd H a u) : H a ≠ none := by
  rcases h with h | ⟨o, h⟩ <;> (rw [h]; simp)
theorem Le.refl {G : Gx} {ρ : Wd} {H : Hp} : Le G ρ H ρ H := ⟨List.prefix_refl _, rfl, fun _ _ _ h => h, fun _ _ _ h => h, fun _ _ _ _ h => h, fun _ h e => ⟨h, e⟩, fun _ _ _ => rfl⟩
theorem Le.trans {G : Gx} {ρ ρ' ρ'' : Wd} {H H' H'' : Hp} (a : Le G ρ H ρ' H') (b : Le G ρ' H' ρ'' H'') : Le G ρ H ρ'' H'' := by
  refine ⟨a.pre.trans b.pre, b.hid.trans a.hid, fun c xs t h => b.tk c xs t (a.tk c xs t h), fun c xs hc h => b.kl c xs (a.ni c hc (by rw [h]; simp)).1 (a.kl c xs hc h), fun c u hc n h => ?_, fun c hc h => ?_, fun c hc h => ?_⟩
  · exact b.kp c u (a.ni c hc (rd_some h)).1 n (a.kp c u hc n h)
  · obtain ⟨h1, h2⟩ := a.ni c hc h
    exact b.ni c h1 h2
  · have e := a.kh c hc h
    rw [b.kh c (by rw [a.hid]; exact hc) (by rw [e]; exact h), e]
theorem pre_get {ρ ρ' : List Addr} (h : ρ <+: ρ') {i : Nat} {a : Addr} (e : ρ[i]? = some a) : ρ'[i]? = some a := by
  obtain ⟨t, rfl⟩ := h
  obtain ⟨hl, _⟩ := List.getElem?_eq_some_iff.mp e
  rw [List.getElem?_append_left hl]
  exact e
/-- values move from one world to another -/
structure Mv (G : Gx) (ρ : Wd) (H : Hp) (ρ' : Wd) (H' : Hp) : Prop where
  at_ : ∀ (i : Nat) a, ρ.v[i]? = some a → ρ'.v[i]? = some a
  tk : TK G H H'
  kl : ∀ a xs, ρ.no a → H a = some (.lst xs) → ρ'.no a ∧ H' a = some (.lst xs)
  kp : ∀ a u, ρ.no a → IsDk u → Rd H a u → ρ'.no a ∧ Rd H' a u
mutual
theorem RV.move {G : Gx} {ρ ρ' : Wd} {H H' : Hp} (l : Mv G ρ H ρ' H') : ∀ {d : D} {v : V}, RV G ρ H d v → RV G ρ' H' d v
  | _, _, .non => .non
  | _, _, .bl b => .bl b
  | _, _, .int i => .int i
  | _, _, .str x => .str x
  | _, _, .ty n => .ty n
  | _, _, .cl h => .cl h
  | _, _, .ref e => .ref (l.at_ _ _ e)
  | _, _, .tup h r => .tup (l.tk _ _ trivial h) (RVs.move l r)
  | _, _, .fl h r => .fl (h.move l.tk) (RVs.move l r)
  | _, _, .kt h r => .kt h (RVs.move l r)
  | _, _, .lv n h r => .lv (l.kl _ _ n h).1 (l.kl _ _ n h).2 (RVs.move l r)
  | _, _, .dvK n h r => .dvK (l.kp _ (.dK _) n trivial h).1 (l.kp _ (.dK _) n trivial h).2 (RKs.move l r)
  | _, _, .dvT n h r => .dvT (l.kp _ (.dT _) n trivial h).1 (l.kp _ (.dT _) n trivial h).2 (RTs.move l r)
theorem RVs.move {G : Gx} {ρ ρ' : Wd} {H H' : Hp} (l : Mv G ρ H ρ' H') : ∀ {ds : List D} {vs : List V}, RVs G ρ H ds vs → RVs G ρ' H' ds vs
  | _, _, .nil => .nil
  | _, _, .cons h t => .cons (RV.move l h) (RVs.move l t)
theorem RKs.move {G : Gx} {ρ ρ' : Wd} {H H' : Hp} (l : Mv G ρ H ρ' H') : ∀ {ds : List (D × D)} {vs : List (Key × V)}, RKs G ρ H ds vs → RKs G ρ' H' ds vs
  | _, _, .nil => .nil
  | _, _, .cons k h t => .cons k (RV.move l h) (RKs.move l t)
theorem RTs.move {G : Gx} {ρ ρ' : Wd} {H H' : Hp} (l : Mv G ρ H ρ' H') : ∀ {ds : List (D × D)} {vs : List (List Key × V)}, RTs G ρ H ds vs → RTs G ρ' H' ds vs
  | _, _, .nil => .nil
  | _, _, .cons k h t => .cons k (RV.move l h) (RTs.move l t)
end
theorem Le.mv {G : Gx} {ρ ρ' : Wd} {H H' : Hp} (l : Le G ρ H ρ' H') : Mv G ρ H ρ' H' :=
  ⟨fun _ _ h => pre_get l.pre h, l.tk, fun a xs n h => ⟨(l.ni a n (by rw [h]; simp)).1, l.kl a xs n h⟩, fun a u n dk h => ⟨(l.ni a n (rd_some h)).1, l.kp a u n dk h⟩⟩
theorem Mv.trans {G : Gx} {ρ ρ' ρ'' : Wd} {H H' H'' : Hp} (a : Mv G ρ H ρ' H') (b : Mv G ρ' H' ρ'' H'') : Mv G ρ H ρ'' H'' :=
  ⟨fun i c h => b.at_ i c (a.at_ i c h), fun c xs t h => b.tk c xs t (a.tk c xs t h), fun c xs n h => b.kl c xs (a.kl c xs n h).1 (a.kl c xs n h).2, fun c u n dk h => b.kp c u (a.kp c u n dk h).1 dk (a.kp c u n dk h).2⟩
theorem RV.mono {G : Gx} {ρ ρ' : Wd} {H H' : Hp} (l : Le G ρ H ρ' H') {d : D} {v : V} (r : RV G ρ H d v) : RV G ρ' H' d v := r.move l.mv
theorem RVs.mono {G : Gx} {ρ ρ' : Wd} {H H' : Hp} (l : Le G ρ H ρ' H') {ds : List D} {vs : List V} (r : RVs G ρ H ds vs) : RVs G ρ' H' ds vs := r.move l.mv
theorem RVs.length {G : Gx} {ρ : Wd} {H : Hp} : ∀ {ds : List D} {vs : List V}, RVs G ρ H ds vs → ds.length = vs.length
  | _, _, .nil => rfl
  | _, _, .cons _ t => by simp [RVs.length t]
theorem RVs.append {G : Gx} {ρ : Wd} {H : Hp} : ∀ {ds es : List D} {vs us : List V}, RVs G ρ H ds vs → RVs G ρ H es us → RVs G ρ H (ds ++ es) (vs ++ us)
  | _, _, _, _, .nil, r => r
  | _, _, _, _, .cons h t, r => .cons h (RVs.append t r)
theorem RVs.get {G : Gx} {ρ : Wd} {H : Hp} : ∀ {ds : List D} {vs : List V} {i : Nat} {d : D}, RVs G ρ H ds vs → ds[i]? = some d → ∃ v, vs[i]? = some v ∧ RV G ρ H d v
  | _, _, _, _, .nil, e => by simp at e
  | _, _, 0, _, .cons h _, e => by simp at e; subst e; exact ⟨_, rfl, h⟩
  | _, _, i + 1, d, .cons _ t, e => by
    obtain ⟨v, h1, h2⟩ := RVs.get (i := i) (d := d) t (by simpa using e)
    exact ⟨v, by simpa using h1, h2⟩
theorem RVs.set {G : Gx} {ρ : Wd} {H : Hp} {d : D} {v : V} (h : RV G ρ H d v) : ∀ {ds : List D} {vs : List V} (i : Nat), RVs G ρ H ds vs → RVs G ρ H (ds.set i d) (vs.set i v)
  | _, _, _, .nil => .nil
  | _, _, 0, .cons _ t => .cons h t
  | _, _, i + 1, .cons q t => .cons q (RVs.set h i t)
theorem RVs.get' {G : Gx} {ρ : Wd} {H : Hp} : ∀ {ds : List D} {vs : List V} {i : Nat} {v : V}, RVs G ρ H ds vs → vs[i]? = some v → ∃ d, ds[i]? = some d ∧ RV G ρ H d v
  | _, _, _, _, .nil, e => by simp at e
  | _, _, 0, _, .cons h _, e => by simp at e; subst e; exact ⟨_, rfl, h⟩
  | _, _, i + 1, v, .cons _ t, e => by
    obtain ⟨d, h1, h2⟩ := RVs.get' (i := i) (v := v) t (by simpa using e)
    exact ⟨d, by simpa using h1, h2⟩

section
variable (G : Gx) (ρ : Wd) (H : Hp)
inductive RFs : List (Nat × D) → List (Str × V) → Prop
  | nil : RFs [] []
  | cons {n : Nat} {d : D} {v : V} {fs : List (Nat × D)} {us : List (Str × V)} : RV G ρ H d v → RFs fs us → RFs ((n, d) :: fs) ((G.fld n, v) :: us)
inductive RO : Ob → HO → Prop
  | lst {ds : List D} {xs : List V} : RVs G ρ H ds xs → RO (.lst ds) (.lst xs)
  | dK {kvs : List (D × D)} {kus : List (Key × V)} : RKs G ρ H kvs kus → RO (.dic false kvs) (.dK kus)
  | dT {kvs : List (D × D)} {kus : List (List Key × V)} : RTs G ρ H kvs kus → RO (.dic true kvs) (.dT kus)
  | ins {c : Nat} {C dx : Addr} {fs : List (Nat × D)} {us : List (Str × V)} : G.cls c = some C → RFs G ρ H fs us → RO (.ins c fs) (.ins C dx us)
  | lck {o : Ob} {ob : Obj} {u : HO} : RO o u → RO (.lck o) (.frz ob u)
end
section
variable {G : Gx} {ρ ρ' : Wd} {H H' : Hp}
theorem RFs.move {ρ ρ' : Wd} {H H' : Hp} (l : Mv G ρ H ρ' H') : ∀ {ds : List (Nat × D)} {vs : List (Str × V)}, RFs G ρ H ds vs → RFs G ρ' H' ds vs
  | _, _, .nil => .nil
  | _, _, .cons h t => .cons (h.move l) (RFs.move l t)
theorem RO.move {ρ ρ' : Wd} {H H' : Hp} (l : Mv G ρ H ρ' H') {o : Ob} {u : HO} (r : RO G ρ H o u) : RO G ρ' H' o u := by
  induction r with
  | lst r => exact .lst (r.move l)
  | dK r => exact .dK (r.move l)
  | dT r => exact .dT (r.move l)
  | ins h r => exact .ins h (r.move l)
  | lck _ ih => exact .lck ih
theorem RO.mono (l : Le G ρ H ρ' H') {o : Ob} {u : HO} (r : RO G ρ H o u) : RO G ρ' H' o u := r.move l.mv
theorem RFs.length : ∀ {fs : List (Nat × D)} {us : List (Str × V)}, RFs G ρ H fs us → fs.length = us.length
  | _, _, .nil => rfl
  | _, _, .cons _ t => by simp [RFs.length t]
end

structure Rl (G : Gx) (ρ : Wd) (S : Store) (H : Hp) : Prop where
  len : ρ.v.length = S.size
  nd : ρ.v.Nodup
  hh : ∀ a, a ∈ ρ.h → a ∉ ρ.v ∧ H a ≠ none
  ob : ∀ i o, S.get i = some o → ∃ a u, ρ.v[i]? = some a ∧ H a = some u ∧ RO G ρ H o u
/-- slots -/
structure RE (G : Gx) (ρ : Wd) (H : Hp) (σs : En) (σ : St) : Prop where
  len : σs.length = σ.length
  get : ∀ (i : Nat) (d : D), σs[i]? = some (some d) → ∃ v : V, σ[i]? = some (some v) ∧ RV G ρ H d v
/-- an exception: its class, its fields -/
structure RX (G : Gx) (ρ : Wd) (H : Hp) (x : Xn) (cls : Value) (dd : Option Addr) : Prop where
  cls : G.clsv x.c = some cls
  fs : (dd = none ∧ x.fs = []) ∨ ∃ d us, dd = some d ∧ H d = some (.xd us) ∧ RFs G ρ H x.fs us
section
variable {G : Gx} {ρ ρ' : Wd} {H H' : Hp}
theorem RE.move {ρ ρ' : Wd} {H H' : Hp} (l : Mv G ρ H ρ' H') {σs : En} {σ : St} (r : RE G ρ H σs σ) : RE G ρ' H' σs σ := ⟨r.len, fun i d e => let ⟨v, h1, h2⟩ := r.get i d e; ⟨v, h1, h2.move l⟩⟩
theorem RE.mono (l : Le G ρ H ρ' H') {σs : En} {σ : St} (r : RE G ρ H σs σ) : RE G ρ' H' σs σ := ⟨r.len, fun i d e => let ⟨v, h1, h2⟩ := r.get i d e; ⟨v, h1, h2.mono l⟩⟩
theorem RE.set {σs : En} {σ : St} {d : D} {v : V} (r : RE G ρ H σs σ) (i : Nat) (h : RV G ρ H d v) : RE G ρ H (σs.set i (some d)) (σ.set i (some v)) := by
  refine ⟨by simp [r.len], fun j e hj => ?_⟩
  by_cases hij : i = j
  · subst hij
    by_cases hl : i < σs.length
    · rw [List.getElem?_set_self hl] at hj
      cases hj
      exact ⟨v, List.getElem?_set_self (by rw [← r.len]; exact hl), h⟩
    · rw [List.getElem?_eq_none (by simpa using hl)] at hj
      cases hj
  · rw [List.getElem?_set_ne hij] at hj ⊢
    exact r.get j e hj
end

/-! ### what is wanted of a run -/
section
variable {α β : Type} (G : Gx)
def PostR (R : Wd → Hp → α → β → Prop) (ρ : Wd) (H : Hp) (r : Res α) (Q : β → Hp → Prop) (E : XK) : Prop :=
  match r with
  | .ok d S' => ∀ ρ' H' v, Le G ρ H ρ' H' → Rl G ρ' S' H' → R ρ' H' d v → Q v H'
  | .exc x S' => ∀ ρ' H' cls dd, Le G ρ H ρ' H' → Rl G ρ' S' H' → RX G ρ' H' x cls dd → E cls dd H'
  | .bad => False
def PostS (ρ : Wd) (H : Hp) (r : RS) (Dn : Ends) (W : WX) : Prop :=
  match r with
  | .nx σs S' => ∀ ρ' H' σ', Le G ρ H ρ' H' → Rl G ρ' S' H' → RE G ρ' H' σs σ' → Dn.nx σ' H'
  | .bk σs S' => ∀ ρ' H' σ', Le G ρ H ρ' H' → Rl G ρ' S' H' → RE G ρ' H' σs σ' → Dn.bk σ' H'
  | .ct σs S' => ∀ ρ' H' σ', Le G ρ H ρ' H' → Rl G ρ' S' H' → RE G ρ' H' σs σ' → Dn.ct σ' H'
  | .rt d S' => ∀ ρ' H' v, Le G ρ H ρ' H' → Rl G ρ' S' H' → RV G ρ' H' d v → Dn.rt v H'
  | .exc x σs S' => ∀ ρ' H' σ' cls dd, Le G ρ H ρ' H' → Rl G ρ' S' H' → RE G ρ' H' σs σ' → RX G ρ' H' x cls dd → W cls dd σ' H'
  | .bad => False
end
abbrev Post (G : Gx) := PostR (α := D) (β := V) G (RV G)
abbrev PostA (G : Gx) := PostR (α := List D) (β := List V) G (RVs G)
abbrev PostT (G : Gx) := PostR (α := Bool) (β := Bool) G (fun _ _ b c => b = c)
section
variable {α β : Type} {G : Gx} {ρ ρ' : Wd} {H H' : Hp}
theorem PostR.le {R : Wd → Hp → α → β → Prop} {r : Res α} {Q : β → Hp → Prop} {E : XK} (p : PostR G R ρ H r Q E) (l : Le G ρ H ρ' H') : PostR G R ρ' H' r Q E := by
  cases r with
  | ok d S => exact fun ρ2 H2 v l2 rl h => p ρ2 H2 v (l.trans l2) rl h
  | exc x S => exact fun ρ2 H2 c dd l2 rl h => p ρ2 H2 c dd (l.trans l2) rl h
  | bad => exact p
theorem PostR.imp {R : Wd → Hp → α → β → Prop} {r : Res α} {Q Q' : β → Hp → Prop} {E E' : XK} (p : PostR G R ρ H r Q E) (h : ∀ v H', Q v H' → Q' v H') (hE : ∀ c d H', E c d H' → E' c d H') : PostR G R ρ H r Q' E' := by
  cases r with
  | ok d S => exact fun ρ2 H2 v l2 rl q => h _ _ (p ρ2 H2 v l2 rl q)
  | exc x S => exact fun ρ2 H2 c dd l2 rl q => hE _ _ _ (p ρ2 H2 c dd l2 rl q)
  | bad => exact p
theorem PostS.le {r : RS} {Dn : Ends} {W : WX} (p : PostS G ρ H r Dn W) (l : Le G ρ H ρ' H') : PostS G ρ' H' r Dn W := by
  cases r with
  | nx σ S => exact fun ρ2 H2 v l2 rl h => p ρ2 H2 v (l.trans l2) rl h
  | bk σ S => exact fun ρ2 H2 v l2 rl h => p ρ2 H2 v (l.trans l2) rl h
  | ct σ S => exact fun ρ2 H2 v l2 rl h => p ρ2 H2 v (l.trans l2) rl h
  | rt d S => exact fun ρ2 H2 v l2 rl h => p ρ2 H2 v (l.trans l2) rl h
  | exc x σ S => exact fun ρ2 H2 σ' c dd l2 rl re h => p ρ2 H2 σ' c dd (l.trans l2) rl re h
  | bad => exact p
/-- THE STEP: what is wanted of the first part, then of the rest -/
theorem PostR.bind {γ δ : Type} {R : Wd → Hp → α → β → Prop} {R' : Wd → Hp → γ → δ → Prop} {r : Res α} {f : α → Store → Res γ} {Q : δ → Hp → Prop} {E : XK} (p : PostR G R' ρ H (r.bind f) Q E)
    {Q1 : β → Hp → Prop} (k : ∀ ρ1 H1 S1 d v, Le G ρ H ρ1 H1 → Rl G ρ1 S1 H1 → R ρ1 H1 d v → PostR G R' ρ1 H1 (f d S1) Q E → Q1 v H1) : PostR G R ρ H r Q1 E := by
  cases r with
  | ok d S =>
    intro ρ1 H1 v l rl h
    exact k ρ1 H1 S d v l rl h (PostR.le (r := f d S) p l)
  | exc x S => exact p
  | bad => exact p
end

/-! ### runs as readings -/
section
variable (G : Gx) (W : WX)
def tm (m : ME) : TE := fun σ H Q => ∃ ρ σs S, Rl G ρ S H ∧ RE G ρ H σs σ ∧ Post G ρ H (m σs S) Q (fun c d H' => W c d σ H')
def tma (m : MA) : TA := fun σ H Q => ∃ ρ σs S, Rl G ρ S H ∧ RE G ρ H σs σ ∧ PostA G ρ H (m σs S) Q (fun c d H' => W c d σ H')
def tmt (m : MT) : TT := fun σ H Q => ∃ ρ σs S, Rl G ρ S H ∧ RE G ρ H σs σ ∧ PostT G ρ H (m σs S) Q (fun c d H' => W c d σ H')
def tms (m : MS) : TS := fun Dn σ H => ∃ ρ σs S, Rl G ρ S H ∧ RE G ρ H σs σ ∧ PostS G ρ H (m σs S) Dn W
end
theorem PE.weak {X : Cx} {e : Expr} {t t' : TE} (h : PE X e t) (i : ∀ σ H Q, t' σ H Q → t σ H Q) : PE X e t' := ⟨fun pins s σ H Q I q => h.run pins s σ H Q I (i _ _ _ q)⟩
theorem PT.weak {X : Cx} {e : Expr} {t t' : TT} (h : PT X e t) (i : ∀ σ H Q, t' σ H Q → t σ H Q) : PT X e t' := ⟨fun pins s σ H Q I q => h.run pins s σ H Q I (i _ _ _ q)⟩
theorem PW.weak {X : Cx} {e : Expr} {t t' : TT} (h : PW X e t) (i : ∀ σ H Q, t' σ H Q → t σ H Q) : PW X e t' := ⟨fun w pins s σ H Q I q => h.run w pins s σ H Q I (i _ _ _ q)⟩
theorem PA.weak {X : Cx} {e : List Expr} {t t' : TA} (h : PA X e t) (i : ∀ σ H Q, t' σ H Q → t σ H Q) : PA X e t' := ⟨fun pos pins s σ H Q I q => h.run pos pins s σ H Q I (i _ _ _ q)⟩
theorem PS.weak {X : Cx} {e : Stmt} {t t' : TS} (h : PS X e t) (i : ∀ σ H Q, t' σ H Q → t σ H Q) : PS X e t' := ⟨fun pins s σ H D I q => h.run pins s σ H D I (i _ _ _ q)⟩
theorem PSs.weak {X : Cx} {e : List Stmt} {t t' : TS} (h : PSs X e t) (i : ∀ σ H Q, t' σ H Q → t σ H Q) : PSs X e t' := ⟨fun pins s σ H D I q => h.run pins s σ H D I (i _ _ _ q)⟩

/-! ### heaps that change -/
section
variable {G : Gx} {ρ : Wd} {S : Store} {H : Hp}
theorem tk_new {p : Addr} {o : HO} (hp : H p = none) : TK G H (L2.upd H p o) := fun _ _ _ h => by rw [upd_ne (ne_of_none h hp)]; exact h
/-- the thing at p is no tuple -/
def NoT : HO → Prop
  | .tup _ => False
  | .frz _ (.lst _) => False
  | .xd _ => False
  | _ => True
theorem NoT.no {u : HO} (n : NoT u) (t : IsT u) : False := by
  cases u with
  | frz o v => cases v <;> first | exact n | exact t
  | _ => first | exact n | exact t
theorem tk_upd {p : Addr} {o u : HO} (hp : H p = some u) (n : NoT u) : TK G H (L2.upd H p o) := fun a xs t h => by
  rw [upd_ne]
  · exact h
  · rintro rfl
    rw [h] at hp
    cases hp
    exact n.no t
theorem rd_new {p : Addr} {o : HO} (hp : H p = none) {a : Addr} {u : HO} (h : Rd H a u) : Rd (L2.upd H p o) a u := by
  have hne : a ≠ p := fun e => rd_some h (by rw [e]; exact hp)
  rcases h with h | ⟨ob, h⟩
  · exact .inl (by rw [upd_ne hne]; exact h)
  · exact .inr ⟨ob, by rw [upd_ne hne]; exact h⟩
theorem Le.new {p : Addr} {o : HO} (hp : H p = none) : Le G ρ H ρ (L2.upd H p o) := ⟨List.prefix_refl _, rfl, tk_new hp, fun _ _ _ h => by rw [upd_ne (ne_of_none h hp)]; exact h, fun _ _ _ _ h => rd_new hp h, fun a h e => ⟨h, by
  rw [upd_ne (show a ≠ p from fun z => e (by rw [z]; exact hp))]; exact e⟩, fun a _ e => upd_ne (show a ≠ p from fun z => e (by rw [z]; exact hp))⟩
theorem Le.push {p : Addr} {o : HO} (hp : H p = none) : Le G ρ H (ρ.push p) (L2.upd H p o) := ⟨List.prefix_append _ _, rfl, tk_new hp, fun _ _ _ h => by rw [upd_ne (ne_of_none h hp)]; exact h, fun _ _ _ _ h => rd_new hp h, fun a h e => by
  have hne : a ≠ p := fun z => e (by rw [z]; exact hp)
  exact ⟨⟨by simp [Wd.push, h.1, hne], h.2⟩, by rw [upd_ne hne]; exact e⟩, fun a _ e => upd_ne (show a ≠ p from fun z => e (by rw [z]; exact hp))⟩
theorem Le.upd {p : Addr} {u u' : HO} (hm : p ∈ ρ.v) (hx : p ∉ ρ.h) (hp : H p = some u) (n : NoT u) : Le G ρ H ρ (L2.upd H p u') := ⟨List.prefix_refl _, rfl, tk_upd hp n, fun a xs ha h => by
    rw [upd_ne (show a ≠ p from fun z => ha.1 (by rw [z]; exact hm))]; exact h, fun a v ha _ h => by
  have hne : a ≠ p := fun z => ha.1 (by rw [z]; exact hm)
  rcases h with h | ⟨ob, h⟩
  · exact .inl (by rw [upd_ne hne]; exact h)
  · exact .inr ⟨ob, by rw [upd_ne hne]; exact h⟩, fun a ha e => ⟨ha, by rw [upd_ne (show a ≠ p from fun z => ha.1 (by rw [z]; exact hm))]; exact e⟩, fun a ha _ => upd_ne (show a ≠ p from fun z => hx (by rw [← z]; exact ha))⟩
/-- something new that the store does not know -/
theorem Rl.other {p : Addr} {o : HO} (r : Rl G ρ S H) (hp : H p = none) : Rl G ρ S (L2.upd H p o) := by
  refine ⟨r.len, r.nd, fun a ha => ⟨(r.hh a ha).1, ?_⟩, fun i ob e => ?_⟩
  · have e := (r.hh a ha).2
    rw [upd_ne (show a ≠ p from fun z => e (by rw [z]; exact hp))]
    exact e
  · obtain ⟨a, u, h1, h2, h3⟩ := r.ob i ob e
    exact ⟨a, u, h1, by rw [upd_ne (ne_of_none h2 hp)]; exact h2, h3.mono (Le.new hp)⟩
theorem Store.all {S : Store} (i : Nat) (h : i < S.size) : ∃ o, S.get i = some o := by
  unfold Store.get Store.size at *
  exact ⟨S.objs[i], List.getElem?_eq_getElem h⟩
theorem Rl.no {p : Addr} (r : Rl G ρ S H) (hp : H p = none) : ρ.no p := by
  refine ⟨fun hm => ?_, fun hm => (r.hh p hm).2 hp⟩
  obtain ⟨i, hl, e⟩ := List.getElem_of_mem hm
  obtain ⟨o, ho⟩ := Store.all (S := S) i (by rw [← r.len]; exact hl)
  obtain ⟨a, u, h1, h2, _⟩ := r.ob i o ho
  rw [List.getElem?_eq_getElem hl, e] at h1
  cases h1
  rw [h2] at hp
  cases hp
theorem Rl.nh {p : Addr} {i : Nat} (r : Rl G ρ S H) (hi : ρ.v[i]? = some p) : p ∉ ρ.h := fun hm => (r.hh p hm).1 (List.mem_of_getElem? hi)
theorem Rl.leUpd {p : Addr} {i : Nat} {u u' : HO} (r : Rl G ρ S H) (hi : ρ.v[i]? = some p) (hp : H p = some u) (n : NoT u) : Le G ρ H ρ (L2.upd H p u') := Le.upd (List.mem_of_getElem? hi) (r.nh hi) hp n
/-- a new thing of the store -/
theorem Rl.push {p : Addr} {o : Ob} {u : HO} (r : Rl G ρ S H) (hp : H p = none) (ro : RO G ρ H o u) : Rl G (ρ.push p) (S.push o) (L2.upd H p u) := by
  have l : Le G ρ H (ρ.push p) (L2.upd H p u) := Le.push hp
  have hn := r.no hp
  refine ⟨by simp [Wd.push, r.len, Store.size_push], ?_, fun a ha => ?_, fun i ob e => ?_⟩
  · show (ρ.v ++ [p]).Nodup
    rw [List.nodup_append]
    refine ⟨r.nd, by simp, fun a ha b hb => ?_⟩
    simp only [List.mem_singleton] at hb
    subst hb
    rintro rfl
    exact hn.1 ha
  · obtain ⟨h1, h2⟩ := r.hh a ha
    have hne : a ≠ p := fun z => h2 (by rw [z]; exact hp)
    exact ⟨by simp [Wd.push, h1, hne], by rw [upd_ne hne]; exact h2⟩
  · by_cases hi : i = S.size
    · subst hi
      rw [Store.get_push_same] at e
      cases e
      refine ⟨p, u, ?_, upd_same, ro.mono l⟩
      rw [← r.len]
      simp [Wd.push]
    · rw [Store.get_push_ne hi] at e
      obtain ⟨a, u', h1, h2, h3⟩ := r.ob i ob e
      exact ⟨a, u', pre_get l.pre h1, by rw [upd_ne (ne_of_none h2 hp)]; exact h2, h3.mono l⟩
theorem RV.new {p : Addr} {u : HO} (r : Rl G ρ S H) : RV G (ρ.push p) (L2.upd H p u) (.ref S.size) (.ref p) := .ref (by rw [← r.len]; simp [Wd.push])
theorem nd_get {l : List Addr} (nd : l.Nodup) {i j : Nat} {a : Addr} (h1 : l[i]? = some a) (h2 : l[j]? = some a) : i = j := by
  obtain ⟨a1, e1⟩ := List.getElem?_eq_some_iff.mp h1
  obtain ⟨a2, e2⟩ := List.getElem?_eq_some_iff.mp h2
  have pw := List.pairwise_iff_getElem.mp nd
  rcases Nat.lt_trichotomy i j with h | h | h
  · exact absurd (e1.trans e2.symm) (pw i j a1 a2 h)
  · exact h
  · exact absurd (e2.trans e1.symm) (pw j i a2 a1 h)
/-- a thing of the store is changed -/
theorem Rl.set {p : Addr} {o o' : Ob} {u u' : HO} {i : Nat} (r : Rl G ρ S H) (hi : ρ.v[i]? = some p) (ho : S.get i = some o) (hp : H p = some u) (n : NoT u) (ro : RO G ρ H o' u') : Rl G ρ (S.set i o') (L2.upd H p u') := by
  have l : Le G ρ H ρ (L2.upd H p u') := r.leUpd hi hp n
  refine ⟨by rw [Store.size_set]; exact r.len, r.nd, fun a ha => ⟨(r.hh a ha).1, ?_⟩, fun j ob e => ?_⟩
  · rw [l.kh a ha (r.hh a ha).2]
    exact (r.hh a ha).2
  by_cases hij : i = j
  · subst hij
    rw [Store.get_set_same (Store.get_lt ho)] at e
    cases e
    exact ⟨p, u', hi, upd_same, ro.mono l⟩
  · rw [Store.get_set_ne hij] at e
    obtain ⟨a, v, h1, h2, h3⟩ := r.ob j ob e
    refine ⟨a, v, h1, ?_, h3.mono l⟩
    rw [upd_ne]
    · exact h2
    · rintro rfl
      exact hij (nd_get r.nd hi h1)
/-- what stands at a reference -/
theorem Rl.at {i : Nat} {a : Addr} {o : Ob} (r : Rl G ρ S H) (h : ρ.v[i]? = some a) (e : S.get i = some o) : ∃ u, H a = some u ∧ RO G ρ H o u := by
  obtain ⟨b, u, h1, h2, h3⟩ := r.ob i o e
  rw [h] at h1
  cases h1
  exact ⟨u, h2, h3⟩
end
end L2.Mi

set_option Elab.async false
set_option linter.all false
set_option maxRecDepth 100000
set_option maxHeartbeats 4000000
/-! Mini, 1: the runs of expressions and statements, one lemma a construct. -/
namespace L2.Mi
open PySem PySem.Spec PyProof.Rows

theorem Res.bind_assoc {α β γ : Type} {r : Res α} {f : α → Store → Res β} {g : β → Store → Res γ} : (r.bind f).bind g = r.bind fun a S => (f a S).bind g := by
  cases r <;> rfl

/-! ### combinators -/
def eVar (i : Nat) : ME := fun σ S => match σ[i]? with | some (some d) => .ok d S | _ => .bad
def eC (d : D) : ME := fun _ S => .ok d S
def eBin (f : D → D → Store → Res D) (a b : ME) : ME := fun σ S => (a σ S).bind fun x S1 => (b σ S1).bind fun y S2 => f x y S2
def eUn (f : D → Store → Res D) (a : ME) : ME := fun σ S => (a σ S).bind fun x S1 => f x S1
def aList : List ME → MA
  | [] => fun _ S => .ok [] S
  | m :: ms => fun σ S => (m σ S).bind fun x S1 => (aList ms σ S1).bind fun xs S2 => .ok (x :: xs) S2
def eTup (ms : List ME) : ME := fun σ S => (aList ms σ S).bind fun xs S1 => .ok (.tup xs) S1
/-- a list that is changed later, one that is not -/
def eLst (ms : List ME) : ME := fun σ S => (aList ms σ S).bind fun xs S1 => .ok (.ref S1.size) (S1.push (.lst xs))
def eLv (ms : List ME) : ME := fun σ S => (aList ms σ S).bind fun xs S1 => .ok (.lv xs) S1
/-- a call of a built-in -/
def eFn (f : List D → Store → Res D) (a : MA) : ME := fun σ S => (a σ S).bind f
def tOf (m : ME) : MT := fun σ S => (m σ S).bind fun d S1 => match d with | .bl b => .ok b S1 | _ => .bad
def tAnd (a b : MT) : MT := fun σ S => (a σ S).bind fun c S1 => if c then b σ S1 else .ok false S1
def tOr (a b : MT) : MT := fun σ S => (a σ S).bind fun c S1 => if c then .ok true S1 else b σ S1
def tNot (a : MT) : MT := fun σ S => (a σ S).bind fun c S1 => .ok (!c) S1
def eAnd (a b : ME) : ME := fun σ S => (tOf a σ S).bind fun c S1 => if c then b σ S1 else .ok (.bl false) S1
def eOr (a b : ME) : ME := fun σ S => (tOf a σ S).bind fun c S1 => if c then .ok (.bl true) S1 else b σ S1
def eNot (a : ME) : ME := fun σ S => (tOf a σ S).bind fun c S1 => .ok (.bl (!c)) S1
def eIf (t : MT) (a b : ME) : ME := fun σ S => (t σ S).bind fun c S1 => if c then a σ S1 else b σ S1
def eChain (f g : D → D → Store → Res D) (a b c : ME) : ME := fun σ S => (a σ S).bind fun x S1 => (b σ S1).bind fun y S2 => (f x y S2).bind fun d S3 =>
  match d with
  | .bl true => (c σ S3).bind fun z S4 => g y z S4
  | .bl false => .ok (.bl false) S3
  | _ => .bad

def sNext : MS := fun σ S => .nx σ S
def sBreak : MS := fun σ S => .bk σ S
def sCont : MS := fun σ S => .ct σ S
def sSeq (a b : MS) : MS := fun σ S => match a σ S with | .nx σ1 S1 => b σ1 S1 | r => r
def sOf (σ : En) (r : Res RS) : RS := match r with | .ok a _ => a | .exc x S => .exc x σ S | .bad => .bad
def sDo (m : ME) (k : D → Store → RS) : MS := fun σ S => match m σ S with | .ok d S1 => k d S1 | .exc x S1 => .exc x σ S1 | .bad => .bad
def sRet (m : ME) : MS := fun σ S => match m σ S with | .ok d S1 => .rt d S1 | .exc x S1 => .exc x σ S1 | .bad => .bad
def sRetN : MS := fun σ S => .rt .non S
def sDrop (m : ME) : MS := fun σ S => match m σ S with | .ok _ S1 => .nx σ S1 | .exc x S1 => .exc x σ S1 | .bad => .bad
def sIf (t : MT) (a b : MS) : MS := fun σ S => match t σ S with | .ok c S1 => (if c then a σ S1 else b σ S1) | .exc x S1 => .exc x σ S1 | .bad => .bad
/-- targets -/
abbrev MG := D → En → Store → Res En
def gName (i : Nat) : MG := fun d σ S => .ok (σ.set i (some d)) S
def gAll : List MG → List D → En → Store → Res En
  | [], [], σ, S => .ok σ S
  | g :: gs, d :: ds, σ, S => (g d σ S).bind fun σ1 S1 => gAll gs ds σ1 S1
  | _, _, _, _ => .bad
def gTup (gs : List MG) : MG := fun d σ S => match d with
  | .tup ds => gAll gs ds σ S
  | _ => .bad
def sAsg (m : ME) (g : MG) : MS := fun σ S => match m σ S with
  | .ok d S1 => (match g d σ S1 with | .ok σ2 S2 => .nx σ2 S2 | _ => .bad)
  | .exc x S1 => .exc x σ S1
  | .bad => .bad
abbrev sSet (i : Nat) (m : ME) : MS := sAsg m (gName i)
def sAug (i : Nat) (f : D → D → Store → Res D) (m : ME) : MS := fun σ S => match σ[i]? with
  | some (some x) => (match (m σ S).bind fun y S1 => f x y S1 with | .ok d S1 => .nx (σ.set i (some d)) S1 | .exc z S1 => .exc z σ S1 | .bad => .bad)
  | _ => .bad
def sWhile (t : MT) (b : MS) : Nat → MS
  | 0 => fun _ _ => .bad
  | n + 1 => fun σ S => match t σ S with
    | .ok true S1 => (match b σ S1 with
      | .nx σ2 S2 => sWhile t b n σ2 S2
      | .ct σ2 S2 => sWhile t b n σ2 S2
      | .bk σ2 S2 => .nx σ2 S2
      | r => r)
    | .ok false S1 => .nx σ S1
    | .exc x S1 => .exc x σ S1
    | .bad => .bad
/-- what is walked: at turn k, in a store: an item, or the end -/
abbrev Src := Nat → Store → Option (Option D)
abbrev MI := En → Store → Res Src
def forGo (src : Src) (g : MG) (b : MS) : Nat → Nat → MS
  | 0, _ => fun _ _ => .bad
  | n + 1, k => fun σ S => match src k S with
    | none => .bad
    | some none => .nx σ S
    | some (some d) => (match g d σ S with
      | .ok σ1 S1 => (match b σ1 S1 with
        | .nx σ2 S2 => forGo src g b n (k + 1) σ2 S2
        | .ct σ2 S2 => forGo src g b n (k + 1) σ2 S2
        | .bk σ2 S2 => .nx σ2 S2
        | r => r)
      | _ => .bad)
def sFor (i : MI) (g : MG) (b : MS) (n : Nat) : MS := fun σ S => match i σ S with
  | .ok src S1 => forGo src g b n 0 σ S1
  | .exc x S1 => .exc x σ S1
  | .bad => .bad
def iTup (m : ME) : MI := fun σ S => (m σ S).bind fun d S1 => match d with
  | .tup ds => .ok (fun k _ => some ds[k]?) S1
  | .kt ds => .ok (fun k _ => some ds[k]?) S1
  | _ => .bad
/-- the items of a list as it stands -/
def listAt (S : Store) : D → Option (List D)
  | .lv ds => some ds
  | .fl ds => some ds
  | .ref a => (match S.get a with | some (.lst ds) => some ds | some (.lck (.lst ds)) => some ds | _ => none)
  | _ => none
def iList (m : ME) : MI := fun σ S => (m σ S).bind fun d S1 => match listAt S1 d with
  | some _ => .ok (fun k S' => (listAt S' d).map fun ds => ds[k]?) S1
  | none => .bad
def i62 (j : Int) : Bool := decide (-(2 ^ 62) ≤ j) && decide (j < 2 ^ 62)
def iRange1 (m : ME) : MI := fun σ S => (m σ S).bind fun d S1 => match d with
  | .int j => if i62 j then .ok (fun k _ => some (if k < j.toNat then some (.int (0 + (k : Int))) else none)) S1 else .bad
  | _ => .bad
def iRange2 (a b : ME) : MI := fun σ S => (aList [a, b] σ S).bind fun ds S1 => match ds with
  | [.int i, .int j] => if i62 i && i62 j then .ok (fun k _ => some (if k < (j - i).toNat then some (.int (i + (k : Int))) else none)) S1 else .bad
  | _ => .bad

/-! ### judgements -/
structure Cc (G : Gx) (X : Cx) (W : WX) : Prop where
  k : X.K = G.K
  tk : Takes X W
  hp : PassesOwn (model X.prog X.w) X.A X.env X.xe
  calm : X.calm = true
  nd : X.N.Nodup
abbrev SE (G : Gx) (X : Cx) (W : WX) (e : Expr) (m : ME) : Prop := PE X e (tm G W m)
abbrev SA (G : Gx) (X : Cx) (W : WX) (es : List Expr) (m : MA) : Prop := PA X es (tma G W m)
abbrev ST (G : Gx) (X : Cx) (W : WX) (e : Expr) (m : MT) : Prop := PT X e (tmt G W m)
abbrev SW (G : Gx) (X : Cx) (W : WX) (e : Expr) (m : MT) : Prop := PW X e (tmt G W m)
abbrev SS (G : Gx) (X : Cx) (W : WX) (st : Stmt) (m : MS) : Prop := PS X st (tms G W m)
abbrev SSs (G : Gx) (X : Cx) (W : WX) (st : List Stmt) (m : MS) : Prop := PSs X st (tms G W m)

abbrev EW (W : WX) (σ : St) : XK := fun c d H' => W c d σ H'
section
variable {G : Gx} {X : Cx} {W : WX} {pins : List (Addr × Obj)} {σ : St} {H : Hp} {s : Shared} {ρ : Wd} {σs : En} {S : Store} {α β : Type} {R : Wd → Hp → α → β → Prop} {Q : β → Hp → Prop}
/-- an expression, then the rest -/
theorem SE.go {e : Expr} {m : ME} {f : D → Store → Res α} (h : SE G X W e m) (I : Inv X pins σ H s) (rl : Rl G ρ S H) (re : RE G ρ H σs σ) (p : PostR G R ρ H ((m σs S).bind f) Q (EW W σ)) {Z : Value → Shared → Prop}
    (k : ∀ v s1 x H1 ρ1 S1 d, Inv X pins σ H1 s1 → RelV x v → Le G ρ H ρ1 H1 → Rl G ρ1 S1 H1 → RE G ρ1 H1 σs σ → RV G ρ1 H1 d x → PostR G R ρ1 H1 (f d S1) Q (EW W σ) → Z v s1) :
    wpAny (model X.prog X.w) X.A (eval e X.env) Z X.xe s := by
  refine thn (h.run pins s σ H (fun x H1 => ∃ ρ1 S1 d, Le G ρ H ρ1 H1 ∧ Rl G ρ1 S1 H1 ∧ RV G ρ1 H1 d x ∧ PostR G R ρ1 H1 (f d S1) Q (EW W σ)) I ⟨ρ, σs, S, rl, re, p.bind (R := RV G) fun ρ1 H1 S1 d v l r1 rv p1 => ⟨ρ1, S1, d, l, r1, rv, p1⟩⟩) ?_
  rintro v s1 ⟨x, H1, I1, rx, ρ1, S1, d, l, r1, rv, p1⟩
  exact k v s1 x H1 ρ1 S1 d I1 rx l r1 (re.mono l) rv p1
theorem SA.go {es : List Expr} {m : MA} {pos : Pos} {f : List D → Store → Res α} (h : SA G X W es m) (I : Inv X pins σ H s) (rl : Rl G ρ S H) (re : RE G ρ H σs σ) (p : PostR G R ρ H ((m σs S).bind f) Q (EW W σ)) {Z : List Value → Shared → Prop}
    (k : ∀ us s1 xs H1 ρ1 S1 ds, Inv X pins σ H1 s1 → Vals xs us → Le G ρ H ρ1 H1 → Rl G ρ1 S1 H1 → RE G ρ1 H1 σs σ → RVs G ρ1 H1 ds xs → PostR G R ρ1 H1 (f ds S1) Q (EW W σ) → Z us s1) :
    wpAny (model X.prog X.w) X.A (spliced (backTo pos (starEach es X.env))) Z X.xe s := by
  refine thn (h.run pos pins s σ H (fun xs H1 => ∃ ρ1 S1 ds, Le G ρ H ρ1 H1 ∧ Rl G ρ1 S1 H1 ∧ RVs G ρ1 H1 ds xs ∧ PostR G R ρ1 H1 (f ds S1) Q (EW W σ)) I ⟨ρ, σs, S, rl, re, p.bind (R := RVs G) fun ρ1 H1 S1 d v l r1 rv p1 => ⟨ρ1, S1, d, l, r1, rv, p1⟩⟩) ?_
  rintro v s1 ⟨x, H1, I1, rx, ρ1, S1, d, l, r1, rv, p1⟩
  exact k v s1 x H1 ρ1 S1 d I1 rx l r1 (re.mono l) rv p1
theorem ST.go {e : Expr} {m : MT} {f : Bool → Store → Res α} (h : ST G X W e m) (I : Inv X pins σ H s) (rl : Rl G ρ S H) (re : RE G ρ H σs σ) (p : PostR G R ρ H ((m σs S).bind f) Q (EW W σ)) {Z : Bool → Shared → Prop}
    (k : ∀ b s1 H1 ρ1 S1, Inv X pins σ H1 s1 → Le G ρ H ρ1 H1 → Rl G ρ1 S1 H1 → RE G ρ1 H1 σs σ → PostR G R ρ1 H1 (f b S1) Q (EW W σ) → Z b s1) :
    wpAny (model X.prog X.w) X.A (isTrue e X.env (eval e X.env)) Z X.xe s := by
  refine thn (h.run pins s σ H (fun b H1 => ∃ ρ1 S1, Le G ρ H ρ1 H1 ∧ Rl G ρ1 S1 H1 ∧ PostR G R ρ1 H1 (f b S1) Q (EW W σ)) I ⟨ρ, σs, S, rl, re, p.bind (R := fun _ _ b c => b = c) fun ρ1 H1 S1 d v l r1 rv p1 => ⟨ρ1, S1, l, r1, rv ▸ p1⟩⟩) ?_
  rintro v s1 ⟨H1, I1, ρ1, S1, l, r1, p1⟩
  exact k v s1 H1 ρ1 S1 I1 l r1 (re.mono l) p1
/-- a value is given out -/
theorem post_ok {Q : VK} {E : XK} {d : D} {x : V} (p : Post G ρ H (.ok d S) Q E) (rl : Rl G ρ S H) (rv : RV G ρ H d x) : Q x H := p ρ H x Le.refl rl rv
theorem post_new {Q : VK} {E : XK} {d : D} {x : V} {a : Addr} {u : HO} (p : Post G ρ H (.ok d S) Q E) (rl : Rl G ρ S H) (hn : H a = none) (rv : RV G ρ (L2.upd H a u) d x) : Q x (L2.upd H a u) := p ρ _ x (Le.new hn) (rl.other hn) rv
end

/-! ### operations on values -/
def OpS (G : Gx) (X : Cx) (W : WX) (F : Value → Value → Sem Value) (f : D → D → Store → Res D) : Prop :=
  ∀ (pins : List (Addr × Obj)) (s : Shared) (σ : St) (H : Hp) (x y : V) (v u : Value) (Q : VK) (ρ : Wd) (S : Store) (d1 d2 : D), Inv X pins σ H s → RelV x v → RelV y u → Rl G ρ S H → RV G ρ H d1 x → RV G ρ H d2 y →
    Post G ρ H (f d1 d2 S) Q (EW W σ) → wpAny (model X.prog X.w) X.A (F v u) (EP X pins σ Q) X.xe s
def UnS (G : Gx) (X : Cx) (W : WX) (F : Value → Sem Value) (f : D → Store → Res D) : Prop :=
  ∀ (pins : List (Addr × Obj)) (s : Shared) (σ : St) (H : Hp) (x : V) (v : Value) (Q : VK) (ρ : Wd) (S : Store) (d : D), Inv X pins σ H s → RelV x v → Rl G ρ S H → RV G ρ H d x →
    Post G ρ H (f d S) Q (EW W σ) → wpAny (model X.prog X.w) X.A (F v) (EP X pins σ Q) X.xe s
def FnS (G : Gx) (X : Cx) (W : WX) (F : Value) (f : List D → Store → Res D) : Prop :=
  ∀ (pins : List (Addr × Obj)) (s : Shared) (σ : St) (H : Hp) (xs : List V) (us : List Value) (Q : VK) (ρ : Wd) (S : Store) (ds : List D), Inv X pins σ H s → Vals xs us → Rl G ρ S H → RVs G ρ H ds xs →
    Post G ρ H (f ds S) Q (EW W σ) → wpAny (model X.prog X.w) X.A (call F us) (EP X pins σ Q) X.xe s
section
variable {G : Gx} {X : Cx} {W : WX}
theorem OpS.of {F : Value → Value → Sem Value} {f : D → D → Store → Res D} {r : R2} (ho : OpR X F r)
    (h : ∀ ρ S H d1 d2 x y Q E, Rl G ρ S H → RV G ρ H d1 x → RV G ρ H d2 y → Post G ρ H (f d1 d2 S) Q E → r x y H Q) : OpS G X W F f :=
  fun pins s σ H x y v u Q ρ S d1 d2 I rx ry rl r1 r2 p => ho pins s σ H x y v u Q I rx ry (h ρ S H d1 d2 x y Q _ rl r1 r2 p)
theorem UnS.of {F : Value → Sem Value} {f : D → Store → Res D} {r : V → Hp → VK → Prop} (ho : UnR X F r)
    (h : ∀ ρ S H d x Q E, Rl G ρ S H → RV G ρ H d x → Post G ρ H (f d S) Q E → r x H Q) : UnS G X W F f :=
  fun pins s σ H x v Q ρ S d I rx rl r1 p => ho pins s σ H x v Q I rx (h ρ S H d x Q _ rl r1 p)
theorem FnS.of {F : Value} {f : List D → Store → Res D} {r : List V → Hp → VK → Prop} (ho : CallR X F r)
    (h : ∀ ρ S H ds xs Q E, Rl G ρ S H → RVs G ρ H ds xs → Post G ρ H (f ds S) Q E → r xs H Q) : FnS G X W F f :=
  fun pins s σ H xs us Q ρ S ds I r rl r1 p => ho pins s σ H xs us Q I r (h ρ S H ds xs Q _ rl r1 p)
end

/-! ### expressions -/
section
variable {G : Gx} {X : Cx} {W : WX} {a b c e : Expr} {es : List Expr} {ma mb mc m : ME} {t u : MT} {pos : Pos}
theorem se_of {tr : TE} (h : PE X e tr) (i : ∀ σ H Q ρ σs S, Rl G ρ S H → RE G ρ H σs σ → Post G ρ H (m σs S) Q (EW W σ) → tr σ H Q) : SE G X W e m :=
  PE.weak h fun σ H Q ⟨ρ, σs, S, rl, re, p⟩ => i σ H Q ρ σs S rl re p
theorem se_var (i : Nat) {x : Str} (hN : X.N[i]? = some x := by rfl) (hv : Vis X.env.scope x := by first | exact Or.inl rfl | exact Or.inr (Or.inl rfl) | exact Or.inr (Or.inr rfl)) (hd : (x == ("__debug__" : Str)) = false := by decide)
    (hcd : (x == ("__classdict__" : Str)) = false := by decide) : SE G X W (.Name x pos) (eVar i) := by
  refine se_of (pe_var hN hv hd hcd) fun σ H Q ρ σs S rl re p => ?_
  unfold eVar at p
  cases q : σs[i]? with
  | none => rw [q] at p; exact p.elim
  | some o =>
    cases o with
    | none => rw [q] at p; exact p.elim
    | some d =>
      rw [q] at p
      obtain ⟨v, h1, h2⟩ := re.get i d q
      exact ⟨v, h1, post_ok p rl h2⟩
theorem se_int {i : Int} {j : Nat} : SE G X W (.Constant (.int i) j pos) (eC (.int i)) := se_of pe_int fun _ _ _ _ _ _ rl _ p => post_ok p rl (.int i)
theorem se_bl {i : Bool} {j : Nat} : SE G X W (.Constant (.bool i) j pos) (eC (.bl i)) := se_of pe_bl fun _ _ _ _ _ _ rl _ p => post_ok p rl (.bl i)
theorem se_non {j : Nat} : SE G X W (.Constant .none j pos) (eC .non) := se_of pe_non fun _ _ _ _ _ _ rl _ p => post_ok p rl .non
theorem rv_str {ρ : Wd} {H : Hp} (x : Str) : RV G ρ H (.str x.cps.toList) (.str x) := by
  have h : RV G ρ H (.str x.cps.toList) (.str ⟨x.cps.toList.toArray⟩) := .str x.cps.toList
  simpa using h
theorem se_str {x : Str} {j : Nat} (l : List Nat) (hl : x.cps.toList = l := by rfl) : SE G X W (.Constant (.str x) j pos) (eC (.str l)) := by
  subst hl
  exact se_of pe_str fun _ _ _ _ _ _ rl _ p => post_ok p rl (rv_str x)
/-- a constant of the module -/
theorem se_glob {x : Str} {v : V} {w : Value} {d : D} (hg : Gl X x) (hm : X.mg x = some w) (r : RelV v w) (rv : ∀ ρ H, RV G ρ H d v) (hdb : (x == ("__debug__" : Str)) = false := by decide) : SE G X W (.Name x pos) (eC d) :=
  se_of (pe_glob hg hm r hdb) fun _ _ _ _ _ _ rl _ p => post_ok p rl (rv _ _)
theorem se_bin {op : Operator} {f : D → D → Store → Res D} (ho : OpS G X W (binaryOp op) f) (ha : SE G X W a ma) (hb : SE G X W b mb) : SE G X W (.BinOp a op b pos) (eBin f ma mb) :=
  ⟨fun pins s σ H Q I ⟨ρ, σs, S, rl, re, p⟩ => wpAny_BinOp (ha.go I rl re p fun v s1 x H1 ρ1 S1 d I1 rx l1 rl1 re1 rv1 p1 => hb.go I1 rl1 re1 p1 fun u s2 y H2 ρ2 S2 e I2 ry l2 rl2 re2 rv2 p2 =>
    ho pins s2 σ H2 x y v u Q ρ2 S2 d e I2 rx ry rl2 (rv1.mono l2) rv2 p2)⟩
theorem se_un {op : UnaryOp} {f : D → Store → Res D} (ho : UnS G X W (unaryOp op) f) (ha : SE G X W a ma) : SE G X W (.UnaryOp op a pos) (eUn f ma) :=
  ⟨fun pins s σ H Q I ⟨ρ, σs, S, rl, re, p⟩ => UnaryOp_ (ha.go I rl re p fun v s1 x H1 ρ1 S1 d I1 rx l1 rl1 re1 rv1 p1 => ho pins s1 σ H1 x v Q ρ1 S1 d I1 rx rl1 rv1 p1)⟩
theorem se_cmp {op : CmpOp} {f : D → D → Store → Res D} (ho : OpS G X W (compareOp op) f) (ha : SE G X W a ma) (hb : SE G X W b mb) (hm : behindInMarks op b = false := by first | exact nobehind _ (by decide) (by decide) | rfl) : SE G X W (.Compare a [op] [b] pos) (eBin f ma mb) :=
  ⟨fun pins s σ H Q I ⟨ρ, σs, S, rl, re, p⟩ => wpAny_Compare1 (ha.go I rl re p fun v s1 x H1 ρ1 S1 d I1 rx l1 rl1 re1 rv1 p1 => hb.go I1 rl1 re1 p1 fun u s2 y H2 ρ2 S2 e I2 ry l2 rl2 re2 rv2 p2 =>
    ho pins s2 σ H2 x y v u Q ρ2 S2 d e I2 rx ry rl2 (rv1.mono l2) rv2 p2) hm⟩
/-- a value that is a bool, behind a test's run -/
theorem bool_go {pins : List (Addr × Obj)} {σ : St} {H : Hp} {ρ : Wd} {d : D} {S : Store} {Q : Bool → Hp → Prop} {E : XK} {x : V} (p : PostT G ρ H (match d with | .bl b => .ok b S | _ => .bad) Q E) (rl : Rl G ρ S H) (rv : RV G ρ H d x) : ∃ k, x = .bl k ∧ Q k H := by
  cases rv with
  | bl b => exact ⟨b, rfl, p ρ H b Le.refl rl rfl⟩
  | _ => exact p.elim
/-- a comparison as a test -/
theorem st_cmp {op : CmpOp} {f : D → D → Store → Res D} (ho : OpS G X W (compareOp op) f) (ha : SE G X W a ma) (hb : SE G X W b mb) (hm : behindInMarks op b = false := by first | exact nobehind _ (by decide) (by decide) | rfl) : ST G X W (.Compare a [op] [b] pos) (tOf (eBin f ma mb)) := by
  refine ⟨fun pins s σ H Q I ⟨ρ, σs, S, rl, re, p⟩ => ?_⟩
  have p0 : PostT G ρ H ((ma σs S).bind fun x S1 => ((mb σs S1).bind fun y S2 => f x y S2).bind fun d S3 => match d with | .bl b => .ok b S3 | _ => .bad) Q (EW W σ) := by
    have p' := p
    unfold tOf eBin at p'
    rw [Res.bind_assoc] at p'
    exact p'
  refine wpAny_isTrue_Compare1 (ha.go I rl re p0 fun v s1 x H1 ρ1 S1 d I1 rx l1 rl1 re1 rv1 p1 => ?_) hm
  have p1' : PostT G ρ1 H1 ((mb σs S1).bind fun y S2 => (f d y S2).bind fun d S3 => match d with | .bl b => .ok b S3 | _ => .bad) Q (EW W σ) := by
    rw [Res.bind_assoc] at p1
    exact p1
  refine hb.go I1 rl1 re1 p1' fun u s2 y H2 ρ2 S2 e I2 ry l2 rl2 re2 rv2 p2 => ?_
  refine thn (ho pins s2 σ H2 x y v u _ ρ2 S2 d e I2 rx ry rl2 (rv1.mono l2) rv2 (p2.bind (R := RV G) (Q1 := fun z H3 => ∃ k, z = .bl k ∧ Q k H3) fun ρ3 H3 S3 z w l3 rl3 rv3 p3 => bool_go (pins := pins) (σ := σ) p3 rl3 rv3)) ?_
  rintro c s3 ⟨z, H3, I3, r3, k, rfl, q3⟩
  cases r3
  exact wpAny_truthy_bool ⟨H3, I3, q3⟩
/-- an expression whose value is a bool, as a test -/
theorem st_val (h : SE G X W e m) (he : ∀ whole, isTrue e X.env whole = (do let v ← whole; standAt e.pos; holding [v] (truthy v)) := by intro _; rfl) : ST G X W e (tOf m) := by
  refine PT.weak (pt_val h he) fun σ H Q ⟨ρ, σs, S, rl, re, p⟩ => ?_
  exact ⟨ρ, σs, S, rl, re, p.bind (R := RV G) fun ρ3 H3 S3 z w l3 rl3 rv3 p3 => bool_go (pins := []) (σ := σ) p3 rl3 rv3⟩
theorem sw_and1 (ha : ST G X W a t) : SW G X W (.BoolOp .And [a] pos) t := pw_and1 ha
theorem sw_or1 (ha : ST G X W a t) : SW G X W (.BoolOp .Or [a] pos) t := pw_or1 ha
theorem sw_and {rest : List Expr} (ha : ST G X W a t) (hb : SW G X W (.BoolOp .And (b :: rest) pos) u) : SW G X W (.BoolOp .And (a :: b :: rest) pos) (tAnd t u) := by
  refine PW.weak (pw_and ha hb) fun σ H Q ⟨ρ, σs, S, rl, re, p⟩ => ?_
  refine ⟨ρ, σs, S, rl, re, p.bind (R := fun _ _ b c => b = c) fun ρ1 H1 S1 c1 c2 l1 rl1 rv1 p1 => ?_⟩
  subst rv1
  cases c1 with
  | true => exact ⟨ρ1, σs, S1, rl1, re.mono l1, p1⟩
  | false => exact p1 ρ1 H1 false Le.refl rl1 rfl
theorem sw_or {rest : List Expr} (ha : ST G X W a t) (hb : SW G X W (.BoolOp .Or (b :: rest) pos) u) : SW G X W (.BoolOp .Or (a :: b :: rest) pos) (tOr t u) := by
  refine PW.weak (pw_or ha hb) fun σ H Q ⟨ρ, σs, S, rl, re, p⟩ => ?_
  refine ⟨ρ, σs, S, rl, re, p.bind (R := fun _ _ b c => b = c) fun ρ1 H1 S1 c1 c2 l1 rl1 rv1 p1 => ?_⟩
  subst rv1
  cases c1 with
  | false => exact ⟨ρ1, σs, S1, rl1, re.mono l1, p1⟩
  | true => exact p1 ρ1 H1 true Le.refl rl1 rfl
theorem st_w (h : SW G X W e t) : ST G X W e t := h.pt
theorem st_not (ha : ST G X W a t) : ST G X W (.UnaryOp .Not a pos) (tNot t) := by
  refine PT.weak (pt_not ha) fun σ H Q ⟨ρ, σs, S, rl, re, p⟩ => ?_
  refine ⟨ρ, σs, S, rl, re, p.bind (R := fun _ _ b c => b = c) fun ρ1 H1 S1 c1 c2 l1 rl1 rv1 p1 => ?_⟩
  subst rv1
  exact p1 ρ1 H1 (!c1) Le.refl rl1 rfl
/-- and, or, not as values of bools -/
theorem se_one {op} (h : SE G X W a m) : SE G X W (.BoolOp op [a] pos) m := pe_one h
theorem tof_go {σ : St} {H : Hp} {ρ : Wd} {σs : En} {S : Store} {Q : VK} {E : XK} {f : Bool → Store → Res D} (rl : Rl G ρ S H) (p : Post G ρ H ((tOf m σs S).bind f) Q E) {Q1 : VK}
    (k : ∀ ρ1 H1 S1 c, Le G ρ H ρ1 H1 → Rl G ρ1 S1 H1 → Post G ρ1 H1 (f c S1) Q E → Q1 (.bl c) H1) : Post G ρ H (m σs S) Q1 E := by
  unfold tOf at p
  cases q : m σs S with
  | ok d S1 =>
    rw [q] at p
    intro ρ1 H1 v l1 rl1 rv1
    cases rv1 with
    | bl b => exact k ρ1 H1 S1 b l1 rl1 (PostR.le (r := f b S1) p l1)
    | _ => exact False.elim p
  | exc x S1 => rw [q] at p; exact p
  | bad => rw [q] at p; exact p
theorem se_and {rest : List Expr} (ha : SE G X W a ma) (hb : SE G X W (.BoolOp .And (b :: rest) pos) mb) : SE G X W (.BoolOp .And (a :: b :: rest) pos) (eAnd ma mb) := by
  refine se_of (pe_and ha hb) fun σ H Q ρ σs S rl re p => ?_
  refine ⟨ρ, σs, S, rl, re, tof_go (σ := σ) rl p fun ρ1 H1 S1 c l1 rl1 p1 => ⟨c, rfl, ?_⟩⟩
  cases c with
  | true => exact ⟨ρ1, σs, S1, rl1, re.mono l1, p1⟩
  | false => exact post_ok (S := S1) p1 rl1 (.bl false)
theorem se_or {rest : List Expr} (ha : SE G X W a ma) (hb : SE G X W (.BoolOp .Or (b :: rest) pos) mb) : SE G X W (.BoolOp .Or (a :: b :: rest) pos) (eOr ma mb) := by
  refine se_of (pe_or ha hb) fun σ H Q ρ σs S rl re p => ?_
  refine ⟨ρ, σs, S, rl, re, tof_go (σ := σ) rl p fun ρ1 H1 S1 c l1 rl1 p1 => ⟨c, rfl, ?_⟩⟩
  cases c with
  | false => exact ⟨ρ1, σs, S1, rl1, re.mono l1, p1⟩
  | true => exact post_ok (S := S1) p1 rl1 (.bl true)
theorem se_not (ha : SE G X W a ma) : SE G X W (.UnaryOp .Not a pos) (eNot ma) := by
  refine se_of (pe_not ha) fun σ H Q ρ σs S rl re p => ?_
  exact ⟨ρ, σs, S, rl, re, tof_go (σ := σ) rl p fun ρ1 H1 S1 c l1 rl1 p1 => ⟨c, rfl, post_ok (S := S1) p1 rl1 (.bl _)⟩⟩
theorem se_if (hc : ST G X W c t) (ha : SE G X W a ma) (hb : SE G X W b mb) : SE G X W (.IfExp c a b pos) (eIf t ma mb) := by
  refine se_of (pe_ifExp hc ha hb) fun σ H Q ρ σs S rl re p => ?_
  refine ⟨ρ, σs, S, rl, re, p.bind (R := fun _ _ b c => b = c) fun ρ1 H1 S1 c1 c2 l1 rl1 rv1 p1 => ?_⟩
  subst rv1
  cases c1 with
  | true => exact ⟨ρ1, σs, S1, rl1, re.mono l1, p1⟩
  | false => exact ⟨ρ1, σs, S1, rl1, re.mono l1, p1⟩
/-! arguments and displays -/
theorem sa_nil : SA G X W [] (aList []) := PA.weak pa_nil fun σ H Q ⟨ρ, σs, S, rl, re, p⟩ => p ρ H [] Le.refl rl .nil
theorem sa_cons {ms : List ME} (ha : SE G X W e m) (hr : SA G X W es (aList ms)) (hs : starEach (e :: es) X.env = (false, eval e X.env) :: starEach es X.env := by rfl) : SA G X W (e :: es) (aList (m :: ms)) := by
  refine PA.weak (pa_cons ha hr hs) fun σ H Q ⟨ρ, σs, S, rl, re, p⟩ => ?_
  refine ⟨ρ, σs, S, rl, re, PostR.bind (R := RV G) (r := m σs S) p fun ρ1 H1 S1 d v l1 rl1 rv1 p1 => ?_⟩
  refine ⟨ρ1, σs, S1, rl1, re.mono l1, PostR.bind (R := RVs G) (r := aList ms σs S1) p1 fun ρ2 H2 S2 ds vs l2 rl2 rv2 p2 => ?_⟩
  exact p2 ρ2 H2 _ Le.refl rl2 (.cons (rv1.mono l2) rv2)
theorem aList_len : ∀ {ms : List ME} {σs : En} {S S' : Store} {ds : List D}, aList ms σs S = .ok ds S' → ds.length = ms.length
  | [], σs, S, S', ds, h => by unfold aList at h; cases h; rfl
  | m :: ms, σs, S, S', ds, h => by
    unfold aList at h
    cases q : m σs S with
    | ok d S1 =>
      rw [q] at h
      cases q2 : aList ms σs S1 with
      | ok ds' S2 =>
        rw [Res.bind_ok, q2] at h
        cases h
        simp [aList_len q2]
      | exc x S2 => rw [Res.bind_ok, q2] at h; cases h
      | bad => rw [Res.bind_ok, q2] at h; cases h
    | exc x S1 => rw [q] at h; cases h
    | bad => rw [q] at h; cases h
theorem list_go {ms : List ME} {σ : St} {H : Hp} {ρ : Wd} {σs : En} {S : Store} {Q : VK} {E : XK} {f : List D → Store → Res D} (p : Post G ρ H ((aList ms σs S).bind f) Q E) {Q1 : List V → Hp → Prop}
    (k : ∀ ρ1 H1 S1 ds xs, Le G ρ H ρ1 H1 → Rl G ρ1 S1 H1 → RVs G ρ1 H1 ds xs → xs.length = ms.length → Post G ρ1 H1 (f ds S1) Q E → Q1 xs H1) : PostA G ρ H (aList ms σs S) Q1 E := by
  cases q : aList ms σs S with
  | ok ds S1 =>
    rw [q] at p
    exact fun ρ1 H1 xs l1 rl1 rv1 => k ρ1 H1 S1 ds xs l1 rl1 rv1 (by rw [← rv1.length, aList_len q]) (PostR.le (r := f ds S1) p l1)
  | exc x S1 => rw [q] at p; exact p
  | bad => rw [q] at p; exact p
theorem se_tup {ms : List ME} {x1} (h : SA G X W es (aList ms)) (hz : ms.length ≤ sizeLine := by first | decide | (rw [sizeLine_eq]; decide)) : SE G X W (.Tuple es x1 pos) (eTup ms) := by
  refine se_of (pe_tup h) fun σ H Q ρ σs S rl re p => ?_
  refine ⟨ρ, σs, S, rl, re, list_go (σ := σ) p fun ρ1 H1 S1 ds xs l1 rl1 rv1 hl p1 => ⟨by rw [hl]; exact hz, fun a hn => post_new p1 rl1 hn (.tup upd_same (rv1.mono (Le.new hn)))⟩⟩
theorem se_lst {ms : List ME} (h : SA G X W es (aList ms)) (hz : ms.length ≤ sizeLine := by first | decide | (rw [sizeLine_eq]; decide)) : SE G X W (.List es pos) (eLst ms) := by
  refine se_of (pe_lst h) fun σ H Q ρ σs S rl re p => ?_
  refine ⟨ρ, σs, S, rl, re, list_go (σ := σ) p fun ρ1 H1 S1 ds xs l1 rl1 rv1 hl p1 => ⟨by rw [hl]; exact hz, fun a hn => ?_⟩⟩
  exact p1 (ρ1.push a) _ _ (Le.push hn) (rl1.push hn (.lst rv1)) (RV.new rl1)
theorem se_lv {ms : List ME} (h : SA G X W es (aList ms)) (hz : ms.length ≤ sizeLine := by first | decide | (rw [sizeLine_eq]; decide)) : SE G X W (.List es pos) (eLv ms) := by
  refine se_of (pe_lst h) fun σ H Q ρ σs S rl re p => ?_
  refine ⟨ρ, σs, S, rl, re, list_go (σ := σ) p fun ρ1 H1 S1 ds xs l1 rl1 rv1 hl p1 => ⟨by rw [hl]; exact hz, fun a hn => post_new p1 rl1 hn (.lv (rl1.no hn) upd_same (rv1.mono (Le.new hn)))⟩⟩
/-- a built-in function, a built-in class by its name -/
theorem se_callB {x : Str} {id : String} {f : List D → Store → Res D} {p : Pos} {ma : MA} (hc : FnS G X W (.builtin id) f) (hg : Gl X x) (hm : X.mg x = none) (hv : bootBuiltins x = some (.builtin id)) (ha : SA G X W (e :: es) ma) (hn : x ≠ "__name__" := by decide) (hdb : (x == ("__debug__" : Str)) = false := by decide)
    (he : starEach (e :: es) X.env = (false, eval e X.env) :: starEach es X.env := by rfl) (hpl : (backTo pos (starEach es X.env)).any (·.1) = false := by rfl) : SE G X W (.Call (.Name x p) (e :: es) [] pos) (eFn f ma) := by
  refine ⟨fun pins s σ H Q I ⟨ρ, σs, S, rl, re, p⟩ => ?_⟩
  refine wpAny_Call_Name_kw (ld_blt I hg hm hv ?_ hn hdb)
  exact PyProof.Rows.callWith_builtin1 (ha.go I rl re p fun us s1 xs H1 ρ1 S1 ds I1 rx l1 rl1 re1 rv1 p1 => hc pins s1 σ H1 xs us Q ρ1 S1 ds I1 rx rl1 rv1 p1) he hpl
theorem se_callTy {x : Str} {T : String} {f : List D → Store → Res D} {p : Pos} {ma : MA} (hc : FnS G X W (.type T) f) (hg : Gl X x) (hm : X.mg x = none) (hv : bootBuiltins x = some (.type T)) (ha : SA G X W (e :: es) ma) (hn : x ≠ "__name__" := by decide) (hdb : (x == ("__debug__" : Str)) = false := by decide)
    (he : starEach (e :: es) X.env = (false, eval e X.env) :: starEach es X.env := by rfl) (hpl : (backTo pos (starEach es X.env)).any (·.1) = false := by rfl) : SE G X W (.Call (.Name x p) (e :: es) [] pos) (eFn f ma) := by
  refine ⟨fun pins s σ H Q I ⟨ρ, σs, S, rl, re, p⟩ => ?_⟩
  refine wpAny_Call_Name_kw (ld_blt I hg hm hv ?_ hn hdb)
  exact PyProof.Rows.callWith_type1 (ha.go I rl re p fun us s1 xs H1 ρ1 S1 ds I1 rx l1 rl1 re1 rv1 p1 => hc pins s1 σ H1 xs us Q ρ1 S1 ds I1 rx rl1 rv1 p1) he hpl
/-- a < b < c -/
theorem se_chain {op op' : CmpOp} {f g : D → D → Store → Res D} {r r' : R2} (ho : OpR X (compareOp op) r) (ho' : OpR X (compareOp op') r')
    (hf : ∀ ρ S H d1 d2 x y Q E, Rl G ρ S H → RV G ρ H d1 x → RV G ρ H d2 y → Post G ρ H (f d1 d2 S) Q E → r x y H Q) (hg : ∀ ρ S H d1 d2 x y Q E, Rl G ρ S H → RV G ρ H d1 x → RV G ρ H d2 y → Post G ρ H (g d1 d2 S) Q E → r' x y H Q)
    (ha : SE G X W a ma) (hb : SE G X W b mb) (hc : SE G X W c mc) (hm : lastMarks [op, op'] [b, c] = false := by with_unfolding_all rfl) : SE G X W (.Compare a [op, op'] [b, c] pos) (eChain f g ma mb mc) := by
  refine se_of (pe_chain ho ho' ha hb hc hm) fun σ H Q ρ σs S rl re p => ?_
  refine ⟨ρ, σs, S, rl, re, PostR.bind (R := RV G) p fun ρ1 H1 S1 d1 x l1 rl1 rv1 p1 => ?_⟩
  refine ⟨ρ1, σs, S1, rl1, re.mono l1, PostR.bind (R := RV G) p1 fun ρ2 H2 S2 d2 y l2 rl2 rv2 p2 => ?_⟩
  refine hf ρ2 S2 H2 d1 d2 x y _ _ rl2 (rv1.mono l2) rv2 (PostR.bind (R := RV G) p2 fun ρ3 H3 S3 d3 z l3 rl3 rv3 p3 => ?_)
  cases rv3 with
  | bl k =>
    refine ⟨k, rfl, ?_⟩
    cases k with
    | true =>
      show if true = true then _ else _
      rw [if_pos rfl]
      refine ⟨ρ3, σs, S3, rl3, (re.mono l1).mono (l2.trans l3), PostR.bind (R := RV G) p3 fun ρ4 H4 S4 d4 w l4 rl4 rv4 p4 => ?_⟩
      exact hg ρ4 S4 H4 d2 d4 y w _ _ rl4 (rv2.mono (l3.trans l4)) rv4 p4
    | false =>
      show if false = true then _ else _
      rw [if_neg Bool.false_ne_true]
      exact post_ok (S := S3) p3 rl3 (.bl false)
  | _ => exact False.elim p3
end
end L2.Mi

set_option Elab.async false
set_option linter.all false
set_option maxRecDepth 100000
set_option maxHeartbeats 4000000
/-! Mini, 2: statements, targets, loops. -/
namespace L2.Mi
open PySem PySem.Spec PyProof.Rows

section
variable {G : Gx} {X : Cx} {W : WX} {st : Stmt} {sts rest : List Stmt} {a b e : Expr} {ma mb m : ME} {t : MT} {k l : MS} {pos : Pos}
theorem ss_of {tr : TS} (h : PS X st tr) (i : ∀ σ H Dn ρ σs S, Rl G ρ S H → RE G ρ H σs σ → PostS G ρ H (k σs S) Dn W → tr Dn σ H) : SS G X W st k :=
  PS.weak h fun Dn σ H ⟨ρ, σs, S, rl, re, p⟩ => i σ H Dn ρ σs S rl re p
theorem sss_nil : SSs G X W [] sNext := PSs.weak pss_nil fun Dn σ H ⟨ρ, σs, S, rl, re, p⟩ => p ρ H σ Le.refl rl re
theorem sss_cons (h1 : SS G X W st k) (h2 : SSs G X W rest l) : SSs G X W (st :: rest) (sSeq k l) := by
  refine PSs.weak (pss_cons h1 h2) fun Dn σ H ⟨ρ, σs, S, rl, re, p⟩ => ?_
  refine ⟨ρ, σs, S, rl, re, ?_⟩
  unfold sSeq at p
  cases q : k σs S with
  | nx σ1 S1 =>
    rw [q] at p
    exact fun ρ1 H1 σ2 l1 rl1 re1 => ⟨ρ1, σ1, S1, rl1, re1, PostS.le (r := l σ1 S1) p l1⟩
  | rt d S1 => rw [q] at p; exact p
  | bk σ1 S1 => rw [q] at p; exact p
  | ct σ1 S1 => rw [q] at p; exact p
  | exc x σ1 S1 => rw [q] at p; exact p
  | bad => rw [q] at p; exact p
theorem sss_one (h1 : SS G X W st k) : SSs G X W [st] k := pss_one h1
theorem ss_pass : SS G X W (.Pass pos) sNext := ss_of ps_pass fun σ H Dn ρ σs S rl re p => p ρ H σ Le.refl rl re
theorem ss_break : SS G X W (.Break pos) sBreak := ss_of ps_break fun σ H Dn ρ σs S rl re p => p ρ H σ Le.refl rl re
theorem ss_cont : SS G X W (.Continue pos) sCont := ss_of ps_continue fun σ H Dn ρ σs S rl re p => p ρ H σ Le.refl rl re
/-- an expression's run inside a statement -/
theorem do_go {σ : St} {H : Hp} {ρ : Wd} {σs : En} {S : Store} {Dn : Ends} {f : D → Store → RS} (re : RE G ρ H σs σ) (p : PostS G ρ H (match m σs S with | .ok d S1 => f d S1 | .exc x S1 => .exc x σs S1 | .bad => .bad) Dn W) {Q1 : VK}
    (k : ∀ ρ1 H1 S1 d v, Le G ρ H ρ1 H1 → Rl G ρ1 S1 H1 → RV G ρ1 H1 d v → PostS G ρ1 H1 (f d S1) Dn W → Q1 v H1) : Post G ρ H (m σs S) Q1 (EW W σ) := by
  cases q : m σs S with
  | ok d S1 =>
    rw [q] at p
    exact fun ρ1 H1 v l1 rl1 rv1 => k ρ1 H1 S1 d v l1 rl1 rv1 (PostS.le (r := f d S1) p l1)
  | exc x S1 =>
    rw [q] at p
    exact fun ρ1 H1 c dd l1 rl1 rx => p ρ1 H1 σ c dd l1 rl1 (re.mono l1) rx
  | bad => rw [q] at p; exact p
theorem ss_expr (he : SE G X W e m) (hs : swapsWith e none pos.line X.env = pure false := by rfl) : SS G X W (.Expr e pos) (sDrop m) := by
  refine ss_of (ps_expr he hs) fun σ H Dn ρ σs S rl re p => ?_
  exact ⟨ρ, σs, S, rl, re, do_go re p fun ρ1 H1 S1 d v l1 rl1 rv1 p1 => p1 ρ1 H1 σ Le.refl rl1 (re.mono l1)⟩
theorem ss_ret (he : SE G X W e m) : SS G X W (.Return (some e) pos) (sRet m) := by
  refine ss_of (ps_ret he) fun σ H Dn ρ σs S rl re p => ?_
  exact ⟨ρ, σs, S, rl, re, do_go re p fun ρ1 H1 S1 d v l1 rl1 rv1 p1 => p1 ρ1 H1 v Le.refl rl1 rv1⟩
theorem ss_retN : SS G X W (.Return none pos) sRetN := ss_of ps_retN fun σ H Dn ρ σs S rl re p => p ρ H .non Le.refl rl .non
theorem ss_if {c : Expr} {sa sb : List Stmt} (hc : ST G X W c t) (ha : SSs G X W sa k) (hb : SSs G X W sb l) : SS G X W (.If c sa sb pos) (sIf t k l) := by
  refine ss_of (ps_if hc ha hb) fun σ H Dn ρ σs S rl re p => ?_
  refine ⟨ρ, σs, S, rl, re, ?_⟩
  unfold sIf at p
  cases q : t σs S with
  | ok c1 S1 =>
    rw [q] at p
    intro ρ1 H1 b l1 rl1 e
    subst e
    cases c1 with
    | true => exact ⟨ρ1, σs, S1, rl1, re.mono l1, PostS.le (r := k σs S1) p l1⟩
    | false => exact ⟨ρ1, σs, S1, rl1, re.mono l1, PostS.le (r := l σs S1) p l1⟩
  | exc x S1 =>
    rw [q] at p
    exact fun ρ1 H1 c dd l1 rl1 rx => p ρ1 H1 σ c dd l1 rl1 (re.mono l1) rx
  | bad => rw [q] at p; exact p

/-! ### targets -/
def PostG (G : Gx) (ρ : Wd) (H : Hp) (r : Res En) (Q : St → Hp → Prop) : Prop := match r with
  | .ok σs S => ∀ ρ' H' σ', Le G ρ H ρ' H' → Rl G ρ' S H' → RE G ρ' H' σs σ' → Q σ' H'
  | _ => False
def tmg (G : Gx) (g : MG) : TG := fun v σ H Q => ∃ ρ σs S d, Rl G ρ S H ∧ RE G ρ H σs σ ∧ RV G ρ H d v ∧ PostG G ρ H (g d σs S) Q
def tmgs (G : Gx) (gs : List MG) : TGs := fun vs σ H Q => ∃ ρ σs S ds, Rl G ρ S H ∧ RE G ρ H σs σ ∧ RVs G ρ H ds vs ∧ PostG G ρ H (gAll gs ds σs S) Q
abbrev SG (G : Gx) (X : Cx) (e : Expr) (g : MG) : Prop := PG X e (tmg G g)
abbrev SGs (G : Gx) (X : Cx) (es : List Expr) (gs : List MG) : Prop := PGs X es (tmgs G gs)
theorem PostG.le {ρ ρ' : Wd} {H H' : Hp} {r : Res En} {Q : St → Hp → Prop} (p : PostG G ρ H r Q) (l : Le G ρ H ρ' H') : PostG G ρ' H' r Q := by
  cases r with
  | ok d S => exact fun ρ2 H2 v l2 rl h => p ρ2 H2 v (l.trans l2) rl h
  | exc x S => exact p
  | bad => exact p
theorem PG.weak {e : Expr} {t t' : TG} (h : PG X e t) (i : ∀ v σ H Q, t' v σ H Q → t v σ H Q) : PG X e t' := ⟨fun pins s σ H v u Q I r q => h.run pins s σ H v u Q I r (i _ _ _ _ q)⟩
theorem PGs.weak {es : List Expr} {t t' : TGs} (h : PGs X es t) (i : ∀ v σ H Q, t' v σ H Q → t v σ H Q) : PGs X es t' := ⟨fun pins s σ H v u Q I r q => h.run pins s σ H v u Q I r (i _ _ _ _ q)⟩
theorem sg_name {i : Nat} {x : Str} (hN : X.N.Nodup) (hi : X.N[i]? = some x) (hx : Loc X.env.scope x) (hf : X.fn x = true ∨ X.env.scope.names.lookup x = some .local := by first | exact .inl rfl | exact .inr rfl | assumption) : SG G X (.Name x pos) (gName i) :=
  PG.weak (pg_name hN hi hx hf) fun v σ H Q ⟨ρ, σs, S, d, rl, re, rv, p⟩ => p ρ H _ Le.refl rl (re.set i rv)
theorem sgs_nil : SGs G X [] [] := PGs.weak pgs_nil fun vs σ H Q ⟨ρ, σs, S, ds, rl, re, rv, p⟩ => by
  cases rv with
  | nil => exact ⟨rfl, p ρ H σ Le.refl rl re⟩
  | cons _ _ => exact False.elim p
theorem sgs_cons {es : List Expr} {g : MG} {gs : List MG} (h1 : SG G X e g) (h2 : SGs G X es gs) (hs : (assignEach (e :: es) X.env).map (·.2) = assign e X.env :: (assignEach es X.env).map (·.2) := by rfl) : SGs G X (e :: es) (g :: gs) := by
  refine PGs.weak (pgs_cons h1 h2 hs) fun vs σ H Q ⟨ρ, σs, S, ds, rl, re, rv, p⟩ => ?_
  cases rv with
  | nil => exact False.elim p
  | @cons d ds v vs r1 r2 =>
    refine ⟨v, vs, rfl, ρ, σs, S, d, rl, re, r1, ?_⟩
    have p' : PostG G ρ H ((g d σs S).bind fun σ1 S1 => gAll gs ds σ1 S1) Q := p
    cases q : g d σs S with
    | ok σ1 S1 =>
      rw [q] at p'
      exact fun ρ1 H1 σ2 l1 rl1 re1 => ⟨ρ1, σ1, S1, ds, rl1, re1, r2.mono l1, PostG.le (r := gAll gs ds σ1 S1) p' l1⟩
    | exc x S1 => rw [q] at p'; exact p'
    | bad => rw [q] at p'; exact p'
theorem gAll_len : ∀ {gs : List MG} {ds : List D} {σs σ' : En} {S S' : Store}, gAll gs ds σs S = .ok σ' S' → ds.length = gs.length
  | [], [], _, _, _, _, _ => rfl
  | [], _ :: _, _, _, _, _, h => by cases h
  | _ :: _, [], _, _, _, _, h => by cases h
  | g :: gs, d :: ds, σs, σ', S, S', h => by
    have h' : ((g d σs S).bind fun σ1 S1 => gAll gs ds σ1 S1) = .ok σ' S' := h
    cases q : g d σs S with
    | ok σ1 S1 => rw [q] at h'; simp [gAll_len h']
    | exc x S1 => rw [q] at h'; cases h'
    | bad => rw [q] at h'; cases h'
theorem sg_tup {es : List Expr} {j : Nat} {gs : List MG} (c : Cc G X W) (h : SGs G X es gs) (hn : (assignEach es X.env).length = gs.length := by rfl) (hst : (assignEach es X.env).findIdx? (·.1) = none := by rfl) : SG G X (.Tuple es j pos) (gTup gs) := by
  refine PG.weak (pg_tup (n := gs.length) c.calm h hn hst) fun v σ H Q ⟨ρ, σs, S, d, rl, re, rv, p⟩ => ?_
  cases rv with
  | @tup ds a xs ht hr =>
    have p' : PostG G ρ H (gAll gs ds σs S) Q := p
    refine ⟨a, xs, rfl, SqT.of ht, ?_, ρ, σs, S, ds, rl, re, hr, p'⟩
    cases q : gAll gs ds σs S with
    | ok σ1 S1 => rw [← hr.length]; exact gAll_len q
    | exc x S1 => rw [q] at p'; exact p'.elim
    | bad => rw [q] at p'; exact p'.elim
  | _ => exact False.elim p
/-- o[i] = v -/
def StS (G : Gx) (X : Cx) (f : D → D → D → Store → Option Store) : Prop :=
  ∀ (pins : List (Addr × Obj)) (s : Shared) (σ : St) (H : Hp) (x y z : V) (v u w : Value) (Q : Hp → Prop) (ρ : Wd) (S S' : Store) (d1 d2 d3 : D), Inv X pins σ H s → RelV x v → RelV y u → RelV z w → Rl G ρ S H → RV G ρ H d1 x → RV G ρ H d2 y → RV G ρ H d3 z →
    f d1 d2 d3 S = some S' → (∀ ρ' H', Le G ρ H ρ' H' → Rl G ρ' S' H' → Q H') → wpAny (model X.prog X.w) X.A (setItem v u w) (fun _ s' => ∃ H', Inv X pins σ H' s' ∧ Q H') X.xe s
def gSub (mo mi : ME) (f : D → D → D → Store → Option Store) : MG := fun d σ S => match (mo σ S).bind fun o S1 => (mi σ S1).bind fun i S2 => (match f o i d S2 with | some S3 => Res.ok () S3 | none => .bad) with
  | .ok _ S3 => .ok σ S3
  | _ => .bad
theorem sg_sub {o i : Expr} {mo mi : ME} {f : D → D → D → Store → Option Store} (ho : SE G X W o mo) (hi : SE G X W i mi) (hs : StS G X f)
    (ha : ∀ v, assign (.Subscript o i pos) X.env v = (do
      let ov ← holding [v] (eval o X.env)
      let iv ← holding [v, ov] (eval i X.env)
      standAt pos
      holding [v, ov, iv] (setItem ov iv v)
      release [v, ov, iv] []) := by intro _; rfl) : SG G X (.Subscript o i pos) (gSub mo mi f) := by
  refine ⟨fun pins s σ H v u Q I r ⟨ρ, σs, S, d, rl, re, rv, p⟩ => ?_⟩
  rw [ha]
  have p0 : PostR (α := Unit) (β := Unit) G (fun _ _ _ _ => True) ρ H ((mo σs S).bind fun o S1 => (mi σs S1).bind fun i S2 => (match f o i d S2 with | some S3 => Res.ok () S3 | none => .bad)) (fun _ H' => Q σ H') (EW W σ) := by
    unfold gSub at p
    cases q : ((mo σs S).bind fun o S1 => (mi σs S1).bind fun i S2 => (match f o i d S2 with | some S3 => Res.ok () S3 | none => .bad)) with
    | ok x S3 => rw [q] at p; exact fun ρ1 H1 _ l1 rl1 _ => p ρ1 H1 σ l1 rl1 (re.mono l1)
    | exc x S3 => rw [q] at p; exact p.elim
    | bad => rw [q] at p; exact p.elim
  refine wpAny_bind (wpAny_holding (ho.go I rl re p0 fun ov s1 x H1 ρ1 S1 d1 I1 r1 l1 rl1 re1 rv1 p1 => ?_))
  refine wpAny_bind (wpAny_holding (hi.go I1 rl1 re1 p1 fun iv s2 y H2 ρ2 S2 d2 I2 r2 l2 rl2 re2 rv2 p2 => ?_))
  cases q : f d1 d2 d S2 with
  | none => rw [q] at p2; exact False.elim p2
  | some S3 =>
    rw [q] at p2
    refine wpAny_bind (wpAny_standAt (wpAny_bind (wpAny_holding (thn (hs pins s2 σ H2 x y v ov iv u (fun H3 => Q σ H3) ρ2 S2 S3 d1 d2 d I2 r1 r2 r rl2 (rv1.mono l2) rv2 (rv.mono (l1.trans l2)) q (fun ρ3 H3 l3 rl3 => p2 ρ3 H3 () l3 rl3 trivial)) fun _ s3 ⟨H3, I3, q3⟩ => ?_))))
    exact wpAny_release ⟨σ, H3, I3, q3⟩
/-- target = value -/
theorem asg_go {g : MG} {σ : St} {H : Hp} {ρ : Wd} {σs : En} {S : Store} {Dn : Ends} (rl : Rl G ρ S H) (re : RE G ρ H σs σ) (p : PostS G ρ H (sAsg m g σs S) Dn W) : tm G W m σ H fun x H1 => tmg G g x σ H1 Dn.nx := by
  refine ⟨ρ, σs, S, rl, re, do_go (f := fun d S1 => match g d σs S1 with | .ok σ2 S2 => .nx σ2 S2 | _ => .bad) re p fun ρ1 H1 S1 d v l1 rl1 rv1 p1 => ⟨ρ1, σs, S1, d, rl1, re.mono l1, rv1, ?_⟩⟩
  cases q : g d σs S1 with
  | ok σ2 S2 => simp only [q] at p1; exact p1
  | exc x S2 => simp only [q] at p1; exact p1
  | bad => simp only [q] at p1; exact p1
theorem ss_asg {tg : Expr} {g : MG} (he : SE G X W e m) (hg : SG G X tg g) (hs : swapsWithSole [tg] e pos.line X.env = pure false := by rfl) (hw : swappedStores [tg] e X.env = pure none := by rfl)
    (h1 : (assignEach [tg] X.env).map (·.2) = [assign tg X.env] := by rfl) : SS G X W (.Assign [tg] e pos) (sAsg m g) :=
  ss_of (ps_asg he hg hs hw h1) fun σ H Dn ρ σs S rl re p => asg_go rl re p
theorem ss_set {i : Nat} {x : Str} {pos' : Pos} (hN : X.N.Nodup) (hi : X.N[i]? = some x) (hx : Loc X.env.scope x) (he : SE G X W e m) (hs : swapsWith e (some (.Name x pos')) pos.line X.env = pure false := by rfl) (hf : X.fn x = true ∨ X.env.scope.names.lookup x = some .local := by first | exact .inl rfl | exact .inr rfl | assumption) :
    SS G X W (.Assign [.Name x pos'] e pos) (sSet i m) := by
  refine ss_of (ps_set hN hi hx he hs hf) fun σ H Dn ρ σs S rl re p => ?_
  refine ⟨ρ, σs, S, rl, re, do_go re p fun ρ1 H1 S1 d v l1 rl1 rv1 p1 => p1 ρ1 H1 _ Le.refl rl1 ((re.mono l1).set i rv1)⟩
/-- a, b = x, y -/
def sPar (i j : Nat) (a b : ME) : MS := fun σ S => match aList [a, b] σ S with
  | .ok [x, y] S1 => .nx ((σ.set i (some x)).set j (some y)) S1
  | .exc x S1 => .exc x σ S1
  | _ => .bad
theorem ss_par {i j : Nat} {x y : Str} {px py pt : Pos} {kt k2 pt2} (hc : X.calm = true) (hN : X.N.Nodup) (hi : X.N[i]? = some x) (hj : X.N[j]? = some y) (hij : i ≠ j)
    (hx : X.env.scope.names.lookup x = some .local) (hy : X.env.scope.names.lookup y = some .local) (ha : SA G X W [a, b] (aList [ma, mb])) (hs : swappedStores [.Tuple [.Name x px, .Name y py] kt pt] (.Tuple [a, b] k2 pt2) X.env = pure (some [x, y]) := by rfl) :
    SS G X W (.Assign [.Tuple [.Name x px, .Name y py] kt pt] (.Tuple [a, b] k2 pt2) pos) (sPar i j ma mb) := by
  refine ss_of (ps_par hc hN hi hj hij hx hy ha hs) fun σ H Dn ρ σs S rl re p => ?_
  refine ⟨ρ, σs, S, rl, re, ?_⟩
  unfold sPar at p
  cases q : aList [ma, mb] σs S with
  | ok ds S1 =>
    rw [q] at p
    have hl : ds.length = 2 := aList_len q
    match ds, hl, p with
    | [d1, d2], _, p =>
      intro ρ1 H1 vs l1 rl1 rv1
      cases rv1 with
      | cons r1 r2 =>
        cases r2 with
        | cons r2 r3 =>
          cases r3
          exact ⟨_, _, rfl, p ρ1 H1 _ l1 rl1 (((re.mono l1).set i r1).set j r2)⟩
  | exc x S1 =>
    rw [q] at p
    exact fun ρ1 H1 c dd l1 rl1 rx => p ρ1 H1 σ c dd l1 rl1 (re.mono l1) rx
  | bad => rw [q] at p; exact p
/-- x op= e -/
theorem ss_aug {i : Nat} {x : Str} {op : Operator} {f : D → D → Store → Res D} {pos' : Pos} {r : TIp} (hN : X.N.Nodup) (hi : X.N[i]? = some x) (hx : Loc X.env.scope x) (he : SE G X W e m) (ho : PIp X op r)
    (h : ∀ ρ S H d1 d2 x y Q E, Rl G ρ S H → RV G ρ H d1 x → RV G ρ H d2 y → Post G ρ H (f d1 d2 S) Q E → r x y H Q) (hf : X.fn x = true ∨ X.env.scope.names.lookup x = some .local := by first | exact .inl rfl | exact .inr rfl | assumption) :
    SS G X W (.AugAssign (.Name x pos') op e pos) (sAug i f m) := by
  refine ss_of (ps_aug hN hi hx he ho hf) fun σ H Dn ρ σs S rl re p => ?_
  unfold sAug at p
  cases q : σs[i]? with
  | none => rw [q] at p; exact p.elim
  | some o =>
    cases o with
    | none => rw [q] at p; exact p.elim
    | some d =>
      obtain ⟨v, h1, h2⟩ := re.get i d q
      refine ⟨v, h1, ρ, σs, S, rl, re, ?_⟩
      rw [q] at p
      cases q1 : m σs S with
      | ok d1 S1 =>
        intro ρ1 H1 y l1 rl1 rv1
        simp only [q1, Res.bind_ok] at p
        refine h ρ1 S1 H1 d d1 v y _ (EW W σ) rl1 (h2.mono l1) rv1 ?_
        cases q2 : f d d1 S1 with
        | ok d2 S2 =>
          simp only [q2] at p
          exact fun ρ2 H2 z l2 rl2 rv2 => p ρ2 H2 _ (l1.trans l2) rl2 (((re.mono l1).mono l2).set i rv2)
        | exc z S2 =>
          simp only [q2] at p
          exact fun ρ2 H2 c dd l2 rl2 rx => p ρ2 H2 σ c dd (l1.trans l2) rl2 ((re.mono l1).mono l2) rx
        | bad => simp only [q2] at p; exact p
      | exc z S1 =>
        simp only [q1, Res.bind_exc] at p
        exact fun ρ1 H1 c dd l1 rl1 rx => p ρ1 H1 σ c dd l1 rl1 (re.mono l1) rx
      | bad => simp only [q1, Res.bind_bad] at p; exact p
/-! ### loops -/
theorem ss_while {c : Expr} {body : List Stmt} (n : Nat) (cc : Cc G X W) (hc : ST G X W c t) (hb : SSs G X W body k) : SS G X W (.While c body [] pos) (sWhile t k n) := by
  refine ss_of (ps_while cc.hp hc hb) fun σ H Dn ρ σs S rl re p => ?_
  refine ⟨fun m σ H => ∃ ρ σs S, Rl G ρ S H ∧ RE G ρ H σs σ ∧ PostS G ρ H (sWhile t k m σs S) Dn W, ⟨n, ρ, σs, S, rl, re, p⟩, ?_⟩
  rintro m σ H ⟨ρ, σs, S, rl, re, p⟩
  cases m with
  | zero => exact p.elim
  | succ m =>
    refine ⟨ρ, σs, S, rl, re, ?_⟩
    unfold sWhile at p
    cases q : t σs S with
    | exc x S1 =>
      simp only [q] at p
      exact fun ρ1 H1 c dd l1 rl1 rx => p ρ1 H1 σ c dd l1 rl1 (re.mono l1) rx
    | bad => simp only [q] at p; exact p
    | ok c1 S1 =>
      intro ρ1 H1 b l1 rl1 e
      subst e
      cases c1 with
      | false =>
        simp only [q] at p
        show if false = true then _ else _
        rw [if_neg Bool.false_ne_true]
        exact p ρ1 H1 σ l1 rl1 (re.mono l1)
      | true =>
        simp only [q] at p
        show if true = true then _ else _
        rw [if_pos rfl]
        refine ⟨fun σ' H' => ∃ ρ σs S, Rl G ρ S H' ∧ RE G ρ H' σs σ' ∧ PostS G ρ H' (sWhile t k m σs S) Dn W, fun σ' H' w => ⟨m, Nat.lt_succ_self m, w⟩, ρ1, σs, S1, rl1, re.mono l1, ?_⟩
        cases q2 : k σs S1 with
        | nx σ2 S2 => simp only [q2] at p; exact fun ρ2 H2 σ' l2 rl2 re2 => ⟨ρ2, σ2, S2, rl2, re2, PostS.le p (l1.trans l2)⟩
        | ct σ2 S2 => simp only [q2] at p; exact fun ρ2 H2 σ' l2 rl2 re2 => ⟨ρ2, σ2, S2, rl2, re2, PostS.le p (l1.trans l2)⟩
        | bk σ2 S2 => simp only [q2] at p; exact fun ρ2 H2 σ' l2 rl2 re2 => p ρ2 H2 σ' (l1.trans l2) rl2 re2
        | rt d S2 => simp only [q2] at p; exact fun ρ2 H2 v l2 rl2 re2 => p ρ2 H2 v (l1.trans l2) rl2 re2
        | exc x σ2 S2 => simp only [q2] at p; exact fun ρ2 H2 σ' c dd l2 rl2 re2 rx => p ρ2 H2 σ' c dd (l1.trans l2) rl2 re2 rx
        | bad => simp only [q2] at p; exact p
/-- an iterator of HandS and a source -/
def JR (G : Gx) (ρ0 : Wd) (H0 : Hp) (src : Src) (J : It) : Prop := ∀ ρ S H, Mv G ρ0 H0 ρ H → Rl G ρ S H → ∀ i,
  (∀ d, src i S = some (some d) → J.go i H ∧ ∀ x H', J.yld i H x H' → Le G ρ H ρ H' ∧ Rl G ρ S H' ∧ RV G ρ H' d x) ∧ (src i S = some none → J.stop i H)
abbrev PostI (G : Gx) := PostR (α := Src) (β := It) G (JR G)
def tmi (G : Gx) (W : WX) (m : MI) : TI := fun σ H R => ∃ ρ σs S, Rl G ρ S H ∧ RE G ρ H σs σ ∧ PostI G ρ H (m σs S) R (fun c d H' => W c d σ H')
abbrev SI (G : Gx) (X : Cx) (W : WX) (tg iter : Expr) (m : MI) : Prop := PI X tg iter (tmi G W m)
theorem JR.le {ρ0 ρ1 : Wd} {H0 H1 : Hp} {src : Src} {J : It} (h : JR G ρ0 H0 src J) (l : Le G ρ0 H0 ρ1 H1) : JR G ρ1 H1 src J := fun ρ S H l' rl i => h ρ S H (l.mv.trans l') rl i
theorem PI.weak {tg iter : Expr} {w w' : TI} (h : PI X tg iter w) (i : ∀ σ H R, w' σ H R → w σ H R) : PI X tg iter w' := ⟨fun pins s σ H R I q => h.run pins s σ H R I (i _ _ _ q)⟩
theorem ss_for {tg iter : Expr} {body : List Stmt} {mi : MI} {g : MG} (n : Nat) (cc : Cc G X W) (hi : SI G X W tg iter mi) (hg : SG G X tg g) (hb : SSs G X W body k) (hs : ∀ x, foldedSetIterable iter X.env x = pure x := by intro _; rfl) :
    SS G X W (.For tg iter body [] pos) (sFor mi g k n) := by
  refine ss_of (ps_for cc.hp cc.calm hi hg hb hs) fun σ H Dn ρ σs S rl re p => ?_
  refine ⟨ρ, σs, S, rl, re, ?_⟩
  unfold sFor at p
  cases q : mi σs S with
  | exc x S1 =>
    simp only [q] at p
    exact fun ρ1 H1 c dd l1 rl1 rx => p ρ1 H1 σ c dd l1 rl1 (re.mono l1) rx
  | bad => simp only [q] at p; exact p
  | ok src S1 =>
    simp only [q] at p
    intro ρ1 H1 J l1 rl1 jr
    refine ⟨fun i m σ H => ∃ ρ σs S, Le G ρ1 H1 ρ H ∧ Rl G ρ S H ∧ RE G ρ H σs σ ∧ PostS G ρ H (forGo src g k m i σs S) Dn W, ⟨n, ρ1, σs, S1, Le.refl, rl1, re.mono l1, PostS.le p l1⟩, ?_⟩
    rintro i m σ H ⟨ρ, σs, S, l0, rl, re, p⟩
    cases m with
    | zero => exact p.elim
    | succ m =>
      unfold forGo at p
      obtain ⟨j1, j2⟩ := jr ρ S H l0.mv rl i
      cases q : src i S with
      | none => simp only [q] at p; exact p.elim
      | some o =>
        cases o with
        | none => simp only [q] at p; exact .inl ⟨j2 q, p ρ H σ Le.refl rl re⟩
        | some d =>
          simp only [q] at p
          obtain ⟨go, yl⟩ := j1 d q
          refine .inr ⟨go, fun σ' H' => ∃ ρ σs S, Le G ρ1 H1 ρ H' ∧ Rl G ρ S H' ∧ RE G ρ H' σs σ' ∧ PostS G ρ H' (forGo src g k m (i + 1) σs S) Dn W, fun σ' H' w => ⟨m, Nat.lt_succ_self m, w⟩, fun x H' y => ?_⟩
          obtain ⟨l2, rl2, rv2⟩ := yl x H' y
          refine ⟨ρ, σs, S, d, rl2, re.mono l2, rv2, ?_⟩
          cases q1 : g d σs S with
          | exc x S2 => simp only [q1] at p; exact p
          | bad => simp only [q1] at p; exact p
          | ok σ2 S2 =>
            simp only [q1] at p
            intro ρ3 H3 σ3 l3 rl3 re3
            refine ⟨ρ3, σ2, S2, rl3, re3, ?_⟩
            have l03 : Le G ρ H ρ3 H3 := l2.trans l3
            cases q2 : k σ2 S2 with
            | nx σ4 S4 => simp only [q2] at p; exact fun ρ4 H4 σ' l4 rl4 re4 => ⟨ρ4, σ4, S4, l0.trans (l03.trans l4), rl4, re4, PostS.le p (l03.trans l4)⟩
            | ct σ4 S4 => simp only [q2] at p; exact fun ρ4 H4 σ' l4 rl4 re4 => ⟨ρ4, σ4, S4, l0.trans (l03.trans l4), rl4, re4, PostS.le p (l03.trans l4)⟩
            | bk σ4 S4 => simp only [q2] at p; exact fun ρ4 H4 σ' l4 rl4 re4 => p ρ4 H4 σ' (l03.trans l4) rl4 re4
            | rt d S4 => simp only [q2] at p; exact fun ρ4 H4 v l4 rl4 re4 => p ρ4 H4 v (l03.trans l4) rl4 re4
            | exc x σ4 S4 => simp only [q2] at p; exact fun ρ4 H4 σ' c dd l4 rl4 re4 rx => p ρ4 H4 σ' c dd (l03.trans l4) rl4 re4 rx
            | bad => simp only [q2] at p; exact p
end
end L2.Mi

set_option Elab.async false
set_option linter.all false
set_option maxRecDepth 100000
set_option maxHeartbeats 4000000
/-! Mini, 3: operations on values: ints, tuples, lists, equality. -/
namespace L2.Mi
open PySem PySem.Spec PyProof.Rows

abbrev lim : Nat := 1000000
theorem lim_le {n : Nat} (h : n ≤ lim) : n ≤ sizeLine := by rw [sizeLine_eq]; unfold lim at h; omega
theorem lim_lt {n : Nat} (h : n < lim) : n < sizeLine := by rw [sizeLine_eq]; unfold lim at h; omega

/-! ### reading sequences -/
def tupD : D → Option (List D)
  | .tup ds => some ds
  | .kt ds => some ds
  | _ => none
section
variable {G : Gx} {X : Cx} {W : WX} {ρ : Wd} {S : Store} {H : Hp} {d : D} {x : V} {ds : List D}
theorem sqT_written {K : PySem.W.Frag} {a : Addr} {xs : List V} (h : SqT K (fun _ => none) a xs) : SqT K H a xs := by
  rcases h with (h | ⟨o, h⟩) | h
  · cases h
  · cases h
  · exact .inr h
theorem tupD_rel (rv : RV G ρ H d x) (h : tupD d = some ds) : ∃ a xs, x = .ref a ∧ SqT G.K H a xs ∧ RVs G ρ H ds xs := by
  cases rv with
  | tup ht hr => cases h; exact ⟨_, _, rfl, SqT.of ht, hr⟩
  | kt ht hr => cases h; exact ⟨_, _, rfl, sqT_written ht, hr⟩
  | _ => cases h
theorem listAt_rel (rl : Rl G ρ S H) (rv : RV G ρ H d x) (h : listAt S d = some ds) : ∃ a xs, x = .ref a ∧ SqL G.K H a xs ∧ RVs G ρ H ds xs := by
  cases rv with
  | lv n ht hr => cases h; exact ⟨_, _, rfl, SqL.of ht, hr⟩
  | fl ht hr => cases h; exact ⟨_, _, rfl, ht.sq, hr⟩
  | @ref i a hi =>
    unfold listAt at h
    cases q : S.get i with
    | none => simp only [q] at h; cases h
    | some o =>
      obtain ⟨u, hu, ro⟩ := rl.at hi q
      cases ro with
      | lst r => simp only [q] at h; cases h; exact ⟨a, _, rfl, SqL.of hu, r⟩
      | lck r =>
        cases r with
        | lst r => simp only [q] at h; cases h; exact ⟨a, _, rfl, .inl (.inr ⟨_, hu⟩), r⟩
        | _ => simp only [q] at h; cases h
      | _ => simp only [q] at h; cases h
  | _ => cases h
theorem RVs.atI {ds : List D} {xs : List V} {i : Int} {d : D} (r : RVs G ρ H ds xs) (h : L2.atI ds i = some d) : ∃ v, L2.atI xs i = some v ∧ RV G ρ H d v := by
  unfold L2.atI at h ⊢
  rw [← r.length]
  cases q : ixN ds.length i with
  | none => rw [q] at h; cases h
  | some j =>
    rw [q] at h
    exact RVs.get r h
end

/-! ### ints -/
def intOp (c : Int → Int → Bool) (g : Int → Int → D) : D → D → Store → Res D := fun x y S => match x, y with
  | .int i, .int j => if c i j then .ok (g i j) S else .bad
  | _, _ => .bad
def mulOk (i j : Int) : Bool := (decide (-(2 ^ 64) < i) && decide (i < 2 ^ 64)) || (decide (-(2 ^ 64) < j) && decide (j < 2 ^ 64)) || decide (i.natAbs.log2 + j.natAbs.log2 < 1000000)
def divOk (j : Int) : Bool := decide (0 < j) && decide (j.natAbs.log2 < 9000)
def powOk (i j : Int) : Bool := decide (0 ≤ j) && decide (j ≤ 1000000) && decide (i.natAbs < 2 ^ 64)
section
variable {G : Gx} {X : Cx} {W : WX}
theorem intOp_go {c : Int → Int → Bool} {g : Int → Int → D} {ρ : Wd} {S : Store} {H : Hp} {d1 d2 : D} {x y : V} {Q : VK} {E : XK} (r1 : RV G ρ H d1 x) (r2 : RV G ρ H d2 y) (p : Post G ρ H (intOp c g d1 d2 S) Q E) :
    ∃ i j, x = .int i ∧ y = .int j ∧ c i j = true ∧ Post G ρ H (.ok (g i j) S) Q E := by
  cases r1 with
  | int i =>
    cases r2 with
    | int j =>
      unfold intOp at p
      by_cases h : c i j = true
      · simp only [h, if_true] at p
        exact ⟨i, j, rfl, rfl, h, p⟩
      · simp only [h] at p
        exact False.elim p
    | _ => exact False.elim p
  | _ => exact False.elim p
theorem ops_int {F : Value → Value → Sem Value} {c : Int → Int → Bool} {C : Int → Int → Prop} {g : Int → Int → Int} (ho : OpR X F (rI C fun i j => .int (g i j))) (hc : ∀ i j, c i j = true → C i j) : OpS G X W F (intOp c fun i j => .int (g i j)) :=
  OpS.of ho fun ρ S H d1 d2 x y Q E rl r1 r2 p => by
    obtain ⟨i, j, h1, h2, h3, p⟩ := intOp_go r1 r2 p
    exact ⟨i, j, h1, h2, hc i j h3, post_ok p rl (.int _)⟩
theorem ops_int0 {F : Value → Value → Sem Value} {g : Int → Int → Int} (ho : OpR X F (rI0 fun i j => .int (g i j))) : OpS G X W F (intOp (fun _ _ => true) fun i j => .int (g i j)) :=
  OpS.of ho fun ρ S H d1 d2 x y Q E rl r1 r2 p => by
    obtain ⟨i, j, h1, h2, h3, p⟩ := intOp_go r1 r2 p
    exact ⟨i, j, h1, h2, post_ok p rl (.int _)⟩
theorem ops_cmp0 {F : Value → Value → Sem Value} {g : Int → Int → Bool} (ho : OpR X F (rI0 fun i j => .bl (g i j))) : OpS G X W F (intOp (fun _ _ => true) fun i j => .bl (g i j)) :=
  OpS.of ho fun ρ S H d1 d2 x y Q E rl r1 r2 p => by
    obtain ⟨i, j, h1, h2, h3, p⟩ := intOp_go r1 r2 p
    exact ⟨i, j, h1, h2, post_ok p rl (.bl _)⟩
end
/-- the operations of ints -/
def mulI : D → D → Store → Res D := intOp mulOk fun i j => .int (i * j)
def divI : D → D → Store → Res D := intOp (fun _ j => divOk j) fun i j => .int (i / j)
def modI : D → D → Store → Res D := intOp (fun _ j => decide (0 < j)) fun i j => .int (i % j)
def powI : D → D → Store → Res D := intOp powOk fun i j => .int (i ^ j.toNat)
def ltI : D → D → Store → Res D := intOp (fun _ _ => true) fun i j => .bl (decide (i < j))
def leI : D → D → Store → Res D := intOp (fun _ _ => true) fun i j => .bl (decide (i ≤ j))
def gtI : D → D → Store → Res D := intOp (fun _ _ => true) fun i j => .bl (decide (j < i))
def geI : D → D → Store → Res D := intOp (fun _ _ => true) fun i j => .bl (decide (j ≤ i))
def noOwn : D → D → Store → Res D := fun _ _ _ => .bad
/-- a + b -/
def addF (own : D → D → Store → Res D) : D → D → Store → Res D := fun x y S => match x, y with
  | .int i, .int j => .ok (.int (i + j)) S
  | .str a, .str b => if a.length + b.length ≤ lim then .ok (.str (a ++ b)) S else .bad
  | .tup a, .tup b => if a.length + b.length ≤ lim then .ok (.tup (a ++ b)) S else .bad
  | .lv a, .lv b => if a.length + b.length ≤ lim then .ok (.lv (a ++ b)) S else .bad
  | .ref a, _ => own (.ref a) y S
  | _, _ => .bad
def subF (own : D → D → Store → Res D) : D → D → Store → Res D := fun x y S => match x, y with
  | .int i, .int j => .ok (.int (i - j)) S
  | .ref a, _ => own (.ref a) y S
  | _, _ => .bad
/-- a * b -/
def mulF (own : D → D → Store → Res D) : D → D → Store → Res D := fun x y S => match x, y with
  | .int i, .int j => if mulOk i j then .ok (.int (i * j)) S else .bad
  | .lv a, .int k => if decide (0 ≤ k) && decide (k ≤ 1000) && decide (a.length ≤ 1000) then .ok (.lv (List.replicate k.toNat a).flatten) S else .bad
  | .ref a, _ => own (.ref a) y S
  | _, _ => .bad
section
variable {G : Gx} {X : Cx} {W : WX}
theorem noOwn_ok {F : Value → Value → Sem Value} : OpS G X W F noOwn := fun _ _ _ _ _ _ _ _ _ _ _ _ _ _ _ _ _ _ _ p => p.elim
theorem ops_mod : OpS G X W (binaryOp .Mod) modI := ops_int op_mod fun i j h => by simpa using h
theorem ops_div : OpS G X W (binaryOp .FloorDiv) divI := ops_int op_fdivW fun i j h => by
  unfold divOk at h
  simp only [Bool.and_eq_true, decide_eq_true_eq] at h
  exact h
theorem ops_pow : OpS G X W (binaryOp .Pow) powI := ops_int op_pow fun i j h => by
  unfold powOk at h
  simp only [Bool.and_eq_true, decide_eq_true_eq] at h
  exact ⟨h.1.1, h.1.2, h.2⟩
theorem ops_lt : OpS G X W (compareOp .Lt) ltI := ops_cmp0 op_lt
theorem ops_le : OpS G X W (compareOp .LtE) leI := ops_cmp0 op_le
theorem ops_gt : OpS G X W (compareOp .Gt) gtI := ops_cmp0 op_gt
theorem ops_ge : OpS G X W (compareOp .GtE) geI := ops_cmp0 op_ge
theorem str_append (a b : List Nat) : (⟨a.toArray⟩ : Str) ++ ⟨b.toArray⟩ = ⟨(a ++ b).toArray⟩ := by
  show Str.mk (a.toArray ++ b.toArray) = _
  simp
theorem str_len (a : List Nat) : (⟨a.toArray⟩ : Str).length = a.length := by
  show a.toArray.size = _
  simp
theorem ops_add {own : D → D → Store → Res D} (cc : Cc G X W) (ho : OpS G X W (binaryOp .Add) own) : OpS G X W (binaryOp .Add) (addF own) := by
  intro pins s σ H x y v u Q ρ S d1 d2 I rx ry rl r1 r2 p
  cases r1 with
  | int i =>
    cases r2 with
    | int j => exact op_add pins s σ H _ _ v u Q I rx ry ⟨i, j, rfl, rfl, post_ok p rl (.int _)⟩
    | _ => exact p.elim
  | str a =>
    cases r2 with
    | str b =>
      unfold addF at p
      by_cases hl : a.length + b.length ≤ lim
      · simp only [hl, if_true] at p
        refine op_add_str pins s σ H _ _ v u Q I rx ry ⟨_, _, rfl, rfl, by rw [str_len, str_len]; exact lim_le hl, ?_⟩
        rw [str_append]
        exact post_ok p rl (.str _)
      · simp only [hl, if_false] at p
        exact p.elim
    | _ => exact p.elim
  | @tup as a xs ha hr =>
    cases r2 with
    | @tup bs b ys hb hs =>
      unfold addF at p
      by_cases hl : as.length + bs.length ≤ lim
      · simp only [hl, if_true] at p
        refine op_catA pins s σ H _ _ v u Q I rx ry ⟨a, b, xs, ys, rfl, rfl, SqT.of ha, SqT.of hb, by rw [← hr.length, ← hs.length]; exact lim_le hl, fun e => ?_, fun _ e => ?_, fun _ _ q hq => ?_⟩
        · subst e
          cases hr
          exact post_ok p rl (.tup hb hs)
        · subst e
          cases hs
          exact post_ok p rl (.tup ha (by rw [List.append_nil]; exact hr))
        · exact post_new p rl hq (.tup upd_same ((hr.append hs).mono (Le.new hq)))
      · simp only [hl, if_false] at p
        exact p.elim
    | _ => exact p.elim
  | @lv as a xs na ha hr =>
    cases r2 with
    | @lv bs b ys nb hb hs =>
      unfold addF at p
      by_cases hl : as.length + bs.length ≤ lim
      · simp only [hl, if_true] at p
        refine op_cat pins s σ H _ _ v u Q I rx ry ⟨a, b, xs, ys, rfl, rfl, ha, hb, by rw [← hr.length, ← hs.length]; exact lim_le hl, fun q hq => ?_⟩
        exact post_new p rl hq (.lv (rl.no hq) upd_same ((hr.append hs).mono (Le.new hq)))
      · simp only [hl, if_false] at p
        exact p.elim
    | _ => exact p.elim
  | ref h => exact ho pins s σ H _ _ v u Q ρ S _ d2 I rx ry rl (.ref h) r2 p
  | _ => exact p.elim
theorem ops_sub {own : D → D → Store → Res D} (ho : OpS G X W (binaryOp .Sub) own) : OpS G X W (binaryOp .Sub) (subF own) := by
  intro pins s σ H x y v u Q ρ S d1 d2 I rx ry rl r1 r2 p
  cases r1 with
  | int i =>
    cases r2 with
    | int j => exact op_sub pins s σ H _ _ v u Q I rx ry ⟨i, j, rfl, rfl, post_ok p rl (.int _)⟩
    | _ => exact p.elim
  | ref h => exact ho pins s σ H _ _ v u Q ρ S _ d2 I rx ry rl (.ref h) r2 p
  | _ => exact p.elim
theorem ops_mul {own : D → D → Store → Res D} (ho : OpS G X W (binaryOp .Mult) own) : OpS G X W (binaryOp .Mult) (mulF own) := by
  intro pins s σ H x y v u Q ρ S d1 d2 I rx ry rl r1 r2 p
  cases r1 with
  | int i =>
    cases r2 with
    | int j =>
      unfold mulF at p
      by_cases h : mulOk i j = true
      · simp only [h, if_true] at p
        have h' := h
        unfold mulOk at h'
        simp only [Bool.or_eq_true, Bool.and_eq_true, decide_eq_true_eq] at h'
        rcases h' with h' | h'
        · exact op_mul pins s σ H _ _ v u Q I rx ry ⟨i, j, rfl, rfl, h', post_ok p rl (.int _)⟩
        · exact op_mulW pins s σ H _ _ v u Q I rx ry ⟨i, j, rfl, rfl, h', post_ok p rl (.int _)⟩
      · simp only [h] at p
        exact p.elim
    | _ => exact p.elim
  | @lv as a xs na ha hr =>
    cases r2 with
    | int k =>
      unfold mulF at p
      by_cases h : (decide (0 ≤ k) && decide (k ≤ 1000) && decide (as.length ≤ 1000)) = true
      · simp only [h, if_true] at p
        simp only [Bool.and_eq_true, decide_eq_true_eq] at h
        have hl := hr.length
        have hz : xs.length * k.toNat ≤ sizeLine := by
          rw [sizeLine_eq]
          have : xs.length * k.toNat ≤ 1000 * 1000 := Nat.mul_le_mul (by omega) (by omega)
          omega
        refine op_rep pins s σ H _ _ v u Q I rx ry ⟨a, k, xs, rfl, rfl, ha, by omega, by omega, hz, fun q hq => ?_⟩
        refine post_new p rl hq (.lv (rl.no hq) upd_same ?_)
        have rep : ∀ n, RVs G ρ H (List.replicate n as).flatten (List.replicate n xs).flatten := fun n => by
          induction n with
          | zero => exact .nil
          | succ n ih => rw [List.replicate_succ, List.replicate_succ]; exact hr.append ih
        exact (rep k.toNat).mono (Le.new hq)
      · simp only [h] at p
        exact p.elim
    | _ => exact p.elim
  | ref h => exact ho pins s σ H _ _ v u Q ρ S _ d2 I rx ry rl (.ref h) r2 p
  | _ => exact p.elim
def negI : D → Store → Res D := fun x S => match x with
  | .int i => .ok (.int (-i)) S
  | _ => .bad
end

/-! ### data: equality -/
def mapO {α β : Type} (f : α → Option β) : List α → Option (List β)
  | [] => some []
  | a :: as => match f a, mapO f as with
    | some b, some bs => some (b :: bs)
    | _, _ => none
def dat : Nat → Store → D → Option PyData
  | _, _, .non => some .none
  | _, _, .bl b => some (.bool b)
  | _, _, .int i => some (.int i)
  | _, _, .str x => some (.str ⟨x.toArray⟩)
  | n + 1, S, .tup ds => (mapO (dat n S) ds).map .tuple
  | n + 1, S, .kt ds => (mapO (dat n S) ds).map .tuple
  | n + 1, S, .lv ds => (mapO (dat n S) ds).map .list
  | n + 1, S, .ref a => (match listAt S (.ref a) with | some ds => (mapO (dat n S) ds).map .list | none => none)
  | _, _, _ => none
section
variable {G : Gx} {X : Cx} {W : WX} {ρ : Wd} {S : Store} {H : Hp}
theorem mapO_rel {f : D → Option PyData} (h : ∀ d x e, RV G ρ H d x → f d = some e → Dp G.K H x e) : ∀ {ds : List D} {xs : List V} {es : List PyData}, RVs G ρ H ds xs → mapO f ds = some es → DpAll G.K H xs es
  | _, _, _, .nil, e => by cases e; exact .nil
  | d :: ds, x :: xs, es, .cons r rs, e => by
    unfold mapO at e
    cases q1 : f d with
    | none => simp only [q1] at e; cases e
    | some b =>
      cases q2 : mapO f ds with
      | none => simp only [q1, q2] at e; cases e
      | some bs =>
        simp only [q1, q2] at e
        cases e
        exact .cons (h d x b r q1) (mapO_rel h rs q2)
theorem dat_rel (rl : Rl G ρ S H) : ∀ (n : Nat) (d : D) (x : V) (e : PyData), RV G ρ H d x → dat n S d = some e → Dp G.K H x e := by
  intro n
  induction n with
  | zero =>
    intro d x e r h
    cases r with
    | non => cases h; exact .non
    | bl b => cases h; exact .bl b
    | int i => cases h; exact .int i
    | str x => cases h; exact .str _
    | _ => cases h
  | succ n ih =>
    intro d x e r h
    have seqT : ∀ {ds : List D} {a : Addr} {xs : List V}, SqT G.K H a xs → RVs G ρ H ds xs → (mapO (dat n S) ds).map PyData.tuple = some e → Dp G.K H (.ref a) e := fun {ds a xs} ht hr h => by
      cases q : mapO (dat n S) ds with
      | none => rw [q] at h; cases h
      | some es => rw [q] at h; cases h; exact .tup ht (mapO_rel ih hr q)
    have seqL : ∀ {ds : List D} {a : Addr} {xs : List V}, SqL G.K H a xs → RVs G ρ H ds xs → (mapO (dat n S) ds).map PyData.list = some e → Dp G.K H (.ref a) e := fun {ds a xs} ht hr h => by
      cases q : mapO (dat n S) ds with
      | none => rw [q] at h; cases h
      | some es => rw [q] at h; cases h; exact .lst ht (mapO_rel ih hr q)
    cases r with
    | non => cases h; exact .non
    | bl b => cases h; exact .bl b
    | int i => cases h; exact .int i
    | str x => cases h; exact .str _
    | ty n => cases h
    | tup ht hr => exact seqT (SqT.of ht) hr h
    | kt ht hr => exact seqT (sqT_written ht) hr h
    | lv hn ht hr => exact seqL (SqL.of ht) hr h
    | @ref i a hi =>
      unfold dat at h
      cases q : listAt S (.ref i) with
      | none => simp only [q] at h; cases h
      | some ds =>
        simp only [q] at h
        obtain ⟨b, xs, e1, hq, hr⟩ := listAt_rel rl (.ref hi) q
        cases e1
        exact seqL hq hr h
    | _ => cases h
end
/-- a == b, a != b of data; own objects by own -/
def eqF (own : D → D → Store → Res D) : D → D → Store → Res D := fun x y S => match dat 64 S x, dat 64 S y with
  | some a, some b => if SeqAt.shaped a && SeqAt.shaped b then .ok (.bl (PyData.eqv a b)) S else .bad
  | _, _ => own x y S
def neF (own : D → D → Store → Res D) : D → D → Store → Res D := fun x y S => match dat 64 S x, dat 64 S y with
  | some a, some b => if SeqAt.shaped a && SeqAt.shaped b then .ok (.bl (!PyData.eqv a b)) S else .bad
  | _, _ => own x y S
section
variable {G : Gx} {X : Cx} {W : WX}
theorem ops_eq {own : D → D → Store → Res D} (cc : Cc G X W) (hu : X.A.units + 64 < cLine) (ho : OpS G X W (compareOp .Eq) own) : OpS G X W (compareOp .Eq) (eqF own) := by
  intro pins s σ H x y v u Q ρ S d1 d2 I rx ry rl r1 r2 p
  unfold eqF at p
  cases q1 : dat 64 S d1 with
  | none => simp only [q1] at p; exact ho pins s σ H x y v u Q ρ S d1 d2 I rx ry rl r1 r2 p
  | some a =>
    cases q2 : dat 64 S d2 with
    | none => simp only [q1, q2] at p; exact ho pins s σ H x y v u Q ρ S d1 d2 I rx ry rl r1 r2 p
    | some b =>
      simp only [q1, q2] at p
      by_cases h : (SeqAt.shaped a && SeqAt.shaped b) = true
      · simp only [h, if_true] at p
        rw [Bool.and_eq_true] at h
        refine op_eqD hu pins s σ H x y v u Q I rx ry ⟨a, b, ?_, ?_, h.1, h.2, post_ok p rl (.bl _)⟩
        · rw [cc.k]; exact dat_rel rl 64 d1 x a r1 q1
        · rw [cc.k]; exact dat_rel rl 64 d2 y b r2 q2
      · simp only [h] at p
        exact p.elim
theorem ops_ne {own : D → D → Store → Res D} (cc : Cc G X W) (hu : X.A.units + 64 < cLine) (ho : OpS G X W (compareOp .NotEq) own) : OpS G X W (compareOp .NotEq) (neF own) := by
  intro pins s σ H x y v u Q ρ S d1 d2 I rx ry rl r1 r2 p
  unfold neF at p
  cases q1 : dat 64 S d1 with
  | none => simp only [q1] at p; exact ho pins s σ H x y v u Q ρ S d1 d2 I rx ry rl r1 r2 p
  | some a =>
    cases q2 : dat 64 S d2 with
    | none => simp only [q1, q2] at p; exact ho pins s σ H x y v u Q ρ S d1 d2 I rx ry rl r1 r2 p
    | some b =>
      simp only [q1, q2] at p
      by_cases h : (SeqAt.shaped a && SeqAt.shaped b) = true
      · simp only [h, if_true] at p
        rw [Bool.and_eq_true] at h
        refine op_neD hu pins s σ H x y v u Q I rx ry ⟨a, b, ?_, ?_, h.1, h.2, post_ok p rl (.bl _)⟩
        · rw [cc.k]; exact dat_rel rl 64 d1 x a r1 q1
        · rw [cc.k]; exact dat_rel rl 64 d2 y b r2 q2
      · simp only [h] at p
        exact p.elim
end
end L2.Mi

set_option Elab.async false
set_option linter.all false
set_option maxRecDepth 100000
set_option maxHeartbeats 4000000
/-! Mini, 4: subscripts, slices, lengths, methods of lists, built-ins. -/
namespace L2.Mi
open PySem PySem.Spec PyProof.Rows

/-! ### subscripts -/
def IxS (G : Gx) (X : Cx) (W : WX) (f : D → D → Store → Res D) : Prop :=
  ∀ (value slice : Expr) (pins : List (Addr × Obj)) (s : Shared) (σ : St) (H : Hp) (x y : V) (v u : Value) (Q : VK) (ρ : Wd) (S : Store) (d1 d2 : D), Inv X pins σ H s → RelV x v → RelV y u → Rl G ρ S H → RV G ρ H d1 x → RV G ρ H d2 y →
    Post G ρ H (f d1 d2 S) Q (EW W σ) → subscripted slice false v u = operate [v, u] (getItem v u) → wpAny (model X.prog X.w) X.A (subscriptTail value slice v u) (EP X pins σ Q) X.xe s
/-- an item of a tuple, a list, a text -/
def itemF : D → D → Store → Res D := fun x y S => match y with
  | .int i => (match tupD x with
    | some ds => (match L2.atI ds i with | some d => .ok d S | none => .bad)
    | none => (match listAt S x with
      | some ds => (match L2.atI ds i with | some d => .ok d S | none => .bad)
      | none => (match x with
        | .str l => if l.length ≤ lim then (match L2.atI l i with | some c => .ok (.str [c]) S | none => .bad) else .bad
        | _ => .bad)))
  | _ => .bad
section
variable {G : Gx} {X : Cx} {W : WX} {a b e : Expr} {ma mb m : ME} {pos : Pos}
theorem IxS.of {f : D → D → Store → Res D} {r : R2} (ho : IxR X r) (h : ∀ ρ S H d1 d2 x y Q E, Rl G ρ S H → RV G ρ H d1 x → RV G ρ H d2 y → Post G ρ H (f d1 d2 S) Q E → r x y H Q) : IxS G X W f :=
  fun value slice pins s σ H x y v u Q ρ S d1 d2 I rx ry rl r1 r2 p hs => ho value slice pins s σ H x y v u Q I rx ry (h ρ S H d1 d2 x y Q _ rl r1 r2 p) hs
theorem se_ix {f : D → D → Store → Res D} (hr : IxS G X W f) (ha : SE G X W a ma) (hb : SE G X W b mb) (hs : PlainIx b := by exact fun _ _ => rfl) : SE G X W (.Subscript a b pos) (eBin f ma mb) :=
  ⟨fun pins s σ H Q I ⟨ρ, σs, S, rl, re, p⟩ => Subscript_ (ha.go I rl re p fun v s1 x H1 ρ1 S1 d I1 rx l1 rl1 re1 rv1 p1 => hb.go I1 rl1 re1 p1 fun u s2 y H2 ρ2 S2 e I2 ry l2 rl2 re2 rv2 p2 =>
    hr a b pins s2 σ H2 x y v u Q ρ2 S2 d e I2 rx ry rl2 (rv1.mono l2) rv2 p2 (hs _ _))⟩
theorem ixs_item (cc : Cc G X W) : IxS G X W itemF := by
  intro value slice pins s σ H x y v u Q ρ S d1 d2 I rx ry rl r1 r2 p hs
  cases r2 with
  | int i =>
    unfold itemF at p
    cases q1 : tupD d1 with
    | some ds =>
      obtain ⟨a, xs, rfl, ht, hr⟩ := tupD_rel r1 q1
      cases q2 : L2.atI ds i with
      | none => simp only [q1, q2] at p; exact p.elim
      | some d =>
        simp only [q1, q2] at p
        obtain ⟨z, h1, h2⟩ := hr.atI q2
        exact ix_tup value slice pins s σ H _ _ v u Q I rx ry ⟨a, xs, i, z, rfl, rfl, by rw [cc.k]; exact ht, h1, post_ok p rl h2⟩ hs
    | none =>
      cases q3 : listAt S d1 with
      | some ds =>
        obtain ⟨a, xs, rfl, ht, hr⟩ := listAt_rel rl r1 q3
        cases q2 : L2.atI ds i with
        | none => simp only [q1, q2, q3] at p; exact p.elim
        | some d =>
          simp only [q1, q2, q3] at p
          obtain ⟨z, h1, h2⟩ := hr.atI q2
          exact ix_list value slice pins s σ H _ _ v u Q I rx ry ⟨a, xs, i, z, rfl, rfl, by rw [cc.k]; exact ht, h1, post_ok p rl h2⟩ hs
      | none =>
        cases r1 with
        | str l =>
          simp only [q1, q3] at p
          by_cases hl : l.length ≤ lim
          · simp only [hl, if_true] at p
            cases q2 : L2.atI l i with
            | none => simp only [q2] at p; exact p.elim
            | some c =>
              simp only [q2] at p
              refine ix_str value slice pins s σ H _ _ v u Q I rx ry ⟨⟨l.toArray⟩, i, c, rfl, rfl, by rw [str_len]; exact lim_le hl, ?_, post_ok p rl (.str [c])⟩ hs
              simpa using q2
          · simp only [hl, if_false] at p
            exact p.elim
        | _ => simp only [q1, q3] at p; exact p.elim
  | _ => exact p.elim
end

/-! ### slices -/
abbrev MO := En → Store → Res (Option Int)
def oNone : MO := fun _ S => .ok none S
def oSome (m : ME) : MO := fun σ S => (m σ S).bind fun d S1 => match d with | .int i => .ok (some i) S1 | _ => .bad
def tmo (G : Gx) (W : WX) (m : MO) : TO := fun σ H Q => ∃ ρ σs S, Rl G ρ S H ∧ RE G ρ H σs σ ∧ PostR (α := Option Int) (β := Option Int) G (fun _ _ a b => a = b) ρ H (m σs S) Q (fun c d H' => W c d σ H')
abbrev SO (G : Gx) (X : Cx) (W : WX) (e : Option Expr) (m : MO) : Prop := PO X e (tmo G W m)
def cutD {α : Type} (xs : List α) (lo hi : Option Int) : List α := (xs.drop (HT.sIx xs.length 0 lo)).take (HT.sIx xs.length xs.length hi - HT.sIx xs.length 0 lo)
def sliceF (x : D) (lo hi : Option Int) (S : Store) : Res D := match x with
  | .tup ds => .ok (.tup (cutD ds lo hi)) S
  | .str l => if l.length ≤ lim then .ok (.str (cutD l lo hi)) S else .bad
  | d => (match listAt S d with | some ds => .ok (.lv (cutD ds lo hi)) S | none => .bad)
def eSlice (m : ME) (lo hi : MO) : ME := fun σ S => (m σ S).bind fun x S1 => (lo σ S1).bind fun l S2 => (hi σ S2).bind fun h S3 => sliceF x l h S3
section
variable {G : Gx} {X : Cx} {W : WX} {a b e : Expr} {ma mb m : ME} {pos : Pos}
theorem so_none : SO G X W none oNone := ⟨fun pins s σ H Q I ⟨ρ, σs, S, rl, re, p⟩ => po_none.run pins s σ H Q I (p ρ H none Le.refl rl rfl)⟩
theorem so_some (h : SE G X W e m) : SO G X W (some e) (oSome m) := by
  refine ⟨fun pins s σ H Q I ⟨ρ, σs, S, rl, re, p⟩ => (po_some h).run pins s σ H Q I ?_⟩
  refine ⟨ρ, σs, S, rl, re, p.bind (R := RV G) fun ρ1 H1 S1 d v l1 rl1 rv1 p1 => ?_⟩
  cases rv1 with
  | int i => exact ⟨i, rfl, p1 ρ1 H1 (some i) Le.refl rl1 rfl⟩
  | _ => exact False.elim p1
theorem cut_rel {ρ : Wd} {H : Hp} {ds : List D} {xs : List V} (r : RVs G ρ H ds xs) (lo hi : Option Int) : RVs G ρ H (cutD ds lo hi) (cutV xs lo hi) := by
  have dr : ∀ (n : Nat) {ds : List D} {xs : List V}, RVs G ρ H ds xs → RVs G ρ H (ds.drop n) (xs.drop n) := by
    intro n
    induction n with
    | zero => exact fun r => r
    | succ n ih => intro ds xs r; cases r with | nil => exact .nil | cons _ t => exact ih t
  have tk : ∀ (n : Nat) {ds : List D} {xs : List V}, RVs G ρ H ds xs → RVs G ρ H (ds.take n) (xs.take n) := by
    intro n
    induction n with
    | zero => exact fun r => .nil
    | succ n ih => intro ds xs r; cases r with | nil => exact .nil | cons h t => exact .cons h (ih t)
  unfold cutD cutV
  rw [r.length]
  exact tk _ (dr _ r)
theorem cut_str (l : List Nat) (lo hi : Option Int) : cutS ⟨l.toArray⟩ lo hi = ⟨(cutD l lo hi).toArray⟩ := by
  unfold cutS cutD
  simp [Str.length]
theorem whole_cut {α : Type} {xs : List α} {lo hi : Option Int} (h : HT.sIx xs.length 0 lo = 0 ∧ HT.sIx xs.length xs.length hi = xs.length) : cutD xs lo hi = xs := by
  unfold cutD
  rw [h.1, h.2]
  simp
theorem se_slice {lo hi : Option Expr} {ml mh : MO} {p2 : Pos} (cc : Cc G X W) (he : SE G X W e m) (hl : SO G X W lo ml) (hh : SO G X W hi mh) : SE G X W (.Subscript e (.Slice lo hi none p2) pos) (eSlice m ml mh) := by
  refine se_of (pe_slice ((sl_tupA (X := X)).or ((sl_str (X := X)).or (sl_list (X := X)))) he hl hh) fun σ H Q ρ σs S rl re p => ?_
  refine ⟨ρ, σs, S, rl, re, PostR.bind (R := RV G) p fun ρ1 H1 S1 d x l1 rl1 rv1 p1 => ?_⟩
  refine ⟨ρ1, σs, S1, rl1, re.mono l1, PostR.bind (R := fun _ _ a b => a = b) p1 fun ρ2 H2 S2 a1 a2 l2 rl2 e2 p2 => ?_⟩
  subst e2
  refine ⟨ρ2, σs, S2, rl2, (re.mono l1).mono l2, PostR.bind (R := fun _ _ a b => a = b) p2 fun ρ3 H3 S3 b1 b2 l3 rl3 e3 p3 => ?_⟩
  subst e3
  have rv3 := rv1.mono (l2.trans l3)
  have lists : ∀ {ds : List D}, listAt S3 d = some ds → Post G ρ3 H3 (.ok (.lv (cutD ds a1 b1)) S3) Q (EW W σ) → rSlL X.K x a1 b1 H3 Q := fun {ds} h p => by
    obtain ⟨a, xs, e, hq, hr⟩ := listAt_rel rl3 rv3 h
    exact ⟨a, xs, e, by rw [cc.k]; exact hq, fun q hq' => post_new p rl3 hq' (.lv (rl3.no hq') upd_same ((cut_rel hr a1 b1).mono (Le.new hq')))⟩
  cases rv3 with
  | @tup ds a xs ht hr =>
    refine .inl ⟨a, xs, rfl, SqT.of ht, fun hw => ?_, fun hw q hq => ?_⟩
    · have p3' : Post G ρ3 H3 (.ok (.tup (cutD ds a1 b1)) S3) Q (EW W σ) := p3
      rw [whole_cut (by rw [hr.length]; exact hw)] at p3'
      exact post_ok p3' rl3 (.tup ht hr)
    · exact post_new (S := S3) p3 rl3 hq (.tup upd_same ((cut_rel hr a1 b1).mono (Le.new hq)))
  | str l =>
    refine .inr (.inl ⟨_, rfl, ?_⟩)
    have p3' : Post G ρ3 H3 (if l.length ≤ lim then .ok (.str (cutD l a1 b1)) S3 else .bad) Q (EW W σ) := p3
    by_cases hl : l.length ≤ lim
    · rw [if_pos hl] at p3'
      refine ⟨by rw [str_len]; exact lim_le hl, ?_⟩
      rw [cut_str]
      exact post_ok p3' rl3 (.str _)
    · rw [if_neg hl] at p3'
      exact p3'.elim
  | lv n ht hr => exact .inr (.inr (lists rfl p3))
  | fl ht hr => exact .inr (.inr (lists rfl p3))
  | @ref i a hi =>
    refine .inr (.inr ?_)
    have p3' : Post G ρ3 H3 (match listAt S3 (.ref i) with | some ds => .ok (.lv (cutD ds a1 b1)) S3 | none => .bad) Q (EW W σ) := p3
    cases q : listAt S3 (.ref i) with
    | none => rw [q] at p3'; exact p3'.elim
    | some ds => rw [q] at p3'; exact lists q p3'
  | _ => exact False.elim p3
end
/-! x[::-1] -/
section
variable {prog : Program} {w : World} {A : Around} {E : Value → Shared → Prop} {s : Shared}
theorem sliceApplied_rev {sl : Addr} {vs : Value} {n : Nat} {Q : Int × Int × Nat → Shared → Prop} (hs : s.heap.IsSliceOf sl .none .none vs) (ps : IsPart vs (some (-1))) (h : Q ((n : Int) - 1, -1, n) s) :
    wpAny (model prog w) A (Builtin.Slice.sliceApplied (.ref sl) (pure (n : Int))) Q E s := by
  obtain ⟨os, hos, hcs, hds⟩ := id hs
  unfold Builtin.Slice.sliceApplied Builtin.Slice.sliceFields
  refine wpAny_bind (wpAny_bind (wpAny_field hos hds (x := .none) rfl (wpAny_bind (wpAny_field hos hds (x := .none) rfl (wpAny_bind (wpAny_field hos hds (x := vs) rfl (wpAny_pure ?_)))))))
  refine wpAny_bind (HT.slicePart_ ps ?_)
  show wpAny _ _ (if ((-1 : Int) == 0) = true then _ else _) _ _ s
  rw [if_neg (by decide)]
  refine wpAny_bind (HT.slicePart_ .none (wpAny_bind (HT.slicePart_ .none (wpAny_bind (wpAny_pure ?_)))))
  show wpAny _ _ (pure ((n : Int) - 1, (-1 : Int), Builtin.Slice.slicePlaces ((n : Int) - 1) (-1) (-1))) _ _ s
  have e : Builtin.Slice.slicePlaces ((n : Int) - 1) (-1) (-1) = n := by
    unfold Builtin.Slice.slicePlaces
    have h1 : ¬ ((-1 : Int) > 0) := by omega
    simp only [h1, if_false, Int.neg_neg, Int.ediv_one]
    split <;> omega
  rw [e]
  exact wpAny_pure h
theorem filterMap_cong {α β : Type} {f g : α → Option β} : ∀ {l : List α}, (∀ a ∈ l, f a = g a) → l.filterMap f = l.filterMap g
  | [], _ => rfl
  | a :: l, h => by
    rw [List.filterMap_cons, List.filterMap_cons, h a (by simp), filterMap_cong fun b hb => h b (by simp [hb])]
theorem pick_rev (xs : Array Value) : ((List.range xs.size).filterMap fun (m : Nat) => xs[((xs.size : Int) - 1 + (m : Int) * -1).toNat]?) = xs.toList.reverse := by
  have key : ∀ (l : List Value), ((List.range l.length).filterMap fun (m : Nat) => l[l.length - 1 - m]?) = l.reverse := by
    intro l
    have : ((List.range l.length).filterMap fun (m : Nat) => l[l.length - 1 - m]?) = ((List.range l.length).map fun m => l.reverse[m]?).filterMap id := by
      rw [List.filterMap_map]
      apply filterMap_cong
      intro m hm
      rw [List.mem_range] at hm
      show _ = l.reverse[m]?
      rw [List.getElem?_reverse hm]
    rw [this]
    have h2 : ((List.range l.length).map fun m => l.reverse[m]?) = l.reverse.map some := by
      apply List.ext_getElem?
      intro i
      by_cases hi : i < l.length
      · rw [List.getElem?_map, List.getElem?_range hi, List.getElem?_map]
        simp [List.getElem?_eq_getElem (show i < l.reverse.length by simpa using hi)]
      · rw [List.getElem?_eq_none (by simpa using hi), List.getElem?_eq_none (by simpa using hi)]
    rw [h2, List.filterMap_map]
    simp
  rw [← key xs.toList]
  rw [Array.length_toList]
  apply filterMap_cong
  intro m hm
  rw [List.mem_range] at hm
  have e1 : ((xs.size : Int) - 1 + (m : Int) * -1).toNat = xs.size - 1 - m := by omega
  rw [e1]
  simp
theorem getItem_tuple_rev {t sl : Addr} {items : Array Value} {vs : Value} {Q : Value → Shared → Prop} (ht : IsTup s.heap t items) (hs : s.heap.IsSliceOf sl .none .none vs) (ps : IsPart vs (some (-1)))
    (h : Q (.ref s.heap.objs.size) { s with heap := s.heap.push { cls := .type "tuple", data := .seq items.toList.reverse.toArray } }) (hsz : items.size ≤ sizeLine) : wpAny (model prog w) A (getItem (.ref t) (.ref sl)) Q E s := by
  have htake : sizeOk (.seq items.toList.reverse.toArray) := by
    show items.toList.reverse.toArray.size ≤ sizeLine
    rw [List.size_toArray, List.length_reverse, Array.length_toList]
    exact hsz
  obtain ⟨os, hos, hcs, hds⟩ := id hs
  have hTs : s.TypeIs (.ref sl) "slice" := ⟨os, hos, hcs⟩
  unfold getItem
  try with_reducible refine wpAny_holding ?_
  first | refine wpAny_bind (wpAny_pure ?_) | skip
  refine wpAny_bind (wpAny_sequenceKey ht.typeIs (by decide) ?_)
  refine wpAny_bind (wpAny_callSpecial?_slot (name := Str.ofString "__getitem__") ht.typeIs PyProof.Rows.slot_tuple_getitem
    (wpAny_call_entry PyProof.Rows.slot_tuple_getitem ht.typeIs entry_tuple_getitem ?_ (args_tuple_getitem _ _)))
  show wpAny _ _ (Builtin.Tuple.tupleItemsOf (.ref t) >>= _) _ _ s
  refine wpAny_bind (tupleItemsOf_ ht ?_)
  refine wpAny_bind (wpAny_typeOf hTs ?_)
  rw [if_pos (by decide)]
  refine wpAny_bind (sliceApplied_rev hs ps ?_)
  have hno : ¬ ((((items.size : Int) - 1) == 0 && (-1 : Int) == 1 && items.size == items.size) = true) := by simp
  show wpAny _ _ (if (((items.size : Int) - 1) == 0 && (-1 : Int) == 1 && items.size == items.size) = true then _ else _) _ _ s
  rw [if_neg hno, pick_rev]
  first
    | exact wpAny_bind (m := Builtin.Tuple.tupleExact _) (wpAny_newObj_type (wpAny_pure ⟨_, rfl, wpAny_pure h⟩) htake)
    | exact wpAny_bind (m := Builtin.Tuple.tupleExact _) (wpAny_newObj_type (wpAny_bind (wpAny_pure (wpAny_pure ⟨_, rfl, wpAny_pure h⟩))) htake)
    | exact wpAny_bind (wpAny_bind (m := Builtin.Tuple.tupleExact _) (wpAny_newObj_type (wpAny_pure (wpAny_pure ⟨_, rfl, wpAny_pure h⟩)) htake))
    | exact wpAny_bind (wpAny_bind (m := Builtin.Tuple.tupleExact _) (wpAny_newObj_type (wpAny_pure ⟨_, rfl, wpAny_pure h⟩) htake))
end
def revF (x : D) (S : Store) : Res D := match x with
  | .tup ds => .ok (.tup ds.reverse) S
  | d => (match listAt S d with | some ds => .ok (.lv ds.reverse) S | none => .bad)
section
variable {G : Gx} {X : Cx} {W : WX} {a b e : Expr} {ma mb m : ME} {pos : Pos}
theorem RVs.reverse {ρ : Wd} {H : Hp} {ds : List D} {xs : List V} (r : RVs G ρ H ds xs) : RVs G ρ H ds.reverse xs.reverse := by
  induction ds generalizing xs with
  | nil => cases r; exact .nil
  | cons d ds ih =>
    cases r with
    | cons h t => rw [List.reverse_cons, List.reverse_cons]; exact (ih t).append (.cons h .nil)
theorem se_rev {k : Nat} {q1 q2 q3 : Pos} (cc : Cc G X W) (he : SE G X W e m) : SE G X W (.Subscript e (.Slice none none (some (.UnaryOp .USub (.Constant (.int 1) k q1) q2)) q3) pos) (eUn revF m) := by
  refine ⟨fun pins s σ H Q I ⟨ρ, σs, S, rl, re, p⟩ => ?_⟩
  refine Subscript_ (he.go I rl re p fun v s1 x H1 ρ1 S1 d I1 r1 l1 rl1 re1 rv1 p1 => ?_)
  have hst : PO X (some (.UnaryOp .USub (.Constant (.int 1) k q1) q2)) (tPart (tUn (rU fun i => .int (-i)) (tC (.int 1)))) := po_some (pe_un un_neg pe_int)
  refine wpAny_Slice ?_
  rw [evalPart_none]
  refine wpAny_pure (wpAny_pure ?_)
  refine thn (hst.run pins s1 σ H1 (fun o H4 => o = some (-1) ∧ H4 = H1) I1 ⟨1, rfl, -1, rfl, rfl, rfl⟩) fun vs s4 ⟨o, H4, I4, ps, eo, e4⟩ => ?_
  subst eo e4
  have I5 : Inv X pins σ H4 { s4 with heap := s4.heap.push { cls := .type "slice", data := .fields #[.none, .none, vs] } } := I4.kept (t' := s4.toks) fun b ob q => Heap.get?_push_of_some _ q
  have lists : ∀ {ds : List D}, listAt S1 d = some ds → Post G ρ1 H4 (.ok (.lv ds.reverse) S1) Q (EW W σ) → wpAny (model X.prog X.w) X.A (subscriptTail e (.Slice none none (some (.UnaryOp .USub (.Constant (.int 1) k q1) q2)) q3) v (.ref s4.heap.objs.size)) (EP X pins σ Q) X.xe { s4 with heap := s4.heap.push { cls := .type "slice", data := .fields #[.none, .none, vs] } } := fun {ds} h p => by
    obtain ⟨a, xs, ex, hq, hr⟩ := listAt_rel rl1 rv1 h
    subst ex
    cases r1
    obtain ⟨its, r, ht, hz⟩ := I5.list (a := a) (xs := xs) (by rw [cc.k]; exact hq)
    have hlen := r.length
    refine tail_any (ops := [.ref a, .ref s4.heap.objs.size]) ht.isList.typeIs (PySem.slot_list_getitem.lookup) ?_ (by with_unfolding_all rfl)
    refine wpAny_getItem_list_slice ht.isList (Heap.IsSliceOf.new _ .none .none vs) .none .none ps (by decide) ?_ (by rw [List.size_toArray]; omega)
    rw [PySem.W.krv_pick]
    have hfr := I5.hok.fresh (Nat.le_refl _)
    refine ⟨.ref _, _, I5.laid (t' := s4.toks) (o := .lst xs.reverse) (fun b ob q => Heap.get?_push_of_some _ q) (Nat.le_refl _) ?_, rfl, post_new p rl1 hfr (.lv (rl1.no hfr) upd_same (hr.reverse.mono (Le.new hfr)))⟩
    exact ⟨by rw [List.length_reverse]; exact hz, _, 0, r.reverse, Heap.get?_push_size _ rfl⟩
  show wpAny (model X.prog X.w) X.A (subscriptTail e (.Slice none none (some (.UnaryOp .USub (.Constant (.int 1) k q1) q2)) q3) v (.ref s4.heap.objs.size)) (EP X pins σ Q) X.xe { s4 with heap := s4.heap.push { cls := .type "slice", data := .fields #[.none, .none, vs] } }
  cases rv1 with
  | @tup ds a xs htt hr =>
    cases r1
    obtain ⟨its, r, ht, hz⟩ := I5.tuple (a := a) (xs := xs) (SqT.of htt)
    have hlen := r.length
    refine tail_any (ops := [.ref a, .ref s4.heap.objs.size]) ht.typeIs (PyProof.Rows.slot_tuple_getitem.lookup) ?_ (by with_unfolding_all rfl)
    refine getItem_tuple_rev ht (Heap.IsSliceOf.new _ .none .none vs) ps ?_ (by rw [List.size_toArray]; omega)
    have hfr := I5.hok.fresh (Nat.le_refl _)
    refine ⟨.ref _, _, I5.laid (t' := s4.toks) (o := .tup xs.reverse) (fun b ob q => Heap.get?_push_of_some _ q) (Nat.le_refl _) ?_, rfl, post_new (S := S1) p1 rl1 hfr (.tup upd_same (hr.reverse.mono (Le.new hfr)))⟩
    exact ⟨by rw [List.length_reverse]; exact hz, its.reverse, r.reverse, ⟨_, Heap.get?_push_size _ rfl, rfl, _, rfl⟩⟩
  | lv n ht hr => exact lists rfl p1
  | fl ht hr => exact lists rfl p1
  | @ref i a hi =>
    have p1' : Post G ρ1 H4 (match listAt S1 (.ref i) with | some ds => .ok (.lv ds.reverse) S1 | none => .bad) Q (EW W σ) := p1
    cases q : listAt S1 (.ref i) with
    | none => rw [q] at p1'; exact p1'.elim
    | some ds => rw [q] at p1'; exact lists q p1'
  | _ => exact False.elim p1
end
end L2.Mi

set_option Elab.async false
set_option linter.all false
set_option maxRecDepth 100000
set_option maxHeartbeats 4000000
/-! Mini, 5: built-in functions, what loops walk. -/
namespace L2.Mi
open PySem PySem.Spec PyProof.Rows

def asInts : List D → Option (List Int)
  | [] => some []
  | .int i :: ds => (asInts ds).map (i :: ·)
  | _ :: _ => none
def asBools : List D → Option (List Bool)
  | [] => some []
  | .bl b :: ds => (asBools ds).map (b :: ·)
  | _ :: _ => none
/-- the pairs of a dict as it stands -/
def dictAt (S : Store) : D → Option (Bool × List (D × D))
  | .dv t kvs => some (t, kvs)
  | .ref a => (match S.get a with | some (.dic t kvs) => some (t, kvs) | some (.lck (.dic t kvs)) => some (t, kvs) | _ => none)
  | _ => none
section
variable {G : Gx} {ρ : Wd} {H : Hp} {S : Store}
theorem asInts_rel : ∀ {ds : List D} {xs : List V} {ns : List Int}, RVs G ρ H ds xs → asInts ds = some ns → xs = ns.map V.int
  | _, _, _, .nil, h => by cases h; rfl
  | d :: ds, x :: xs, ns, .cons r t, h => by
    cases r with
    | int i =>
      unfold asInts at h
      cases q : asInts ds with
      | none => rw [q] at h; cases h
      | some ms => rw [q] at h; cases h; rw [asInts_rel t q]; rfl
    | _ => cases h
theorem asBools_rel : ∀ {ds : List D} {xs : List V} {ns : List Bool}, RVs G ρ H ds xs → asBools ds = some ns → xs = ns.map V.bl
  | _, _, _, .nil, h => by cases h; rfl
  | d :: ds, x :: xs, ns, .cons r t, h => by
    cases r with
    | bl i =>
      unfold asBools at h
      cases q : asBools ds with
      | none => rw [q] at h; cases h
      | some ms => rw [q] at h; cases h; rw [asBools_rel t q]; rfl
    | _ => cases h
end
def lenF (ds : List D) (S : Store) : Res D := match ds with
  | [.str l] => if l.length ≤ lim then .ok (.int l.length) S else .bad
  | [.tup xs] => .ok (.int xs.length) S
  | [.kt xs] => .ok (.int xs.length) S
  | [d] => (match listAt S d with | some xs => .ok (.int xs.length) S | none => .bad)
  | _ => .bad
def absF (ds : List D) (S : Store) : Res D := match ds with
  | [.int i] => .ok (.int (if i < 0 then -i else i)) S
  | _ => .bad
def max2F (ds : List D) (S : Store) : Res D := match ds with
  | [.int i, .int j] => .ok (.int (if j > i then j else i)) S
  | _ => .bad
def min2F (ds : List D) (S : Store) : Res D := match ds with
  | [.int i, .int j] => .ok (.int (if j < i then j else i)) S
  | _ => .bad
def intF (ds : List D) (S : Store) : Res D := match ds with
  | [.int i] => .ok (.int i) S
  | [.bl k] => .ok (.int (if k then 1 else 0)) S
  | _ => .bad
/-- a list of the items of a list or a tuple: one that is changed later, one that is not -/
def seqAt (S : Store) (d : D) : Option (List D) := match tupD d with | some ds => some ds | none => listAt S d
def listF (ds : List D) (S : Store) : Res D := match ds with
  | [d] => (match seqAt S d with | some xs => .ok (.ref S.size) (S.push (.lst xs)) | none => .bad)
  | _ => .bad
def listvF (ds : List D) (S : Store) : Res D := match ds with
  | [d] => (match seqAt S d with | some xs => .ok (.lv xs) S | none => .bad)
  | _ => .bad
def tupleF (ds : List D) (S : Store) : Res D := match ds with
  | [.tup xs] => .ok (.tup xs) S
  | [d] => (match listAt S d with | some xs => .ok (.tup xs) S | none => .bad)
  | _ => .bad
def sumF (ds : List D) (S : Store) : Res D := match ds with
  | [d] => (match (listAt S d).bind asInts with | some ns => .ok (.int ns.sum) S | none => .bad)
  | _ => .bad
def allF (ds : List D) (S : Store) : Res D := match ds with
  | [d] => (match (listAt S d).bind asBools with | some bs => .ok (.bl (bs.all id)) S | none => .bad)
  | _ => .bad
def anyF (ds : List D) (S : Store) : Res D := match ds with
  | [d] => (match (listAt S d).bind asBools with | some bs => .ok (.bl (bs.any id)) S | none => .bad)
  | _ => .bad
section
variable {G : Gx} {X : Cx} {W : WX}
theorem rvs1 {ρ : Wd} {H : Hp} {d : D} {xs : List V} (r : RVs G ρ H [d] xs) : ∃ x, xs = [x] ∧ RV G ρ H d x := by
  cases r with
  | cons h t => cases t; exact ⟨_, rfl, h⟩
theorem rvs2 {ρ : Wd} {H : Hp} {d e : D} {xs : List V} (r : RVs G ρ H [d, e] xs) : ∃ x y, xs = [x, y] ∧ RV G ρ H d x ∧ RV G ρ H e y := by
  cases r with
  | cons h t =>
    cases t with
    | cons h' t' => cases t'; exact ⟨_, _, rfl, h, h'⟩
theorem fns_len (cc : Cc G X W) : FnS G X W (.builtin "len") lenF := FnS.of call_len fun ρ S H ds xs Q E rl r p => by
  have seq : ∀ {d : D} {x : V} {ys : List D}, RV G ρ H d x → listAt S d = some ys → Post G ρ H (.ok (.int ys.length) S) Q E → ∃ x' n, [x] = [x'] ∧ LenV X.K x' H n ∧ Q (.int n) H := fun {d x ys} h q p => by
    obtain ⟨a, zs, rfl, hq, hr⟩ := listAt_rel rl h q
    refine ⟨_, zs.length, rfl, .inl ⟨zs, by rw [cc.k]; exact hq, rfl⟩, ?_⟩
    rw [← hr.length]
    exact post_ok p rl (.int _)
  match ds, r, p with
  | [], _, p => exact p.elim
  | _ :: _ :: _, _, p => exact (show False by unfold lenF at p; split at p <;> first | exact p | simp_all).elim
  | [d], r, p =>
    obtain ⟨x, rfl, h⟩ := rvs1 r
    cases h with
    | str l =>
      have p' : Post G ρ H (if l.length ≤ lim then .ok (.int l.length) S else .bad) Q E := p
      by_cases hl : l.length ≤ lim
      · rw [if_pos hl] at p'
        refine ⟨_, l.length, rfl, ⟨by rw [str_len]; exact lim_le hl, by rw [str_len]⟩, post_ok p' rl (.int _)⟩
      · rw [if_neg hl] at p'
        exact p'.elim
    | @tup ds a zs ht hr =>
      refine ⟨_, zs.length, rfl, .inr ⟨zs, SqT.of ht, rfl⟩, ?_⟩
      rw [← hr.length]
      exact post_ok (S := S) p rl (.int _)
    | @kt ds a zs ht hr =>
      refine ⟨_, zs.length, rfl, .inr ⟨zs, by rw [cc.k]; exact sqT_written ht, rfl⟩, ?_⟩
      rw [← hr.length]
      exact post_ok (S := S) p rl (.int _)
    | lv n ht hr => exact seq (.lv n ht hr) rfl p
    | fl ht hr => exact seq (.fl ht hr) rfl p
    | @ref i a hi =>
      have p' : Post G ρ H (match listAt S (.ref i) with | some ys => .ok (.int ys.length) S | none => .bad) Q E := p
      cases q : listAt S (.ref i) with
      | none => rw [q] at p'; exact p'.elim
      | some ys => rw [q] at p'; exact seq (.ref hi) q p'
    | _ => exact False.elim p
theorem fns_abs : FnS G X W (.builtin "abs") absF := FnS.of call_abs fun ρ S H ds xs Q E rl r p => by
  unfold absF at p
  split at p
  · obtain ⟨x, rfl, h⟩ := rvs1 r
    cases h
    exact ⟨_, rfl, post_ok p rl (.int _)⟩
  · exact p.elim
theorem fns_max2 (cc : Cc G X W) : FnS G X W (.builtin "max") max2F := FnS.of (call_max2 cc.calm) fun ρ S H ds xs Q E rl r p => by
  unfold max2F at p
  split at p
  · obtain ⟨x, y, rfl, h, h'⟩ := rvs2 r
    cases h
    cases h'
    exact ⟨_, _, rfl, post_ok p rl (.int _)⟩
  · exact p.elim
theorem fns_min2 (cc : Cc G X W) : FnS G X W (.builtin "min") min2F := FnS.of (call_min2 cc.calm) fun ρ S H ds xs Q E rl r p => by
  unfold min2F at p
  split at p
  · obtain ⟨x, y, rfl, h, h'⟩ := rvs2 r
    cases h
    cases h'
    exact ⟨_, _, rfl, post_ok p rl (.int _)⟩
  · exact p.elim
theorem fns_int : FnS G X W (.type "int") intF := FnS.of call_int1 fun ρ S H ds xs Q E rl r p => by
  unfold intF at p
  split at p
  · obtain ⟨x, rfl, h⟩ := rvs1 r
    cases h
    exact .inl ⟨_, rfl, post_ok p rl (.int _)⟩
  · obtain ⟨x, rfl, h⟩ := rvs1 r
    cases h
    exact .inr ⟨_, rfl, post_ok p rl (.int _)⟩
  · exact p.elim
theorem seqAt_rel {ρ : Wd} {S : Store} {H : Hp} {d : D} {x : V} {ds : List D} (rl : Rl G ρ S H) (rv : RV G ρ H d x) (h : seqAt S d = some ds) : ∃ a xs, x = .ref a ∧ (SqL G.K H a xs ∨ SqT G.K H a xs) ∧ RVs G ρ H ds xs := by
  unfold seqAt at h
  cases q : tupD d with
  | some es =>
    rw [q] at h
    cases h
    obtain ⟨a, xs, e, ht, hr⟩ := tupD_rel rv q
    exact ⟨a, xs, e, .inr ht, hr⟩
  | none =>
    rw [q] at h
    obtain ⟨a, xs, e, ht, hr⟩ := listAt_rel rl rv h
    exact ⟨a, xs, e, .inl ht, hr⟩
theorem fns_list (cc : Cc G X W) : FnS G X W (.type "list") listF := FnS.of call_list_of fun ρ S H ds xs Q E rl r p => by
  unfold listF at p
  split at p
  · rename_i d
    obtain ⟨x, rfl, h⟩ := rvs1 r
    cases q : seqAt S d with
    | none => rw [q] at p; exact p.elim
    | some es =>
      rw [q] at p
      obtain ⟨a, zs, rfl, hq, hr⟩ := seqAt_rel rl h q
      refine ⟨a, zs, rfl, by rw [cc.k]; exact hq, fun l hl => ?_⟩
      exact p (ρ.push l) _ _ (Le.push hl) (rl.push hl (.lst hr)) (RV.new rl)
  · exact p.elim
theorem fns_listv (cc : Cc G X W) : FnS G X W (.type "list") listvF := FnS.of call_list_of fun ρ S H ds xs Q E rl r p => by
  unfold listvF at p
  split at p
  · rename_i d
    obtain ⟨x, rfl, h⟩ := rvs1 r
    cases q : seqAt S d with
    | none => rw [q] at p; exact p.elim
    | some es =>
      rw [q] at p
      obtain ⟨a, zs, rfl, hq, hr⟩ := seqAt_rel rl h q
      refine ⟨a, zs, rfl, by rw [cc.k]; exact hq, fun l hl => ?_⟩
      exact post_new p rl hl (.lv (rl.no hl) upd_same (hr.mono (Le.new hl)))
  · exact p.elim
theorem fns_tuple (cc : Cc G X W) : FnS G X W (.type "tuple") tupleF := FnS.of call_tuple_of fun ρ S H ds xs Q E rl r p => by
  unfold tupleF at p
  split at p
  · obtain ⟨x, rfl, h⟩ := rvs1 r
    cases h with
    | tup ht hr => exact ⟨_, _, rfl, .inr ⟨SqT.of ht, post_ok p rl (.tup ht hr)⟩⟩
  · rename_i d _
    obtain ⟨x, rfl, h⟩ := rvs1 r
    cases q : listAt S d with
    | none => rw [q] at p; exact p.elim
    | some es =>
      rw [q] at p
      obtain ⟨a, zs, rfl, hq, hr⟩ := listAt_rel rl h q
      exact ⟨a, zs, rfl, .inl ⟨by rw [cc.k]; exact hq, fun l hl => post_new p rl hl (.tup upd_same (hr.mono (Le.new hl)))⟩⟩
  · exact p.elim
theorem fns_sum (cc : Cc G X W) : FnS G X W (.builtin "sum") sumF := FnS.of (cr_sum cc.calm) fun ρ S H ds xs Q E rl r p => by
  unfold sumF at p
  split at p
  · rename_i d
    obtain ⟨x, rfl, h⟩ := rvs1 r
    cases q : listAt S d with
    | none => rw [q] at p; exact p.elim
    | some es =>
      cases q2 : asInts es with
      | none => rw [q, Option.bind_some, q2] at p; exact p.elim
      | some ns =>
        rw [q, Option.bind_some, q2] at p
        obtain ⟨a, zs, rfl, hq, hr⟩ := listAt_rel rl h q
        exact ⟨a, ns, rfl, by rw [cc.k, ← asInts_rel hr q2]; exact hq, post_ok p rl (.int _)⟩
  · exact p.elim
theorem fns_all (cc : Cc G X W) : FnS G X W (.builtin "all") allF := FnS.of (cr_all cc.calm) fun ρ S H ds xs Q E rl r p => by
  unfold allF at p
  split at p
  · rename_i d
    obtain ⟨x, rfl, h⟩ := rvs1 r
    cases q : listAt S d with
    | none => rw [q] at p; exact p.elim
    | some es =>
      cases q2 : asBools es with
      | none => rw [q, Option.bind_some, q2] at p; exact p.elim
      | some ns =>
        rw [q, Option.bind_some, q2] at p
        obtain ⟨a, zs, rfl, hq, hr⟩ := listAt_rel rl h q
        exact ⟨a, ns, rfl, by rw [cc.k, ← asBools_rel hr q2]; exact hq, post_ok p rl (.bl _)⟩
  · exact p.elim
theorem fns_any (cc : Cc G X W) : FnS G X W (.builtin "any") anyF := FnS.of (cr_any cc.calm) fun ρ S H ds xs Q E rl r p => by
  unfold anyF at p
  split at p
  · rename_i d
    obtain ⟨x, rfl, h⟩ := rvs1 r
    cases q : listAt S d with
    | none => rw [q] at p; exact p.elim
    | some es =>
      cases q2 : asBools es with
      | none => rw [q, Option.bind_some, q2] at p; exact p.elim
      | some ns =>
        rw [q, Option.bind_some, q2] at p
        obtain ⟨a, zs, rfl, hq, hr⟩ := listAt_rel rl h q
        exact ⟨a, ns, rfl, by rw [cc.k, ← asBools_rel hr q2]; exact hq, post_ok p rl (.bl _)⟩
  · exact p.elim

/-! ### what loops walk -/
variable {e tg : Expr} {m : ME} {pos p : Pos}
theorem si_of {wi : TI} {mi : MI} {iter : Expr} (h : PI X tg iter wi) (i : ∀ σ H R ρ σs S, Rl G ρ S H → RE G ρ H σs σ → PostI G ρ H (mi σs S) R (EW W σ) → wi σ H R) : SI G X W tg iter mi :=
  PI.weak h fun σ H R ⟨ρ, σs, S, rl, re, p⟩ => i σ H R ρ σs S rl re p
theorem jr_list {ρ0 : Wd} {H0 : Hp} {d : D} {a : Addr} (rv : RV G ρ0 H0 d (.ref a)) : JR G ρ0 H0 (fun k S' => (listAt S' d).map fun ds => ds[k]?) (Itl G.K a) := by
  intro ρ S H l rl i
  refine ⟨fun e h => ?_, fun h => ?_⟩
  · cases q : listAt S d with
    | none => simp only [q] at h; cases h
    | some ds =>
      simp only [q, Option.map_some, Option.some.injEq] at h
      obtain ⟨b, xs, e1, hq, hr⟩ := listAt_rel rl (rv.move l) q
      cases e1
      obtain ⟨x, h1, h2⟩ := hr.get h
      refine ⟨⟨xs, x, hq, h1⟩, fun y H' hy => ?_⟩
      obtain ⟨e2, hy⟩ := hy
      subst e2
      have := hy xs hq
      rw [h1] at this
      cases this
      exact ⟨Le.refl, rl, h2⟩
  · cases q : listAt S d with
    | none => simp only [q] at h; cases h
    | some ds =>
      simp only [q, Option.map_some, Option.some.injEq] at h
      obtain ⟨b, xs, e1, hq, hr⟩ := listAt_rel rl (rv.move l) q
      cases e1
      exact ⟨xs, hq, by rw [← hr.length]; exact List.getElem?_eq_none_iff.mp h⟩
theorem si_list (cc : Cc G X W) (h : SE G X W e m) : SI G X W tg e (iList m) := by
  refine si_of (pi_list h) fun σ H R ρ σs S rl re p => ?_
  refine ⟨ρ, σs, S, rl, re, PostR.bind (R := RV G) p fun ρ1 H1 S1 d x l1 rl1 rv1 p1 => ?_⟩
  cases q : listAt S1 d with
  | none => simp only [q] at p1; exact p1.elim
  | some ds =>
    simp only [q] at p1
    obtain ⟨a, xs, rfl, hq, hr⟩ := listAt_rel rl1 rv1 q
    refine ⟨a, rfl, ⟨xs, by rw [cc.k]; exact hq⟩, p1 ρ1 H1 _ Le.refl rl1 ?_⟩
    rw [cc.k]
    exact jr_list rv1
theorem jr_tup {ρ0 : Wd} {H0 : Hp} {ds : List D} {d : D} {a : Addr} (rv : RV G ρ0 H0 d (.ref a)) (hd : tupD d = some ds) : JR G ρ0 H0 (fun k _ => some ds[k]?) (Itt G.K a) := by
  intro ρ S H l rl i
  obtain ⟨b, xs, e1, hq, hr⟩ := tupD_rel (rv.move l) hd
  cases e1
  refine ⟨fun e h => ?_, fun h => ?_⟩
  · obtain ⟨x, h1, h2⟩ := hr.get (Option.some.inj h)
    refine ⟨⟨xs, x, hq, h1⟩, fun y H' hy => ?_⟩
    obtain ⟨e2, hy⟩ := hy
    subst e2
    have := hy xs hq
    rw [h1] at this
    cases this
    exact ⟨Le.refl, rl, h2⟩
  · exact ⟨xs, hq, by rw [← hr.length]; exact List.getElem?_eq_none_iff.mp (Option.some.inj h)⟩
theorem si_tup (cc : Cc G X W) (h : SE G X W e m) : SI G X W tg e (iTup m) := by
  refine si_of (pi_tup h) fun σ H R ρ σs S rl re p => ?_
  refine ⟨ρ, σs, S, rl, re, PostR.bind (R := RV G) p fun ρ1 H1 S1 d x l1 rl1 rv1 p1 => ?_⟩
  have go : ∀ {ds : List D}, tupD d = some ds → PostI G ρ1 H1 (.ok (fun k _ => some ds[k]?) S1) R (EW W σ) → ∃ a, x = .ref a ∧ (∃ xs, SqT X.K H1 a xs) ∧ R (Itt X.K a) H1 := fun {ds} hd p => by
    obtain ⟨a, xs, rfl, hq, hr⟩ := tupD_rel rv1 hd
    refine ⟨a, rfl, ⟨xs, by rw [cc.k]; exact hq⟩, p ρ1 H1 _ Le.refl rl1 ?_⟩
    rw [cc.k]
    exact jr_tup rv1 hd
  cases d with
  | tup ds => exact go rfl p1
  | kt ds => exact go rfl p1
  | _ => exact False.elim p1
theorem jr_range {ρ0 : Wd} {H0 : Hp} {lo : Int} {n : Nat} : JR G ρ0 H0 (fun k _ => some (if k < n then some (.int (lo + (k : Int))) else none)) (Itr lo n) := by
  intro ρ S H l rl i
  by_cases hi : i < n
  · refine ⟨fun e h => ?_, fun h => ?_⟩
    · simp only [hi, if_true, Option.some.injEq] at h
      subst h
      refine ⟨hi, fun y H' hy => ?_⟩
      obtain ⟨e2, hy⟩ := hy
      subst e2 hy
      exact ⟨Le.refl, rl, .int _⟩
    · simp only [hi, if_true] at h
      cases h
  · refine ⟨fun e h => ?_, fun h => ?_⟩
    · simp only [hi, if_false] at h
      cases h
    · exact Nat.le_of_not_lt hi
theorem i62_ok {j : Int} (h : i62 j = true) : -(2 ^ 62) ≤ j ∧ j < 2 ^ 62 := by
  unfold i62 at h
  simpa using h
theorem si_range1 (h : SA G X W [e] (aList [m])) (hg : Gl X "range") (hm : X.mg "range" = none) (hs : starEach [e] X.env = [(false, eval e X.env)] := by rfl) : SI G X W tg (.Call (.Name "range" p) [e] [] pos) (iRange1 m) := by
  refine si_of (pi_range1 hg hm h hs) fun σ H R ρ σs S rl re p => ?_
  refine ⟨ρ, σs, S, rl, re, ?_⟩
  show PostA G ρ H ((m σs S).bind fun x S1 => (Res.ok [] S1).bind fun xs S2 => .ok (x :: xs) S2) _ _
  have p' : PostI G ρ H ((m σs S).bind fun d S1 => match d with
    | .int j => if i62 j then .ok (fun k _ => some (if k < j.toNat then some (.int (0 + (k : Int))) else none)) S1 else .bad
    | _ => .bad) R (EW W σ) := p
  cases q : m σs S with
  | ok d S1 =>
    rw [q] at p'
    intro ρ1 H1 vs l1 rl1 rv1
    obtain ⟨x, rfl, h1⟩ := rvs1 rv1
    cases h1 with
    | int j =>
      have p2 : PostI G ρ H (if i62 j then .ok (fun k _ => some (if k < j.toNat then some (.int (0 + (k : Int))) else none)) S1 else .bad) R (EW W σ) := p'
      by_cases hj : i62 j = true
      · rw [if_pos hj] at p2
        exact ⟨j, rfl, (i62_ok hj).1, (i62_ok hj).2, p2 ρ1 H1 _ l1 rl1 jr_range⟩
      · rw [if_neg hj] at p2
        exact p2.elim
    | _ => exact False.elim p'
  | exc x S1 => rw [q] at p'; exact p'
  | bad => rw [q] at p'; exact p'
theorem si_range2 {a b : Expr} {ma mb : ME} (ha : SA G X W [a, b] (aList [ma, mb])) (hg : Gl X "range") (hm : X.mg "range" = none) (hs : starEach [a, b] X.env = [(false, eval a X.env), (false, eval b X.env)] := by rfl) (hs2 : starEach [b] X.env = [(false, eval b X.env)] := by rfl) : SI G X W tg (.Call (.Name "range" p) [a, b] [] pos) (iRange2 ma mb) := by
  refine si_of (pi_range2 hg hm ha hs hs2) fun σ H R ρ σs S rl re p => ?_
  refine ⟨ρ, σs, S, rl, re, PostR.bind (R := RVs G) p fun ρ1 H1 S1 ds vs l1 rl1 rv1 p1 => ?_⟩
  split at p1
  · rename_i i j
    obtain ⟨x, y, rfl, h1, h2⟩ := rvs2 rv1
    cases h1 with
    | int i =>
      cases h2 with
      | int j =>
        by_cases hj : (i62 i && i62 j) = true
        · rw [if_pos hj] at p1
          rw [Bool.and_eq_true] at hj
          exact ⟨i, j, rfl, ⟨(i62_ok hj.1).1, (i62_ok hj.1).2, (i62_ok hj.2).1, (i62_ok hj.2).2⟩, p1 ρ1 H1 _ Le.refl rl1 jr_range⟩
        · rw [if_neg hj] at p1
          exact p1.elim
  · exact p1.elim
end
end L2.Mi

set_option Elab.async false
set_option linter.all false
set_option maxRecDepth 100000
set_option maxHeartbeats 4000000
/-! Mini, 6: defs, classes, methods, attributes. -/
namespace L2.Mi
open PySem PySem.Spec PyProof.Rows

abbrev FN := List D → Store → Res D
def spF (G : Gx) (m : FN) (n : Nat) : Sp := fun vs H Q E => ∃ ρ S ds, vs.length = n ∧ Rl G ρ S H ∧ RVs G ρ H ds vs ∧ Post G ρ H (m ds S) Q E
/-- a def's run by its body's: n slots -/
def bodyRun (n : Nat) (ms : MS) : FN := fun ds S => match ms (ds.map some ++ List.replicate (n - ds.length) none) S with
  | .rt d S1 => .ok d S1
  | .nx _ S1 => .ok .non S1
  | .exc x _ S1 => .exc x S1
  | _ => .bad
abbrev WF (E : XK) : WX := fun c d _ H' => E c d H'
section
variable {G : Gx} {P : Program} {w : World} {mg : Str → Option Value} {base : Heap} {N ps : List Str} {x qual : Str} {params : Arguments} {body : List Stmt} {scope : Scope} {dvs : List V} {kws : List (Str × V)} {f : Addr} {fd : FuncData} {k : Nat} {ms : MS}
theorem re_start {ρ : Wd} {H : Hp} : ∀ {ds : List D} {vs : List V}, RVs G ρ H ds vs → RE G ρ H (ds.map some ++ List.replicate (N.length - ds.length) none) (start N vs) := by
  intro ds vs r
  have hl := r.length
  refine ⟨by unfold start; simp [hl], fun i d h => ?_⟩
  by_cases hi : i < ds.length
  · rw [List.getElem?_append_left (by simpa using hi), List.getElem?_map] at h
    cases q : ds[i]? with
    | none => rw [q] at h; cases h
    | some e =>
      rw [q] at h
      cases h
      obtain ⟨v, h1, h2⟩ := r.get q
      refine ⟨v, ?_, h2⟩
      unfold start
      rw [List.getElem?_append_left (by simpa [← hl] using hi), List.getElem?_map, h1]
      rfl
  · rw [List.getElem?_append_right (by simpa using hi)] at h
    obtain ⟨_, e⟩ := List.getElem?_eq_some_iff.mp h
    simp at e
theorem fnd_ok (F : FunD G.K x qual params body scope dvs kws f fd) (S : FnScope N ps scope)
    (hb : ∀ (cdv : Value) (A : Around) (outer : List Env) (s : Shared) (H : Hp) (E : XK), Room k (A.deeper (envOfC qual scope s.heap.objs.size f cdv)) →
      Cc G (cxOf (L2.CX P w) P w G.K mg base N qual scope f cdv A outer s H E) (WF E) → SSs G (cxOf (L2.CX P w) P w G.K mg base N qual scope f cdv A outer s H E) (WF E) body ms) :
    FnOk P w G.K mg base (L2.CX P w) (k + 1) f fd ps (spF G (bodyRun N.length ms) ps.length) := by
  refine F.ok S (fun vs H Q E h => ?_) (fun cdv A outer s H vs Q E hr h => ?_)
  · obtain ⟨_, _, _, h, _⟩ := h
    exact h
  · obtain ⟨ρ, St, ds, hn, rl, rv, p⟩ := h
    have cc : Cc G (cxOf (L2.CX P w) P w G.K mg base N qual scope f cdv A outer s H E) (WF E) := ⟨rfl, takes_of rfl rfl rfl rfl, passes_of rfl, rfl, S.nd⟩
    refine ⟨_, hb cdv A outer s H E hr cc, ρ, _, St, rl, re_start rv, ?_⟩
    unfold bodyRun at p
    cases q : ms (ds.map some ++ List.replicate (N.length - ds.length) none) St with
    | rt d S1 => rw [q] at p; exact p
    | nx σ1 S1 => rw [q] at p; exact fun ρ1 H1 σ' l1 rl1 re1 => p ρ1 H1 .non l1 rl1 .non
    | exc x σ1 S1 => rw [q] at p; exact fun ρ1 H1 σ' c dd l1 rl1 re1 rx => p ρ1 H1 c dd l1 rl1 rx
    | bk σ1 S1 => rw [q] at p; exact p.elim
    | ct σ1 S1 => rw [q] at p; exact p.elim
    | bad => rw [q] at p; exact p.elim
end
/-- a call with the defaults dd filled up: n parameters -/
def callW (n : Nat) (dd : List D) (m : FN) : FN := fun xs S => if xs.length + dd.length = n then m (xs ++ dd) S else .bad
/-- an object of the class c is made by its __init__ -/
def makeW (c : Nat) (m : FN) : FN := fun xs S => (m (.ref S.size :: xs) (S.push (.ins c []))).bind fun r S1 => match r with | .non => .ok (.ref S.size) S1 | _ => .bad
/-- what a callable promises: any arguments, by its run -/
def spG (G : Gx) (m : FN) : Sp := fun vs H Q E => ∃ ρ S ds, Rl G ρ S H ∧ RVs G ρ H ds vs ∧ Post G ρ H (m ds S) Q E
abbrev Cal (G : Gx) (P : Program) (w : World) (mg : Str → Option Value) (base : Heap) (k : Nat) (f : Addr) (m : FN) : Prop := FnR P w G.K mg base (L2.CX P w) k f (spG G m)
theorem cal_def {G : Gx} {P : Program} {w : World} {mg : Str → Option Value} {base : Heap} {k : Nat} {f : Addr} {fd : FuncData} {ps : List Str} {m : FN} {n : Nat} {dvs : List V} {ds : List Value} {dd : List D}
    (F : FnOk P w G.K mg base (L2.CX P w) k f fd ps (spF G m n)) (hn : n = ps.length) (hb : Binds G.K fd ps ds) (hd : Vals dvs ds) (hdd : ∀ ρ H, RVs G ρ H dd dvs) : Cal G P w mg base k f (callW n dd m) := by
  intro A outer s H us vs Q E hr e0 r h
  obtain ⟨ρ, S, es, rl, rv, p⟩ := h
  unfold callW at p
  by_cases hl : es.length + dd.length = n
  · rw [if_pos hl] at p
    have hlen : vs.length + dvs.length = n := by rw [← rv.length, ← (hdd ρ H).length]; exact hl
    have KX : G.K.In s.heap := e0.mod.kin.keeps fun b o e => (e0.bs b o e).1
    refine F.run A outer s H ⟨us, []⟩ (us ++ ds) (vs ++ dvs) Q E hr e0 (hb s us KX ?_) (r.append hd) ⟨ρ, S, es ++ dd, ?_, rl, rv.append (hdd ρ H), p⟩
    · rw [List.length_append, ← r.length, ← hd.length, ← hn]; exact hlen
    · rw [List.length_append]; exact hlen
  · rw [if_neg hl] at p
    exact p.elim
section
variable {G : Gx} {X : Cx} {W : WX} {k : Nat} {f C : Addr} {m : FN} {n : Nat} {dd : List D}
theorem run_fnRS {pins : List (Addr × Obj)} {σ : St} {H : Hp} {s : Shared} {Q : VK} {us : List Value} {vs : List V} {CX : CXT} {sp : Sp} {E : XK} (F : FnR X.prog X.w X.K X.mg X.base CX k f sp) (hr : Room k X.A) (hx : PassesAt CX X σ E)
    (I : Inv X pins σ H s) (r : Vals vs us) (h : sp vs H Q E) : wpAny (model X.prog X.w) X.A (call (.ref f) us) (EP X pins σ Q) X.xe s := by
  refine wpAny_call (codeAny_mono (F X.A X.stack s H us vs Q E hr I.env0 r h) fun r s' hq => ?_)
  cases r with
  | error e => exact hx pins H s e s' I hq
  | ok fl =>
    cases fl with
    | ret u => exact I.after hq
    | next => exact False.elim hq
    | brk => exact False.elim hq
    | cont => exact False.elim hq
theorem fns_cal (cc : Cc G X W) (F : Cal G X.prog X.w X.mg X.base k f m) (hr : Room k X.A) : FnS G X W (.ref f) m := by
  intro pins s σ H xs us Q ρ S es I r rl rv p
  have F' : FnR X.prog X.w X.K X.mg X.base (L2.CX X.prog X.w) k f (spG G m) := by rw [cc.k]; exact F
  exact run_fnRS (E := EW W σ) F' hr (passAt cc.tk σ) I r ⟨ρ, S, es, rl, rv, p⟩
theorem run_makeS {pins : List (Addr × Obj)} {σ : St} {H : Hp} {s : Shared} {Q : VK} {us : List Value} {vs : List V} {CX : CXT} {sp : Sp} {E : XK} (M : Mk X.K C f) (F : FnR X.prog X.w X.K X.mg X.base CX k f sp) (hr : Room (k + 1) X.A)
    (hx : PassesAt CX X σ E) (I : Inv X pins σ H s) (r : Vals vs us)
    (h : ∀ x dx, H x = none → H dx = none → dx ≠ x → sp (.ref x :: vs) (upd (upd H dx (.own x)) x (.ins C dx [])) (fun v H2 => v = .non ∧ Q (.ref x) H2) E) :
    wpAny (model X.prog X.w) X.A (call (.ref C) us) (EP X pins σ Q) X.xe s := by
  have hq := h (s.heap.objs.size + 1) s.heap.objs.size (I.hok.fresh (Nat.le_succ _)) (I.hok.fresh (Nat.le_refl _)) (Nat.ne_of_lt (Nat.lt_succ_self _))
  have I2 := Inv.made (C := C) I
  have r2 : Vals (V.ref (s.heap.objs.size + 1) :: vs) (Value.ref (s.heap.objs.size + 1) :: us) := .cons rfl r
  refine wpAny_call (make_map (f := f) I.kIn M.makes M.init (beq_iff_eq.mp M.fn) (codeAny_mono (F _ X.stack _ _ (Value.ref (s.heap.objs.size + 1) :: us) _ _ E (hr.make C us [])
    (I2.env0.make C us []) r2 hq) fun r s' hq' => ?_))
  cases r with
  | error e => exact hx pins _ _ e s' I2 hq'
  | ok fl =>
    cases fl with
    | ret u =>
      obtain ⟨v, H', I3, rv, ev, q3⟩ := I2.after hq'
      subst ev
      exact ⟨rv, ⟨V.ref (s.heap.objs.size + 1), H', I3, rfl, q3⟩⟩
    | next => exact False.elim hq'
    | brk => exact False.elim hq'
    | cont => exact False.elim hq'
theorem fns_make {c : Nat} (cc : Cc G X W) (hC : G.cls c = some C) (M : Mk X.K C f) (F : Cal G X.prog X.w X.mg X.base k f m) (hr : Room (k + 1) X.A) : FnS G X W (.ref C) (makeW c m) := by
  intro pins s σ H xs us Q ρ S es I r rl rv p
  unfold makeW at p
  have F' : FnR X.prog X.w X.K X.mg X.base (L2.CX X.prog X.w) k f (spG G m) := by rw [cc.k]; exact F
  refine run_makeS (E := EW W σ) M F' hr (passAt cc.tk σ) I r fun a dx ha hdx hne => ?_
  have ha1 : L2.upd H dx (.own a) a = none := by rw [upd_ne (Ne.symm hne)]; exact ha
  have l1 : Le G ρ H ρ (L2.upd H dx (.own a)) := Le.new hdx
  have rl1 := rl.other (o := .own a) hdx
  have l2 : Le G ρ (L2.upd H dx (.own a)) (ρ.push a) (L2.upd (L2.upd H dx (.own a)) a (.ins C dx [])) := Le.push ha1
  have rl2 : Rl G (ρ.push a) (S.push (.ins c [])) (L2.upd (L2.upd H dx (.own a)) a (.ins C dx [])) := rl1.push ha1 (.ins hC .nil)
  have l12 := l1.trans l2
  refine ⟨ρ.push a, S.push (.ins c []), .ref S.size :: es, rl2, .cons (RV.new rl1) (rv.mono l12), ?_⟩
  refine PostR.bind (R := RV G) (PostR.le p l12) fun ρ3 H3 S3 d v l3 rl3 rv3 p3 => ?_
  cases rv3 with
  | non =>
    refine ⟨rfl, post_ok (S := S3) p3 rl3 (.ref (pre_get l3.pre ?_))⟩
    rw [← rl1.len]
    simp [Wd.push]
  | _ => exact False.elim p3
end
section
variable {G : Gx} {X : Cx} {W : WX} {e o : Expr} {es : List Expr} {x name : Str} {p pos apos : Pos} {f : Addr} {m : FN} {ma : MA} {mo mv : ME}
/-- f(e, ..) -/
theorem se_call (hc : FnS G X W (.ref f) m) (hg : Gl X x) (hm : X.mg x = some (.ref f)) (hk : PySem.W.keepIn X.K (.ref f) = true) (ha : SA G X W (e :: es) ma) (hdb : (x == ("__debug__" : Str)) = false := by decide)
    (he : starEach (e :: es) X.env = (false, eval e X.env) :: starEach es X.env := by rfl) (hpl : (backTo pos (starEach es X.env)).any (·.1) = false := by rfl) : SE G X W (.Call (.Name x p) (e :: es) [] pos) (eFn m ma) := by
  refine ⟨fun pins s σ H Q I ⟨ρ, σs, S, rl, re, p⟩ => ?_⟩
  refine wpAny_Call_Name_kw (ld_glob I hg hm ?_ hdb)
  refine PySem.W.callWith_K (h₀ := X.base) I.ok.mod.kin hk (ha.go I rl re p fun us s1 xs H1 ρ1 S1 ds I1 rx l1 rl1 re1 rv1 p1 => ⟨I1.kIn, hc pins s1 σ H1 xs us Q ρ1 S1 ds I1 rx rl1 rv1 p1⟩) he hpl
theorem se_call0 (hc : FnS G X W (.ref f) m) (hg : Gl X x) (hm : X.mg x = some (.ref f)) (hk : PySem.W.keepIn X.K (.ref f) = true) (hdb : (x == ("__debug__" : Str)) = false := by decide) : SE G X W (.Call (.Name x p) [] [] pos) (eFn m (aList [])) := by
  refine ⟨fun pins s σ H Q I ⟨ρ, σs, S, rl, re, p⟩ => ?_⟩
  refine wpAny_Call_Name_kw (ld_glob I hg hm ?_ hdb)
  exact PySem.W.callWith_K0 I.kIn hk (hc pins s σ H [] [] Q ρ S [] I .nil rl .nil p)
/-- o.m(e, ..): by the class of o -/
abbrev Disp := Nat → Option FN
def eMeth (ds : Disp) (fi : Nat) (mo : ME) (ma : MA) : ME := fun σ S => (mo σ S).bind fun o S1 => match o with
  | .ref i => (match S1.get i with
    | some (.ins c fs) => (match ds c, fs.lookup fi with
      | some g, none => (ma σ S1).bind fun xs S2 => g (.ref i :: xs) S2
      | _, _ => .bad)
    | _ => .bad)
  | _ => .bad
structure MethS (G : Gx) (X : Cx) (W : WX) (name : Str) (c : Nat) (g : FN) : Prop where
  ex : ∃ C f, G.cls c = some C ∧ Cls X.K C ∧ Meth X.K C name f ∧ FnS G X W (.ref f) g
theorem rfs_lookup {ρ : Wd} {H : Hp} {fi : Nat} : ∀ {fs : List (Nat × D)} {us : List (Str × V)}, RFs G ρ H fs us → (fs.lookup fi = none ∧ us.lookup (G.fld fi) = none) ∨ ∃ d v, fs.lookup fi = some d ∧ us.lookup (G.fld fi) = some v ∧ RV G ρ H d v
  | _, _, .nil => .inl ⟨rfl, rfl⟩
  | _, _, .cons (n := n) (d := d) (v := v) (fs := fs) (us := us) r t => by
    by_cases h : fi = n
    · subst h
      exact .inr ⟨d, v, by simp [List.lookup], by simp [List.lookup], r⟩
    · have h1 : (fi == n) = false := by simp [h]
      have h2 : (G.fld fi == G.fld n) = false := beq_eq_false_iff_ne.mpr fun e => h (G.inj _ _ e)
      simp only [List.lookup, h1, h2]
      exact rfs_lookup t
theorem se_meth {ds : Disp} {fi : Nat} {pl : Sem Bool} (cc : Cc G X W) (he : SE G X W o mo) (hf : G.fld fi = name) (hd : ∀ c g, ds c = some g → MethS G X W name c g) (ha : SA G X W (e :: es) ma)
    (hst : starEach (e :: es) X.env = (false, eval e X.env) :: starEach es X.env := by rfl) (hpl : (backTo pos (starEach es X.env)).any (·.1) = false := by rfl)
    (ht : eval (.Call (.Attribute o name apos) (e :: es) [] pos) X.env = (do
      let ov ← eval o X.env
      standAt apos.atName
      let (f, first) ← holding [ov] (getMethod ov name pl)
      callWith pos f first (backTo pos (starEach (e :: es) X.env)) (backToKw pos (keywordEach [] X.env))) := by rfl) : SE G X W (.Call (.Attribute o name apos) (e :: es) [] pos) (eMeth ds fi mo ma) := by
  refine ⟨fun pins s σ H Q I ⟨ρ, σs, S, rl, re, p⟩ => ?_⟩
  refine PySem.W.methodCall_KW (pl := pl) (he.go I rl re p fun u s1 x H1 ρ1 S1 d I1 rx l1 rl1 re1 rv1 p1 => ?_) ht
  cases rv1 with
  | @ref i a hi =>
    obtain rfl : u = Value.ref a := rx
    cases q : S1.get i with
    | none => simp only [q] at p1; exact p1.elim
    | some ob =>
      obtain ⟨h, hu, ro⟩ := rl1.at hi q
      cases ro with
      | @ins c C dx fs us hC hfs =>
        simp only [q] at p1
        cases q2 : ds c with
        | none => simp only [q2] at p1; exact p1.elim
        | some g =>
          rcases rfs_lookup (fi := fi) hfs with ⟨h1, h2⟩ | ⟨d, v, h1, h2, _⟩
          · simp only [q2, h1] at p1
            obtain ⟨C', f, hC', hcl, hmt, hfn⟩ := (hd c g q2).ex
            rw [hC] at hC'
            cases hC'
            refine getmeth_ok I1 hu hcl hmt (by rw [← hf]; exact h2) ?_
            refine PySem.W.callWith_K (first := [.ref a]) (h₀ := X.base) I.ok.mod.kin hmt.kp (ha.go I1 rl1 re1 p1 fun us s2 xs H2 ρ2 S2 ds I2 rx2 l2 rl2 re2 rv2 p2 => ⟨I2.kIn, ?_⟩) hst hpl
            exact hfn pins s2 σ H2 (.ref a :: xs) (.ref a :: us) Q ρ2 S2 (.ref i :: ds) I2 (.cons rfl rx2) rl2 (.cons (.ref (pre_get l2.pre hi)) rv2) p2
          · simp only [q2, h1] at p1
            exact p1.elim
      | _ => simp only [q] at p1; exact p1.elim
  | _ => exact False.elim p1
theorem se_meth0 {ds : Disp} {fi : Nat} {pl : Sem Bool} (cc : Cc G X W) (he : SE G X W o mo) (hf : G.fld fi = name) (hd : ∀ c g, ds c = some g → MethS G X W name c g)
    (ht : eval (.Call (.Attribute o name apos) [] [] pos) X.env = (do
      let ov ← eval o X.env
      standAt apos.atName
      let (f, first) ← holding [ov] (getMethod ov name pl)
      callWith pos f first (backTo pos (starEach [] X.env)) (backToKw pos (keywordEach [] X.env))) := by rfl) : SE G X W (.Call (.Attribute o name apos) [] [] pos) (eMeth ds fi mo (aList [])) := by
  refine ⟨fun pins s σ H Q I ⟨ρ, σs, S, rl, re, p⟩ => ?_⟩
  refine PySem.W.methodCall_KW (pl := pl) (he.go I rl re p fun u s1 x H1 ρ1 S1 d I1 rx l1 rl1 re1 rv1 p1 => ?_) ht
  cases rv1 with
  | @ref i a hi =>
    obtain rfl : u = Value.ref a := rx
    cases q : S1.get i with
    | none => simp only [q] at p1; exact p1.elim
    | some ob =>
      obtain ⟨h, hu, ro⟩ := rl1.at hi q
      cases ro with
      | @ins c C dx fs us hC hfs =>
        simp only [q] at p1
        cases q2 : ds c with
        | none => simp only [q2] at p1; exact p1.elim
        | some g =>
          rcases rfs_lookup (fi := fi) hfs with ⟨h1, h2⟩ | ⟨d, v, h1, h2, _⟩
          · simp only [q2, h1] at p1
            obtain ⟨C', f, hC', hcl, hmt, hfn⟩ := (hd c g q2).ex
            rw [hC] at hC'
            cases hC'
            refine getmeth_ok I1 hu hcl hmt (by rw [← hf]; exact h2) ?_
            exact PySem.W.callWith_K0 (first := [.ref a]) I1.kIn hmt.kp (hfn pins s1 σ H1 [.ref a] [.ref a] Q ρ1 S1 [.ref i] I1 (.cons rfl .nil) rl1 (.cons (.ref hi) .nil) p1)
          · simp only [q2, h1] at p1
            exact p1.elim
      | _ => simp only [q] at p1; exact p1.elim
  | _ => exact False.elim p1
/-- o.f: a field (none), a property (its getter) -/
abbrev ADisp := Nat → Option (Option FN)
def noExc (r : Res D) : Res D := match r with | .exc _ _ => .bad | r => r
def attrF (ds : ADisp) (fi : Nat) (o : D) (S : Store) : Res D := match o with
  | .ref i => (match S.get i with
    | some (.ins c fs) => (match ds c with
      | some none => (match fs.lookup fi with | some d => .ok d S | none => .bad)
      | some (some g) => noExc (g [.ref i] S)
      | none => .bad)
    | _ => .bad)
  | _ => .bad
structure FieldS (G : Gx) (X : Cx) (name : Str) (c : Nat) : Prop where
  ex : ∃ C, G.cls c = some C ∧ Cls X.K C ∧ NoAttr X.K C name
/-- the getter's promise -/
structure PropS (G : Gx) (X : Cx) (name : Str) (c : Nat) (g : FN) : Prop where
  ex : ∃ C p f k, G.cls c = some C ∧ Cls X.K C ∧ PropOf X.K C name p f ∧ FnR X.prog X.w X.K X.mg X.base (L2.CX X.prog X.w) k f (spG G g) ∧ Room (k + 1) X.A
theorem getprop_okR {C p g a dx : Addr} {fs : List (Str × V)} {f : Str} {k : Nat} {CX : CXT} {sp : Sp} {E : XK} {pins : List (Addr × Obj)} {σ : St} {H : Hp} {s : Shared} {Q : VK} {b : Bool} {E' : Value → Shared → Prop} (I : Inv X pins σ H s) (ea : H a = some (.ins C dx fs)) (c : Cls X.K C) (hp : PropOf X.K C f p g)
    (F : FnR X.prog X.w X.K X.mg X.base CX k g sp) (hr : Room (k + 1) X.A) (hx : Passes CX X.nox E) (h : sp [.ref a] H Q E) :
    wpAny (model X.prog X.w) X.A (getAttr (.ref a) f b) (EP X pins σ Q) E' s := by
  obtain ⟨mA, O, _, _, _, _⟩ := ins_get I.hok ea
  obtain ⟨od, J, _⟩ := O.look
  obtain ⟨rest, hrec⟩ := hp.rec_
  have I1 := I.tok (s.toks + 1)
  have hc : (PySem.W.clsIn X.K C).isSome = true := by
    obtain ⟨cd, hc, _⟩ := PySem.W.any_some c.hd
    rw [hc]
    rfl
  refine PySem.W.get_bind I.kIn J (PySem.W.plainGet_of (c.get f)).1 (PySem.W.findObj_data hc hp.at_ hp.get hp.tak) (PySem.W.plainGet_of (c.get f)).2 (wpAny_call (PySem.W.prop_get (s := { s with toks := s.toks + 1 }) I.kIn hrec ?_))
  refine codeAny_mono (F X.A.in1 X.stack { s with toks := s.toks + 1 } H [.ref a] [.ref a] Q E hr.in1 I1.env0.in1 (.cons rfl .nil) h) fun r s' hq => ?_
  cases r with
  | error er => exact False.elim (hx pins σ H { s with toks := s.toks + 1 } er s' (I1.wish _) hq)
  | ok fl =>
    cases fl with
    | ret u =>
      obtain ⟨v, H', I3, rv, q3⟩ := I1.after hq
      show wpAny _ _ (handedOut u) _ _ _
      rw [PySem.W.handedOut_of (handed_of rv)]
      exact wpAny_pure ⟨v, H', I3, rv, q3⟩
    | next => exact False.elim hq
    | brk => exact False.elim hq
    | cont => exact False.elim hq
theorem passNox {X : Cx} : Passes (L2.CX X.prog X.w) X.nox E0 := fun _ _ _ _ _ _ _ h => by
  obtain ⟨_, _, _, _, _, _, _, _, _, _, _, _, z⟩ := h
  exact z.elim
theorem se_attr {ds : ADisp} {fi : Nat} (cc : Cc G X W) (he : SE G X W o mo) (hf : G.fld fi = name) (h1 : ∀ c, ds c = some none → FieldS G X name c) (h2 : ∀ c g, ds c = some (some g) → PropS G X name c g)
    (hab : attributeBase o name X.env (eval o X.env) = eval o X.env := by rfl) : SE G X W (.Attribute o name pos) (eUn (attrF ds fi) mo) := by
  refine ⟨fun pins s σ H Q I ⟨ρ, σs, S, rl, re, p⟩ => ?_⟩
  refine attr_of hab (he.go I rl re p fun u s1 x H1 ρ1 S1 d I1 rx l1 rl1 re1 rv1 p1 => ?_)
  cases rv1 with
  | @ref i a hi =>
    obtain rfl : u = Value.ref a := rx
    unfold attrF at p1
    cases q : S1.get i with
    | none => simp only [q] at p1; exact p1.elim
    | some ob =>
      obtain ⟨h, hu, ro⟩ := rl1.at hi q
      cases ro with
      | @ins c C dx fs us hC hfs =>
        simp only [q] at p1
        cases q2 : ds c with
        | none => simp only [q2] at p1; exact p1.elim
        | some og =>
          cases og with
          | none =>
            rcases rfs_lookup (fi := fi) hfs with ⟨e1, e2⟩ | ⟨d, v, e1, e2, rv⟩
            · simp only [q2, e1] at p1
              exact p1.elim
            · simp only [q2, e1] at p1
              obtain ⟨C', hC', hcl, hna⟩ := (h1 c q2).ex
              rw [hC] at hC'
              cases hC'
              exact getattr_ok I1 hu hcl hna (by rw [← hf]; exact e2) fun u' s2 I2 ru => ⟨v, H1, I2, ru, post_ok p1 rl1 rv⟩
          | some g =>
            simp only [q2] at p1
            obtain ⟨C', pa, f, k, hC', hcl, hpo, F, hr⟩ := (h2 c g q2).ex
            rw [hC] at hC'
            cases hC'
            refine getprop_okR I1 hu hcl hpo F hr passNox ⟨ρ1, S1, [.ref i], rl1, .cons (.ref hi) .nil, ?_⟩
            cases q3 : g [.ref i] S1 with
            | ok d2 S2 => rw [q3] at p1; exact p1
            | exc x S2 => rw [q3] at p1; exact False.elim p1
            | bad => rw [q3] at p1; exact p1
      | _ => simp only [q] at p1; exact p1.elim
  | _ => exact False.elim p1
/-- o.f = e -/
def putN (n : Nat) (d : D) : List (Nat × D) → List (Nat × D)
  | [] => [(n, d)]
  | (k, e) :: r => if k = n then (k, d) :: r else (k, e) :: putN n d r
theorem putN_rel {ρ : Wd} {H : Hp} {fi : Nat} {d : D} {v : V} (rv : RV G ρ H d v) : ∀ {fs : List (Nat × D)} {us : List (Str × V)}, RFs G ρ H fs us → RFs G ρ H (putN fi d fs) (putF (G.fld fi) v us)
  | _, _, .nil => .cons rv .nil
  | _, _, .cons (n := n) (d := e) (v := y) (fs := fs) (us := us) r t => by
    unfold putN putF
    by_cases h : n = fi
    · subst h
      rw [if_pos rfl, if_pos rfl]
      exact .cons rv t
    · rw [if_neg h, if_neg fun q => h (G.inj _ _ q)]
      exact .cons r (putN_rel rv t)
def fldSet (ok : Nat → Bool) (fi : Nat) (o v : D) (S : Store) : Option Store := match o with
  | .ref i => (match S.get i with
    | some (.ins c fs) => if ok c && decide (fs.length < 900) then some (S.set i (.ins c (putN fi v fs))) else none
    | _ => none)
  | _ => none
def sFld (ok : Nat → Bool) (fi : Nat) (mo mv : ME) : MS := fun σ S => match (mv σ S).bind fun v S1 => (mo σ S1).bind fun o S2 => (match fldSet ok fi o v S2 with | some S3 => Res.ok () S3 | none => .bad) with
  | .ok _ S3 => .nx σ S3
  | .exc x S3 => .exc x σ S3
  | .bad => .bad
theorem ss_fld {ok : Nat → Bool} {fi : Nat} {pos' : Pos} (cc : Cc G X W) (ha : SE G X W o mo) (hv : SE G X W e mv) (hf : G.fld fi = name) (hok : ∀ c, ok c = true → FieldS G X name c)
    (hs : swapsWith e (some (.Attribute o name pos')) pos.line X.env = pure false := by rfl) : SS G X W (.Assign [.Attribute o name pos'] e pos) (sFld ok fi mo mv) := by
  refine ss_of (ps_fld ha hv hs) fun σ H Dn ρ σs S rl re p => ?_
  have p0 : PostR (α := Unit) (β := Unit) G (fun _ _ _ _ => True) ρ H ((mv σs S).bind fun v S1 => (mo σs S1).bind fun o S2 => (match fldSet ok fi o v S2 with | some S3 => Res.ok () S3 | none => .bad)) (fun _ H' => Dn.nx σ H') (EW W σ) := by
    unfold sFld at p
    cases q : ((mv σs S).bind fun v S1 => (mo σs S1).bind fun o S2 => (match fldSet ok fi o v S2 with | some S3 => Res.ok () S3 | none => .bad)) with
    | ok x S3 => rw [q] at p; exact fun ρ1 H1 _ l1 rl1 _ => p ρ1 H1 σ l1 rl1 (re.mono l1)
    | exc x S3 => rw [q] at p; exact fun ρ1 H1 c dd l1 rl1 rx => p ρ1 H1 σ c dd l1 rl1 (re.mono l1) rx
    | bad => rw [q] at p; exact p.elim
  refine ⟨ρ, σs, S, rl, re, PostR.bind (R := RV G) p0 fun ρ1 H1 S1 d y l1 rl1 rv1 p1 => ?_⟩
  refine ⟨ρ1, σs, S1, rl1, re.mono l1, PostR.bind (R := RV G) p1 fun ρ2 H2 S2 od x l2 rl2 rv2 p2 => ?_⟩
  cases rv2 with
  | @ref i a hi =>
    unfold fldSet at p2
    cases q : S2.get i with
    | none => simp only [q] at p2; exact p2.elim
    | some ob =>
      obtain ⟨h, hu, ro⟩ := rl2.at hi q
      cases ro with
      | @ins c C dx fs us hC hfs =>
        simp only [q] at p2
        by_cases hk : (ok c && decide (fs.length < 900)) = true
        · rw [if_pos hk] at p2
          rw [Bool.and_eq_true, decide_eq_true_eq] at hk
          obtain ⟨C', hC', hcl, hna⟩ := (hok c hk.1).ex
          rw [hC] at hC'
          cases hC'
          refine ⟨a, C, dx, us, rfl, hu, hcl, hna, by rw [← hfs.length]; omega, ?_⟩
          rw [← hf]
          exact p2 ρ2 _ () (rl2.leUpd hi hu trivial) (rl2.set hi q hu trivial (.ins hC (putN_rel (rv1.mono l2) hfs))) trivial
        · rw [if_neg hk] at p2
          exact p2.elim
      | _ => simp only [q] at p2; exact p2.elim
  | _ => exact False.elim p2
end
end L2.Mi

set_option Elab.async false
set_option linter.all false
set_option maxRecDepth 100000
set_option maxHeartbeats 4000000
/-! Mini, 7: types, operators of own classes, instances called. -/
namespace L2.Mi
open PySem PySem.Spec PyProof.Rows

def tagOf (S : Store) : D → Option Tag
  | .non => some (.b "NoneType")
  | .bl _ => some (.b "bool")
  | .int _ => some (.b "int")
  | .str _ => some (.b "str")
  | .tup _ => some (.b "tuple")
  | .kt _ => some (.b "tuple")
  | .lv _ => some (.b "list")
  | .dv _ _ => none
  | .ref i => (match S.get i with
    | some (.lst _) => some (.b "list")
    | some (.lck (.lst _)) => some (.b "list")
    | some (.dic _ _) => some (.b "dict")
    | some (.ins c _) => some (.o c)
    | _ => none)
  | _ => none
def clsTag : D → Option Tag
  | .ty n => some (.b n)
  | .cl c => some (.o c)
  | _ => none
section
variable {G : Gx} {X : Cx} {W : WX} {ρ : Wd} {S : Store} {H : Hp} {d : D} {x : V} {t : Tag}
theorem tag_rel (rl : Rl G ρ S H) (rv : RV G ρ H d x) (h : tagOf S d = some t) : ∃ tv, tagVal G.cls t = some tv ∧ TyX G.K H x tv := by
  cases rv with
  | non => cases h; exact ⟨_, rfl, .base .non⟩
  | bl b => cases h; exact ⟨_, rfl, .base (.bl b)⟩
  | int i => cases h; exact ⟨_, rfl, .base (.int i)⟩
  | str l => cases h; exact ⟨_, rfl, .base (.str _)⟩
  | tup ht hr => cases h; exact ⟨_, rfl, .base (.tup ht)⟩
  | kt ht hr =>
    cases h
    rcases ht with (ht | ⟨o, ht⟩) | ⟨o, its, n, hk, hc, _⟩
    · cases ht
    · cases ht
    · exact ⟨_, rfl, .kTuple hk hc⟩
  | lv n ht hr => cases h; exact ⟨_, rfl, .base (.lst ht)⟩
  | @ref i a hi =>
    unfold tagOf at h
    cases q : S.get i with
    | none => simp only [q] at h; cases h
    | some o =>
      obtain ⟨u, hu, ro⟩ := rl.at hi q
      cases ro with
      | lst r => simp only [q] at h; cases h; exact ⟨_, rfl, .base (.lst hu)⟩
      | dK r => simp only [q] at h; cases h; exact ⟨_, rfl, .base (.dK hu)⟩
      | dT r => simp only [q] at h; cases h; exact ⟨_, rfl, .base (.dT hu)⟩
      | @ins c C dx fs us hC hfs =>
        simp only [q] at h
        cases h
        have z := G.ci c C hC
        exact ⟨.ref C, by show (G.cls c).map Value.ref = _; rw [hC]; rfl, .base (.ins hu z.cl z.ha z.hn z.htk z.hm)⟩
      | lck r =>
        cases r with
        | lst r => simp only [q] at h; cases h; exact ⟨_, rfl, .base (.frz hu)⟩
        | _ => simp only [q] at h; cases h
  | _ => cases h
theorem clsTag_rel (rv : RV G ρ H d x) (h : clsTag d = some t) : ∃ tv, tagVal G.cls t = some tv ∧ ClsV x tv := by
  cases rv with
  | ty n => cases h; exact ⟨_, rfl, .ty n⟩
  | @cl c C hC => cases h; exact ⟨.ref C, by show (G.cls c).map Value.ref = _; rw [hC]; rfl, .own C⟩
  | _ => cases h
end
def isiF (isi : Tag → Tag → Option Bool) : FN := fun ds S => match ds with
  | [d, c] => (match tagOf S d, clsTag c with
    | some t, some u => (match isi t u with | some b => .ok (.bl b) S | none => .bad)
    | _, _ => .bad)
  | _ => .bad
section
variable {G : Gx} {X : Cx} {W : WX}
theorem fns_isi (cc : Cc G X W) : FnS G X W (.builtin "isinstance") (isiF G.isi) := FnS.of call_isi fun ρ S H ds xs Q E rl r p => by
  unfold isiF at p
  split at p
  · rename_i d c
    obtain ⟨x, y, rfl, h1, h2⟩ := rvs2 r
    cases q1 : tagOf S d with
    | none => simp only [q1] at p; exact p.elim
    | some t =>
      cases q2 : clsTag c with
      | none => simp only [q1, q2] at p; exact p.elim
      | some u =>
        cases q3 : G.isi t u with
        | none => simp only [q1, q2, q3] at p; exact p.elim
        | some b =>
          simp only [q1, q2, q3] at p
          obtain ⟨tv, e1, ty⟩ := tag_rel rl h1 q1
          obtain ⟨uv, e2, cv⟩ := clsTag_rel h2 q2
          exact ⟨x, y, tv, uv, b, rfl, cv, by rw [cc.k]; exact ty, by rw [cc.k]; exact G.isi_ok t u b tv uv q3 e1 e2, post_ok p rl (.bl b)⟩
  · exact p.elim
/-- a built-in class as a value -/
theorem se_bltn {x : Str} {n : String} {pos : Pos} (hg : Gl X x) (hm : X.mg x = none) (hv : bootBuiltins x = some (.type n)) (hn : x ≠ "__name__" := by decide) (hd : (x == ("__debug__" : Str)) = false := by decide) : SE G X W (.Name x pos) (eC (.ty n)) :=
  se_of (pe_bltn hg hm hv (v := .ty n) rfl hn hd) fun _ _ _ _ _ _ rl _ p => post_ok p rl (.ty n)
/-- an own class as a value -/
theorem se_cls {x : Str} {c : Nat} {C : Addr} {pos : Pos} (hg : Gl X x) (hm : X.mg x = some (.ref C)) (hC : G.cls c = some C) (hdb : (x == ("__debug__" : Str)) = false := by decide) : SE G X W (.Name x pos) (eC (.cl c)) :=
  se_of (pe_glob hg hm (v := .ref C) rfl hdb) fun _ _ _ _ _ _ rl _ p => post_ok p rl (.cl hC)

/-! ### operators of own classes -/
theorem inst_at {ρ : Wd} {S : Store} {H : Hp} {i c : Nat} {a : Addr} {fs : List (Nat × D)} (rl : Rl G ρ S H) (hi : ρ.v[i]? = some a) (q : S.get i = some (.ins c fs)) : ∃ C dx us, G.cls c = some C ∧ H a = some (.ins C dx us) := by
  obtain ⟨u, hu, ro⟩ := rl.at hi q
  cases ro with
  | @ins c C dx fs us hC hfs => exact ⟨C, dx, us, hC, hu⟩
theorem cmpBack_of {Q : Value → Shared → Prop} {x : V} {v : Value} {s : Shared} (r : RelV x v) (q : Q v s) : PySem.W.CmpBack Q v s := by
  cases x with
  | non => cases r; exact q
  | bl _ => cases r; exact q
  | int _ => obtain ⟨t, rfl⟩ := r; exact q
  | str _ => obtain ⟨t, rfl⟩ := r; exact q
  | byt _ => obtain ⟨t, rfl⟩ := r; exact q
  | flt _ => obtain ⟨t, rfl⟩ := r; exact q
  | ref _ => cases r; exact q
  | ty _ => cases r; exact q
/-- x op y by the class of x; y an int or of the same class -/
def ownB (ds : Disp) : D → D → Store → Res D := fun x y S => match x with
  | .ref i => (match S.get i with
    | some (.ins c _) => (match ds c with
      | some g => (match y with
        | .int _ => g [.ref i, y] S
        | .ref j => (match S.get j with | some (.ins c' _) => if c' = c then g [.ref i, y] S else .bad | _ => .bad)
        | _ => .bad)
      | none => .bad)
    | _ => .bad)
  | _ => .bad
structure OpClsS (G : Gx) (X : Cx) (W : WX) (op : Operator) (c : Nat) (g : FN) : Prop where
  ex : ∃ C f rc, G.cls c = some C ∧ PySem.W.selfFirst X.K C = true ∧ PySem.W.findIn X.K (.ref C) (PySem.dunder op.info.2) = some (some (.ref f)) ∧ PySem.W.isFn X.K (.ref f) = true ∧
    PySem.W.findIn X.K (.ref C) (dunderR op.info.2) = some rc ∧ (rc = none ∨ ∃ g : Addr, rc = some (.ref g)) ∧ (∃ fo, PySem.W.findIn X.K (.type "int") (PySem.dunder op.info.2) = some fo) ∧
    (∃ ro, PySem.W.findIn X.K (.type "int") (dunderR op.info.2) = some ro) ∧ PySem.W.subIn X.K (.type "int") (.ref C) = some false ∧ FnS G X W (.ref f) g
theorem ops_own {op : Operator} {ds : Disp} (hd : ∀ c g, ds c = some g → OpClsS G X W op c g) : OpS G X W (binaryOp op) (ownB ds) := by
  intro pins s σ H x y v u Q ρ S d1 d2 I rx ry rl r1 r2 p
  cases r1 with
  | @ref i a hi =>
    obtain rfl : v = Value.ref a := rx
    unfold ownB at p
    cases q : S.get i with
    | none => simp only [q] at p; exact p.elim
    | some ob =>
      cases ob with
      | ins c fs =>
        simp only [q] at p
        cases q2 : ds c with
        | none => simp only [q2] at p; exact p.elim
        | some g =>
          simp only [q2] at p
          obtain ⟨C, f, rc, hC, sf, hs, hf, hr, hp, ⟨fo, h1⟩, ⟨ro, h2⟩, hsub, hfn⟩ := (hd c g q2).ex
          obtain ⟨C', dx, us, hC', hH⟩ := inst_at rl hi q
          rw [hC] at hC'
          cases hC'
          obtain ⟨mA, O, _⟩ := ins_get I.hok hH
          obtain ⟨od, J, _⟩ := O.look
          obtain ⟨mF, hF⟩ := I.fr
          have run : Post G ρ H (g [.ref i, d2] S) Q (EW W σ) → wpAny (model X.prog X.w) X.A (call (.ref f) [.ref a, u]) (PySem.W.CmpBack (EP X pins σ Q)) X.xe s := fun p => by
            refine thn (hfn pins s σ H [.ref a, y] [.ref a, u] Q ρ S [.ref i, d2] I (.cons rfl (.cons ry .nil)) rl (.cons (.ref hi) (.cons r2 .nil)) p) fun z s' h => ?_
            obtain ⟨zv, H', I', rz, q'⟩ := h
            exact cmpBack_of rz ⟨zv, H', I', rz, q'⟩
          cases r2 with
          | int n =>
            obtain ⟨t, rfl⟩ := ry
            exact PySem.W.ksp_binT (T := "int") hF I.ok.mod.kin J rfl sf hs hf hr hp h1 h2 hsub (run p)
          | @ref j b hj =>
            obtain rfl : u = Value.ref b := ry
            cases q3 : S.get j with
            | none => simp only [q3] at p; exact p.elim
            | some ob2 =>
              cases ob2 with
              | ins c' fs' =>
                simp only [q3] at p
                by_cases hcc : c' = c
                · rw [if_pos hcc] at p
                  subst hcc
                  obtain ⟨C2, dx2, us2, hC2, hH2⟩ := inst_at rl hj q3
                  rw [hC] at hC2
                  cases hC2
                  obtain ⟨mA2, O2, _⟩ := ins_get I.hok hH2
                  obtain ⟨od2, J2, _⟩ := O2.look
                  exact PySem.W.binop_K hF I.ok.mod.kin J J2.type sf hs hf (run p)
                · rw [if_neg hcc] at p
                  exact p.elim
              | _ => simp only [q3] at p; exact p.elim
          | _ => exact p.elim
      | _ => simp only [q] at p; exact p.elim
  | _ => exact p.elim
/-- -x -/
def negF (ds : Disp) : D → Store → Res D := fun x S => match x with
  | .int i => .ok (.int (-i)) S
  | .ref i => (match S.get i with
    | some (.ins c _) => (match ds c with | some g => g [.ref i] S | none => .bad)
    | _ => .bad)
  | _ => .bad
structure UnClsS (G : Gx) (X : Cx) (W : WX) (name : Str) (c : Nat) (g : FN) : Prop where
  ex : ∃ C f, G.cls c = some C ∧ PySem.W.findIn X.K (.ref C) name = some (some (.ref f)) ∧ PySem.W.isFn X.K (.ref f) = true ∧ FnS G X W (.ref f) g
theorem uns_neg {ds : Disp} (hd : ∀ c g, ds c = some g → UnClsS G X W "__neg__" c g) : UnS G X W (unaryOp .USub) (negF ds) := by
  intro pins s σ H x v Q ρ S d I rx rl r1 p
  cases r1 with
  | int i => exact un_neg pins s σ H _ v Q I rx ⟨i, rfl, post_ok (S := S) p rl (.int _)⟩
  | @ref i a hi =>
    obtain rfl : v = Value.ref a := rx
    unfold negF at p
    cases q : S.get i with
    | none => simp only [q] at p; exact p.elim
    | some ob =>
      cases ob with
      | ins c fs =>
        simp only [q] at p
        cases q2 : ds c with
        | none => simp only [q2] at p; exact p.elim
        | some g =>
          simp only [q2] at p
          obtain ⟨C, f, hC, hs, hf, hfn⟩ := (hd c g q2).ex
          obtain ⟨C', dx, us, hC', hH⟩ := inst_at rl hi q
          rw [hC] at hC'
          cases hC'
          obtain ⟨mA, O, _⟩ := ins_get I.hok hH
          obtain ⟨od, J, _⟩ := O.look
          obtain ⟨mF, hF⟩ := I.fr
          exact PySem.W.ksp_neg hF I.ok.mod.kin J hs hf (hfn pins s σ H [.ref a] [.ref a] Q ρ S [.ref i] I (.cons rfl .nil) rl (.cons (.ref hi) .nil) p)
      | _ => simp only [q] at p; exact p.elim
  | _ => exact p.elim
/-- x == y by the class of x -/
def eqOwn (isi : Tag → Tag → Option Bool) (ds : Disp) : D → D → Store → Res D := fun x y S => match x with
  | .ref i => (match S.get i, tagOf S y with
    | some (.ins c _), some t => (match ds c with
      | some g => if (t == .o c || isi t (.o c) == some false) = true then g [.ref i, y] S else .bad
      | none => .bad)
    | _, _ => .bad)
  | _ => .bad
theorem kit_false {K : PySem.W.Frag} {t : Value} {C : Addr} (h : PySem.W.kitOne K t (.ref C) = some false) : PySem.W.subIn K t (.ref C) = some false := by
  unfold PySem.W.kitOne at h
  split at h
  · cases h
  · unfold PySem.W.kitCls at h
    simp only at h
    split at h
    · exact h
    · cases h
theorem ops_eqOwn {ds : Disp} (cc : Cc G X W) (hu : X.A.units + 64 < cLine) (hd : ∀ c g, ds c = some g → UnClsS G X W "__eq__" c g) : OpS G X W (compareOp .Eq) (eqOwn G.isi ds) := by
  intro pins s σ H x y v u Q ρ S d1 d2 I rx ry rl r1 r2 p
  cases r1 with
  | @ref i a hi =>
    obtain rfl : v = Value.ref a := rx
    unfold eqOwn at p
    cases q : S.get i with
    | none => simp only [q] at p; exact p.elim
    | some ob =>
      cases ob with
      | ins c fs =>
        cases q4 : tagOf S d2 with
        | none => simp only [q, q4] at p; exact p.elim
        | some t =>
          simp only [q, q4] at p
          cases q2 : ds c with
          | none => simp only [q2] at p; exact p.elim
          | some g =>
            simp only [q2] at p
            by_cases hn : (t == .o c || G.isi t (.o c) == some false) = true
            · rw [if_pos hn] at p
              obtain ⟨C, f, hC, hs, hf, hfn⟩ := (hd c g q2).ex
              obtain ⟨C', dx, us, hC', hH⟩ := inst_at rl hi q
              rw [hC] at hC'
              cases hC'
              obtain ⟨mA, O, _⟩ := ins_get I.hok hH
              obtain ⟨od, J, _⟩ := O.look
              obtain ⟨mF, hF⟩ := I.fr
              obtain ⟨tv, e1, ty⟩ := tag_rel rl r2 q4
              obtain ⟨Pk, Z, pk, _⟩ := kit_of I ry (by rw [cc.k]; exact ty)
              have oC : tagVal G.cls (.o c) = some (.ref C) := by show (G.cls c).map Value.ref = _; rw [hC]; rfl
              have nf : PySem.W.notFirst X.K C tv = true := by
                unfold PySem.W.notFirst
                rw [Bool.or_eq_true] at hn ⊢
                rcases hn with hn | hn
                · refine .inl ?_
                  have e2 : t = .o c := beq_iff_eq.mp hn
                  subst e2
                  rw [oC] at e1
                  cases e1
                  exact beq_self_eq_true _
                · refine .inr ?_
                  have e2 : G.isi t (.o c) = some false := beq_iff_eq.mp hn
                  rw [beq_iff_eq, cc.k]
                  exact kit_false (G.isi_ok t (.o c) false tv (.ref C) e2 e1 oC)
              show wpAny (model X.prog X.w) X.A (richCompare .Eq (.ref a) u) (EP X pins σ Q) X.xe s
              refine PySem.W.cmp_K (op := .Eq) (by omega) hF I.ok.mod.kin J (Z.ty _ _ I.kIn pk) nf hs hf ?_
              refine thn (hfn pins s σ H [.ref a, y] [.ref a, u] Q ρ S [.ref i, d2] I (.cons rfl (.cons ry .nil)) rl (.cons (.ref hi) (.cons r2 .nil)) p) fun z s' h => ?_
              obtain ⟨zv, H', I', rz, q'⟩ := h
              exact cmpBack_of rz ⟨zv, H', I', rz, q'⟩
            · rw [if_neg hn] at p
              exact p.elim
      | _ => simp only [q] at p; exact p.elim
  | _ => exact p.elim
end
end L2.Mi

set_option Elab.async false
set_option linter.all false
set_option maxRecDepth 100000
set_option maxHeartbeats 4000000
/-! Mini, 8: != by an own ==, instances called, methods of lists, comprehensions, enumerate. -/
namespace PySem.W
open PySem PySem.Calls PyProof.Rows
section
variable {prog : Program} {w : World} {A : Around} {E : Value → Shared → Prop} {s : Shared} {K : Frag} {x C L f : Addr} {h₀ : Heap} {m : Str → Option Value} {ox : Obj} {od : Option Obj} {b tb : Value}
theorem mi_ifBoundB {M : Model} {T : String} {name : Str} {id : String} {args : List Value} {Q : Option Value → Shared → Prop} (X : K.In s.heap) (I : InstAt s.heap x ox C od) (hs : findIn K (.ref C) name = some (some (.builtin id))) (S : Slot T name id)
    (h : wpAny M A (call (.builtin id) (.ref x :: args)) (fun v => Q (some v)) E s) : wpAny M A (callSpecialIfBound? (.ref x) name args) Q E s := by
  simp only [callSpecialIfBound?, bindSpecialIfBound?]
  refine wpAny_holding (wpAny_bind (wpAny_bind (wpAny_bind (I.type.here ((looks_findIn X hs).here ?_)))))
  simp only [S.bind]
  refine wpAny_bind (wpAny_askSetting (wpAny_ite ?_))
  have fin : wpAny M A (call (.builtin id) ([.ref x] ++ args) >>= fun v => pure (some v)) Q E s := wpAny_bind (wpAny_mono h (fun v s' h' => wpAny_pure h') fun _ _ h' => h')
  split
  · exact wpAny_bind (wpAny_pure (wpAny_pure fin))
  · exact wpAny_tryCatch (wpAny_bind (wpAny_pure (wpAny_pure fin)))
theorem mi_ne {Q : Value → Shared → Prop} (hu : A.units + 1 < cLine) (F : Fr h₀ L s.heap m) (X₀ : K.In h₀) (I : InstAt s.heap x ox C od) (hb : Looks (model prog w) s.heap (typeOf b) tb) (hn : notFirst K C tb = true)
    (hs : findIn K (.ref C) "__ne__" = some (some (.builtin "object.__ne__"))) (hm : mroIn K C (.type "object") = some true) (he : findIn K (.ref C) "__eq__" = some (some (.ref f))) (hf : isFn K (.ref f) = true)
    (h : wpAny (model prog w) A.in1 (call (.ref f) [.ref x, b]) (fun v s' => ∃ k, v = .bool k ∧ Q (.bool (!k)) s') E s) : wpAny (model prog w) A (richCompare .NotEq (.ref x) b) Q E s := by
  have X := X₀.keeps F.keep
  have inst : Looks (model prog w) s.heap (isInstance (.ref x) (.type "object")) true := I.type.andThen (looks_mroIn X hm)
  have one : wpAny (model prog w) A (tryCompare (.ref x) (cmpInfo .NotEq).2.1 b) (fun r s' => ∃ v, r = some v ∧ Q v s') E s := by
    unfold tryCompare
    refine wpAny_bind (mi_ifBoundB (T := "object") X I hs PySem.F.cmp_object.ne ?_)
    refine wpAny_call (codeAny_call_builtin (by decide +kernel) PySem.F.cmpEntry_ne (check_slot PySem.F.cmpKind_ne PySem.F.cmpSplit_ne inst (PySem.F.cmpArgs_ne _ _) ?_))
    unfold Builtin.«object.__ne__»
    refine wpAny_bind (wpAny_pure ?_)
    dsimp only
    refine wpAny_bind (wpAny_cRoomFor (show A.units + 1 < cLine from hu) ?_)
    refine wpAny_bind (ifBound_K X I he hf (wpAny_mono h (fun v s' hv => ?_) fun _ _ e => e))
    obtain ⟨k, rfl, q⟩ := hv
    dsimp only
    refine wpAny_bind (wpAny_truthy_bool ?_)
    exact wpAny_pure (wpAny_pure ⟨_, rfl, q⟩)
  unfold richCompare
  simp only [oneThing_ref]
  refine wpAny_holding (wpAny_bind (wpAny_cRoomFor (by omega) ?_))
  refine wpAny_bind (I.type.here (wpAny_bind (hb.here ?_)))
  split
  · rename_i q
    have e : subIn K tb (.ref C) = some false := by
      rcases Bool.or_eq_true_iff.mp hn with e | e
      · rw [beq_iff_eq.mp e] at q; simp at q
      · exact beq_iff_eq.mp e
    refine wpAny_bind ((looks_subIn X e).here ?_)
    simp only [Bool.false_eq_true, if_false]
    refine wpAny_bind (wpAny_mono one (fun r s' z => ?_) fun _ _ e => e)
    obtain ⟨v, rfl, hq⟩ := z
    exact wpAny_pure hq
  · refine wpAny_bind (wpAny_pure ?_)
    simp only [Bool.false_eq_true, if_false]
    refine wpAny_bind (wpAny_mono one (fun r s' z => ?_) fun _ _ e => e)
    obtain ⟨v, rfl, hq⟩ := z
    exact wpAny_pure hq
end
end PySem.W
namespace L2.Mi
open PySem PySem.Spec PyProof.Rows
/-- x != y by the own == of x's class -/
def neOwn (isi : Tag → Tag → Option Bool) (ds : Disp) : D → D → Store → Res D := fun x y S => match x with
  | .ref i => (match S.get i, tagOf S y with
    | some (.ins c _), some t => (match ds c with
      | some g => if (t == .o c || isi t (.o c) == some false) = true then (match g [.ref i, y] S with | .ok (.bl k) S1 => .ok (.bl (!k)) S1 | _ => .bad) else .bad
      | none => .bad)
    | _, _ => .bad)
  | _ => .bad
structure NeClsS (G : Gx) (X : Cx) (c : Nat) (g : FN) : Prop where
  ex : ∃ C f k, G.cls c = some C ∧ PySem.W.findIn X.K (.ref C) "__ne__" = some (some (.builtin "object.__ne__")) ∧ PySem.W.findIn X.K (.ref C) "__eq__" = some (some (.ref f)) ∧ PySem.W.isFn X.K (.ref f) = true ∧
    FnR X.prog X.w X.K X.mg X.base (L2.CX X.prog X.w) k f (spG G g) ∧ Room (k + 1) X.A
section
variable {G : Gx} {X : Cx} {W : WX}
theorem ops_neOwn {ds : Disp} (cc : Cc G X W) (hu : X.A.units + 64 < cLine) (hd : ∀ c g, ds c = some g → NeClsS G X c g) : OpS G X W (compareOp .NotEq) (neOwn G.isi ds) := by
  intro pins s σ H x y v u Q ρ S d1 d2 I rx ry rl r1 r2 p
  cases r1 with
  | @ref i a hi =>
    obtain rfl : v = Value.ref a := rx
    unfold neOwn at p
    cases q : S.get i with
    | none => simp only [q] at p; exact p.elim
    | some ob =>
      cases ob with
      | ins c fs =>
        cases q4 : tagOf S d2 with
        | none => simp only [q, q4] at p; exact p.elim
        | some t =>
          simp only [q, q4] at p
          cases q2 : ds c with
          | none => simp only [q2] at p; exact p.elim
          | some g =>
            simp only [q2] at p
            by_cases hn : (t == .o c || G.isi t (.o c) == some false) = true
            · rw [if_pos hn] at p
              obtain ⟨C, f, k, hC, hs, he, hf, F, hr⟩ := (hd c g q2).ex
              obtain ⟨C', dx, us, hC', hH⟩ := inst_at rl hi q
              rw [hC] at hC'
              cases hC'
              obtain ⟨mA, O, _⟩ := ins_get I.hok hH
              obtain ⟨od, J, _⟩ := O.look
              obtain ⟨mF, hF⟩ := I.fr
              obtain ⟨tv, e1, ty⟩ := tag_rel rl r2 q4
              obtain ⟨Pk, Z, pk, _⟩ := kit_of I ry (by rw [cc.k]; exact ty)
              have oC : tagVal G.cls (.o c) = some (.ref C) := by show (G.cls c).map Value.ref = _; rw [hC]; rfl
              have nf : PySem.W.notFirst X.K C tv = true := by
                unfold PySem.W.notFirst
                rw [Bool.or_eq_true] at hn ⊢
                rcases hn with hn | hn
                · refine .inl ?_
                  have e2 : t = .o c := beq_iff_eq.mp hn
                  subst e2
                  rw [oC] at e1
                  cases e1
                  exact beq_self_eq_true _
                · refine .inr ?_
                  have e2 : G.isi t (.o c) = some false := beq_iff_eq.mp hn
                  rw [beq_iff_eq, cc.k]
                  exact kit_false (G.isi_ok t (.o c) false tv (.ref C) e2 e1 oC)
              show wpAny (model X.prog X.w) X.A (richCompare .NotEq (.ref a) u) (EP X pins σ Q) X.xe s
              refine PySem.W.mi_ne (by omega) hF I.ok.mod.kin J (Z.ty _ _ I.kIn pk) nf hs (by rw [cc.k]; exact (G.ci c C hC).hm) he hf ?_
              have hsp : spG G g [.ref a, y] H (fun z H' => ∃ k, z = .bl k ∧ Q (.bl (!k)) H') E0 := ⟨ρ, S, [.ref i, d2], rl, .cons (.ref hi) (.cons r2 .nil), by
                cases q5 : g [.ref i, d2] S with
                | ok d S1 =>
                  rw [q5] at p
                  intro ρ1 H1 z l1 rl1 rv1
                  cases rv1 with
                  | bl k => exact ⟨k, rfl, p ρ1 H1 _ l1 rl1 (.bl _)⟩
                  | _ => exact False.elim p
                | exc xx S1 => rw [q5] at p; exact False.elim p
                | bad => rw [q5] at p; exact False.elim p⟩
              refine wpAny_call (codeAny_mono (F X.A.in1 X.stack s H [.ref a, u] [.ref a, y] _ E0 hr.in1 I.env0.in1 (.cons rfl (.cons ry .nil)) hsp) fun r s' hq => ?_)
              cases r with
              | error er => exact False.elim (passNox (X := X) pins σ H s er s' (I.wish _) hq)
              | ok fl =>
                cases fl with
                | ret w =>
                  obtain ⟨z, H', I', rz, k, ez, q6⟩ := I.after hq
                  subst ez
                  cases rz
                  exact ⟨k, rfl, .bl (!k), H', I', rfl, q6⟩
                | next => exact False.elim hq
                | brk => exact False.elim hq
                | cont => exact False.elim hq
            · rw [if_neg hn] at p
              exact p.elim
      | _ => simp only [q] at p; exact p.elim
  | _ => exact p.elim
end
/-! ### instances called -/
def eCallI (ds : Disp) (mf : ME) (ma : MA) : ME := fun σ S => (mf σ S).bind fun o S1 => match o with
  | .ref i => (ma σ S1).bind fun xs S2 => (match S2.get i with
    | some (.ins c _) => (match ds c with | some g => g (.ref i :: xs) S2 | none => .bad)
    | _ => .bad)
  | _ => .bad
structure CallOS (G : Gx) (X : Cx) (c : Nat) (g : FN) : Prop where
  ex : ∃ C f k, G.cls c = some C ∧ StX.CallO X.K C f ∧ FnR X.prog X.w X.K X.mg X.base (L2.CX X.prog X.w) k f (spG G g) ∧ Room k X.A
section
variable {G : Gx} {X : Cx} {W : WX} {e fe o : Expr} {es : List Expr} {pos apos p : Pos} {ma : MA} {mf mo m : ME} {name : Str}
theorem se_callI {ds : Disp} (cc : Cc G X W) (hf : SE G X W fe mf) (hd : ∀ c g, ds c = some g → CallOS G X c g) (ha : SA G X W (e :: es) ma)
    (ht : eval (.Call fe (e :: es) [] pos) X.env = (do callWith pos (← eval fe X.env) [] (backTo pos (starEach (e :: es) X.env)) (backToKw pos (keywordEach [] X.env))) := by rfl)
    (he : starEach (e :: es) X.env = (false, eval e X.env) :: starEach es X.env := by rfl) (hpl : (backTo pos (starEach es X.env)).any (·.1) = false := by rfl) : SE G X W (.Call fe (e :: es) [] pos) (eCallI ds mf ma) := by
  refine ⟨fun pins s σ H Q I ⟨ρ, σs, S, rl, re, p⟩ => ?_⟩
  refine Call_ (hf.go I rl re p fun u s1 x H1 ρ1 S1 d I1 rx l1 rl1 re1 rv1 p1 => ?_) ht
  cases rv1 with
  | @ref i a hi =>
    obtain rfl : u = Value.ref a := rx
    refine StX.callO_with (ha.go I1 rl1 re1 p1 fun us s2 xs H2 ρ2 S2 ds' I2 rx2 l2 rl2 re2 rv2 p2 => ?_) he hpl
    cases q : S2.get i with
    | none => simp only [q] at p2; exact p2.elim
    | some ob =>
      cases ob with
      | ins c fs =>
        simp only [q] at p2
        cases q2 : ds c with
        | none => simp only [q2] at p2; exact p2.elim
        | some g =>
          simp only [q2] at p2
          obtain ⟨C, f, k, hC, hco, F, hr⟩ := (hd c g q2).ex
          have hi2 := pre_get l2.pre hi
          obtain ⟨C', dx, us', hC', hH⟩ := inst_at rl2 hi2 q
          rw [hC] at hC'
          cases hC'
          obtain ⟨mA, O, _⟩ := ins_get I2.hok hH
          obtain ⟨od, J, _⟩ := O.look
          refine ⟨⟨C, _, _, J, rfl⟩, ?_⟩
          refine wpAny_call (PySem.W.kco_code I2.kIn J rfl hco.at_ hco.fn hco.fi ?_)
          refine codeAny_mono (F X.A X.stack s2 H2 (.ref a :: us) (.ref a :: xs) Q (EW W σ) hr I2.env0 (.cons rfl rx2) ⟨ρ2, S2, .ref i :: ds', rl2, .cons (.ref hi2) rv2, p2⟩) fun r s' hq => ?_
          cases r with
          | error er => exact passAt cc.tk σ pins H2 s2 er s' I2 hq
          | ok fl =>
            cases fl with
            | ret w => exact I2.after hq
            | next => exact False.elim hq
            | brk => exact False.elim hq
            | cont => exact False.elim hq
      | _ => simp only [q] at p2; exact p2.elim
  | _ => exact False.elim p1

/-! ### methods of lists -/
def eBm (ck : D → Store → Bool) (f : D → List D → Store → Res D) (mo : ME) (ma : MA) : ME := fun σ S => (mo σ S).bind fun o S1 => if ck o S1 then (ma σ S1).bind fun xs S2 => f o xs S2 else .bad
def MtS (G : Gx) (X : Cx) (W : WX) (id : String) (f : D → List D → Store → Res D) : Prop :=
  ∀ (pins : List (Addr × Obj)) (s : Shared) (σ : St) (H : Hp) (x : V) (xs : List V) (v : Value) (us : List Value) (Q : VK) (ρ : Wd) (S : Store) (d : D) (ds : List D), Inv X pins σ H s → RelV x v → Vals xs us → Rl G ρ S H → RV G ρ H d x → RVs G ρ H ds xs →
    Post G ρ H (f d ds S) Q (EW W σ) → wpAny (model X.prog X.w) X.A (call (.builtin id) (v :: us)) (EP X pins σ Q) X.xe s
theorem MtS.of {id : String} {f : D → List D → Store → Res D} {r : V → List V → Hp → VK → Prop} (hm : MtR X id r) (h : ∀ ρ S H d ds x xs Q E, Rl G ρ S H → RV G ρ H d x → RVs G ρ H ds xs → Post G ρ H (f d ds S) Q E → r x xs H Q) : MtS G X W id f :=
  fun pins s σ H x xs v us Q ρ S d ds I rx rs rl r1 r2 p => hm pins s σ H x xs v us Q I rx rs (h ρ S H d ds x xs Q _ rl r1 r2 p)
theorem se_bm {T id : String} {ck : D → Store → Bool} {f : D → List D → Store → Res D} (pa : PlainAttrs T) (slot : Slot T name id) (hty : typeOf (.builtin id) = pure (.type "method_descriptor")) (hm : MtS G X W id f)
    (hT : ∀ ρ S H d x, Rl G ρ S H → RV G ρ H d x → ck d S = true → tyV X.K T x H) (ho : SE G X W o mo) (ha : SA G X W (e :: es) ma)
    (hbase : attributeBase o name X.env (eval o X.env) = eval o X.env := by rfl)
    (hfew : ((backTo pos (starEach (e :: es) X.env)).all (fun x => !x.1) && (backToKw pos (keywordEach [] X.env)).all (fun x => x.1.isSome)
      && decide ((e :: es).length + ([] : List Keyword).length + (if ([] : List Keyword).isEmpty then 0 else 1) < 30)) = true := by rfl)
    (hline : (apos.endLine == pos.line) = true := by rfl) (hs : starEach (e :: es) X.env = (false, eval e X.env) :: starEach es X.env := by rfl) (hplain : (backTo pos (starEach es X.env)).any (·.1) = false := by rfl) :
    SE G X W (.Call (.Attribute o name apos) (e :: es) [] pos) (eBm ck f mo ma) := by
  refine ⟨fun pins s σ H Q I ⟨ρ, σs, S, rl, re, p⟩ => ?_⟩
  refine wpAny_Call_method_late hbase hfew hline rfl (ho.go I rl re p fun v s1 x H1 ρ1 S1 d I1 r1 l1 rl1 re1 rv1 p1 => ?_)
  by_cases hc : ck d S1 = true
  · rw [if_pos hc] at p1
    obtain ⟨h1, h2⟩ := tyV_is I1 r1 (hT ρ1 S1 H1 d x rl1 rv1 hc)
    refine ⟨T, id, pa, slot, hty, h1, h2, ?_⟩
    have hA : wpAny (model X.prog X.w) X.A (spliced (backTo pos (starEach (e :: es) X.env))) (fun us s2 => wpAny (model X.prog X.w) X.A (call (.builtin id) (v :: us)) (EP X pins σ Q) X.xe s2) X.xe s1 :=
      ha.go I1 rl1 re1 p1 fun us s2 xs H2 ρ2 S2 ds I2 rx2 l2 rl2 re2 rv2 p2 => hm pins s2 σ H2 x xs v us Q ρ2 S2 d ds I2 r1 rx2 rl2 (rv1.mono l2) rv2 p2
    rw [hs] at hA ⊢
    refine Calls.callWith_builtin (by show (false || (backTo pos (starEach es X.env)).any (·.1)) = false; rw [hplain] <;> rfl) (Calls.evalArgs_plain ?_)
    exact hA
  · rw [if_neg hc] at p1
    exact p1.elim
theorem se_bm0 {T id : String} {ck : D → Store → Bool} {f : D → List D → Store → Res D} (pa : PlainAttrs T) (slot : Slot T name id) (hty : typeOf (.builtin id) = pure (.type "method_descriptor")) (hm : MtS G X W id f)
    (hT : ∀ ρ S H d x, Rl G ρ S H → RV G ρ H d x → ck d S = true → tyV X.K T x H) (ho : SE G X W o mo)
    (hbase : attributeBase o name X.env (eval o X.env) = eval o X.env := by rfl) (hline : (apos.endLine == pos.line) = true := by rfl) : SE G X W (.Call (.Attribute o name apos) [] [] pos) (eBm ck f mo (aList [])) := by
  refine ⟨fun pins s σ H Q I ⟨ρ, σs, S, rl, re, p⟩ => ?_⟩
  refine wpAny_Call_method0_late hbase hline (ho.go I rl re p fun v s1 x H1 ρ1 S1 d I1 r1 l1 rl1 re1 rv1 p1 => ?_)
  by_cases hc : ck d S1 = true
  · rw [if_pos hc] at p1
    obtain ⟨h1, h2⟩ := tyV_is I1 r1 (hT ρ1 S1 H1 d x rl1 rv1 hc)
    exact ⟨T, id, pa, slot, hty, h1, h2, Calls.callWith_builtin rfl (PySem.evalArgs_none (hm pins s1 σ H1 x [] v [] Q ρ1 S1 d [] I1 r1 .nil rl1 rv1 .nil p1))⟩
  · rw [if_neg hc] at p1
    exact p1.elim
def isLst (d : D) (S : Store) : Bool := (listAt S d).isSome
theorem ck_list (cc : Cc G X W) : ∀ ρ S H d x, Rl G ρ S H → RV G ρ H d x → isLst d S = true → tyV X.K "list" x H := fun ρ S H d x rl rv h => by
  unfold isLst at h
  cases q : listAt S d with
  | none => rw [q] at h; cases h
  | some ds =>
    obtain ⟨a, xs, rfl, hq, _⟩ := listAt_rel rl rv q
    exact .inl ⟨rfl, xs, by rw [cc.k]; exact hq⟩
def appendF : D → List D → Store → Res D := fun o xs S => match o, xs with
  | .ref i, [y] => (match S.get i with
    | some (.lst ds) => if ds.length < lim then .ok .non (S.set i (.lst (ds ++ [y]))) else .bad
    | _ => .bad)
  | _, _ => .bad
def popF : D → List D → Store → Res D := fun o xs S => match o, xs with
  | .ref i, [] => (match S.get i with
    | some (.lst ds) => (match ds[ds.length - 1]? with | some y => .ok y (S.set i (.lst ds.dropLast)) | none => .bad)
    | _ => .bad)
  | _, _ => .bad
theorem lst_at {ρ : Wd} {S : Store} {H : Hp} {i : Nat} {a : Addr} {ds : List D} (rl : Rl G ρ S H) (hi : ρ.v[i]? = some a) (q : S.get i = some (.lst ds)) : ∃ xs, H a = some (.lst xs) ∧ RVs G ρ H ds xs := by
  obtain ⟨u, hu, ro⟩ := rl.at hi q
  cases ro with
  | lst r => exact ⟨_, hu, r⟩
theorem mts_append : MtS G X W "list.append" appendF := MtS.of mt_append fun ρ S H d ds x xs Q E rl r1 r2 p => by
  unfold appendF at p
  split at p
  · rename_i i y
    obtain ⟨z, rfl, hz⟩ := rvs1 r2
    cases r1 with
    | @ref i a hi =>
      cases q : S.get i with
      | none => simp only [q] at p; exact p.elim
      | some ob =>
        cases ob with
        | lst es =>
          simp only [q] at p
          obtain ⟨us, hu, hr⟩ := lst_at rl hi q
          by_cases hl : es.length < lim
          · rw [if_pos hl] at p
            exact ⟨a, us, z, rfl, rfl, hu, by rw [← hr.length]; exact lim_lt hl, p ρ _ _ (rl.leUpd hi hu trivial) (rl.set hi q hu trivial (.lst (hr.append (.cons hz .nil)))) .non⟩
          · rw [if_neg hl] at p
            exact p.elim
        | _ => simp only [q] at p; exact p.elim
  · exact p.elim
theorem RVs.dropLast {ρ : Wd} {H : Hp} : ∀ {ds : List D} {xs : List V}, RVs G ρ H ds xs → RVs G ρ H ds.dropLast xs.dropLast
  | _, _, .nil => .nil
  | _, _, .cons _ .nil => .nil
  | _, _, .cons h (.cons h' t) => .cons h (RVs.dropLast (.cons h' t))
theorem mts_pop : MtS G X W "list.pop" popF := MtS.of mt_pop fun ρ S H d ds x xs Q E rl r1 r2 p => by
  unfold popF at p
  split at p
  · rename_i i
    cases r2
    cases r1 with
    | @ref i a hi =>
      cases q : S.get i with
      | none => simp only [q] at p; exact p.elim
      | some ob =>
        cases ob with
        | lst es =>
          simp only [q] at p
          obtain ⟨us, hu, hr⟩ := lst_at rl hi q
          cases q2 : es[es.length - 1]? with
          | none => simp only [q2] at p; exact p.elim
          | some y =>
            simp only [q2] at p
            obtain ⟨v, h1, h2⟩ := hr.get q2
            have l := rl.leUpd (u' := .lst us.dropLast) hi hu trivial
            exact ⟨a, us, v, rfl, rfl, hu, by rw [← hr.length]; exact h1, p ρ _ _ l (rl.set hi q hu trivial (.lst hr.dropLast)) (h2.mono l)⟩
        | _ => simp only [q] at p; exact p.elim
  · exact p.elim
/-- l[i] = v -/
def setL : D → D → D → Store → Option Store := fun o i v S => match o, i with
  | .ref a, .int k => (match S.get a with
    | some (.lst ds) => (match ixN ds.length k with | some j => some (S.set a (.lst (ds.set j v))) | none => none)
    | _ => none)
  | _, _ => none
theorem sts_list : StS G X setL := by
  intro pins s σ H x y z v u w Q ρ S S' d1 d2 d3 I rx ry rz rl r1 r2 r3 h k
  unfold setL at h
  split at h
  · rename_i i n
    cases r1 with
    | @ref i a hi =>
      cases r2 with
      | int _ =>
        cases q : S.get i with
        | none => simp only [q] at h; cases h
        | some ob =>
          cases ob with
          | lst es =>
            simp only [q] at h
            obtain ⟨us, hu, hr⟩ := lst_at rl hi q
            cases q2 : ixN es.length n with
            | none => simp only [q2] at h; cases h
            | some j =>
              simp only [q2] at h
              cases h
              refine set_list pins s σ H _ _ _ v u w Q I rx ry rz ⟨a, us, n, j, rfl, rfl, hu, by rw [← hr.length]; exact q2, ?_⟩
              exact k ρ _ (rl.leUpd hi hu trivial) (rl.set hi q hu trivial (.lst (hr.set r3 j)))
          | _ => simp only [q] at h; cases h
  · cases h
end
end L2.Mi

set_option Elab.async false
set_option linter.all false
set_option maxRecDepth 100000
set_option maxHeartbeats 4000000
/-! Mini, 9: list comprehensions, enumerate of tuples. -/
namespace L2.Mi
open PySem PySem.Spec PyProof.Rows

/-! ### slots wiped -/
def wipeD (σ : En) : List Nat → En
  | [] => σ
  | v :: vs => (wipeD σ vs).set v none
theorem wipe_set {σ : St} {i : Nat} {o : Option V} : ∀ {vs : List Nat}, wipe (σ.set i o) vs = if i ∈ vs then wipe σ vs else (wipe σ vs).set i o
  | [] => by simp [wipe]
  | w :: vs => by
    unfold wipe
    rw [wipe_set (vs := vs)]
    by_cases h1 : i ∈ vs
    · simp [h1]
    · by_cases h2 : i = w
      · subst h2
        simp [h1, List.set_set]
      · simp only [h1, List.mem_cons, h2, or_self, if_false]
        rw [List.set_comm _ _ h2]
theorem wipe_wipe {σ : St} : ∀ {vs : List Nat}, wipe (wipe σ vs) vs = wipe σ vs := by
  have key : ∀ (ws vs : List Nat), (∀ w ∈ ws, w ∈ vs) → wipe (wipe σ ws) vs = wipe σ vs := by
    intro ws
    induction ws with
    | nil => intro vs _; rfl
    | cons w ws ih =>
      intro vs h
      show wipe ((wipe σ ws).set w none) vs = _
      rw [wipe_set, if_pos (h w (by simp))]
      exact ih vs fun x hx => h x (by simp [hx])
  exact fun {vs} => key vs vs fun _ h => h
/-- the targets of a comprehension: a name, some names -/
inductive TgN where
  | one (i : Nat)
  | many (is : List Nat)
def TgN.slots : TgN → List Nat
  | .one i => [i]
  | .many is => is
def setAll : List Nat → List D → En → Option En
  | [], [], σ => some σ
  | i :: is, d :: ds, σ => setAll is ds (σ.set i (some d))
  | _, _, _ => none
def TgN.put (t : TgN) (d : D) (σ : En) : Option En := match t with
  | .one i => some (σ.set i (some d))
  | .many is => (match d with | .tup ds => setAll is ds σ | _ => none)
def gNames : List Nat → TGs
  | [] => gNil
  | i :: is => gCons (L2.gName i) (gNames is)
def TgN.tg (K : PySem.W.Frag) : TgN → TG
  | .one i => L2.gName i
  | .many is => L2.gTup K is.length (gNames is)
section
variable {G : Gx} {ρ : Wd} {H : Hp}
theorem RE.setNone {σs : En} {σ : St} (r : RE G ρ H σs σ) (i : Nat) : RE G ρ H (σs.set i none) (σ.set i none) := by
  refine ⟨by simp [r.len], fun j e hj => ?_⟩
  by_cases hij : i = j
  · subst hij
    by_cases hl : i < σs.length
    · rw [List.getElem?_set_self hl] at hj; cases hj
    · rw [List.getElem?_eq_none (by simpa using hl)] at hj; cases hj
  · rw [List.getElem?_set_ne hij] at hj ⊢
    exact r.get j e hj
theorem RE.wipe {σs : En} {σ : St} (r : RE G ρ H σs σ) : ∀ (vs : List Nat), RE G ρ H (wipeD σs vs) (L2.wipe σ vs)
  | [] => r
  | v :: vs => (RE.wipe r vs).setNone v
theorem names_go {Q : St → Hp → Prop} : ∀ {is : List Nat} {ds : List D} {xs : List V} {σs σ2 : En} {σ : St}, RVs G ρ H ds xs → RE G ρ H σs σ → setAll is ds σs = some σ2 → ∀ (vs : List Nat), (∀ i ∈ is, i ∈ vs) →
    (∀ σ', RE G ρ H σ2 σ' → L2.wipe σ' vs = L2.wipe σ vs → Q σ' H) → gNames is xs σ H Q
  | [], [], _, _, _, _, .nil, re, h, vs, _, k => by cases h; exact ⟨rfl, k _ re rfl⟩
  | i :: is, d :: ds, _, σs, σ2, σ, .cons r t, re, h, vs, hv, k => by
    refine ⟨_, _, rfl, ?_⟩
    show gNames is _ (σ.set i (some _)) H Q
    refine names_go t (re.set i r) h vs (fun j hj => hv j (by simp [hj])) fun σ' re' e => k σ' re' ?_
    rw [e, wipe_set, if_pos (hv i (by simp))]
  | [], _ :: _, _, _, _, _, _, _, h, _, _, _ => by cases h
  | _ :: _, [], _, _, _, _, _, _, h, _, _, _ => by cases h
theorem setAll_len : ∀ {is : List Nat} {ds : List D} {σs σ2 : En}, setAll is ds σs = some σ2 → ds.length = is.length
  | [], [], _, _, _ => rfl
  | _ :: is, _ :: ds, _, _, h => by simp [setAll_len (is := is) (ds := ds) h]
  | [], _ :: _, _, _, h => by cases h
  | _ :: _, [], _, _, h => by cases h
theorem put_go {Q : St → Hp → Prop} {K : PySem.W.Frag} {t : TgN} {d : D} {x : V} {σs σ2 : En} {σ : St} (rv : RV G ρ H d x) (re : RE G ρ H σs σ) (h : t.put d σs = some σ2) (vs : List Nat) (hv : ∀ i ∈ t.slots, i ∈ vs)
    (k : ∀ σ', RE G ρ H σ2 σ' → L2.wipe σ' vs = L2.wipe σ vs → Q σ' H) : t.tg K x σ H Q := by
  cases t with
  | one i =>
    cases h
    refine k _ (re.set i rv) ?_
    rw [wipe_set, if_pos (hv i (by simp [TgN.slots]))]
  | many is =>
    cases rv with
    | @tup ds a xs ht hr =>
      have h' : setAll is ds σs = some σ2 := h
      exact ⟨a, xs, rfl, SqT.of ht, by rw [← hr.length]; exact setAll_len h', names_go hr re h' vs hv k⟩
    | _ => cases h
end
/-! ### the loop -/
def lcGo (src : Src) (t : TgN) (mt : MT) (me : ME) (σ : En) : Nat → Nat → List D → Store → Res (List D)
  | 0, _, _, _ => .bad
  | n + 1, k, acc, S => match src k S with
    | none => .bad
    | some none => .ok acc S
    | some (some d) => (match t.put d σ with
      | none => .bad
      | some σ2 => (match mt σ2 S with
        | .ok true S1 => (match me σ2 S1 with
          | .ok y S2 => if acc.length < lim then lcGo src t mt me σ n (k + 1) (acc ++ [y]) S2 else .bad
          | _ => .bad)
        | .ok false S1 => lcGo src t mt me σ n (k + 1) acc S1
        | _ => .bad))
/-- the list as a value that nobody changes, as one that is changed later -/
def eLcV (mi : MI) (t : TgN) (mt : MT) (me : ME) (vs : List Nat) (n : Nat) : ME := fun σ S => (mi σ S).bind fun src S1 => (lcGo src t mt me (wipeD σ vs) n 0 [] S1).bind fun ds S2 => .ok (.lv ds) S2
def eLc (mi : MI) (t : TgN) (mt : MT) (me : ME) (vs : List Nat) (n : Nat) : ME := fun σ S => (mi σ S).bind fun src S1 => (lcGo src t mt me (wipeD σ vs) n 0 [] S1).bind fun ds S2 => .ok (.ref S2.size) (S2.push (.lst ds))
def tYesM : MT := fun _ S => .ok true S
abbrev W0 : WX := fun _ _ _ _ => False
section
variable {G : Gx} {X : Cx} {W : WX}
theorem cc_blk (cc : Cc G X W) {s : Shared} {H : Hp} {scope : Scope} {cenv : Env} {fp : List Addr} : Cc G (X.blk s H scope cenv fp) W0 := ⟨cc.k, takes0, PassesOwn.never, cc.calm, cc.nd⟩
theorem sts_nil : PTs X [] (tmt G W tYesM) := ⟨fun pins s σ H Q I ⟨ρ, σs, S, rl, re, p⟩ => (pts_nil).run pins s σ H Q I (p ρ H true Le.refl rl rfl)⟩
theorem sts_one {c : Expr} {t : MT} (h : ST G X W c t) : PTs X [c] (tmt G W t) := pts_one h
/-! the list that grows is hidden -/
theorem Mv.unhide {ρ : Wd} {a : Addr} {H : Hp} : Mv G ⟨ρ.v, a :: ρ.h⟩ H ρ H :=
  ⟨fun _ _ h => h, fun _ _ _ h => h, fun _ _ n h => ⟨⟨n.1, fun z => n.2 (List.mem_cons_of_mem _ z)⟩, h⟩, fun _ _ n _ h => ⟨⟨n.1, fun z => n.2 (List.mem_cons_of_mem _ z)⟩, h⟩⟩
theorem Mv.hide {ρ : Wd} {a : Addr} {H : Hp} {u : HO} (hn : H a = none) : Mv G ρ H ⟨ρ.v, a :: ρ.h⟩ (L2.upd H a u) := by
  have ne : ∀ b, H b ≠ none → b ≠ a := fun b hb z => hb (by rw [z]; exact hn)
  refine ⟨fun _ _ h => h, tk_new hn, fun b xs n h => ?_, fun b v n _ h => ?_⟩
  · have hb := ne b (by rw [h]; simp)
    exact ⟨⟨n.1, by simp [hb, n.2]⟩, by rw [upd_ne hb]; exact h⟩
  · have hb := ne b (rd_some h)
    exact ⟨⟨n.1, by simp [hb, n.2]⟩, rd_new hn h⟩
theorem Rl.unhide {ρ : Wd} {a : Addr} {S : Store} {H : Hp} (r : Rl G ⟨ρ.v, a :: ρ.h⟩ S H) : Rl G ρ S H :=
  ⟨r.len, r.nd, fun b hb => r.hh b (List.mem_cons_of_mem _ hb), fun i o e => let ⟨b, u, h1, h2, h3⟩ := r.ob i o e; ⟨b, u, h1, h2, h3.move Mv.unhide⟩⟩
theorem Rl.hide {ρ : Wd} {a : Addr} {S : Store} {H : Hp} {u : HO} (r : Rl G ρ S H) (hn : H a = none) : Rl G ⟨ρ.v, a :: ρ.h⟩ S (L2.upd H a u) := by
  have r1 := r.other (o := u) hn
  refine ⟨r.len, r.nd, fun b hb => ?_, fun i o e => ?_⟩
  · rcases List.mem_cons.mp hb with rfl | hb
    · exact ⟨(r.no hn).1, by rw [upd_same]; simp⟩
    · exact r1.hh b hb
  · obtain ⟨b, w, h1, h2, h3⟩ := r.ob i o e
    exact ⟨b, w, h1, by rw [upd_ne (ne_of_none h2 hn)]; exact h2, h3.move (Mv.hide hn)⟩
/-- the hidden thing is changed: values stand -/
theorem Mv.grow {ρ : Wd} {a : Addr} {H : Hp} {u w : HO} (hw : H a = some w) (nt : NoT w) (hm : a ∈ ρ.h) : Mv G ρ H ρ (L2.upd H a u) := by
  refine ⟨fun _ _ h => h, tk_upd hw nt, fun b xs n h => ⟨n, ?_⟩, fun b v n _ h => ⟨n, ?_⟩⟩
  · rw [upd_ne (show b ≠ a from fun z => n.2 (by rw [z]; exact hm))]
    exact h
  · have hb : b ≠ a := fun z => n.2 (by rw [z]; exact hm)
    rcases h with h | ⟨o, h⟩
    · exact .inl (by rw [upd_ne hb]; exact h)
    · exact .inr ⟨o, by rw [upd_ne hb]; exact h⟩
theorem Rl.grow {ρ : Wd} {a : Addr} {S : Store} {H : Hp} {u w : HO} (r : Rl G ρ S H) (hw : H a = some w) (nt : NoT w) (hm : a ∈ ρ.h) : Rl G ρ S (L2.upd H a u) := by
  refine ⟨r.len, r.nd, fun b hb => ⟨(r.hh b hb).1, ?_⟩, fun i o e => ?_⟩
  · by_cases hba : b = a
    · subst hba; rw [upd_same]; simp
    · rw [upd_ne hba]; exact (r.hh b hb).2
  · obtain ⟨b, v, h1, h2, h3⟩ := r.ob i o e
    refine ⟨b, v, h1, ?_, h3.move (Mv.grow hw nt hm)⟩
    rw [upd_ne (show b ≠ a from fun z => (r.hh a hm).1 (by rw [← z]; exact List.mem_of_getElem? h1))]
    exact h2
/-- a new thing at a is hidden -/
theorem Le.hide {ρ : Wd} {a : Addr} {H : Hp} {u : HO} (hn : H a = none) {ρ' : Wd} {H' : Hp} (hh : ∀ b, b ∈ ρ.h → H b ≠ none) (l : Le G ⟨ρ.v, a :: ρ.h⟩ (L2.upd H a u) ρ' H') : Le G ρ H ⟨ρ'.v, ρ.h⟩ H' := by
  have e : ρ'.h = a :: ρ.h := l.hid
  have ne : ∀ b, H b ≠ none → b ≠ a := fun b hb z => hb (by rw [z]; exact hn)
  refine ⟨l.pre, rfl, fun b xs t h => l.tk b xs t (by rw [upd_ne (ne b (by rw [h]; simp))]; exact h), fun b xs nb h => ?_, fun b v nb dk h => ?_, fun b nb h => ?_, fun b hb h => ?_⟩
  · have hb := ne b (by rw [h]; simp)
    exact l.kl b xs ⟨nb.1, by simp [hb, nb.2]⟩ (by rw [upd_ne hb]; exact h)
  · have hb := ne b (rd_some h)
    exact l.kp b v ⟨nb.1, by simp [hb, nb.2]⟩ dk (rd_new hn h)
  · have hb := ne b h
    obtain ⟨h1, h2⟩ := l.ni b ⟨nb.1, by simp [hb, nb.2]⟩ (by rw [upd_ne hb]; exact h)
    exact ⟨⟨h1.1, nb.2⟩, h2⟩
  · have hb' := ne b h
    rw [l.kh b (List.mem_cons_of_mem _ hb) (by rw [upd_ne hb']; exact h), upd_ne hb']
/-- the hidden thing is changed -/
theorem Le.grow {ρ : Wd} {a : Addr} {H : Hp} {u u' : HO} (hn : H a = none) {ρ' : Wd} {H' : Hp} {w : HO} (hw : H' a = some w) (nt : NoT w) (nv : a ∉ ρ'.v) (l : Le G ⟨ρ.v, a :: ρ.h⟩ (L2.upd H a u) ρ' H') : Le G ⟨ρ.v, a :: ρ.h⟩ (L2.upd H a u') ρ' (L2.upd H' a u') := by
  have e : ρ'.h = a :: ρ.h := l.hid
  have up : ∀ b, b ≠ a → L2.upd H a u' b = L2.upd H a u b := fun b hb => by rw [upd_ne hb, upd_ne hb]
  have nn : ∀ b, (⟨ρ.v, a :: ρ.h⟩ : Wd).no b → b ≠ a := fun b nb z => nb.2 (by rw [z]; exact List.mem_cons_self)
  refine ⟨l.pre, l.hid, fun b xs t h => ?_, fun b xs nb h => ?_, fun b v nb dk h => ?_, fun b nb h => ?_, fun b hb h => ?_⟩
  · by_cases hb : b = a
    · subst hb
      rw [upd_same] at h
      rw [upd_same]
      exact h
    · rw [up b hb] at h
      rw [upd_ne hb]
      exact l.tk b xs t h
  · rw [up b (nn b nb)] at h
    rw [upd_ne (nn b nb)]
    exact l.kl b xs nb h
  · have hb := nn b nb
    have h' : Rd (L2.upd H a u) b v := by
      rcases h with h | ⟨o, h⟩
      · exact .inl (by rw [← up b hb]; exact h)
      · exact .inr ⟨o, by rw [← up b hb]; exact h⟩
    rcases l.kp b v nb dk h' with h | ⟨o, h⟩
    · exact .inl (by rw [upd_ne hb]; exact h)
    · exact .inr ⟨o, by rw [upd_ne hb]; exact h⟩
  · have hb := nn b nb
    rw [up b hb] at h
    obtain ⟨h1, h2⟩ := l.ni b nb h
    exact ⟨h1, by rw [upd_ne hb]; exact h2⟩
  · by_cases hba : b = a
    · subst hba
      rw [upd_same, upd_same]
    · rw [up b hba] at h
      rw [upd_ne hba, up b hba]
      exact l.kh b hb h
/-- a comprehension's loop: its own list at Dl is hidden while it grows -/
theorem lc_read {mi : MI} {t : TgN} {mt : MT} {me : ME} {vs : List Nat} {n : Nat} {K : PySem.W.Frag} (hv : ∀ i ∈ t.slots, i ∈ vs) {σ : St} {H : Hp} {Q : VK} {ρ : Wd} {σs : En} {S : Store} (fin : List D → Store → Res D) (rl : Rl G ρ S H) (re : RE G ρ H σs σ)
    (hf : ∀ (ρ' : Wd) (H' : Hp) (S' : Store) (ds : List D) (xs : List V) (Dl : Addr), Rl G ρ' S' H' → H' Dl = some (.lst xs) → ρ'.no Dl → RVs G ρ' H' ds xs → Post G ρ' H' (fin ds S') Q (EW W σ) → Q (.ref Dl) H')
    (p : Post G ρ H ((mi σs S).bind fun src S1 => (lcGo src t mt me (wipeD σs vs) n 0 [] S1).bind fin) Q (EW W σ)) :
    tLc (tmi G W mi) (t.tg K) (tmt G W0 mt) (tm G W0 me) vs σ H Q := by
  refine ⟨ρ, σs, S, rl, re, PostR.bind (R := JR G) p fun ρ1 H1 S1 src J l1 rl1 jr p1 => ?_⟩
  intro Dl hD
  have re1 := re.mono l1
  -- what stands at each turn
  refine ⟨fun i m H => ∃ ρ S acc xs, Le G ⟨ρ1.v, Dl :: ρ1.h⟩ (L2.upd H1 Dl (.lst xs)) ρ H ∧ Rl G ρ S H ∧ H Dl = some (.lst xs) ∧ RVs G ρ H acc xs ∧ Post G ρ1 H1 ((lcGo src t mt me (wipeD σs vs) m i acc S).bind fin) Q (EW W σ),
    ⟨n, ⟨ρ1.v, Dl :: ρ1.h⟩, S1, [], [], Le.refl, rl1.hide hD, upd_same, .nil, p1⟩, ?_⟩
  rintro i m H2 ⟨ρ2, S2, acc, xs, l3, rl2, hDl, ra, p2⟩
  have hid : ρ2.h = Dl :: ρ1.h := l3.hid
  have hh1 : ∀ b, b ∈ ρ1.h → H1 b ≠ none := fun b hb => (rl1.hh b hb).2
  have lo : Le G ρ1 H1 ⟨ρ2.v, ρ1.h⟩ H2 := Le.hide hD hh1 l3
  have e2 : ρ2 = ⟨ρ2.v, Dl :: ρ1.h⟩ := by rw [← hid]
  have rlo : Rl G ⟨ρ2.v, ρ1.h⟩ S2 H2 := by rw [e2] at rl2; exact Rl.unhide (ρ := ⟨ρ2.v, ρ1.h⟩) rl2
  have nDv : Dl ∉ ρ2.v := (rl2.hh Dl (by rw [hid]; simp)).1
  have nDh : Dl ∉ ρ1.h := fun z => hh1 Dl z hD
  cases m with
  | zero => exact False.elim p2
  | succ m =>
    obtain ⟨j1, j2⟩ := jr ρ2 S2 H2 ((Mv.hide hD).trans l3.mv) rl2 i
    unfold lcGo at p2
    cases q : src i S2 with
    | none => simp only [q] at p2; exact False.elim p2
    | some o =>
      cases o with
      | none =>
        simp only [q] at p2
        refine .inl ⟨j2 q, hf ⟨ρ2.v, ρ1.h⟩ H2 S2 acc xs Dl rlo hDl ⟨nDv, nDh⟩ ?_ (PostR.le p2 lo)⟩
        rw [e2] at ra
        exact ra.move (Mv.unhide (ρ := ⟨ρ2.v, ρ1.h⟩))
      | some d =>
        simp only [q] at p2
        obtain ⟨go, yl⟩ := j1 d q
        refine .inr ⟨go, fun H => ∃ ρ S acc xs, Le G ⟨ρ1.v, Dl :: ρ1.h⟩ (L2.upd H1 Dl (.lst xs)) ρ H ∧ Rl G ρ S H ∧ H Dl = some (.lst xs) ∧ RVs G ρ H acc xs ∧ Post G ρ1 H1 ((lcGo src t mt me (wipeD σs vs) m (i + 1) acc S).bind fin) Q (EW W σ),
          fun H' w => ⟨m, Nat.lt_succ_self m, w⟩, fun x H3 hy => ?_⟩
        obtain ⟨l4, rl3, rv3⟩ := yl x H3 hy
        have mD : Dl ∈ ρ2.h := by rw [hid]; simp
        have hD3 : H3 Dl = some (.lst xs) := by rw [l4.kh Dl mD (by rw [hDl]; simp)]; exact hDl
        cases q1 : t.put d (wipeD σs vs) with
        | none => simp only [q1] at p2; exact False.elim p2
        | some σ2 =>
          simp only [q1] at p2
          have reh : RE G ρ2 H3 σs σ := (re1.move ((Mv.hide hD).trans l3.mv)).mono l4
          refine put_go rv3 (reh.wipe vs) q1 vs hv fun σ' re' e' => ⟨by rw [e', wipe_wipe], ρ2, σ2, S2, rl3, re', ?_⟩
          cases q2 : mt σ2 S2 with
          | exc xx S3 => simp only [q2] at p2; exact False.elim p2
          | bad => simp only [q2] at p2; exact False.elim p2
          | ok b S3 =>
            intro ρ4 H4 b' l5 rl4 eb
            subst eb
            have mD4 : Dl ∈ ρ4.h := by rw [l5.hid]; exact mD
            have hD4 : H4 Dl = some (.lst xs) := by rw [l5.kh Dl mD (by rw [hD3]; simp)]; exact hD3
            cases b with
            | false =>
              simp only [q2] at p2
              show if false = true then _ else _
              rw [if_neg Bool.false_ne_true]
              exact ⟨ρ4, S3, acc, xs, (l3.trans l4).trans l5, rl4, hD4, ra.mono (l4.trans l5), p2⟩
            | true =>
              simp only [q2] at p2
              show if true = true then _ else _
              rw [if_pos rfl]
              refine ⟨ρ4, σ2, S3, rl4, re'.mono l5, ?_⟩
              cases q3 : me σ2 S3 with
              | exc xx S4 => simp only [q3] at p2; exact False.elim p2
              | bad => simp only [q3] at p2; exact False.elim p2
              | ok y S4 =>
                simp only [q3] at p2
                intro ρ5 H5 yv l6 rl5 ry
                have mD5 : Dl ∈ ρ5.h := by rw [l6.hid]; exact mD4
                have hD5 : H5 Dl = some (.lst xs) := by rw [l6.kh Dl mD4 (by rw [hD4]; simp)]; exact hD4
                have nv5 : Dl ∉ ρ5.v := (rl5.hh Dl mD5).1
                by_cases hl : acc.length < lim
                · rw [if_pos hl] at p2
                  refine ⟨xs, hD5, by rw [← ra.length]; exact lim_lt hl, ρ5, S4, acc ++ [y], xs ++ [yv], ?_, rl5.grow hD5 trivial mD5, upd_same, ?_, p2⟩
                  · exact Le.grow hD hD5 trivial nv5 (((l3.trans l4).trans l5).trans l6)
                  · exact ((ra.mono ((l4.trans l5).trans l6)).append (.cons ry .nil)).move (Mv.grow hD5 trivial mD5)
                · rw [if_neg hl] at p2
                  exact False.elim p2
/-- [elt for t in iter if ..], nobody changes it -/
theorem se_lcv {elt tg iter : Expr} {ifs : List Expr} {scope : Scope} {own : List (Str × Nat)} {pos : Pos} {mi : MI} {t : TgN} {mt : MT} {me : ME} (n : Nat) (cc : Cc G X W) (hi : SI G X W tg iter mi) (ok : BlkOk X.N X.env.scope scope own) (hv : ∀ i ∈ t.slots, i ∈ own.map (·.2))
    (hg : ∀ (s : Shared) (H : Hp) (C : Addr) (cl : List (Str × Addr)) (fp : List Addr), PG (X.blk s H scope (compEnvC scope cl C X.env) fp) tg (t.tg X.K)) (ht : ∀ (s : Shared) (H : Hp) (C : Addr) (cl : List (Str × Addr)) (fp : List Addr), PTs (X.blk s H scope (compEnvC scope cl C X.env) fp) ifs (tmt G W0 mt))
    (he : ∀ (s : Shared) (H : Hp) (C : Addr) (cl : List (Str × Addr)) (fp : List Addr), SE G (X.blk s H scope (compEnvC scope cl C X.env) fp) W0 elt me) (hs : ∀ x, foldedSetIterable iter X.env x = pure x := by intro _; rfl) :
    SE G X W (.ListComp elt [⟨tg, iter, ifs, 0⟩] scope pos) (eLcV mi t mt me (own.map (·.2)) n) :=
  se_of (pe_lc cc.calm cc.nd hi ok hg ht he hs) fun σ H Q ρ σs S rl re p => lc_read hv (fun ds S2 => .ok (.lv ds) S2) rl re (fun ρ' H' S' ds xs Dl rl' h1 h2 h3 p' => post_ok (S := S') p' rl' (.lv h2 h1 h3)) p
end
end L2.Mi

set_option Elab.async false
set_option linter.all false
set_option maxRecDepth 100000
set_option maxHeartbeats 4000000
/-! Mini, 10: enumerate over tuples and lists, three names at once. -/
namespace PySem
open Sem (wp)
theorem mi_enum_new {v : Value} {o : Obj} {H : Heap → Prop} (B : Begins v o H) :
    Meets (Builtin.«enumerate.__new__» ⟨[.type "enumerate", v], []⟩) (fun _ R s => H s.heap ∧
      R (.ok (.ret (.ref (s.heap.push o).objs.size))) { s with heap := (s.heap.push o).push { cls := .type "enumerate", data := .fields #[.none, .bool false, .ref s.heap.objs.size, rawInt 0, .none, .none] } }) :=
  .of_wp fun prog w A R s h => by
    obtain ⟨hp, g, d, tk, os⟩ := s; obtain ⟨h1, h⟩ := h
    have hsub := sub_enumerate
    have q1 : ∀ {A' : Around} {E : Value → Shared → Prop} {Q : Value → Shared → Prop}, Q (.ref hp.objs.size) ⟨hp.push o, g, d, tk, os⟩ → wpAny (model prog w) A' (pyIter v) Q E ⟨hp, g, d, tk, os⟩ :=
      fun q => B.iter prog w _ _ ⟨hp, g, d, tk, os⟩ _ h1 q
    wp_walk using q1
    refine wpAny_stack_any fun st => wpAny_pure ?_
    split
    · rename_i c _ _ _ _ _
      cases (c == Value.type "enumerate")
      · wp_walk using q1
        exact ⟨_, rfl, h⟩
      · wp_walk using q1
        exact ⟨_, rfl, h⟩
    · wp_walk using q1
      exact ⟨_, rfl, h⟩
section
variable {prog : Program} {w : World} {A : Around} {E : Value → Shared → Prop} {s : Shared}
theorem mi_enum_begins {v : Value} {o : Obj} {H : Heap → Prop} {Q : Value → Shared → Prop} (B : Begins v o H) (h1 : H s.heap)
    (h : ∀ h', IsEnum h' (s.heap.objs.size + 1) s.heap.objs.size 0 .none → h'.get? s.heap.objs.size = some o → h'.objs.size = s.heap.objs.size + 2 →
      (∀ b o, s.heap.get? b = some o → h'.get? b = some o) → Q (.ref (s.heap.objs.size + 1)) { s with heap := h' }) :
    wpAny (model prog w) A (call (.type "enumerate") [v]) Q E s := by
  refine callType_new F.called_enumerate (by decide) (F.typeCall_enumerate_1 _) (F.newCall_enumerate_1 _) (fun obj => F.args_object_init_2 obj _) F.entry_enumerate_new
    (mi_enum_new B) ⟨h1, ?_⟩
  have hz : (s.heap.push o).objs.size = s.heap.objs.size + 1 := Heap.size_push ..
  show _ ∧ _
  rw [hz]
  have he : IsEnum ((s.heap.push o).push { cls := .type "enumerate", data := .fields #[.none, .bool false, .ref s.heap.objs.size, rawInt 0, .none, .none] }) (s.heap.objs.size + 1) s.heap.objs.size 0 .none := by
    have := Heap.get?_push_size (s.heap.push o) (o := { cls := .type "enumerate", data := .fields #[.none, .bool false, .ref s.heap.objs.size, rawInt 0, .none, .none] }) rfl
    rw [hz] at this; exact this
  refine ⟨⟨_, he, rfl⟩, h _ he (Heap.get?_push_of_some _ (Heap.get?_push_size _ B.free)) (by rw [Heap.size_push, hz]) fun b o x => Heap.get?_push_of_some _ (Heap.get?_push_of_some _ x)⟩
end
end PySem
namespace L2
open PySem PySem.Spec PyProof.Rows
/-- a tuple's items with their places -/
def Iet (K : PySem.W.Frag) (a : Addr) : It :=
  ⟨fun i H => ∃ (xs : List V) (x : V), SqT K H a xs ∧ xs[i]? = some x, fun i H v H' => ∃ T x, v = .ref T ∧ H T = none ∧ H' = upd H T (.tup [.int (i : Nat), x]) ∧ ∀ xs, SqT K H a xs → xs[i]? = some x, fun i H => ∃ xs : List V, SqT K H a xs ∧ xs.length = i⟩
theorem mi_turn_enum {P : Program} {w : World} {K : PySem.W.Frag} {elts : List Expr} {kk : Nat} {tpos : Pos} (a e it : Addr) :
    Turn P w K (.Tuple elts kk tpos) (Iet K a) [e, it] e (fun i h => (∃ old, IsEnum h e it ((i : Nat) : Int) old) ∧ h.IsTupleIter it a i ∧ e ≠ it ∧ a ≠ it ∧ a ≠ e) where
  mem := by simp
  obj := fun i h st b hb => by
    obtain ⟨⟨old, he⟩, ⟨o, ho, hc, hd⟩, _⟩ := st
    have e' : b = e ∨ b = it := by simpa using hb
    rcases e' with z | z
    · rw [z]; exact ⟨_, he, fun v q => nomatch q⟩
    · rw [z]; exact ⟨o, ho, fun v q => by rw [hd] at q; cases q⟩
  keep := fun i h h' st k => let ⟨⟨old, he⟩, hi, hne⟩ := st; ⟨⟨old, k e (by simp) _ he⟩, hi.at fun o q => k it (by simp) o q, hne⟩
  item := by
    intro X hP hw hK hc i pins s σ H E I hf st hg
    subst hP hw hK
    obtain ⟨⟨old, he⟩, hit, hne, hai, hae⟩ := st
    obtain ⟨xs, x, hq, hx⟩ := hg
    obtain ⟨its, rv, p, hz⟩ := I.tuple hq
    obtain ⟨u, hu, ru⟩ := rv.get hx
    have hel : e < s.heap.objs.size := Heap.lt_size he
    have hil : it < s.heap.objs.size := by obtain ⟨_, q, _⟩ := hit; exact Heap.lt_size q
    have hin : i < its.toArray.size := by
      obtain ⟨h1, _⟩ := List.getElem?_eq_some_iff.mp hu
      simpa using h1
    have hD : Draws X.prog X.w X.A.in1 it [it, a] its.toArray.size (fun i v => its.toArray[i]? = some v) (fun i h => h.IsTupleIter it a i ∧ h.IsTuple a its.toArray) := Draws.tuple (show X.A.in1.handled = none from I.ok.hd hc) it a hai its.toArray
    refine wpAny_pyNext_enum_itemD hD he ⟨hit, p⟩ hin hne (by simp [hne, Ne.symm hae]) fun y h' tk hy ho hst hT hsz hk => ?_
    have hy' : y = u := by
      have e1 : its[i]? = some y := by simpa using hy
      rw [hu] at e1
      exact (Option.some.inj e1).symm
    subst hy'
    obtain ⟨hit', _⟩ := hst
    refine ⟨_, rfl, wpAny_letOwnedTupleGo_enum (s := { s with heap := h', toks := tk + 1 }) ho fun h'' he' sb => ?_⟩
    have hT2 : h''.get? s.heap.objs.size = some { cls := .type "tuple", data := .seq #[.int i tk, y] } := (sb.2 _ (Nat.ne_of_gt hel)).trans hT
    have new : ObjOk X.prog X.w (upd H s.heap.objs.size (.tup [.int (i : Nat), x])) h'' s.heap.objs.size (.tup [.int (i : Nat), x]) :=
      ⟨by show 2 ≤ sizeLine; decide, [.int i tk, y], .cons ⟨_, rfl⟩ (.cons ru .nil), ⟨_, hT2, rfl, _, rfl⟩⟩
    have I1 : Inv X pins σ (upd H s.heap.objs.size (.tup [.int (i : Nat), x])) { s with heap := h'', toks := tk + 1 } :=
      I.turnedNew (ch := [e, it]) (fun b ob hb q => (sb.2 b (fun z => hb (by simp [z]))).trans (hk b ob (fun z => hb (by simp [z])) (fun z => hb (by simp [z])) q)) hf (Nat.le_refl _) new
    refine ⟨.ref s.heap.objs.size, _, I1, rfl, ⟨_, x, rfl, I.hok.fresh (Nat.le_refl _), rfl, fun ys hy => by rw [I.tuple_inj hy hq]; exact hx⟩, ⟨⟨y, ?_⟩, hit'.at fun o q => (sb.2 it (Ne.symm hne)).trans q, hne, hai, hae⟩, fun b hb => ?_⟩
    · have e1 : ((i + 1 : Nat) : Int) = (i : Int) + 1 := by omega
      rw [e1]; exact he'
    · have hb' : b < s.heap.objs.size := by
        have e' : b = e ∨ b = it := by simpa using hb
        rcases e' with z | z
        · rw [z]; exact hel
        · rw [z]; exact hil
      rw [upd_ne (Nat.ne_of_lt hb')]
      exact (hf b hb).1
  done := by
    intro X hP hw hK hc i pins s σ H E I hf st hg
    subst hP hw hK
    obtain ⟨⟨old, he⟩, hit, hne, hai, hae⟩ := st
    obtain ⟨xs, hq, hx⟩ := hg
    obtain ⟨its, rv, p, hz⟩ := I.tuple hq
    obtain ⟨f0, f1, f2, f3, f4, f5⟩ := hf it (by simp)
    have hl := rv.length
    have hD : Draws X.prog X.w X.A.in1 it [it, a] its.toArray.size (fun i v => its.toArray[i]? = some v) (fun i h => h.IsTupleIter it a i ∧ h.IsTuple a its.toArray) := Draws.tuple (show X.A.in1.handled = none from I.ok.hd hc) it a hai its.toArray
    have hit' : s.heap.IsTupleIter it a its.toArray.size := by
      have : its.toArray.size = i := by simp; omega
      rw [this]; exact hit
    exact wpAny_pyNext_enum_endD hD he ⟨hit', p⟩ fun h' eb => ⟨rfl, I.turned (t' := s.toks) (fun b o hb q => eb b o hb q) f0 f1 f3 f4 f5⟩
  self := fun A i s Q E st h => let ⟨⟨_, he⟩, _⟩ := st; wpAny_pyIter_enum he h
def iEnumT (K : PySem.W.Frag) (ta : TA) : TI := fun σ H R => ta σ H fun vs H1 => ∃ a xs, vs = [.ref a] ∧ SqT K H1 a xs ∧ R (Iet K a) H1
theorem pi_enumT {X : Cx} {e : Expr} {ta : TA} {p pos tpos : Pos} {elts : List Expr} {kk : Nat} (hg : Gl X "enumerate") (hm : X.mg "enumerate" = none) (ha : PA X [e] ta) (hs : starEach [e] X.env = [(false, eval e X.env)] := by rfl) :
    PI X (.Tuple elts kk tpos) (.Call (.Name "enumerate" p) [e] [] pos) (iEnumT X.K ta) := by
  refine ⟨fun pins s σ H R I h => ?_⟩
  refine Call_ (ld_blt I hg hm boot_enumerate (PyProof.Rows.callWith_type1 (thn (ha.run pos pins s σ H _ I h) fun us s1 ⟨vs, H1, I1, r1, q1⟩ => ?_) hs rfl))
  obtain ⟨a, xs, ex, hq, q⟩ := q1
  subst ex
  cases r1 with
  | cons r rr =>
    cases rr
    cases r
    obtain ⟨its, rv, p', hz⟩ := I1.tuple hq
    have hal : a < s1.heap.objs.size := by obtain ⟨_, q, _⟩ := p'; exact Heap.lt_size q
    refine mi_enum_begins (begins_tuple a its.toArray) p' fun h' he hit hsz hk => wpAny_pyIter_enum he ?_
    have I2 : Inv X pins σ H1 { s1 with heap := h' } := I1.kept (t' := s1.toks) hk
    refine ⟨s1.heap.objs.size + 1, [s1.heap.objs.size + 1, s1.heap.objs.size], _, _, H1, rfl, I2, mi_turn_enum a (s1.heap.objs.size + 1) s1.heap.objs.size, ⟨⟨.none, he⟩, ⟨_, hit, rfl, rfl⟩, Nat.succ_ne_self _, Nat.ne_of_lt hal, Nat.ne_of_lt (Nat.lt_succ_of_lt hal)⟩, fun b hb => ?_, q⟩
    have e' : b = s1.heap.objs.size + 1 ∨ b = s1.heap.objs.size := by simpa using hb
    have hle : s1.heap.objs.size ≤ b := by
      rcases e' with z | z
      · rw [z]; exact Nat.le_add_right _ _
      · rw [z]; exact Nat.le_refl _
    exact I1.fpOk hle (I1.hok.fresh hle)
end L2
namespace L2.Mi
open PySem PySem.Spec PyProof.Rows
def enT (ds : List D) : Src := fun k _ => match ds[k]? with
  | some x => some (some (.tup [.int (k : Nat), x]))
  | none => if k = ds.length then some none else none
def iEnT (m : ME) : MI := fun σ S => (m σ S).bind fun d S1 => match tupD d with
  | some ds => .ok (enT ds) S1
  | none => .bad
def enL (d : D) : Src := fun k S => match listAt S d with
  | some ds => (match ds[k]? with | some x => some (some (.tup [.int (k : Nat), x])) | none => some none)
  | none => none
def iEnL (m : ME) : MI := fun σ S => (m σ S).bind fun d S1 => match listAt S1 d with
  | some ds => .ok (enL d) S1
  | none => .bad
section
variable {G : Gx} {X : Cx} {W : WX} {e tg : Expr} {m : ME} {pos p : Pos}
theorem jr_enT {ρ0 : Wd} {H0 : Hp} {ds : List D} {d : D} {a : Addr} (rv : RV G ρ0 H0 d (.ref a)) (hd : tupD d = some ds) : JR G ρ0 H0 (enT ds) (Iet G.K a) := by
  intro ρ S H l rl i
  obtain ⟨b, xs, e1, hq, hr⟩ := tupD_rel (rv.move l) hd
  cases e1
  refine ⟨fun e h => ?_, fun h => ?_⟩
  · unfold enT at h
    cases q : ds[i]? with
    | none =>
      simp only [q] at h
      split at h <;> cases h
    | some d1 =>
      simp only [q] at h
      cases h
      obtain ⟨x, h1, h2⟩ := hr.get q
      refine ⟨⟨xs, x, hq, h1⟩, fun y H' hy => ?_⟩
      obtain ⟨T, x', e2, hT, e3, hy⟩ := hy
      have e4 := hy xs hq
      rw [h1] at e4
      cases e4
      subst e2 e3
      exact ⟨Le.new hT, rl.other hT, .tup upd_same (.cons (.int _) (.cons (h2.mono (Le.new hT)) .nil))⟩
  · unfold enT at h
    cases q : ds[i]? with
    | some d1 => simp only [q] at h; cases h
    | none =>
      simp only [q] at h
      by_cases hi : i = ds.length
      · exact ⟨xs, hq, by rw [← hr.length]; exact hi.symm⟩
      · rw [if_neg hi] at h; cases h
theorem jr_enL {ρ0 : Wd} {H0 : Hp} {d : D} {a : Addr} (rv : RV G ρ0 H0 d (.ref a)) : JR G ρ0 H0 (enL d) (Ite G.K a) := by
  intro ρ S H l rl i
  refine ⟨fun e h => ?_, fun h => ?_⟩
  · unfold enL at h
    cases q0 : listAt S d with
    | none => simp only [q0] at h; cases h
    | some ds =>
      obtain ⟨b, xs, e1, hq, hr⟩ := listAt_rel rl (rv.move l) q0
      cases e1
      cases q : ds[i]? with
      | none => simp only [q0, q] at h; cases h
      | some d1 =>
        simp only [q0, q] at h
        cases h
        obtain ⟨x, h1, h2⟩ := hr.get q
        refine ⟨⟨xs, x, hq, h1⟩, fun y H' hy => ?_⟩
        obtain ⟨T, x', e2, hT, e3, hy⟩ := hy
        have e4 := hy xs hq
        rw [h1] at e4
        cases e4
        subst e2 e3
        exact ⟨Le.new hT, rl.other hT, .tup upd_same (.cons (.int _) (.cons (h2.mono (Le.new hT)) .nil))⟩
  · unfold enL at h
    cases q0 : listAt S d with
    | none => simp only [q0] at h; cases h
    | some ds =>
      obtain ⟨b, xs, e1, hq, hr⟩ := listAt_rel rl (rv.move l) q0
      cases e1
      cases q : ds[i]? with
      | some d1 => simp only [q0, q] at h; cases h
      | none => exact ⟨xs, hq, by rw [← hr.length]; exact List.getElem?_eq_none_iff.mp q⟩
variable {elts : List Expr} {kk : Nat} {tpos : Pos}
theorem one_go {α β : Type} {R : Wd → Hp → α → β → Prop} {ρ : Wd} {H : Hp} {σs : En} {S : Store} {Q : β → Hp → Prop} {E : XK} {f : D → Store → Res α} (p : PostR G R ρ H ((m σs S).bind f) Q E) {Q1 : List V → Hp → Prop}
    (k : ∀ ρ1 H1 S1 d x, Le G ρ H ρ1 H1 → Rl G ρ1 S1 H1 → RV G ρ1 H1 d x → PostR G R ρ1 H1 (f d S1) Q E → Q1 [x] H1) : PostA G ρ H (aList [m] σs S) Q1 E := by
  unfold aList aList
  cases q : m σs S with
  | ok d S1 =>
    rw [q] at p
    intro ρ1 H1 xs l1 rl1 rv1
    obtain ⟨x, rfl, r⟩ := rvs1 rv1
    exact k ρ1 H1 S1 d x l1 rl1 r (PostR.le (r := f d S1) p l1)
  | exc x S1 => rw [q] at p; exact p
  | bad => rw [q] at p; exact p
theorem si_enT (cc : Cc G X W) (h : SE G X W e m) (hg : Gl X "enumerate") (hm : X.mg "enumerate" = none) (hs : starEach [e] X.env = [(false, eval e X.env)] := by rfl) : SI G X W (.Tuple elts kk tpos) (.Call (.Name "enumerate" p) [e] [] pos) (iEnT m) := by
  refine si_of (pi_enumT hg hm (sa_cons h sa_nil hs) hs) fun σ H R ρ σs S rl re p => ?_
  refine ⟨ρ, σs, S, rl, re, one_go p fun ρ1 H1 S1 d x l1 rl1 rv1 p1 => ?_⟩
  cases q : tupD d with
  | none => simp only [q] at p1; exact p1.elim
  | some ds =>
    simp only [q] at p1
    obtain ⟨a, xs, rfl, hq, hr⟩ := tupD_rel rv1 q
    refine ⟨a, xs, rfl, by rw [cc.k]; exact hq, ?_⟩
    rw [cc.k]
    exact p1 ρ1 H1 _ Le.refl rl1 (jr_enT rv1 q)
theorem si_enL (cc : Cc G X W) (h : SE G X W e m) (hg : Gl X "enumerate") (hm : X.mg "enumerate" = none) (hs : starEach [e] X.env = [(false, eval e X.env)] := by rfl) : SI G X W (.Tuple elts kk tpos) (.Call (.Name "enumerate" p) [e] [] pos) (iEnL m) := by
  refine si_of (pi_enum hg hm (sa_cons h sa_nil hs) hs) fun σ H R ρ σs S rl re p => ?_
  refine ⟨ρ, σs, S, rl, re, one_go p fun ρ1 H1 S1 d x l1 rl1 rv1 p1 => ?_⟩
  cases q : listAt S1 d with
  | none => simp only [q] at p1; exact p1.elim
  | some ds =>
    simp only [q] at p1
    obtain ⟨a, xs, rfl, hq, hr⟩ := listAt_rel rl1 rv1 q
    refine ⟨a, xs, rfl, by rw [cc.k]; exact hq, ?_⟩
    rw [cc.k]
    exact p1 ρ1 H1 _ Le.refl rl1 (jr_enL rv1)
/-- a, b, c = x, y, z -/
def sPar3 (i j l : Nat) (a b c : ME) : MS := fun σ S => match aList [a, b, c] σ S with
  | .ok [x, y, z] S1 => .nx (((σ.set i (some x)).set j (some y)).set l (some z)) S1
  | .exc x S1 => .exc x σ S1
  | _ => .bad
theorem ss_par3 {a b c : Expr} {ma mb mc : ME} {i j l : Nat} {x y z : Str} {px py pz pt : Pos} {kt k2 pt2} (hc : X.calm = true) (hN : X.N.Nodup) (hi : X.N[i]? = some x) (hj : X.N[j]? = some y) (hl : X.N[l]? = some z) (hij : i ≠ j) (hil : i ≠ l) (hjl : j ≠ l)
    (hx : X.env.scope.names.lookup x = some .local) (hy : X.env.scope.names.lookup y = some .local) (hz : X.env.scope.names.lookup z = some .local) (ha : SA G X W [a, b, c] (aList [ma, mb, mc]))
    (hs : swappedStores [.Tuple [.Name x px, .Name y py, .Name z pz] kt pt] (.Tuple [a, b, c] k2 pt2) X.env = pure (some [x, y, z]) := by rfl)
    (hs2 : swapsWithSole [.Tuple [.Name x px, .Name y py, .Name z pz] kt pt] (.Tuple [a, b, c] k2 pt2) pos.line X.env = pure false := by rfl) :
    SS G X W (.Assign [.Tuple [.Name x px, .Name y py, .Name z pz] kt pt] (.Tuple [a, b, c] k2 pt2) pos) (sPar3 i j l ma mb mc) := by
  refine ss_of (ps_par3 hc hN hi hj hl hij hil hjl hx hy hz ha hs hs2) fun σ H Dn ρ σs S rl re p => ?_
  refine ⟨ρ, σs, S, rl, re, ?_⟩
  unfold sPar3 at p
  cases q : aList [ma, mb, mc] σs S with
  | ok ds S1 =>
    rw [q] at p
    have hl : ds.length = 3 := aList_len q
    match ds, hl, p with
    | [d1, d2, d3], _, p =>
      intro ρ1 H1 vs l1 rl1 rv1
      cases rv1 with
      | cons r1 r2 =>
        cases r2 with
        | cons r2 r3 =>
          cases r3 with
          | cons r3 r4 =>
            cases r4
            exact ⟨_, _, _, rfl, p ρ1 H1 _ l1 rl1 ((((re.mono l1).set i r1).set j r2).set l r3)⟩
  | exc x S1 =>
    rw [q] at p
    exact fun ρ1 H1 c dd l1 rl1 rx => p ρ1 H1 σ c dd l1 rl1 (re.mono l1) rx
  | bad => rw [q] at p; exact p
end
end L2.Mi

set_option Elab.async false
set_option linter.all false
set_option maxRecDepth 100000
set_option maxHeartbeats 4000000
/-! Mini, 11: what the top has written, told by one run; defs with defaults; a law's end. -/
namespace L2.Mi
open PySem PySem.Spec PyProof.Rows
abbrev Fg := PySem.W.Frag
theorem ba {a b : Bool} (h : (a && b) = true) : a = true ∧ b = true := Bool.and_eq_true_iff.mp h
/-! ### constants of the top -/
/-- the value u is the constant d: tuples and lists by their items -/
def kvB (K : Fg) : Nat → D → Value → Bool
  | 0, _, _ => false
  | n + 1, d, u => match d, u with
    | .non, .none => true
    | .bl b, .bool c => b == c
    | .int i, .int j _ => decide (i = j)
    | .str x, .str y _ => decide (y.cps.toList = x)
    | .ty t, .type m => decide (t = m)
    | .kt ds, .ref a => (match K.lookup a with
      | some ⟨.type c, _, .seq its _, _⟩ => decide (c = "tuple") && (decide (its.size ≤ sizeLine) && (decide (ds.length = its.toList.length) && (ds.zip its.toList).all fun q => kvB K n q.1 q.2))
      | _ => false)
    | .fl ds, .ref a => (match K.lookup a with
      | some ⟨.type c, none, .seq its _, _⟩ => decide (c = "list") && (decide (its.size ≤ sizeLine) && (decide (ds.length = its.toList.length) && (ds.zip its.toList).all fun q => kvB K n q.1 q.2))
      | _ => false)
    | _, _ => false
section
variable {G : Gx}
theorem kv_all {P : D → Value → Prop} (h : ∀ d u, P d u → ∃ x, RelV x u ∧ ∀ ρ H, RV G ρ H d x) : ∀ {ds : List D} {us : List Value}, ds.length = us.length → (∀ q ∈ ds.zip us, P q.1 q.2) → ∃ xs, Vals xs us ∧ ∀ ρ H, RVs G ρ H ds xs
  | [], [], _, _ => ⟨[], .nil, fun _ _ => .nil⟩
  | [], _ :: _, e, _ => by cases e
  | _ :: _, [], e, _ => by cases e
  | d :: ds, u :: us, e, k => by
    obtain ⟨x, r1, r2⟩ := h d u (k (d, u) (by simp))
    obtain ⟨xs, s1, s2⟩ := kv_all (P := P) h (ds := ds) (us := us) (by simpa using e) fun q hq => k q (by simp [hq])
    exact ⟨x :: xs, .cons r1 s1, fun ρ H => .cons (r2 ρ H) (s2 ρ H)⟩
theorem kvB_ok : ∀ (n : Nat) (d : D) (u : Value), kvB G.K n d u = true → ∃ x, RelV x u ∧ ∀ ρ H, RV G ρ H d x
  | 0, _, _, h => by cases h
  | n + 1, d, u, h => by
    unfold kvB at h
    split at h
    · exact ⟨.non, rfl, fun _ _ => .non⟩
    · rename_i b c
      have e : b = c := eq_of_beq h
      subst e
      exact ⟨.bl b, rfl, fun _ _ => .bl b⟩
    · rename_i i j t
      have e : i = j := of_decide_eq_true h
      subst e
      exact ⟨.int i, ⟨t, rfl⟩, fun _ _ => .int i⟩
    · rename_i x y t
      have e : y.cps.toList = x := of_decide_eq_true h
      subst e
      exact ⟨.str y, ⟨t, rfl⟩, fun _ _ => rv_str y⟩
    · rename_i t m
      have e : t = m := of_decide_eq_true h
      subst e
      exact ⟨.ty t, rfl, fun _ _ => .ty t⟩
    · rename_i ds a
      split at h
      · rename_i c od its m sl q
        obtain ⟨h1, h⟩ := ba h
        obtain ⟨h2, h⟩ := ba h
        obtain ⟨h3, h4⟩ := ba h
        obtain ⟨xs, r1, r2⟩ := kv_all (G := G) (P := fun d u => kvB G.K n d u = true) (kvB_ok n) (of_decide_eq_true h3) fun q hq => List.all_eq_true.mp h4 q hq
        exact ⟨.ref a, rfl, fun ρ H => .kt (.inr ⟨_, its, m, q, congrArg Value.type (of_decide_eq_true h1), rfl, of_decide_eq_true h2, r1⟩) (r2 ρ H)⟩
      · cases h
    · rename_i ds a
      split at h
      · rename_i c its m sl q
        obtain ⟨h1, h⟩ := ba h
        obtain ⟨h2, h⟩ := ba h
        obtain ⟨h3, h4⟩ := ba h
        obtain ⟨xs, r1, r2⟩ := kv_all (G := G) (P := fun d u => kvB G.K n d u = true) (kvB_ok n) (of_decide_eq_true h3) fun q hq => List.all_eq_true.mp h4 q hq
        exact ⟨.ref a, rfl, fun ρ H => .fl (.inr (.inr ⟨_, its, m, q, congrArg Value.type (of_decide_eq_true h1), rfl, rfl, of_decide_eq_true h2, r1⟩)) (r2 ρ H)⟩
      · cases h
    · cases h
end
/-! ### addresses by names -/
def pgA (K : Fg) (C : Str) (f : Str) : Addr := match PySem.W.recIn K (He.ma K (He.ga K C) f) "property" with
  | some (.ref g :: _) => g
  | _ => 0
inductive Pth where
  | g (x : Str) | m (C x : Str) | p (C x : Str)
def Pth.ad (K : Fg) : Pth → Addr
  | .g x => He.ga K x
  | .m C x => He.ma K (He.ga K C) x
  | .p C x => pgA K C x
/-! ### defs -/
structure DefM where
  pth : Pth
  name : Str
  qual : Str
  st : Stmt
  dfl : List D := []
def DefM.val (d : DefM) : He.FnW := some (d.name, d.qual, defArgs d.st, .stmts (defBody d.st), defScope d.st, mainGlobals, [], builtinsNs)
def dfB (K : Fg) (dV : Value) (ds : List D) : Bool := match ds with
  | [] => (match dV with | .none => true | _ => false)
  | ds => (match dV with
    | .ref T => (match K.lookup T with
      | some ⟨_, _, .seq its _, _⟩ => decide (ds.length = its.toList.length) && (ds.zip its.toList).all fun q => kvB K 8 q.1 q.2
      | _ => false)
    | _ => false)
def DefM.ok (K : Fg) (d : DefM) : Bool := PySem.W.keepIn K (.ref (d.pth.ad K)) && (match K.lookup (d.pth.ad K) with
  | some ⟨_, _, .func fd, _⟩ => PySem.W.codeIn K fd.code d.qual && dfB K fd.defaults d.dfl
  | _ => false)
def fnM (K : Fg) (a : Addr) : He.FnW := match K.lookup a with
  | some ⟨_, _, .func fd, _⟩ => some (fd.name, fd.qualname, fd.params, fd.body, fd.scope, fd.globals, fd.closure, fd.builtins)
  | _ => none
theorem dfB_ok {G : Gx} {dV : Value} {ds : List D} (h : dfB G.K dV ds = true) : ∃ dvs, DflV G.K dV dvs ∧ ∀ ρ H, RVs G ρ H ds dvs := by
  unfold dfB at h
  split at h
  · split at h
    · exact ⟨[], .inl ⟨rfl, rfl⟩, fun _ _ => .nil⟩
    · cases h
  · rename_i hne
    split at h
    · rename_i T
      split at h
      · rename_i oc od its m sl q
        obtain ⟨h1, h2⟩ := ba h
        obtain ⟨xs, r1, r2⟩ := kv_all (G := G) (P := fun d u => kvB G.K 8 d u = true) (kvB_ok 8) (of_decide_eq_true h1) fun q hq => List.all_eq_true.mp h2 q hq
        refine ⟨xs, .inr ⟨fun e => ?_, T, _, its.toList, m, rfl, q, by simp, r1⟩, r2⟩
        subst e
        have z := (r2 ⟨[], []⟩ fun _ => none).length
        cases ds with
        | nil => exact hne rfl
        | cons _ _ => cases z
      · cases h
    · cases h
/-- a def as the walk takes it -/
structure FnM (G : Gx) (d : DefM) where
  fd : FuncData
  dvs : List V
  F : FunD G.K d.name d.qual (defArgs d.st) (defBody d.st) (defScope d.st) dvs [] (d.pth.ad G.K) fd
  rd : ∀ ρ H, RVs G ρ H d.dfl dvs
theorem fnM_ok {G : Gx} {d : DefM} (e : fnM G.K (d.pth.ad G.K) = d.val) (c : d.ok G.K = true) : Nonempty (FnM G d) := by
  obtain ⟨kp, c2⟩ := ba c
  unfold fnM at e
  cases q : G.K.lookup (d.pth.ad G.K) with
  | none => rw [q] at c2; cases c2
  | some o =>
    obtain ⟨oc, od, dt, osl⟩ := o
    rw [q] at c2 e
    cases dt with
    | func fd =>
      obtain ⟨n1, n2, n3, n4, n5, n6, n7, n8, n9, n10, n11, n12, n13, n14, n15⟩ := fd
      have e2 : (some (n1, n2, n3, n4, n5, n6, n7, n15) : He.FnW) = some (d.name, d.qual, defArgs d.st, .stmts (defBody d.st), defScope d.st, mainGlobals, [], builtinsNs) := e
      simp only [Option.some.injEq, Prod.mk.injEq] at e2
      obtain ⟨h1, h2, h3, h4, h5, h6, h7, h8⟩ := e2
      subst h1 h2 h3 h4 h5 h6 h7 h8
      obtain ⟨k1, k2⟩ := ba (show (PySem.W.codeIn G.K n13 d.qual && dfB G.K n8 d.dfl) = true from c2)
      obtain ⟨dvs, k3, k4⟩ := dfB_ok k2
      exact ⟨⟨_, dvs, ⟨⟨oc, od, n8, n9, n10, n11, n12, n13, n14, osl, rfl, q, k1, k3, .inl rfl⟩, kp⟩, k4⟩⟩
    | _ => cases c2
/-! ### calls with defaults -/
/-- between n less the defaults and n arguments -/
def callD (n : Nat) (dfl : List D) (m : FN) : FN := fun xs S => if xs.length ≤ n ∧ n ≤ xs.length + dfl.length then m (xs ++ dfl.drop (dfl.length + xs.length - n)) S else .bad
theorem RVs.drop {G : Gx} {ρ : Wd} {H : Hp} : ∀ (n : Nat) {ds : List D} {xs : List V}, RVs G ρ H ds xs → RVs G ρ H (ds.drop n) (xs.drop n)
  | 0, _, _, r => r
  | _ + 1, _, _, .nil => .nil
  | n + 1, _, _, .cons _ t => RVs.drop n t
theorem cal_defD {G : Gx} {P : Program} {w : World} {mg : Str → Option Value} {base : Heap} {k : Nat} {f : Addr} {fd : FuncData} {ps : List Str} {m : FN} {n : Nat} {dvs : List V} {dfl : List D}
    (F : FnOk P w G.K mg base (L2.CX P w) k f fd ps (spF G m n)) (hn : n = ps.length) (hb : ∀ j, j ≤ dvs.length → ∃ ds, Vals (dvs.drop j) ds ∧ Binds G.K fd ps ds) (hdd : ∀ ρ H, RVs G ρ H dfl dvs) : Cal G P w mg base k f (callD n dfl m) := by
  intro A outer s H us vs Q E hr e0 r h
  obtain ⟨ρ, S, es, rl, rv, p⟩ := h
  unfold callD at p
  by_cases hl : es.length ≤ n ∧ n ≤ es.length + dfl.length
  · rw [if_pos hl] at p
    have hle := (hdd ρ H).length
    obtain ⟨ds, hd, hbi⟩ := hb (dfl.length + es.length - n) (by omega)
    have hlen : vs.length + (dvs.drop (dfl.length + es.length - n)).length = n := by rw [← rv.length, List.length_drop]; omega
    have KX : G.K.In s.heap := e0.mod.kin.keeps fun b o e => (e0.bs b o e).1
    refine F.run A outer s H ⟨us, []⟩ (us ++ ds) (vs ++ dvs.drop (dfl.length + es.length - n)) Q E hr e0 (hbi s us KX ?_) (r.append hd) ⟨ρ, S, _, ?_, rl, rv.append ((hdd ρ H).drop _), p⟩
    · rw [List.length_append, ← r.length, ← hd.length, ← hn]; exact hlen
    · rw [List.length_append]; exact hlen
  · rw [if_neg hl] at p
    exact p.elim
/-! ### facts -/
inductive Fm where
  | glo (x : Str) | free (x : Str) | con (x : Str) (d : D)
  | cls (C : Str) | noat (C f : Str) | meth (C m : Str) | mkr (C : Str) | prop (C f : Str)
  | bin (C : Str) (o : Operator) | un (C m : Str) | ne (C : Str) | callo (C : Str)
  | oex (C : Str) | exm (A B : Str) (b : Bool)
/-- an own class over ValueError, with a dict -/
def oexO (K : Fg) (C : Addr) : Bool := match K.lookup C with
  | some ⟨.type t, _, .cls cd, sl⟩ => (match cd.mro, sl.toList with
    | .ref C' :: bm, [_, _, _, _, some (.builtin n), _] => decide (t = "type") && (decide (C' = C) && (decide (n = "ValueError.__new__") && (!cd.hasDel && (cd.hasDict && PySem.HandSPX.refsVE bm))))
    | _, _ => false)
  | _ => false
def clB (K : Fg) (C : Addr) : Bool := PySem.W.plainGet K C Str.empty && (PySem.W.hasDictIn K C && (PySem.W.plainOver K C && (He.eqO (PySem.W.findIn K (.ref C) "__setattr__") (some (some (.builtin "object.__setattr__"))) &&
  (He.eqO (PySem.W.findIn K (.ref C) "__class__") (some (some (.builtin "object.__class__"))) && (He.eqO (PySem.W.specialIn K (.builtin "object.__class__") "__get__") (some (some (.builtin "getset_descriptor.__get__"))) &&
  (decide (PySem.W.takesIn K (.builtin "object.__class__") = some true) && decide (PySem.W.mroIn K C (.type "object") = some true)))))))
theorem clB_ok {K : Fg} {C : Addr} (h : clB K C = true) : CI K C := by
  obtain ⟨h1, h⟩ := ba h
  obtain ⟨h2, h⟩ := ba h
  obtain ⟨h3, h⟩ := ba h
  obtain ⟨h4, h⟩ := ba h
  obtain ⟨h5, h⟩ := ba h
  obtain ⟨h6, h⟩ := ba h
  obtain ⟨h7, h8⟩ := ba h
  exact ⟨⟨h1, h2, h3, He.eqO_ok h4⟩, He.eqO_ok h5, He.eqO_ok h6, of_decide_eq_true h7, of_decide_eq_true h8⟩
def fnAt (K : Fg) (C : Addr) (m : Str) : Bool := He.eqO (PySem.W.findIn K (.ref C) m) (some (some (.ref (He.ma K C m)))) && PySem.W.isFn K (.ref (He.ma K C m))
theorem fnAt_ok {K : Fg} {C : Addr} {m : Str} (h : fnAt K C m = true) : PySem.W.findIn K (.ref C) m = some (some (.ref (He.ma K C m))) ∧ PySem.W.isFn K (.ref (He.ma K C m)) = true := by
  obtain ⟨h1, h2⟩ := ba h
  exact ⟨He.eqO_ok h1, h2⟩
def refNone : Option (Option Value) → Bool
  | some none => true
  | some (some (.ref _)) => true
  | _ => false
theorem refNone_ok {o : Option (Option Value)} (h : refNone o = true) : ∃ rc, o = some rc ∧ (rc = none ∨ ∃ g : Addr, rc = some (.ref g)) := by
  unfold refNone at h
  split at h
  · exact ⟨_, rfl, .inl rfl⟩
  · exact ⟨_, rfl, .inr ⟨_, rfl⟩⟩
  · cases h
def Fm.ok (K : Fg) : Fm → Bool
  | .glo x => He.eqO (PySem.W.nsIn K mainGlobals x) (some (some (.ref (He.ga K x)))) && PySem.W.keepIn K (.ref (He.ga K x))
  | .free x => He.eqO (PySem.W.nsIn K mainGlobals x) (some none)
  | .con x d => (match PySem.W.nsIn K mainGlobals x with | some (some u) => kvB K 8 d u | _ => false)
  | .cls C => clB K (He.ga K C)
  | .noat C f => He.eqO (PySem.W.findIn K (.ref (He.ga K C)) f) (some none)
  | .meth C m => fnAt K (He.ga K C) m && PySem.W.keepIn K (.ref (He.ma K (He.ga K C) m))
  | .mkr C => PySem.W.makesIn K (He.ga K C) && (fnAt K (He.ga K C) "__init__" && PySem.W.keepIn K (.ref (He.ga K C)))
  | .prop C f => He.eqO (PySem.W.findIn K (.ref (He.ga K C)) f) (some (some (.ref (He.ma K (He.ga K C) f)))) && (He.eqO (PySem.W.specialIn K (.ref (He.ma K (He.ga K C) f)) "__get__") (some (some (.builtin "property.__get__"))) &&
    (decide (PySem.W.takesIn K (.ref (He.ma K (He.ga K C) f)) = some true) && (match PySem.W.recIn K (He.ma K (He.ga K C) f) "property" with | some (.ref _ :: _) => true | _ => false)))
  | .bin C o => PySem.W.selfFirst K (He.ga K C) && (fnAt K (He.ga K C) (PySem.dunder o.info.2) && (refNone (PySem.W.findIn K (.ref (He.ga K C)) (dunderR o.info.2)) && ((PySem.W.findIn K (.type "int") (PySem.dunder o.info.2)).isSome &&
    ((PySem.W.findIn K (.type "int") (dunderR o.info.2)).isSome && decide (PySem.W.subIn K (.type "int") (.ref (He.ga K C)) = some false)))))
  | .un C m => fnAt K (He.ga K C) m
  | .ne C => He.eqO (PySem.W.findIn K (.ref (He.ga K C)) "__ne__") (some (some (.builtin "object.__ne__"))) && fnAt K (He.ga K C) "__eq__"
  | .callo C => fnAt K (He.ga K C) "__call__" && PySem.W.fnIn K (He.ma K (He.ga K C) "__call__")
  | .oex C => oexO K (He.ga K C) && (He.eqO (PySem.W.findIn K (.ref (He.ga K C)) "__setattr__") (some (some (.builtin "object.__setattr__"))) && (decide (PySem.W.subIn K (.ref (He.ga K C)) (.type "BaseException") = some true) &&
    (decide (PySem.W.typeIn K (.ref (He.ga K C)) = some (.type "type")) && (PySem.W.keepIn K (.ref (He.ga K C)) && (fnAt K (He.ga K C) "__init__" && xfB K (He.ga K C))))))
  | .exm A B b => decide (PySem.W.exmOne K (.ref (He.ga K A)) (.ref (He.ga K B)) = some b)
/-! ### a law's program -/
structure Lw where
  cls : List Str
  flds : List Str
  isi : List (Tag × Tag × Bool)
  xcl : List Str
  defs : List DefM
  fa : List Fm
  fok : (decide flds.Nodup && flds.all fun x => decide (x.cps.size ≠ 1) || x.cps.all fun c => decide (c < 2000000)) = true
def fldOf (l : List Str) (i : Nat) : Str := match l[i]? with | some x => x | none => ⟨#[2000000 + i]⟩
theorem fldOf_inj {l : List Str} (h : (decide l.Nodup && l.all fun x => decide (x.cps.size ≠ 1) || x.cps.all fun c => decide (c < 2000000)) = true) (i j : Nat) (e : fldOf l i = fldOf l j) : i = j := by
  obtain ⟨h1, h2⟩ := ba h
  have nd : l.Nodup := of_decide_eq_true h1
  have odd : ∀ x ∈ l, ∀ k, x ≠ ⟨#[2000000 + k]⟩ := fun x hx k ex => by
    have z := List.all_eq_true.mp h2 x hx
    rw [ex] at z
    simp at z
    omega
  unfold fldOf at e
  cases q : l[i]? with
  | some x =>
    cases q2 : l[j]? with
    | some y =>
      rw [q, q2] at e
      have e' : x = y := e
      subst e'
      obtain ⟨a1, e1⟩ := List.getElem?_eq_some_iff.mp q
      obtain ⟨a2, e2⟩ := List.getElem?_eq_some_iff.mp q2
      have pw := List.pairwise_iff_getElem.mp nd
      rcases Nat.lt_trichotomy i j with h | h | h
      · exact absurd (e1.trans e2.symm) (pw i j a1 a2 h)
      · exact h
      · exact absurd (e2.trans e1.symm) (pw j i a2 a1 h)
    | none =>
      rw [q, q2] at e
      exact absurd e (odd x (List.mem_of_getElem? q) j)
  | none =>
    cases q2 : l[j]? with
    | some y =>
      rw [q, q2] at e
      exact absurd e.symm (odd y (List.mem_of_getElem? q2) i)
    | none =>
      rw [q, q2] at e
      have e' : (⟨#[2000000 + i]⟩ : Str) = ⟨#[2000000 + j]⟩ := e
      simp at e'
      exact e'
def Lw.clsA (L : Lw) (K : Fg) (c : Nat) : Option Addr := (L.cls[c]?).map (He.ga K)
def Lw.isiF (L : Lw) (t u : Tag) : Option Bool := (L.isi.find? fun q => q.1 == t && q.2.1 == u).map (·.2.2)
def Lw.isiB (L : Lw) (K : Fg) : Bool := L.isi.all fun q => match tagVal (L.clsA K) q.1, tagVal (L.clsA K) q.2.1 with
  | some a, some b => decide (PySem.W.kitOne K a b = some q.2.2)
  | _, _ => true
def Lw.ex (L : Lw) (K : Fg) : Bool := (L.fa.all fun f => f.ok K) && (L.isiB K && ((L.cls.all fun x => clB K (He.ga K x)) && L.defs.all fun d => d.ok K))
abbrev AlM : Type := Bool × List He.FnW
def Lw.obs (L : Lw) (K : Fg) : AlM := (L.ex K, L.defs.map fun d => fnM K (d.pth.ad K))
def Lw.vl (L : Lw) : AlM := (true, L.defs.map DefM.val)
def Lw.Says (L : Lw) (K : Fg) : Prop := L.obs K = L.vl
def Lw.obsG (L : Lw) (n : Nat) (g : Addr → Option Obj) : AlM := L.obs (He.frG g (He5.asA g n))
def Lw.hook (L : Lw) (n : Nat) : PySem.W.Hook where
  α := AlM
  obs := fun s => L.obsG n s.heap.get?
  val := fun _ => L.vl
  says := fun _ h => ∃ K : Fg, K.In h ∧ L.Says K
  of := fun _ _ e => ⟨_, He.frG_in, e⟩
  keeps := fun _ _ _ ⟨K, hK, c⟩ k => ⟨K, PySem.W.Frag.In.keeps hK k, c⟩
theorem Lw.obsG_eq {L : Lw} {n : Nat} {g : Addr → Option Obj} {s : Shared} (h : ∀ a, g a = s.heap.get? a) : L.obsG n g = (L.hook n).obs s := by
  have e : g = s.heap.get? := funext h
  rw [e] <;> rfl
section
variable {L : Lw} {K : Fg}
theorem Lw.Says.all (c : L.Says K) : L.ex K = true := congrArg (fun z : AlM => z.1) c
theorem Lw.Says.fact (c : L.Says K) (i : Nat) {f : Fm} (h : L.fa[i]? = some f) : f.ok K = true := List.all_eq_true.mp (ba c.all).1 f (List.mem_of_getElem? h)
theorem Lw.Says.ci (c : L.Says K) (i : Nat) (C : Addr) (h : L.clsA K i = some C) : CI K C := by
  unfold Lw.clsA at h
  cases q : L.cls[i]? with
  | none => rw [q] at h; cases h
  | some x =>
    rw [q] at h
    cases h
    exact clB_ok (List.all_eq_true.mp (ba (ba (ba c.all).2).2).1 x (List.mem_of_getElem? q))
theorem Lw.Says.isi (c : L.Says K) (t u : Tag) (b : Bool) (tv uv : Value) (h : L.isiF t u = some b) (h1 : tagVal (L.clsA K) t = some tv) (h2 : tagVal (L.clsA K) u = some uv) : PySem.W.kitOne K tv uv = some b := by
  unfold Lw.isiF at h
  cases q : L.isi.find? fun q => q.1 == t && q.2.1 == u with
  | none => rw [q] at h; cases h
  | some z =>
    rw [q] at h
    have hb : z.2.2 = b := by simpa using h
    have hz := List.find?_some q
    have hm := List.mem_of_find?_eq_some q
    obtain ⟨e1, e2⟩ := ba hz
    have e1 := eq_of_beq e1
    have e2 := eq_of_beq e2
    have hk := List.all_eq_true.mp (ba (ba c.all).2).1 z hm
    rw [e1, e2, h1, h2] at hk
    rw [of_decide_eq_true hk, hb]
/-- the tables -/
def Lw.gx (L : Lw) (K : Fg) (c : L.Says K) : Gx where
  K := K
  cls := L.clsA K
  fld := fldOf L.flds
  inj := fldOf_inj L.fok
  clsv := fun i => (L.xcl[i]?).map fun C => .ref (He.ga K C)
  ci := c.ci
  isi := L.isiF
  isi_ok := c.isi
theorem Lw.Says.fn (c : L.Says K) (i : Nat) {d : DefM} (h : L.defs[i]? = some d) : Nonempty (FnM (L.gx K c) d) := by
  have e : L.defs.map (fun d => fnM K (d.pth.ad K)) = L.defs.map DefM.val := congrArg (fun z : AlM => z.2) c
  have e2 : (L.defs.map fun d => fnM K (d.pth.ad K))[i]? = (L.defs.map DefM.val)[i]? := by rw [e]
  rw [List.getElem?_map, List.getElem?_map, h] at e2
  exact fnM_ok (G := L.gx K c) (Option.some.inj e2) (List.all_eq_true.mp (ba (ba (ba c.all).2).2).2 d (List.mem_of_getElem? h))
end
end L2.Mi

set_option Elab.async false
set_option linter.all false
set_option maxRecDepth 100000
set_option maxHeartbeats 4000000
/-! Mini, 12: the facts as the derivations take them; a law's end. -/
namespace L2.Mi
open PySem PySem.Spec PyProof.Rows
def lv : Nat → Nat
  | 0 => 2
  | n + 1 => lv n + 2
theorem lv_eq : ∀ n, lv n = 2 * n + 2
  | 0 => rfl
  | n + 1 => by unfold lv; rw [lv_eq n]; omega
/-- the module's names -/
def Ns (K : Fg) (mg : Str → Option Value) : Prop := ∃ h : Heap, K.In h ∧ h.Ns mainGlobals mg
section
variable {L : Lw} {K : Fg} {c : L.Says K} {mg : Str → Option Value} {x C f m : Str}
theorem Ns.glo (N : Ns K mg) (c : L.Says K) (i : Nat) (h : L.fa[i]? = some (.glo x) := by rfl) : mg x = some (.ref (He.ga K x)) := by
  obtain ⟨hp, kin, ns⟩ := N
  exact PySem.W.mg_of kin ns (He.eqO_ok (ba (c.fact i h)).1)
theorem keep_of (c : L.Says K) (i : Nat) (h : L.fa[i]? = some (.glo x) := by rfl) : PySem.W.keepIn K (.ref (He.ga K x)) = true := (ba (c.fact i h)).2
theorem Ns.free (N : Ns K mg) (c : L.Says K) (i : Nat) (h : L.fa[i]? = some (.free x) := by rfl) : mg x = none := by
  obtain ⟨hp, kin, ns⟩ := N
  exact PySem.W.mg_none_of kin ns (He.eqO_ok (c.fact i h))
theorem Ns.con (N : Ns K mg) (c : L.Says K) (i : Nat) {d : D} (h : L.fa[i]? = some (.con x d)) : ∃ u v, mg x = some u ∧ RelV v u ∧ ∀ ρ H, RV (L.gx K c) ρ H d v := by
  obtain ⟨hp, kin, ns⟩ := N
  have z := c.fact i h
  have z' : (match PySem.W.nsIn K mainGlobals x with | some (some u) => kvB K 8 d u | _ => false) = true := z
  cases q : PySem.W.nsIn K mainGlobals x with
  | none => rw [q] at z'; cases z'
  | some o =>
    cases o with
    | none => rw [q] at z'; cases z'
    | some u =>
      rw [q] at z'
      obtain ⟨v, r1, r2⟩ := kvB_ok (G := L.gx K c) 8 d u z'
      exact ⟨u, v, PySem.W.mg_of kin ns q, r1, r2⟩
theorem cls_of (c : L.Says K) (ci : Nat) (hc : L.cls[ci]? = some C) : (L.gx K c).cls ci = some (He.ga K C) := by
  show (L.cls[ci]?).map (He.ga K) = _
  rw [hc]
  rfl
theorem ci_of (c : L.Says K) (ci : Nat) (hc : L.cls[ci]? = some C) : CI K (He.ga K C) := c.ci ci _ (cls_of c ci hc)
theorem mk_of (c : L.Says K) (i : Nat) (h : L.fa[i]? = some (.mkr C)) : Mk K (He.ga K C) (He.ma K (He.ga K C) "__init__") := by
  obtain ⟨h1, z⟩ := ba (c.fact i h)
  obtain ⟨h2, h3⟩ := ba z
  obtain ⟨h4, h5⟩ := fnAt_ok h2
  exact ⟨h1, h4, h5, h3⟩
theorem mkeep_of (c : L.Says K) (i : Nat) (h : L.fa[i]? = some (.mkr C) := by rfl) : PySem.W.keepIn K (.ref (He.ga K C)) = true := (mk_of c i h).kp
theorem meth_of (c : L.Says K) (i : Nat) (h : L.fa[i]? = some (.meth C m)) : Meth K (He.ga K C) m (He.ma K (He.ga K C) m) := by
  obtain ⟨h1, h2⟩ := ba (c.fact i h)
  obtain ⟨h4, h5⟩ := fnAt_ok h1
  exact ⟨h4, h5, h2⟩
theorem prop_of (c : L.Says K) (i : Nat) (h : L.fa[i]? = some (.prop C f)) : PropOf K (He.ga K C) f (He.ma K (He.ga K C) f) (pgA K C f) := by
  obtain ⟨h1, z⟩ := ba (c.fact i h)
  obtain ⟨h2, z⟩ := ba z
  obtain ⟨h3, h4⟩ := ba z
  refine ⟨He.eqO_ok h1, He.eqO_ok h2, of_decide_eq_true h3, ?_⟩
  unfold pgA
  split at h4
  · rename_i g r e
    exact ⟨r, by rw [e]⟩
  · cases h4
section
variable {X : Cx} {W : WX} {g : FN} {k : Nat}
theorem fieldS (c : L.Says K) (ci i : Nat) (hc : L.cls[ci]? = some C) (h : L.fa[i]? = some (.noat C f)) (e : X.K = K := by rfl) : FieldS (L.gx K c) X f ci :=
  ⟨_, cls_of c ci hc, by rw [e]; exact (ci_of c ci hc).cl, by rw [e]; exact He.eqO_ok (c.fact i h)⟩
theorem methS (c : L.Says K) (ci i : Nat) (hc : L.cls[ci]? = some C) (h : L.fa[i]? = some (.meth C m)) (F : FnS (L.gx K c) X W (.ref (He.ma K (He.ga K C) m)) g) (e : X.K = K := by rfl) : MethS (L.gx K c) X W m ci g :=
  ⟨_, _, cls_of c ci hc, by rw [e]; exact (ci_of c ci hc).cl, by rw [e]; exact meth_of c i h, F⟩
theorem propS (c : L.Says K) (ci i : Nat) (hc : L.cls[ci]? = some C) (h : L.fa[i]? = some (.prop C f)) (F : Cal (L.gx K c) X.prog X.w X.mg X.base k (pgA K C f) g) (hr : Room (k + 1) X.A) (e : X.K = K := by rfl) : PropS (L.gx K c) X f ci g :=
  ⟨_, _, _, k, cls_of c ci hc, by rw [e]; exact (ci_of c ci hc).cl, by rw [e]; exact prop_of c i h, by rw [e]; exact F, hr⟩
theorem binS {o : Operator} (c : L.Says K) (ci i : Nat) (hc : L.cls[ci]? = some C) (h : L.fa[i]? = some (.bin C o)) (F : FnS (L.gx K c) X W (.ref (He.ma K (He.ga K C) (PySem.dunder o.info.2))) g) (e : X.K = K := by rfl) : OpClsS (L.gx K c) X W o ci g := by
  obtain ⟨h1, z⟩ := ba (c.fact i h)
  obtain ⟨h2, z⟩ := ba z
  obtain ⟨h3, z⟩ := ba z
  obtain ⟨h4, z⟩ := ba z
  obtain ⟨h5, h6⟩ := ba z
  obtain ⟨h7, h8⟩ := fnAt_ok h2
  obtain ⟨rc, h9, h10⟩ := refNone_ok h3
  refine ⟨_, _, rc, cls_of c ci hc, ?_, ?_, ?_, ?_, h10, ?_, ?_, ?_, F⟩
  · rw [e]; exact h1
  · rw [e]; exact h7
  · rw [e]; exact h8
  · rw [e]; exact h9
  · rw [e]; exact Option.isSome_iff_exists.mp h4
  · rw [e]; exact Option.isSome_iff_exists.mp h5
  · rw [e]; exact of_decide_eq_true h6
theorem unS (c : L.Says K) (ci i : Nat) (hc : L.cls[ci]? = some C) (h : L.fa[i]? = some (.un C m)) (F : FnS (L.gx K c) X W (.ref (He.ma K (He.ga K C) m)) g) (e : X.K = K := by rfl) : UnClsS (L.gx K c) X W m ci g := by
  obtain ⟨h1, h2⟩ := fnAt_ok (c.fact i h)
  exact ⟨_, _, cls_of c ci hc, by rw [e]; exact h1, by rw [e]; exact h2, F⟩
theorem neS (c : L.Says K) (ci i : Nat) (hc : L.cls[ci]? = some C) (h : L.fa[i]? = some (.ne C)) (F : Cal (L.gx K c) X.prog X.w X.mg X.base k (He.ma K (He.ga K C) "__eq__") g) (hr : Room (k + 1) X.A) (e : X.K = K := by rfl) : NeClsS (L.gx K c) X ci g := by
  obtain ⟨h1, h2⟩ := ba (c.fact i h)
  obtain ⟨h3, h4⟩ := fnAt_ok h2
  exact ⟨_, _, k, cls_of c ci hc, by rw [e]; exact He.eqO_ok h1, by rw [e]; exact h3, by rw [e]; exact h4, by rw [e]; exact F, hr⟩
theorem callS (c : L.Says K) (ci i : Nat) (hc : L.cls[ci]? = some C) (h : L.fa[i]? = some (.callo C)) (F : Cal (L.gx K c) X.prog X.w X.mg X.base k (He.ma K (He.ga K C) "__call__") g) (hr : Room k X.A) (e : X.K = K := by rfl) : CallOS (L.gx K c) X ci g := by
  obtain ⟨h1, h2⟩ := ba (c.fact i h)
  obtain ⟨h3, h4⟩ := fnAt_ok h1
  exact ⟨_, _, k, cls_of c ci hc, by rw [e]; exact ⟨h3, h4, h2⟩, by rw [e]; exact F, hr⟩
/-- x, a constant of the top -/
theorem se_con {d : D} {pos : Pos} (c : L.Says K) (N : Ns K X.mg) (i : Nat) (h : L.fa[i]? = some (.con x d)) (hg : Gl X x) (hdb : (x == ("__debug__" : Str)) = false := by decide) : SE (L.gx K c) X W (.Name x pos) (eC d) := by
  obtain ⟨u, v, h1, h2, h3⟩ := N.con c i h
  exact se_glob hg h1 h2 h3 hdb
end
end
/-! ### alternatives -/
def orB {α : Type} (a b : Res α) : Res α := match a with | .bad => b | r => r
theorem post_or {α β : Type} {G : Gx} {R : Wd → Hp → α → β → Prop} {ρ : Wd} {H : Hp} {a b : Res α} {Q : β → Hp → Prop} {E : XK} (p : PostR G R ρ H (orB a b) Q E) : PostR G R ρ H a Q E ∨ PostR G R ρ H b Q E := by
  cases a with
  | bad => exact .inr p
  | ok d S => exact .inl p
  | exc x S => exact .inl p
def opOr (f g : D → D → Store → Res D) : D → D → Store → Res D := fun x y S => orB (f x y S) (g x y S)
theorem OpS.or {G : Gx} {X : Cx} {W : WX} {F : Value → Value → Sem Value} {f g : D → D → Store → Res D} (h1 : OpS G X W F f) (h2 : OpS G X W F g) : OpS G X W F (opOr f g) := fun pins s σ H x y v u Q ρ S d1 d2 I rx ry rl r1 r2 p =>
  (post_or p).elim (h1 pins s σ H x y v u Q ρ S d1 d2 I rx ry rl r1 r2) (h2 pins s σ H x y v u Q ρ S d1 d2 I rx ry rl r1 r2)
def fnOr (f g : FN) : FN := fun xs S => orB (f xs S) (g xs S)
theorem FnS.or {G : Gx} {X : Cx} {W : WX} {F : Value} {f g : FN} (h1 : FnS G X W F f) (h2 : FnS G X W F g) : FnS G X W F (fnOr f g) := fun pins s σ H xs us Q ρ S ds I r rl rv p =>
  (post_or p).elim (h1 pins s σ H xs us Q ρ S ds I r rl rv) (h2 pins s σ H xs us Q ρ S ds I r rl rv)
def eOr2 (a b : ME) : ME := fun σ S => orB (a σ S) (b σ S)
theorem se_or2 {G : Gx} {X : Cx} {W : WX} {e : Expr} {a b : ME} (h1 : SE G X W e a) (h2 : SE G X W e b) : SE G X W e (eOr2 a b) := ⟨fun pins s σ H Q I ⟨ρ, σs, S, rl, re, p⟩ =>
  (post_or p).elim (fun p => h1.run pins s σ H Q I ⟨ρ, σs, S, rl, re, p⟩) (fun p => h2.run pins s σ H Q I ⟨ρ, σs, S, rl, re, p⟩)⟩
/-! ### targets of comprehensions -/
theorem tg_one {X : Cx} {i : Nat} {x : Str} {pos : Pos} {K : Fg} (hN : X.N.Nodup) (hi : X.N[i]? = some x) (hx : Loc X.env.scope x) (hf : X.fn x = true ∨ X.env.scope.names.lookup x = some .local) : PG X (.Name x pos) ((TgN.one i).tg K) := pg_name hN hi hx hf
/-! ### the end -/
theorem cal0 {G : Gx} {P : Program} {w : World} {mg : Str → Option Value} {base : Heap} {k : Nat} {f : Addr} : Cal G P w mg base k f (fun _ _ => .bad) := by
  intro A outer s H us vs Q E hr e0 r h
  obtain ⟨ρ, S, es, rl, rv, p⟩ := h
  exact p.elim
def spLaw (G : Gx) (m : FN) : Sp := fun vs H Q E => vs.length = 1 ∧ spG G m vs H Q E
theorem ints_rel {G : Gx} {ρ : Wd} {H : Hp} : ∀ ns : List Int, RVs G ρ H (ns.map D.int) (ns.map V.int)
  | [] => .nil
  | n :: ns => .cons (.int n) (ints_rel ns)
theorem start_ok {G : Gx} {H : Hp} {a : Addr} {ns : List Int} (ho : Only H) (hS : SqL G.K H a (ns.map V.int)) : Rl G ⟨[], []⟩ ⟨[]⟩ H ∧ RV G ⟨[], []⟩ H (.fl (ns.map D.int)) (.ref a) := by
  refine ⟨⟨rfl, List.nodup_nil, fun b h => (List.not_mem_nil h).elim, fun i o h => ?_⟩, .fl ?_ (ints_rel ns)⟩
  · cases h
  · rcases hS with (h | h) | h
    · rcases ho a with z | ⟨o, xs, z⟩
      · rw [h] at z; cases z
      · rw [h] at z; cases z
    · exact .inl h
    · exact .inr (.inr h)
theorem walkM {l : PySem.W.OpenLaw} {n k : Nat} {q : Program} {loose : List Str} {XP : (Str → Option Value) → Heap → Prop} {L : Lw} {N : Nat} {d : DefRec} {x : Str} {run : FN}
    (hn : l.most = some n) (hn2 : n ≤ sizeLine) (hdf : d.params.defaults = []) (hr : Room k callerA)
    (F : ∀ (w : World) (mg : Str → Option Value) (fa : Addr) (K : Fg) (c : L.Says K), Ns K mg → mg d.name = some (.ref fa) →
      ∃ fd : FuncData, (∀ (s : Shared) (u : Value), BindsTo s fd ⟨[u], []⟩ [(x, u)]) ∧ ∀ base : Heap, K.In base → base.Ns mainGlobals mg → FnOk l.prog w K mg base (L2.CX l.prog w) k fa fd [x] (spF (L.gx K c) run 1))
    (good : ∀ ns : List Int, ns.length ≤ n → (∀ z ∈ ns, Builtin.Int.intBits z ≤ 1048576) → ∃ S, run [.fl (ns.map D.int)] ⟨[]⟩ = .ok (.bl true) S) :
    PySem.W.WalkO q loose XP (L.hook N).says l.row.toRowW d [] (fun f vs => PySem.call f vs) := by
  refine Att.attach_callB hn hdf fun w s₀ s₁ mg mb fa o pm cd doc a vs ns G Y ho hd hcd hmg hobj hints hlen hbits hg => ?_
  obtain ⟨K, KX, c⟩ := Y
  obtain ⟨fd, hb, hF⟩ := F w mg fa K c ⟨_, KX, G.T.g⟩ hmg
  refine law_call KX G.T.g G.T.b G.T.builtins G.T.nolimit hg hobj hints (Nat.le_trans hlen hn2) hr hF hb (fun H hO hS => ?_) fun H e s' h => ?_
  · obtain ⟨rl, rv⟩ := start_ok (G := L.gx K c) hO hS
    obtain ⟨S, e⟩ := good ns hlen hbits
    refine ⟨⟨[], []⟩, ⟨[]⟩, _, rfl, rl, .cons rv .nil, ?_⟩
    rw [e]
    intro ρ' H' v _ _ r
    cases r
    rfl
  · obtain ⟨_, _, _, _, _, _, _, _, _, _, _, _, z⟩ := h
    exact z.elim
end L2.Mi

set_option Elab.async false
set_option linter.all false
set_option maxRecDepth 100000
set_option maxHeartbeats 4000000
/-! Mini, 13: tests by chains and by truth, alternatives of iterators, += and -=. -/
namespace L2.Mi
open PySem PySem.Spec PyProof.Rows
section
variable {G : Gx} {X : Cx} {W : WX} {a b c e tg : Expr} {ma mb mc m : ME} {pos : Pos}
theorem cmp_rel {g : Int → Int → Bool} : ∀ ρ S H d1 d2 x y Q E, Rl G ρ S H → RV G ρ H d1 x → RV G ρ H d2 y → Post G ρ H (intOp (fun _ _ => true) (fun i j => .bl (g i j)) d1 d2 S) Q E → rI0 (fun i j => .bl (g i j)) x y H Q := by
  intro ρ S H d1 d2 x y Q E rl r1 r2 p
  obtain ⟨i, j, h1, h2, h3, p⟩ := intOp_go r1 r2 p
  exact ⟨i, j, h1, h2, post_ok p rl (.bl _)⟩
theorem chain_read {f g : D → D → Store → Res D} {r r' : R2}
    (hf : ∀ ρ S H d1 d2 x y Q E, Rl G ρ S H → RV G ρ H d1 x → RV G ρ H d2 y → Post G ρ H (f d1 d2 S) Q E → r x y H Q) (hg : ∀ ρ S H d1 d2 x y Q E, Rl G ρ S H → RV G ρ H d1 x → RV G ρ H d2 y → Post G ρ H (g d1 d2 S) Q E → r' x y H Q)
    {σ : St} {H : Hp} {Q : VK} {ρ : Wd} {σs : En} {S : Store} (rl : Rl G ρ S H) (re : RE G ρ H σs σ) (p : Post G ρ H (eChain f g ma mb mc σs S) Q (EW W σ)) : tChain r r' (tm G W ma) (tm G W mb) (tm G W mc) σ H Q := by
  refine ⟨ρ, σs, S, rl, re, PostR.bind (R := RV G) p fun ρ1 H1 S1 d1 x l1 rl1 rv1 p1 => ?_⟩
  refine ⟨ρ1, σs, S1, rl1, re.mono l1, PostR.bind (R := RV G) p1 fun ρ2 H2 S2 d2 y l2 rl2 rv2 p2 => ?_⟩
  refine hf ρ2 S2 H2 d1 d2 x y _ _ rl2 (rv1.mono l2) rv2 (PostR.bind (R := RV G) p2 fun ρ3 H3 S3 d3 z l3 rl3 rv3 p3 => ?_)
  cases rv3 with
  | bl k =>
    refine ⟨k, rfl, ?_⟩
    cases k with
    | true =>
      show if true = true then _ else _
      rw [if_pos rfl]
      refine ⟨ρ3, σs, S3, rl3, (re.mono l1).mono (l2.trans l3), PostR.bind (R := RV G) p3 fun ρ4 H4 S4 d4 w l4 rl4 rv4 p4 => ?_⟩
      exact hg ρ4 S4 H4 d2 d4 y w _ _ rl4 (rv2.mono (l3.trans l4)) rv4 p4
    | false =>
      show if false = true then _ else _
      rw [if_neg Bool.false_ne_true]
      exact post_ok (S := S3) p3 rl3 (.bl false)
  | _ => exact False.elim p3
theorem st_chain {op op' : CmpOp} {f g : D → D → Store → Res D} {r r' : R2} (ho : OpR X (compareOp op) r) (ho' : OpR X (compareOp op') r')
    (hf : ∀ ρ S H d1 d2 x y Q E, Rl G ρ S H → RV G ρ H d1 x → RV G ρ H d2 y → Post G ρ H (f d1 d2 S) Q E → r x y H Q) (hg : ∀ ρ S H d1 d2 x y Q E, Rl G ρ S H → RV G ρ H d1 x → RV G ρ H d2 y → Post G ρ H (g d1 d2 S) Q E → r' x y H Q)
    (ha : SE G X W a ma) (hb : SE G X W b mb) (hc : SE G X W c mc) (hm : lastMarks [op, op'] [b, c] = false := by with_unfolding_all rfl) : ST G X W (.Compare a [op, op'] [b, c] pos) (tOf (eChain f g ma mb mc)) := by
  refine PT.weak (pt_chain ho ho' ha hb hc hm) fun σ H Q ⟨ρ, σs, S, rl, re, p⟩ => ?_
  exact chain_read hf hg rl re (p.bind (R := RV G) (Q1 := fun v H' => ∃ k, v = .bl k ∧ Q k H') fun ρ3 H3 S3 z w l3 rl3 rv3 p3 => bool_go (pins := []) (σ := σ) p3 rl3 rv3)
/-! truth -/
def truD (S : Store) : D → Option Bool
  | .non => some false
  | .bl b => some b
  | .int i => some (i != 0)
  | .str l => if l.length ≤ lim then some ((l.length : Int) != 0) else none
  | d => (match seqAt S d with | some ds => some (!ds.isEmpty) | none => none)
def tTru (m : ME) : MT := fun σ S => (m σ S).bind fun d S1 => match truD S1 d with | some k => .ok k S1 | none => .bad
theorem rvs_empty {ρ : Wd} {H : Hp} {ds : List D} {xs : List V} (r : RVs G ρ H ds xs) : xs.isEmpty = ds.isEmpty := by cases r <;> rfl
theorem truD_rel {ρ : Wd} {S : Store} {H : Hp} {d : D} {x : V} {k : Bool} (rl : Rl G ρ S H) (rv : RV G ρ H d x) (h : truD S d = some k) : TruV G.K x H k := by
  have sq : ∀ {d : D} {x : V}, RV G ρ H d x → (match seqAt S d with | some ds => some (!ds.isEmpty) | none => none) = some k → TruV G.K x H k := fun {d x} rv h => by
    cases q : seqAt S d with
    | none => rw [q] at h; cases h
    | some ds =>
      rw [q] at h
      obtain ⟨a, xs, rfl, hq, hr⟩ := seqAt_rel rl rv q
      have hk : k = !xs.isEmpty := by rw [rvs_empty hr]; exact (Option.some.inj h).symm
      rcases hq with hq | hq
      · exact .inl ⟨xs, hq, hk⟩
      · exact .inr (.inl ⟨xs, hq, hk⟩)
  cases rv with
  | non => exact (Option.some.inj h).symm
  | bl b => exact (Option.some.inj h).symm
  | int i => exact (Option.some.inj h).symm
  | str l =>
    have h : (if l.length ≤ lim then some ((l.length : Int) != 0) else none) = some k := h
    by_cases hl : l.length ≤ lim
    · rw [if_pos hl] at h
      refine ⟨by rw [str_len]; exact lim_le hl, ?_⟩
      rw [str_len]
      exact (Option.some.inj h).symm
    · rw [if_neg hl] at h; cases h
  | tup ht hr => exact sq (.tup ht hr) h
  | kt ht hr => exact sq (.kt ht hr) h
  | lv n ht hr => exact sq (.lv n ht hr) h
  | fl ht hr => exact sq (.fl ht hr) h
  | ref hi => exact sq (.ref hi) h
  | ty n => cases h
  | cl hc => cases h
  | dvK _ _ _ => cases h
  | dvT _ _ _ => cases h
theorem st_tru (cc : Cc G X W) (h : SE G X W e m) (he : ∀ whole, isTrue e X.env whole = (do let v ← whole; standAt e.pos; holding [v] (truthy v)) := by intro _; rfl) : ST G X W e (tTru m) := by
  refine PT.weak (pt_truth h he) fun σ H Q ⟨ρ, σs, S, rl, re, p⟩ => ?_
  refine ⟨ρ, σs, S, rl, re, p.bind (R := RV G) fun ρ1 H1 S1 d x l1 rl1 rv1 p1 => ?_⟩
  cases q : truD S1 d with
  | none => simp only [q] at p1; exact p1.elim
  | some k =>
    simp only [q] at p1
    exact ⟨k, by rw [cc.k]; exact truD_rel rl1 rv1 q, p1 ρ1 H1 k Le.refl rl1 rfl⟩
/-! iterators -/
def iOr (a b : MI) : MI := fun σ S => orB (a σ S) (b σ S)
theorem si_or {iter : Expr} {m1 m2 : MI} (h1 : SI G X W tg iter m1) (h2 : SI G X W tg iter m2) : SI G X W tg iter (iOr m1 m2) := ⟨fun pins s σ H R I ⟨ρ, σs, S, rl, re, p⟩ =>
  (post_or p).elim (fun p => h1.run pins s σ H R I ⟨ρ, σs, S, rl, re, p⟩) (fun p => h2.run pins s σ H R I ⟨ρ, σs, S, rl, re, p⟩)⟩
/-- a tuple or a list -/
def iSeq (m : ME) : MI := fun σ S => (m σ S).bind fun d S1 => match tupD d with
  | some ds => .ok (fun k _ => some ds[k]?) S1
  | none => (match listAt S1 d with
    | some _ => .ok (fun k S' => (listAt S' d).map fun ds => ds[k]?) S1
    | none => .bad)
theorem iSeq_or (m : ME) (σ : En) (S : Store) : iSeq m σ S = iOr (iTup m) (iList m) σ S := by
  unfold iSeq iOr iTup iList
  cases q : m σ S with
  | ok d S1 => cases d <;> rfl
  | exc x S1 => rfl
  | bad => rfl
theorem si_seq (cc : Cc G X W) (h : SE G X W e m) : SI G X W tg e (iSeq m) := by
  have z : iSeq m = iOr (iTup m) (iList m) := funext fun σ => funext fun S => iSeq_or m σ S
  rw [z]
  exact si_or (si_tup cc h) (si_list cc h)
def iEn (m : ME) : MI := fun σ S => (m σ S).bind fun d S1 => match tupD d with
  | some ds => .ok (enT ds) S1
  | none => (match listAt S1 d with
    | some _ => .ok (enL d) S1
    | none => .bad)
theorem iEn_or (m : ME) (σ : En) (S : Store) : iEn m σ S = iOr (iEnT m) (iEnL m) σ S := by
  unfold iEn iOr iEnT iEnL
  cases q : m σ S with
  | ok d S1 => cases d <;> rfl
  | exc x S1 => rfl
  | bad => rfl
theorem si_en {elts : List Expr} {kk : Nat} {tpos p : Pos} (cc : Cc G X W) (h : SE G X W e m) (hg : Gl X "enumerate") (hm : X.mg "enumerate" = none) (hs : starEach [e] X.env = [(false, eval e X.env)] := by rfl) : SI G X W (.Tuple elts kk tpos) (.Call (.Name "enumerate" p) [e] [] pos) (iEn m) := by
  have z : iEn m = iOr (iEnT m) (iEnL m) := funext fun σ => funext fun S => iEn_or m σ S
  rw [z]
  exact si_or (si_enT cc h hg hm hs) (si_enL cc h hg hm hs)
theorem szl {k : Nat} (h : Nat.ble k 16777216 = true) : k ≤ sizeLine := by rw [sizeLine_eq]; exact Nat.le_of_ble_eq_true h
/-! targets of comprehensions -/
theorem tg_many {es : List Expr} {kk : Nat} {is : List Nat} {K : Fg} (cc : X.calm = true) (h : PGs X es (gNames is)) (hK : X.K = K := by rfl) (hn : (assignEach es X.env).length = is.length := by rfl) (hst : (assignEach es X.env).findIdx? (·.1) = none := by rfl) : PG X (.Tuple es kk pos) ((TgN.many is).tg K) := by
  subst hK
  exact pg_tup cc h hn hst
/-- a comprehension: the block's context comes with each part -/
theorem se_lcc {elt tg iter : Expr} {ifs : List Expr} {scope : Scope} {own : List (Str × Nat)} {mi : MI} {t : TgN} {mt : MT} {me : ME} (n : Nat) (cc : Cc G X W) (hi : SI G X W tg iter mi) (ok : BlkOk X.N X.env.scope scope own) (hv : ∀ i ∈ t.slots, i ∈ own.map (·.2))
    (hg : ∀ (s : Shared) (H : Hp) (C : Addr) (cl : List (Str × Addr)) (fp : List Addr), Cc G (X.blk s H scope (compEnvC scope cl C X.env) fp) W0 → PG (X.blk s H scope (compEnvC scope cl C X.env) fp) tg (t.tg X.K))
    (ht : ∀ (s : Shared) (H : Hp) (C : Addr) (cl : List (Str × Addr)) (fp : List Addr), Cc G (X.blk s H scope (compEnvC scope cl C X.env) fp) W0 → PTs (X.blk s H scope (compEnvC scope cl C X.env) fp) ifs (tmt G W0 mt))
    (he : ∀ (s : Shared) (H : Hp) (C : Addr) (cl : List (Str × Addr)) (fp : List Addr), Cc G (X.blk s H scope (compEnvC scope cl C X.env) fp) W0 → SE G (X.blk s H scope (compEnvC scope cl C X.env) fp) W0 elt me) (hs : ∀ x, foldedSetIterable iter X.env x = pure x := by intro _; rfl) :
    SE G X W (.ListComp elt [⟨tg, iter, ifs, 0⟩] scope pos) (eLcV mi t mt me (own.map (·.2)) n) :=
  se_lcv n cc hi ok hv (fun s H C cl fp => hg s H C cl fp (cc_blk cc)) (fun s H C cl fp => ht s H C cl fp (cc_blk cc)) (fun s H C cl fp => he s H C cl fp (cc_blk cc)) hs
/-! += and -= of ints -/
def addI : D → D → Store → Res D := intOp (fun _ _ => true) fun i j => .int (i + j)
def subI : D → D → Store → Res D := intOp (fun _ _ => true) fun i j => .int (i - j)
theorem ss_augA {i : Nat} {x : Str} {pos' : Pos} (cc : Cc G X W) (hi : X.N[i]? = some x) (hx : Loc X.env.scope x) (he : SE G X W e m) (hf : X.fn x = true ∨ X.env.scope.names.lookup x = some .local := by first | exact .inl rfl | exact .inr rfl | assumption) :
    SS G X W (.AugAssign (.Name x pos') .Add e pos) (sAug i addI m) :=
  ss_aug cc.nd hi hx he ip_add (fun ρ S H d1 d2 x y Q E rl r1 r2 p => by
    obtain ⟨i, j, h1, h2, h3, p⟩ := intOp_go r1 r2 p
    exact ⟨i, j, h1, h2, post_ok p rl (.int _)⟩) hf
theorem ss_augM {i : Nat} {x : Str} {pos' : Pos} (cc : Cc G X W) (hi : X.N[i]? = some x) (hx : Loc X.env.scope x) (he : SE G X W e m) (hf : X.fn x = true ∨ X.env.scope.names.lookup x = some .local := by first | exact .inl rfl | exact .inr rfl | assumption) :
    SS G X W (.AugAssign (.Name x pos') .Sub e pos) (sAug i subI m) :=
  ss_aug cc.nd hi hx he ip_sub (fun ρ S H d1 d2 x y Q E rl r1 r2 p => by
    obtain ⟨i, j, h1, h2, h3, p⟩ := intOp_go r1 r2 p
    exact ⟨i, j, h1, h2, post_ok p rl (.int _)⟩) hf
end
end L2.Mi

set_option Elab.async false
set_option linter.all false
set_option maxRecDepth 100000
set_option maxHeartbeats 4000000
/-! Mini, 14: the runs of Mini by plain laws. -/
namespace L2.Mi
open PySem
/-! ### runs, step by step -/
def fin (r : RS) : Res D := match r with
  | .rt d S1 => .ok d S1
  | .nx _ S1 => .ok .non S1
  | .exc x _ S1 => .exc x S1
  | _ => .bad
section
variable {α β : Type} {σ σ' : En} {S S' : Store} {a b c : ME} {t u : MT} {k l : MS} {ms : List ME} {d e : D} {i j : Nat} {x : Xn} {f g : D → D → Store → Res D} {F : List D → Store → Res D}
@[simp] theorem fin_rt : fin (.rt d S) = .ok d S := (rfl)
@[simp] theorem fin_nx : fin (.nx σ S) = .ok .non S := (rfl)
@[simp] theorem fin_exc : fin (.exc x σ S) = .exc x S := (rfl)
@[simp] theorem bind_ok' {a : α} {f : α → Store → Res β} : (Res.ok a S).bind f = f a S := (rfl)
@[simp] theorem bind_exc' {f : α → Store → Res β} : (Res.exc x S : Res α).bind f = .exc x S := (rfl)
@[simp] theorem bind_bad' {f : α → Store → Res β} : (Res.bad : Res α).bind f = .bad := (rfl)
@[simp] theorem eC_ev : eC d σ S = .ok d S := (rfl)
theorem eVar_ev (h : σ[i]? = some (some d)) : eVar i σ S = .ok d S := by unfold eVar; rw [h]
@[simp] theorem eVar_0 : eVar 0 (some d :: σ) S = .ok d S := (rfl)
@[simp] theorem eVar_s {o : Option D} : eVar (i + 1) (o :: σ) S = eVar i σ S := by unfold eVar; rw [List.getElem?_cons_succ]
@[simp] theorem eBin_ev : eBin f a b σ S = (a σ S).bind fun x S1 => (b σ S1).bind fun y S2 => f x y S2 := (rfl)
@[simp] theorem eUn_ev {f : D → Store → Res D} : eUn f a σ S = (a σ S).bind fun x S1 => f x S1 := (rfl)
@[simp] theorem aList_nil : aList [] σ S = .ok [] S := (rfl)
@[simp] theorem aList_cons : aList (a :: ms) σ S = (a σ S).bind fun x S1 => (aList ms σ S1).bind fun xs S2 => .ok (x :: xs) S2 := (rfl)
@[simp] theorem eTup_ev : eTup ms σ S = (aList ms σ S).bind fun xs S1 => .ok (.tup xs) S1 := (rfl)
@[simp] theorem eLv_ev : eLv ms σ S = (aList ms σ S).bind fun xs S1 => .ok (.lv xs) S1 := (rfl)
@[simp] theorem eLst_ev : eLst ms σ S = (aList ms σ S).bind fun xs S1 => .ok (.ref S1.size) (S1.push (.lst xs)) := (rfl)
@[simp] theorem eFn_ev {m : MA} : eFn F m σ S = (m σ S).bind F := (rfl)
@[simp] theorem tOf_ev : tOf a σ S = (a σ S).bind fun d S1 => match d with | .bl b => .ok b S1 | _ => .bad := (rfl)
@[simp] theorem tTru_ev : tTru a σ S = (a σ S).bind fun d S1 => match truD S1 d with | some k => .ok k S1 | none => .bad := (rfl)
@[simp] theorem tAnd_ev : tAnd t u σ S = (t σ S).bind fun c S1 => if c then u σ S1 else .ok false S1 := (rfl)
@[simp] theorem tOr_ev : tOr t u σ S = (t σ S).bind fun c S1 => if c then .ok true S1 else u σ S1 := (rfl)
@[simp] theorem tNot_ev : tNot t σ S = (t σ S).bind fun c S1 => .ok (!c) S1 := (rfl)
@[simp] theorem eAnd_ev : eAnd a b σ S = (tOf a σ S).bind fun c S1 => if c then b σ S1 else .ok (.bl false) S1 := (rfl)
@[simp] theorem eOr_ev : eOr a b σ S = (tOf a σ S).bind fun c S1 => if c then .ok (.bl true) S1 else b σ S1 := (rfl)
@[simp] theorem eNot_ev : eNot a σ S = (tOf a σ S).bind fun c S1 => .ok (.bl (!c)) S1 := (rfl)
@[simp] theorem eIf_ev : eIf t a b σ S = (t σ S).bind fun c S1 => if c then a σ S1 else b σ S1 := (rfl)
@[simp] theorem eChain_ev : eChain f g a b c σ S = (a σ S).bind fun x S1 => (b σ S1).bind fun y S2 => (f x y S2).bind fun d S3 => match d with | .bl true => (c σ S3).bind fun z S4 => g y z S4 | .bl false => .ok (.bl false) S3 | _ => .bad := (rfl)
@[simp] theorem truD_bl {b : Bool} : truD S (.bl b) = some b := (rfl)
@[simp] theorem sNext_ev : sNext σ S = .nx σ S := (rfl)
@[simp] theorem sSeq_ev : sSeq k l σ S = (match k σ S with | .nx σ1 S1 => l σ1 S1 | r => r) := (rfl)
@[simp] theorem sRet_ev : sRet a σ S = (match a σ S with | .ok d S1 => .rt d S1 | .exc x S1 => .exc x σ S1 | .bad => .bad) := (rfl)
@[simp] theorem sDrop_ev : sDrop a σ S = (match a σ S with | .ok _ S1 => .nx σ S1 | .exc x S1 => .exc x σ S1 | .bad => .bad) := (rfl)
@[simp] theorem sIf_ev : sIf t k l σ S = (match t σ S with | .ok c S1 => (if c then k σ S1 else l σ S1) | .exc x S1 => .exc x σ S1 | .bad => .bad) := (rfl)
@[simp] theorem gName_ev : gName i d σ S = .ok (σ.set i (some d)) S := (rfl)
@[simp] theorem sAsg_ev {g : MG} : sAsg a g σ S = (match a σ S with | .ok d S1 => (match g d σ S1 with | .ok σ2 S2 => .nx σ2 S2 | _ => .bad) | .exc x S1 => .exc x σ S1 | .bad => .bad) := (rfl)
@[simp] theorem addI_ev {i j : Int} : addI (.int i) (.int j) S = .ok (.int (i + j)) S := (rfl)
@[simp] theorem subI_ev {i j : Int} : subI (.int i) (.int j) S = .ok (.int (i - j)) S := (rfl)
@[simp] theorem ltI_ev {i j : Int} : ltI (.int i) (.int j) S = .ok (.bl (decide (i < j))) S := (rfl)
@[simp] theorem leI_ev {i j : Int} : leI (.int i) (.int j) S = .ok (.bl (decide (i ≤ j))) S := (rfl)
@[simp] theorem gtI_ev {i j : Int} : gtI (.int i) (.int j) S = .ok (.bl (decide (j < i))) S := (rfl)
@[simp] theorem geI_ev {i j : Int} : geI (.int i) (.int j) S = .ok (.bl (decide (j ≤ i))) S := (rfl)
@[simp] theorem addF_ev {i j : Int} {o : D → D → Store → Res D} : addF o (.int i) (.int j) S = .ok (.int (i + j)) S := (rfl)
@[simp] theorem subF_ev {i j : Int} {o : D → D → Store → Res D} : subF o (.int i) (.int j) S = .ok (.int (i - j)) S := (rfl)
theorem mulF_ev {i j : Int} {o : D → D → Store → Res D} (h : mulOk i j = true) : mulF o (.int i) (.int j) S = .ok (.int (i * j)) S := by unfold mulF; simp only [h, if_true]
theorem modI_ev {i j : Int} (h : 0 < j) : modI (.int i) (.int j) S = .ok (.int (i % j)) S := by unfold modI intOp; simp [h]
theorem divI_ev {i j : Int} (h : divOk j = true) : divI (.int i) (.int j) S = .ok (.int (i / j)) S := by unfold divI intOp; simp [h]
theorem powI_ev {i j : Int} (h : powOk i j = true) : powI (.int i) (.int j) S = .ok (.int (i ^ j.toNat)) S := by unfold powI intOp; simp [h]
@[simp] theorem negF_ev {i : Int} {ds : Disp} : negF ds (.int i) S = .ok (.int (-i)) S := (rfl)
@[simp] theorem intF_ev {i : Int} : intF [.int i] S = .ok (.int i) S := (rfl)
@[simp] theorem intF_bl {i : Bool} : intF [.bl i] S = .ok (.int (if i then 1 else 0)) S := (rfl)
@[simp] theorem absF_ev {i : Int} : absF [.int i] S = .ok (.int (if i < 0 then -i else i)) S := (rfl)
@[simp] theorem max2F_ev {i j : Int} : max2F [.int i, .int j] S = .ok (.int (if j > i then j else i)) S := (rfl)
end
theorem sAug_ev {σ : En} {S S1 : Store} {m : ME} {f : D → D → Store → Res D} {i : Nat} {x y : D} (h : σ[i]? = some (some x)) (h1 : m σ S = .ok y S1) : sAug i f m σ S = (match f x y S1 with | .ok d S2 => .nx (σ.set i (some d)) S2 | .exc z S2 => .exc z σ S2 | .bad => .bad) := by
  unfold sAug
  simp only [h, h1, bind_ok']
  all_goals (cases f x y S1 <;> rfl)
/-! ### sequences -/
theorem lenF_seq {S : Store} {d : D} {xs : List D} (h : seqAt S d = some xs) : lenF [d] S = .ok (.int xs.length) S := by
  unfold seqAt at h
  cases d with
  | tup ys => cases h; rfl
  | kt ys => cases h; rfl
  | lv ys => cases h; rfl
  | fl ys => cases h; rfl
  | ref i =>
    have h' : listAt S (.ref i) = some xs := h
    show (match listAt S (.ref i) with | some xs => Res.ok (D.int xs.length) S | none => .bad) = _
    rw [h']
  | _ => cases h
theorem itemF_seq {S : Store} {d x : D} {xs : List D} {i : Int} (h : seqAt S d = some xs) (hi : L2.atI xs i = some x) : itemF d (.int i) S = .ok x S := by
  unfold seqAt at h
  unfold itemF
  cases q : tupD d with
  | some ds =>
    rw [q] at h
    cases h
    simp only [hi]
  | none =>
    rw [q] at h
    have h' : listAt S d = some xs := h
    simp only [h', hi]
theorem atI_nat {α : Type} {xs : List α} {k : Nat} {x : α} (h : xs[k]? = some x) : L2.atI xs (k : Int) = some x := by
  have hl := (List.getElem?_eq_some_iff.mp h).1
  unfold L2.atI L2.ixN
  rw [if_pos (by omega), if_pos (by omega)]
  simpa using h
theorem listvF_seq {S : Store} {d : D} {xs : List D} (h : seqAt S d = some xs) : listvF [d] S = .ok (.lv xs) S := by
  unfold listvF
  simp only [h]
theorem listF_seq {S : Store} {d : D} {xs : List D} (h : seqAt S d = some xs) : listF [d] S = .ok (.ref S.size) (S.push (.lst xs)) := by
  unfold listF
  simp only [h]
theorem tupleF_list {S : Store} {d : D} {xs : List D} (h : listAt S d = some xs) : tupleF [d] S = .ok (.tup xs) S := by
  cases d with
  | tup ys => cases h
  | _ => unfold tupleF; simp only [h]
theorem asInts_map : ∀ ns : List Int, asInts (ns.map D.int) = some ns
  | [] => rfl
  | n :: ns => by
    show (asInts (ns.map D.int)).map (n :: ·) = _
    rw [asInts_map ns]
    rfl
theorem sumF_list {S : Store} {d : D} {ns : List Int} (h : listAt S d = some (ns.map D.int)) : sumF [d] S = .ok (.int ns.sum) S := by
  unfold sumF
  simp only [h, Option.bind_some, asInts_map]
theorem seqAt_list {S : Store} {d : D} {xs : List D} (h : listAt S d = some xs) : seqAt S d = some xs := by
  unfold seqAt
  cases d with
  | tup ys => cases h
  | kt ys => cases h
  | _ => exact h
/-! ### loops -/
theorem lc_inv {src : Src} {t : TgN} {mt : MT} {me : ME} {σ : En} (J : Nat → List D → Store → Prop) (m : Nat) (len : ∀ k acc S, J k acc S → acc.length = k)
    (step : ∀ k acc S, k < m → J k acc S → ∃ d σ2 S1 y S2, src k S = some (some d) ∧ t.put d σ = some σ2 ∧ mt σ2 S = .ok true S1 ∧ me σ2 S1 = .ok y S2 ∧ J (k + 1) (acc ++ [y]) S2)
    (stop : ∀ acc S, J m acc S → src m S = some none) (hm : m ≤ lim) :
    ∀ n k acc S, m < n + k → k ≤ m → J k acc S → ∃ acc' S', lcGo src t mt me σ n k acc S = .ok acc' S' ∧ J m acc' S' := by
  intro n
  induction n with
  | zero => intro k acc S h1 h2; omega
  | succ n ih =>
    intro k acc S h1 h2 j
    by_cases hk : k = m
    · subst hk
      exact ⟨acc, S, by unfold lcGo; rw [stop acc S j], j⟩
    · obtain ⟨d, σ2, S1, y, S2, e1, e2, e3, e4, j'⟩ := step k acc S (by omega) j
      obtain ⟨acc', S', e5, j''⟩ := ih (k + 1) (acc ++ [y]) S2 (by omega) (by omega) j'
      refine ⟨acc', S', ?_, j''⟩
      unfold lcGo
      have hl := len k acc S j
      simp only [e1, e2, e3, e4]
      rw [if_pos (by omega)]
      exact e5
/-- a comprehension that leaves the store alone -/
theorem lc_pure {src : Src} {t : TgN} {mt : MT} {me : ME} {σ : En} {S : Store} (ys : List D)
    (step : ∀ k (h : k < ys.length), ∃ d σ2, src k S = some (some d) ∧ t.put d σ = some σ2 ∧ mt σ2 S = .ok true S ∧ me σ2 S = .ok (ys[k]) S) (stop : src ys.length S = some none) (hm : ys.length ≤ lim) {n : Nat} (hn : ys.length < n) :
    lcGo src t mt me σ n 0 [] S = .ok ys S := by
  obtain ⟨acc', S', e, h1, h2⟩ := lc_inv (σ := σ) (src := src) (t := t) (mt := mt) (me := me) (fun k acc S' => S' = S ∧ acc = ys.take k ∧ k ≤ ys.length) ys.length (fun k acc S' h => by rw [h.2.1, List.length_take]; omega)
    (fun k acc S' hk h => by
      obtain ⟨d, σ2, e1, e2, e3, e4⟩ := step k hk
      obtain ⟨rfl, rfl, _⟩ := h
      exact ⟨d, σ2, _, _, _, e1, e2, e3, e4, rfl, by rw [List.take_succ_eq_append_getElem hk], by omega⟩)
    (fun acc S' h => by rw [h.1]; exact stop) hm n 0 [] S (by omega) (by omega) ⟨rfl, by simp, by omega⟩
  rw [e, h1, h2.1, List.take_length]
theorem i62_nat {j : Nat} (h : j < 1000000) : i62 (j : Int) = true := by
  unfold i62
  simp
  omega
theorem le_lim {a : Nat} (h : a < 1000000) : a ≤ lim := Nat.le_of_lt h
theorem lcv_range {a me : ME} {σ : En} {S S1 : Store} {i j n : Nat} {vs : List Nat} (ys : List D) (ha : a σ S = .ok (.int (j : Int)) S1) (hl : ys.length = j) (hj : j < 1000000) (hn : j < n)
    (hb : ∀ k (h : k < ys.length), me ((wipeD σ vs).set i (some (.int (k : Int)))) S1 = .ok ys[k] S1) : eLcV (iRange1 a) (.one i) tYesM me vs n σ S = .ok (.lv ys) S1 := by
  have h1 : iRange1 a σ S = .ok (fun k _ => some (if k < ((j : Nat) : Int).toNat then some (D.int (0 + (k : Int))) else none)) S1 := by
    unfold iRange1
    rw [ha, bind_ok']
    show (if i62 (j : Int) = true then _ else _) = _
    rw [if_pos (i62_nat hj)]
  have h2 : lcGo (fun k _ => some (if k < ((j : Nat) : Int).toNat then some (D.int (0 + (k : Int))) else none)) (.one i) tYesM me (wipeD σ vs) n 0 [] S1 = .ok ys S1 :=
    lc_pure ys (fun k hk => ⟨.int (k : Int), (wipeD σ vs).set i (some (.int (k : Int))), by simp [show k < j by omega], rfl, rfl, hb k hk⟩) (by simp [hl]) (le_lim (by omega)) (by omega)
  unfold eLcV
  rw [h1, bind_ok', h2, bind_ok']
theorem src_tup {S : Store} {d : D} {ds : List D} {a : ME} {σ : En} {S0 : Store} (ha : a σ S0 = .ok d S) (hd : seqAt S d = some ds) : ∃ src, iSeq a σ S0 = .ok src S ∧ ∀ k, src k S = some ds[k]? := by
  unfold iSeq
  simp only [ha, bind_ok']
  unfold seqAt at hd
  cases q : tupD d with
  | some xs => rw [q] at hd; cases hd; exact ⟨_, rfl, fun k => rfl⟩
  | none =>
    rw [q] at hd
    have hd' : listAt S d = some ds := hd
    simp only [hd']
    exact ⟨_, rfl, fun k => by simp only [hd', Option.map_some]⟩
theorem lcv_seq {a me : ME} {σ : En} {S S1 : Store} {d : D} {ds : List D} {i n : Nat} {vs : List Nat} (ys : List D) (ha : a σ S = .ok d S1) (hd : seqAt S1 d = some ds) (hl : ys.length = ds.length) (hj : ds.length < 1000000) (hn : ds.length < n)
    (hb : ∀ k (h : k < ys.length) (h' : k < ds.length), me ((wipeD σ vs).set i (some ds[k])) S1 = .ok ys[k] S1) : eLcV (iSeq a) (.one i) tYesM me vs n σ S = .ok (.lv ys) S1 := by
  obtain ⟨src, e1, e2⟩ := src_tup ha hd
  unfold eLcV
  rw [e1, bind_ok', lc_pure ys (fun k hk => ⟨ds[k]'(by omega), _, by rw [e2 k]; simp [show k < ds.length by omega], rfl, rfl, hb k hk (by omega)⟩) (by rw [e2, hl]; simp) (by unfold lim; omega) (by omega)]
  rfl
theorem lcv_en {a me : ME} {σ : En} {S S1 : Store} {d : D} {ds : List D} {i j n : Nat} {vs : List Nat} (ys : List D) (ha : a σ S = .ok d S1) (hd : tupD d = some ds) (hl : ys.length = ds.length) (hj : ds.length < 1000000) (hn : ds.length < n)
    (hb : ∀ k (h : k < ys.length) (h' : k < ds.length), me (((wipeD σ vs).set i (some (.int (k : Int)))).set j (some ds[k])) S1 = .ok ys[k] S1) : eLcV (iEn a) (.many [i, j]) tYesM me vs n σ S = .ok (.lv ys) S1 := by
  unfold eLcV iEn
  simp only [ha, bind_ok', hd]
  rw [lc_pure ys (fun k hk => ⟨.tup [.int (k : Nat), ds[k]'(by omega)], _, by unfold enT; simp [show k < ds.length by omega], rfl, rfl, hb k hk (by omega)⟩) (by unfold enT; simp [hl]) (by unfold lim; omega) (by omega)]
  rfl
theorem for_inv {src : Src} {g : MG} {b : MS} (J : Nat → En → Store → Prop) (m : Nat)
    (step : ∀ k σ S, k < m → J k σ S → ∃ d σ1 S1 σ2 S2, src k S = some (some d) ∧ g d σ S = .ok σ1 S1 ∧ (b σ1 S1 = .nx σ2 S2 ∨ b σ1 S1 = .ct σ2 S2) ∧ J (k + 1) σ2 S2)
    (stop : ∀ σ S, J m σ S → src m S = some none) :
    ∀ n k σ S, m < n + k → k ≤ m → J k σ S → ∃ σ' S', forGo src g b n k σ S = .nx σ' S' ∧ J m σ' S' := by
  intro n
  induction n with
  | zero => intro k acc S h1 h2; omega
  | succ n ih =>
    intro k σ S h1 h2 j
    by_cases hk : k = m
    · subst hk
      exact ⟨σ, S, by unfold forGo; rw [stop σ S j], j⟩
    · obtain ⟨d, σ1, S1, σ2, S2, e1, e2, e3, j'⟩ := step k σ S (by omega) j
      obtain ⟨acc', S', e5, j''⟩ := ih (k + 1) σ2 S2 (by omega) (by omega) j'
      refine ⟨acc', S', ?_, j''⟩
      unfold forGo
      simp only [e1, e2]
      rcases e3 with e3 | e3 <;> simp only [e3] <;> exact e5
theorem while_inv {t : MT} {b : MS} (J : Nat → En → Store → Prop) (Q : En → Store → Prop)
    (step : ∀ k σ S, J k σ S → (∃ S1, t σ S = .ok false S1 ∧ Q σ S1) ∨ ∃ S1 σ2 S2 k', k' < k ∧ t σ S = .ok true S1 ∧ (b σ S1 = .nx σ2 S2 ∨ b σ S1 = .ct σ2 S2) ∧ J k' σ2 S2) :
    ∀ n k σ S, k < n → J k σ S → ∃ σ' S', sWhile t b n σ S = .nx σ' S' ∧ Q σ' S' := by
  intro n
  induction n with
  | zero => intro k σ S h; omega
  | succ n ih =>
    intro k σ S h j
    rcases step k σ S j with ⟨S1, e, q⟩ | ⟨S1, σ2, S2, k', hk, e, e2, j'⟩
    · exact ⟨σ, S1, by unfold sWhile; simp only [e], q⟩
    · obtain ⟨σ', S', e5, q⟩ := ih k' σ2 S2 (by omega) j'
      refine ⟨σ', S', ?_, q⟩
      unfold sWhile
      simp only [e]
      rcases e2 with e2 | e2 <;> simp only [e2] <;> exact e5
/-! ### equality of data -/
theorem eqF_int {own : D → D → Store → Res D} {i j : Int} {S : Store} : eqF own (.int i) (.int j) S = .ok (.bl (i == j)) S := by
  simp [eqF, dat, SeqAt.shaped, PyData.canLay0, PyData.depth, PyData.eqv]
theorem neF_int {own : D → D → Store → Res D} {i j : Int} {S : Store} : neF own (.int i) (.int j) S = .ok (.bl (!(i == j))) S := by
  simp [neF, dat, SeqAt.shaped, PyData.canLay0, PyData.depth, PyData.eqv]
theorem neF_bl {own : D → D → Store → Res D} {i j : Bool} {S : Store} : neF own (.bl i) (.bl j) S = .ok (.bl (!(i == j))) S := by
  simp [neF, dat, SeqAt.shaped, PyData.canLay0, PyData.depth, PyData.eqv]
theorem dat_ints {n : Nat} {S : Store} : ∀ ps : List Int, mapO (dat n S) (ps.map D.int) = some (ps.map PyData.int)
  | [] => rfl
  | p :: ps => by
    have h : dat n S (.int p) = some (.int p) := by cases n <;> simp [dat]
    simp only [List.map_cons, mapO, h, dat_ints ps]
theorem lay_ints : ∀ ps : List Int, PyData.canLayAll0 (ps.map PyData.int) = true
  | [] => by simp [PyData.canLayAll0]
  | p :: ps => by simp [PyData.canLayAll0, PyData.canLay0, lay_ints ps]
theorem eqv_ints : ∀ ps qs : List Int, PyData.eqvAll (ps.map PyData.int) (qs.map PyData.int) = decide (ps = qs)
  | [], [] => by simp [PyData.eqvAll]
  | [], _ :: _ => by simp [PyData.eqvAll]
  | _ :: _, [] => by simp [PyData.eqvAll]
  | p :: ps, q :: qs => by
    simp only [List.map_cons, PyData.eqvAll, PyData.eqv, eqv_ints ps qs, List.cons.injEq, Bool.decide_and]
    rfl
theorem depth_ints : ∀ ps : List Int, PyData.depthAll (ps.map PyData.int) ≤ 1
  | [] => by simp [PyData.depthAll]
  | p :: ps => by
    have := depth_ints ps
    simp [PyData.depthAll, PyData.depth]
    omega
/-- tuples of ints -/
def tupI (ps : List Int) : D := .tup (ps.map D.int)
/-- d is a tuple of these ints -/
def TI (d : D) (ps : List Int) : Prop := tupD d = some (ps.map D.int)
theorem TI.of (ps : List Int) : TI (tupI ps) ps := rfl
theorem TI.seq {d : D} {ps : List Int} {S : Store} (h : TI d ps) : seqAt S d = some (ps.map D.int) := by
  unfold seqAt
  rw [show tupD d = some (ps.map D.int) from h]
theorem TI.dat {d : D} {ps : List Int} {n : Nat} {S : Store} (h : TI d ps) : dat (n + 1) S d = some (.tuple (ps.map PyData.int)) := by
  cases d with
  | tup xs => cases h; simp [L2.Mi.dat, dat_ints]
  | kt xs => cases h; simp [L2.Mi.dat, dat_ints]
  | _ => cases h
theorem shaped_ints (ps : List Int) : SeqAt.shaped (.tuple (ps.map PyData.int)) = true := by
  have := depth_ints ps
  simp [SeqAt.shaped, PyData.canLay0, lay_ints, PyData.depth]
  omega
theorem eqF_tup {own : D → D → Store → Res D} {d1 d2 : D} {ps qs : List Int} {S : Store} (h1 : TI d1 ps) (h2 : TI d2 qs) : eqF own d1 d2 S = .ok (.bl (decide (ps = qs))) S := by
  unfold eqF
  rw [h1.dat (n := 63), h2.dat (n := 63)]
  simp only [shaped_ints, Bool.and_self, if_true, PyData.eqv, eqv_ints]
theorem neF_tup {own : D → D → Store → Res D} {d1 d2 : D} {ps qs : List Int} {S : Store} (h1 : TI d1 ps) (h2 : TI d2 qs) : neF own d1 d2 S = .ok (.bl (!decide (ps = qs))) S := by
  unfold neF
  rw [h1.dat (n := 63), h2.dat (n := 63)]
  simp only [shaped_ints, Bool.and_self, if_true, PyData.eqv, eqv_ints]
/-! ### stores that grow -/
def Ext (S S' : Store) : Prop := ∀ i o, S.get i = some o → S'.get i = some o
theorem Ext.refl (S : Store) : Ext S S := fun _ _ h => h
theorem Ext.trans {a b c : Store} (h : Ext a b) (k : Ext b c) : Ext a c := fun i o e => k i o (h i o e)
theorem Ext.push {S : Store} {o : Ob} : Ext S (S.push o) := fun _ _ h => Store.get_push_some h
theorem atI_last {α : Type} {xs : List α} {x : α} : L2.atI (xs ++ [x]) (-1) = some x := by
  unfold L2.atI L2.ixN
  rw [if_neg (by omega), if_pos (by simp; omega)]
  have e : (-1 + (((xs ++ [x]).length : Nat) : Int)).toNat = xs.length := by simp; omega
  rw [e]
  simp
theorem Store.push_set {S : Store} {o o' : Ob} : (S.push o).set S.size o' = S.push o' := by
  unfold Store.push Store.set Store.size
  simp
theorem listAt_ref {S : Store} {i : Nat} {ds : List D} (h : S.get i = some (.lst ds)) : listAt S (.ref i) = some ds := by
  unfold listAt
  simp only [h]
/-! ### sizes of ints -/
def Sm (b : Nat) (i : Int) : Prop := i.natAbs < 2 ^ b
theorem log2_le {n b : Nat} (h : n < 2 ^ b) : n.log2 ≤ b := by
  by_cases hn : n = 0
  · subst hn; simp
  · exact Nat.le_of_lt ((Nat.log2_lt hn).mpr h)
theorem mulOk_sm {a b : Nat} {i j : Int} (hi : Sm a i) (hj : Sm b j) (h : a + b < 1000000) : mulOk i j = true := by
  unfold mulOk
  have h1 := log2_le hi
  have h2 := log2_le hj
  rw [Bool.or_eq_true, decide_eq_true_eq]
  right
  omega
theorem Sm.mul {a b : Nat} {i j : Int} (hi : Sm a i) (hj : Sm b j) : Sm (a + b) (i * j) := by
  unfold Sm at *
  rw [Int.natAbs_mul, Nat.pow_add]
  exact Nat.mul_lt_mul_of_lt_of_le hi (Nat.le_of_lt hj) (Nat.pow_pos (by omega))
theorem Sm.mono {a b : Nat} {i : Int} (h : Sm a i) (hab : a ≤ b) : Sm b i := Nat.lt_of_lt_of_le h (Nat.pow_le_pow_right (by omega) hab)
theorem Sm.add {a : Nat} {i j : Int} (hi : Sm a i) (hj : Sm a j) : Sm (a + 1) (i + j) := by
  unfold Sm at *
  have := Int.natAbs_add_le i j
  rw [Nat.pow_succ]
  omega
theorem Sm.neg {a : Nat} {i : Int} (hi : Sm a i) : Sm a (-i) := by
  unfold Sm at *
  rwa [Int.natAbs_neg]
theorem Sm.zero {a : Nat} : Sm a 0 := Nat.pow_pos (by omega)
end L2.Mi

set_option Elab.async false
set_option linter.all false
set_option maxRecDepth 100000
set_option maxHeartbeats 1000000
/-! Mini, 15: the laws' two drawing helpers (the same text in every law). -/
namespace L2.Mi
open PySem
abbrev Op2 := D → D → Store → Res D
def takeM (oA oM : Op2) : MS :=
    sSeq (sIf (tOf (eBin gtI (eBin itemF (eVar 0) (eC (.int 0))) (eC (.int 0)))) (sSeq (sSet 2 (eBin modI (eFn intF (aList [eBin itemF (eVar 0) (eC (.int 0))])) (eVar 1)))
    (sSeq (sAsg (eBin divI (eBin itemF (eVar 0) (eC (.int 0))) (eVar 1)) (gSub (eVar 0) (eC (.int 0)) setL))
    (sRet (eVar 2)))) (sNext))
    (sSeq (sAsg (eBin modI (eFn intF (aList [eBin oA (eBin oM (eBin itemF (eVar 0) (eC (.int 1))) (eC (.int 48271))) (eC (.int 12345))])) (eC (.int 2147483647))) (gSub (eVar 0) (eC (.int 1)) setL))
    (sRet (eBin modI (eBin divI (eBin modI (eFn intF (aList [eBin oM (eBin itemF (eVar 0) (eC (.int 1))) (eBin itemF (eVar 0) (eC (.int 1)))])) (eC (.int 2147483629))) (eC (.int 64))) (eVar 1))))
/-- what is asked of + and * -/
structure OpsI (oA oM : Op2) : Prop where
  a : ∀ i j S, oA (.int i) (.int j) S = .ok (.int (i + j)) S
  m : ∀ i j S, mulOk i j = true → oM (.int i) (.int j) S = .ok (.int (i * j)) S
theorem opsI_of {f g : Op2} : OpsI (addF f) (mulF g) := ⟨fun _ _ _ => rfl, fun _ _ _ h => mulF_ev h⟩
/-- a pool stands at i -/
def Pool (S : Store) (i : Nat) : Prop := ∃ h s : Int, S.get i = some (.lst [.int h, .int s]) ∧ 0 ≤ h ∧ 0 ≤ s ∧ s < 2147483647
theorem at0 {a b : D} : L2.atI [a, b] 0 = some a := rfl
theorem at1 {a b : D} : L2.atI [a, b] 1 = some b := rfl
theorem mulOk_l {i j : Int} (h1 : -(2 ^ 64) < i) (h2 : i < 2 ^ 64) : mulOk i j = true := by
  unfold mulOk
  simp only [Bool.or_eq_true, Bool.and_eq_true, decide_eq_true_eq]
  exact .inl (.inl ⟨h1, h2⟩)
theorem mulOk_r {i j : Int} (h1 : -(2 ^ 64) < j) (h2 : j < 2 ^ 64) : mulOk i j = true := by
  unfold mulOk
  simp only [Bool.or_eq_true, Bool.and_eq_true, decide_eq_true_eq]
  exact .inl (.inr ⟨h1, h2⟩)
theorem divOk_of {w : Int} (h : 0 < w) (h1 : w < 2 ^ 31) : divOk w = true := by
  unfold divOk
  rw [Bool.and_eq_true, decide_eq_true_eq, decide_eq_true_eq]
  refine ⟨h, ?_⟩
  have := log2_le (n := w.natAbs) (b := 31) (by omega)
  omega
theorem take_ok {oA oM : Op2} (O : OpsI oA oM) {S : Store} {i : Nat} {w : Int} (hp : Pool S i) (w0 : 0 < w) (w1 : w < 2 ^ 31) :
    ∃ r o, fin (takeM oA oM [some (.ref i), some (.int w), none] S) = .ok (.int r) (S.set i o) ∧ 0 ≤ r ∧ r < w ∧ Pool (S.set i o) i := by
  obtain ⟨h, s, hg, h0, s0, s1⟩ := hp
  have hi := Store.get_lt hg
  have i0 : itemF (.ref i) (.int 0) S = .ok (.int h) S := itemF_seq (seqAt_list (listAt_ref hg)) at0
  have i1 : itemF (.ref i) (.int 1) S = .ok (.int s) S := itemF_seq (seqAt_list (listAt_ref hg)) at1
  by_cases hh : 0 < h
  · refine ⟨h % w, .lst [.int (h / w), .int s], ?_, Int.emod_nonneg _ (by omega), Int.emod_lt_of_pos _ w0, ⟨h / w, s, Store.get_set_same hi, Int.ediv_nonneg h0 (by omega), s0, s1⟩⟩
    have hs : setL (.ref i) (.int 0) (.int (h / w)) S = some (S.set i (.lst [.int (h / w), .int s])) := by
      unfold setL
      simp only [hg]
      rfl
    unfold takeM
    simp only [sSeq_ev, sIf_ev, tOf_ev, eBin_ev, eVar_0, eVar_s, eC_ev, bind_ok', i0, gtI_ev, decide_eq_true hh, if_true, sAsg_ev, eFn_ev, aList_cons, aList_nil, intF_ev, modI_ev w0, gName_ev, List.set_cons_succ, List.set_cons_zero, divI_ev (divOk_of w0 w1), gSub, hs, sRet_ev, fin_rt]
  · have hs : ∀ z : Int, setL (.ref i) (.int 1) (.int z) S = some (S.set i (.lst [.int h, .int z])) := fun z => by
      unfold setL
      simp only [hg]
      rfl
    have p0 : (0 : Int) ≤ (s * 48271 + 12345) % 2147483647 := Int.emod_nonneg _ (by omega)
    have p1 : (s * 48271 + 12345) % 2147483647 < 2147483647 := Int.emod_lt_of_pos _ (by omega)
    have hg2 : (S.set i (.lst [.int h, .int ((s * 48271 + 12345) % 2147483647)])).get i = some (.lst [.int h, .int ((s * 48271 + 12345) % 2147483647)]) := Store.get_set_same hi
    have j1 : itemF (.ref i) (.int 1) (S.set i (.lst [.int h, .int ((s * 48271 + 12345) % 2147483647)])) = .ok (.int ((s * 48271 + 12345) % 2147483647)) (S.set i (.lst [.int h, .int ((s * 48271 + 12345) % 2147483647)])) := itemF_seq (seqAt_list (listAt_ref hg2)) at1
    refine ⟨(((s * 48271 + 12345) % 2147483647) * ((s * 48271 + 12345) % 2147483647)) % 2147483629 / 64 % w, .lst [.int h, .int ((s * 48271 + 12345) % 2147483647)], ?_, Int.emod_nonneg _ (by omega), Int.emod_lt_of_pos _ w0, ⟨h, _, hg2, h0, p0, p1⟩⟩
    unfold takeM
    have k1 := O.m s 48271 S (mulOk_r (by omega) (by omega))
    have k2 := O.m ((s * 48271 + 12345) % 2147483647) ((s * 48271 + 12345) % 2147483647) (S.set i (.lst [.int h, .int ((s * 48271 + 12345) % 2147483647)])) (mulOk_r (by omega) (by omega))
    simp only [sSeq_ev, sIf_ev, tOf_ev, eBin_ev, eVar_0, eVar_s, eC_ev, bind_ok', i0, i1, gtI_ev, decide_eq_false hh, Bool.false_eq_true, if_false, sNext_ev, sAsg_ev, eFn_ev, aList_cons, aList_nil, intF_ev, k1, O.a, modI_ev (show (0 : Int) < 2147483647 by omega), gSub, hs, sRet_ev, j1, k2, modI_ev (show (0 : Int) < 2147483629 by omega), divI_ev (divOk_of (show (0 : Int) < 64 by omega) (by omega)), modI_ev w0, fin_rt]
def poolM (lx : FN) (oA oM : Op2) : MS :=
    sSeq (sSet 2 (eC (.int 0)))
    (sSeq (sIf (tOf (eBin ltI (eVar 1) (eFn lx (aList [eVar 0])))) (sSet 2 (eBin itemF (eVar 0) (eVar 1))) (sNext))
    (sSeq (sSet 3 (eFn absF (aList [eVar 2])))
    (sSeq (sSet 4 (eBin modI (eBin oM (eFn intF (aList [eBin oA (eBin modI (eFn intF (aList [eVar 2])) (eC (.int 2147483629))) (eBin oM (eC (.int 104729)) (eBin oA (eVar 1) (eC (.int 1))))])) (eBin oA (eVar 1) (eC (.int 7)))) (eC (.int 2147483629))))
    (sSeq (sSet 5 (eBin modI (eBin oM (eBin modI (eFn intF (aList [eBin oM (eVar 4) (eVar 4)])) (eC (.int 2147483629))) (eC (.int 48271))) (eC (.int 2147483647))))
    (sRet (eLst [eBin oM (eVar 3) (eFn intF (aList [eBin geI (eVar 3) (eBin powI (eC (.int 10)) (eC (.int 18)))])), eVar 5]))))))
theorem pool_ok {lx : FN} {oA oM : Op2} (O : OpsI oA oM) {S : Store} {ns : List Int} {k : Nat} (hx : lx [.fl (ns.map D.int)] S = lenF [.fl (ns.map D.int)] S) (hk : k < 1000) (hl : ns.length ≤ 1000) :
    ∃ o, fin (poolM lx oA oM [some (.fl (ns.map D.int)), some (.int (k : Int)), none, none, none, none] S) = .ok (.ref S.size) (S.push o) ∧ Pool (S.push o) S.size := by
  have hc : ∃ c : Int, sIf (tOf (eBin ltI (eVar 1) (eFn lx (aList [eVar 0])))) (sSet 2 (eBin itemF (eVar 0) (eVar 1))) sNext [some (.fl (ns.map D.int)), some (.int (k : Int)), some (.int 0), none, none, none] S =
      .nx [some (.fl (ns.map D.int)), some (.int (k : Int)), some (.int c), none, none, none] S := by
    have hlen : lx [.fl (ns.map D.int)] S = .ok (.int ns.length) S := by
      rw [hx, lenF_seq (xs := ns.map D.int) rfl, List.length_map]
    by_cases h : k < ns.length
    · refine ⟨ns[k], ?_⟩
      have hi : itemF (.fl (ns.map D.int)) (.int (k : Int)) S = .ok (.int ns[k]) S := itemF_seq (xs := ns.map D.int) rfl (atI_nat (by simp [h]))
      simp only [sIf_ev, tOf_ev, eBin_ev, eVar_s, eVar_0, eFn_ev, aList_cons, aList_nil, bind_ok', hlen, ltI_ev, decide_eq_true (show (k : Int) < (ns.length : Int) by omega), if_true, sAsg_ev, hi, gName_ev, List.set_cons_succ, List.set_cons_zero]
    · refine ⟨0, ?_⟩
      simp only [sIf_ev, tOf_ev, eBin_ev, eVar_s, eVar_0, eFn_ev, aList_cons, aList_nil, bind_ok', hlen, ltI_ev, decide_eq_false (show ¬ (k : Int) < (ns.length : Int) by omega), Bool.false_eq_true, if_false, sNext_ev]
  obtain ⟨c, hc⟩ := hc
  have q1 : (0 : Int) < 2147483629 := by omega
  have q2 : (0 : Int) < 2147483647 := by omega
  have r0 := Int.emod_nonneg c (show (2147483629 : Int) ≠ 0 by omega)
  have r1 := Int.emod_lt_of_pos c q1
  have m1 : mulOk 104729 ((k : Int) + 1) = true := mulOk_l (by omega) (by omega)
  have m2 : mulOk (c % 2147483629 + 104729 * ((k : Int) + 1)) ((k : Int) + 7) = true := mulOk_r (by omega) (by omega)
  have b0 := Int.emod_nonneg ((c % 2147483629 + 104729 * ((k : Int) + 1)) * ((k : Int) + 7)) (show (2147483629 : Int) ≠ 0 by omega)
  have b1 := Int.emod_lt_of_pos ((c % 2147483629 + 104729 * ((k : Int) + 1)) * ((k : Int) + 7)) q1
  generalize hb : (c % 2147483629 + 104729 * ((k : Int) + 1)) * ((k : Int) + 7) % 2147483629 = bl at b0 b1
  have m3 : mulOk bl bl = true := mulOk_l (by omega) (by omega)
  have m4 : mulOk (bl * bl % 2147483629) 48271 = true := mulOk_r (by omega) (by omega)
  have s0 := Int.emod_nonneg (bl * bl % 2147483629 * 48271) (show (2147483647 : Int) ≠ 0 by omega)
  have s1 := Int.emod_lt_of_pos (bl * bl % 2147483629 * 48271) q2
  have a0 : (0 : Int) ≤ (if c < 0 then -c else c) := by split <;> omega
  generalize ha : (if c < 0 then -c else c) = hv at a0
  have pw : powOk 10 18 = true := by decide
  have f0 : (0 : Int) ≤ (if decide ((10 : Int) ^ (18 : Int).toNat ≤ hv) = true then 1 else 0) ∧ (if decide ((10 : Int) ^ (18 : Int).toNat ≤ hv) = true then (1 : Int) else 0) ≤ 1 := by split <;> omega
  have m5 : mulOk hv (if decide ((10 : Int) ^ (18 : Int).toNat ≤ hv) = true then 1 else 0) = true := mulOk_r (by omega) (by omega)
  refine ⟨_, ?_, ⟨hv * (if decide ((10 : Int) ^ (18 : Int).toNat ≤ hv) = true then 1 else 0), bl * bl % 2147483629 * 48271 % 2147483647, Store.get_push_same, Int.mul_nonneg a0 f0.1, s0, s1⟩⟩
  unfold poolM
  simp only [sSeq_ev, sAsg_ev, eC_ev, gName_ev, List.set_cons_succ, List.set_cons_zero, hc, eFn_ev, aList_cons, aList_nil, eVar_s, eVar_0, bind_ok', absF_ev, ha, eBin_ev, intF_ev, modI_ev q1, modI_ev q2, O.a, O.m _ _ _ m1, O.m _ _ _ m2, hb, O.m _ _ _ m3, O.m _ _ _ m4, sRet_ev, eLst_ev, powI_ev pw, geI_ev, intF_bl, O.m _ _ _ m5, fin_rt]
end L2.Mi

set_option Elab.async false
set_option linter.all false
set_option maxRecDepth 100000
set_option maxHeartbeats 4000000
/-! Mini, 23: own exceptions: made, raised. -/
namespace L2.Mi
open PySem PySem.Spec PyProof.Rows
/-! ### the facts of a class -/
structure XC (K : Fg) (C fI : Addr) : Prop where
  o : OexC K C
  x : XfC K C
  i : PySem.W.findIn K (.ref C) "__init__" = some (some (.ref fI))
  t : PySem.W.typeIn K (.ref fI) = some (.type "function")
theorem oexO_ok {K : Fg} {C : Addr} (h : oexO K C = true) : ∃ nm q N bs bm sn sub ab col dd k0 k1 k2 k3 k5, K.lookup C = some (excClassObj nm q C N bs bm true sn sub ab col dd k0 k1 k2 k3 k5 "ValueError.__new__") ∧ PySem.HandSPX.refsVE bm = true := by
  unfold oexO at h
  split at h
  · rename_i t dd cd sl look
    split at h
    · rename_i C2 bm k0 k1 k2 k3 n k5 e1 e2
      obtain ⟨a1, h⟩ := ba h
      obtain ⟨a2, h⟩ := ba h
      obtain ⟨a3, h⟩ := ba h
      obtain ⟨a4, h⟩ := ba h
      obtain ⟨a5, a6⟩ := ba h
      have b1 := of_decide_eq_true a1
      have b2 := of_decide_eq_true a2
      have b3 := of_decide_eq_true a3
      subst b1 b2 b3
      obtain ⟨z1, z2, z3, z4, z5, z6, z7, z8, z9, z10, z11⟩ := cd
      obtain ⟨sl0⟩ := sl
      simp only at e1 e2 a4 a5
      have a7 : z11 = false := by simpa using a4
      subst e1 e2 a5 a7
      exact ⟨_, _, _, _, _, _, _, _, _, _, _, _, _, _, _, look, a6⟩
    · cases h
  · cases h
theorem xc_of {L : Lw} {K : Fg} (c : L.Says K) (i : Nat) {C : Str} (h : L.fa[i]? = some (.oex C)) : XC K (He.ga K C) (He.ma K (He.ga K C) "__init__") := by
  obtain ⟨h1, z⟩ := ba (c.fact i h)
  obtain ⟨h2, z⟩ := ba z
  obtain ⟨h3, z⟩ := ba z
  obtain ⟨h4, z⟩ := ba z
  obtain ⟨h5, z⟩ := ba z
  obtain ⟨h6, h7⟩ := ba z
  obtain ⟨h8, h9⟩ := fnAt_ok h6
  exact ⟨⟨oexO_ok h1, He.eqO_ok h2, of_decide_eq_true h3, of_decide_eq_true h4, h5⟩, xfB_ok h7, h8, beq_iff_eq.mp h9⟩
/-! ### its __init__: one field -/
def spX (K : Fg) (f : Str) : Sp := fun vs H Q _ => ∃ (a C : Addr) (v : V), vs = [.ref a, v] ∧ OexC K C ∧ PySem.W.findIn K (.ref C) f = some none ∧ H a = some (exo a C none) ∧
  ∀ dx, H dx = none → dx ≠ a → Q .non (upd (upd H dx (exd dx [(f, v)])) a (exo a C (some dx)))
theorem xi_ok {P : Program} {w : World} {K : Fg} {mg : Str → Option Value} {base : Heap} {x qual : Str} {params : Arguments} {scope : Scope} {fI : Addr} {fd : FuncData} {k : Nat} {s v f : Str} {p1 p2 p3 pos : Pos} {dvs : List V} {kws : List (Str × V)}
    (F : FunD K x qual params [.Assign [.Attribute (.Name s p1) f p2] (.Name v p3) pos] scope dvs kws fI fd) (S : FnScope [s, v] [s, v] scope) (hs : Vis scope s) (hv : Vis scope v)
    (d1 : (s == ("__debug__" : Str)) = false := by decide) (d2 : (s == ("__classdict__" : Str)) = false := by decide) (d3 : (v == ("__debug__" : Str)) = false := by decide) (d4 : (v == ("__classdict__" : Str)) = false := by decide) :
    FnOk P w K mg base (L2.CX P w) (k + 1) fI fd [s, v] (spX K f) := by
  refine F.ok S (fun vs H Q E ⟨a, C, u, e, _⟩ => by rw [e]; rfl) fun cdv A outer st H vs Q E hr ⟨a, C, u, e, T, hn, ha, q⟩ => ?_
  subst e
  refine ⟨_, pss_one (ps_ost (pe_var (i := 0) rfl hs d1 d2) (pe_var (i := 1) rfl hv d3 d4)), u, rfl, .ref a, rfl, a, C, rfl, T, hn, .inl ⟨ha, fun dx n1 n2 => q dx n1 n2⟩⟩
/-! ### raise C(e) -/
def sRaise (c f : Nat) (m : ME) : MS := fun σ S => match m σ S with
  | .ok d S1 => .exc ⟨c, [(f, d)]⟩ σ S1
  | .exc x S1 => .exc x σ S1
  | .bad => .bad
theorem made_heap {H : Hp} {a dx C : Addr} {v : V} {f : Str} (n1 : H a = none) (ne : dx ≠ a) :
    upd (del (upd (upd (upd H a (exo a C none)) dx (exd dx [(f, v)])) a (exo a C (some dx))) a) dx (.xd [(f, v)]) = upd H dx (.xd [(f, v)]) := by
  funext b
  by_cases h1 : b = dx
  · subst h1
    rw [upd_same, upd_same]
  · rw [upd_ne h1, upd_ne h1]
    by_cases h2 : b = a
    · subst h2
      rw [del_same, n1]
    · rw [del_ne h2, upd_ne h2, upd_ne h1, upd_ne h2]
section
variable {G : Gx} {X : Cx} {W : WX}
theorem passFalse : Passes (L2.CX X.prog X.w) X (fun _ _ _ => False) := fun _ _ _ _ _ _ _ h => by
  obtain ⟨_, _, _, _, _, _, _, _, _, _, _, _, z⟩ := h
  exact z.elim
theorem ss_raise {e : Expr} {m : ME} {c f : Nat} {C fI : Addr} {k : Nat} {fd : FuncData} {ps : List Str} {x : Str} {p pos pos2 : Pos} (cc : Cc G X W) (T : XC X.K C fI) (hc : G.clsv c = some (.ref C)) (hn : PySem.W.findIn X.K (.ref C) (G.fld f) = some none)
    (F : FnOk X.prog X.w X.K X.mg X.base (L2.CX X.prog X.w) k fI fd ps (spX X.K (G.fld f))) (hr : Room (k + 1) X.A) (hb : Binds X.K fd ps []) (hg : Gl X x) (hm : X.mg x = some (.ref C)) (he : SE G X W e m)
    (hdb : (x == ("__debug__" : Str)) = false := by decide) (hs : starEach [e] X.env = (false, eval e X.env) :: starEach [] X.env := by rfl) (hpl : (backTo pos (starEach [] X.env)).any (·.1) = false := by rfl) :
    SS G X W (.Raise (some (.Call (.Name x p) [e] [] pos)) none pos2) (sRaise c f m) := by
  have mk : PMk X (.Call (.Name x p) [e] [] pos) _ := pmk_oex T.o T.i T.t F hr hb .nil passFalse hg hm (sa_cons he sa_nil hs) hdb hs hpl
  refine PS.weak (ps_raise cc.calm cc.tk mk) fun D σ H ⟨ρ, σs, S, rl, re, q⟩ => ?_
  refine ⟨ρ, σs, S, rl, re, ?_⟩
  unfold sRaise at q
  unfold aList aList
  cases hm1 : m σs S with
  | bad => rw [hm1] at q; exact q.elim
  | exc y S1 => rw [hm1] at q; exact fun ρ1 H1 cls dd l1 rl1 rx => q ρ1 H1 σ cls dd l1 rl1 (re.mono l1) rx
  | ok d S1 =>
    rw [hm1] at q
    intro ρ1 H1 xs l1 rl1 rv1
    obtain ⟨v, rfl, rv⟩ := rvs1 rv1
    refine ⟨by simp, fun a ha => ⟨a, C, v, rfl, T.o, hn, upd_same, fun dx n1 n2 => ?_⟩⟩
    have hx : H1 dx = none := by rw [upd_ne n2] at n1; exact n1
    refine ⟨rfl, dx, [(G.fld f, v)], upd_same, by rw [upd_ne n2, upd_same], hx, ?_⟩
    rw [made_heap ha n2]
    refine q ρ1 _ σ (.ref C) (some dx) (l1.trans (Le.new hx)) (rl1.other hx) ((re.mono l1).mono (Le.new hx)) ⟨hc, .inr ⟨dx, _, rfl, upd_same, .cons (rv.mono (Le.new hx)) .nil⟩⟩
end
end L2.Mi

set_option Elab.async false
set_option linter.all false
set_option maxRecDepth 100000
set_option maxHeartbeats 4000000
/-! Mini, 24: try with several clauses, each of them a return; the caught exception's fields. -/
namespace L2.Mi
open PySem PySem.Spec PyProof.Rows
/-- a clause: its class, the slot of its name, what its return gives -/
structure Cls1 where
  c : Value
  i : Option Nat
  tx : Addr → Value → Option Addr → TE
def Cls1.put (q : Cls1) (a : Addr) (σ : St) : St := match q.i with
  | none => σ
  | some i => σ.set i (some (.ref a))
def wCl (K : Fg) (Wo : WX) (R : VK) : List Cls1 → WX
  | [] => Wo
  | q :: r => fun cls d σ H => ∃ b, PySem.W.exmOne K cls q.c = some b ∧ (b = true → ∀ a, H a = none → q.tx a cls d (q.put a σ) H R) ∧ (b = false → wCl K Wo R r cls d σ H)
inductive ClOk (X : Cx) : List ExceptHandler → List Cls1 → Prop
  | nil : ClOk X [] []
  | bare {x : Str} {c : Value} {tx : Addr → Value → Option Addr → TE} {e : Expr} {np rp hp : Pos} {hs : List ExceptHandler} {l : List Cls1} (nm : Names X x c)
      (su : ∀ (a : Addr) (oe : Obj) (cls : Value) (d : Option Addr) (pn : List (Addr × Obj)), Zc cls d oe → (∃ vs, oe.data = .fields vs) → PE (X.suite a ((a, oe) :: pn)) e (tx a cls d)) (r : ClOk X hs l) :
      ClOk X (.ExceptHandler (some (.Name x np)) none [.Return (some e) rp] hp :: hs) (⟨c, none, tx⟩ :: l)
  | named {x n : Str} {c : Value} {i : Nat} {tx : Addr → Value → Option Addr → TE} {e : Expr} {np rp hp : Pos} {hs : List ExceptHandler} {l : List Cls1} (nm : Names X x c) (hi : X.N[i]? = some n) (lo : X.env.kindOf n = some .local)
      (su : ∀ (a : Addr) (oe : Obj) (cls : Value) (d : Option Addr) (pn : List (Addr × Obj)), Zc cls d oe → (∃ vs, oe.data = .fields vs) → PE (X.suite a ((a, oe) :: pn)) e (tx a cls d)) (r : ClOk X hs l) :
      ClOk X (.ExceptHandler (some (.Name x np)) (some n) [.Return (some e) rp] hp :: hs) (⟨c, some i, tx⟩ :: l)
section
variable {X : Cx} {body : List Stmt} {g : ExceptHandler} {hs : List ExceptHandler} {l : List Cls1} {pos : Pos} {tb : WX → TS} {Wo : WX}
/-- a value's name that an exception holds -/
theorem name_there {x : Str} {c : Value} (nm : Names X x c) {a : Addr} {oe : Obj} {pn pins : List (Addr × Obj)} {σ : St} {H : Hp} {s : Shared} (J : Inv (X.suite a ((a, oe) :: pn)) pins σ H s) {np : Pos} {Q : Value → Shared → Prop} {E : Value → Shared → Prop} (q : Q c s) :
    wpAny (model X.prog X.w) (X.A.mark (some (.ref a))) (eval (.Name x np) X.env) Q E s := by
  rcases nm with ⟨g1, g2, g3 | ⟨g3, g4, g5⟩⟩
  · exact ld_glob (X := X.suite a ((a, oe) :: pn)) J g1 g3 q g2
  · exact ld_blt (X := X.suite a ((a, oe) :: pn)) J g1 g3 g4 q g5 g2
/-- where the exception lies is no frame -/
theorem no_frame {B h : Heap} {es : List Env} {a : Addr} {o : Obj} {vs : Array Value} (ff : h.FunFrames B es) (e1 : h.get? a = some o) (e2 : o.data = .fields vs) : a ∉ frs es := fun z => by
  obtain ⟨_, o2, e3, e4⟩ := ff.mem z
  rw [e1] at e3
  cases e3
  exact e4 _ e2
/-- the clauses, one after another -/
theorem clauses_go {B : Heap} {a : Addr} {cls : Value} {d : Option Addr} {σ1 : St} {H1 : Hp} {sI s1 : Shared} {pins : List (Addr × Obj)} {D : Ends} (nd : X.N.Nodup) (st : X.stack = X.env :: X.outer) (fr : X.env.frame = some X.env.locals) (tk : Takes X Wo)
    (J : Inv X pins σ1 H1 sI) (sky : HandSPX.FlyingZ B (X.env :: X.outer) a (Zc cls d) s1.heap) (up : sI.heap.UpToSlots s1.heap) (nb : ∀ (b : Addr) (o : Obj), sI.heap.get? b = some o → b ∉ frs X.stack → B.get? b = some o) (na : H1 a = none) (os : s1.os = sI.os) (ag : AllBare s1.gens) :
    ∀ {hs : List ExceptHandler} {l : List Cls1}, ClOk X hs l → wCl X.K Wo D.rt l cls d σ1 H1 → wpAny (model X.prog X.w) X.A (handleBy (.ref a) X.env hs) (SP X pins D) X.xe s1 := by
  have J0 : ∀ {h2 : Heap}, HandSPX.FlyingZ B (X.env :: X.outer) a (Zc cls d) h2 → s1.heap.UpToSlots h2 → Inv X pins σ1 H1 { s1 with heap := h2 } := fun f u => J.landed nb f.1 (up.trans u) os ag
  have side : ∀ {h2 : Heap} {o : Obj} {vs : Array Value}, HandSPX.FlyingZ B (X.env :: X.outer) a (Zc cls d) h2 → h2.get? a = some o → o.data = .fields vs → a ≠ X.env.locals ∧ a ∉ X.fs := fun f e1 e2 => by
    have nf := no_frame f.2.2.1 e1 e2
    refine ⟨fun z => nf (List.mem_filterMap.mpr ⟨X.env, by simp, by rw [fr, z]⟩), fun z => ?_⟩
    obtain ⟨y, hy, q⟩ := List.mem_filterMap.mp z
    exact nf (List.mem_filterMap.mpr ⟨y, by simp [hy], q⟩)
  obtain ⟨o1, v1, g1, z1, d1⟩ := sky.there
  have J1 : Inv X pins σ1 H1 s1 := J0 sky (Heap.UpToSlots.refl _)
  have S1 := J1.suite g1 d1 na (side sky g1 d1).1 (side sky g1 d1).2
  have ty : PySem.W.Looks (model X.prog X.w) s1.heap (typeOf (.ref a)) cls := fun _ _ _ _ kk q => wpAny_typeOf_ref (kk _ _ g1) (by rw [z1.1]; exact q)
  intro hs l hc
  induction hc with
  | nil =>
    intro w
    refine wpAny_handleBy_nil ?_
    obtain ⟨b1, b2, b3, oe, fv, T, oT, tv, c1, c2, c3, c4, c5⟩ := id sky
    have done : wpAny (model X.prog X.w) X.A (setFlight (.ref a) X.env.frame) (fun _ s2 => wpAny (model X.prog X.w) X.A (throw (.ref a) : Sem Flow) (SP X pins D) X.xe s2) X.xe s1 := by
      rw [fr]
      refine HandSPX.setFlight_upZ sky fun h2 held u2 => wpAny_throw (tk _ _ ⟨a, B, sI, pins, σ1, H1, cls, d, rfl, J, nb, up.trans u2, ?_, na, os, ag, w⟩)
      exact .inr (.inr (by rw [st]; exact held))
    unfold PySem.passOn
    refine wpAny_bind (wpAny_field c1 c3 c4 ?_)
    have nz : ¬ ((Value.ref T == Value.none) = true) := by simp
    rw [if_neg nz]
    first
      | exact wpAny_bind done
      | exact wpAny_bind (wpAny_pure (wpAny_bind done))
  | @bare x c tx e np rp hp hs2 l2 nm su r ih =>
    rintro ⟨b, e1, yes, no⟩
    refine wpAny_handleBy_cons (codeAny_handlers_test (name_there nm S1 ?_)) fun z => by cases z
    refine (PySem.W.exm_one (M := model X.prog X.w) J1.kIn ty e1).here ?_
    cases b with
    | false => exact ih (no rfl)
    | true =>
      refine codeAny_handlers_suite (HandSPX.lands_againZ sky fun h2 f2 u2 => ?_)
      obtain ⟨o2, v2, g2, z2, d2⟩ := f2.there
      have S2 := (J0 f2 u2).suite g2 d2 na (side f2 g2 d2).1 (side f2 g2 d2).2
      have run := (pss_one (ps_ret (pos := rp) (su a o2 cls d (X.pn ++ pins) z2 ⟨_, d2⟩))).run [] _ _ H1 D S2 (yes rfl a na)
      refine wpAny_mono run (fun f s3 q => ?_) fun _ _ z => z.elim
      cases f with
      | ret u => obtain ⟨v6, σ6, H6, S6, r6, q6⟩ := q; exact ⟨v6, σ6, H6, S6.unsuite J.ok, r6, q6⟩
      | next => obtain ⟨σ6, H6, S6, q6⟩ := q; exact ⟨σ6, H6, S6.unsuite J.ok, q6⟩
      | brk => obtain ⟨σ6, H6, S6, q6⟩ := q; exact ⟨σ6, H6, S6.unsuite J.ok, q6⟩
      | cont => obtain ⟨σ6, H6, S6, q6⟩ := q; exact ⟨σ6, H6, S6.unsuite J.ok, q6⟩
  | @named x n c i tx e np rp hp hs2 l2 nm hi lo su r ih =>
    rintro ⟨b, e1, yes, no⟩
    refine wpAny_handleBy_cons (codeAny_handlers_test (name_there nm S1 ?_)) fun z => by cases z
    refine (PySem.W.exm_one (M := model X.prog X.w) J1.kIn ty e1).here ?_
    cases b with
    | false => exact ih (no rfl)
    | true =>
      refine codeAny_handlers_suite_as (HandSPX.lands_againZ sky fun h2 f2 u2 => ?_)
      obtain ⟨o2, v2, g2, z2, d2⟩ := f2.there
      have S2 := (J0 f2 u2).suite g2 d2 na (side f2 g2 d2).1 (side f2 g2 d2).2
      refine store_ok (X := X.suite a ((a, o2) :: (X.pn ++ pins))) (v := .ref a) S2 nd hi (.inl lo) rfl (fun s3 S3 => ?_) (.inr lo)
      have run := (pss_one (ps_ret (pos := rp) (su a o2 cls d (X.pn ++ pins) z2 ⟨_, d2⟩))).run [] s3 _ H1 { nx := fun _ _ => False, rt := D.rt } S3 (yes rfl a na)
      refine wpAny_mono run (fun f s4 q => ?_) fun _ _ z => z.elim
      cases f with
      | ret u =>
        obtain ⟨v6, σ6, H6, S6, r6, q6⟩ := q
        exact gone_ok (S6.unsuite J.ok) nd hi lo fun s7 J7 => ⟨v6, _, H6, J7, r6, q6⟩
      | next => obtain ⟨_, _, _, q6⟩ := q; exact q6.elim
      | brk => obtain ⟨_, _, _, q6⟩ := q; exact q6.elim
      | cont => obtain ⟨_, _, _, q6⟩ := q; exact q6.elim
/-- try: body; the clauses return -/
theorem ps_tryC (nd : X.N.Nodup) (st : X.stack = X.env :: X.outer) (fr : X.env.frame = some X.env.locals) (tk : Takes X Wo)
    (hb : ∀ (W : WX) (pn : List (Addr × Obj)) (xe : Value → Shared → Prop), Takes (X.tr pn xe) W → PassesOwn (model X.prog X.w) X.A X.env xe → PSs (X.tr pn xe) body (tb W)) (hc : ClOk X (g :: hs) l) :
    PS X (.Try body (g :: hs) [] [] pos) (fun D σ H => tb (wCl X.K Wo D.rt l) D σ H) := by
  refine ⟨fun pins s σ H D I h => wpAny_Try_except ?_⟩
  have back : ∀ {σ2 : St} {H2 : Hp} {s2 : Shared} {pn : List (Addr × Obj)} {xe : Value → Shared → Prop}, Inv (X.tr (X.pn ++ pins) xe) pn σ2 H2 s2 → Inv X pins σ2 H2 s2 := fun J => J.ofTry I.ok
  let xe : Value → Shared → Prop := fun u s1 => wpAny (model X.prog X.w) X.A (noteFrame u X.env) (fun _ s2 => wpAny (model X.prog X.w) X.A (setFlight u none) (fun _ s3 => wpAny (model X.prog X.w) X.A (handleBy u X.env (g :: hs)) (SP X pins D) X.xe s3) X.xe s2) X.xe s1
  have tk2 : Takes (X.tr (X.pn ++ pins) xe) (wCl X.K Wo D.rt l) := by
    intro u s1 xx
    obtain ⟨a, B, sI, pins2, σ2, H2, cls, d, rfl, J2, nb, up, sky, na, os, ag, w⟩ := xx
    have sky2 : Sky B (X.env :: X.outer) a (Zc cls d) X.env.locals s1.heap := by rw [← st]; exact sky
    show wpAny (model X.prog X.w) X.A (noteFrame (.ref a) X.env) _ X.xe s1
    refine Sky.land Zc.steady (by rw [I.ok.frames, st]) fr sky2 fun h3 f3 u3 => ?_
    exact clauses_go (s1 := { s1 with heap := h3 }) nd st fr tk (back J2) f3 (up.trans u3) nb na os ag hc w
  have run := (hb (wCl X.K Wo D.rt l) (X.pn ++ pins) xe tk2 PassesOwn.looking).run [] s σ H D (I.toTry xe) h
  refine wpAny_mono run (fun f s1 q => ?_) fun _ _ z => z
  cases f with
  | next => obtain ⟨σ2, H2, J2, q2⟩ := q; exact wpAny_execs_nil ⟨σ2, H2, back J2, q2⟩
  | brk => obtain ⟨σ2, H2, J2, q2⟩ := q; exact ⟨σ2, H2, back J2, q2⟩
  | cont => obtain ⟨σ2, H2, J2, q2⟩ := q; exact ⟨σ2, H2, back J2, q2⟩
  | ret u => obtain ⟨v2, σ2, H2, J2, r2, q2⟩ := q; exact ⟨v2, σ2, H2, back J2, r2, q2⟩
end
/-! ### what a clause returns -/
abbrev MX := Xn → Store → Res D
abbrev MXA := Xn → Store → Res (List D)
section
variable (G : Gx) (i : Option Nat) (a : Addr) (cls : Value) (d : Option Addr)
def tmx (m : MX) : TE := fun σ H Q => ∃ ρ S x, Rl G ρ S H ∧ RX G ρ H x cls d ∧ (∀ j, i = some j → σ[j]? = some (some (.ref a))) ∧ Post G ρ H (m x S) Q (fun _ _ _ => False)
def tmxa (m : MXA) : TA := fun σ H Q => ∃ ρ S x, Rl G ρ S H ∧ RX G ρ H x cls d ∧ (∀ j, i = some j → σ[j]? = some (some (.ref a))) ∧ PostA G ρ H (m x S) Q (fun _ _ _ => False)
end
def SX (G : Gx) (X : Cx) (i : Option Nat) (e : Expr) (m : MX) : Prop :=
  ∀ (a : Addr) (oe : Obj) (cls : Value) (d : Option Addr) (pn : List (Addr × Obj)), Zc cls d oe → (∃ vs, oe.data = .fields vs) → PE (X.suite a ((a, oe) :: pn)) e (tmx G i a cls d m)
def SXA (G : Gx) (X : Cx) (i : Option Nat) (es : List Expr) (m : MXA) : Prop :=
  ∀ (a : Addr) (oe : Obj) (cls : Value) (d : Option Addr) (pn : List (Addr × Obj)), Zc cls d oe → (∃ vs, oe.data = .fields vs) → PA (X.suite a ((a, oe) :: pn)) es (tmxa G i a cls d m)
def xC (d : D) : MX := fun _ S => .ok d S
def xF (c f : Nat) : MX := fun x S => if x.c = c then (match x.fs.lookup f with | some d => .ok d S | none => .bad) else .bad
def xList : List MX → MXA
  | [] => fun _ S => .ok [] S
  | m :: ms => fun x S => (m x S).bind fun y S1 => (xList ms x S1).bind fun ys S2 => .ok (y :: ys) S2
def xLv (ms : List MX) : MX := fun x S => (xList ms x S).bind fun ds S1 => if ds.length ≤ 1000 then .ok (.lv ds) S1 else .bad
def xFn (f : FN) (ms : List MX) : MX := fun x S => (xList ms x S).bind f
theorem RX.mono {G : Gx} {ρ ρ' : Wd} {H H' : Hp} {x : Xn} {cls : Value} {dd : Option Addr} (h : RX G ρ H x cls dd) (l : Le G ρ H ρ' H') : RX G ρ' H' x cls dd := by
  refine ⟨h.cls, ?_⟩
  rcases h.fs with h | ⟨d, us, e1, e2, r⟩
  · exact .inl h
  · exact .inr ⟨d, us, e1, l.tk d _ trivial e2, r.move l.mv⟩
section
variable {G : Gx} {X : Cx} {i : Option Nat} {e : Expr} {es : List Expr} {pos p : Pos}
theorem sx_c {d : D} (h : ∀ (a : Addr) (oe : Obj) (pn : List (Addr × Obj)), SE G (X.suite a ((a, oe) :: pn)) W0 e (eC d)) : SX G X i e (xC d) := by
  intro a oe cls dd pn z f
  refine PE.weak (h a oe pn) fun σ H Q ⟨ρ, S, x, rl, rx, _, q⟩ => ⟨ρ, List.replicate σ.length none, S, rl, ⟨by simp, fun j d h => ?_⟩, fun ρ1 H1 v l1 rl1 rv => q ρ1 H1 v l1 rl1 rv⟩
  obtain ⟨_, e⟩ := List.getElem?_eq_some_iff.mp h
  simp at e
theorem rfs_look {ρ : Wd} {H : Hp} : ∀ {fs : List (Nat × D)} {us : List (Str × V)} {f : Nat} {d : D}, RFs G ρ H fs us → fs.lookup f = some d → ∃ v, us.lookup (G.fld f) = some v ∧ RV G ρ H d v
  | _, _, _, _, .nil, h => by cases h
  | _, _, f, d, @RFs.cons _ _ _ n d0 v0 fs us r t, h => by
    by_cases q : f = n
    · subst q
      simp [List.lookup] at h
      subst h
      exact ⟨v0, by simp [List.lookup], r⟩
    · have b : (f == n) = false := by simpa using q
      have b2 : (G.fld f == G.fld n) = false := by
        simp only [beq_eq_false_iff_ne, ne_eq]
        exact fun z => q (G.inj _ _ z)
      simp [List.lookup, b] at h
      obtain ⟨v, h1, h2⟩ := rfs_look t h
      exact ⟨v, by simp [List.lookup, b2, h1], h2⟩
theorem sx_f {c f j : Nat} {C : Addr} {n : Str} {np : Pos} (T : XfC X.K C) (hc : G.clsv c = some (.ref C)) (hno : PySem.W.findIn X.K (.ref C) (G.fld f) = some none) (hN : X.N[j]? = some n) (hv : Vis X.env.scope n)
    (hb : attributeBase (.Name n np) (G.fld f) X.env (eval (.Name n np) X.env) = eval (.Name n np) X.env := by rfl) (hd : (n == ("__debug__" : Str)) = false := by decide) (hcd : (n == ("__classdict__" : Str)) = false := by decide) :
    SX G X (some j) (.Attribute (.Name n np) (G.fld f) pos) (xF c f) := by
  intro a oe cls dd pn z g
  refine PE.weak (pe_xf T hno z g (pe_var (X := X.suite a ((a, oe) :: pn)) (i := j) hN hv hd hcd) hb) fun σ H Q ⟨ρ, S, x, rl, rx, hs, q⟩ => ⟨.ref a, hs j rfl, rfl, ?_⟩
  unfold xF at q
  by_cases hx : x.c = c
  · rw [if_pos hx] at q
    have e1 := rx.cls
    rw [hx, hc] at e1
    cases e1
    refine ⟨rfl, ?_⟩
    cases hl : x.fs.lookup f with
    | none => rw [hl] at q; exact q.elim
    | some v =>
      rw [hl] at q
      rcases rx.fs with ⟨_, h2⟩ | ⟨d2, us, h1, h2, h3⟩
      · rw [h2] at hl
        cases hl
      · obtain ⟨y, k1, k2⟩ := rfs_look h3 hl
        exact ⟨d2, us, y, h1, h2, k1, q ρ H y Le.refl rl k2⟩
  · rw [if_neg hx] at q
    exact q.elim
theorem sxa_nil : SXA G X i [] (xList []) := fun a oe cls d pn z g => PA.weak pa_nil fun σ H Q ⟨ρ, S, x, rl, rx, hs, q⟩ => q ρ H [] Le.refl rl .nil
theorem sxa_cons {m : MX} {ms : List MX} (h : SX G X i e m) (t : SXA G X i es (xList ms)) (hst : starEach (e :: es) X.env = (false, eval e X.env) :: starEach es X.env := by rfl) : SXA G X i (e :: es) (xList (m :: ms)) := by
  intro a oe cls d pn z g
  refine PA.weak (pa_cons (h a oe cls d pn z g) (t a oe cls d pn z g) hst) fun σ H Q ⟨ρ, S, x, rl, rx, hs, q⟩ => ?_
  refine ⟨ρ, S, x, rl, rx, hs, PostR.bind (R := RV G) (r := m x S) q fun ρ1 H1 S1 d1 v1 l1 rl1 rv1 q1 => ?_⟩
  refine ⟨ρ1, S1, x, rl1, rx.mono l1, hs, PostR.bind (R := RVs G) (r := xList ms x S1) q1 fun ρ2 H2 S2 ds vs l2 rl2 rv2 q2 => ?_⟩
  exact q2 ρ2 H2 _ Le.refl rl2 (.cons (rv1.mono l2) rv2)
theorem sx_lv {ms : List MX} (h : SXA G X i es (xList ms)) : SX G X i (.List es pos) (xLv ms) := by
  intro a oe cls d pn z g
  refine PE.weak (pe_lst (h a oe cls d pn z g)) fun σ H Q ⟨ρ, S, x, rl, rx, hs, q⟩ => ⟨ρ, S, x, rl, rx, hs, PostR.bind (R := RVs G) (r := xList ms x S) q fun ρ1 H1 S1 ds vs l1 rl1 rv1 q1 => ?_⟩
  by_cases hl : ds.length ≤ 1000
  · rw [if_pos hl] at q1
    exact ⟨by rw [← rv1.length, sizeLine_eq]; omega, fun b hb => post_new q1 rl1 hb (.lv (rl1.no hb) upd_same (rv1.mono (Le.new hb)))⟩
  · rw [if_neg hl] at q1
    exact q1.elim
/-- a built-in function of such values -/
theorem sx_fn {x : Str} {id : String} {f : FN} {ms : List MX} (hc : ∀ (a : Addr) (oe : Obj) (pn : List (Addr × Obj)), FnS G (X.suite a ((a, oe) :: pn)) W0 (.builtin id) f) (hg : Gl X x) (hm : X.mg x = none) (hv : bootBuiltins x = some (.builtin id)) (ha : SXA G X i (e :: es) (xList ms))
    (hn : x ≠ "__name__" := by decide) (hdb : (x == ("__debug__" : Str)) = false := by decide) (he : starEach (e :: es) X.env = (false, eval e X.env) :: starEach es X.env := by rfl) (hpl : (backTo pos (starEach es X.env)).any (·.1) = false := by rfl) :
    SX G X i (.Call (.Name x p) (e :: es) [] pos) (xFn f ms) := by
  intro a oe cls d pn z g
  refine ⟨fun pins s σ H Q I ⟨ρ, S, xx, rl, rx, hs, q⟩ => ?_⟩
  refine wpAny_Call_Name_kw (ld_blt (X := X.suite a ((a, oe) :: pn)) I hg hm hv ?_ hn hdb)
  refine PyProof.Rows.callWith_builtin1 ?_ he hpl
  refine thn ((ha a oe cls d pn z g).run pos pins s σ H (fun vs H1 => ∃ ρ1 S1 ds, Rl G ρ1 S1 H1 ∧ RVs G ρ1 H1 ds vs ∧ Post G ρ1 H1 (f ds S1) Q (fun _ _ _ => False)) I ⟨ρ, S, xx, rl, rx, hs, PostR.bind (R := RVs G) (r := xList ms xx S) q fun ρ1 H1 S1 ds vs l1 rl1 rv1 q1 => ⟨ρ1, S1, ds, rl1, rv1, q1⟩⟩) ?_
  rintro us s1 ⟨vs, H1, I1, r1, ρ1, S1, ds, rl1, rv1, q1⟩
  exact hc a oe pn pins s1 σ H1 vs us Q ρ1 S1 ds I1 r1 rl1 rv1 q1
end
/-! ### the statement -/
structure Hd1 where
  c : Nat
  i : Option Nat
  m : MX
def hdIn (n : Nat) : Option Nat → Bool
  | none => true
  | some i => decide (i < n)
def hGo (isx : Nat → Nat → Option Bool) (x : Xn) (σ : En) (S : Store) : List Hd1 → RS
  | [] => .exc x σ S
  | h :: r => match isx x.c h.c with
    | some true => if hdIn σ.length h.i then (match h.m x S with | .ok d S1 => .rt d S1 | _ => .bad) else .bad
    | some false => hGo isx x σ S r
    | none => .bad
def sTry (isx : Nat → Nat → Option Bool) (b : MS) (hs : List Hd1) : MS := fun σ S => match b σ S with
  | .exc x σ1 S1 => hGo isx x σ1 S1 hs
  | r => r
inductive ClS (G : Gx) (X : Cx) : List ExceptHandler → List Hd1 → Prop
  | nil : ClS G X [] []
  | bare {x : Str} {c : Nat} {C : Value} {e : Expr} {m : MX} {np rp hp : Pos} {hs : List ExceptHandler} {l : List Hd1} (nm : Names X x C) (hc : G.clsv c = some C) (su : SX G X none e m) (r : ClS G X hs l) :
      ClS G X (.ExceptHandler (some (.Name x np)) none [.Return (some e) rp] hp :: hs) (⟨c, none, m⟩ :: l)
  | named {x n : Str} {c i : Nat} {C : Value} {e : Expr} {m : MX} {np rp hp : Pos} {hs : List ExceptHandler} {l : List Hd1} (nm : Names X x C) (hc : G.clsv c = some C) (hi : X.N[i]? = some n) (lo : X.env.kindOf n = some .local) (su : SX G X (some i) e m) (r : ClS G X hs l) :
      ClS G X (.ExceptHandler (some (.Name x np)) (some n) [.Return (some e) rp] hp :: hs) (⟨c, some i, m⟩ :: l)
section
variable {G : Gx} {X : Cx} {W : WX} {isx : Nat → Nat → Option Bool}
theorem clS_ok (cc : Cc G X W) (hx : ∀ c1 c2 b v1 v2, isx c1 c2 = some b → G.clsv c1 = some v1 → G.clsv c2 = some v2 → PySem.W.exmOne G.K v1 v2 = some b) {hs : List ExceptHandler} {l : List Hd1} (h : ClS G X hs l) :
    ∃ l2, ClOk X hs l2 ∧ ∀ (D : Ends) (ρ : Wd) (H : Hp) (x : Xn) (σs : En) (σ : St) (S : Store) (cls : Value) (dd : Option Addr), Rl G ρ S H → RE G ρ H σs σ → RX G ρ H x cls dd → PostS G ρ H (hGo isx x σs S l) D W → wCl X.K W D.rt l2 cls dd σ H := by
  induction h with
  | nil => exact ⟨[], .nil, fun D ρ H x σs σ S cls dd rl re rx q => q ρ H σ cls dd Le.refl rl re rx⟩
  | @bare x c C e m np rp hp hs l nm hc su r ih =>
    obtain ⟨l2, k, ih⟩ := ih
    refine ⟨_, .bare nm (fun a oe cls d pn z f => su a oe cls d pn z f) k, fun D ρ H y σs σ S cls dd rl re rx q => ?_⟩
    unfold hGo at q
    cases hb : isx y.c c with
    | none => simp only [hb] at q; exact q.elim
    | some b =>
      refine ⟨b, by rw [cc.k]; exact hx _ _ _ _ _ hb rx.cls hc, fun e1 a ha => ?_, fun e1 => ?_⟩
      · subst e1
        simp only [hb, hdIn, if_true] at q
        refine ⟨ρ, S, y, rl, rx, (fun j z => nomatch z), ?_⟩
        cases hm : m y S with
        | ok d1 S1 => rw [hm] at q; exact q
        | exc x1 S1 => rw [hm] at q; exact q.elim
        | bad => rw [hm] at q; exact q.elim
      · subst e1
        simp only [hb] at q
        exact ih D ρ H y σs σ S cls dd rl re rx q
  | @named x n c i C e m np rp hp hs l nm hc hi lo su r ih =>
    obtain ⟨l2, k, ih⟩ := ih
    refine ⟨_, .named nm hi lo (fun a oe cls d pn z f => su a oe cls d pn z f) k, fun D ρ H y σs σ S cls dd rl re rx q => ?_⟩
    unfold hGo at q
    cases hb : isx y.c c with
    | none => simp only [hb] at q; exact q.elim
    | some b =>
      refine ⟨b, by rw [cc.k]; exact hx _ _ _ _ _ hb rx.cls hc, fun e1 a ha => ?_, fun e1 => ?_⟩
      · subst e1
        simp only [hb] at q
        by_cases hl : hdIn σs.length (some i) = true
        · rw [if_pos hl] at q
          have hl2 : i < σ.length := by rw [← re.len]; exact of_decide_eq_true hl
          refine ⟨ρ, S, y, rl, rx, (fun j z => ?_), ?_⟩
          · cases z
            exact List.getElem?_set_self hl2
          · cases hm : m y S with
            | ok d1 S1 => rw [hm] at q; exact q
            | exc x1 S1 => rw [hm] at q; exact q.elim
            | bad => rw [hm] at q; exact q.elim
        · rw [if_neg hl] at q
          exact q.elim
      · subst e1
        simp only [hb] at q
        exact ih D ρ H y σs σ S cls dd rl re rx q
theorem ss_try {body : List Stmt} {g : ExceptHandler} {hs : List ExceptHandler} {l : List Hd1} {b : MS} {pos : Pos} (cc : Cc G X W) (hx : ∀ c1 c2 b v1 v2, isx c1 c2 = some b → G.clsv c1 = some v1 → G.clsv c2 = some v2 → PySem.W.exmOne G.K v1 v2 = some b)
    (st : X.stack = X.env :: X.outer) (fr : X.env.frame = some X.env.locals) (hb : ∀ (W2 : WX) (pn : List (Addr × Obj)) (xe : Value → Shared → Prop), Cc G (X.tr pn xe) W2 → SSs G (X.tr pn xe) W2 body b) (hc : ClS G X (g :: hs) l) :
    SS G X W (.Try body (g :: hs) [] [] pos) (sTry isx b l) := by
  obtain ⟨l2, k, go⟩ := clS_ok cc hx hc
  refine PS.weak (ps_tryC cc.nd st fr cc.tk (tb := fun W2 => tms G W2 b) (fun W2 pn xe t1 t2 => hb W2 pn xe ⟨cc.k, t1, t2, cc.calm, cc.nd⟩) k) fun D σ H ⟨ρ, σs, S, rl, re, q⟩ => ⟨ρ, σs, S, rl, re, ?_⟩
  unfold sTry at q
  cases hr : b σs S with
  | exc x σ1 S1 =>
    rw [hr] at q
    exact fun ρ1 H1 σ2 cls dd l1 rl1 re1 rx1 => go D ρ1 H1 x σ1 σ2 S1 cls dd rl1 re1 rx1 (q.le l1)
  | nx σ1 S1 => rw [hr] at q; exact q
  | bk σ1 S1 => rw [hr] at q; exact q
  | ct σ1 S1 => rw [hr] at q; exact q
  | rt d S1 => rw [hr] at q; exact q
  | bad => rw [hr] at q; exact q
end
end L2.Mi

set_option Elab.async false
set_option linter.all false
set_option maxRecDepth 100000
set_option maxHeartbeats 4000000
/-! Mini, 25: defs that are called where no guard stands (repr may be asked there). -/
namespace L2.Mi
open PySem PySem.Spec PyProof.Rows
abbrev NoG (A : Around) : Prop := A.guards = some []
/-- a def's promise where no guard stands -/
structure FnG (P : Program) (w : World) (K : Fg) (mg : Str → Option Value) (base : Heap) (cx : CXT) (k : Nat) (f : Addr) (fd : FuncData) (ps : List Str) (sp : Sp) : Prop where
  ln : ∀ vs H Q E, sp vs H Q E → vs.length = ps.length
  go : ∀ (A : Around) (out : List Env) (s : Shared) (H : Hp) (ar : Args) (us : List Value) (vs : List V) (Q : VK) (E : XK), NoG A → Room k A → Env0 P w K mg base A out s H → BindsTo s fd ar (ps.zip us) → Vals vs us → sp vs H Q E →
    codeAny (model P w) A (.call (.ref f) ar) (CR cx out P w H s Q E) s
section
variable {P : Program} {w : World} {K : Fg} {mg : Str → Option Value} {base : Heap} {cx : CXT} {k : Nat} {f : Addr} {name qual : Str} {params : Arguments} {body : List Stmt} {scope : Scope} {dvs : List V} {kws : List (Str × V)} {fd : FuncData} {N ps : List Str} {sp : Sp}
theorem fnG_of (F : FunD K name qual params body scope dvs kws f fd) (S : FnScope N ps scope) (ln : ∀ vs H Q E, sp vs H Q E → vs.length = ps.length)
    (hb : ∀ (cdv : Value) (A : Around) (out : List Env) (s : Shared) (H : Hp) (vs : List V) (Q : VK) (E : XK), NoG A → Room k (A.deeper (envOfC qual scope s.heap.objs.size f cdv)) → sp vs H Q E →
      ∃ t, PSs (cxOf cx P w K mg base N qual scope f cdv A out s H E) body t ∧ t { nx := fun _ H2 => Q .non H2, rt := Q } (start N vs) H) : FnG P w K mg base cx (k + 1) f fd ps sp := by
  obtain ⟨oc, od, dV, kV, doc, pm, an, cdv, ct, osl, e0, look, hcd, _, _⟩ := F.ex
  subst e0
  refine ⟨ln, fun A out s H ar us vs Q E ng room env bnd rel hs => ?_⟩
  have inK : K.In s.heap := env.mod.kin.keeps fun b o q => (env.bs b o q).1
  have nl : s.heap.NoLimit := env.mod.nolimit.keeps fun b o q => (env.bs b o q).1
  have par : ∀ y ∈ ps.zip us, scope.names.lookup y.1 = some .local ∨ (scope.names.lookup y.1 = some .cell ∧ ((cellsFrom (s.heap.objs.size + 1) scope.names []).lookup y.1).isSome = true) := by
    rintro ⟨a, b⟩ hy
    refine (S.par a (List.of_mem_zip hy).1).imp id fun q => ⟨q, PySem.W.cellsFrom_some _ _ _ (.inl q)⟩
  refine codeAny_call_function room.depth (inK _ _ look) rfl S.co S.gen rfl (PySem.W.codeRec_of inK hcd) (bnd _ _ _ _ (wpAny_newFunctionEnv_cells S.kind par fun env2 he s1 x => ?_))
  subst he
  refine ⟨nl.keeps x.toInCall.keep, codeAny_func ?_⟩
  obtain ⟨t, ht, q⟩ := hb cdv A out s H vs Q E ng (room.deeper _) hs
  have I : Inv (cxOf cx P w K mg base N qual scope f cdv A out s H E) [] (start N vs) H s1 := inv_start S room.hd env (ln _ _ _ _ hs) rel x
  refine wpAny_mono (ht.run [] s1 _ H _ I q) (fun fl s2 z => ?_) fun _ _ z => z
  cases fl with
  | ret u => obtain ⟨v, σ2, H2, J, rv, q2⟩ := z; exact ⟨v, H2, J.os, J.bare, J.base, J.hok, rv, q2⟩
  | next => obtain ⟨σ2, H2, J, q2⟩ := z; exact ⟨.non, H2, J.os, J.bare, J.base, J.hok, rfl, q2⟩
  | brk => obtain ⟨_, _, _, q2⟩ := z; exact q2.elim
  | cont => obtain ⟨_, _, _, q2⟩ := z; exact q2.elim
end
/-! ### in Mini's terms -/
section
variable {G : Gx} {P : Program} {w : World} {mg : Str → Option Value} {base : Heap} {N ps : List Str} {x qual : Str} {params : Arguments} {body : List Stmt} {scope : Scope} {dvs : List V} {kws : List (Str × V)} {f : Addr} {fd : FuncData} {k : Nat} {ms : MS}
theorem fndG_ok (F : FunD G.K x qual params body scope dvs kws f fd) (S : FnScope N ps scope)
    (hb : ∀ (cdv : Value) (A : Around) (out : List Env) (s : Shared) (H : Hp) (E : XK), Room k (A.deeper (envOfC qual scope s.heap.objs.size f cdv)) → NoG (A.deeper (envOfC qual scope s.heap.objs.size f cdv)) →
      Cc G (cxOf (L2.CX P w) P w G.K mg base N qual scope f cdv A out s H E) (WF E) → SSs G (cxOf (L2.CX P w) P w G.K mg base N qual scope f cdv A out s H E) (WF E) body ms) :
    FnG P w G.K mg base (L2.CX P w) (k + 1) f fd ps (spF G (bodyRun N.length ms) ps.length) := by
  refine fnG_of F S (fun vs H Q E ⟨_, _, _, h, _⟩ => h) fun cdv A out s H vs Q E ng hr ⟨ρ, St, ds, hn, rl, rv, p⟩ => ?_
  refine ⟨_, hb cdv A out s H E hr ng ⟨rfl, takes_of rfl rfl rfl rfl, passes_of rfl, rfl, S.nd⟩, ρ, _, St, rl, re_start rv, ?_⟩
  unfold bodyRun at p
  cases q : ms (ds.map some ++ List.replicate (N.length - ds.length) none) St with
  | rt d S1 => rw [q] at p; exact p
  | nx σ1 S1 => rw [q] at p; exact fun ρ1 H1 σ2 l1 rl1 re1 => p ρ1 H1 .non l1 rl1 .non
  | exc y σ1 S1 => rw [q] at p; exact fun ρ1 H1 σ2 c dd l1 rl1 re1 rx => p ρ1 H1 c dd l1 rl1 rx
  | bk σ1 S1 => rw [q] at p; exact p.elim
  | ct σ1 S1 => rw [q] at p; exact p.elim
  | bad => rw [q] at p; exact p.elim
/-- a callable's promise where no guard stands -/
def CalG (G : Gx) (P : Program) (w : World) (mg : Str → Option Value) (base : Heap) (k : Nat) (f : Addr) (m : FN) : Prop :=
  ∀ (A : Around) (out : List Env) (s : Shared) (H : Hp) (us : List Value) (vs : List V) (Q : VK) (E : XK), NoG A → Room k A → Env0 P w G.K mg base A out s H → Vals vs us → spG G m vs H Q E →
    codeAny (model P w) A (.call (.ref f) ⟨us, []⟩) (CR (L2.CX P w) out P w H s Q E) s
theorem calG_defD {m : FN} {n : Nat} {dfl : List D} (F : FnG P w G.K mg base (L2.CX P w) k f fd ps (spF G m n)) (hn : n = ps.length) (hb : ∀ j, j ≤ dvs.length → ∃ ds, Vals (dvs.drop j) ds ∧ Binds G.K fd ps ds) (hdd : ∀ ρ H, RVs G ρ H dfl dvs) : CalG G P w mg base k f (callD n dfl m) := by
  rintro A out s H us vs Q E ng hr env rel ⟨ρ, S, es, rl, rv, p⟩
  unfold callD at p
  by_cases hl : es.length ≤ n ∧ n ≤ es.length + dfl.length
  · rw [if_pos hl] at p
    have e1 := (hdd ρ H).length
    obtain ⟨ds, r2, b2⟩ := hb (dfl.length + es.length - n) (by omega)
    have e2 : vs.length + (dvs.drop (dfl.length + es.length - n)).length = n := by rw [← rv.length, List.length_drop]; omega
    have inK : G.K.In s.heap := env.mod.kin.keeps fun b o q => (env.bs b o q).1
    refine F.go A out s H ⟨us, []⟩ (us ++ ds) (vs ++ dvs.drop (dfl.length + es.length - n)) Q E ng hr env (b2 s us inK ?_) (rel.append r2) ⟨ρ, S, _, ?_, rl, rv.append ((hdd ρ H).drop _), p⟩
    · rw [List.length_append, ← rel.length, ← r2.length, ← hn]; exact e2
    · rw [List.length_append]; exact e2
  · rw [if_neg hl] at p
    exact p.elim
theorem calG0 : CalG G P w mg base k f (fun _ _ => .bad) := by
  rintro A out s H us vs Q E ng hr env rel ⟨ρ, S, es, rl, rv, p⟩
  exact p.elim
theorem Cal.toG {m : FN} (h : Cal G P w mg base k f m) : CalG G P w mg base k f m := fun A out s H us vs Q E _ => h A out s H us vs Q E
end
theorem fns_calG {G : Gx} {X : Cx} {W : WX} {k : Nat} {f : Addr} {m : FN} (cc : Cc G X W) (ng : NoG X.A) (F : CalG G X.prog X.w X.mg X.base k f m) (hr : Room k X.A) : FnS G X W (.ref f) m := by
  intro pins s σ H xs us Q ρ S es I r rl rv p
  have e0 : Env0 X.prog X.w G.K X.mg X.base X.A X.stack s H := by rw [← cc.k]; exact I.env0
  refine wpAny_call (codeAny_mono (F X.A X.stack s H us xs Q (EW W σ) ng hr e0 r ⟨ρ, S, es, rl, rv, p⟩) fun r s2 hq => ?_)
  cases r with
  | error e => exact passAt cc.tk σ pins H s e s2 I hq
  | ok fl => cases fl with
    | ret u => exact I.after hq
    | _ => exact hq.elim
/-! ### the law's end -/
section
variable {P : Program} {w : World} {K : Fg} {mg mb : Str → Option Value} {cx : CXT} {k : Nat} {fa a : Addr} {fd : FuncData} {x : Str} {sp : Sp} {s1 : Shared} {vs : List Value} {ns : List Int}
theorem law_callG (inK : K.In s1.heap) (hns : s1.heap.Ns mainGlobals mg) (hb : s1.heap.Ns builtinsNs mb) (hbb : ∀ x : Str, x ≠ "__name__" → mb x = bootBuiltins x) (nl : s1.heap.NoLimit) (hg : s1.gens = #[])
    (ha : s1.heap.get? a = some { cls := .type "list", data := .seq vs.toArray }) (hi : IntsAre vs ns) (hl : ns.length ≤ sizeLine) (hr : Room k callerA)
    (F : ∀ base : Heap, K.In base → base.Ns mainGlobals mg → FnG P w K mg base cx k fa fd [x] sp) (bnd : ∀ (s : Shared) (u : Value), BindsTo s fd ⟨[u], []⟩ [(x, u)])
    (hsp : ∀ H : Hp, Only H → SqL K H a (ns.map V.int) → sp [.ref a] H (fun v _ => v = .bl true) fun _ _ _ => False) (hcx : ∀ H e s2, cx [] H s1 (fun _ _ _ => False) e s2 → False) :
    codeAny (model P w) callerA (.call (.ref fa) ⟨[.ref a], []⟩) (fun r s2 => r = .ok (.ret (.bool true)) ∧ OldK s1.heap s2.heap ∧ s2.os = s1.os ∧ AllBare s2.gens) s1 := by
  have rel := vals_ints hi
  have len := hi.length
  have main : ∀ H : Hp, Only H → SqL K H a (ns.map V.int) → HOk P w H s1.heap → (∀ b, H b ≠ none → b = a) → (H a ≠ none → K.lookup a = none) →
      codeAny (model P w) callerA (.call (.ref fa) ⟨[.ref a], []⟩) (fun r s2 => r = .ok (.ret (.bool true)) ∧ OldK s1.heap s2.heap ∧ s2.os = s1.os ∧ AllBare s2.gens) s1 := by
    intro H only sq ok one out
    have free : ∀ {b : Addr} {o : Obj}, s1.heap.get? b = some o → (∀ c, b = a → H b = some c → False) → H b = none := fun {b o} e z => by
      cases q : H b with
      | none => rfl
      | some c => exact (z c (one b (by rw [q]; simp)) q).elim
    have nsk : ∀ {b : Addr} {m : Str → Option Value}, s1.heap.Ns b m → (hidT s1.heap H).Ns b m := fun {b m} ⟨o, es, ep, e, d, r⟩ => ⟨o, es, ep, hidT_get e (free e fun c e2 q => by
      subst e2
      rw [ha] at e
      cases e
      have d2 : Data.seq vs.toArray _ = Data.dict es ep := d
      cases d2), d, r⟩
    have hK : K.In (hidT s1.heap H) := fun b o e => hidT_get (inK b o e) (free (inK b o e) fun c e2 q => by
      subst e2
      rw [out (by rw [q]; simp)] at e
      cases e)
    have md : Mod K mg (hidT s1.heap H) := ⟨hK, nsk hns, ⟨mb, nsk hb, hbb⟩, let ⟨mc, z1, z2⟩ := nl; ⟨mc, nsk z1, z2⟩⟩
    have env : Env0 P w K mg (hidT s1.heap H) callerA [] s1 H := ⟨rfl, md, fun b o e => of_hidT e, Nat.le_of_eq (hidT_size _ _), trivial, fun b z => (List.not_mem_nil (show b ∈ ([] : List Addr) from z)).elim, ok, .of_eq hg⟩
    refine codeAny_mono ((F _ hK (nsk hns)).go callerA [] s1 H ⟨[.ref a], []⟩ [.ref a] [.ref a] _ _ rfl hr env (bnd s1 (.ref a)) (.cons rfl .nil) (hsp H only sq)) fun r s2 z => ?_
    cases r with
    | error e => exact (hcx H e s2 z).elim
    | ok fl => cases fl with
      | ret u =>
        obtain ⟨v, H2, z1, z2, un, ok2, rv, q⟩ := z
        have q2 : v = .bl true := q
        subst q2
        obtain rfl : u = Value.bool true := rv
        refine ⟨rfl, OldK.of_keep fun b o e => ?_, z1, z2⟩
        rcases only b with z | ⟨ob, xs, z⟩
        · exact un.keep b o e z (fun y => (List.not_mem_nil (show b ∈ ([] : List Addr) from y)).elim) (by simp)
        · have y1 := (ok b _ z).1
          have y2 := (ok2 b _ (un.frzs b ob _ z)).1
          rw [e] at y1
          cases y1
          exact y2
      | _ => exact False.elim z
  cases hk : K.lookup a with
  | some o =>
    have e := inK a o hk
    rw [ha] at e
    cases e
    exact main (fun _ => none) (fun _ => .inl rfl) (.inr ⟨_, vs.toArray, _, hk, rfl, rfl, rfl, by rw [List.size_toArray, len]; exact hl, by simpa using rel⟩) (fun b u z => nomatch (show (none : Option HO) = some u from z)) (fun b z => (z rfl).elim) fun z => (z rfl).elim
  | none =>
    let ob : HO := .frz { cls := .type "list", data := .seq vs.toArray } (.lst (ns.map V.int))
    have at1 : (fun b => if b = a then some ob else none : Hp) a = some ob := if_pos rfl
    have at2 : ∀ b, b ≠ a → (fun b => if b = a then some ob else none : Hp) b = none := fun b z => if_neg z
    refine main (fun b => if b = a then some ob else none) (fun b => ?_) (.inl (.inr ⟨_, at1⟩)) (fun b u z => ?_) (fun b z => ?_) fun _ => hk
    · by_cases q : b = a
      · subst q; exact .inr ⟨_, _, at1⟩
      · exact .inl (at2 b q)
    · by_cases q : b = a
      · subst q
        have z2 := at1.symm.trans z
        cases z2
        exact ⟨ha, by rw [List.length_map]; exact hl, vs, _, rel, ha⟩
      · have z2 := (at2 b q).symm.trans z
        cases z2
    · by_cases q : b = a
      · exact q
      · exact (z (at2 b q)).elim
end
theorem walkG {l : PySem.W.OpenLaw} {n k : Nat} {q : Program} {loose : List Str} {XP : (Str → Option Value) → Heap → Prop} {L : Lw} {N : Nat} {d : DefRec} {x : Str} {run : FN}
    (hn : l.most = some n) (hn2 : n ≤ sizeLine) (hdf : d.params.defaults = []) (hr : Room k callerA)
    (F : ∀ (w : World) (mg : Str → Option Value) (fa : Addr) (K : Fg) (c : L.Says K), Ns K mg → mg d.name = some (.ref fa) →
      ∃ fd : FuncData, (∀ (s : Shared) (u : Value), BindsTo s fd ⟨[u], []⟩ [(x, u)]) ∧ ∀ base : Heap, K.In base → base.Ns mainGlobals mg → FnG l.prog w K mg base (L2.CX l.prog w) k fa fd [x] (spF (L.gx K c) run 1))
    (good : ∀ ns : List Int, ns.length ≤ n → (∀ z ∈ ns, Builtin.Int.intBits z ≤ 1048576) → ∃ S, run [.fl (ns.map D.int)] ⟨[]⟩ = .ok (.bl true) S) :
    PySem.W.WalkO q loose XP (L.hook N).says l.row.toRowW d [] (fun f vs => PySem.call f vs) := by
  refine Att.attach_callB hn hdf fun w s0 s1 mg mb fa o pm cd doc a vs ns T ⟨K, KX, c⟩ ho hd hcd hmg hobj hints hlen hbits hg => ?_
  obtain ⟨fd, hb, hF⟩ := F w mg fa K c ⟨_, KX, T.T.g⟩ hmg
  refine law_callG KX T.T.g T.T.b T.T.builtins T.T.nolimit hg hobj hints (Nat.le_trans hlen hn2) hr hF hb (fun H hO hS => ?_) fun H e s2 h => ?_
  · obtain ⟨rl, rv⟩ := start_ok (G := L.gx K c) hO hS
    obtain ⟨S, e⟩ := good ns hlen hbits
    refine ⟨⟨[], []⟩, ⟨[]⟩, _, rfl, rl, .cons rv .nil, ?_⟩
    rw [e]
    intro ρ2 H2 v _ _ r
    cases r
    rfl
  · obtain ⟨_, _, _, _, _, _, _, _, _, _, _, _, z⟩ := h
    exact z.elim
end L2.Mi

set_option Elab.async false
set_option linter.all false
set_option maxRecDepth 100000
set_option maxHeartbeats 4000000
/-! Mini, 26: repr of data. -/
namespace L2.Mi
open PySem PySem.Spec PyProof.Rows
def optAll {α β : Type} (f : α → Option β) : List α → Option (List β)
  | [] => some []
  | x :: xs => match f x, optAll f xs with
    | some y, some ys => some (y :: ys)
    | _, _ => none
/-- a value as plain data -/
def pyD (S : Store) : Nat → D → Option PyData
  | 0, _ => none
  | n + 1, d => match tupD d with
    | some ds => (optAll (pyD S n) ds).map .tuple
    | none => match listAt S d with
      | some ds => (optAll (pyD S n) ds).map .list
      | none => match d with
        | .non => some .none
        | .bl b => some (.bool b)
        | .int i => some (.int i)
        | .str x => some (.str ⟨x.toArray⟩)
        | _ => none
def reprOk (p : PyData) : Bool := p.showable && (!p.hasDict && (decide (p.shown.length ≤ sizeLine) && decide (p.depth ≤ 32)))
def reprF (n : Nat) : FN := fun xs S => match xs with
  | [d] => (match pyD S n d with
    | some p => if reprOk p then .ok (.str p.shown.cps.toList) S else .bad
    | none => .bad)
  | _ => .bad
section
variable {G : Gx} {X : Cx} {pins : List (Addr × Obj)} {σ : St} {H : Hp} {s : Shared}
theorem reads_all {S : Store} {ρ : Wd} {f : D → Option PyData} (h : ∀ d v u p, RV G ρ H d v → RelV v u → f d = some p → ∃ as, Reads s.heap u p as) :
    ∀ {ds : List D} {vs : List V} {us : List Value} {ps : List PyData}, RVs G ρ H ds vs → Vals vs us → optAll f ds = some ps → ∃ as, ReadsAll s.heap us ps as
  | _, _, _, _, .nil, .nil, e => by cases e; exact ⟨[], .nil⟩
  | d :: ds, v :: vs, u :: us, ps, .cons r1 r2, .cons k1 k2, e => by
    unfold optAll at e
    cases q1 : f d with
    | none => rw [q1] at e; cases e
    | some y =>
      cases q2 : optAll f ds with
      | none => rw [q1, q2] at e; cases e
      | some ys =>
        rw [q1, q2] at e
        cases e
        obtain ⟨a1, z1⟩ := h _ _ _ _ r1 k1 q1
        obtain ⟨a2, z2⟩ := reads_all (S := S) h r2 k2 q2
        exact ⟨_, .cons z1 z2⟩
theorem reads_of (hk : X.K = G.K) (I : Inv X pins σ H s) {ρ : Wd} {S : Store} (rl : Rl G ρ S H) : ∀ (n : Nat) (d : D) (v : V) (u : Value) (p : PyData), RV G ρ H d v → RelV v u → pyD S n d = some p → ∃ as, Reads s.heap u p as
  | 0, _, _, _, _, _, _, e => by cases e
  | n + 1, d, v, u, p, rv, r, e => by
    unfold pyD at e
    cases q : tupD d with
    | some ds =>
      rw [q] at e
      obtain ⟨a, xs, rfl, sq, rs⟩ := tupD_rel rv q
      obtain ⟨its, r2, ⟨o, g1, g2, m, g3⟩, _⟩ := I.tuple (by rw [hk]; exact sq)
      obtain rfl : u = Value.ref a := r
      cases q2 : optAll (pyD S n) ds with
      | none => simp only [q2] at e; cases e
      | some ps =>
        simp only [q2] at e
        cases e
        obtain ⟨as, z⟩ := reads_all (S := S) (reads_of hk I rl n) rs r2 q2
        exact ⟨as, .tuple g1 g2 g3 (by simpa using z)⟩
    | none =>
      rw [q] at e
      cases q1 : listAt S d with
      | some ds =>
        simp only [q1] at e
        obtain ⟨a, xs, rfl, sq, rs⟩ := listAt_rel rl rv q1
        obtain ⟨its, r2, ⟨o, m, g1, g2, _, g3⟩, _⟩ := I.list (by rw [hk]; exact sq)
        obtain rfl : u = Value.ref a := r
        cases q2 : optAll (pyD S n) ds with
        | none => simp only [q2] at e; cases e
        | some ps =>
          simp only [q2] at e
          cases e
          obtain ⟨as, z⟩ := reads_all (S := S) (reads_of hk I rl n) rs r2 q2
          exact ⟨_, .list g1 g2 g3 (by simpa using z)⟩
      | none =>
        simp only [q1] at e
        cases rv with
        | non => cases e; cases r; exact ⟨_, .none⟩
        | bl b => cases e; cases r; exact ⟨_, .bool b⟩
        | int i => cases e; obtain ⟨t, rfl⟩ := r; exact ⟨_, .int i t⟩
        | str y => cases e; obtain ⟨t, rfl⟩ := r; exact ⟨_, .str _ t⟩
        | _ => cases e
theorem fns_repr {W : WX} (n : Nat) (hk : X.K = G.K) (ng : NoG X.A) (hu : X.A.units + 64 < cLine) : FnS G X W (.builtin "repr") (reprF n) := by
  intro pins s σ H xs us Q ρ S ds I r rl rv p
  unfold reprF at p
  match ds, rv, p with
  | [d], .cons r1 .nil, p =>
    cases r with
    | cons k1 k2 =>
      cases k2
      cases q : pyD S n d with
      | none => simp only [q] at p; exact p.elim
      | some y =>
        simp only [q] at p
        by_cases hok : reprOk y = true
        · rw [if_pos hok] at p
          obtain ⟨o1, o2⟩ := ba hok
          obtain ⟨o2, o3⟩ := ba o2
          obtain ⟨o3, o4⟩ := ba o3
          have e3 := of_decide_eq_true o3
          have e4 := of_decide_eq_true o4
          have e2 : y.hasDict = false := by simpa using o2
          obtain ⟨as, z⟩ := reads_of hk I rl n d _ _ y r1 k1 q
          have fin : ∀ {h2 : Heap} {tk : Nat} {t : Tok}, (∀ b o, s.heap.get? b = some o → h2.get? b = some o) → EP X pins σ Q (.str y.shown t) { s with heap := h2, toks := tk } := fun kk => ⟨.str y.shown, H, I.kept (t' := _) kk, ⟨_, rfl⟩, post_ok p rl (rv_str _)⟩
          have nk : ∀ b o, s.heap.get? b = some o → s.heap.get? b = some o := fun _ _ z => z
          cases z with
          | none => exact PySem.P.repr_of_none (fin (h2 := s.heap) nk)
          | bool b =>
            have f2 := @fin s.heap (s.toks + 1) s.toks nk
            unfold PyData.shown at f2
            exact PySem.P.repr_of_bool f2
          | int i t =>
            have f2 := @fin s.heap (s.toks + 1) s.toks nk
            unfold PyData.shown at f2
            exact PySem.P.repr_of_int (by unfold PyData.showable at o1; exact of_decide_eq_true o1) f2
          | str x t =>
            have f2 := @fin s.heap (s.toks + 1) s.toks nk
            unfold PyData.shown at f2 e3
            exact PySem.P.repr_of_str f2 e3
          | list g1 g2 g3 g4 => exact repr_of_reads' (.list g1 g2 g3 g4) o1 (PyData.noDict_hsm e2) ng (by omega) nk (fun h2 t tk kk => fin kk) e3
          | tuple g1 g2 g3 g4 => exact repr_of_reads' (.tuple g1 g2 g3 g4) o1 (PyData.noDict_hsm e2) ng (by omega) nk (fun h2 t tk kk => fin kk) e3
          | dict g1 g2 g3 g4 g5 => cases e2
        · rw [if_neg hok] at p
          exact p.elim
  | [], _, p => exact p.elim
  | _ :: _ :: _, _, p => exact p.elim
end
end L2.Mi

set_option Elab.async false
set_option linter.all false
set_option maxRecDepth 100000
set_option maxHeartbeats 4000000
/-! Mini, 27: in, tuples many times, len of an own class, what is never reached. -/
namespace L2.Mi
open PySem PySem.Spec PyProof.Rows
/-! ### never reached -/
def eBad : ME := fun _ _ => .bad
def sBad : MS := fun _ _ => .bad
theorem se_bad {G : Gx} {X : Cx} {W : WX} {e : Expr} : SE G X W e eBad := ⟨fun _ _ _ _ _ _ ⟨_, _, _, _, _, p⟩ => p.elim⟩
theorem ss_bad {G : Gx} {X : Cx} {W : WX} {st : Stmt} : SS G X W st sBad := ⟨fun _ _ _ _ _ _ ⟨_, _, _, _, _, p⟩ => p.elim⟩
theorem sss_bad {G : Gx} {X : Cx} {W : WX} {st : List Stmt} : SSs G X W st sBad := ⟨fun _ _ _ _ _ _ ⟨_, _, _, _, _, p⟩ => p.elim⟩
/-! ### in -/
def flatD : D → Bool
  | .non => true
  | .bl _ => true
  | .int _ => true
  | .str _ => true
  | _ => false
/-- == of flat values -/
def eqD : D → D → Bool
  | .non, .non => true
  | .bl a, .bl b => a == b
  | .bl a, .int b => (if a then 1 else 0) == b
  | .int a, .bl b => a == (if b then 1 else 0)
  | .int a, .int b => a == b
  | .str a, .str b => a == b
  | _, _ => false
def seqD (S : Store) (d : D) : Option (List D) := match tupD d with
  | some ds => some ds
  | none => listAt S d
def inF (neg : Bool) : D → D → Store → Res D := fun x y S => match seqD S y with
  | some ds => if flatD x && ds.all flatD then .ok (.bl (if neg then !(ds.any fun z => eqD z x) else ds.any fun z => eqD z x)) S else .bad
  | none => match x, y with
    | .str [c], .str z => .ok (.bl (if neg then !decide (c ∈ z) else decide (c ∈ z))) S
    | _, _ => .bad
section
variable {G : Gx} {X : Cx} {W : WX} {ρ : Wd} {H : Hp} {S : Store}
theorem flat_rel {d : D} {v : V} (r : RV G ρ H d v) (h : flatD d = true) : flatV v = true := by
  cases r <;> first | rfl | cases h
theorem eq_rel {d e : D} {v u : V} (r1 : RV G ρ H d v) (r2 : RV G ρ H e u) (h1 : flatD d = true) (h2 : flatD e = true) : eqV v u = eqD d e := by
  cases r1 <;> (first | cases h1; done | skip) <;> cases r2 <;> (first | cases h2; done | rfl | skip)
  rename_i x y
  show ((⟨x.toArray⟩ : Str) == ⟨y.toArray⟩) = (x == y)
  by_cases h : x = y
  · subst h; simp
  · have n1 : ((⟨x.toArray⟩ : Str) == ⟨y.toArray⟩) = false := by
      refine beq_eq_false_iff_ne.mpr fun z => h ?_
      have z2 := congrArg (fun s : Str => s.cps.toList) z
      simpa using z2
    have n2 : (x == y) = false := beq_eq_false_iff_ne.mpr h
    rw [n1, n2]
theorem all_flat : ∀ {ds : List D} {vs : List V}, RVs G ρ H ds vs → ds.all flatD = true → vs.all flatV = true
  | _, _, .nil, _ => rfl
  | _, _, .cons r t, h => by
    rw [List.all_cons, Bool.and_eq_true] at h ⊢
    exact ⟨flat_rel r h.1, all_flat t h.2⟩
theorem any_eq {e : D} {u : V} (r2 : RV G ρ H e u) (h2 : flatD e = true) : ∀ {ds : List D} {vs : List V}, RVs G ρ H ds vs → ds.all flatD = true → (vs.any fun z => eqV z u) = ds.any fun z => eqD z e
  | _, _, .nil, _ => rfl
  | _, _, .cons r t, h => by
    rw [List.all_cons, Bool.and_eq_true] at h
    rw [List.any_cons, List.any_cons, eq_rel r r2 h.1 h2, any_eq r2 h2 t h.2]
theorem seqD_rel {d : D} {x : V} {ds : List D} (rl : Rl G ρ S H) (rv : RV G ρ H d x) (h : seqD S d = some ds) : ∃ a xs, x = .ref a ∧ (SqL G.K H a xs ∨ SqT G.K H a xs) ∧ RVs G ρ H ds xs := by
  unfold seqD at h
  cases q : tupD d with
  | some es =>
    simp only [q] at h
    cases h
    obtain ⟨a, xs, e, sq, r⟩ := tupD_rel rv q
    exact ⟨a, xs, e, .inr sq, r⟩
  | none =>
    simp only [q] at h
    obtain ⟨a, xs, e, sq, r⟩ := listAt_rel rl rv h
    exact ⟨a, xs, e, .inl sq, r⟩
theorem ops_inG {F : Value → Value → Sem Value} {neg : Bool} (cc : Cc G X W) (h1 : OpR X F (rIn X.K neg))
    (h2 : OpR X F (fun x y H Q => ∃ (c : Nat) (z : Str), x = .str ⟨#[c]⟩ ∧ y = .str z ∧ Q (.bl (if neg then !decide (c ∈ z.cps.toList) else decide (c ∈ z.cps.toList))) H)) : OpS G X W F (inF neg) := by
  intro pins s σ H x y v u Q ρ S d1 d2 I rx ry rl r1 r2 p
  unfold inF at p
  cases q : seqD S d2 with
  | some ds =>
    simp only [q] at p
    by_cases h : (flatD d1 && ds.all flatD) = true
    · rw [if_pos h] at p
      obtain ⟨f1, f2⟩ := ba h
      obtain ⟨a, xs, rfl, sq, rs⟩ := seqD_rel rl r2 q
      refine h1 pins s σ H _ _ v u Q I rx ry ⟨a, xs, rfl, by rw [cc.k]; exact sq, flat_rel r1 f1, all_flat rs f2, ?_⟩
      unfold inV
      rw [any_eq r1 f1 rs f2]
      exact post_ok p rl (.bl _)
    · rw [if_neg h] at p
      exact p.elim
  | none =>
    simp only [q] at p
    cases r1 with
    | str l =>
      match l, rx, p with
      | [c], rx, p =>
        cases r2 with
        | str z => exact h2 pins s σ H _ _ v u Q I rx ry ⟨c, _, rfl, rfl, by simpa using post_ok p rl (.bl _)⟩
        | _ => exact p.elim
      | [], _, p => cases r2 <;> exact p.elim
      | _ :: _ :: _, _, p => cases r2 <;> exact p.elim
    | _ => cases r2 <;> exact p.elim
theorem ops_in (cc : Cc G X W) : OpS G X W (compareOp .In) (inF false) := ops_inG cc op_in_seq fun pins s σ H x y v u Q I rx ry ⟨c, z, e1, e2, q⟩ => op_in_sign pins s σ H x y v u Q I rx ry ⟨c, z, e1, e2, q⟩
theorem ops_notIn (cc : Cc G X W) : OpS G X W (compareOp .NotIn) (inF true) := ops_inG cc op_notIn_seq fun pins s σ H x y v u Q I rx ry ⟨c, z, e1, e2, q⟩ => op_notIn_sign pins s σ H x y v u Q I rx ry ⟨c, z, e1, e2, q⟩
/-! ### a tuple many times -/
def repF : D → D → Store → Res D := fun x y S => match tupD x, y with
  | some ds, .int k => if ds ≠ [] ∧ 2 ≤ k ∧ k ≤ 1000 ∧ ds.length ≤ 1000 then .ok (.tup (List.replicate k.toNat ds).flatten) S else .bad
  | _, _ => .bad
theorem ops_rep (cc : Cc G X W) : OpS G X W (binaryOp .Mult) repF := by
  intro pins s σ H x y v u Q ρ S d1 d2 I rx ry rl r1 r2 p
  unfold repF at p
  cases q : tupD d1 with
  | none => simp only [q] at p; exact p.elim
  | some ds =>
    cases r2 with
    | int k =>
      simp only [q] at p
      by_cases h : ds ≠ [] ∧ 2 ≤ k ∧ k ≤ 1000 ∧ ds.length ≤ 1000
      · rw [if_pos h] at p
        obtain ⟨h1, h2, h3, h4⟩ := h
        obtain ⟨a, xs, rfl, sq, rs⟩ := tupD_rel r1 q
        have rep : ∀ n, RVs G ρ H (List.replicate n ds).flatten (List.replicate n xs).flatten := fun n => by
          induction n with
          | zero => exact .nil
          | succ n ih => rw [List.replicate_succ, List.replicate_succ]; exact rs.append ih
        refine op_repT pins s σ H _ _ v u Q I rx ry ⟨a, k, xs, rfl, rfl, by rw [cc.k]; exact sq, fun z => h1 ?_, h2, h3, by rw [← rs.length]; exact h4, fun b hb => post_new p rl hb (.tup upd_same ((rep k.toNat).mono (Le.new hb)))⟩
        have e := rs.length
        rw [z] at e
        exact List.eq_nil_of_length_eq_zero (by simpa using e)
      · rw [if_neg h] at p
        exact p.elim
    | _ => simp only [q] at p; exact p.elim
/-! ### len of an own class -/
def lenO (ds : Disp) : FN := fun xs S => match xs with
  | [.ref i] => (match S.get i with
    | some (.ins c _) => (match ds c with
      | some g => (match g [.ref i] S with | .ok (.int n) S1 => if 0 ≤ n ∧ n < 2 ^ 62 then .ok (.int n) S1 else .bad | _ => .bad)
      | none => .bad)
    | _ => .bad)
  | _ => .bad
structure LenS (G : Gx) (X : Cx) (c : Nat) (g : FN) : Prop where
  ex : ∃ C f k, G.cls c = some C ∧ PySem.W.findIn X.K (.ref C) "__len__" = some (some (.ref f)) ∧ PySem.W.isFn X.K (.ref f) = true ∧ FnR X.prog X.w X.K X.mg X.base (L2.CX X.prog X.w) k f (spG G g) ∧ Room (k + 1) X.A
theorem fns_lenO {ds : Disp} (hd : ∀ c g, ds c = some g → LenS G X c g) : FnS G X W (.builtin "len") (lenO ds) := by
  intro pins s σ H xs us Q ρ S es I r rl rv p
  match es, rv, p with
  | [.ref i], .cons r1 .nil, p =>
    cases r with
    | cons k1 k2 =>
      cases k2
      cases r1 with
      | @ref _ a hi =>
        cases k1
        unfold lenO at p
        cases q : S.get i with
        | none => simp only [q] at p; exact p.elim
        | some ob =>
          cases ob with
          | ins c fs =>
            simp only [q] at p
            cases q2 : ds c with
            | none => simp only [q2] at p; exact p.elim
            | some g =>
              simp only [q2] at p
              obtain ⟨C, f, k, hC, hs, hf, F, hr⟩ := (hd c g q2).ex
              obtain ⟨C', dx, us', hC', hH⟩ := inst_at rl hi q
              rw [hC] at hC'
              cases hC'
              obtain ⟨mA, O, _⟩ := ins_get I.hok hH
              obtain ⟨od, J, _⟩ := O.look
              obtain ⟨mF, hF⟩ := I.fr
              refine PySem.W.len_K hF I.ok.mod.kin J hs hf ?_
              have hsp : spG G g [.ref a] H (fun z H2 => ∃ n : Int, z = .int n ∧ 0 ≤ n ∧ n < 2 ^ 62 ∧ Q (.int n) H2) E0 := ⟨ρ, S, [.ref i], rl, .cons (.ref hi) .nil, by
                cases q5 : g [.ref i] S with
                | exc xx S1 => rw [q5] at p; exact False.elim p
                | bad => rw [q5] at p; exact False.elim p
                | ok d S1 =>
                  rw [q5] at p
                  intro ρ1 H1 z l1 rl1 rv1
                  cases rv1 with
                  | int n =>
                    simp only at p
                    by_cases hn : 0 ≤ n ∧ n < 2 ^ 62
                    · rw [if_pos hn] at p
                      exact ⟨n, rfl, hn.1, hn.2, p ρ1 H1 _ l1 rl1 (.int _)⟩
                    · rw [if_neg hn] at p
                      exact p.elim
                  | _ => exact False.elim p⟩
              refine wpAny_call (codeAny_mono (F X.A.in1 X.stack s H [.ref a] [.ref a] _ E0 hr.in1 I.env0.in1 (.cons rfl .nil) hsp) fun r s2 hq => ?_)
              cases r with
              | error er => exact False.elim (passNox (X := X) pins σ H s er s2 (I.wish _) hq)
              | ok fl => cases fl with
                | ret w =>
                  obtain ⟨z, H2, I2, rz, n, ez, n0, n1, q6⟩ := I.after hq
                  subst ez
                  obtain ⟨t, rfl⟩ := rz
                  exact ⟨⟨n0, by omega⟩, .int n, H2, I2.tok _, ⟨_, rfl⟩, q6⟩
                | _ => exact False.elim hq
          | _ => simp only [q] at p; exact p.elim
end
end L2.Mi

set_option Elab.async false
set_option linter.all false
set_option maxRecDepth 100000
set_option maxHeartbeats 4000000
/-! Mini, 28: the facts of exceptions as the derivations take them; lists put together. -/
namespace L2.Mi
open PySem PySem.Spec PyProof.Rows
theorem two_le (n : Nat) : 2 ≤ lv n + 1 := by rw [lv_eq]; omega
theorem hu_of2 {k : Nat} {A : Around} (hr : Room k A) : A.units + 64 < cLine := by have := hr.un; omega
/-! ### lists put together: a new list -/
def lsN (S : Store) : D → Option (List D)
  | .lv ds => some ds
  | .ref i => (match S.get i with | some (.lst ds) => some ds | _ => none)
  | _ => none
def catR : D → D → Store → Res D := fun x y S => match lsN S x, lsN S y with
  | some a, some b => if a.length + b.length ≤ lim then .ok (.ref S.size) (S.push (.lst (a ++ b))) else .bad
  | _, _ => .bad
section
variable {G : Gx} {X : Cx} {W : WX} {ρ : Wd} {H : Hp} {S : Store}
theorem lsN_rel {d : D} {x : V} {ds : List D} (rl : Rl G ρ S H) (rv : RV G ρ H d x) (h : lsN S d = some ds) : ∃ a xs, x = .ref a ∧ H a = some (.lst xs) ∧ RVs G ρ H ds xs := by
  cases rv with
  | lv n ht hr => cases h; exact ⟨_, _, rfl, ht, hr⟩
  | @ref i a hi =>
    unfold lsN at h
    cases q : S.get i with
    | none => simp only [q] at h; cases h
    | some o =>
      cases o with
      | lst es =>
        simp only [q] at h
        cases h
        obtain ⟨u, h1, h2⟩ := rl.at hi q
        cases h2 with
        | lst r => exact ⟨a, _, rfl, h1, r⟩
      | _ => simp only [q] at h; cases h
  | _ => cases h
theorem ops_catR : OpS G X W (binaryOp .Add) catR := by
  intro pins s σ H x y v u Q ρ S d1 d2 I rx ry rl r1 r2 p
  unfold catR at p
  cases q1 : lsN S d1 with
  | none => simp only [q1] at p; exact p.elim
  | some a =>
    cases q2 : lsN S d2 with
    | none => simp only [q1, q2] at p; exact p.elim
    | some b =>
      simp only [q1, q2] at p
      by_cases hl : a.length + b.length ≤ lim
      · rw [if_pos hl] at p
        obtain ⟨a1, xs, rfl, h1, k1⟩ := lsN_rel rl r1 q1
        obtain ⟨a2, ys, rfl, h2, k2⟩ := lsN_rel rl r2 q2
        refine op_cat pins s σ H _ _ v u Q I rx ry ⟨a1, a2, xs, ys, rfl, rfl, h1, h2, by rw [← k1.length, ← k2.length]; exact lim_le hl, fun z hz => ?_⟩
        exact p (ρ.push z) _ _ (Le.push hz) (rl.push hz (.lst (k1.append k2))) (RV.new rl)
      · rw [if_neg hl] at p
        exact p.elim
end
/-! ### exceptions by the head's facts -/
/-- the class C's __init__ sets f -/
structure XInit (P : Program) (w : World) (K : Fg) (mg : Str → Option Value) (base : Heap) (C f : Str) : Prop where
  ex : ∃ fd ps, FnOk P w K mg base (L2.CX P w) 1 (He.ma K (He.ga K C) "__init__") fd ps (spX K f) ∧ Binds K fd ps []
section
variable {L : Lw} {K : Fg} {c : L.Says K} {X : Cx} {W : WX} {C f : Str}
theorem clsv_of (c : L.Says K) (ci : Nat) (h : L.xcl[ci]? = some C) : (L.gx K c).clsv ci = some (.ref (He.ga K C)) := by
  show (L.xcl[ci]?).map (fun C => Value.ref (He.ga K C)) = _
  rw [h]
  rfl
theorem noat_of (c : L.Says K) (i : Nat) (h : L.fa[i]? = some (.noat C f)) : PySem.W.findIn K (.ref (He.ga K C)) f = some none := He.eqO_ok (c.fact i h)
theorem ss_raiseL {e : Expr} {m : ME} {p pos pos2 : Pos} (ci fi i1 i2 i3 : Nat) (cc : Cc (L.gx K c) X W) (NS : Ns K X.mg) (hx : L.xcl[ci]? = some C) (h1 : L.fa[i1]? = some (.oex C)) (h2 : L.fa[i2]? = some (.noat C f)) (h3 : L.fa[i3]? = some (.glo C)) (hf : fldOf L.flds fi = f)
    (F : XInit X.prog X.w K X.mg X.base C f) (hr : Room 2 X.A) (hg : Gl X C) (he : SE (L.gx K c) X W e m)
    (hdb : (C == ("__debug__" : Str)) = false := by decide) (hs : starEach [e] X.env = (false, eval e X.env) :: starEach [] X.env := by rfl) (hpl : (backTo pos (starEach [] X.env)).any (·.1) = false := by rfl) :
    SS (L.gx K c) X W (.Raise (some (.Call (.Name C p) [e] [] pos)) none pos2) (sRaise ci fi m) := by
  have hk : X.K = K := cc.k
  subst hf
  obtain ⟨fd, ps, F, hb⟩ := F.ex
  have t1 : XC X.K (He.ga K C) (He.ma K (He.ga K C) "__init__") := by rw [hk]; exact xc_of c i1 h1
  have t2 : PySem.W.findIn X.K (.ref (He.ga K C)) (fldOf L.flds fi) = some none := by rw [hk]; exact noat_of c i2 h2
  have t3 : FnOk X.prog X.w X.K X.mg X.base (L2.CX X.prog X.w) 1 (He.ma K (He.ga K C) "__init__") fd ps (spX X.K (fldOf L.flds fi)) := by rw [hk]; exact F
  exact ss_raise (G := L.gx K c) (k := 1) cc t1 (clsv_of c ci hx) t2 t3 hr (by rw [hk]; exact hb) hg (NS.glo c i3 h3) he hdb hs hpl
theorem sx_fL {j : Nat} {n : Str} {np pos : Pos} (ci fi i1 i2 : Nat) (hk : X.K = K) (hx : L.xcl[ci]? = some C) (h1 : L.fa[i1]? = some (.oex C)) (h2 : L.fa[i2]? = some (.noat C f)) (hf : fldOf L.flds fi = f) (hN : X.N[j]? = some n) (hv : Vis X.env.scope n)
    (hb : attributeBase (.Name n np) f X.env (eval (.Name n np) X.env) = eval (.Name n np) X.env := by rfl) (hd : (n == ("__debug__" : Str)) = false := by decide) (hcd : (n == ("__classdict__" : Str)) = false := by decide) :
    SX (L.gx K c) X (some j) (.Attribute (.Name n np) f pos) (xF ci fi) := by
  subst hf
  have t1 : XfC X.K (He.ga K C) := by rw [hk]; exact (xc_of c i1 h1).x
  have t2 : PySem.W.findIn X.K (.ref (He.ga K C)) (fldOf L.flds fi) = some none := by rw [hk]; exact noat_of c i2 h2
  exact sx_f (G := L.gx K c) (f := fi) t1 (clsv_of c ci hx) t2 hN hv hb hd hcd
def Fm.exq (A B : Str) : Fm → Option Bool
  | .exm A2 B2 b => if A2 = A ∧ B2 = B then some b else none
  | _ => none
def Lw.isx (L : Lw) (i j : Nat) : Option Bool := match L.xcl[i]?, L.xcl[j]? with
  | some A, some B => L.fa.findSome? (Fm.exq A B)
  | _, _ => none
theorem isx_ok (c : L.Says K) : ∀ c1 c2 b v1 v2, L.isx c1 c2 = some b → (L.gx K c).clsv c1 = some v1 → (L.gx K c).clsv c2 = some v2 → PySem.W.exmOne (L.gx K c).K v1 v2 = some b := by
  intro c1 c2 b v1 v2 h h1 h2
  unfold Lw.isx at h
  cases q1 : L.xcl[c1]? with
  | none => rw [q1] at h; cases h
  | some A =>
    cases q2 : L.xcl[c2]? with
    | none => rw [q1, q2] at h; cases h
    | some B =>
      simp only [q1, q2] at h
      rw [clsv_of c c1 q1] at h1
      rw [clsv_of c c2 q2] at h2
      cases h1
      cases h2
      obtain ⟨fm, hm, hq⟩ := List.exists_of_findSome?_eq_some h
      cases fm with
      | exm A2 B2 b2 =>
        have hq : (if A2 = A ∧ B2 = B then some b2 else none) = some b := hq
        by_cases z : A2 = A ∧ B2 = B
        · rw [if_pos z] at hq
          cases hq
          obtain ⟨rfl, rfl⟩ := z
          have k : (Fm.exm A2 B2 b).ok K = true := List.all_eq_true.mp (ba c.all).1 _ hm
          exact of_decide_eq_true k
        · rw [if_neg z] at hq
          cases hq
      | _ => cases hq
def isxTab (T : List (Nat × Nat × Bool)) (i j : Nat) : Option Bool := (T.find? fun q => q.1 == i && q.2.1 == j).map (·.2.2)
theorem isxTab_ok (c : L.Says K) {T : List (Nat × Nat × Bool)} (h : (T.all fun q => L.isx q.1 q.2.1 == some q.2.2) = true) :
    ∀ c1 c2 b v1 v2, isxTab T c1 c2 = some b → (L.gx K c).clsv c1 = some v1 → (L.gx K c).clsv c2 = some v2 → PySem.W.exmOne (L.gx K c).K v1 v2 = some b := by
  intro c1 c2 b v1 v2 e
  unfold isxTab at e
  cases q : T.find? fun q => q.1 == c1 && q.2.1 == c2 with
  | none => rw [q] at e; cases e
  | some z =>
    rw [q] at e
    have hb : z.2.2 = b := by simpa using e
    have hz := List.find?_some q
    obtain ⟨e1, e2⟩ := ba hz
    have k := eq_of_beq (List.all_eq_true.mp h z (List.mem_of_find?_eq_some q))
    rw [eq_of_beq e1, eq_of_beq e2, hb] at k
    exact isx_ok c c1 c2 b v1 v2 k
theorem lenS {g : FN} {k : Nat} (c : L.Says K) (ci i : Nat) (hc : L.cls[ci]? = some C) (h : L.fa[i]? = some (.un C "__len__")) (F : Cal (L.gx K c) X.prog X.w X.mg X.base k (He.ma K (He.ga K C) "__len__") g) (hr : Room (k + 1) X.A) (e : X.K = K := by rfl) : LenS (L.gx K c) X ci g := by
  obtain ⟨h1, h2⟩ := fnAt_ok (c.fact i h)
  exact ⟨_, _, k, cls_of c ci hc, by rw [e]; exact h1, by rw [e]; exact h2, by rw [e]; exact F, hr⟩
end
end L2.Mi

set_option Elab.async false
set_option linter.all false
set_option maxRecDepth 100000
set_option maxHeartbeats 1000000
/-! Mini, 29: loops over lists that stand, turn by turn. -/
namespace L2.Mi
open PySem
def forL (g : MG) (b : MS) : List D → MS
  | [] => fun σ S => .nx σ S
  | d :: ds => fun σ S => match g d σ S with
    | .ok σ1 S1 => (match b σ1 S1 with
      | .nx σ2 S2 => forL g b ds σ2 S2
      | .ct σ2 S2 => forL g b ds σ2 S2
      | .bk σ2 S2 => .nx σ2 S2
      | r => r)
    | _ => .bad
theorem forL_nil {g : MG} {b : MS} {σ : En} {S : Store} : forL g b [] σ S = .nx σ S := (rfl)
theorem forL_cons {g : MG} {b : MS} {d : D} {ds : List D} {σ : En} {S : Store} : forL g b (d :: ds) σ S = (match g d σ S with
    | .ok σ1 S1 => (match b σ1 S1 with
      | .nx σ2 S2 => forL g b ds σ2 S2
      | .ct σ2 S2 => forL g b ds σ2 S2
      | .bk σ2 S2 => .nx σ2 S2
      | r => r)
    | _ => .bad) := (rfl)
theorem forGo_list {src : Src} {g : MG} {b : MS} {ds : List D} (h : ∀ k S, src k S = some ds[k]?) : ∀ (n k : Nat) (σ : En) (S : Store), ds.length < n + k → k ≤ ds.length → forGo src g b n k σ S = forL g b (ds.drop k) σ S
  | 0, k, σ, S, h1, h2 => absurd h1 (by omega)
  | n + 1, k, σ, S, h1, h2 => by
    unfold forGo
    rw [h k S]
    by_cases hk : k < ds.length
    · rw [List.getElem?_eq_getElem hk, List.drop_eq_getElem_cons hk, forL_cons]
      simp only
      cases g ds[k] σ S with
      | ok σ1 S1 =>
        simp only
        cases b σ1 S1 with
        | nx σ2 S2 => exact forGo_list h n (k + 1) σ2 S2 (by omega) (by omega)
        | ct σ2 S2 => exact forGo_list h n (k + 1) σ2 S2 (by omega) (by omega)
        | _ => rfl
      | _ => rfl
    · rw [List.getElem?_eq_none (by omega), List.drop_eq_nil_of_le (by omega)]
      rfl
/-- a value's items -/
def itsD : D → Option (List D)
  | .tup ds => some ds
  | .kt ds => some ds
  | .lv ds => some ds
  | .fl ds => some ds
  | _ => none
theorem src_its {m : ME} {σ : En} {S S1 : Store} {d : D} {ds : List D} (ha : m σ S = .ok d S1) (hd : itsD d = some ds) : ∃ src, iSeq m σ S = .ok src S1 ∧ ∀ k S, src k S = some ds[k]? := by
  unfold iSeq
  rw [ha, bind_ok']
  cases d <;> cases hd <;> exact ⟨_, rfl, fun k S => rfl⟩
theorem sFor_seq {m : ME} {g : MG} {b : MS} {n : Nat} {σ : En} {S S1 : Store} {d : D} {ds : List D} (ha : m σ S = .ok d S1) (hd : itsD d = some ds) (hn : ds.length < n) : sFor (iSeq m) g b n σ S = forL g b ds σ S1 := by
  obtain ⟨src, e, h⟩ := src_its ha hd
  unfold sFor
  rw [e]
  exact forGo_list h n 0 σ S1 (by omega) (by omega)
def ups (i : Int) (n : Nat) : List D := (List.range n).map fun (k : Nat) => D.int (i + (k : Int))
theorem ups_len {i : Int} {n : Nat} : (ups i n).length = n := by unfold ups; simp
theorem ups_get {i : Int} {n k : Nat} : (if k < n then some (D.int (i + (k : Int))) else none) = (ups i n)[k]? := by
  unfold ups
  rw [List.getElem?_map]
  by_cases h : k < n
  · rw [if_pos h, List.getElem?_range h]; rfl
  · rw [if_neg h, List.getElem?_eq_none (by simpa using h)]; rfl
theorem i62_of {j : Int} (h0 : -1000000 < j) (h1 : j < 1000000) : i62 j = true := by
  unfold i62
  rw [Bool.and_eq_true, decide_eq_true_eq, decide_eq_true_eq]
  constructor <;> omega
theorem src_r1 {a : ME} {σ : En} {S S1 : Store} {j : Int} (ha : a σ S = .ok (.int j) S1) (h0 : -1000000 < j) (h1 : j < 1000000) : ∃ src, iRange1 a σ S = .ok src S1 ∧ ∀ k S, src k S = some (ups 0 j.toNat)[k]? := by
  unfold iRange1
  rw [ha, bind_ok']
  simp only [i62_of h0 h1, if_true]
  exact ⟨_, rfl, fun k S => by rw [← ups_get]⟩
theorem src_r2 {a b : ME} {σ : En} {S S1 S2 : Store} {i j : Int} (ha : a σ S = .ok (.int i) S1) (hb : b σ S1 = .ok (.int j) S2) (i0 : -1000000 < i) (i1 : i < 1000000) (h0 : -1000000 < j) (h1 : j < 1000000) : ∃ src, iRange2 a b σ S = .ok src S2 ∧ ∀ k S, src k S = some (ups i (j - i).toNat)[k]? := by
  unfold iRange2
  simp only [aList_cons, aList_nil, ha, hb, bind_ok', i62_of h0 h1, i62_of i0 i1, Bool.and_self, if_true]
  exact ⟨_, rfl, fun k S => by rw [← ups_get]⟩
theorem sFor_r1 {a : ME} {g : MG} {b : MS} {n : Nat} {σ : En} {S S1 : Store} {j : Int} (ha : a σ S = .ok (.int j) S1) (h0 : -1000000 < j) (h1 : j < 1000000) (hn : j.toNat < n) : sFor (iRange1 a) g b n σ S = forL g b (ups 0 j.toNat) σ S1 := by
  obtain ⟨src, e, h⟩ := src_r1 ha h0 h1
  unfold sFor
  rw [e]
  exact forGo_list h n 0 σ S1 (by rw [ups_len]; omega) (by omega)
theorem sFor_r2 {a c : ME} {g : MG} {b : MS} {n : Nat} {σ : En} {S S1 S2 : Store} {i j : Int} (ha : a σ S = .ok (.int i) S1) (hb : c σ S1 = .ok (.int j) S2) (i0 : -1000000 < i) (i1 : i < 1000000) (h0 : -1000000 < j) (h1 : j < 1000000) (hn : (j - i).toNat < n) :
    sFor (iRange2 a c) g b n σ S = forL g b (ups i (j - i).toNat) σ S2 := by
  obtain ⟨src, e, h⟩ := src_r2 ha hb i0 i1 h0 h1
  unfold sFor
  rw [e]
  exact forGo_list h n 0 σ S2 (by rw [ups_len]; omega) (by omega)
/-! ### comprehensions that leave the store alone -/
theorem lcGo_list {src : Src} {t : TgN} {mt : MT} {me : ME} {σ : En} {S : Store} {ds : List D} {p : D → Bool} {f : D → D} (h : ∀ k S, src k S = some ds[k]?)
    (hb : ∀ d ∈ ds, ∃ σ2, t.put d σ = some σ2 ∧ mt σ2 S = .ok (p d) S ∧ (p d = true → me σ2 S = .ok (f d) S)) (hl : ds.length < 900000) :
    ∀ (n k : Nat) (acc : List D), ds.length < n + k → k ≤ ds.length → acc.length ≤ k → lcGo src t mt me σ n k acc S = .ok (acc ++ ((ds.drop k).filter p).map f) S
  | 0, k, acc, h1, h2, _ => absurd h1 (by omega)
  | n + 1, k, acc, h1, h2, h3 => by
    unfold lcGo
    rw [h k S]
    by_cases hk : k < ds.length
    · rw [List.getElem?_eq_getElem hk, List.drop_eq_getElem_cons hk]
      obtain ⟨σ2, e1, e2, e3⟩ := hb ds[k] (List.getElem_mem hk)
      simp only [e1, e2]
      cases hp : p ds[k] with
      | false =>
        simp only [hp]
        rw [lcGo_list h hb hl n (k + 1) acc (by omega) (by omega) (by omega), List.filter_cons_of_neg (by rw [hp]; simp)]
      | true =>
        simp only [hp, e3 hp]
        rw [if_pos (by unfold lim; omega), lcGo_list h hb hl n (k + 1) _ (by omega) (by omega) (by simp; omega), List.filter_cons_of_pos hp]
        simp
    · rw [List.getElem?_eq_none (by omega), List.drop_eq_nil_of_le (by omega)]
      simp
theorem eLcV_list {mi : MI} {src : Src} {t : TgN} {mt : MT} {me : ME} {vs : List Nat} {n : Nat} {σ : En} {S S1 : Store} {ds : List D} (p : D → Bool) (f : D → D) (hi : mi σ S = .ok src S1) (h : ∀ k S, src k S = some ds[k]?)
    (hb : ∀ d ∈ ds, ∃ σ2, t.put d (wipeD σ vs) = some σ2 ∧ mt σ2 S1 = .ok (p d) S1 ∧ (p d = true → me σ2 S1 = .ok (f d) S1)) (hl : ds.length < 900000) (hn : ds.length < n) :
    eLcV mi t mt me vs n σ S = .ok (.lv ((ds.filter p).map f)) S1 := by
  unfold eLcV
  rw [hi, bind_ok', lcGo_list h hb hl n 0 [] (by omega) (by omega) (by simp), bind_ok']
  simp
end L2.Mi

set_option Elab.async false
set_option linter.all false
set_option maxRecDepth 100000
set_option maxHeartbeats 4000000
/-! The program of law_k12_caches_refused: runs, derivations. Printed by gen.py. -/
namespace L2.Mi.Pg
open PySem PySem.Spec PyProof.Rows
abbrev pw : Program := PySem.Challenge.pw_farmisses_k12_caches_refused
def top (i : Nat) : Stmt := pw.main.body.getD i (.Pass ⟨0, 0, 0, 0⟩)
abbrev s_0 : Stmt := inClass (top 5) 0
abbrev s_1 : Stmt := inClass (top 6) 0
abbrev s_2 : Stmt := top 8
abbrev s_3 : Stmt := top 9
abbrev s_4 : Stmt := top 11
abbrev s_5 : Stmt := top 30
abbrev s_6 : Stmt := top 31
abbrev s_7 : Stmt := top 32
abbrev s_8 : Stmt := inClass (top 33) 0
abbrev s_9 : Stmt := inClass (top 33) 2
abbrev s_10 : Stmt := inClass (top 33) 3
abbrev s_11 : Stmt := inClass (top 33) 4
abbrev s_12 : Stmt := inClass (top 33) 5
abbrev s_13 : Stmt := inClass (top 33) 6
abbrev s_14 : Stmt := inClass (top 33) 7
abbrev s_15 : Stmt := top 38
abbrev s_16 : Stmt := top 39
abbrev s_17 : Stmt := top 40
abbrev s_18 : Stmt := top 41
abbrev s_19 : Stmt := top 42
abbrev s_20 : Stmt := top 43
abbrev s_21 : Stmt := top 44
def oAdd (call : Nat → FN) : D → D → Store → Res D := opOr (addF noOwn) catR
def oSub (call : Nat → FN) : D → D → Store → Res D := subF noOwn
def oMul (call : Nat → FN) : D → D → Store → Res D := opOr (mulF noOwn) repF
def dNeg (call : Nat → FN) : Disp := fun c => match c with | _ => none
def oNeg (call : Nat → FN) : D → Store → Res D := negF (dNeg call)
def isiT : List (Tag × Tag × Bool) := [(.b "NoneType", .b "bool", false), (.b "NoneType", .b "int", false), (.b "NoneType", .b "str", false), (.b "NoneType", .b "tuple", false), (.b "NoneType", .o 0, false), (.b "bool", .b "bool", true), (.b "bool", .b "int", true), (.b "bool", .b "str", false), (.b "bool", .b "tuple", false), (.b "bool", .o 0, false), (.b "int", .b "bool", false), (.b "int", .b "int", true), (.b "int", .b "str", false), (.b "int", .b "tuple", false), (.b "int", .o 0, false), (.b "str", .b "bool", false), (.b "str", .b "int", false), (.b "str", .b "str", true), (.b "str", .b "tuple", false), (.b "str", .o 0, false), (.b "tuple", .b "bool", false), (.b "tuple", .b "int", false), (.b "tuple", .b "str", false), (.b "tuple", .b "tuple", true), (.b "tuple", .o 0, false), (.b "list", .b "bool", false), (.b "list", .b "int", false), (.b "list", .b "str", false), (.b "list", .b "tuple", false), (.b "list", .o 0, false), (.b "dict", .b "bool", false), (.b "dict", .b "int", false), (.b "dict", .b "str", false), (.b "dict", .b "tuple", false), (.b "dict", .o 0, false), (.b "type", .b "bool", false), (.b "type", .b "int", false), (.b "type", .b "str", false), (.b "type", .b "tuple", false), (.b "type", .o 0, false), (.o 0, .b "bool", false), (.o 0, .b "int", false), (.o 0, .b "str", false), (.o 0, .b "tuple", false), (.o 0, .o 0, true)]
def isiL (t u : Tag) : Option Bool := (isiT.find? fun q => q.1 == t && q.2.1 == u).map (·.2.2)
def dEq (call : Nat → FN) : Disp := fun c => match c with | 0 => some (call 14) | _ => none
def oEq (call : Nat → FN) : D → D → Store → Res D := eqF (eqOwn isiL (dEq call))
def oNe (call : Nat → FN) : D → D → Store → Res D := neF (neOwn isiL (dEq call))
def dLen (call : Nat → FN) : Disp := fun c => match c with | 0 => some (call 13) | _ => none
def isxT : List (Nat × Nat × Bool) := [(3, 3, true), (3, 4, false), (4, 3, false), (4, 4, true)]
def isxL (i j : Nat) : Option Bool := isxTab isxT i j
def at_form (call : Nat → FN) : ADisp := fun c => match c with | 0 => some none | _ => none
def at_levels (call : Nat → FN) : ADisp := fun c => match c with | 0 => some (some (call 10)) | _ => none
def at_line (call : Nat → FN) : ADisp := fun c => match c with | 0 => some (some (call 9)) | _ => none
def at_period (call : Nat → FN) : ADisp := fun c => match c with | 0 => some (some (call 12)) | _ => none
def at_sets_together (call : Nat → FN) : ADisp := fun c => match c with | 0 => some (some (call 11)) | _ => none
def st_form (c : Nat) : Bool := match c with | 0 => true | _ => false
def m_2 (call : Nat → FN) : MS :=
  -- gcd
    sSeq (sPar 0 1 (eFn absF (aList [eVar 0])) (eFn absF (aList [eVar 1])))
    (sSeq (sWhile (tOf (eBin (oNe call) (eVar 1) (eC (.int 0)))) (sPar 0 1 (eVar 1) (eBin modI (eVar 0) (eVar 1))) 1000)
    (sRet (eVar 0)))
def m_3 (call : Nat → FN) : MS :=
  -- lcm
    sSeq (sSet 1 (eC (.int 1)))
    (sSeq (sFor (iSeq (eVar 0)) (gName 2) (sSet 1 (eBin (oMul call) (eBin divI (eVar 1) (eFn (call 2) (aList [eVar 1, eVar 2]))) (eVar 2))) 1000)
    (sRet (eVar 1)))
def m_4 (call : Nat → FN) : MS :=
  -- is_integer
    sRet (eAnd (eFn (isiF isiL) (aList [eVar 0, eC (.ty "int")])) (eNot (eFn (isiF isiL) (aList [eVar 0, eC (.ty "bool")]))))
def m_5 (call : Nat → FN) : MS :=
  -- is_among
    sRet (eAnd (eFn (call 4) (aList [eVar 0])) (eChain leI leI (eC (.int 1)) (eVar 0) (eVar 1)))
def m_6 (call : Nat → FN) : MS :=
  -- is_level
    sSeq (sIf (tOr (tNot (tTru (eFn (isiF isiL) (aList [eVar 0, eC (.ty "tuple")])))) (tOf (eBin (oNe call) (eFn (fnOr lenF (lenO (dLen call))) (aList [eVar 0])) (eC (.int 4))))) (sRet (eC (.bl false))) (sNext))
    (sSeq (sAsg (eVar 0) (gTup [gName 1, gName 2, gName 3, gName 4]))
    (sSeq (sIf (tOr (tNot (tTru (eFn (call 5) (aList [eVar 1, eC (.int 8)])))) (tNot (tTru (eFn (call 5) (aList [eVar 2, eC (.int 4)]))))) (sRet (eC (.bl false))) (sNext))
    (sSeq (sIf (tOr (tNot (tTru (eFn (isiF isiL) (aList [eVar 3, eC (.ty "str")])))) (tOr (tNot (tTru (eFn (isiF isiL) (aList [eVar 4, eC (.ty "str")])))) (tOr (tOf (eBin (inF true) (eVar 3) (eC (.kt [(.str [117, 115, 101, 100]), (.str [98, 114, 111, 117, 103, 104, 116]), (.str [115, 101, 99, 111, 110, 100]), (.str [116, 114, 101, 101])])))) (tOf (eBin (inF true) (eVar 4) (eC (.kt [(.str [98, 97, 99, 107]), (.str [116, 104, 114, 111, 117, 103, 104])]))))))) (sRet (eC (.bl false))) (sNext))
    (sRet (eOr (eBin (oNe call) (eVar 3) (eC (.str [116, 114, 101, 101]))) (eBin (oNe call) (eVar 2) (eC (.int 3))))))))
def m_7 (call : Nat → FN) : MS :=
  -- check_cache
    sSeq (sIf (tNot (tTru (eFn (call 5) (aList [eVar 0, eC (.int 8)])))) (sRaise 4 0 (eVar 0)) (sNext))
    (sSeq (sIf (tOr (tNot (tTru (eFn (isiF isiL) (aList [eVar 1, eC (.ty "tuple")])))) (tNot (tOf (eChain leI leI (eC (.int 1)) (eFn (fnOr lenF (lenO (dLen call))) (aList [eVar 1])) (eC (.int 3)))))) (sRaise 4 0 (eVar 1)) (sNext))
    (sSeq (sFor (iSeq (eVar 1)) (gName 2) (sIf (tNot (tTru (eFn (call 6) (aList [eVar 2])))) (sRaise 4 0 (eVar 2)) (sNext)) 1000)
    (sIf (tOf (eBin gtI (eBin (oMul call) (eVar 0) (eFn (call 3) (aList [eLcV (iSeq (eVar 1)) (.one 2) (tYesM) (eBin itemF (eVar 2) (eC (.int 0))) [2] 1000]))) (eC (.int 64)))) (sRaise 3 1 (eC (.str [112, 101, 114, 105, 111, 100]))) (sNext))))
def m_8 (call : Nat → FN) : MS :=
  -- Cache.__init__
    sSeq (sDrop (eFn (call 7) (aList [eVar 1, eVar 2])))
    (sFld st_form 2 (eVar 0) (eTup [eVar 1, eVar 2]))
def m_9 (call : Nat → FN) : MS :=
  -- Cache.line
    sRet (eBin itemF (eUn (attrF (at_form call) 2) (eVar 0)) (eC (.int 0)))
def m_10 (call : Nat → FN) : MS :=
  -- Cache.levels
    sRet (eBin itemF (eUn (attrF (at_form call) 2) (eVar 0)) (eC (.int 1)))
def m_11 (call : Nat → FN) : MS :=
  -- Cache.sets_together
    sRet (eFn (call 3) (aList [eLcV (iSeq (eBin itemF (eUn (attrF (at_form call) 2) (eVar 0)) (eC (.int 1)))) (.one 1) (tYesM) (eBin itemF (eVar 1) (eC (.int 0))) [1] 1000]))
def m_12 (call : Nat → FN) : MS :=
  -- Cache.period
    sRet (eBin (oMul call) (eBin itemF (eUn (attrF (at_form call) 2) (eVar 0)) (eC (.int 0))) (eFn (call 3) (aList [eLcV (iSeq (eBin itemF (eUn (attrF (at_form call) 2) (eVar 0)) (eC (.int 1)))) (.one 1) (tYesM) (eBin itemF (eVar 1) (eC (.int 0))) [1] 1000])))
def m_13 (call : Nat → FN) : MS :=
  -- Cache.__len__
    sRet (eFn (fnOr lenF (lenO (dLen call))) (aList [eBin itemF (eUn (attrF (at_form call) 2) (eVar 0)) (eC (.int 1))]))
def m_14 (call : Nat → FN) : MS :=
  -- Cache.__eq__
    sRet (eAnd (eFn (isiF isiL) (aList [eVar 1, eC (.cl 0)])) (eBin (oEq call) (eUn (attrF (at_form call) 2) (eVar 0)) (eUn (attrF (at_form call) 2) (eVar 1))))
def m_15 (call : Nat → FN) : MS :=
  -- _law_pool
    sSeq (sSet 2 (eC (.int 0)))
    (sSeq (sIf (tOf (eBin ltI (eVar 1) (eFn (fnOr lenF (lenO (dLen call))) (aList [eVar 0])))) (sSet 2 (eBin itemF (eVar 0) (eVar 1))) (sNext))
    (sSeq (sSet 3 (eFn absF (aList [eVar 2])))
    (sSeq (sSet 4 (eBin modI (eBin (oMul call) (eFn intF (aList [eBin (oAdd call) (eBin modI (eFn intF (aList [eVar 2])) (eC (.int 2147483629))) (eBin (oMul call) (eC (.int 104729)) (eBin (oAdd call) (eVar 1) (eC (.int 1))))])) (eBin (oAdd call) (eVar 1) (eC (.int 7)))) (eC (.int 2147483629))))
    (sSeq (sSet 5 (eBin modI (eBin (oMul call) (eBin modI (eFn intF (aList [eBin (oMul call) (eVar 4) (eVar 4)])) (eC (.int 2147483629))) (eC (.int 48271))) (eC (.int 2147483647))))
    (sRet (eLst [eBin (oMul call) (eVar 3) (eFn intF (aList [eBin geI (eVar 3) (eBin powI (eC (.int 10)) (eC (.int 18)))])), eVar 5]))))))
def m_16 (call : Nat → FN) : MS :=
  -- _law_take
    sSeq (sIf (tOf (eBin gtI (eBin itemF (eVar 0) (eC (.int 0))) (eC (.int 0)))) (sSeq (sSet 2 (eBin modI (eFn intF (aList [eBin itemF (eVar 0) (eC (.int 0))])) (eVar 1)))
    (sSeq (sAsg (eBin divI (eBin itemF (eVar 0) (eC (.int 0))) (eVar 1)) (gSub (eVar 0) (eC (.int 0)) setL))
    (sRet (eVar 2)))) (sNext))
    (sSeq (sAsg (eBin modI (eFn intF (aList [eBin (oAdd call) (eBin (oMul call) (eBin itemF (eVar 0) (eC (.int 1))) (eC (.int 48271))) (eC (.int 12345))])) (eC (.int 2147483647))) (gSub (eVar 0) (eC (.int 1)) setL))
    (sRet (eBin modI (eBin divI (eBin modI (eFn intF (aList [eBin (oMul call) (eBin itemF (eVar 0) (eC (.int 1))) (eBin itemF (eVar 0) (eC (.int 1)))])) (eC (.int 2147483629))) (eC (.int 64))) (eVar 1))))
def m_17 (call : Nat → FN) : MS :=
  -- _law_cache
    sSeq (sSet 1 (eLst []))
    (sSeq (sFor (iRange1 (eBin (oAdd call) (eC (.int 1)) (eFn (call 16) (aList [eVar 0, eC (.int 3)])))) (gName 2) (sSeq (sPar 3 4 (eBin itemF (eLv [eC (.int 1), eC (.int 2), eC (.int 2), eC (.int 3), eC (.int 4)]) (eFn (call 16) (aList [eVar 0, eC (.int 5)]))) (eBin itemF (eLv [eC (.int 1), eC (.int 2), eC (.int 2), eC (.int 3), eC (.int 4)]) (eFn (call 16) (aList [eVar 0, eC (.int 5)]))))
    (sSeq (sSet 5 (eBin itemF (eLv [eC (.str [117, 115, 101, 100]), eC (.str [98, 114, 111, 117, 103, 104, 116]), eC (.str [115, 101, 99, 111, 110, 100]), eC (.str [116, 114, 101, 101])]) (eFn (call 16) (aList [eVar 0, eC (.int 4)]))))
    (sSeq (sSet 4 (eIf (tAnd (tOf (eBin (oEq call) (eVar 5) (eC (.str [116, 114, 101, 101])))) (tOf (eBin (oEq call) (eVar 4) (eC (.int 3))))) (eC (.int 2)) (eVar 4)))
    (sDrop (eBm isLst appendF (eVar 1) (aList [eTup [eVar 3, eVar 4, eVar 5, eBin itemF (eLv [eC (.str [98, 97, 99, 107]), eC (.str [98, 97, 99, 107]), eC (.str [116, 104, 114, 111, 117, 103, 104])]) (eFn (call 16) (aList [eVar 0, eC (.int 3)]))]])))))) 1000)
    (sRet (eTup [eBin itemF (eLv [eC (.int 1), eC (.int 2), eC (.int 2), eC (.int 4)]) (eFn (call 16) (aList [eVar 0, eC (.int 4)])), eFn tupleF (aList [eVar 1])])))
def m_18 (call : Nat → FN) : MS :=
  -- _law_heard
    sTry isxL (sSeq (sDrop (eFn (makeW 0 (call 8)) (aList [eVar 0, eVar 1])))
    (sRet (eLv [eC (.str [102, 105, 110, 101])]))) [⟨4, some 2, xLv [xC (.str [99, 97, 99, 104, 101]), xFn (reprF 8) [xF 4 0]]⟩, ⟨3, some 2, xLv [xC (.str [108, 97, 114, 103, 101]), xF 3 1]⟩]
def m_19 (call : Nat → FN) : MS :=
  -- _law_odd
    sSeq (sSet 1 (eLst [eC .non, eTup [], eLv [eC (.int 2), eC (.int 2), eC (.str [117, 115, 101, 100]), eC (.str [98, 97, 99, 107])], eTup [eC (.int 2), eC (.int 2), eC (.str [117, 115, 101, 100])], eTup [eC (.int 2), eC (.int 2), eC (.str [117, 115, 101, 100]), eC (.str [98, 97, 99, 107]), eC (.int 1)], eTup [eC (.int 0), eC (.int 2), eC (.str [117, 115, 101, 100]), eC (.str [98, 97, 99, 107])]]))
    (sSeq (sSet 1 (eBin (oAdd call) (eVar 1) (eLv [eTup [eC (.int 9), eC (.int 2), eC (.str [117, 115, 101, 100]), eC (.str [98, 97, 99, 107])], eTup [eC (.bl true), eC (.int 2), eC (.str [117, 115, 101, 100]), eC (.str [98, 97, 99, 107])], eTup [eC (.int 2), eC (.int 0), eC (.str [117, 115, 101, 100]), eC (.str [98, 97, 99, 107])]])))
    (sSeq (sDrop (eBm isLst appendF (eVar 1) (aList [eTup [eC (.str [50]), eC (.int 1), eC (.str [117, 115, 101, 100]), eC (.str [98, 97, 99, 107])]])))
    (sSeq (sSet 1 (eBin (oAdd call) (eVar 1) (eLv [eTup [eC (.int 2), eC (.int 5), eC (.str [117, 115, 101, 100]), eC (.str [98, 97, 99, 107])], eTup [eC (.int 2), eC .non, eC (.str [117, 115, 101, 100]), eC (.str [98, 97, 99, 107])], eTup [eC (.int 2), eC (.int 3), eC (.str [116, 114, 101, 101]), eC (.str [98, 97, 99, 107])], eTup [eC (.int 2), eC (.int 2), eC (.str [108, 114, 117]), eC (.str [98, 97, 99, 107])]])))
    (sSeq (sSet 1 (eBin (oAdd call) (eVar 1) (eLv [eTup [eC (.int 2), eC (.int 2), eC .non, eC (.str [98, 97, 99, 107])], eTup [eC (.int 2), eC (.int 2), eC (.str [117, 115, 101, 100]), eC (.str [66, 97, 99, 107])], eTup [eC (.int 2), eC (.int 2), eC (.str [117, 115, 101, 100]), eC .non], eTup [eC (.int 2), eC (.int 2), eLv [eC (.str [117, 115, 101, 100])], eC (.str [98, 97, 99, 107])]])))
    (sSeq (sSet 1 (eBin (oAdd call) (eVar 1) (eLv [eTup [eC (.int 2), eC (.int 2), eC (.str [117, 115, 101, 100]), eTup [eC (.str [98, 97, 99, 107])]], eTup [eUn (oNeg call) (eC (.int 1)), eC (.int 2), eC (.str [117, 115, 101, 100]), eC (.str [98, 97, 99, 107])], eC (.int 5), eC (.str [108, 101, 118, 101, 108]), eTup [eC (.int 2), eC (.int 2), eC (.str [117, 115, 101, 100]), eC (.str [117, 115, 101, 100])]])))
    (sRet (eBin itemF (eVar 1) (eFn (call 16) (aList [eVar 0, eFn (fnOr lenF (lenO (dLen call))) (aList [eVar 1])])))))))))
def m_20 (call : Nat → FN) : MS :=
  -- _law_together
    sSeq (sSet 1 (eC (.int 1)))
    (sSeq (sFor (iSeq (eVar 0)) (gTup [gName 2, gName 3, gName 4, gName 5]) (sSet 1 (eBin itemF (eLcV (iRange2 (eC (.int 1)) (eC (.int 841))) (.one 6) (tAnd (tOf (eBin (oEq call) (eBin modI (eVar 6) (eVar 1)) (eC (.int 0)))) (tOf (eBin (oEq call) (eBin modI (eVar 6) (eVar 2)) (eC (.int 0))))) (eVar 6) [6] 1000) (eC (.int 0)))) 1000)
    (sRet (eVar 1)))
def m_21 (call : Nat → FN) : MS :=
  -- law
    sSeq (sFor (iSeq (eLv [eC .non, eC (.int 0), eC (.int 9), eUn (oNeg call) (eC (.int 1)), eC (.bl true), eC (.str [50]), eC (.int 1000), eLv [eC (.int 2)]])) (gName 1) (sIf (tOf (eBin (oNe call) (eFn (call 18) (aList [eVar 1, eC .non])) (eLv [eC (.str [99, 97, 99, 104, 101]), eFn (reprF 8) (aList [eVar 1])]))) (sRet (eC (.bl false))) (sNext)) 1000)
    (sSeq (sFor (iRange1 (eFn max2F (aList [eC (.int 1), eFn min2F (aList [eFn (fnOr lenF (lenO (dLen call))) (aList [eVar 0]), eC (.int 6)])]))) (gName 2) (sSeq (sSet 3 (eFn (call 15) (aList [eVar 0, eVar 2])))
    (sSeq (sAsg (eFn (call 17) (aList [eVar 3])) (gTup [gName 4, gName 5]))
    (sSeq (sSet 6 (eFn (makeW 0 (call 8)) (aList [eVar 4, eVar 5])))
    (sSeq (sSet 7 (eFn (call 20) (aList [eVar 5])))
    (sSeq (sIf (tOf (eBin (oNe call) (eLv [eUn (attrF (at_line call) 3) (eVar 6), eUn (attrF (at_levels call) 4) (eVar 6), eUn (attrF (at_sets_together call) 5) (eVar 6), eUn (attrF (at_period call) 6) (eVar 6)]) (eLv [eVar 4, eVar 5, eVar 7, eBin (oMul call) (eVar 4) (eVar 7)]))) (sRet (eC (.bl false))) (sNext))
    (sSeq (sIf (tOr (tOf (eBin (oNe call) (eFn (fnOr lenF (lenO (dLen call))) (aList [eVar 6])) (eFn (fnOr lenF (lenO (dLen call))) (aList [eVar 5])))) (tOr (tOf (eBin (oNe call) (eVar 6) (eFn (makeW 0 (call 8)) (aList [eVar 4, eVar 5])))) (tOr (tOf (eBin (oEq call) (eVar 6) (eTup [eVar 4, eVar 5]))) (tOf (eBin (oEq call) (eVar 6) (eC .non)))))) (sRet (eC (.bl false))) (sNext))
    (sSeq (sSet 8 (eBin (oAdd call) (eSlice (eBin itemF (eVar 5) (eUn (oNeg call) (eC (.int 1)))) (oNone) (oSome (eC (.int 3)))) (eTup [eBin itemF (eLv [eC (.str [98, 97, 99, 107]), eC (.str [116, 104, 114, 111, 117, 103, 104])]) (eFn intF (aList [eBin (oEq call) (eBin itemF (eBin itemF (eVar 5) (eUn (oNeg call) (eC (.int 1)))) (eC (.int 3))) (eC (.str [98, 97, 99, 107]))]))])))
    (sSeq (sIf (tOr (tOf (eBin (oEq call) (eVar 6) (eFn (makeW 0 (call 8)) (aList [eBin (oAdd call) (eBin modI (eVar 4) (eC (.int 4))) (eC (.int 1)), eVar 5])))) (tOf (eBin (oEq call) (eVar 6) (eFn (makeW 0 (call 8)) (aList [eVar 4, eBin (oAdd call) (eSlice (eVar 5) (oNone) (oSome (eUn (oNeg call) (eC (.int 1))))) (eTup [eVar 8])]))))) (sRet (eC (.bl false))) (sNext))
    (sSeq (sFor (iRange1 (eC (.int 6))) (gName 9) (sSeq (sPar 10 1 (eFn (call 16) (aList [eVar 3, eFn (fnOr lenF (lenO (dLen call))) (aList [eVar 5])])) (eFn (call 19) (aList [eVar 3])))
    (sSeq (sSet 11 (eBin (oAdd call) (eBin (oAdd call) (eSlice (eVar 5) (oNone) (oSome (eVar 10))) (eTup [eVar 1])) (eSlice (eVar 5) (oSome (eBin (oAdd call) (eVar 10) (eC (.int 1)))) (oNone))))
    (sIf (tOf (eBin (oNe call) (eFn (call 18) (aList [eVar 4, eVar 11])) (eLv [eC (.str [99, 97, 99, 104, 101]), eFn (reprF 8) (aList [eVar 1])]))) (sRet (eC (.bl false))) (sNext)))) 1000)
    (sSeq (sFor (iSeq (eLv [eC .non, eTup [], eFn listvF (aList [eVar 5]), eBin (oMul call) (eSlice (eVar 5) (oNone) (oSome (eC (.int 1)))) (eC (.int 4)), eC (.int 5), eC (.str [108, 105, 110, 101])])) (gName 1) (sIf (tOf (eBin (oNe call) (eFn (call 18) (aList [eVar 4, eVar 1])) (eLv [eC (.str [99, 97, 99, 104, 101]), eFn (reprF 8) (aList [eVar 1])]))) (sRet (eC (.bl false))) (sNext)) 1000)
    (sSeq (sSet 12 (eBin itemF (eLv [eC (.int 5), eC (.int 6), eC (.int 7), eC (.int 8)]) (eFn (call 16) (aList [eVar 3, eC (.int 4)]))))
    (sFor (iRange2 (eC (.int 1)) (eC (.int 9))) (gName 13) (sSeq (sSet 14 (eTup [eTup [eVar 12, eC (.int 1), eC (.str [117, 115, 101, 100]), eC (.str [98, 97, 99, 107])], eTup [eC (.int 4), eC (.int 4), eC (.str [98, 114, 111, 117, 103, 104, 116]), eC (.str [116, 104, 114, 111, 117, 103, 104])]]))
    (sSeq (sSet 15 (eIf (tOf (eBin gtI (eBin (oMul call) (eVar 13) (eFn (call 20) (aList [eVar 14]))) (eC (.int 64)))) (eLv [eC (.str [108, 97, 114, 103, 101]), eC (.str [112, 101, 114, 105, 111, 100])]) (eLv [eC (.str [102, 105, 110, 101])])))
    (sIf (tOf (eBin (oNe call) (eFn (call 18) (aList [eVar 13, eVar 14])) (eVar 15))) (sRet (eC (.bl false))) (sNext)))) 1000)))))))))))) 1000)
    (sRet (eC (.bl true))))
def bodies : List ((Nat → FN) → FN) := [fun call => fun _ _ => .bad,
  fun call => fun _ _ => .bad,
  fun call => callD 2 [] (bodyRun 2 (m_2 call)),
  fun call => callD 1 [] (bodyRun 3 (m_3 call)),
  fun call => callD 1 [] (bodyRun 1 (m_4 call)),
  fun call => callD 2 [] (bodyRun 2 (m_5 call)),
  fun call => callD 1 [] (bodyRun 5 (m_6 call)),
  fun call => callD 2 [] (bodyRun 3 (m_7 call)),
  fun call => callD 3 [] (bodyRun 3 (m_8 call)),
  fun call => callD 1 [] (bodyRun 1 (m_9 call)),
  fun call => callD 1 [] (bodyRun 1 (m_10 call)),
  fun call => callD 1 [] (bodyRun 2 (m_11 call)),
  fun call => callD 1 [] (bodyRun 2 (m_12 call)),
  fun call => callD 1 [] (bodyRun 1 (m_13 call)),
  fun call => callD 2 [] (bodyRun 2 (m_14 call)),
  fun call => callD 2 [] (bodyRun 6 (m_15 call)),
  fun call => callD 2 [] (bodyRun 3 (m_16 call)),
  fun call => callD 1 [] (bodyRun 6 (m_17 call)),
  fun call => callD 2 [] (bodyRun 3 (m_18 call)),
  fun call => callD 1 [] (bodyRun 2 (m_19 call)),
  fun call => callD 1 [] (bodyRun 7 (m_20 call)),
  fun call => callD 1 [] (bodyRun 16 (m_21 call))]
def run : Nat → Nat → FN
  | 0, _ => fun _ _ => .bad
  | n + 1, i => (bodies.getD i fun _ _ _ => .bad) (run n)
theorem run_2 {n : Nat} {S : Store} {a0 : D} {a1 : D} : run (n + 1) 2 [a0, a1] S = fin (m_2 (run n) [some a0, some a1] S) := rfl
theorem run_3 {n : Nat} {S : Store} {a0 : D} : run (n + 1) 3 [a0] S = fin (m_3 (run n) [some a0, none, none] S) := rfl
theorem run_4 {n : Nat} {S : Store} {a0 : D} : run (n + 1) 4 [a0] S = fin (m_4 (run n) [some a0] S) := rfl
theorem run_5 {n : Nat} {S : Store} {a0 : D} {a1 : D} : run (n + 1) 5 [a0, a1] S = fin (m_5 (run n) [some a0, some a1] S) := rfl
theorem run_6 {n : Nat} {S : Store} {a0 : D} : run (n + 1) 6 [a0] S = fin (m_6 (run n) [some a0, none, none, none, none] S) := rfl
theorem run_7 {n : Nat} {S : Store} {a0 : D} {a1 : D} : run (n + 1) 7 [a0, a1] S = fin (m_7 (run n) [some a0, some a1, none] S) := rfl
theorem run_8 {n : Nat} {S : Store} {a0 : D} {a1 : D} {a2 : D} : run (n + 1) 8 [a0, a1, a2] S = fin (m_8 (run n) [some a0, some a1, some a2] S) := rfl
theorem run_9 {n : Nat} {S : Store} {a0 : D} : run (n + 1) 9 [a0] S = fin (m_9 (run n) [some a0] S) := rfl
theorem run_10 {n : Nat} {S : Store} {a0 : D} : run (n + 1) 10 [a0] S = fin (m_10 (run n) [some a0] S) := rfl
theorem run_11 {n : Nat} {S : Store} {a0 : D} : run (n + 1) 11 [a0] S = fin (m_11 (run n) [some a0, none] S) := rfl
theorem run_12 {n : Nat} {S : Store} {a0 : D} : run (n + 1) 12 [a0] S = fin (m_12 (run n) [some a0, none] S) := rfl
theorem run_13 {n : Nat} {S : Store} {a0 : D} : run (n + 1) 13 [a0] S = fin (m_13 (run n) [some a0] S) := rfl
theorem run_14 {n : Nat} {S : Store} {a0 : D} {a1 : D} : run (n + 1) 14 [a0, a1] S = fin (m_14 (run n) [some a0, some a1] S) := rfl
theorem run_15 {n : Nat} {S : Store} {a0 : D} {a1 : D} : run (n + 1) 15 [a0, a1] S = fin (m_15 (run n) [some a0, some a1, none, none, none, none] S) := rfl
theorem run_16 {n : Nat} {S : Store} {a0 : D} {a1 : D} : run (n + 1) 16 [a0, a1] S = fin (m_16 (run n) [some a0, some a1, none] S) := rfl
theorem run_17 {n : Nat} {S : Store} {a0 : D} : run (n + 1) 17 [a0] S = fin (m_17 (run n) [some a0, none, none, none, none, none] S) := rfl
theorem run_18 {n : Nat} {S : Store} {a0 : D} {a1 : D} : run (n + 1) 18 [a0, a1] S = fin (m_18 (run n) [some a0, some a1, none] S) := rfl
theorem run_19 {n : Nat} {S : Store} {a0 : D} : run (n + 1) 19 [a0] S = fin (m_19 (run n) [some a0, none] S) := rfl
theorem run_20 {n : Nat} {S : Store} {a0 : D} : run (n + 1) 20 [a0] S = fin (m_20 (run n) [some a0, none, none, none, none, none, none] S) := rfl
theorem run_21 {n : Nat} {S : Store} {a0 : D} : run (n + 1) 21 [a0] S = fin (m_21 (run n) [some a0, none, none, none, none, none, none, none, none, none, none, none, none, none, none, none] S) := rfl
end L2.Mi.Pg

set_option Elab.async false
set_option linter.all false
set_option maxRecDepth 100000
set_option maxHeartbeats 4000000
/-! The program of law_k12_caches_refused: runs, derivations. Printed by gen.py. -/
namespace L2.Mi.Pg
open PySem PySem.Spec PyProof.Rows
def defs : List DefM := [⟨.m "TooLarge" "__init__", "__init__", "TooLarge.__init__", s_0, []⟩,
  ⟨.m "InvalidCache" "__init__", "__init__", "InvalidCache.__init__", s_1, []⟩,
  ⟨.g "gcd", "gcd", "gcd", s_2, []⟩,
  ⟨.g "lcm", "lcm", "lcm", s_3, []⟩,
  ⟨.g "is_integer", "is_integer", "is_integer", s_4, []⟩,
  ⟨.g "is_among", "is_among", "is_among", s_5, []⟩,
  ⟨.g "is_level", "is_level", "is_level", s_6, []⟩,
  ⟨.g "check_cache", "check_cache", "check_cache", s_7, []⟩,
  ⟨.m "Cache" "__init__", "__init__", "Cache.__init__", s_8, []⟩,
  ⟨.p "Cache" "line", "line", "Cache.line", s_9, []⟩,
  ⟨.p "Cache" "levels", "levels", "Cache.levels", s_10, []⟩,
  ⟨.p "Cache" "sets_together", "sets_together", "Cache.sets_together", s_11, []⟩,
  ⟨.p "Cache" "period", "period", "Cache.period", s_12, []⟩,
  ⟨.m "Cache" "__len__", "__len__", "Cache.__len__", s_13, []⟩,
  ⟨.m "Cache" "__eq__", "__eq__", "Cache.__eq__", s_14, []⟩,
  ⟨.g "_law_pool", "_law_pool", "_law_pool", s_15, []⟩,
  ⟨.g "_law_take", "_law_take", "_law_take", s_16, []⟩,
  ⟨.g "_law_cache", "_law_cache", "_law_cache", s_17, []⟩,
  ⟨.g "_law_heard", "_law_heard", "_law_heard", s_18, []⟩,
  ⟨.g "_law_odd", "_law_odd", "_law_odd", s_19, []⟩,
  ⟨.g "_law_together", "_law_together", "_law_together", s_20, []⟩,
  ⟨.g "law", "law", "law", s_21, []⟩]
def fa : List Fm := [.glo "law",
  .free "abs",
  .glo "gcd",
  .free "int",
  .free "isinstance",
  .free "bool",
  .glo "is_integer",
  .free "tuple",
  .free "len",
  .con "MOST_SETS" (.int 8),
  .glo "is_among",
  .con "MOST_WAYS" (.int 4),
  .free "str",
  .con "RULES" (.kt [(.str [117, 115, 101, 100]), (.str [98, 114, 111, 117, 103, 104, 116]), (.str [115, 101, 99, 111, 110, 100]), (.str [116, 114, 101, 101])]),
  .con "WRITES" (.kt [(.str [98, 97, 99, 107]), (.str [116, 104, 114, 111, 117, 103, 104])]),
  .con "MOST_CELLS" (.int 8),
  .oex "InvalidCache",
  .noat "InvalidCache" "value",
  .glo "InvalidCache",
  .con "MOST_LEVELS" (.int 3),
  .glo "is_level",
  .glo "lcm",
  .con "MOST_PERIOD" (.int 64),
  .oex "TooLarge",
  .noat "TooLarge" "word",
  .glo "TooLarge",
  .glo "check_cache",
  .glo "Cache",
  .glo "_law_take",
  .free "range",
  .mkr "Cache",
  .free "repr",
  .glo "_law_heard",
  .free "min",
  .free "max",
  .glo "_law_pool",
  .glo "_law_cache",
  .glo "_law_together",
  .glo "_law_odd",
  .free "list",
  .exm "TooLarge" "TooLarge" true,
  .exm "TooLarge" "InvalidCache" false,
  .exm "InvalidCache" "TooLarge" false,
  .exm "InvalidCache" "InvalidCache" true,
  .noat "Cache" "form",
  .prop "Cache" "levels",
  .prop "Cache" "line",
  .prop "Cache" "period",
  .prop "Cache" "sets_together",
  .un "Cache" "__eq__",
  .ne "Cache",
  .un "Cache" "__len__"]
def L : Lw where
  cls := ["Cache"]
  flds := ["value", "word", "form", "line", "levels", "sets_together", "period"]
  isi := isiT
  xcl := ["FarError", "InvalidText", "InvalidSyntax", "TooLarge", "InvalidCache"]
  defs := defs
  fa := fa
  fok := by decide +kernel
section
variable {K : Fg} {c : L.Says K} {X : Cx} {W : WX} {n : Nat}
def isG (j : Nat) : Bool := [18, 21].contains j
abbrev IH (c : L.Says K) (P : Program) (w : World) (mg : Str → Option Value) (base : Heap) (n : Nat) : Prop := (∀ (j : Nat) {d : DefM}, defs[j]? = some d → isG j = false → Cal (L.gx K c) P w mg base (lv n) (d.pth.ad K) (run n j)) ∧ (∀ (j : Nat) {d : DefM}, defs[j]? = some d → CalG (L.gx K c) P w mg base (lv n) (d.pth.ad K) (run n j))
theorem isxL_ok (c : L.Says K) : ∀ c1 c2 b v1 v2, isxL c1 c2 = some b → (L.gx K c).clsv c1 = some v1 → (L.gx K c).clsv c2 = some v2 → PySem.W.exmOne (L.gx K c).K v1 v2 = some b := isxTab_ok c (by decide +kernel)
theorem hu_of {k : Nat} (hr : Room k X.A) : X.A.units + 64 < cLine := by have := hr.un; omega
theorem oAdd_ok (cc : Cc (L.gx K c) X W) (hr : Room (lv n + 1) X.A) (ih : IH c X.prog X.w X.mg X.base n) : OpS (L.gx K c) X W (binaryOp .Add) (oAdd (run n)) := (ops_add cc (noOwn_ok)).or ops_catR
theorem oSub_ok (cc : Cc (L.gx K c) X W) (hr : Room (lv n + 1) X.A) (ih : IH c X.prog X.w X.mg X.base n) : OpS (L.gx K c) X W (binaryOp .Sub) (oSub (run n)) := ops_sub (noOwn_ok)
theorem oMul_ok (cc : Cc (L.gx K c) X W) (hr : Room (lv n + 1) X.A) (ih : IH c X.prog X.w X.mg X.base n) : OpS (L.gx K c) X W (binaryOp .Mult) (oMul (run n)) := (ops_mul (noOwn_ok)).or (ops_rep cc)
theorem oNeg_ok (cc : Cc (L.gx K c) X W) (hr : Room (lv n + 1) X.A) (ih : IH c X.prog X.w X.mg X.base n) : UnS (L.gx K c) X W (unaryOp .USub) (oNeg (run n)) := uns_neg (fun ci g h => by
    unfold dNeg at h
    split at h
    · cases h)
theorem oEq_ok (cc : Cc (L.gx K c) X W) (hr : Room (lv n + 1) X.A) (ih : IH c X.prog X.w X.mg X.base n) : OpS (L.gx K c) X W (compareOp .Eq) (oEq (run n)) := ops_eq cc (hu_of hr) (ops_eqOwn cc (hu_of hr) (fun ci g h => by
    unfold dEq at h
    split at h
    · cases h; exact unS c 0 49 rfl rfl (fns_cal cc (ih.1 14 rfl rfl) (hr.mono (Nat.le_succ _))) cc.k
    · cases h))
theorem oNe_ok (cc : Cc (L.gx K c) X W) (hr : Room (lv n + 1) X.A) (ih : IH c X.prog X.w X.mg X.base n) : OpS (L.gx K c) X W (compareOp .NotEq) (oNe (run n)) := ops_ne cc (hu_of hr) (ops_neOwn cc (hu_of hr) (fun ci g h => by
    unfold dEq at h
    split at h
    · cases h; exact neS c 0 50 rfl rfl (ih.1 14 rfl rfl) hr cc.k
    · cases h))
theorem dLen_ok (cc : Cc (L.gx K c) X W) (hr : Room (lv n + 1) X.A) (ih : IH c X.prog X.w X.mg X.base n) : ∀ ci g, dLen (run n) ci = some g → LenS (L.gx K c) X ci g := fun ci g h => by
    unfold dLen at h
    split at h
    · cases h; exact lenS c 0 51 rfl rfl (ih.1 13 rfl rfl) hr cc.k
    · cases h
theorem at_form_f (cc : Cc (L.gx K c) X W) : ∀ ci, at_form (run n) ci = some none → FieldS (L.gx K c) X "form" ci := fun ci h => by
    unfold at_form at h
    split at h
    · exact fieldS c 0 44 rfl rfl cc.k
    · cases h
theorem at_form_p (cc : Cc (L.gx K c) X W) (hr : Room (lv n + 1) X.A) (ih : IH c X.prog X.w X.mg X.base n) : ∀ ci g, at_form (run n) ci = some (some g) → PropS (L.gx K c) X "form" ci g := fun ci g h => by
    unfold at_form at h
    split at h
    · cases h
    · cases h
theorem at_levels_f (cc : Cc (L.gx K c) X W) : ∀ ci, at_levels (run n) ci = some none → FieldS (L.gx K c) X "levels" ci := fun ci h => by
    unfold at_levels at h
    split at h
    · cases h
    · cases h
theorem at_levels_p (cc : Cc (L.gx K c) X W) (hr : Room (lv n + 1) X.A) (ih : IH c X.prog X.w X.mg X.base n) : ∀ ci g, at_levels (run n) ci = some (some g) → PropS (L.gx K c) X "levels" ci g := fun ci g h => by
    unfold at_levels at h
    split at h
    · cases h; exact propS c 0 45 rfl rfl (ih.1 10 rfl rfl) hr cc.k
    · cases h
theorem at_line_f (cc : Cc (L.gx K c) X W) : ∀ ci, at_line (run n) ci = some none → FieldS (L.gx K c) X "line" ci := fun ci h => by
    unfold at_line at h
    split at h
    · cases h
    · cases h
theorem at_line_p (cc : Cc (L.gx K c) X W) (hr : Room (lv n + 1) X.A) (ih : IH c X.prog X.w X.mg X.base n) : ∀ ci g, at_line (run n) ci = some (some g) → PropS (L.gx K c) X "line" ci g := fun ci g h => by
    unfold at_line at h
    split at h
    · cases h; exact propS c 0 46 rfl rfl (ih.1 9 rfl rfl) hr cc.k
    · cases h
theorem at_period_f (cc : Cc (L.gx K c) X W) : ∀ ci, at_period (run n) ci = some none → FieldS (L.gx K c) X "period" ci := fun ci h => by
    unfold at_period at h
    split at h
    · cases h
    · cases h
theorem at_period_p (cc : Cc (L.gx K c) X W) (hr : Room (lv n + 1) X.A) (ih : IH c X.prog X.w X.mg X.base n) : ∀ ci g, at_period (run n) ci = some (some g) → PropS (L.gx K c) X "period" ci g := fun ci g h => by
    unfold at_period at h
    split at h
    · cases h; exact propS c 0 47 rfl rfl (ih.1 12 rfl rfl) hr cc.k
    · cases h
theorem at_sets_together_f (cc : Cc (L.gx K c) X W) : ∀ ci, at_sets_together (run n) ci = some none → FieldS (L.gx K c) X "sets_together" ci := fun ci h => by
    unfold at_sets_together at h
    split at h
    · cases h
    · cases h
theorem at_sets_together_p (cc : Cc (L.gx K c) X W) (hr : Room (lv n + 1) X.A) (ih : IH c X.prog X.w X.mg X.base n) : ∀ ci g, at_sets_together (run n) ci = some (some g) → PropS (L.gx K c) X "sets_together" ci g := fun ci g h => by
    unfold at_sets_together at h
    split at h
    · cases h; exact propS c 0 48 rfl rfl (ih.1 11 rfl rfl) hr cc.k
    · cases h
theorem st_form_ok (cc : Cc (L.gx K c) X W) : ∀ ci, st_form ci = true → FieldS (L.gx K c) X "form" ci := fun ci h => by
    unfold st_form at h
    split at h
    · exact fieldS c 0 44 rfl rfl cc.k
    · cases h
variable {P : Program} {w : World} {mg : Str → Option Value} {base : Heap}
theorem sc_0 : FnScope ["self", "word"] ["self", "word"] (defScope s_0) := ⟨rfl, rfl, rfl, by decide +kernel, rfl, by decide +kernel, by decide +kernel⟩
theorem xi_0 {c : L.Says K} : XInit P w K mg base "TooLarge" "word" := by
  obtain ⟨M⟩ := c.fn 0 rfl
  have hv : M.dvs = [] := List.eq_nil_of_length_eq_zero (by rw [← (M.rd ⟨[], []⟩ fun _ => none).length]; rfl)
  exact ⟨M.fd, ["self", "word"], xi_ok (K := K) (k := 0) M.F sc_0 (Or.inl rfl) (Or.inl rfl), FunD.bindsN (K := K) (ps := ["self", "word"]) (hv ▸ M.F) fun _ _ _ _ _ _ us hl => match us, hl with | [_, _], _ => rfl⟩
theorem sc_1 : FnScope ["self", "value"] ["self", "value"] (defScope s_1) := ⟨rfl, rfl, rfl, by decide +kernel, rfl, by decide +kernel, by decide +kernel⟩
theorem xi_1 {c : L.Says K} : XInit P w K mg base "InvalidCache" "value" := by
  obtain ⟨M⟩ := c.fn 1 rfl
  have hv : M.dvs = [] := List.eq_nil_of_length_eq_zero (by rw [← (M.rd ⟨[], []⟩ fun _ => none).length]; rfl)
  exact ⟨M.fd, ["self", "value"], xi_ok (K := K) (k := 0) M.F sc_1 (Or.inl rfl) (Or.inl rfl), FunD.bindsN (K := K) (ps := ["self", "value"]) (hv ▸ M.F) fun _ _ _ _ _ _ us hl => match us, hl with | [_, _], _ => rfl⟩
abbrev N_2 : List Str := ["one", "other"]
theorem sc_2 : FnScope N_2 ["one", "other"] (defScope s_2) := ⟨rfl, rfl, rfl, by decide +kernel, rfl, by decide +kernel, by decide +kernel⟩
theorem ok_2 (NS : Ns K mg) (n : Nat) (ih : IH c P w mg base n) (M : FnM (L.gx K c) ⟨.g "gcd", "gcd", "gcd", s_2, []⟩) : FnOk P w (L.gx K c).K mg base (L2.CX P w) (lv n + 1 + 1) ((.g "gcd" : Pth).ad (L.gx K c).K) M.fd ["one", "other"] (spF (L.gx K c) (bodyRun N_2.length (m_2 (run n))) (["one", "other"] : List Str).length) := by
  refine fnd_ok (G := L.gx K c) (k := lv n + 1) (ms := m_2 (run n)) M.F sc_2 fun cdv A outer s H E hr cc => ?_
  exact sss_cons (ss_par (i := 0) (j := 1) cc.calm cc.nd rfl rfl (by decide) rfl rfl (sa_cons (se_callB (fns_abs) rfl (NS.free c 1) (by decide +kernel) (sa_cons (se_var 0) (sa_nil))) (sa_cons (se_callB (fns_abs) rfl (NS.free c 1) (by decide +kernel) (sa_cons (se_var 1) (sa_nil))) (sa_nil))))
    (sss_cons (ss_while 1000 cc (st_cmp (oNe_ok cc hr ih) (se_var 1) (se_int)) (sss_one (ss_par (i := 0) (j := 1) cc.calm cc.nd rfl rfl (by decide) rfl rfl (sa_cons (se_var 1) (sa_cons (se_bin ops_mod (se_var 0) (se_var 1)) (sa_nil))))))
    (sss_one (ss_ret (se_var 0))))
theorem cal_2 (NS : Ns K mg) (n : Nat) (ih : IH c P w mg base n) : Cal (L.gx K c) P w mg base (lv (n + 1)) ((.g "gcd" : Pth).ad K) (run (n + 1) 2) := by
  obtain ⟨M⟩ := c.fn 2 rfl
  have hv : M.dvs = [] := List.eq_nil_of_length_eq_zero (by rw [← (M.rd ⟨[], []⟩ fun _ => none).length]; rfl)
  exact cal_defD (ok_2 NS n ih M) rfl (fun j hj => ⟨[], by rw [hv]; cases j <;> exact .nil, FunD.bindsN (ps := ["one", "other"]) (hv ▸ M.F) fun _ _ _ _ _ _ us hl => match us, hl with | [_, _], _ => rfl⟩) M.rd
abbrev N_3 : List Str := ["numbers", "found", "number"]
theorem sc_3 : FnScope N_3 ["numbers"] (defScope s_3) := ⟨rfl, rfl, rfl, by decide +kernel, rfl, by decide +kernel, by decide +kernel⟩
theorem ok_3 (NS : Ns K mg) (n : Nat) (ih : IH c P w mg base n) (M : FnM (L.gx K c) ⟨.g "lcm", "lcm", "lcm", s_3, []⟩) : FnOk P w (L.gx K c).K mg base (L2.CX P w) (lv n + 1 + 1) ((.g "lcm" : Pth).ad (L.gx K c).K) M.fd ["numbers"] (spF (L.gx K c) (bodyRun N_3.length (m_3 (run n))) (["numbers"] : List Str).length) := by
  refine fnd_ok (G := L.gx K c) (k := lv n + 1) (ms := m_3 (run n)) M.F sc_3 fun cdv A outer s H E hr cc => ?_
  exact sss_cons (ss_set (i := 1) cc.nd rfl (by first | exact Or.inl rfl | exact Or.inr rfl) (se_int))
    (sss_cons (ss_for 1000 cc (si_seq cc (se_var 0)) (sg_name cc.nd rfl (by first | exact Or.inl rfl | exact Or.inr rfl)) (sss_one (ss_set (i := 1) cc.nd rfl (by first | exact Or.inl rfl | exact Or.inr rfl) (se_bin (oMul_ok cc hr ih) (se_bin ops_div (se_var 1) (se_call (fns_cal cc (ih.1 2 rfl rfl) (hr.mono (Nat.le_succ _))) rfl (NS.glo c 2) (keep_of c 2) (sa_cons (se_var 1) (sa_cons (se_var 2) (sa_nil))))) (se_var 2)))))
    (sss_one (ss_ret (se_var 1))))
theorem cal_3 (NS : Ns K mg) (n : Nat) (ih : IH c P w mg base n) : Cal (L.gx K c) P w mg base (lv (n + 1)) ((.g "lcm" : Pth).ad K) (run (n + 1) 3) := by
  obtain ⟨M⟩ := c.fn 3 rfl
  have hv : M.dvs = [] := List.eq_nil_of_length_eq_zero (by rw [← (M.rd ⟨[], []⟩ fun _ => none).length]; rfl)
  exact cal_defD (ok_3 NS n ih M) rfl (fun j hj => ⟨[], by rw [hv]; cases j <;> exact .nil, FunD.bindsN (ps := ["numbers"]) (hv ▸ M.F) fun _ _ _ _ _ _ us hl => match us, hl with | [_], _ => rfl⟩) M.rd
abbrev N_4 : List Str := ["value"]
theorem sc_4 : FnScope N_4 ["value"] (defScope s_4) := ⟨rfl, rfl, rfl, by decide +kernel, rfl, by decide +kernel, by decide +kernel⟩
theorem ok_4 (NS : Ns K mg) (n : Nat) (ih : IH c P w mg base n) (M : FnM (L.gx K c) ⟨.g "is_integer", "is_integer", "is_integer", s_4, []⟩) : FnOk P w (L.gx K c).K mg base (L2.CX P w) (lv n + 1 + 1) ((.g "is_integer" : Pth).ad (L.gx K c).K) M.fd ["value"] (spF (L.gx K c) (bodyRun N_4.length (m_4 (run n))) (["value"] : List Str).length) := by
  refine fnd_ok (G := L.gx K c) (k := lv n + 1) (ms := m_4 (run n)) M.F sc_4 fun cdv A outer s H E hr cc => ?_
  exact sss_one (ss_ret (se_and (se_callB (fns_isi cc) rfl (NS.free c 4) (by decide +kernel) (sa_cons (se_var 0) (sa_cons (se_bltn rfl (NS.free c 3) (by decide +kernel)) (sa_nil)))) (se_one (se_not (se_callB (fns_isi cc) rfl (NS.free c 4) (by decide +kernel) (sa_cons (se_var 0) (sa_cons (se_bltn rfl (NS.free c 5) (by decide +kernel)) (sa_nil))))))))
theorem cal_4 (NS : Ns K mg) (n : Nat) (ih : IH c P w mg base n) : Cal (L.gx K c) P w mg base (lv (n + 1)) ((.g "is_integer" : Pth).ad K) (run (n + 1) 4) := by
  obtain ⟨M⟩ := c.fn 4 rfl
  have hv : M.dvs = [] := List.eq_nil_of_length_eq_zero (by rw [← (M.rd ⟨[], []⟩ fun _ => none).length]; rfl)
  exact cal_defD (ok_4 NS n ih M) rfl (fun j hj => ⟨[], by rw [hv]; cases j <;> exact .nil, FunD.bindsN (ps := ["value"]) (hv ▸ M.F) fun _ _ _ _ _ _ us hl => match us, hl with | [_], _ => rfl⟩) M.rd
abbrev N_5 : List Str := ["value", "most"]
theorem sc_5 : FnScope N_5 ["value", "most"] (defScope s_5) := ⟨rfl, rfl, rfl, by decide +kernel, rfl, by decide +kernel, by decide +kernel⟩
theorem ok_5 (NS : Ns K mg) (n : Nat) (ih : IH c P w mg base n) (M : FnM (L.gx K c) ⟨.g "is_among", "is_among", "is_among", s_5, []⟩) : FnOk P w (L.gx K c).K mg base (L2.CX P w) (lv n + 1 + 1) ((.g "is_among" : Pth).ad (L.gx K c).K) M.fd ["value", "most"] (spF (L.gx K c) (bodyRun N_5.length (m_5 (run n))) (["value", "most"] : List Str).length) := by
  refine fnd_ok (G := L.gx K c) (k := lv n + 1) (ms := m_5 (run n)) M.F sc_5 fun cdv A outer s H E hr cc => ?_
  exact sss_one (ss_ret (se_and (se_call (fns_cal cc (ih.1 4 rfl rfl) (hr.mono (Nat.le_succ _))) rfl (NS.glo c 6) (keep_of c 6) (sa_cons (se_var 0) (sa_nil))) (se_one (se_chain op_le op_le cmp_rel cmp_rel (se_int) (se_var 0) (se_var 1)))))
theorem cal_5 (NS : Ns K mg) (n : Nat) (ih : IH c P w mg base n) : Cal (L.gx K c) P w mg base (lv (n + 1)) ((.g "is_among" : Pth).ad K) (run (n + 1) 5) := by
  obtain ⟨M⟩ := c.fn 5 rfl
  have hv : M.dvs = [] := List.eq_nil_of_length_eq_zero (by rw [← (M.rd ⟨[], []⟩ fun _ => none).length]; rfl)
  exact cal_defD (ok_5 NS n ih M) rfl (fun j hj => ⟨[], by rw [hv]; cases j <;> exact .nil, FunD.bindsN (ps := ["value", "most"]) (hv ▸ M.F) fun _ _ _ _ _ _ us hl => match us, hl with | [_, _], _ => rfl⟩) M.rd
abbrev N_6 : List Str := ["value", "sets", "ways", "rule", "writes"]
theorem sc_6 : FnScope N_6 ["value"] (defScope s_6) := ⟨rfl, rfl, rfl, by decide +kernel, rfl, by decide +kernel, by decide +kernel⟩
theorem ok_6 (NS : Ns K mg) (n : Nat) (ih : IH c P w mg base n) (M : FnM (L.gx K c) ⟨.g "is_level", "is_level", "is_level", s_6, []⟩) : FnOk P w (L.gx K c).K mg base (L2.CX P w) (lv n + 1 + 1) ((.g "is_level" : Pth).ad (L.gx K c).K) M.fd ["value"] (spF (L.gx K c) (bodyRun N_6.length (m_6 (run n))) (["value"] : List Str).length) := by
  refine fnd_ok (G := L.gx K c) (k := lv n + 1) (ms := m_6 (run n)) M.F sc_6 fun cdv A outer s H E hr cc => ?_
  exact sss_cons (ss_if (st_w (sw_or (st_not (st_tru cc (se_callB (fns_isi cc) rfl (NS.free c 4) (by decide +kernel) (sa_cons (se_var 0) (sa_cons (se_bltn rfl (NS.free c 7) (by decide +kernel)) (sa_nil)))))) (sw_or1 (st_cmp (oNe_ok cc hr ih) (se_callB (FnS.or (fns_len cc) (fns_lenO (dLen_ok cc hr ih))) rfl (NS.free c 8) (by decide +kernel) (sa_cons (se_var 0) (sa_nil))) (se_int))))) (sss_one (ss_ret (se_bl))) (sss_nil))
    (sss_cons (ss_asg (se_var 0) (sg_tup cc (sgs_cons (sg_name cc.nd rfl (by first | exact Or.inl rfl | exact Or.inr rfl)) (sgs_cons (sg_name cc.nd rfl (by first | exact Or.inl rfl | exact Or.inr rfl)) (sgs_cons (sg_name cc.nd rfl (by first | exact Or.inl rfl | exact Or.inr rfl)) (sgs_cons (sg_name cc.nd rfl (by first | exact Or.inl rfl | exact Or.inr rfl)) (sgs_nil)))))))
    (sss_cons (ss_if (st_w (sw_or (st_not (st_tru cc (se_call (fns_cal cc (ih.1 5 rfl rfl) (hr.mono (Nat.le_succ _))) rfl (NS.glo c 10) (keep_of c 10) (sa_cons (se_var 1) (sa_cons (se_con c NS 9 rfl rfl) (sa_nil)))))) (sw_or1 (st_not (st_tru cc (se_call (fns_cal cc (ih.1 5 rfl rfl) (hr.mono (Nat.le_succ _))) rfl (NS.glo c 10) (keep_of c 10) (sa_cons (se_var 2) (sa_cons (se_con c NS 11 rfl rfl) (sa_nil))))))))) (sss_one (ss_ret (se_bl))) (sss_nil))
    (sss_cons (ss_if (st_w (sw_or (st_not (st_tru cc (se_callB (fns_isi cc) rfl (NS.free c 4) (by decide +kernel) (sa_cons (se_var 3) (sa_cons (se_bltn rfl (NS.free c 12) (by decide +kernel)) (sa_nil)))))) (sw_or (st_not (st_tru cc (se_callB (fns_isi cc) rfl (NS.free c 4) (by decide +kernel) (sa_cons (se_var 4) (sa_cons (se_bltn rfl (NS.free c 12) (by decide +kernel)) (sa_nil)))))) (sw_or (st_cmp (ops_notIn cc) (se_var 3) (se_con c NS 13 rfl rfl)) (sw_or1 (st_cmp (ops_notIn cc) (se_var 4) (se_con c NS 14 rfl rfl))))))) (sss_one (ss_ret (se_bl))) (sss_nil))
    (sss_one (ss_ret (se_or (se_cmp (oNe_ok cc hr ih) (se_var 3) (se_str [116, 114, 101, 101])) (se_one (se_cmp (oNe_ok cc hr ih) (se_var 2) (se_int)))))))))
theorem cal_6 (NS : Ns K mg) (n : Nat) (ih : IH c P w mg base n) : Cal (L.gx K c) P w mg base (lv (n + 1)) ((.g "is_level" : Pth).ad K) (run (n + 1) 6) := by
  obtain ⟨M⟩ := c.fn 6 rfl
  have hv : M.dvs = [] := List.eq_nil_of_length_eq_zero (by rw [← (M.rd ⟨[], []⟩ fun _ => none).length]; rfl)
  exact cal_defD (ok_6 NS n ih M) rfl (fun j hj => ⟨[], by rw [hv]; cases j <;> exact .nil, FunD.bindsN (ps := ["value"]) (hv ▸ M.F) fun _ _ _ _ _ _ us hl => match us, hl with | [_], _ => rfl⟩) M.rd
abbrev N_7 : List Str := ["line", "levels", "level"]
theorem sc_7 : FnScope N_7 ["line", "levels"] (defScope s_7) := ⟨rfl, rfl, rfl, by decide +kernel, rfl, by decide +kernel, by decide +kernel⟩
theorem ok_7 (NS : Ns K mg) (n : Nat) (ih : IH c P w mg base n) (M : FnM (L.gx K c) ⟨.g "check_cache", "check_cache", "check_cache", s_7, []⟩) : FnOk P w (L.gx K c).K mg base (L2.CX P w) (lv n + 1 + 1) ((.g "check_cache" : Pth).ad (L.gx K c).K) M.fd ["line", "levels"] (spF (L.gx K c) (bodyRun N_7.length (m_7 (run n))) (["line", "levels"] : List Str).length) := by
  refine fnd_ok (G := L.gx K c) (k := lv n + 1) (ms := m_7 (run n)) M.F sc_7 fun cdv A outer s H E hr cc => ?_
  exact sss_cons (ss_if (st_not (st_tru cc (se_call (fns_cal cc (ih.1 5 rfl rfl) (hr.mono (Nat.le_succ _))) rfl (NS.glo c 10) (keep_of c 10) (sa_cons (se_var 0) (sa_cons (se_con c NS 15 rfl rfl) (sa_nil)))))) (sss_one (ss_raiseL 4 0 16 17 18 cc NS rfl rfl rfl rfl rfl (xi_1 (c := c)) (hr.mono (two_le _)) rfl (se_var 0))) (sss_nil))
    (sss_cons (ss_if (st_w (sw_or (st_not (st_tru cc (se_callB (fns_isi cc) rfl (NS.free c 4) (by decide +kernel) (sa_cons (se_var 1) (sa_cons (se_bltn rfl (NS.free c 7) (by decide +kernel)) (sa_nil)))))) (sw_or1 (st_not (st_chain op_le op_le cmp_rel cmp_rel (se_int) (se_callB (FnS.or (fns_len cc) (fns_lenO (dLen_ok cc hr ih))) rfl (NS.free c 8) (by decide +kernel) (sa_cons (se_var 1) (sa_nil))) (se_con c NS 19 rfl rfl)))))) (sss_one (ss_raiseL 4 0 16 17 18 cc NS rfl rfl rfl rfl rfl (xi_1 (c := c)) (hr.mono (two_le _)) rfl (se_var 1))) (sss_nil))
    (sss_cons (ss_for 1000 cc (si_seq cc (se_var 1)) (sg_name cc.nd rfl (by first | exact Or.inl rfl | exact Or.inr rfl)) (sss_one (ss_if (st_not (st_tru cc (se_call (fns_cal cc (ih.1 6 rfl rfl) (hr.mono (Nat.le_succ _))) rfl (NS.glo c 20) (keep_of c 20) (sa_cons (se_var 2) (sa_nil))))) (sss_one (ss_raiseL 4 0 16 17 18 cc NS rfl rfl rfl rfl rfl (xi_1 (c := c)) (hr.mono (two_le _)) rfl (se_var 2))) (sss_nil))))
    (sss_one (ss_if (st_cmp ops_gt (se_bin (oMul_ok cc hr ih) (se_var 0) (se_call (fns_cal cc (ih.1 3 rfl rfl) (hr.mono (Nat.le_succ _))) rfl (NS.glo c 21) (keep_of c 21) (sa_cons (se_lcc (own := [("level", 2)]) (t := (.one 2)) 1000 cc (si_seq cc (se_var 1)) (blkOk_by (N := N_7) (sc := defScope s_7) (by decide +kernel)) (by decide) (fun _ _ _ _ _ cc => pg_name cc.nd rfl (by first | exact Or.inl rfl | exact Or.inr rfl)) (fun _ _ _ _ _ cc => sts_nil) (fun _ _ _ _ _ cc => se_ix (ixs_item cc) (se_var 2) (se_int))) (sa_nil)))) (se_con c NS 22 rfl rfl)) (sss_one (ss_raiseL 3 1 23 24 25 cc NS rfl rfl rfl rfl rfl (xi_0 (c := c)) (hr.mono (two_le _)) rfl (se_str [112, 101, 114, 105, 111, 100]))) (sss_nil)))))
theorem cal_7 (NS : Ns K mg) (n : Nat) (ih : IH c P w mg base n) : Cal (L.gx K c) P w mg base (lv (n + 1)) ((.g "check_cache" : Pth).ad K) (run (n + 1) 7) := by
  obtain ⟨M⟩ := c.fn 7 rfl
  have hv : M.dvs = [] := List.eq_nil_of_length_eq_zero (by rw [← (M.rd ⟨[], []⟩ fun _ => none).length]; rfl)
  exact cal_defD (ok_7 NS n ih M) rfl (fun j hj => ⟨[], by rw [hv]; cases j <;> exact .nil, FunD.bindsN (ps := ["line", "levels"]) (hv ▸ M.F) fun _ _ _ _ _ _ us hl => match us, hl with | [_, _], _ => rfl⟩) M.rd
abbrev N_8 : List Str := ["self", "line", "levels"]
theorem sc_8 : FnScope N_8 ["self", "line", "levels"] (defScope s_8) := ⟨rfl, rfl, rfl, by decide +kernel, rfl, by decide +kernel, by decide +kernel⟩
theorem ok_8 (NS : Ns K mg) (n : Nat) (ih : IH c P w mg base n) (M : FnM (L.gx K c) ⟨.m "Cache" "__init__", "__init__", "Cache.__init__", s_8, []⟩) : FnOk P w (L.gx K c).K mg base (L2.CX P w) (lv n + 1 + 1) ((.m "Cache" "__init__" : Pth).ad (L.gx K c).K) M.fd ["self", "line", "levels"] (spF (L.gx K c) (bodyRun N_8.length (m_8 (run n))) (["self", "line", "levels"] : List Str).length) := by
  refine fnd_ok (G := L.gx K c) (k := lv n + 1) (ms := m_8 (run n)) M.F sc_8 fun cdv A outer s H E hr cc => ?_
  exact sss_cons (ss_expr (se_call (fns_cal cc (ih.1 7 rfl rfl) (hr.mono (Nat.le_succ _))) rfl (NS.glo c 26) (keep_of c 26) (sa_cons (se_var 1) (sa_cons (se_var 2) (sa_nil)))))
    (sss_one (ss_fld cc (se_var 0) (se_tup (sa_cons (se_var 1) (sa_cons (se_var 2) (sa_nil))) (szl rfl)) rfl (st_form_ok cc)))
theorem cal_8 (NS : Ns K mg) (n : Nat) (ih : IH c P w mg base n) : Cal (L.gx K c) P w mg base (lv (n + 1)) ((.m "Cache" "__init__" : Pth).ad K) (run (n + 1) 8) := by
  obtain ⟨M⟩ := c.fn 8 rfl
  have hv : M.dvs = [] := List.eq_nil_of_length_eq_zero (by rw [← (M.rd ⟨[], []⟩ fun _ => none).length]; rfl)
  exact cal_defD (ok_8 NS n ih M) rfl (fun j hj => ⟨[], by rw [hv]; cases j <;> exact .nil, FunD.bindsN (ps := ["self", "line", "levels"]) (hv ▸ M.F) fun _ _ _ _ _ _ us hl => match us, hl with | [_, _, _], _ => rfl⟩) M.rd
abbrev N_9 : List Str := ["self"]
theorem sc_9 : FnScope N_9 ["self"] (defScope s_9) := ⟨rfl, rfl, rfl, by decide +kernel, rfl, by decide +kernel, by decide +kernel⟩
theorem ok_9 (NS : Ns K mg) (n : Nat) (ih : IH c P w mg base n) (M : FnM (L.gx K c) ⟨.p "Cache" "line", "line", "Cache.line", s_9, []⟩) : FnOk P w (L.gx K c).K mg base (L2.CX P w) (lv n + 1 + 1) ((.p "Cache" "line" : Pth).ad (L.gx K c).K) M.fd ["self"] (spF (L.gx K c) (bodyRun N_9.length (m_9 (run n))) (["self"] : List Str).length) := by
  refine fnd_ok (G := L.gx K c) (k := lv n + 1) (ms := m_9 (run n)) M.F sc_9 fun cdv A outer s H E hr cc => ?_
  exact sss_one (ss_ret (se_ix (ixs_item cc) (se_attr cc (se_var 0) rfl (at_form_f cc) (at_form_p cc hr ih)) (se_int)))
theorem cal_9 (NS : Ns K mg) (n : Nat) (ih : IH c P w mg base n) : Cal (L.gx K c) P w mg base (lv (n + 1)) ((.p "Cache" "line" : Pth).ad K) (run (n + 1) 9) := by
  obtain ⟨M⟩ := c.fn 9 rfl
  have hv : M.dvs = [] := List.eq_nil_of_length_eq_zero (by rw [← (M.rd ⟨[], []⟩ fun _ => none).length]; rfl)
  exact cal_defD (ok_9 NS n ih M) rfl (fun j hj => ⟨[], by rw [hv]; cases j <;> exact .nil, FunD.bindsN (ps := ["self"]) (hv ▸ M.F) fun _ _ _ _ _ _ us hl => match us, hl with | [_], _ => rfl⟩) M.rd
abbrev N_10 : List Str := ["self"]
theorem sc_10 : FnScope N_10 ["self"] (defScope s_10) := ⟨rfl, rfl, rfl, by decide +kernel, rfl, by decide +kernel, by decide +kernel⟩
theorem ok_10 (NS : Ns K mg) (n : Nat) (ih : IH c P w mg base n) (M : FnM (L.gx K c) ⟨.p "Cache" "levels", "levels", "Cache.levels", s_10, []⟩) : FnOk P w (L.gx K c).K mg base (L2.CX P w) (lv n + 1 + 1) ((.p "Cache" "levels" : Pth).ad (L.gx K c).K) M.fd ["self"] (spF (L.gx K c) (bodyRun N_10.length (m_10 (run n))) (["self"] : List Str).length) := by
  refine fnd_ok (G := L.gx K c) (k := lv n + 1) (ms := m_10 (run n)) M.F sc_10 fun cdv A outer s H E hr cc => ?_
  exact sss_one (ss_ret (se_ix (ixs_item cc) (se_attr cc (se_var 0) rfl (at_form_f cc) (at_form_p cc hr ih)) (se_int)))
theorem cal_10 (NS : Ns K mg) (n : Nat) (ih : IH c P w mg base n) : Cal (L.gx K c) P w mg base (lv (n + 1)) ((.p "Cache" "levels" : Pth).ad K) (run (n + 1) 10) := by
  obtain ⟨M⟩ := c.fn 10 rfl
  have hv : M.dvs = [] := List.eq_nil_of_length_eq_zero (by rw [← (M.rd ⟨[], []⟩ fun _ => none).length]; rfl)
  exact cal_defD (ok_10 NS n ih M) rfl (fun j hj => ⟨[], by rw [hv]; cases j <;> exact .nil, FunD.bindsN (ps := ["self"]) (hv ▸ M.F) fun _ _ _ _ _ _ us hl => match us, hl with | [_], _ => rfl⟩) M.rd
abbrev N_11 : List Str := ["self", "level"]
theorem sc_11 : FnScope N_11 ["self"] (defScope s_11) := ⟨rfl, rfl, rfl, by decide +kernel, rfl, by decide +kernel, by decide +kernel⟩
theorem ok_11 (NS : Ns K mg) (n : Nat) (ih : IH c P w mg base n) (M : FnM (L.gx K c) ⟨.p "Cache" "sets_together", "sets_together", "Cache.sets_together", s_11, []⟩) : FnOk P w (L.gx K c).K mg base (L2.CX P w) (lv n + 1 + 1) ((.p "Cache" "sets_together" : Pth).ad (L.gx K c).K) M.fd ["self"] (spF (L.gx K c) (bodyRun N_11.length (m_11 (run n))) (["self"] : List Str).length) := by
  refine fnd_ok (G := L.gx K c) (k := lv n + 1) (ms := m_11 (run n)) M.F sc_11 fun cdv A outer s H E hr cc => ?_
  exact sss_one (ss_ret (se_call (fns_cal cc (ih.1 3 rfl rfl) (hr.mono (Nat.le_succ _))) rfl (NS.glo c 21) (keep_of c 21) (sa_cons (se_lcc (own := [("level", 1)]) (t := (.one 1)) 1000 cc (si_seq cc (se_ix (ixs_item cc) (se_attr cc (se_var 0) rfl (at_form_f cc) (at_form_p cc hr ih)) (se_int))) (blkOk_by (N := N_11) (sc := defScope s_11) (by decide +kernel)) (by decide) (fun _ _ _ _ _ cc => pg_name cc.nd rfl (by first | exact Or.inl rfl | exact Or.inr rfl)) (fun _ _ _ _ _ cc => sts_nil) (fun _ _ _ _ _ cc => se_ix (ixs_item cc) (se_var 1) (se_int))) (sa_nil))))
theorem cal_11 (NS : Ns K mg) (n : Nat) (ih : IH c P w mg base n) : Cal (L.gx K c) P w mg base (lv (n + 1)) ((.p "Cache" "sets_together" : Pth).ad K) (run (n + 1) 11) := by
  obtain ⟨M⟩ := c.fn 11 rfl
  have hv : M.dvs = [] := List.eq_nil_of_length_eq_zero (by rw [← (M.rd ⟨[], []⟩ fun _ => none).length]; rfl)
  exact cal_defD (ok_11 NS n ih M) rfl (fun j hj => ⟨[], by rw [hv]; cases j <;> exact .nil, FunD.bindsN (ps := ["self"]) (hv ▸ M.F) fun _ _ _ _ _ _ us hl => match us, hl with | [_], _ => rfl⟩) M.rd
abbrev N_12 : List Str := ["self", "level"]
theorem sc_12 : FnScope N_12 ["self"] (defScope s_12) := ⟨rfl, rfl, rfl, by decide +kernel, rfl, by decide +kernel, by decide +kernel⟩
theorem ok_12 (NS : Ns K mg) (n : Nat) (ih : IH c P w mg base n) (M : FnM (L.gx K c) ⟨.p "Cache" "period", "period", "Cache.period", s_12, []⟩) : FnOk P w (L.gx K c).K mg base (L2.CX P w) (lv n + 1 + 1) ((.p "Cache" "period" : Pth).ad (L.gx K c).K) M.fd ["self"] (spF (L.gx K c) (bodyRun N_12.length (m_12 (run n))) (["self"] : List Str).length) := by
  refine fnd_ok (G := L.gx K c) (k := lv n + 1) (ms := m_12 (run n)) M.F sc_12 fun cdv A outer s H E hr cc => ?_
  exact sss_one (ss_ret (se_bin (oMul_ok cc hr ih) (se_ix (ixs_item cc) (se_attr cc (se_var 0) rfl (at_form_f cc) (at_form_p cc hr ih)) (se_int)) (se_call (fns_cal cc (ih.1 3 rfl rfl) (hr.mono (Nat.le_succ _))) rfl (NS.glo c 21) (keep_of c 21) (sa_cons (se_lcc (own := [("level", 1)]) (t := (.one 1)) 1000 cc (si_seq cc (se_ix (ixs_item cc) (se_attr cc (se_var 0) rfl (at_form_f cc) (at_form_p cc hr ih)) (se_int))) (blkOk_by (N := N_12) (sc := defScope s_12) (by decide +kernel)) (by decide) (fun _ _ _ _ _ cc => pg_name cc.nd rfl (by first | exact Or.inl rfl | exact Or.inr rfl)) (fun _ _ _ _ _ cc => sts_nil) (fun _ _ _ _ _ cc => se_ix (ixs_item cc) (se_var 1) (se_int))) (sa_nil)))))
theorem cal_12 (NS : Ns K mg) (n : Nat) (ih : IH c P w mg base n) : Cal (L.gx K c) P w mg base (lv (n + 1)) ((.p "Cache" "period" : Pth).ad K) (run (n + 1) 12) := by
  obtain ⟨M⟩ := c.fn 12 rfl
  have hv : M.dvs = [] := List.eq_nil_of_length_eq_zero (by rw [← (M.rd ⟨[], []⟩ fun _ => none).length]; rfl)
  exact cal_defD (ok_12 NS n ih M) rfl (fun j hj => ⟨[], by rw [hv]; cases j <;> exact .nil, FunD.bindsN (ps := ["self"]) (hv ▸ M.F) fun _ _ _ _ _ _ us hl => match us, hl with | [_], _ => rfl⟩) M.rd
abbrev N_13 : List Str := ["self"]
theorem sc_13 : FnScope N_13 ["self"] (defScope s_13) := ⟨rfl, rfl, rfl, by decide +kernel, rfl, by decide +kernel, by decide +kernel⟩
theorem ok_13 (NS : Ns K mg) (n : Nat) (ih : IH c P w mg base n) (M : FnM (L.gx K c) ⟨.m "Cache" "__len__", "__len__", "Cache.__len__", s_13, []⟩) : FnOk P w (L.gx K c).K mg base (L2.CX P w) (lv n + 1 + 1) ((.m "Cache" "__len__" : Pth).ad (L.gx K c).K) M.fd ["self"] (spF (L.gx K c) (bodyRun N_13.length (m_13 (run n))) (["self"] : List Str).length) := by
  refine fnd_ok (G := L.gx K c) (k := lv n + 1) (ms := m_13 (run n)) M.F sc_13 fun cdv A outer s H E hr cc => ?_
  exact sss_one (ss_ret (se_callB (FnS.or (fns_len cc) (fns_lenO (dLen_ok cc hr ih))) rfl (NS.free c 8) (by decide +kernel) (sa_cons (se_ix (ixs_item cc) (se_attr cc (se_var 0) rfl (at_form_f cc) (at_form_p cc hr ih)) (se_int)) (sa_nil))))
theorem cal_13 (NS : Ns K mg) (n : Nat) (ih : IH c P w mg base n) : Cal (L.gx K c) P w mg base (lv (n + 1)) ((.m "Cache" "__len__" : Pth).ad K) (run (n + 1) 13) := by
  obtain ⟨M⟩ := c.fn 13 rfl
  have hv : M.dvs = [] := List.eq_nil_of_length_eq_zero (by rw [← (M.rd ⟨[], []⟩ fun _ => none).length]; rfl)
  exact cal_defD (ok_13 NS n ih M) rfl (fun j hj => ⟨[], by rw [hv]; cases j <;> exact .nil, FunD.bindsN (ps := ["self"]) (hv ▸ M.F) fun _ _ _ _ _ _ us hl => match us, hl with | [_], _ => rfl⟩) M.rd
abbrev N_14 : List Str := ["self", "other"]
theorem sc_14 : FnScope N_14 ["self", "other"] (defScope s_14) := ⟨rfl, rfl, rfl, by decide +kernel, rfl, by decide +kernel, by decide +kernel⟩
theorem ok_14 (NS : Ns K mg) (n : Nat) (ih : IH c P w mg base n) (M : FnM (L.gx K c) ⟨.m "Cache" "__eq__", "__eq__", "Cache.__eq__", s_14, []⟩) : FnOk P w (L.gx K c).K mg base (L2.CX P w) (lv n + 1 + 1) ((.m "Cache" "__eq__" : Pth).ad (L.gx K c).K) M.fd ["self", "other"] (spF (L.gx K c) (bodyRun N_14.length (m_14 (run n))) (["self", "other"] : List Str).length) := by
  refine fnd_ok (G := L.gx K c) (k := lv n + 1) (ms := m_14 (run n)) M.F sc_14 fun cdv A outer s H E hr cc => ?_
  exact sss_one (ss_ret (se_and (se_callB (fns_isi cc) rfl (NS.free c 4) (by decide +kernel) (sa_cons (se_var 1) (sa_cons (se_cls rfl (NS.glo c 27) (cls_of c 0 rfl)) (sa_nil)))) (se_one (se_cmp (oEq_ok cc hr ih) (se_attr cc (se_var 0) rfl (at_form_f cc) (at_form_p cc hr ih)) (se_attr cc (se_var 1) rfl (at_form_f cc) (at_form_p cc hr ih))))))
theorem cal_14 (NS : Ns K mg) (n : Nat) (ih : IH c P w mg base n) : Cal (L.gx K c) P w mg base (lv (n + 1)) ((.m "Cache" "__eq__" : Pth).ad K) (run (n + 1) 14) := by
  obtain ⟨M⟩ := c.fn 14 rfl
  have hv : M.dvs = [] := List.eq_nil_of_length_eq_zero (by rw [← (M.rd ⟨[], []⟩ fun _ => none).length]; rfl)
  exact cal_defD (ok_14 NS n ih M) rfl (fun j hj => ⟨[], by rw [hv]; cases j <;> exact .nil, FunD.bindsN (ps := ["self", "other"]) (hv ▸ M.F) fun _ _ _ _ _ _ us hl => match us, hl with | [_, _], _ => rfl⟩) M.rd
abbrev N_15 : List Str := ["_law_script", "_law_k", "_law_cell", "_law_heavy", "_law_blend", "_law_seed"]
theorem sc_15 : FnScope N_15 ["_law_script", "_law_k"] (defScope s_15) := ⟨rfl, rfl, rfl, by decide +kernel, rfl, by decide +kernel, by decide +kernel⟩
theorem ok_15 (NS : Ns K mg) (n : Nat) (ih : IH c P w mg base n) (M : FnM (L.gx K c) ⟨.g "_law_pool", "_law_pool", "_law_pool", s_15, []⟩) : FnOk P w (L.gx K c).K mg base (L2.CX P w) (lv n + 1 + 1) ((.g "_law_pool" : Pth).ad (L.gx K c).K) M.fd ["_law_script", "_law_k"] (spF (L.gx K c) (bodyRun N_15.length (m_15 (run n))) (["_law_script", "_law_k"] : List Str).length) := by
  refine fnd_ok (G := L.gx K c) (k := lv n + 1) (ms := m_15 (run n)) M.F sc_15 fun cdv A outer s H E hr cc => ?_
  exact sss_cons (ss_set (i := 2) cc.nd rfl (by first | exact Or.inl rfl | exact Or.inr rfl) (se_int))
    (sss_cons (ss_if (st_cmp ops_lt (se_var 1) (se_callB (FnS.or (fns_len cc) (fns_lenO (dLen_ok cc hr ih))) rfl (NS.free c 8) (by decide +kernel) (sa_cons (se_var 0) (sa_nil)))) (sss_one (ss_set (i := 2) cc.nd rfl (by first | exact Or.inl rfl | exact Or.inr rfl) (se_ix (ixs_item cc) (se_var 0) (se_var 1)))) (sss_nil))
    (sss_cons (ss_set (i := 3) cc.nd rfl (by first | exact Or.inl rfl | exact Or.inr rfl) (se_callB (fns_abs) rfl (NS.free c 1) (by decide +kernel) (sa_cons (se_var 2) (sa_nil))))
    (sss_cons (ss_set (i := 4) cc.nd rfl (by first | exact Or.inl rfl | exact Or.inr rfl) (se_bin ops_mod (se_bin (oMul_ok cc hr ih) (se_callTy (fns_int) rfl (NS.free c 3) (by decide +kernel) (sa_cons (se_bin (oAdd_ok cc hr ih) (se_bin ops_mod (se_callTy (fns_int) rfl (NS.free c 3) (by decide +kernel) (sa_cons (se_var 2) (sa_nil))) (se_int)) (se_bin (oMul_ok cc hr ih) (se_int) (se_bin (oAdd_ok cc hr ih) (se_var 1) (se_int)))) (sa_nil))) (se_bin (oAdd_ok cc hr ih) (se_var 1) (se_int))) (se_int)))
    (sss_cons (ss_set (i := 5) cc.nd rfl (by first | exact Or.inl rfl | exact Or.inr rfl) (se_bin ops_mod (se_bin (oMul_ok cc hr ih) (se_bin ops_mod (se_callTy (fns_int) rfl (NS.free c 3) (by decide +kernel) (sa_cons (se_bin (oMul_ok cc hr ih) (se_var 4) (se_var 4)) (sa_nil))) (se_int)) (se_int)) (se_int)))
    (sss_one (ss_ret (se_lst (sa_cons (se_bin (oMul_ok cc hr ih) (se_var 3) (se_callTy (fns_int) rfl (NS.free c 3) (by decide +kernel) (sa_cons (se_cmp ops_ge (se_var 3) (se_bin ops_pow (se_int) (se_int))) (sa_nil)))) (sa_cons (se_var 5) (sa_nil))) (szl rfl))))))))
theorem cal_15 (NS : Ns K mg) (n : Nat) (ih : IH c P w mg base n) : Cal (L.gx K c) P w mg base (lv (n + 1)) ((.g "_law_pool" : Pth).ad K) (run (n + 1) 15) := by
  obtain ⟨M⟩ := c.fn 15 rfl
  have hv : M.dvs = [] := List.eq_nil_of_length_eq_zero (by rw [← (M.rd ⟨[], []⟩ fun _ => none).length]; rfl)
  exact cal_defD (ok_15 NS n ih M) rfl (fun j hj => ⟨[], by rw [hv]; cases j <;> exact .nil, FunD.bindsN (ps := ["_law_script", "_law_k"]) (hv ▸ M.F) fun _ _ _ _ _ _ us hl => match us, hl with | [_, _], _ => rfl⟩) M.rd
abbrev N_16 : List Str := ["_law_pool_here", "_law_wide", "_law_result"]
theorem sc_16 : FnScope N_16 ["_law_pool_here", "_law_wide"] (defScope s_16) := ⟨rfl, rfl, rfl, by decide +kernel, rfl, by decide +kernel, by decide +kernel⟩
theorem ok_16 (NS : Ns K mg) (n : Nat) (ih : IH c P w mg base n) (M : FnM (L.gx K c) ⟨.g "_law_take", "_law_take", "_law_take", s_16, []⟩) : FnOk P w (L.gx K c).K mg base (L2.CX P w) (lv n + 1 + 1) ((.g "_law_take" : Pth).ad (L.gx K c).K) M.fd ["_law_pool_here", "_law_wide"] (spF (L.gx K c) (bodyRun N_16.length (m_16 (run n))) (["_law_pool_here", "_law_wide"] : List Str).length) := by
  refine fnd_ok (G := L.gx K c) (k := lv n + 1) (ms := m_16 (run n)) M.F sc_16 fun cdv A outer s H E hr cc => ?_
  exact sss_cons (ss_if (st_cmp ops_gt (se_ix (ixs_item cc) (se_var 0) (se_int)) (se_int)) (sss_cons (ss_set (i := 2) cc.nd rfl (by first | exact Or.inl rfl | exact Or.inr rfl) (se_bin ops_mod (se_callTy (fns_int) rfl (NS.free c 3) (by decide +kernel) (sa_cons (se_ix (ixs_item cc) (se_var 0) (se_int)) (sa_nil))) (se_var 1)))
    (sss_cons (ss_asg (se_bin ops_div (se_ix (ixs_item cc) (se_var 0) (se_int)) (se_var 1)) (sg_sub (W := WF E) (se_var 0) (se_int) sts_list))
    (sss_one (ss_ret (se_var 2))))) (sss_nil))
    (sss_cons (ss_asg (se_bin ops_mod (se_callTy (fns_int) rfl (NS.free c 3) (by decide +kernel) (sa_cons (se_bin (oAdd_ok cc hr ih) (se_bin (oMul_ok cc hr ih) (se_ix (ixs_item cc) (se_var 0) (se_int)) (se_int)) (se_int)) (sa_nil))) (se_int)) (sg_sub (W := WF E) (se_var 0) (se_int) sts_list))
    (sss_one (ss_ret (se_bin ops_mod (se_bin ops_div (se_bin ops_mod (se_callTy (fns_int) rfl (NS.free c 3) (by decide +kernel) (sa_cons (se_bin (oMul_ok cc hr ih) (se_ix (ixs_item cc) (se_var 0) (se_int)) (se_ix (ixs_item cc) (se_var 0) (se_int))) (sa_nil))) (se_int)) (se_int)) (se_var 1)))))
theorem cal_16 (NS : Ns K mg) (n : Nat) (ih : IH c P w mg base n) : Cal (L.gx K c) P w mg base (lv (n + 1)) ((.g "_law_take" : Pth).ad K) (run (n + 1) 16) := by
  obtain ⟨M⟩ := c.fn 16 rfl
  have hv : M.dvs = [] := List.eq_nil_of_length_eq_zero (by rw [← (M.rd ⟨[], []⟩ fun _ => none).length]; rfl)
  exact cal_defD (ok_16 NS n ih M) rfl (fun j hj => ⟨[], by rw [hv]; cases j <;> exact .nil, FunD.bindsN (ps := ["_law_pool_here", "_law_wide"]) (hv ▸ M.F) fun _ _ _ _ _ _ us hl => match us, hl with | [_, _], _ => rfl⟩) M.rd
abbrev N_17 : List Str := ["_law_pool_here", "_law_levels", "_law_turn", "_law_sets", "_law_ways", "_law_rule"]
theorem sc_17 : FnScope N_17 ["_law_pool_here"] (defScope s_17) := ⟨rfl, rfl, rfl, by decide +kernel, rfl, by decide +kernel, by decide +kernel⟩
theorem ok_17 (NS : Ns K mg) (n : Nat) (ih : IH c P w mg base n) (M : FnM (L.gx K c) ⟨.g "_law_cache", "_law_cache", "_law_cache", s_17, []⟩) : FnOk P w (L.gx K c).K mg base (L2.CX P w) (lv n + 1 + 1) ((.g "_law_cache" : Pth).ad (L.gx K c).K) M.fd ["_law_pool_here"] (spF (L.gx K c) (bodyRun N_17.length (m_17 (run n))) (["_law_pool_here"] : List Str).length) := by
  refine fnd_ok (G := L.gx K c) (k := lv n + 1) (ms := m_17 (run n)) M.F sc_17 fun cdv A outer s H E hr cc => ?_
  exact sss_cons (ss_set (i := 1) cc.nd rfl (by first | exact Or.inl rfl | exact Or.inr rfl) (se_lst (sa_nil) (szl rfl)))
    (sss_cons (ss_for 1000 cc (si_range1 (sa_cons (se_bin (oAdd_ok cc hr ih) (se_int) (se_call (fns_cal cc (ih.1 16 rfl rfl) (hr.mono (Nat.le_succ _))) rfl (NS.glo c 28) (keep_of c 28) (sa_cons (se_var 0) (sa_cons (se_int) (sa_nil))))) (sa_nil)) rfl (NS.free c 29)) (sg_name cc.nd rfl (by first | exact Or.inl rfl | exact Or.inr rfl)) (sss_cons (ss_par (i := 3) (j := 4) cc.calm cc.nd rfl rfl (by decide) rfl rfl (sa_cons (se_ix (ixs_item cc) (se_lv (sa_cons (se_int) (sa_cons (se_int) (sa_cons (se_int) (sa_cons (se_int) (sa_cons (se_int) (sa_nil)))))) (szl rfl)) (se_call (fns_cal cc (ih.1 16 rfl rfl) (hr.mono (Nat.le_succ _))) rfl (NS.glo c 28) (keep_of c 28) (sa_cons (se_var 0) (sa_cons (se_int) (sa_nil))))) (sa_cons (se_ix (ixs_item cc) (se_lv (sa_cons (se_int) (sa_cons (se_int) (sa_cons (se_int) (sa_cons (se_int) (sa_cons (se_int) (sa_nil)))))) (szl rfl)) (se_call (fns_cal cc (ih.1 16 rfl rfl) (hr.mono (Nat.le_succ _))) rfl (NS.glo c 28) (keep_of c 28) (sa_cons (se_var 0) (sa_cons (se_int) (sa_nil))))) (sa_nil))))
    (sss_cons (ss_set (i := 5) cc.nd rfl (by first | exact Or.inl rfl | exact Or.inr rfl) (se_ix (ixs_item cc) (se_lv (sa_cons (se_str [117, 115, 101, 100]) (sa_cons (se_str [98, 114, 111, 117, 103, 104, 116]) (sa_cons (se_str [115, 101, 99, 111, 110, 100]) (sa_cons (se_str [116, 114, 101, 101]) (sa_nil))))) (szl rfl)) (se_call (fns_cal cc (ih.1 16 rfl rfl) (hr.mono (Nat.le_succ _))) rfl (NS.glo c 28) (keep_of c 28) (sa_cons (se_var 0) (sa_cons (se_int) (sa_nil))))))
    (sss_cons (ss_set (i := 4) cc.nd rfl (by first | exact Or.inl rfl | exact Or.inr rfl) (se_if (st_w (sw_and (st_cmp (oEq_ok cc hr ih) (se_var 5) (se_str [116, 114, 101, 101])) (sw_and1 (st_cmp (oEq_ok cc hr ih) (se_var 4) (se_int))))) (se_int) (se_var 4)))
    (sss_one (ss_expr (se_bm PySem.F.plainAttrs_list PySem.F.slot_list_append PySem.F.type_list_append mts_append (ck_list cc) (se_var 1) (sa_cons (se_tup (sa_cons (se_var 3) (sa_cons (se_var 4) (sa_cons (se_var 5) (sa_cons (se_ix (ixs_item cc) (se_lv (sa_cons (se_str [98, 97, 99, 107]) (sa_cons (se_str [98, 97, 99, 107]) (sa_cons (se_str [116, 104, 114, 111, 117, 103, 104]) (sa_nil)))) (szl rfl)) (se_call (fns_cal cc (ih.1 16 rfl rfl) (hr.mono (Nat.le_succ _))) rfl (NS.glo c 28) (keep_of c 28) (sa_cons (se_var 0) (sa_cons (se_int) (sa_nil))))) (sa_nil))))) (szl rfl)) (sa_nil)))))))))
    (sss_one (ss_ret (se_tup (sa_cons (se_ix (ixs_item cc) (se_lv (sa_cons (se_int) (sa_cons (se_int) (sa_cons (se_int) (sa_cons (se_int) (sa_nil))))) (szl rfl)) (se_call (fns_cal cc (ih.1 16 rfl rfl) (hr.mono (Nat.le_succ _))) rfl (NS.glo c 28) (keep_of c 28) (sa_cons (se_var 0) (sa_cons (se_int) (sa_nil))))) (sa_cons (se_callTy (fns_tuple cc) rfl (NS.free c 7) (by decide +kernel) (sa_cons (se_var 1) (sa_nil))) (sa_nil))) (szl rfl)))))
theorem cal_17 (NS : Ns K mg) (n : Nat) (ih : IH c P w mg base n) : Cal (L.gx K c) P w mg base (lv (n + 1)) ((.g "_law_cache" : Pth).ad K) (run (n + 1) 17) := by
  obtain ⟨M⟩ := c.fn 17 rfl
  have hv : M.dvs = [] := List.eq_nil_of_length_eq_zero (by rw [← (M.rd ⟨[], []⟩ fun _ => none).length]; rfl)
  exact cal_defD (ok_17 NS n ih M) rfl (fun j hj => ⟨[], by rw [hv]; cases j <;> exact .nil, FunD.bindsN (ps := ["_law_pool_here"]) (hv ▸ M.F) fun _ _ _ _ _ _ us hl => match us, hl with | [_], _ => rfl⟩) M.rd
abbrev N_18 : List Str := ["_law_line", "_law_levels", "e"]
theorem sc_18 : FnScope N_18 ["_law_line", "_law_levels"] (defScope s_18) := ⟨rfl, rfl, rfl, by decide +kernel, rfl, by decide +kernel, by decide +kernel⟩
theorem ok_18 (NS : Ns K mg) (n : Nat) (ih : IH c P w mg base n) (M : FnM (L.gx K c) ⟨.g "_law_heard", "_law_heard", "_law_heard", s_18, []⟩) : FnG P w (L.gx K c).K mg base (L2.CX P w) (lv n + 1 + 1) ((.g "_law_heard" : Pth).ad (L.gx K c).K) M.fd ["_law_line", "_law_levels"] (spF (L.gx K c) (bodyRun N_18.length (m_18 (run n))) (["_law_line", "_law_levels"] : List Str).length) := by
  refine fndG_ok (G := L.gx K c) (k := lv n + 1) (ms := m_18 (run n)) M.F sc_18 fun cdv A outer s H E hr ng cc => ?_
  exact sss_one (ss_try cc (isxL_ok c) rfl rfl (fun _ _ _ cc => sss_cons (ss_expr (se_call (fns_make cc (cls_of c 0 rfl) (mk_of c 30 rfl) (ih.1 8 rfl rfl) hr) rfl (NS.glo c 27) (keep_of c 27) (sa_cons (se_var 0) (sa_cons (se_var 1) (sa_nil)))))
    (sss_one (ss_ret (se_lv (sa_cons (se_str [102, 105, 110, 101]) (sa_nil)) (szl rfl))))) (ClS.named ⟨rfl, rfl, .inl (NS.glo c 18)⟩ (clsv_of c 4 rfl) rfl rfl (sx_lv (sxa_cons (sx_c fun _ _ _ => se_str [99, 97, 99, 104, 101]) (sxa_cons (sx_fn (fun _ _ _ => fns_repr 8 cc.k ng (by have h := hu_of2 hr; exact h)) rfl (NS.free c 31) (by decide +kernel) (sxa_cons (sx_fL (j := 2) 4 0 16 17 cc.k rfl rfl rfl rfl rfl (by first | exact Or.inl rfl | exact Or.inr (Or.inl rfl) | exact Or.inr (Or.inr rfl))) sxa_nil)) (sxa_nil)))) (ClS.named ⟨rfl, rfl, .inl (NS.glo c 25)⟩ (clsv_of c 3 rfl) rfl rfl (sx_lv (sxa_cons (sx_c fun _ _ _ => se_str [108, 97, 114, 103, 101]) (sxa_cons (sx_fL (j := 2) 3 1 23 24 cc.k rfl rfl rfl rfl rfl (by first | exact Or.inl rfl | exact Or.inr (Or.inl rfl) | exact Or.inr (Or.inr rfl))) (sxa_nil)))) (ClS.nil))))
theorem cal_18 (NS : Ns K mg) (n : Nat) (ih : IH c P w mg base n) : CalG (L.gx K c) P w mg base (lv (n + 1)) ((.g "_law_heard" : Pth).ad K) (run (n + 1) 18) := by
  obtain ⟨M⟩ := c.fn 18 rfl
  have hv : M.dvs = [] := List.eq_nil_of_length_eq_zero (by rw [← (M.rd ⟨[], []⟩ fun _ => none).length]; rfl)
  exact calG_defD (ok_18 NS n ih M) rfl (fun j hj => ⟨[], by rw [hv]; cases j <;> exact .nil, FunD.bindsN (ps := ["_law_line", "_law_levels"]) (hv ▸ M.F) fun _ _ _ _ _ _ us hl => match us, hl with | [_, _], _ => rfl⟩) M.rd
abbrev N_19 : List Str := ["_law_pool_here", "_law_found"]
theorem sc_19 : FnScope N_19 ["_law_pool_here"] (defScope s_19) := ⟨rfl, rfl, rfl, by decide +kernel, rfl, by decide +kernel, by decide +kernel⟩
theorem ok_19 (NS : Ns K mg) (n : Nat) (ih : IH c P w mg base n) (M : FnM (L.gx K c) ⟨.g "_law_odd", "_law_odd", "_law_odd", s_19, []⟩) : FnOk P w (L.gx K c).K mg base (L2.CX P w) (lv n + 1 + 1) ((.g "_law_odd" : Pth).ad (L.gx K c).K) M.fd ["_law_pool_here"] (spF (L.gx K c) (bodyRun N_19.length (m_19 (run n))) (["_law_pool_here"] : List Str).length) := by
  refine fnd_ok (G := L.gx K c) (k := lv n + 1) (ms := m_19 (run n)) M.F sc_19 fun cdv A outer s H E hr cc => ?_
  exact sss_cons (ss_set (i := 1) cc.nd rfl (by first | exact Or.inl rfl | exact Or.inr rfl) (se_lst (sa_cons (se_non) (sa_cons (se_tup (sa_nil) (szl rfl)) (sa_cons (se_lv (sa_cons (se_int) (sa_cons (se_int) (sa_cons (se_str [117, 115, 101, 100]) (sa_cons (se_str [98, 97, 99, 107]) (sa_nil))))) (szl rfl)) (sa_cons (se_tup (sa_cons (se_int) (sa_cons (se_int) (sa_cons (se_str [117, 115, 101, 100]) (sa_nil)))) (szl rfl)) (sa_cons (se_tup (sa_cons (se_int) (sa_cons (se_int) (sa_cons (se_str [117, 115, 101, 100]) (sa_cons (se_str [98, 97, 99, 107]) (sa_cons (se_int) (sa_nil)))))) (szl rfl)) (sa_cons (se_tup (sa_cons (se_int) (sa_cons (se_int) (sa_cons (se_str [117, 115, 101, 100]) (sa_cons (se_str [98, 97, 99, 107]) (sa_nil))))) (szl rfl)) (sa_nil))))))) (szl rfl)))
    (sss_cons (ss_set (i := 1) cc.nd rfl (by first | exact Or.inl rfl | exact Or.inr rfl) (se_bin (oAdd_ok cc hr ih) (se_var 1) (se_lv (sa_cons (se_tup (sa_cons (se_int) (sa_cons (se_int) (sa_cons (se_str [117, 115, 101, 100]) (sa_cons (se_str [98, 97, 99, 107]) (sa_nil))))) (szl rfl)) (sa_cons (se_tup (sa_cons (se_bl) (sa_cons (se_int) (sa_cons (se_str [117, 115, 101, 100]) (sa_cons (se_str [98, 97, 99, 107]) (sa_nil))))) (szl rfl)) (sa_cons (se_tup (sa_cons (se_int) (sa_cons (se_int) (sa_cons (se_str [117, 115, 101, 100]) (sa_cons (se_str [98, 97, 99, 107]) (sa_nil))))) (szl rfl)) (sa_nil)))) (szl rfl))))
    (sss_cons (ss_expr (se_bm PySem.F.plainAttrs_list PySem.F.slot_list_append PySem.F.type_list_append mts_append (ck_list cc) (se_var 1) (sa_cons (se_tup (sa_cons (se_str [50]) (sa_cons (se_int) (sa_cons (se_str [117, 115, 101, 100]) (sa_cons (se_str [98, 97, 99, 107]) (sa_nil))))) (szl rfl)) (sa_nil))))
    (sss_cons (ss_set (i := 1) cc.nd rfl (by first | exact Or.inl rfl | exact Or.inr rfl) (se_bin (oAdd_ok cc hr ih) (se_var 1) (se_lv (sa_cons (se_tup (sa_cons (se_int) (sa_cons (se_int) (sa_cons (se_str [117, 115, 101, 100]) (sa_cons (se_str [98, 97, 99, 107]) (sa_nil))))) (szl rfl)) (sa_cons (se_tup (sa_cons (se_int) (sa_cons (se_non) (sa_cons (se_str [117, 115, 101, 100]) (sa_cons (se_str [98, 97, 99, 107]) (sa_nil))))) (szl rfl)) (sa_cons (se_tup (sa_cons (se_int) (sa_cons (se_int) (sa_cons (se_str [116, 114, 101, 101]) (sa_cons (se_str [98, 97, 99, 107]) (sa_nil))))) (szl rfl)) (sa_cons (se_tup (sa_cons (se_int) (sa_cons (se_int) (sa_cons (se_str [108, 114, 117]) (sa_cons (se_str [98, 97, 99, 107]) (sa_nil))))) (szl rfl)) (sa_nil))))) (szl rfl))))
    (sss_cons (ss_set (i := 1) cc.nd rfl (by first | exact Or.inl rfl | exact Or.inr rfl) (se_bin (oAdd_ok cc hr ih) (se_var 1) (se_lv (sa_cons (se_tup (sa_cons (se_int) (sa_cons (se_int) (sa_cons (se_non) (sa_cons (se_str [98, 97, 99, 107]) (sa_nil))))) (szl rfl)) (sa_cons (se_tup (sa_cons (se_int) (sa_cons (se_int) (sa_cons (se_str [117, 115, 101, 100]) (sa_cons (se_str [66, 97, 99, 107]) (sa_nil))))) (szl rfl)) (sa_cons (se_tup (sa_cons (se_int) (sa_cons (se_int) (sa_cons (se_str [117, 115, 101, 100]) (sa_cons (se_non) (sa_nil))))) (szl rfl)) (sa_cons (se_tup (sa_cons (se_int) (sa_cons (se_int) (sa_cons (se_lv (sa_cons (se_str [117, 115, 101, 100]) (sa_nil)) (szl rfl)) (sa_cons (se_str [98, 97, 99, 107]) (sa_nil))))) (szl rfl)) (sa_nil))))) (szl rfl))))
    (sss_cons (ss_set (i := 1) cc.nd rfl (by first | exact Or.inl rfl | exact Or.inr rfl) (se_bin (oAdd_ok cc hr ih) (se_var 1) (se_lv (sa_cons (se_tup (sa_cons (se_int) (sa_cons (se_int) (sa_cons (se_str [117, 115, 101, 100]) (sa_cons (se_tup (sa_cons (se_str [98, 97, 99, 107]) (sa_nil)) (szl rfl)) (sa_nil))))) (szl rfl)) (sa_cons (se_tup (sa_cons (se_un (oNeg_ok cc hr ih) (se_int)) (sa_cons (se_int) (sa_cons (se_str [117, 115, 101, 100]) (sa_cons (se_str [98, 97, 99, 107]) (sa_nil))))) (szl rfl)) (sa_cons (se_int) (sa_cons (se_str [108, 101, 118, 101, 108]) (sa_cons (se_tup (sa_cons (se_int) (sa_cons (se_int) (sa_cons (se_str [117, 115, 101, 100]) (sa_cons (se_str [117, 115, 101, 100]) (sa_nil))))) (szl rfl)) (sa_nil)))))) (szl rfl))))
    (sss_one (ss_ret (se_ix (ixs_item cc) (se_var 1) (se_call (fns_cal cc (ih.1 16 rfl rfl) (hr.mono (Nat.le_succ _))) rfl (NS.glo c 28) (keep_of c 28) (sa_cons (se_var 0) (sa_cons (se_callB (FnS.or (fns_len cc) (fns_lenO (dLen_ok cc hr ih))) rfl (NS.free c 8) (by decide +kernel) (sa_cons (se_var 1) (sa_nil))) (sa_nil))))))))))))
theorem cal_19 (NS : Ns K mg) (n : Nat) (ih : IH c P w mg base n) : Cal (L.gx K c) P w mg base (lv (n + 1)) ((.g "_law_odd" : Pth).ad K) (run (n + 1) 19) := by
  obtain ⟨M⟩ := c.fn 19 rfl
  have hv : M.dvs = [] := List.eq_nil_of_length_eq_zero (by rw [← (M.rd ⟨[], []⟩ fun _ => none).length]; rfl)
  exact cal_defD (ok_19 NS n ih M) rfl (fun j hj => ⟨[], by rw [hv]; cases j <;> exact .nil, FunD.bindsN (ps := ["_law_pool_here"]) (hv ▸ M.F) fun _ _ _ _ _ _ us hl => match us, hl with | [_], _ => rfl⟩) M.rd
abbrev N_20 : List Str := ["_law_levels", "_law_found", "_law_sets", "_law_ways", "_law_rule", "_law_writes", "_law_many"]
theorem sc_20 : FnScope N_20 ["_law_levels"] (defScope s_20) := ⟨rfl, rfl, rfl, by decide +kernel, rfl, by decide +kernel, by decide +kernel⟩
theorem ok_20 (NS : Ns K mg) (n : Nat) (ih : IH c P w mg base n) (M : FnM (L.gx K c) ⟨.g "_law_together", "_law_together", "_law_together", s_20, []⟩) : FnOk P w (L.gx K c).K mg base (L2.CX P w) (lv n + 1 + 1) ((.g "_law_together" : Pth).ad (L.gx K c).K) M.fd ["_law_levels"] (spF (L.gx K c) (bodyRun N_20.length (m_20 (run n))) (["_law_levels"] : List Str).length) := by
  refine fnd_ok (G := L.gx K c) (k := lv n + 1) (ms := m_20 (run n)) M.F sc_20 fun cdv A outer s H E hr cc => ?_
  exact sss_cons (ss_set (i := 1) cc.nd rfl (by first | exact Or.inl rfl | exact Or.inr rfl) (se_int))
    (sss_cons (ss_for 1000 cc (si_seq cc (se_var 0)) (sg_tup cc (sgs_cons (sg_name cc.nd rfl (by first | exact Or.inl rfl | exact Or.inr rfl)) (sgs_cons (sg_name cc.nd rfl (by first | exact Or.inl rfl | exact Or.inr rfl)) (sgs_cons (sg_name cc.nd rfl (by first | exact Or.inl rfl | exact Or.inr rfl)) (sgs_cons (sg_name cc.nd rfl (by first | exact Or.inl rfl | exact Or.inr rfl)) (sgs_nil)))))) (sss_one (ss_set (i := 1) cc.nd rfl (by first | exact Or.inl rfl | exact Or.inr rfl) (se_ix (ixs_item cc) (se_lcc (own := [("_law_many", 6)]) (t := (.one 6)) 1000 cc (si_range2 (sa_cons (se_int) (sa_cons (se_int) (sa_nil))) rfl (NS.free c 29)) (blkOk_by (N := N_20) (sc := defScope s_20) (by decide +kernel)) (by decide) (fun _ _ _ _ _ cc => pg_name cc.nd rfl (by first | exact Or.inl rfl | exact Or.inr rfl)) (fun _ _ _ _ _ cc => sts_one (st_w (sw_and (st_cmp (oEq_ok cc hr ih) (se_bin ops_mod (se_var 6) (se_var 1)) (se_int)) (sw_and1 (st_cmp (oEq_ok cc hr ih) (se_bin ops_mod (se_var 6) (se_var 2)) (se_int)))))) (fun _ _ _ _ _ cc => se_var 6)) (se_int)))))
    (sss_one (ss_ret (se_var 1))))
theorem cal_20 (NS : Ns K mg) (n : Nat) (ih : IH c P w mg base n) : Cal (L.gx K c) P w mg base (lv (n + 1)) ((.g "_law_together" : Pth).ad K) (run (n + 1) 20) := by
  obtain ⟨M⟩ := c.fn 20 rfl
  have hv : M.dvs = [] := List.eq_nil_of_length_eq_zero (by rw [← (M.rd ⟨[], []⟩ fun _ => none).length]; rfl)
  exact cal_defD (ok_20 NS n ih M) rfl (fun j hj => ⟨[], by rw [hv]; cases j <;> exact .nil, FunD.bindsN (ps := ["_law_levels"]) (hv ▸ M.F) fun _ _ _ _ _ _ us hl => match us, hl with | [_], _ => rfl⟩) M.rd
abbrev N_21 : List Str := ["_law_script", "_law_odd_here", "_law_k", "_law_pool_here", "_law_line", "_law_levels", "_law_made", "_law_together_here", "_law_last", "_law_turn", "_law_at", "_law_bent", "_law_sets", "_law_wide", "_law_wider", "_law_due"]
theorem sc_21 : FnScope N_21 ["_law_script"] (defScope s_21) := ⟨rfl, rfl, rfl, by decide +kernel, rfl, by decide +kernel, by decide +kernel⟩
theorem ok_21 (NS : Ns K mg) (n : Nat) (ih : IH c P w mg base n) (M : FnM (L.gx K c) ⟨.g "law", "law", "law", s_21, []⟩) : FnG P w (L.gx K c).K mg base (L2.CX P w) (lv n + 1 + 1) ((.g "law" : Pth).ad (L.gx K c).K) M.fd ["_law_script"] (spF (L.gx K c) (bodyRun N_21.length (m_21 (run n))) (["_law_script"] : List Str).length) := by
  refine fndG_ok (G := L.gx K c) (k := lv n + 1) (ms := m_21 (run n)) M.F sc_21 fun cdv A outer s H E hr ng cc => ?_
  exact sss_cons (ss_for 1000 cc (si_seq cc (se_lv (sa_cons (se_non) (sa_cons (se_int) (sa_cons (se_int) (sa_cons (se_un (oNeg_ok cc hr ih) (se_int)) (sa_cons (se_bl) (sa_cons (se_str [50]) (sa_cons (se_int) (sa_cons (se_lv (sa_cons (se_int) (sa_nil)) (szl rfl)) (sa_nil))))))))) (szl rfl))) (sg_name cc.nd rfl (by first | exact Or.inl rfl | exact Or.inr rfl)) (sss_one (ss_if (st_cmp (oNe_ok cc hr ih) (se_call (fns_calG cc ng (ih.2 18 rfl) (hr.mono (Nat.le_succ _))) rfl (NS.glo c 32) (keep_of c 32) (sa_cons (se_var 1) (sa_cons (se_non) (sa_nil)))) (se_lv (sa_cons (se_str [99, 97, 99, 104, 101]) (sa_cons (se_callB (fns_repr 8 cc.k ng (hu_of hr)) rfl (NS.free c 31) (by decide +kernel) (sa_cons (se_var 1) (sa_nil))) (sa_nil))) (szl rfl))) (sss_one (ss_ret (se_bl))) (sss_nil))))
    (sss_cons (ss_for 1000 cc (si_range1 (sa_cons (se_callB (fns_max2 cc) rfl (NS.free c 34) (by decide +kernel) (sa_cons (se_int) (sa_cons (se_callB (fns_min2 cc) rfl (NS.free c 33) (by decide +kernel) (sa_cons (se_callB (FnS.or (fns_len cc) (fns_lenO (dLen_ok cc hr ih))) rfl (NS.free c 8) (by decide +kernel) (sa_cons (se_var 0) (sa_nil))) (sa_cons (se_int) (sa_nil)))) (sa_nil)))) (sa_nil)) rfl (NS.free c 29)) (sg_name cc.nd rfl (by first | exact Or.inl rfl | exact Or.inr rfl)) (sss_cons (ss_set (i := 3) cc.nd rfl (by first | exact Or.inl rfl | exact Or.inr rfl) (se_call (fns_cal cc (ih.1 15 rfl rfl) (hr.mono (Nat.le_succ _))) rfl (NS.glo c 35) (keep_of c 35) (sa_cons (se_var 0) (sa_cons (se_var 2) (sa_nil)))))
    (sss_cons (ss_asg (se_call (fns_cal cc (ih.1 17 rfl rfl) (hr.mono (Nat.le_succ _))) rfl (NS.glo c 36) (keep_of c 36) (sa_cons (se_var 3) (sa_nil))) (sg_tup cc (sgs_cons (sg_name cc.nd rfl (by first | exact Or.inl rfl | exact Or.inr rfl)) (sgs_cons (sg_name cc.nd rfl (by first | exact Or.inl rfl | exact Or.inr rfl)) (sgs_nil)))))
    (sss_cons (ss_set (i := 6) cc.nd rfl (by first | exact Or.inl rfl | exact Or.inr rfl) (se_call (fns_make cc (cls_of c 0 rfl) (mk_of c 30 rfl) (ih.1 8 rfl rfl) hr) rfl (NS.glo c 27) (keep_of c 27) (sa_cons (se_var 4) (sa_cons (se_var 5) (sa_nil)))))
    (sss_cons (ss_set (i := 7) cc.nd rfl (by first | exact Or.inl rfl | exact Or.inr rfl) (se_call (fns_cal cc (ih.1 20 rfl rfl) (hr.mono (Nat.le_succ _))) rfl (NS.glo c 37) (keep_of c 37) (sa_cons (se_var 5) (sa_nil))))
    (sss_cons (ss_if (st_cmp (oNe_ok cc hr ih) (se_lv (sa_cons (se_attr cc (se_var 6) rfl (at_line_f cc) (at_line_p cc hr ih)) (sa_cons (se_attr cc (se_var 6) rfl (at_levels_f cc) (at_levels_p cc hr ih)) (sa_cons (se_attr cc (se_var 6) rfl (at_sets_together_f cc) (at_sets_together_p cc hr ih)) (sa_cons (se_attr cc (se_var 6) rfl (at_period_f cc) (at_period_p cc hr ih)) (sa_nil))))) (szl rfl)) (se_lv (sa_cons (se_var 4) (sa_cons (se_var 5) (sa_cons (se_var 7) (sa_cons (se_bin (oMul_ok cc hr ih) (se_var 4) (se_var 7)) (sa_nil))))) (szl rfl))) (sss_one (ss_ret (se_bl))) (sss_nil))
    (sss_cons (ss_if (st_w (sw_or (st_cmp (oNe_ok cc hr ih) (se_callB (FnS.or (fns_len cc) (fns_lenO (dLen_ok cc hr ih))) rfl (NS.free c 8) (by decide +kernel) (sa_cons (se_var 6) (sa_nil))) (se_callB (FnS.or (fns_len cc) (fns_lenO (dLen_ok cc hr ih))) rfl (NS.free c 8) (by decide +kernel) (sa_cons (se_var 5) (sa_nil)))) (sw_or (st_cmp (oNe_ok cc hr ih) (se_var 6) (se_call (fns_make cc (cls_of c 0 rfl) (mk_of c 30 rfl) (ih.1 8 rfl rfl) hr) rfl (NS.glo c 27) (keep_of c 27) (sa_cons (se_var 4) (sa_cons (se_var 5) (sa_nil))))) (sw_or (st_cmp (oEq_ok cc hr ih) (se_var 6) (se_tup (sa_cons (se_var 4) (sa_cons (se_var 5) (sa_nil))) (szl rfl))) (sw_or1 (st_cmp (oEq_ok cc hr ih) (se_var 6) (se_non))))))) (sss_one (ss_ret (se_bl))) (sss_nil))
    (sss_cons (ss_set (i := 8) cc.nd rfl (by first | exact Or.inl rfl | exact Or.inr rfl) (se_bin (oAdd_ok cc hr ih) (se_slice cc (se_ix (ixs_item cc) (se_var 5) (se_un (oNeg_ok cc hr ih) (se_int))) (so_none) (so_some (se_int))) (se_tup (sa_cons (se_ix (ixs_item cc) (se_lv (sa_cons (se_str [98, 97, 99, 107]) (sa_cons (se_str [116, 104, 114, 111, 117, 103, 104]) (sa_nil))) (szl rfl)) (se_callTy (fns_int) rfl (NS.free c 3) (by decide +kernel) (sa_cons (se_cmp (oEq_ok cc hr ih) (se_ix (ixs_item cc) (se_ix (ixs_item cc) (se_var 5) (se_un (oNeg_ok cc hr ih) (se_int))) (se_int)) (se_str [98, 97, 99, 107])) (sa_nil)))) (sa_nil)) (szl rfl))))
    (sss_cons (ss_if (st_w (sw_or (st_cmp (oEq_ok cc hr ih) (se_var 6) (se_call (fns_make cc (cls_of c 0 rfl) (mk_of c 30 rfl) (ih.1 8 rfl rfl) hr) rfl (NS.glo c 27) (keep_of c 27) (sa_cons (se_bin (oAdd_ok cc hr ih) (se_bin ops_mod (se_var 4) (se_int)) (se_int)) (sa_cons (se_var 5) (sa_nil))))) (sw_or1 (st_cmp (oEq_ok cc hr ih) (se_var 6) (se_call (fns_make cc (cls_of c 0 rfl) (mk_of c 30 rfl) (ih.1 8 rfl rfl) hr) rfl (NS.glo c 27) (keep_of c 27) (sa_cons (se_var 4) (sa_cons (se_bin (oAdd_ok cc hr ih) (se_slice cc (se_var 5) (so_none) (so_some (se_un (oNeg_ok cc hr ih) (se_int)))) (se_tup (sa_cons (se_var 8) (sa_nil)) (szl rfl))) (sa_nil)))))))) (sss_one (ss_ret (se_bl))) (sss_nil))
    (sss_cons (ss_for 1000 cc (si_range1 (sa_cons (se_int) (sa_nil)) rfl (NS.free c 29)) (sg_name cc.nd rfl (by first | exact Or.inl rfl | exact Or.inr rfl)) (sss_cons (ss_par (i := 10) (j := 1) cc.calm cc.nd rfl rfl (by decide) rfl rfl (sa_cons (se_call (fns_cal cc (ih.1 16 rfl rfl) (hr.mono (Nat.le_succ _))) rfl (NS.glo c 28) (keep_of c 28) (sa_cons (se_var 3) (sa_cons (se_callB (FnS.or (fns_len cc) (fns_lenO (dLen_ok cc hr ih))) rfl (NS.free c 8) (by decide +kernel) (sa_cons (se_var 5) (sa_nil))) (sa_nil)))) (sa_cons (se_call (fns_cal cc (ih.1 19 rfl rfl) (hr.mono (Nat.le_succ _))) rfl (NS.glo c 38) (keep_of c 38) (sa_cons (se_var 3) (sa_nil))) (sa_nil))))
    (sss_cons (ss_set (i := 11) cc.nd rfl (by first | exact Or.inl rfl | exact Or.inr rfl) (se_bin (oAdd_ok cc hr ih) (se_bin (oAdd_ok cc hr ih) (se_slice cc (se_var 5) (so_none) (so_some (se_var 10))) (se_tup (sa_cons (se_var 1) (sa_nil)) (szl rfl))) (se_slice cc (se_var 5) (so_some (se_bin (oAdd_ok cc hr ih) (se_var 10) (se_int))) (so_none))))
    (sss_one (ss_if (st_cmp (oNe_ok cc hr ih) (se_call (fns_calG cc ng (ih.2 18 rfl) (hr.mono (Nat.le_succ _))) rfl (NS.glo c 32) (keep_of c 32) (sa_cons (se_var 4) (sa_cons (se_var 11) (sa_nil)))) (se_lv (sa_cons (se_str [99, 97, 99, 104, 101]) (sa_cons (se_callB (fns_repr 8 cc.k ng (hu_of hr)) rfl (NS.free c 31) (by decide +kernel) (sa_cons (se_var 1) (sa_nil))) (sa_nil))) (szl rfl))) (sss_one (ss_ret (se_bl))) (sss_nil))))))
    (sss_cons (ss_for 1000 cc (si_seq cc (se_lv (sa_cons (se_non) (sa_cons (se_tup (sa_nil) (szl rfl)) (sa_cons (se_callTy (fns_listv cc) rfl (NS.free c 39) (by decide +kernel) (sa_cons (se_var 5) (sa_nil))) (sa_cons (se_bin (oMul_ok cc hr ih) (se_slice cc (se_var 5) (so_none) (so_some (se_int))) (se_int)) (sa_cons (se_int) (sa_cons (se_str [108, 105, 110, 101]) (sa_nil))))))) (szl rfl))) (sg_name cc.nd rfl (by first | exact Or.inl rfl | exact Or.inr rfl)) (sss_one (ss_if (st_cmp (oNe_ok cc hr ih) (se_call (fns_calG cc ng (ih.2 18 rfl) (hr.mono (Nat.le_succ _))) rfl (NS.glo c 32) (keep_of c 32) (sa_cons (se_var 4) (sa_cons (se_var 1) (sa_nil)))) (se_lv (sa_cons (se_str [99, 97, 99, 104, 101]) (sa_cons (se_callB (fns_repr 8 cc.k ng (hu_of hr)) rfl (NS.free c 31) (by decide +kernel) (sa_cons (se_var 1) (sa_nil))) (sa_nil))) (szl rfl))) (sss_one (ss_ret (se_bl))) (sss_nil))))
    (sss_cons (ss_set (i := 12) cc.nd rfl (by first | exact Or.inl rfl | exact Or.inr rfl) (se_ix (ixs_item cc) (se_lv (sa_cons (se_int) (sa_cons (se_int) (sa_cons (se_int) (sa_cons (se_int) (sa_nil))))) (szl rfl)) (se_call (fns_cal cc (ih.1 16 rfl rfl) (hr.mono (Nat.le_succ _))) rfl (NS.glo c 28) (keep_of c 28) (sa_cons (se_var 3) (sa_cons (se_int) (sa_nil))))))
    (sss_one (ss_for 1000 cc (si_range2 (sa_cons (se_int) (sa_cons (se_int) (sa_nil))) rfl (NS.free c 29)) (sg_name cc.nd rfl (by first | exact Or.inl rfl | exact Or.inr rfl)) (sss_cons (ss_set (i := 14) cc.nd rfl (by first | exact Or.inl rfl | exact Or.inr rfl) (se_tup (sa_cons (se_tup (sa_cons (se_var 12) (sa_cons (se_int) (sa_cons (se_str [117, 115, 101, 100]) (sa_cons (se_str [98, 97, 99, 107]) (sa_nil))))) (szl rfl)) (sa_cons (se_tup (sa_cons (se_int) (sa_cons (se_int) (sa_cons (se_str [98, 114, 111, 117, 103, 104, 116]) (sa_cons (se_str [116, 104, 114, 111, 117, 103, 104]) (sa_nil))))) (szl rfl)) (sa_nil))) (szl rfl)))
    (sss_cons (ss_set (i := 15) cc.nd rfl (by first | exact Or.inl rfl | exact Or.inr rfl) (se_if (st_cmp ops_gt (se_bin (oMul_ok cc hr ih) (se_var 13) (se_call (fns_cal cc (ih.1 20 rfl rfl) (hr.mono (Nat.le_succ _))) rfl (NS.glo c 37) (keep_of c 37) (sa_cons (se_var 14) (sa_nil)))) (se_int)) (se_lv (sa_cons (se_str [108, 97, 114, 103, 101]) (sa_cons (se_str [112, 101, 114, 105, 111, 100]) (sa_nil))) (szl rfl)) (se_lv (sa_cons (se_str [102, 105, 110, 101]) (sa_nil)) (szl rfl))))
    (sss_one (ss_if (st_cmp (oNe_ok cc hr ih) (se_call (fns_calG cc ng (ih.2 18 rfl) (hr.mono (Nat.le_succ _))) rfl (NS.glo c 32) (keep_of c 32) (sa_cons (se_var 13) (sa_cons (se_var 14) (sa_nil)))) (se_var 15)) (sss_one (ss_ret (se_bl))) (sss_nil)))))))))))))))))))
    (sss_one (ss_ret (se_bl))))
theorem cal_21 (NS : Ns K mg) (n : Nat) (ih : IH c P w mg base n) : CalG (L.gx K c) P w mg base (lv (n + 1)) ((.g "law" : Pth).ad K) (run (n + 1) 21) := by
  obtain ⟨M⟩ := c.fn 21 rfl
  have hv : M.dvs = [] := List.eq_nil_of_length_eq_zero (by rw [← (M.rd ⟨[], []⟩ fun _ => none).length]; rfl)
  exact calG_defD (ok_21 NS n ih M) rfl (fun j hj => ⟨[], by rw [hv]; cases j <;> exact .nil, FunD.bindsN (ps := ["_law_script"]) (hv ▸ M.F) fun _ _ _ _ _ _ us hl => match us, hl with | [_], _ => rfl⟩) M.rd
theorem all (NS : Ns K mg) : ∀ n, IH c P w mg base n
  | 0 => ⟨fun j _ _ _ => cal0, fun j _ _ => calG0⟩
  | n + 1 => by
    have ih := all NS n
    have one : ∀ (j : Nat) {d : DefM}, defs[j]? = some d → isG j = false → Cal (L.gx K c) P w mg base (lv (n + 1)) (d.pth.ad K) (run (n + 1) j) := fun j d h z => by
      match j, h with
      | 0, h => cases h; exact cal0
      | 1, h => cases h; exact cal0
      | 2, h => cases h; exact cal_2 NS n ih
      | 3, h => cases h; exact cal_3 NS n ih
      | 4, h => cases h; exact cal_4 NS n ih
      | 5, h => cases h; exact cal_5 NS n ih
      | 6, h => cases h; exact cal_6 NS n ih
      | 7, h => cases h; exact cal_7 NS n ih
      | 8, h => cases h; exact cal_8 NS n ih
      | 9, h => cases h; exact cal_9 NS n ih
      | 10, h => cases h; exact cal_10 NS n ih
      | 11, h => cases h; exact cal_11 NS n ih
      | 12, h => cases h; exact cal_12 NS n ih
      | 13, h => cases h; exact cal_13 NS n ih
      | 14, h => cases h; exact cal_14 NS n ih
      | 15, h => cases h; exact cal_15 NS n ih
      | 16, h => cases h; exact cal_16 NS n ih
      | 17, h => cases h; exact cal_17 NS n ih
      | 18, h => cases z
      | 19, h => cases h; exact cal_19 NS n ih
      | 20, h => cases h; exact cal_20 NS n ih
      | 21, h => cases z
      | k + 22, h => exact absurd h (by simp [defs])
    refine ⟨one, fun j d h => ?_⟩
    match j, h with
    | 0, h => exact (one 0 h rfl).toG
    | 1, h => exact (one 1 h rfl).toG
    | 2, h => exact (one 2 h rfl).toG
    | 3, h => exact (one 3 h rfl).toG
    | 4, h => exact (one 4 h rfl).toG
    | 5, h => exact (one 5 h rfl).toG
    | 6, h => exact (one 6 h rfl).toG
    | 7, h => exact (one 7 h rfl).toG
    | 8, h => exact (one 8 h rfl).toG
    | 9, h => exact (one 9 h rfl).toG
    | 10, h => exact (one 10 h rfl).toG
    | 11, h => exact (one 11 h rfl).toG
    | 12, h => exact (one 12 h rfl).toG
    | 13, h => exact (one 13 h rfl).toG
    | 14, h => exact (one 14 h rfl).toG
    | 15, h => exact (one 15 h rfl).toG
    | 16, h => exact (one 16 h rfl).toG
    | 17, h => exact (one 17 h rfl).toG
    | 18, h => cases h; exact cal_18 NS n ih
    | 19, h => exact (one 19 h rfl).toG
    | 20, h => exact (one 20 h rfl).toG
    | 21, h => cases h; exact cal_21 NS n ih
    | k + 22, h => exact absurd h (by simp [defs])
end
end L2.Mi.Pg

set_option Elab.async false
set_option linter.all false
set_option maxRecDepth 100000
set_option maxHeartbeats 4000000
/-! The program of law_k12_caches_refused: runs, derivations. Printed by gen.py. -/
namespace L2.Mi.Pg
open PySem PySem.Spec PyProof.Rows
/-! ### the head -/
abbrev R : PySem.W.OpenRow := PySem.W.OpenLaw.row PySem.Challenge.rw_farmisses_k12_caches_refused
abbrev hk : PySem.W.Hook := L.hook 6
def ob (s : PySem.W.SharedT) : AlM := L.obsG 6 (HandSHeadRun.getT s)
theorem ob_eq (s : PySem.W.SharedT) : ob s = hk.obs s.abs := Lw.obsG_eq (HandSHeadRun.getT_eq s)
def loose0 : List Str := ["_wall", "FarError", "InvalidText", "InvalidSyntax", "TooLarge", "InvalidCache", "gcd", "lcm", "is_integer", "LETTERS", "DIGITS", "SIGNS", "KEYWORDS", "LONGEST", "kind_of"]
def loose1 : List Str := ["end_of_run", "tokens_of", "RULES", "WRITES", "WORDS", "MOST_CELLS", "MOST_SETS", "MOST_WAYS", "MOST_LEVELS", "MOST_PERIOD", "is_among", "is_level", "check_cache", "Cache", "expect_word"]
def loose2 : List Str := ["number_at", "word_at", "_law_pool", "_law_take", "_law_cache", "_law_heard", "_law_odd", "_law_together"]
def loose : List Str := loose0 ++ loose1 ++ loose2
theorem head (w : World) : HandSHeadRun.RunEq R (PySem.W.view R.prog [44]) hk ob 20000 loose w := by
  intro os
  kernel_rfl
end L2.Mi.Pg

set_option Elab.async false
set_option linter.all false
set_option maxRecDepth 100000
set_option maxHeartbeats 1000000
/-! k12: levels, check_cache. -/
namespace L2.Mi.Pg
open PySem
abbrev used : D := .str [117, 115, 101, 100]
abbrev brought : D := .str [98, 114, 111, 117, 103, 104, 116]
abbrev second : D := .str [115, 101, 99, 111, 110, 100]
abbrev tree : D := .str [116, 114, 101, 101]
abbrev back : D := .str [98, 97, 99, 107]
abbrev through : D := .str [116, 104, 114, 111, 117, 103, 104]
inductive In4 : Int → Prop
  | i1 : In4 1 | i2 : In4 2 | i3 : In4 3 | i4 : In4 4
inductive Rule : D → Prop
  | u : Rule used | b : Rule brought | s : Rule second | t : Rule tree
inductive Wr : D → Prop
  | b : Wr back | t : Wr through
structure Lvl where
  a : Int
  b : Int
  r : D
  w : D
  ha : In4 a
  hb : In4 b
  hr : Rule r
  hw : Wr w
  hn : r = tree → b ≠ 3
namespace Lvl
def d (l : Lvl) : D := .tup [.int l.a, .int l.b, l.r, l.w]
def sD : D → PyData
  | .str x => .str ⟨x.toArray⟩
  | _ => .none
def p (l : Lvl) : PyData := .tuple [.int l.a, .int l.b, sD l.r, sD l.w]
end Lvl
theorem c6 {n : Nat} {S : Store} (l : Lvl) : run (n + 3) 6 [l.d] S = .ok (.bl true) S := by
  obtain ⟨a, b, r, w, ha, hb, hr, hw, hn⟩ := l
  cases ha <;> cases hb <;> cases hr <;> cases hw <;> first | exact absurd rfl (hn rfl) | kernel_rfl
theorem l_dat (l : Lvl) {n : Nat} {S : Store} : dat (n + 2) S l.d = some l.p := by
  obtain ⟨a, b, r, w, ha, hb, hr, hw, hn⟩ := l
  cases hr <;> cases hw <;> kernel_rfl
theorem l_pyD (l : Lvl) {n : Nat} {S : Store} : pyD S (n + 2) l.d = some l.p := by
  obtain ⟨a, b, r, w, ha, hb, hr, hw, hn⟩ := l
  cases hr <;> cases hw <;> kernel_rfl
theorem l_lay (l : Lvl) : l.p.canLay0 = true ∧ l.p.depth = 1 := by
  obtain ⟨a, b, r, w, ha, hb, hr, hw, hn⟩ := l
  cases hr <;> cases hw <;> (refine ⟨?_, ?_⟩ <;> kernel_rfl)
theorem l_show (l : Lvl) : l.p.showable = true ∧ l.p.hasDict = false ∧ l.p.shown.length ≤ 40 := by
  obtain ⟨a, b, r, w, ha, hb, hr, hw, hn⟩ := l
  cases ha <;> cases hb <;> cases hr <;> cases hw <;> (refine ⟨by kernel_rfl, by kernel_rfl, Nat.le_of_ble_eq_true (by kernel_rfl)⟩)
end L2.Mi.Pg

set_option Elab.async false
set_option linter.all false
set_option maxRecDepth 100000
set_option maxHeartbeats 1000000
/-! k12: least common multiples. -/
namespace L2.Mi.Pg
open PySem
def lcmZ (as : List Int) : Int := as.foldl (fun f a => ((Int.lcm f a : Nat) : Int)) 1
def pp (f a : Int) : D → Bool
  | .int z => (z % f == 0) && (z % a == 0)
  | _ => false
def comp (call : Nat → FN) : ME := eBin itemF (eLcV (iRange2 (eC (.int 1)) (eC (.int 841))) (.one 6) (tAnd (tOf (eBin (oEq call) (eBin modI (eVar 6) (eVar 1)) (eC (.int 0)))) (tOf (eBin (oEq call) (eBin modI (eVar 6) (eVar 2)) (eC (.int 0))))) (eVar 6) [6] 1000) (eC (.int 0))
theorem comp_ok {call : Nat → FN} {S : Store} {f a L : Int} {o0 o3 o4 o5 o6 : Option D} (hf : 0 < f) (ha : 0 < a) (hL : itemF (.lv (((ups 1 840).filter (pp f a)).map id)) (.int 0) S = .ok (.int L) S) :
    comp call [o0, some (.int f), some (.int a), o3, o4, o5, o6] S = .ok (.int L) S := by
  obtain ⟨src, e1, e2⟩ := src_r2 (a := eC (.int 1)) (b := eC (.int 841)) (σ := [o0, some (.int f), some (.int a), o3, o4, o5, o6]) (S := S) (i := 1) (j := 841) rfl rfl (by omega) (by omega) (by omega) (by omega)
  have e3 := eLcV_list (t := .one 6) (mt := tAnd (tOf (eBin (oEq call) (eBin modI (eVar 6) (eVar 1)) (eC (.int 0)))) (tOf (eBin (oEq call) (eBin modI (eVar 6) (eVar 2)) (eC (.int 0))))) (me := eVar 6) (vs := [6]) (n := 1000) (pp f a) id e1 e2 (fun d hd => by
    unfold ups at hd
    obtain ⟨z, _, rfl⟩ := List.mem_map.mp hd
    refine ⟨[o0, some (.int f), some (.int a), o3, o4, o5, some (.int (1 + (z : Int)))], rfl, ?_, fun _ => rfl⟩
    have q1 : eVar 6 [o0, some (.int f), some (.int a), o3, o4, o5, some (.int (1 + (z : Int)))] S = .ok (.int (1 + (z : Int))) S := rfl
    have q2 : eVar 1 [o0, some (.int f), some (.int a), o3, o4, o5, some (.int (1 + (z : Int)))] S = .ok (.int f) S := rfl
    have q3 : eVar 2 [o0, some (.int f), some (.int a), o3, o4, o5, some (.int (1 + (z : Int)))] S = .ok (.int a) S := rfl
    have q4 : ∀ i : Int, oEq call (.int i) (.int 0) S = .ok (.bl (i == 0)) S := fun i => eqF_int
    simp only [tAnd_ev, tOf_ev, eBin_ev, eC_ev, q1, q2, q3, bind_ok', modI_ev hf, modI_ev ha, q4]
    cases h : ((1 + (z : Int)) % f == 0) <;> simp [pp, h]) (by rw [ups_len]; decide) (by rw [ups_len]; decide)
  unfold comp
  simp only [eBin_ev, e3, eC_ev, bind_ok']
  exact hL
/-- the running values -/
inductive Fnd : Int → Prop
  | i1 : Fnd 1 | i2 : Fnd 2 | i3 : Fnd 3 | i4 : Fnd 4 | i6 : Fnd 6 | i12 : Fnd 12
theorem comp4 {call : Nat → FN} {S : Store} {f a : Int} {o0 o3 o4 o5 o6 : Option D} (hf : Fnd f) (ha : In4 a) : comp call [o0, some (.int f), some (.int a), o3, o4, o5, o6] S = .ok (.int (Int.lcm f a : Nat)) S ∧ Fnd (Int.lcm f a : Nat) := by
  cases hf <;> cases ha <;> refine ⟨comp_ok (by omega) (by omega) (by kernel_rfl), ?_⟩ <;> first | exact Fnd.i1 | exact Fnd.i2 | exact Fnd.i3 | exact Fnd.i4 | exact Fnd.i6 | exact Fnd.i12
end L2.Mi.Pg

set_option Elab.async false
set_option linter.all false
set_option maxRecDepth 100000
set_option maxHeartbeats 1000000
/-! k12: _law_together, lcm, check_cache. -/
namespace L2.Mi.Pg
open PySem
/-! ### _law_together -/
inductive Tg (S : Store) : Int → List D → Int → Prop
  | nil {f : Int} : Tg S f [] f
  | cons {f a g L : Int} {b r w : D} {ds : List D} (h : ∀ (call : Nat → FN) (o0 o3 o4 o5 o6 : Option D), comp call [o0, some (.int f), some (.int a), o3, o4, o5, o6] S = .ok (.int g) S) (t : Tg S g ds L) : Tg S f (.tup [.int a, b, r, w] :: ds) L
theorem tog_loop {S : Store} {call : Nat → FN} {o0 : Option D} {f L : Int} {ds : List D} (t : Tg S f ds L) : ∀ o2 o3 o4 o5 o6 : Option D,
    ∃ q2 q3 q4 q5 q6, forL (gTup [gName 2, gName 3, gName 4, gName 5]) (sSet 1 (comp call)) ds [o0, some (.int f), o2, o3, o4, o5, o6] S = .nx [o0, some (.int L), q2, q3, q4, q5, q6] S := by
  induction t with
  | nil => exact fun o2 o3 o4 o5 o6 => ⟨o2, o3, o4, o5, o6, rfl⟩
  | @cons f a g L b r w ds h t ih =>
    intro o2 o3 o4 o5 o6
    obtain ⟨q2, q3, q4, q5, q6, e⟩ := ih (some (.int a)) (some b) (some r) (some w) o6
    refine ⟨q2, q3, q4, q5, q6, ?_⟩
    have e1 : gTup [gName 2, gName 3, gName 4, gName 5] (.tup [.int a, b, r, w]) [o0, some (.int f), o2, o3, o4, o5, o6] S = .ok [o0, some (.int f), some (.int a), some b, some r, some w, o6] S := rfl
    rw [forL_cons, e1]
    have e2 : sSet 1 (comp call) [o0, some (.int f), some (.int a), some b, some r, some w, o6] S = .nx [o0, some (.int g), some (.int a), some b, some r, some w, o6] S := by
      simp only [sAsg_ev, h, gName_ev, List.set_cons_succ, List.set_cons_zero]
    simp only [e2]
    exact e
theorem c20 {n : Nat} {S : Store} {ds : List D} {L : Int} (t : Tg S 1 ds L) (hl : ds.length < 900) : run (n + 1) 20 [.tup ds] S = .ok (.int L) S := by
  rw [run_20]
  have e : m_20 (run n) = sSeq (sSet 1 (eC (.int 1))) (sSeq (sFor (iSeq (eVar 0)) (gTup [gName 2, gName 3, gName 4, gName 5]) (sSet 1 (comp (run n))) 1000) (sRet (eVar 1))) := rfl
  rw [e]
  obtain ⟨q2, q3, q4, q5, q6, e2⟩ := tog_loop (call := run n) (o0 := some (.tup ds)) t none none none none none
  have e3 : sFor (iSeq (eVar 0)) (gTup [gName 2, gName 3, gName 4, gName 5]) (sSet 1 (comp (run n))) 1000 [some (.tup ds), some (.int 1), none, none, none, none, none] S = _ := sFor_seq (d := .tup ds) (ds := ds) rfl rfl (by omega)
  simp only [sSeq_ev, sAsg_ev, eC_ev, gName_ev, List.set_cons_succ, List.set_cons_zero, e3, e2, sRet_ev, eVar_s, eVar_0, fin_rt]
def sets (ls : List Lvl) : List Int := ls.map Lvl.a
theorem tg_of {S : Store} : ∀ (ls : List Lvl) {f : Int}, Fnd f → Tg S f (ls.map Lvl.d) ((sets ls).foldl (fun f a => ((Int.lcm f a : Nat) : Int)) f) ∧ Fnd ((sets ls).foldl (fun f a => ((Int.lcm f a : Nat) : Int)) f)
  | [], f, hf => ⟨.nil, hf⟩
  | l :: ls, f, hf => by
    obtain ⟨t, h⟩ := tg_of (S := S) ls (comp4 (call := run 0) (S := S) (o0 := none) (o3 := none) (o4 := none) (o5 := none) (o6 := none) hf l.ha).2
    exact ⟨.cons (fun call o0 o3 o4 o5 o6 => (comp4 hf l.ha).1) t, h⟩
theorem fnd_of (ls : List Lvl) : Fnd (lcmZ (sets ls)) := (tg_of (S := ⟨[]⟩) ls Fnd.i1).2
/-! ### lcm -/
theorem c3 {n : Nat} {S : Store} : ∀ (ls : List Lvl), ls.length ≤ 3 → run (n + 2) 3 [.lv ((sets ls).map D.int)] S = .ok (.int (lcmZ (sets ls))) S
  | [], _ => by kernel_rfl
  | [⟨a, _, _, _, ha, _, _, _, _⟩], _ => by cases ha <;> kernel_rfl
  | [⟨a, _, _, _, ha, _, _, _, _⟩, ⟨b, _, _, _, hb, _, _, _, _⟩], _ => by cases ha <;> cases hb <;> kernel_rfl
  | [⟨a, _, _, _, ha, _, _, _, _⟩, ⟨b, _, _, _, hb, _, _, _, _⟩, ⟨c, _, _, _, hc, _, _, _, _⟩], _ => by cases ha <;> cases hb <;> cases hc <;> kernel_rfl
  | _ :: _ :: _ :: _ :: _, h => absurd h (by simp)
end L2.Mi.Pg

set_option Elab.async false
set_option linter.all false
set_option maxRecDepth 100000
set_option maxHeartbeats 1000000
/-! k12: check_cache. -/
namespace L2.Mi.Pg
open PySem
inductive In8 : Int → Prop
  | i1 : In8 1 | i2 : In8 2 | i3 : In8 3 | i4 : In8 4 | i5 : In8 5 | i6 : In8 6 | i7 : In8 7 | i8 : In8 8
theorem In4.in8 {i : Int} (h : In4 i) : In8 i := by cases h <;> constructor
theorem c5 {n : Nat} {S : Store} {i : Int} (h : In8 i) : run (n + 2) 5 [.int i, .int 8] S = .ok (.bl true) S := by cases h <;> kernel_rfl
def body7 (call : Nat → FN) : MS := sIf (tNot (tTru (eFn (call 6) (aList [eVar 2])))) (sRaise 4 0 (eVar 2)) (sNext)
def test7a (call : Nat → FN) : MS := sIf (tNot (tTru (eFn (call 5) (aList [eVar 0, eC (.int 8)])))) (sRaise 4 0 (eVar 0)) (sNext)
def test7b (call : Nat → FN) : MS := sIf (tOr (tNot (tTru (eFn (isiF isiL) (aList [eVar 1, eC (.ty "tuple")])))) (tNot (tOf (eChain leI leI (eC (.int 1)) (eFn (fnOr lenF (lenO (dLen call))) (aList [eVar 1])) (eC (.int 3)))))) (sRaise 4 0 (eVar 1)) (sNext)
def sets7 : ME := eLcV (iSeq (eVar 1)) (.one 2) (tYesM) (eBin itemF (eVar 2) (eC (.int 0))) [2] 1000
def test7c (call : Nat → FN) : MS := sIf (tOf (eBin gtI (eBin (oMul call) (eVar 0) (eFn (call 3) (aList [sets7]))) (eC (.int 64)))) (sRaise 3 1 (eC (.str [112, 101, 114, 105, 111, 100]))) (sNext)
theorem m7 (call : Nat → FN) : m_7 call = sSeq (test7a call) (sSeq (test7b call) (sSeq (sFor (iSeq (eVar 1)) (gName 2) (body7 call) 1000) (test7c call))) := rfl
section
variable {n : Nat} {S : Store} {o0 o1 o2 : Option D} {i : Int}
theorem seq_nx {a b : MS} {σ σ2 : En} {S S2 : Store} (h : a σ S = .nx σ2 S2) : sSeq a b σ S = b σ2 S2 := by rw [sSeq_ev, h]
theorem seq_exc {a b : MS} {σ σ2 : En} {x : Xn} {S S2 : Store} (h : a σ S = .exc x σ2 S2) : sSeq a b σ S = .exc x σ2 S2 := by rw [sSeq_ev, h]
theorem t7a (h : In8 i) : test7a (run (n + 2)) [some (.int i), o1, o2] S = .nx [some (.int i), o1, o2] S := by
  unfold test7a
  simp only [sIf_ev, tNot_ev, tTru_ev, eFn_ev, aList_cons, aList_nil, eVar_0, eC_ev, bind_ok', c5 h, truD_bl, Bool.not_true, Bool.false_eq_true, if_false, sNext_ev]
theorem t7b {ls : List D} (h1 : 1 ≤ ls.length) (h3 : ls.length ≤ 3) : test7b (run n) [o0, some (.tup ls), o2] S = .nx [o0, some (.tup ls), o2] S := by
  match ls, h1, h3 with
  | [a], _, _ => kernel_rfl
  | [a, b], _, _ => kernel_rfl
  | [a, b, c], _, _ => kernel_rfl
  | [], h1, _ => exact absurd h1 (by simp)
  | _ :: _ :: _ :: _ :: _, _, h3 => exact absurd h3 (by simp)
theorem loop7 {rest : List D} : ∀ (ls : List Lvl) (o2 : Option D), ∃ q2, forL (gName 2) (body7 (run (n + 3))) (ls.map Lvl.d ++ rest) [o0, o1, o2] S = forL (gName 2) (body7 (run (n + 3))) rest [o0, o1, q2] S
  | [], o2 => ⟨o2, rfl⟩
  | l :: ls, o2 => by
    obtain ⟨q2, e⟩ := loop7 (rest := rest) ls (some l.d)
    refine ⟨q2, ?_⟩
    have e1 : body7 (run (n + 3)) [o0, o1, some l.d] S = .nx [o0, o1, some l.d] S := by
      unfold body7
      simp only [sIf_ev, tNot_ev, tTru_ev, eFn_ev, aList_cons, aList_nil, eVar_s, eVar_0, bind_ok', c6, truD_bl, Bool.not_true, Bool.false_eq_true, if_false, sNext_ev]
    rw [List.map_cons, List.cons_append, forL_cons]
    simp only [gName_ev, List.set_cons_succ, List.set_cons_zero, e1]
    exact e
theorem sets_ok {ls : List Lvl} (h : ls.length ≤ 3) : sets7 [o0, some (.tup (ls.map Lvl.d)), o2] S = .ok (.lv ((sets ls).map D.int)) S := by
  match ls, h with
  | [], _ => kernel_rfl
  | [a], _ => kernel_rfl
  | [a, b], _ => kernel_rfl
  | [a, b, c], _ => kernel_rfl
  | _ :: _ :: _ :: _ :: _, h => exact absurd h (by simp)
theorem fnd_le {f : Int} (h : Fnd f) : 1 ≤ f ∧ f ≤ 12 := by cases h <;> omega
theorem mul_le {i f : Int} (h : In4 i) (hf : Fnd f) : i * f ≤ 64 ∧ 0 < i * f := by cases h <;> cases hf <;> omega
theorem oMul_int {call : Nat → FN} {i j : Int} (h : mulOk i j = true) : oMul call (.int i) (.int j) S = .ok (.int (i * j)) S := by
  unfold oMul opOr
  rw [mulF_ev h]
  rfl
theorem t7c {ls : List Lvl} (hi : In4 i) (h : ls.length ≤ 3) : test7c (run (n + 2)) [some (.int i), some (.tup (ls.map Lvl.d)), o2] S = .nx [some (.int i), some (.tup (ls.map Lvl.d)), o2] S := by
  have hf := fnd_of ls
  have b1 := fnd_le hf
  have b2 := mul_le hi hf
  have b3 : mulOk i (lcmZ (sets ls)) = true := mulOk_r (by omega) (by omega)
  unfold test7c
  simp only [sIf_ev, tOf_ev, eBin_ev, eFn_ev, aList_cons, aList_nil, eVar_0, eC_ev, bind_ok', sets_ok h, c3 ls h, oMul_int b3, gtI_ev, decide_eq_false (show ¬ (64 : Int) < i * lcmZ (sets ls) by omega), Bool.false_eq_true, if_false, sNext_ev]
theorem c7 {ls : List Lvl} (hi : In4 i) (h1 : 1 ≤ ls.length) (h : ls.length ≤ 3) : run (n + 4) 7 [.int i, .tup (ls.map Lvl.d)] S = .ok .non S := by
  rw [run_7, m7]
  obtain ⟨q2, e⟩ := loop7 (n := n) (S := S) (o0 := some (.int i)) (o1 := some (.tup (ls.map Lvl.d))) (rest := []) ls none
  rw [List.append_nil, forL_nil] at e
  have e3 : sFor (iSeq (eVar 1)) (gName 2) (body7 (run (n + 3))) 1000 [some (.int i), some (.tup (ls.map Lvl.d)), none] S = _ := sFor_seq (d := .tup (ls.map Lvl.d)) (ds := ls.map Lvl.d) rfl rfl (by rw [List.length_map]; omega)
  rw [e] at e3
  rw [seq_nx (t7a (n := n + 1) hi.in8), seq_nx (t7b (by rw [List.length_map]; exact h1) (by rw [List.length_map]; exact h)), seq_nx e3, t7c (n := n + 1) hi h]
  rfl
/-! ### refused -/
/-- one odd level -/
theorem c7_odd {o : D} {pre : List Lvl} {rest : List D} (hi : In8 i) (hl : (pre.map Lvl.d ++ o :: rest).length ≤ 3) (ho : ∀ S, run (n + 3) 6 [o] S = .ok (.bl false) S) :
    run (n + 4) 7 [.int i, .tup (pre.map Lvl.d ++ o :: rest)] S = .exc ⟨4, [(0, o)]⟩ S := by
  rw [run_7, m7]
  obtain ⟨q2, e⟩ := loop7 (n := n) (S := S) (o0 := some (.int i)) (o1 := some (.tup (pre.map Lvl.d ++ o :: rest))) (rest := o :: rest) pre none
  have e1 : body7 (run (n + 3)) [some (.int i), some (.tup (pre.map Lvl.d ++ o :: rest)), some o] S = .exc ⟨4, [(0, o)]⟩ [some (.int i), some (.tup (pre.map Lvl.d ++ o :: rest)), some o] S := by
    unfold body7 sRaise
    simp only [sIf_ev, tNot_ev, tTru_ev, eFn_ev, aList_cons, aList_nil, eVar_s, eVar_0, bind_ok', ho, truD_bl, Bool.not_false, if_true]
  have e3 : sFor (iSeq (eVar 1)) (gName 2) (body7 (run (n + 3))) 1000 [some (.int i), some (.tup (pre.map Lvl.d ++ o :: rest)), none] S = _ := sFor_seq (d := .tup (pre.map Lvl.d ++ o :: rest)) (ds := pre.map Lvl.d ++ o :: rest) rfl rfl (by omega)
  rw [e, forL_cons] at e3
  simp only [gName_ev, List.set_cons_succ, List.set_cons_zero, e1] at e3
  rw [seq_nx (t7a (n := n + 1) hi), seq_nx (t7b (by simp; omega) hl), seq_exc e3]
  rfl
/-- what is no tuple of one to three -/
theorem c7_no {o : D} (hi : In8 i) (ho : ∀ S, test7b (run (n + 3)) [some (.int i), some o, none] S = .exc ⟨4, [(0, o)]⟩ [some (.int i), some o, none] S) : run (n + 4) 7 [.int i, o] S = .exc ⟨4, [(0, o)]⟩ S := by
  rw [run_7, m7, seq_nx (t7a (n := n + 1) hi), seq_exc (ho S)]
  rfl
end
end L2.Mi.Pg

set_option Elab.async false
set_option linter.all false
set_option maxRecDepth 100000
set_option maxHeartbeats 1000000
/-! k12: what is heard. -/
namespace L2.Mi.Pg
open PySem
abbrev cacheW : List Nat := [99, 97, 99, 104, 101]
abbrev largeW : List Nat := [108, 97, 114, 103, 101]
abbrev periodW : List Nat := [112, 101, 114, 105, 111, 100]
abbrev fineW : List Nat := [102, 105, 110, 101]
section
variable {n : Nat} {S : Store} {x y : D} {i : Int}
/-- an object -/
def Obj1 (S : Store) (d : D) (f : D) : Prop := ∃ k, d = .ref k ∧ S.get k = some (.ins 0 [(2, f)])
theorem mk_ok (h : ∀ S, run (n + 4) 7 [x, y] S = .ok .non S) : makeW 0 (run (n + 5) 8) [x, y] S = .ok (.ref S.size) (S.push (.ins 0 [(2, .tup [x, y])])) := by
  unfold makeW
  rw [run_8]
  unfold m_8 sFld
  have hg : (S.push (.ins 0 [])).get S.size = some (.ins 0 []) := Store.get_push_same
  simp only [sSeq_ev, sDrop_ev, eFn_ev, aList_cons, aList_nil, eVar_s, eVar_0, bind_ok', h, eTup_ev, fldSet, hg]
  rw [if_pos (by rfl)]
  simp only [fin_nx, bind_ok', Store.push_set]
  rfl
theorem mk_exc {e : Xn} (h : ∀ S, run (n + 4) 7 [x, y] S = .exc e S) : makeW 0 (run (n + 5) 8) [x, y] S = .exc e (S.push (.ins 0 [])) := by
  unfold makeW
  rw [run_8]
  unfold m_8
  simp only [sSeq_ev, sDrop_ev, eFn_ev, aList_cons, aList_nil, eVar_s, eVar_0, bind_ok', h, fin_exc, bind_exc']
def body18 (call : Nat → FN) : MS := sSeq (sDrop (eFn (makeW 0 (call 8)) (aList [eVar 0, eVar 1]))) (sRet (eLv [eC (.str fineW)]))
def hds18 : List Hd1 := [⟨4, some 2, xLv [xC (.str cacheW), xFn (reprF 8) [xF 4 0]]⟩, ⟨3, some 2, xLv [xC (.str largeW), xF 3 1]⟩]
theorem m18 (call : Nat → FN) : m_18 call = sTry isxL (body18 call) hds18 := rfl
theorem heard_fine (h : ∀ S, run (n + 4) 7 [x, y] S = .ok .non S) : run (n + 6) 18 [x, y] S = .ok (.lv [.str fineW]) (S.push (.ins 0 [(2, .tup [x, y])])) := by
  rw [run_18, m18]
  have e : body18 (run (n + 5)) [some x, some y, none] S = .rt (.lv [.str fineW]) (S.push (.ins 0 [(2, .tup [x, y])])) := by
    unfold body18
    simp only [sSeq_ev, sDrop_ev, eFn_ev, aList_cons, aList_nil, eVar_s, eVar_0, bind_ok', mk_ok h, sRet_ev, eLv_ev, eC_ev]
  unfold sTry
  rw [e]
  rfl
theorem heard_cache {o : D} {R : List Nat} (h : ∀ S, run (n + 4) 7 [x, y] S = .exc ⟨4, [(0, o)]⟩ S) (hr : ∀ S, reprF 8 [o] S = .ok (.str R) S) : run (n + 6) 18 [x, y] S = .ok (.lv [.str cacheW, .str R]) (S.push (.ins 0 [])) := by
  rw [run_18, m18]
  have e : body18 (run (n + 5)) [some x, some y, none] S = .exc ⟨4, [(0, o)]⟩ [some x, some y, none] (S.push (.ins 0 [])) := by
    unfold body18
    simp only [sSeq_ev, sDrop_ev, eFn_ev, aList_cons, aList_nil, eVar_s, eVar_0, bind_ok', mk_exc h]
  unfold sTry
  rw [e]
  have e2 : (xLv [xC (.str cacheW), xFn (reprF 8) [xF 4 0]]) ⟨4, [(0, o)]⟩ (S.push (.ins 0 [])) = .ok (.lv [.str cacheW, .str R]) (S.push (.ins 0 [])) := by
    unfold xLv xList xList xList xFn xList xList
    have e3 : xF 4 0 ⟨4, [(0, o)]⟩ (S.push (.ins 0 [])) = .ok o (S.push (.ins 0 [])) := rfl
    simp only [e3, bind_ok', hr, xC]
    rfl
  show fin (hGo isxL ⟨4, [(0, o)]⟩ [some x, some y, none] (S.push (.ins 0 [])) hds18) = _
  unfold hds18 hGo
  have e4 : isxL 4 4 = some true := by decide
  simp only [e4, e2]
  rfl
theorem heard_large (h : ∀ S, run (n + 4) 7 [x, y] S = .exc ⟨3, [(1, .str periodW)]⟩ S) : run (n + 6) 18 [x, y] S = .ok (.lv [.str largeW, .str periodW]) (S.push (.ins 0 [])) := by
  rw [run_18, m18]
  have e : body18 (run (n + 5)) [some x, some y, none] S = .exc ⟨3, [(1, .str periodW)]⟩ [some x, some y, none] (S.push (.ins 0 [])) := by
    unfold body18
    simp only [sSeq_ev, sDrop_ev, eFn_ev, aList_cons, aList_nil, eVar_s, eVar_0, bind_ok', mk_exc h]
  unfold sTry
  rw [e]
  rfl
/-! ### == and != -/
mutual
theorem eqv_refl : ∀ p : PyData, p.canLay0 = true → p.eqv p = true
  | .none, _ => by simp [PyData.eqv]
  | .bool _, _ => by simp [PyData.eqv]
  | .int _, _ => by simp [PyData.eqv]
  | .str _, _ => by simp [PyData.eqv]
  | .list xs, h => by simp only [PyData.eqv]; exact eqvAll_refl xs (by simpa [PyData.canLay0] using h)
  | .tuple xs, h => by simp only [PyData.eqv]; exact eqvAll_refl xs (by simpa [PyData.canLay0] using h)
  | .dict _, h => by simp [PyData.canLay0] at h
theorem eqvAll_refl : ∀ ps : List PyData, PyData.canLayAll0 ps = true → PyData.eqvAll ps ps = true
  | [], _ => by simp [PyData.eqvAll]
  | p :: ps, h => by
    simp only [PyData.canLayAll0, Bool.and_eq_true] at h
    simp [PyData.eqvAll, eqv_refl p h.1, eqvAll_refl ps h.2]
end
theorem ne_same {own : D → D → Store → Res D} {p : PyData} (h : dat 64 S x = some p) (h2 : dat 64 S y = some p) (hs : SeqAt.shaped p = true) : neF own x y S = .ok (.bl false) S := by
  unfold neF
  simp only [h, h2, hs, Bool.and_self, if_true, eqv_refl p (SeqAt.canLay_of_shaped hs), Bool.not_true]
theorem eq_dat {own : D → D → Store → Res D} {p q : PyData} (h : dat 64 S x = some p) (h2 : dat 64 S y = some q) (hs : SeqAt.shaped p = true) (hs2 : SeqAt.shaped q = true) : eqF own x y S = .ok (.bl (p.eqv q)) S := by
  unfold eqF
  simp only [h, h2, hs, hs2, Bool.and_self, if_true]
theorem ne_dat {own : D → D → Store → Res D} {p q : PyData} (h : dat 64 S x = some p) (h2 : dat 64 S y = some q) (hs : SeqAt.shaped p = true) (hs2 : SeqAt.shaped q = true) : neF own x y S = .ok (.bl (!p.eqv q)) S := by
  unfold neF
  simp only [h, h2, hs, hs2, Bool.and_self, if_true]
/-- a text that may stand in data -/
def Txt (R : List Nat) : Prop := PyData.strOk ⟨R.toArray⟩ = true
theorem two_shaped {a b : List Nat} (ha : Txt a) (hb : Txt b) : SeqAt.shaped (.list [.str ⟨a.toArray⟩, .str ⟨b.toArray⟩]) = true := by
  unfold SeqAt.shaped
  have e : PyData.canLay0 (.list [.str ⟨a.toArray⟩, .str ⟨b.toArray⟩]) = true := by
    simp only [PyData.canLay0, PyData.canLayAll0, Bool.and_true, Bool.and_eq_true]
    exact ⟨ha, hb⟩
  rw [e]
  rfl
theorem ne_two {call : Nat → FN} {a b : List Nat} (ha : Txt a) (hb : Txt b) : oNe call (.lv [.str a, .str b]) (.lv [.str a, .str b]) S = .ok (.bl false) S := ne_same (p := .list [.str ⟨a.toArray⟩, .str ⟨b.toArray⟩]) rfl rfl (two_shaped ha hb)
end
end L2.Mi.Pg

set_option Elab.async false
set_option linter.all false
set_option maxRecDepth 100000
set_option maxHeartbeats 1000000
/-! k12: odd levels; the draws. -/
namespace L2.Mi.Pg
open PySem
def odd1 : List D := [.non, .tup [], .lv [.int 2, .int 2, used, back], .tup [.int 2, .int 2, used], .tup [.int 2, .int 2, used, back, .int 1], .tup [.int 0, .int 2, used, back]]
def odd2 : List D := [.tup [.int 9, .int 2, used, back], .tup [.bl true, .int 2, used, back], .tup [.int 2, .int 0, used, back]]
def odd3 : D := .tup [.str [50], .int 1, used, back]
def odd4 : List D := [.tup [.int 2, .int 5, used, back], .tup [.int 2, .non, used, back], .tup [.int 2, .int 3, tree, back], .tup [.int 2, .int 2, .str [108, 114, 117], back]]
def odd5 : List D := [.tup [.int 2, .int 2, .non, back], .tup [.int 2, .int 2, used, .str [66, 97, 99, 107]], .tup [.int 2, .int 2, used, .non], .tup [.int 2, .int 2, .lv [used], back]]
def odd6 : List D := [.tup [.int 2, .int 2, used, .tup [back]], .tup [.int (-1), .int 2, used, back], .int 5, .str [108, 101, 118, 101, 108], .tup [.int 2, .int 2, used, used]]
def odds : List D := [.non, .tup [], .lv [.int 2, .int 2, used, back], .tup [.int 2, .int 2, used], .tup [.int 2, .int 2, used, back, .int 1], .tup [.int 0, .int 2, used, back],
  .tup [.int 9, .int 2, used, back], .tup [.bl true, .int 2, used, back], .tup [.int 2, .int 0, used, back], .tup [.str [50], .int 1, used, back],
  .tup [.int 2, .int 5, used, back], .tup [.int 2, .non, used, back], .tup [.int 2, .int 3, tree, back], .tup [.int 2, .int 2, .str [108, 114, 117], back],
  .tup [.int 2, .int 2, .non, back], .tup [.int 2, .int 2, used, .str [66, 97, 99, 107]], .tup [.int 2, .int 2, used, .non], .tup [.int 2, .int 2, .lv [used], back],
  .tup [.int 2, .int 2, used, .tup [back]], .tup [.int (-1), .int 2, used, back], .int 5, .str [108, 101, 118, 101, 108], .tup [.int 2, .int 2, used, used]]
theorem odds_eq : odd1 ++ odd2 ++ [odd3] ++ odd4 ++ odd5 ++ odd6 = odds := rfl
/-- its text -/
def Rof (o : D) : List Nat := match pyD ⟨[]⟩ 8 o with
  | some p => p.shown.cps.toList
  | none => []
structure Odd (o : D) : Prop where
  no : ∀ n S, run (n + 3) 6 [o] S = .ok (.bl false) S
  rp : ∀ S, reprF 8 [o] S = .ok (.str (Rof o)) S
  tx : Txt (Rof o)
theorem odd_all : ∀ o ∈ odds, Odd o := by
  intro o h
  simp only [odds, List.mem_cons, List.not_mem_nil, or_false] at h
  rcases h with rfl | rfl | rfl | rfl | rfl | rfl | rfl | rfl | rfl | rfl | rfl | rfl | rfl | rfl | rfl | rfl | rfl | rfl | rfl | rfl | rfl | rfl | rfl <;>
    exact ⟨fun n S => by kernel_rfl, fun S => by kernel_rfl, by unfold Txt; kernel_rfl⟩
/-! ### draws -/
def Chg (i : Nat) (S T : Store) : Prop := T.size = S.size ∧ ∀ j, j ≠ i → T.get j = S.get j
theorem Chg.refl {i : Nat} {S : Store} : Chg i S S := ⟨rfl, fun _ _ => rfl⟩
theorem Chg.trans {i : Nat} {a b c : Store} (h : Chg i a b) (k : Chg i b c) : Chg i a c := ⟨k.1.trans h.1, fun j hj => (k.2 j hj).trans (h.2 j hj)⟩
theorem Chg.set {i : Nat} {S : Store} {o : Ob} : Chg i S (S.set i o) := ⟨Store.size_set _ _ _, fun j hj => Store.get_set_ne (Ne.symm hj)⟩
theorem opsI_or {f g h k : Op2} : OpsI (opOr (addF f) h) (opOr (mulF g) k) := ⟨fun _ _ _ => rfl, fun i j S q => by unfold opOr; rw [mulF_ev q]; rfl⟩
theorem c16 {n : Nat} {S : Store} {i : Nat} {w : Int} (hp : Pool S i) (w0 : 0 < w) (w1 : w < 2 ^ 31) : ∃ r S', run (n + 1) 16 [.ref i, .int w] S = .ok (.int r) S' ∧ 0 ≤ r ∧ r < w ∧ Pool S' i ∧ Chg i S S' := by
  obtain ⟨r, o, e, h1, h2, h3⟩ := take_ok (oA := oAdd (run n)) (oM := oMul (run n)) opsI_or hp w0 w1
  exact ⟨r, _, by rw [run_16]; exact e, h1, h2, h3, Chg.set⟩
theorem len_eq {call : Nat → FN} {d : D} {S : Store} {k : Int} (h : lenF [d] S = .ok (.int k) S) : fnOr lenF (lenO (dLen call)) [d] S = .ok (.int k) S := by
  unfold fnOr
  rw [h]
  rfl
section
variable {n : Nat} {S : Store} {o0 : Option D} {k : Nat} {A B : List D} {x : D} {ms : List ME} {call : Nat → FN}
theorem st_new {o1 : Option D} (h : aList ms [o0, o1] S = .ok A S) : sSet 1 (eLst ms) [o0, o1] S = .nx [o0, some (.ref S.size)] (S.push (.lst A)) := by
  simp only [sAsg_ev, eLst_ev, h, bind_ok', gName_ev, List.set_cons_succ, List.set_cons_zero]
theorem st_cat (hk : S.get k = some (.lst A)) (h : aList ms [o0, some (.ref k)] S = .ok B S) (hl : A.length + B.length ≤ 1000) :
    sSet 1 (eBin (oAdd call) (eVar 1) (eLv ms)) [o0, some (.ref k)] S = .nx [o0, some (.ref S.size)] (S.push (.lst (A ++ B))) := by
  have e : oAdd call (.ref k) (.lv B) S = .ok (.ref S.size) (S.push (.lst (A ++ B))) := by
    have e1 : lsN S (.ref k) = some A := by unfold lsN; simp only [hk]
    have e2 : lsN S (.lv B) = some B := rfl
    show orB (noOwn (.ref k) (.lv B) S) (catR (.ref k) (.lv B) S) = _
    show catR (.ref k) (.lv B) S = _
    unfold catR
    simp only [e1, e2]
    rw [if_pos (by unfold lim; omega)]
  simp only [sAsg_ev, eBin_ev, eVar_s, eVar_0, eLv_ev, h, bind_ok', e, gName_ev, List.set_cons_succ, List.set_cons_zero]
theorem st_app {m : ME} (hk : S.get k = some (.lst A)) (h : m [o0, some (.ref k)] S = .ok x S) (hl : A.length < 1000) :
    sDrop (eBm isLst appendF (eVar 1) (aList [m])) [o0, some (.ref k)] S = .nx [o0, some (.ref k)] (S.set k (.lst (A ++ [x]))) := by
  have e1 : isLst (.ref k) S = true := by unfold isLst; rw [listAt_ref hk]; rfl
  have e2 : appendF (.ref k) [x] S = .ok .non (S.set k (.lst (A ++ [x]))) := by
    unfold appendF
    simp only [hk]
    rw [if_pos (by unfold lim; omega)]
  unfold eBm
  simp only [sDrop_ev, eVar_s, eVar_0, bind_ok', e1, if_true, aList_cons, aList_nil, h, e2]
end
/-- the store has grown: what stood there stands -/
theorem c19 {n : Nat} {S : Store} {i : Nat} (hp : Pool S i) : ∃ o S', run (n + 2) 19 [.ref i] S = .ok o S' ∧ Odd o ∧ Pool S' i ∧ S.size ≤ S'.size ∧ ∀ j, j < S.size → j ≠ i → S'.get j = S.get j := by
  have hi : i < S.size := by obtain ⟨_, _, h, _⟩ := hp; exact Store.get_lt h
  let S1 := S.push (.lst odd1)
  have g1 : S1.get S.size = some (.lst odd1) := Store.get_push_same
  let S2 := S1.push (.lst (odd1 ++ odd2))
  have g2 : S2.get S1.size = some (.lst (odd1 ++ odd2)) := Store.get_push_same
  let S3 := S2.set S1.size (.lst (odd1 ++ odd2 ++ [odd3]))
  have g3 : S3.get S1.size = some (.lst (odd1 ++ odd2 ++ [odd3])) := Store.get_set_same (Store.get_lt g2)
  let S4 := S3.push (.lst (odd1 ++ odd2 ++ [odd3] ++ odd4))
  have g4 : S4.get S3.size = some (.lst (odd1 ++ odd2 ++ [odd3] ++ odd4)) := Store.get_push_same
  let S5 := S4.push (.lst (odd1 ++ odd2 ++ [odd3] ++ odd4 ++ odd5))
  have g5 : S5.get S4.size = some (.lst (odd1 ++ odd2 ++ [odd3] ++ odd4 ++ odd5)) := Store.get_push_same
  let S6 := S5.push (.lst (odd1 ++ odd2 ++ [odd3] ++ odd4 ++ odd5 ++ odd6))
  have g6 : S6.get S5.size = some (.lst odds) := Store.get_push_same
  have z1 : S1.size = S.size + 1 := Store.size_push _ _
  have z2 : S2.size = S1.size + 1 := Store.size_push _ _
  have z3 : S3.size = S2.size := Store.size_set _ _ _
  have z4 : S4.size = S3.size + 1 := Store.size_push _ _
  have z5 : S5.size = S4.size + 1 := Store.size_push _ _
  have z6 : S6.size = S5.size + 1 := Store.size_push _ _
  have old : ∀ j, j < S.size → S6.get j = S.get j := fun j hj => by
    show ((((S2.set S1.size _).push _).push _).push _).get j = _
    rw [Store.get_push_lt (by show j < S5.size; omega), Store.get_push_lt (by show j < S4.size; omega), Store.get_push_lt (by show j < S3.size; omega), Store.get_set_ne (by omega)]
    show ((S.push _).push _).get j = _
    rw [Store.get_push_lt (by show j < S1.size; omega), Store.get_push_lt hj]
  have hp6 : Pool S6 i := by
    obtain ⟨h, s, hg, r⟩ := hp
    exact ⟨h, s, (old i hi).trans hg, r⟩
  obtain ⟨r, S7, e7, r0, r1, hp7, hc7⟩ := c16 (n := n) (w := 23) hp6 (by omega) (by omega)
  have hrl : r.toNat < odds.length := by
    have : odds.length = 23 := rfl
    omega
  have g7 : S7.get S5.size = some (.lst odds) := (hc7.2 _ (by omega)).trans g6
  refine ⟨odds[r.toNat], S7, ?_, odd_all _ (List.getElem_mem hrl), hp7, by rw [hc7.1]; omega, fun j hj hji => (hc7.2 j hji).trans (old j hj)⟩
  have hat : L2.atI odds r = some odds[r.toNat] := by
    have z := atI_nat (xs := odds) (k := r.toNat) (x := odds[r.toNat]) (List.getElem?_eq_getElem hrl)
    rwa [Int.toNat_of_nonneg r0] at z
  have hlen : fnOr lenF (lenO (dLen (run (n + 1)))) [.ref S5.size] S6 = .ok (.int 23) S6 := len_eq (by rw [lenF_seq (seqAt_list (listAt_ref g6))]; rfl)
  have hit : itemF (.ref S5.size) (.int r) S7 = .ok odds[r.toNat] S7 := itemF_seq (seqAt_list (listAt_ref g7)) hat
  rw [run_19]
  unfold m_19
  rw [seq_nx (st_new (A := odd1) (by kernel_rfl)), seq_nx (st_cat (B := odd2) g1 (by kernel_rfl) (by decide)), seq_nx (st_app (x := odd3) g2 (by kernel_rfl) (by decide)), seq_nx (st_cat (B := odd4) g3 (by kernel_rfl) (by decide)), seq_nx (st_cat (B := odd5) g4 (by kernel_rfl) (by decide)), seq_nx (st_cat (B := odd6) g5 (by kernel_rfl) (by decide))]
  show fin (sRet _ [some (.ref i), some (.ref S5.size)] S6) = _
  simp only [sRet_ev, eBin_ev, eVar_s, eVar_0, bind_ok', eFn_ev, aList_cons, aList_nil, hlen, e7, hit, fin_rt]
end L2.Mi.Pg

set_option Elab.async false
set_option linter.all false
set_option maxRecDepth 100000
set_option maxHeartbeats 1000000
/-! k12: caches drawn. -/
namespace L2.Mi.Pg
open PySem
theorem c15 {n : Nat} {S : Store} {ns : List Int} {k : Nat} (hk : k < 1000) (hl : ns.length ≤ 1000) : ∃ o, run (n + 1) 15 [.fl (ns.map D.int), .int (k : Int)] S = .ok (.ref S.size) (S.push o) ∧ Pool (S.push o) S.size := by
  obtain ⟨o, e, h⟩ := pool_ok (lx := fnOr lenF (lenO (dLen (run n)))) (oA := oAdd (run n)) (oM := oMul (run n)) (S := S) (ns := ns) opsI_or (by
    unfold fnOr
    rw [lenF_seq (xs := ns.map D.int) rfl]
    rfl) hk hl
  exact ⟨o, by rw [run_15]; exact e, h⟩
/-- one of a list, drawn -/
theorem pick {S : Store} {xs : List D} {r : Int} {m : Int} (hm : (xs.length : Int) = m) (r0 : 0 ≤ r) (r1 : r < m) : ∃ x, x ∈ xs ∧ itemF (.lv xs) (.int r) S = .ok x S := by
  have hl : r.toNat < xs.length := by omega
  refine ⟨xs[r.toNat], List.getElem_mem hl, itemF_seq (xs := xs) rfl ?_⟩
  have z := atI_nat (xs := xs) (k := r.toNat) (x := xs[r.toNat]) (List.getElem?_eq_getElem hl)
  rwa [Int.toNat_of_nonneg r0] at z
def menu5 : List D := [.int 1, .int 2, .int 2, .int 3, .int 4]
theorem menu5_in {x : D} (h : x ∈ menu5) : ∃ a, x = .int a ∧ In4 a := by
  simp only [menu5, List.mem_cons, List.not_mem_nil, or_false] at h
  rcases h with rfl | rfl | rfl | rfl | rfl
  · exact ⟨1, rfl, .i1⟩
  · exact ⟨2, rfl, .i2⟩
  · exact ⟨2, rfl, .i2⟩
  · exact ⟨3, rfl, .i3⟩
  · exact ⟨4, rfl, .i4⟩
def rules4 : List D := [used, brought, second, tree]
theorem rules4_in {x : D} (h : x ∈ rules4) : Rule x := by
  simp only [rules4, List.mem_cons, List.not_mem_nil, or_false] at h
  rcases h with rfl | rfl | rfl | rfl <;> constructor
def writes3 : List D := [back, back, through]
theorem writes3_in {x : D} (h : x ∈ writes3) : Wr x := by
  simp only [writes3, List.mem_cons, List.not_mem_nil, or_false] at h
  rcases h with rfl | rfl | rfl <;> constructor
def lines4 : List D := [.int 1, .int 2, .int 2, .int 4]
theorem lines4_in {x : D} (h : x ∈ lines4) : ∃ a, x = .int a ∧ In4 a := by
  simp only [lines4, List.mem_cons, List.not_mem_nil, or_false] at h
  rcases h with rfl | rfl | rfl | rfl
  · exact ⟨1, rfl, .i1⟩
  · exact ⟨2, rfl, .i2⟩
  · exact ⟨2, rfl, .i2⟩
  · exact ⟨4, rfl, .i4⟩
def five (call : Nat → FN) : ME := eBin itemF (eLv [eC (.int 1), eC (.int 2), eC (.int 2), eC (.int 3), eC (.int 4)]) (eFn (call 16) (aList [eVar 0, eC (.int 5)]))
def s17a (call : Nat → FN) : MS := sPar 3 4 (five call) (five call)
def s17b (call : Nat → FN) : MS := sSet 5 (eBin itemF (eLv [eC used, eC brought, eC second, eC tree]) (eFn (call 16) (aList [eVar 0, eC (.int 4)])))
def e17 (call : Nat → FN) : ME := eIf (tAnd (tOf (eBin (oEq call) (eVar 5) (eC tree))) (tOf (eBin (oEq call) (eVar 4) (eC (.int 3))))) (eC (.int 2)) (eVar 4)
def s17d (call : Nat → FN) : MS := sDrop (eBm isLst appendF (eVar 1) (aList [eTup [eVar 3, eVar 4, eVar 5, eBin itemF (eLv [eC back, eC back, eC through]) (eFn (call 16) (aList [eVar 0, eC (.int 3)]))]]))
def body17 (call : Nat → FN) : MS := sSeq (s17a call) (sSeq (s17b call) (sSeq (sSet 4 (e17 call)) (s17d call)))
theorem m17 (call : Nat → FN) : m_17 call = sSeq (sSet 1 (eLst [])) (sSeq (sFor (iRange1 (eBin (oAdd call) (eC (.int 1)) (eFn (call 16) (aList [eVar 0, eC (.int 3)])))) (gName 2) (body17 call) 1000)
    (sRet (eTup [eBin itemF (eLv [eC (.int 1), eC (.int 2), eC (.int 2), eC (.int 4)]) (eFn (call 16) (aList [eVar 0, eC (.int 4)])), eFn tupleF (aList [eVar 1])]))) := rfl
section
variable {n i k : Nat} {S : Store}
theorem e17_ok {call : Nat → FN} {b : Int} {r : D} {o0 o1 o2 o3 : Option D} (hb : In4 b) (hr : Rule r) : ∃ b2, In4 b2 ∧ (r = tree → b2 ≠ 3) ∧ e17 call [o0, o1, o2, o3, some (.int b), some r] S = .ok (.int b2) S := by
  cases hr with
  | u => exact ⟨b, hb, (fun z => nomatch z), by kernel_rfl⟩
  | b => exact ⟨b, hb, (fun z => nomatch z), by kernel_rfl⟩
  | s => exact ⟨b, hb, (fun z => nomatch z), by kernel_rfl⟩
  | t => cases hb with
    | i1 => exact ⟨1, .i1, fun _ => by omega, by kernel_rfl⟩
    | i2 => exact ⟨2, .i2, fun _ => by omega, by kernel_rfl⟩
    | i3 => exact ⟨2, .i2, fun _ => by omega, by kernel_rfl⟩
    | i4 => exact ⟨4, .i4, fun _ => by omega, by kernel_rfl⟩
theorem five_ok {σ : En} (hp : Pool S i) (h0 : ∀ S, eVar 0 σ S = .ok (.ref i) S) : ∃ a S2, five (run (n + 1)) σ S = .ok (.int a) S2 ∧ In4 a ∧ Pool S2 i ∧ Chg i S S2 := by
  obtain ⟨r, S2, e, r0, r1, hp2, hc⟩ := c16 (n := n) (w := 5) hp (by omega) (by omega)
  obtain ⟨x, hx, e2⟩ := pick (S := S2) (xs := menu5) (m := 5) rfl r0 r1
  obtain ⟨a, rfl, ha⟩ := menu5_in hx
  refine ⟨a, S2, ?_, ha, hp2, hc⟩
  unfold five
  have e3 : ∀ σ S, eLv [eC (.int 1), eC (.int 2), eC (.int 2), eC (.int 3), eC (.int 4)] σ S = .ok (.lv menu5) S := fun _ _ => rfl
  simp only [eBin_ev, e3, eFn_ev, aList_cons, aList_nil, h0, eC_ev, bind_ok', e, e2]
theorem body17_ok {A : List D} {o2 o3 o4 o5 : Option D} (hp : Pool S i) (hk : S.get k = some (.lst A)) (hik : k ≠ i) (hl : A.length < 1000) :
    ∃ (l : Lvl) (S2 : Store) (q3 q4 q5 : Option D), body17 (run (n + 1)) [some (.ref i), some (.ref k), o2, o3, o4, o5] S = .nx [some (.ref i), some (.ref k), o2, q3, q4, q5] S2 ∧ Pool S2 i ∧ S2.get k = some (.lst (A ++ [l.d])) ∧ S2.size = S.size ∧
      ∀ j, j ≠ i → j ≠ k → S2.get j = S.get j := by
  obtain ⟨a, S1, e1, ha, hp1, hc1⟩ := five_ok (n := n) (σ := [some (.ref i), some (.ref k), o2, o3, o4, o5]) hp (fun _ => rfl)
  obtain ⟨b, S2, e2, hb, hp2, hc2⟩ := five_ok (n := n) (σ := [some (.ref i), some (.ref k), o2, o3, o4, o5]) hp1 (fun _ => rfl)
  obtain ⟨r, S3, e3, r0, r1, hp3, hc3⟩ := c16 (n := n) (w := 4) hp2 (by omega) (by omega)
  obtain ⟨u, hu, e4⟩ := pick (S := S3) (xs := rules4) (m := 4) rfl r0 r1
  have hr := rules4_in hu
  obtain ⟨b2, hb2, hn, e5⟩ := e17_ok (call := run (n + 1)) (S := S3) (o0 := some (.ref i)) (o1 := some (.ref k)) (o2 := o2) (o3 := some (.int a)) hb hr
  obtain ⟨t, S4, e6, t0, t1, hp4, hc4⟩ := c16 (n := n) (w := 3) hp3 (by omega) (by omega)
  obtain ⟨v, hv, e7⟩ := pick (S := S4) (xs := writes3) (m := 3) rfl t0 t1
  have hw := writes3_in hv
  have c4 : Chg i S S4 := ((hc1.trans hc2).trans hc3).trans hc4
  have hk4 : S4.get k = some (.lst A) := (c4.2 k hik).trans hk
  have nil : i < S.size := by obtain ⟨_, _, h, _⟩ := hp; exact Store.get_lt h
  refine ⟨⟨a, b2, u, v, ha, hb2, hr, hw, hn⟩, S4.set k (.lst (A ++ [Lvl.d ⟨a, b2, u, v, ha, hb2, hr, hw, hn⟩])), some (.int a), some (.int b2), some u, ?_, ?_, Store.get_set_same (Store.get_lt hk4), by rw [Store.size_set, c4.1], fun j hj hjk => by rw [Store.get_set_ne (Ne.symm hjk), c4.2 j hj]⟩
  · have f1 : s17a (run (n + 1)) [some (.ref i), some (.ref k), o2, o3, o4, o5] S = .nx [some (.ref i), some (.ref k), o2, some (.int a), some (.int b), o5] S2 := by
      unfold s17a sPar
      simp only [aList_cons, aList_nil, e1, e2, bind_ok']
      rfl
    have f2 : s17b (run (n + 1)) [some (.ref i), some (.ref k), o2, some (.int a), some (.int b), o5] S2 = .nx [some (.ref i), some (.ref k), o2, some (.int a), some (.int b), some u] S3 := by
      unfold s17b
      have e8 : ∀ σ S, eLv [eC used, eC brought, eC second, eC tree] σ S = .ok (.lv rules4) S := fun _ _ => rfl
      simp only [sAsg_ev, eBin_ev, e8, eFn_ev, aList_cons, aList_nil, eVar_0, eC_ev, bind_ok', e3, e4, gName_ev, List.set_cons_succ, List.set_cons_zero]
    have f3 : sSet 4 (e17 (run (n + 1))) [some (.ref i), some (.ref k), o2, some (.int a), some (.int b), some u] S3 = .nx [some (.ref i), some (.ref k), o2, some (.int a), some (.int b2), some u] S3 := by
      simp only [sAsg_ev, e5, gName_ev, List.set_cons_succ, List.set_cons_zero]
    have f4 : s17d (run (n + 1)) [some (.ref i), some (.ref k), o2, some (.int a), some (.int b2), some u] S3 = .nx [some (.ref i), some (.ref k), o2, some (.int a), some (.int b2), some u] (S4.set k (.lst (A ++ [Lvl.d ⟨a, b2, u, v, ha, hb2, hr, hw, hn⟩]))) := by
      have hk3 : S3.get k = some (.lst A) := (((hc1.trans hc2).trans hc3).2 k hik).trans hk
      have e9 : isLst (.ref k) S3 = true := by unfold isLst; rw [listAt_ref hk3]; rfl
      have e10 : ∀ σ S, eLv [eC back, eC back, eC through] σ S = .ok (.lv writes3) S := fun _ _ => rfl
      have e11 : appendF (.ref k) [.tup [.int a, .int b2, u, v]] S4 = .ok .non (S4.set k (.lst (A ++ [.tup [.int a, .int b2, u, v]]))) := by
        unfold appendF
        simp only [hk4]
        rw [if_pos (by unfold lim; omega)]
      unfold s17d eBm
      simp only [sDrop_ev, eVar_s, eVar_0, bind_ok', e9, if_true, aList_cons, aList_nil, eTup_ev, eBin_ev, e10, eFn_ev, eC_ev, e6, e7, e11]
      rfl
    unfold body17
    rw [seq_nx f1, seq_nx f2, seq_nx f3, f4]
  · obtain ⟨h, s, hg, q⟩ := hp4
    exact ⟨h, s, by rw [Store.get_set_ne hik]; exact hg, q⟩
theorem loop17 : ∀ (ds : List D) {A : List D} {o2 o3 o4 o5 : Option D} {S : Store}, Pool S i → S.get k = some (.lst A) → k ≠ i → A.length + ds.length < 1000 →
    ∃ (ls : List Lvl) (S2 : Store) (q2 q3 q4 q5 : Option D), forL (gName 2) (body17 (run (n + 1))) ds [some (.ref i), some (.ref k), o2, o3, o4, o5] S = .nx [some (.ref i), some (.ref k), q2, q3, q4, q5] S2 ∧ ls.length = ds.length ∧ Pool S2 i ∧
      S2.get k = some (.lst (A ++ ls.map Lvl.d)) ∧ S2.size = S.size ∧ ∀ j, j ≠ i → j ≠ k → S2.get j = S.get j
  | [], A, o2, o3, o4, o5, S, hp, hk, hik, hl => ⟨[], S, o2, o3, o4, o5, rfl, rfl, hp, by simpa using hk, rfl, fun _ _ _ => rfl⟩
  | d :: ds, A, o2, o3, o4, o5, S, hp, hk, hik, hl => by
    simp only [List.length_cons] at hl
    obtain ⟨l, S1, q3, q4, q5, e1, hp1, hk1, z1, old1⟩ := body17_ok (n := n) (o2 := some d) (o3 := o3) (o4 := o4) (o5 := o5) hp hk hik (by omega)
    obtain ⟨ls, S2, p2, p3, p4, p5, e2, hl2, hp2, hk2, z2, old2⟩ := loop17 ds (o2 := some d) (o3 := q3) (o4 := q4) (o5 := q5) hp1 hk1 hik (by simp; omega)
    refine ⟨l :: ls, S2, p2, p3, p4, p5, ?_, by simp [hl2], hp2, by simpa using hk2, z2.trans z1, fun j h1 h2 => (old2 j h1 h2).trans (old1 j h1 h2)⟩
    rw [forL_cons]
    simp only [gName_ev, List.set_cons_succ, List.set_cons_zero, e1]
    exact e2
theorem c17 (hp : Pool S i) : ∃ (a : Int) (ls : List Lvl) (S2 : Store), run (n + 2) 17 [.ref i] S = .ok (.tup [.int a, .tup (ls.map Lvl.d)]) S2 ∧ In4 a ∧ 1 ≤ ls.length ∧ ls.length ≤ 3 ∧ Pool S2 i ∧ S.size ≤ S2.size ∧ ∀ j, j < S.size → j ≠ i → S2.get j = S.get j := by
  have hi : i < S.size := by obtain ⟨_, _, h, _⟩ := hp; exact Store.get_lt h
  have g1 : (S.push (.lst [])).get S.size = some (.lst []) := Store.get_push_same
  have hp1 : Pool (S.push (.lst [])) i := by
    obtain ⟨h, s, hg, q⟩ := hp
    exact ⟨h, s, Store.get_push_some hg, q⟩
  obtain ⟨r, S1, e1, r0, r1, hpq, hc1⟩ := c16 (n := n) (w := 3) hp1 (by omega) (by omega)
  have g2 : S1.get S.size = some (.lst []) := (hc1.2 _ (by omega)).trans g1
  obtain ⟨ls, S2, q2, q3, q4, q5, e2, hl2, hp2, g3, z2, old⟩ := loop17 (n := n) (i := i) (k := S.size) (ups 0 (1 + r).toNat) (o2 := none) (o3 := none) (o4 := none) (o5 := none) hpq g2 (by omega) (by rw [ups_len]; simp; omega)
  rw [ups_len] at hl2
  obtain ⟨t, S3, e3, t0, t1, hp3, hc3⟩ := c16 (n := n) (w := 4) hp2 (by omega) (by omega)
  obtain ⟨x, hx, e4⟩ := pick (S := S3) (xs := lines4) (m := 4) rfl t0 t1
  obtain ⟨a, rfl, ha⟩ := lines4_in hx
  have g4 : S3.get S.size = some (.lst (ls.map Lvl.d)) := by rw [hc3.2 _ (by omega), g3]; simp
  refine ⟨a, ls, S3, ?_, ha, by omega, by omega, hp3, ?_, fun j hj hji => ?_⟩
  · rw [run_17, m17]
    have f1 : sSet 1 (eLst []) [some (.ref i), none, none, none, none, none] S = .nx [some (.ref i), some (.ref S.size), none, none, none, none] (S.push (.lst [])) := rfl
    have f2 : eBin (oAdd (run (n + 1))) (eC (.int 1)) (eFn (run (n + 1) 16) (aList [eVar 0, eC (.int 3)])) [some (.ref i), some (.ref S.size), none, none, none, none] (S.push (.lst [])) = .ok (.int (1 + r)) S1 := by
      simp only [eBin_ev, eC_ev, eFn_ev, aList_cons, aList_nil, eVar_0, bind_ok', e1]
      rfl
    have f3 := sFor_r1 (g := gName 2) (b := body17 (run (n + 1))) (n := 1000) f2 (by omega) (by omega) (by omega)
    rw [e2] at f3
    have f4 : ∀ σ S, eLv [eC (.int 1), eC (.int 2), eC (.int 2), eC (.int 4)] σ S = .ok (.lv lines4) S := fun _ _ => rfl
    have f5 : tupleF [.ref S.size] S3 = .ok (.tup (ls.map Lvl.d)) S3 := tupleF_list (listAt_ref g4)
    rw [seq_nx f1, seq_nx f3]
    simp only [sRet_ev, eTup_ev, aList_cons, aList_nil, eBin_ev, f4, eFn_ev, eVar_0, eVar_s, eC_ev, bind_ok', e3, e4, f5, fin_rt]
  · rw [hc3.1, z2, hc1.1, Store.size_push]; omega
  · rw [hc3.2 j hji, old j hji (by omega), hc1.2 j hji, Store.get_push_lt hj]
end
end L2.Mi.Pg

set_option Elab.async false
set_option linter.all false
set_option maxRecDepth 100000
set_option maxHeartbeats 1000000
/-! k12: texts of levels; forms. -/
namespace L2.Mi.Pg
open PySem
/-! ### texts -/
def GTx (x : Str) (n : Nat) : Prop := PyData.strOk x = true ∧ x.length ≤ n
theorem strOk_app {a b : Str} (ha : PyData.strOk a = true) (hb : PyData.strOk b = true) : PyData.strOk (a ++ b) = true := by
  show (a.cps ++ b.cps).all _ = true
  rw [Array.all_append, Bool.and_eq_true]
  exact ⟨ha, hb⟩
theorem GTx.app {a b : Str} {m n : Nat} (ha : GTx a m) (hb : GTx b n) : GTx (a ++ b) (m + n) := ⟨strOk_app ha.1 hb.1, by rw [strLen_append]; exact Nat.add_le_add ha.2 hb.2⟩
theorem GTx.mono {a : Str} {m n : Nat} (ha : GTx a m) (h : m ≤ n) : GTx a n := ⟨ha.1, Nat.le_trans ha.2 h⟩
theorem gtx_from : ∀ (ts : List Str) (k : Nat) (acc : Str) {m : Nat}, GTx acc m → (∀ t ∈ ts, GTx t 40) → GTx (textFrom k acc ts) (m + 42 * ts.length)
  | [], k, acc, m, ha, _ => ha
  | t :: ts, k, acc, m, ha, h => by
    have hsep : GTx ((if k > 0 then ", " else "" : String) : Str) 2 := by
      by_cases hk : k > 0
      · rw [if_pos hk]; exact ⟨by kernel_rfl, by decide⟩
      · rw [if_neg hk]; exact ⟨by kernel_rfl, by decide⟩
    have z := gtx_from ts (k + 1) _ ((ha.app hsep).app (h t (by simp))) (fun u hu => h u (by simp [hu]))
    refine GTx.mono z ?_
    simp only [List.length_cons]
    omega
theorem gtx_list {ts : List Str} (h : ∀ t ∈ ts, GTx t 40) : GTx (listText ts) (2 + 42 * ts.length) := by
  have z := (gtx_from ts 0 "[" (m := 1) ⟨by kernel_rfl, by decide⟩ h).app (b := "]") (n := 1) ⟨by kernel_rfl, by decide⟩
  exact GTx.mono z (by omega)
theorem gtx_join : ∀ (ts : List Str), (∀ t ∈ ts, GTx t 40) → GTx (Str.join ", " ts) (42 * ts.length)
  | [], _ => ⟨by kernel_rfl, by decide⟩
  | [t], h => GTx.mono (h t (by simp)) (by simp)
  | t :: u :: ts, h => by
    have z := ((h t (by simp)).app (b := ", ") (n := 2) ⟨by kernel_rfl, by decide⟩).app (gtx_join (u :: ts) fun v hv => h v (List.mem_cons_of_mem _ hv))
    refine GTx.mono z ?_
    simp only [List.length_cons]
    omega
theorem gtx_tup {ts : List Str} (h : ∀ t ∈ ts, GTx t 40) : GTx (tupleText ts) (3 + 42 * ts.length) := by
  have hend : GTx ((if ts.length == 1 then ",)" else ")" : String) : Str) 2 := by
    by_cases hk : (ts.length == 1) = true
    · rw [if_pos hk]; exact ⟨by kernel_rfl, by decide⟩
    · rw [if_neg hk]; exact ⟨by kernel_rfl, by decide⟩
  have z := (GTx.app (a := "(") (m := 1) ⟨by kernel_rfl, by decide⟩ (gtx_join ts h)).app hend
  exact GTx.mono z (by omega)
theorem l_txt (l : Lvl) : PyData.strOk l.p.shown = true := by
  obtain ⟨a, b, r, w, ha, hb, hr, hw, hn⟩ := l
  cases ha <;> cases hb <;> cases hr <;> cases hw <;> kernel_rfl
theorem shown_ls : ∀ (ls : List Lvl), ∀ t ∈ PyData.shownAll (ls.map Lvl.p), GTx t 40
  | [], t, h => by simp [PyData.shownAll] at h
  | l :: ls, t, h => by
    simp only [List.map_cons, PyData.shownAll, List.mem_cons] at h
    rcases h with rfl | h
    · exact ⟨l_txt l, (l_show l).2.2⟩
    · exact shown_ls ls t h
theorem shown_len : ∀ (ls : List Lvl), (PyData.shownAll (ls.map Lvl.p)).length = ls.length
  | [] => by simp [PyData.shownAll]
  | l :: ls => by simp [PyData.shownAll, shown_len ls]
theorem showable_ls : ∀ (ls : List Lvl), PyData.showableAll (ls.map Lvl.p) = true ∧ PyData.hasDictAll (ls.map Lvl.p) = false
  | [] => by simp [PyData.showableAll, PyData.hasDictAll]
  | l :: ls => by simp [PyData.showableAll, PyData.hasDictAll, showable_ls ls, l_show l]
theorem lay_ls : ∀ (ls : List Lvl), PyData.canLayAll0 (ls.map Lvl.p) = true ∧ PyData.depthAll (ls.map Lvl.p) ≤ 1
  | [] => by simp [PyData.canLayAll0, PyData.depthAll]
  | l :: ls => by
    obtain ⟨h1, h2⟩ := l_lay l
    obtain ⟨h3, h4⟩ := lay_ls ls
    simp only [List.map_cons, PyData.canLayAll0, PyData.depthAll, h1, h3, h2, Bool.and_self, true_and]
    omega
theorem dat_ls {n : Nat} {S : Store} : ∀ (ls : List Lvl), mapO (dat (n + 2) S) (ls.map Lvl.d) = some (ls.map Lvl.p)
  | [] => rfl
  | l :: ls => by
    simp only [List.map_cons]
    unfold mapO
    rw [l_dat l, dat_ls ls]
theorem pyD_ls {n : Nat} {S : Store} : ∀ (ls : List Lvl), optAll (pyD S (n + 2)) (ls.map Lvl.d) = some (ls.map Lvl.p)
  | [] => rfl
  | l :: ls => by
    simp only [List.map_cons]
    unfold optAll
    rw [l_pyD l, pyD_ls ls]
theorem sz_le {n : Nat} (h : n ≤ 100000) : n ≤ sizeLine := by rw [sizeLine_eq]; omega
theorem repr_list {S : Store} (ls : List Lvl) (hl : ls.length ≤ 1000) : reprF 8 [.lv (ls.map Lvl.d)] S = .ok (.str (listText (PyData.shownAll (ls.map Lvl.p))).cps.toList) S ∧ Txt (listText (PyData.shownAll (ls.map Lvl.p))).cps.toList := by
  have hg := gtx_list (shown_ls ls)
  rw [shown_len] at hg
  refine ⟨?_, by unfold Txt; simpa using hg.1⟩
  have e : pyD S 8 (.lv (ls.map Lvl.d)) = some (.list (ls.map Lvl.p)) := by
    show (optAll (pyD S 7) (ls.map Lvl.d)).map PyData.list = _
    rw [pyD_ls (n := 5) ls]
    rfl
  have ok : reprOk (.list (ls.map Lvl.p)) = true := by
    unfold reprOk
    simp only [PyData.showable, (showable_ls ls).1, PyData.hasDict, (showable_ls ls).2, Bool.not_false, Bool.true_and, Bool.and_eq_true, decide_eq_true_eq, PyData.shown, PyData.depth]
    refine ⟨decide_eq_true (sz_le (Nat.le_trans hg.2 (by omega))), decide_eq_true ?_⟩
    have := (lay_ls ls).2
    omega
  unfold reprF
  simp only [e, ok, if_true, PyData.shown]
theorem repr_tup {S : Store} (ls : List Lvl) (hl : ls.length ≤ 1000) : reprF 8 [.tup (ls.map Lvl.d)] S = .ok (.str (tupleText (PyData.shownAll (ls.map Lvl.p))).cps.toList) S ∧ Txt (tupleText (PyData.shownAll (ls.map Lvl.p))).cps.toList := by
  have hg := gtx_tup (shown_ls ls)
  rw [shown_len] at hg
  refine ⟨?_, by unfold Txt; simpa using hg.1⟩
  have e : pyD S 8 (.tup (ls.map Lvl.d)) = some (.tuple (ls.map Lvl.p)) := by
    show (optAll (pyD S 7) (ls.map Lvl.d)).map PyData.tuple = _
    rw [pyD_ls (n := 5) ls]
    rfl
  have ok : reprOk (.tuple (ls.map Lvl.p)) = true := by
    unfold reprOk
    simp only [PyData.showable, (showable_ls ls).1, PyData.hasDict, (showable_ls ls).2, Bool.not_false, Bool.true_and, Bool.and_eq_true, decide_eq_true_eq, PyData.shown, PyData.depth]
    refine ⟨decide_eq_true (sz_le (Nat.le_trans hg.2 (by omega))), decide_eq_true ?_⟩
    have := (lay_ls ls).2
    omega
  unfold reprF
  simp only [e, ok, if_true, PyData.shown]
/-! ### forms -/
def T (ls : List Lvl) : D := .tup (ls.map Lvl.d)
def Tp (ls : List Lvl) : PyData := .tuple (ls.map Lvl.p)
def form (i : Int) (ls : List Lvl) : D := .tup [.int i, T ls]
def formP (i : Int) (ls : List Lvl) : PyData := .tuple [.int i, Tp ls]
theorem T_dat {n : Nat} {S : Store} {ls : List Lvl} : dat (n + 3) S (T ls) = some (Tp ls) := by
  show (mapO (dat (n + 2) S) (ls.map Lvl.d)).map PyData.tuple = _
  rw [dat_ls]
  rfl
theorem form_dat {n : Nat} {S : Store} {i : Int} {ls : List Lvl} : dat (n + 4) S (form i ls) = some (formP i ls) := by
  show (mapO (dat (n + 3) S) [.int i, T ls]).map PyData.tuple = _
  unfold mapO mapO mapO
  rw [T_dat]
  rfl
theorem Tp_lay (ls : List Lvl) : (Tp ls).canLay0 = true ∧ (Tp ls).depth ≤ 2 := by
  obtain ⟨h1, h2⟩ := lay_ls ls
  refine ⟨by simp only [Tp, PyData.canLay0, h1], ?_⟩
  simp only [Tp, PyData.depth]
  omega
theorem form_shaped (i : Int) (ls : List Lvl) : SeqAt.shaped (formP i ls) = true := by
  obtain ⟨h1, h2⟩ := Tp_lay ls
  have d0 : (formP i ls).depth ≤ 64 := by
    unfold formP
    simp only [PyData.depth, PyData.depthAll]
    omega
  have l0 : (formP i ls).canLay0 = true := by
    unfold formP
    simp only [PyData.canLay0, PyData.canLayAll0, h1, Bool.and_self]
  unfold SeqAt.shaped
  rw [l0, decide_eq_true d0]
  rfl
theorem form_eqv {i j : Int} {ls ms : List Lvl} : (formP i ls).eqv (formP j ms) = ((i == j) && PyData.eqvAll (ls.map Lvl.p) (ms.map Lvl.p)) := by
  simp only [formP, PyData.eqv, PyData.eqvAll, Tp, Bool.and_true]
end L2.Mi.Pg

set_option Elab.async false
set_option linter.all false
set_option maxRecDepth 100000
set_option maxHeartbeats 1000000
/-! k12: caches as objects. -/
namespace L2.Mi.Pg
open PySem
/-- at k: the cache of line i and levels ls -/
def Ca (S : Store) (k : Nat) (i : Int) (ls : List Lvl) : Prop := S.get k = some (.ins 0 [(2, form i ls)])
section
variable {n k j : Nat} {S : Store} {i : Int} {ls ms : List Lvl}
theorem at_form_ok {call : Nat → FN} (h : Ca S k i ls) : attrF (at_form call) 2 (.ref k) S = .ok (form i ls) S := by
  unfold attrF
  simp only [show S.get k = some (.ins 0 [(2, form i ls)]) from h]
  rfl
theorem at_line_ok (h : Ca S k i ls) : attrF (at_line (run (n + 1))) 3 (.ref k) S = .ok (.int i) S := by
  have e1 := at_form_ok (call := run n) h
  have e2 : run (n + 1) 9 [.ref k] S = .ok (.int i) S := by
    rw [run_9]
    unfold m_9
    have e3 : itemF (form i ls) (.int 0) S = .ok (.int i) S := rfl
    simp only [sRet_ev, eBin_ev, eUn_ev, eVar_0, bind_ok', e1, eC_ev, e3, fin_rt]
  unfold attrF
  simp only [show S.get k = some (.ins 0 [(2, form i ls)]) from h, at_line]
  rw [e2]
  rfl
theorem at_levels_ok (h : Ca S k i ls) : attrF (at_levels (run (n + 1))) 4 (.ref k) S = .ok (T ls) S := by
  have e1 := at_form_ok (call := run n) h
  have e2 : run (n + 1) 10 [.ref k] S = .ok (T ls) S := by
    rw [run_10]
    unfold m_10
    have e3 : itemF (form i ls) (.int 1) S = .ok (T ls) S := rfl
    simp only [sRet_ev, eBin_ev, eUn_ev, eVar_0, bind_ok', e1, eC_ev, e3, fin_rt]
  unfold attrF
  simp only [show S.get k = some (.ins 0 [(2, form i ls)]) from h, at_levels]
  rw [e2]
  rfl
def setsOf (call : Nat → FN) : ME := eLcV (iSeq (eBin itemF (eUn (attrF (at_form call) 2) (eVar 0)) (eC (.int 1)))) (.one 1) (tYesM) (eBin itemF (eVar 1) (eC (.int 0))) [1] 1000
theorem setsOf_ok {call : Nat → FN} {o1 : Option D} (h : Ca S k i ls) (hl : ls.length ≤ 3) : setsOf call [some (.ref k), o1] S = .ok (.lv ((sets ls).map D.int)) S := by
  have e1 := at_form_ok (call := call) h
  have e3 : itemF (form i ls) (.int 1) S = .ok (T ls) S := rfl
  have e4 : eBin itemF (eUn (attrF (at_form call) 2) (eVar 0)) (eC (.int 1)) [some (.ref k), o1] S = .ok (T ls) S := by
    simp only [eBin_ev, eUn_ev, eVar_0, bind_ok', e1, eC_ev, e3]
  obtain ⟨src, e5, e6⟩ := src_its (m := eBin itemF (eUn (attrF (at_form call) 2) (eVar 0)) (eC (.int 1))) e4 (ds := ls.map Lvl.d) rfl
  have z := eLcV_list (t := .one 1) (mt := tYesM) (me := eBin itemF (eVar 1) (eC (.int 0))) (vs := [1]) (n := 1000) (fun _ => true) (fun d => match d with | .tup (x :: _) => x | d => d) e5 e6 (fun d hd => by
    obtain ⟨l, _, rfl⟩ := List.mem_map.mp hd
    exact ⟨[some (.ref k), some l.d], rfl, rfl, fun _ => rfl⟩) (by rw [List.length_map]; omega) (by rw [List.length_map]; omega)
  unfold setsOf
  rw [z]
  have q : ((ls.map Lvl.d).filter fun _ => true).map (fun d => match d with | .tup (x :: _) => x | d => d) = (sets ls).map D.int := by
    unfold sets
    rw [List.filter_eq_self.mpr (fun _ _ => rfl), List.map_map, List.map_map]
    rfl
  rw [q]
theorem at_sets_ok (h : Ca S k i ls) (hl : ls.length ≤ 3) : attrF (at_sets_together (run (n + 3))) 5 (.ref k) S = .ok (.int (lcmZ (sets ls))) S := by
  have e2 : run (n + 3) 11 [.ref k] S = .ok (.int (lcmZ (sets ls))) S := by
    rw [run_11]
    show fin (sRet (eFn (run (n + 2) 3) (aList [setsOf (run (n + 2))])) [some (.ref k), none] S) = _
    simp only [sRet_ev, eFn_ev, aList_cons, aList_nil, setsOf_ok h hl, bind_ok', c3 ls hl, fin_rt]
  unfold attrF
  simp only [show S.get k = some (.ins 0 [(2, form i ls)]) from h, at_sets_together]
  rw [e2]
  rfl
theorem at_period_ok (h : Ca S k i ls) (hi : In4 i) (hl : ls.length ≤ 3) : attrF (at_period (run (n + 3))) 6 (.ref k) S = .ok (.int (i * lcmZ (sets ls))) S := by
  have e1 := at_form_ok (call := run (n + 2)) h
  have e3 : itemF (form i ls) (.int 0) S = .ok (.int i) S := rfl
  have b1 := fnd_le (fnd_of ls)
  have b3 : mulOk i (lcmZ (sets ls)) = true := mulOk_r (by omega) (by omega)
  have e2 : run (n + 3) 12 [.ref k] S = .ok (.int (i * lcmZ (sets ls))) S := by
    rw [run_12]
    show fin (sRet (eBin (oMul (run (n + 2))) (eBin itemF (eUn (attrF (at_form (run (n + 2))) 2) (eVar 0)) (eC (.int 0))) (eFn (run (n + 2) 3) (aList [setsOf (run (n + 2))]))) [some (.ref k), none] S) = _
    simp only [sRet_ev, eBin_ev, eUn_ev, eVar_0, e1, eC_ev, e3, eFn_ev, aList_cons, aList_nil, setsOf_ok h hl, bind_ok', c3 ls hl, oMul_int b3, fin_rt]
  unfold attrF
  simp only [show S.get k = some (.ins 0 [(2, form i ls)]) from h, at_period]
  rw [e2]
  rfl
theorem len_ca (h : Ca S k i ls) (hl : ls.length ≤ 3) : fnOr lenF (lenO (dLen (run (n + 1)))) [.ref k] S = .ok (.int ls.length) S := by
  have e1 := at_form_ok (call := run n) h
  have e3 : itemF (form i ls) (.int 1) S = .ok (T ls) S := rfl
  have e4 : fnOr lenF (lenO (dLen (run n))) [T ls] S = .ok (.int ls.length) S := len_eq (by
    show Res.ok (D.int ((ls.map Lvl.d).length : Int)) S = _
    rw [List.length_map])
  have e2 : run (n + 1) 13 [.ref k] S = .ok (.int ls.length) S := by
    rw [run_13]
    unfold m_13
    simp only [sRet_ev, eFn_ev, aList_cons, aList_nil, eBin_ev, eUn_ev, eVar_0, bind_ok', e1, eC_ev, e3, e4, fin_rt]
  have e5 : lenF [.ref k] S = .bad := by
    unfold lenF listAt
    simp only [show S.get k = some (.ins 0 [(2, form i ls)]) from h]
  unfold fnOr
  rw [e5]
  show lenO (dLen (run (n + 1))) [.ref k] S = _
  unfold lenO
  simp only [show S.get k = some (.ins 0 [(2, form i ls)]) from h, dLen, e2]
  rw [if_pos ⟨by omega, by omega⟩]
theorem dat_ca (h : Ca S k i ls) : dat 64 S (.ref k) = none := by
  have e : S.get k = some (.ins 0 [(2, form i ls)]) := h
  simp [dat, listAt, e]
theorem tag_ca (h : Ca S k i ls) : tagOf S (.ref k) = some (.o 0) := by
  have e : S.get k = some (.ins 0 [(2, form i ls)]) := h
  simp [tagOf, e]
theorem c14 (h : Ca S k i ls) {i2 : Int} (h2 : Ca S j i2 ms) : run (n + 1) 14 [.ref k, .ref j] S = .ok (.bl ((formP i ls).eqv (formP i2 ms))) S := by
  have e1 := at_form_ok (call := run n) h
  have e2 := at_form_ok (call := run n) h2
  have e3 : isiF isiL [.ref j, .cl 0] S = .ok (.bl true) S := by
    unfold isiF
    simp only [tag_ca h2]
    rfl
  have e4 : oEq (run n) (form i ls) (form i2 ms) S = .ok (.bl ((formP i ls).eqv (formP i2 ms))) S := eq_dat form_dat form_dat (form_shaped _ _) (form_shaped _ _)
  rw [run_14]
  unfold m_14
  simp only [sRet_ev, eAnd_ev, tOf_ev, eFn_ev, aList_cons, aList_nil, eVar_0, eVar_s, eC_ev, bind_ok', e3, if_true, eBin_ev, eUn_ev, e1, e2, e4, fin_rt]
theorem eq_ca (h : Ca S k i ls) {i2 : Int} (h2 : Ca S j i2 ms) : oEq (run (n + 1)) (.ref k) (.ref j) S = .ok (.bl ((formP i ls).eqv (formP i2 ms))) S := by
  have e1 := c14 (n := n) h h2
  have g : S.get k = some (.ins 0 [(2, form i ls)]) := h
  unfold oEq eqF
  simp only [dat_ca h]
  unfold eqOwn
  simp only [g, tag_ca h2, dEq]
  rw [if_pos (by simp)]
  exact e1
theorem ne_ca (h : Ca S k i ls) {i2 : Int} (h2 : Ca S j i2 ms) : oNe (run (n + 1)) (.ref k) (.ref j) S = .ok (.bl (!(formP i ls).eqv (formP i2 ms))) S := by
  have e1 := c14 (n := n) h h2
  have g : S.get k = some (.ins 0 [(2, form i ls)]) := h
  unfold oNe neF
  simp only [dat_ca h]
  unfold neOwn
  simp only [g, tag_ca h2, dEq]
  rw [if_pos (by simp), e1]
theorem eq_other {y : D} {t : Tag} (h : Ca S k i ls) (ht : tagOf S y = some t) (hi : isiL t (.o 0) = some false) (hf : isiF isiL [y, .cl 0] S = .ok (.bl false) S) : oEq (run (n + 1)) (.ref k) y S = .ok (.bl false) S := by
  have g : S.get k = some (.ins 0 [(2, form i ls)]) := h
  unfold oEq eqF
  simp only [dat_ca h]
  unfold eqOwn
  simp only [g, ht, dEq]
  rw [if_pos (by rw [hi]; simp)]
  rw [run_14]
  unfold m_14
  simp only [sRet_ev, eAnd_ev, tOf_ev, eFn_ev, aList_cons, aList_nil, eVar_0, eVar_s, eC_ev, bind_ok', hf, Bool.false_eq_true, if_false, fin_rt]
theorem mk_ca (hi : In4 i) (h1 : 1 ≤ ls.length) (h3 : ls.length ≤ 3) : makeW 0 (run (n + 5) 8) [.int i, T ls] S = .ok (.ref S.size) (S.push (.ins 0 [(2, form i ls)])) ∧ Ca (S.push (.ins 0 [(2, form i ls)])) S.size i ls :=
  ⟨mk_ok fun S => c7 hi h1 h3, Store.get_push_same⟩
theorem Ca.push {o : Ob} (h : Ca S k i ls) : Ca (S.push o) k i ls := Store.get_push_some h
end
end L2.Mi.Pg

set_option Elab.async false
set_option linter.all false
set_option maxRecDepth 100000
set_option maxHeartbeats 1000000
/-! k12: the law, statement by statement. Printed by mk12j.py. -/
namespace L2.Mi.Pg
open PySem
def r1 (call : Nat → FN) : MS := sSet 3 (eFn (call 15) (aList [eVar 0, eVar 2]))
def r2 (call : Nat → FN) : MS := sAsg (eFn (call 17) (aList [eVar 3])) (gTup [gName 4, gName 5])
def r3 (call : Nat → FN) : MS := sSet 6 (eFn (makeW 0 (call 8)) (aList [eVar 4, eVar 5]))
def r4 (call : Nat → FN) : MS := sSet 7 (eFn (call 20) (aList [eVar 5]))
def r5 (call : Nat → FN) : MS := sIf (tOf (eBin (oNe call) (eLv [eUn (attrF (at_line call) 3) (eVar 6), eUn (attrF (at_levels call) 4) (eVar 6), eUn (attrF (at_sets_together call) 5) (eVar 6), eUn (attrF (at_period call) 6) (eVar 6)]) (eLv [eVar 4, eVar 5, eVar 7, eBin (oMul call) (eVar 4) (eVar 7)]))) (sRet (eC (.bl false))) (sNext)
def r6 (call : Nat → FN) : MS := sIf (tOr (tOf (eBin (oNe call) (eFn (fnOr lenF (lenO (dLen call))) (aList [eVar 6])) (eFn (fnOr lenF (lenO (dLen call))) (aList [eVar 5])))) (tOr (tOf (eBin (oNe call) (eVar 6) (eFn (makeW 0 (call 8)) (aList [eVar 4, eVar 5])))) (tOr (tOf (eBin (oEq call) (eVar 6) (eTup [eVar 4, eVar 5]))) (tOf (eBin (oEq call) (eVar 6) (eC .non)))))) (sRet (eC (.bl false))) (sNext)
def r7 (call : Nat → FN) : MS := sSet 8 (eBin (oAdd call) (eSlice (eBin itemF (eVar 5) (eUn (oNeg call) (eC (.int 1)))) (oNone) (oSome (eC (.int 3)))) (eTup [eBin itemF (eLv [eC (.str [98, 97, 99, 107]), eC (.str [116, 104, 114, 111, 117, 103, 104])]) (eFn intF (aList [eBin (oEq call) (eBin itemF (eBin itemF (eVar 5) (eUn (oNeg call) (eC (.int 1)))) (eC (.int 3))) (eC (.str [98, 97, 99, 107]))]))]))
def r8 (call : Nat → FN) : MS := sIf (tOr (tOf (eBin (oEq call) (eVar 6) (eFn (makeW 0 (call 8)) (aList [eBin (oAdd call) (eBin modI (eVar 4) (eC (.int 4))) (eC (.int 1)), eVar 5])))) (tOf (eBin (oEq call) (eVar 6) (eFn (makeW 0 (call 8)) (aList [eVar 4, eBin (oAdd call) (eSlice (eVar 5) (oNone) (oSome (eUn (oNeg call) (eC (.int 1))))) (eTup [eVar 8])]))))) (sRet (eC (.bl false))) (sNext)
def r9 (call : Nat → FN) : MS := sFor (iRange1 (eC (.int 6))) (gName 9) (sSeq (sPar 10 1 (eFn (call 16) (aList [eVar 3, eFn (fnOr lenF (lenO (dLen call))) (aList [eVar 5])])) (eFn (call 19) (aList [eVar 3])))
    (sSeq (sSet 11 (eBin (oAdd call) (eBin (oAdd call) (eSlice (eVar 5) (oNone) (oSome (eVar 10))) (eTup [eVar 1])) (eSlice (eVar 5) (oSome (eBin (oAdd call) (eVar 10) (eC (.int 1)))) (oNone))))
    (sIf (tOf (eBin (oNe call) (eFn (call 18) (aList [eVar 4, eVar 11])) (eLv [eC (.str [99, 97, 99, 104, 101]), eFn (reprF 8) (aList [eVar 1])]))) (sRet (eC (.bl false))) (sNext)))) 1000
def r10 (call : Nat → FN) : MS := sFor (iSeq (eLv [eC .non, eTup [], eFn listvF (aList [eVar 5]), eBin (oMul call) (eSlice (eVar 5) (oNone) (oSome (eC (.int 1)))) (eC (.int 4)), eC (.int 5), eC (.str [108, 105, 110, 101])])) (gName 1) (sIf (tOf (eBin (oNe call) (eFn (call 18) (aList [eVar 4, eVar 1])) (eLv [eC (.str [99, 97, 99, 104, 101]), eFn (reprF 8) (aList [eVar 1])]))) (sRet (eC (.bl false))) (sNext)) 1000
def r11 (call : Nat → FN) : MS := sSet 12 (eBin itemF (eLv [eC (.int 5), eC (.int 6), eC (.int 7), eC (.int 8)]) (eFn (call 16) (aList [eVar 3, eC (.int 4)])))
def r12 (call : Nat → FN) : MS := sFor (iRange2 (eC (.int 1)) (eC (.int 9))) (gName 13) (sSeq (sSet 14 (eTup [eTup [eVar 12, eC (.int 1), eC (.str [117, 115, 101, 100]), eC (.str [98, 97, 99, 107])], eTup [eC (.int 4), eC (.int 4), eC (.str [98, 114, 111, 117, 103, 104, 116]), eC (.str [116, 104, 114, 111, 117, 103, 104])]]))
    (sSeq (sSet 15 (eIf (tOf (eBin gtI (eBin (oMul call) (eVar 13) (eFn (call 20) (aList [eVar 14]))) (eC (.int 64)))) (eLv [eC (.str [108, 97, 114, 103, 101]), eC (.str [112, 101, 114, 105, 111, 100])]) (eLv [eC (.str [102, 105, 110, 101])])))
    (sIf (tOf (eBin (oNe call) (eFn (call 18) (aList [eVar 13, eVar 14])) (eVar 15))) (sRet (eC (.bl false))) (sNext)))) 1000
def r0 (call : Nat → FN) : MS := sFor (iSeq (eLv [eC .non, eC (.int 0), eC (.int 9), eUn (oNeg call) (eC (.int 1)), eC (.bl true), eC (.str [50]), eC (.int 1000), eLv [eC (.int 2)]])) (gName 1) (sIf (tOf (eBin (oNe call) (eFn (call 18) (aList [eVar 1, eC .non])) (eLv [eC (.str [99, 97, 99, 104, 101]), eFn (reprF 8) (aList [eVar 1])]))) (sRet (eC (.bl false))) (sNext)) 1000
def rnd (call : Nat → FN) : MS := sSeq (r1 call) (sSeq (r2 call) (sSeq (r3 call) (sSeq (r4 call) (sSeq (r5 call) (sSeq (r6 call) (sSeq (r7 call) (sSeq (r8 call) (sSeq (r9 call) (sSeq (r10 call) (sSeq (r11 call) (r12 call)))))))))))
theorem m21 (call : Nat → FN) : m_21 call = sSeq (r0 call) (sSeq (sFor (iRange1 (eFn max2F (aList [eC (.int 1), eFn min2F (aList [eFn (fnOr lenF (lenO (dLen call))) (aList [eVar 0]), eC (.int 6)])]))) (gName 2) (rnd call) 1000) (sRet (eC (.bl true)))) := rfl
section
variable {n k P : Nat} {S : Store} {i : Int} {ls : List Lvl} {o0 o1 o2 o3 o4 o5 o6 o7 o8 o9 o10 o11 o12 o13 o14 o15 : Option D} {ns : List Int}
theorem if_no {t : MT} {a : MS} {σ : En} {S S2 : Store} (h : t σ S = .ok false S2) : sIf t a sNext σ S = .nx σ S2 := by
  simp only [sIf_ev, h, Bool.false_eq_true, if_false, sNext_ev]
theorem or_no {t u : MT} {σ : En} {S S1 S2 : Store} (h : t σ S = .ok false S1) (h2 : u σ S1 = .ok false S2) : tOr t u σ S = .ok false S2 := by
  simp only [tOr_ev, h, bind_ok', Bool.false_eq_true, if_false, h2]

theorem r1_ok {ob : Ob} (e : run n 15 [.fl (ns.map D.int), .int (k : Int)] S = .ok (.ref S.size) (S.push ob)) : r1 (run n) [some (.fl (ns.map D.int)), o1, some (.int (k : Int)), o3, o4, o5, o6, o7, o8, o9, o10, o11, o12, o13, o14, o15] S = .nx [some (.fl (ns.map D.int)), o1, some (.int (k : Int)), some (.ref S.size), o4, o5, o6, o7, o8, o9, o10, o11, o12, o13, o14, o15] (S.push ob) := by
  unfold r1
  simp only [sAsg_ev, eFn_ev, aList_cons, aList_nil, eVar_s, eVar_0, bind_ok', e, gName_ev, List.set_cons_succ, List.set_cons_zero]
theorem r2_ok {S2 : Store} (e : run n 17 [.ref P] S = .ok (.tup [.int i, T ls]) S2) : r2 (run n) [o0, o1, o2, some (.ref P), o4, o5, o6, o7, o8, o9, o10, o11, o12, o13, o14, o15] S = .nx [o0, o1, o2, some (.ref P), some (.int i), some (T ls), o6, o7, o8, o9, o10, o11, o12, o13, o14, o15] S2 := by
  unfold r2
  have e2 : ∀ S, gTup [gName 4, gName 5] (.tup [.int i, T ls]) [o0, o1, o2, some (.ref P), o4, o5, o6, o7, o8, o9, o10, o11, o12, o13, o14, o15] S = .ok [o0, o1, o2, some (.ref P), some (.int i), some (T ls), o6, o7, o8, o9, o10, o11, o12, o13, o14, o15] S := fun _ => rfl
  simp only [sAsg_ev, eFn_ev, aList_cons, aList_nil, eVar_s, eVar_0, bind_ok', e, e2]
theorem r3_ok (hi : In4 i) (h1 : 1 ≤ ls.length) (h3 : ls.length ≤ 3) : r3 (run (n + 5)) [o0, o1, o2, some (.ref P), some (.int i), some (T ls), o6, o7, o8, o9, o10, o11, o12, o13, o14, o15] S = .nx [o0, o1, o2, some (.ref P), some (.int i), some (T ls), some (.ref S.size), o7, o8, o9, o10, o11, o12, o13, o14, o15] (S.push (.ins 0 [(2, form i ls)])) := by
  unfold r3
  simp only [sAsg_ev, eFn_ev, aList_cons, aList_nil, eVar_s, eVar_0, bind_ok', (mk_ca (n := n) (S := S) hi h1 h3).1, gName_ev, List.set_cons_succ, List.set_cons_zero]
theorem r4_ok (h3 : ls.length ≤ 3) : r4 (run (n + 1)) [o0, o1, o2, some (.ref P), some (.int i), some (T ls), some (.ref k), o7, o8, o9, o10, o11, o12, o13, o14, o15] S = .nx [o0, o1, o2, some (.ref P), some (.int i), some (T ls), some (.ref k), some (.int (lcmZ (sets ls))), o8, o9, o10, o11, o12, o13, o14, o15] S := by
  unfold r4
  have e : run (n + 1) 20 [T ls] S = .ok (.int (lcmZ (sets ls))) S := c20 (tg_of ls Fnd.i1).1 (by rw [List.length_map]; omega)
  simp only [sAsg_ev, eFn_ev, aList_cons, aList_nil, eVar_s, eVar_0, bind_ok', e, gName_ev, List.set_cons_succ, List.set_cons_zero]
theorem r5_ok (h : Ca S k i ls) (hi : In4 i) (h3 : ls.length ≤ 3) : r5 (run (n + 3)) [o0, o1, o2, some (.ref P), some (.int i), some (T ls), some (.ref k), some (.int (lcmZ (sets ls))), o8, o9, o10, o11, o12, o13, o14, o15] S = .nx [o0, o1, o2, some (.ref P), some (.int i), some (T ls), some (.ref k), some (.int (lcmZ (sets ls))), o8, o9, o10, o11, o12, o13, o14, o15] S := by
  have b1 := fnd_le (fnd_of ls)
  have b3 : mulOk i (lcmZ (sets ls)) = true := mulOk_r (by omega) (by omega)
  have sh : SeqAt.shaped (.list [.int i, Tp ls, .int (lcmZ (sets ls)), .int (i * lcmZ (sets ls))]) = true := by
    obtain ⟨h1, h2⟩ := Tp_lay ls
    unfold SeqAt.shaped
    have d0 : (PyData.list [.int i, Tp ls, .int (lcmZ (sets ls)), .int (i * lcmZ (sets ls))]).depth ≤ 64 := by
      simp only [PyData.depth, PyData.depthAll]
      omega
    rw [decide_eq_true d0]
    simp only [PyData.canLay0, PyData.canLayAll0, h1, Bool.and_self]
  have dt : dat 64 S (.lv [.int i, T ls, .int (lcmZ (sets ls)), .int (i * lcmZ (sets ls))]) = some (.list [.int i, Tp ls, .int (lcmZ (sets ls)), .int (i * lcmZ (sets ls))]) := by
    show (mapO (dat 63 S) [.int i, T ls, .int (lcmZ (sets ls)), .int (i * lcmZ (sets ls))]).map PyData.list = _
    unfold mapO mapO mapO mapO mapO
    rw [T_dat (n := 60)]
    rfl
  have e : oNe (run (n + 3)) (.lv [.int i, T ls, .int (lcmZ (sets ls)), .int (i * lcmZ (sets ls))]) (.lv [.int i, T ls, .int (lcmZ (sets ls)), .int (i * lcmZ (sets ls))]) S = .ok (.bl false) S := ne_same dt dt sh
  unfold r5
  refine if_no ?_
  simp only [tOf_ev, eBin_ev, eLv_ev, aList_cons, aList_nil, eUn_ev, eVar_s, eVar_0, bind_ok', at_line_ok (n := n + 2) h, at_levels_ok (n := n + 2) h, at_sets_ok h h3, at_period_ok h hi h3, oMul_int b3, e]
theorem r6_ok (h : Ca S k i ls) (hi : In4 i) (h1 : 1 ≤ ls.length) (h3 : ls.length ≤ 3) : r6 (run (n + 5)) [o0, o1, o2, some (.ref P), some (.int i), some (T ls), some (.ref k), some (.int (lcmZ (sets ls))), o8, o9, o10, o11, o12, o13, o14, o15] S = .nx [o0, o1, o2, some (.ref P), some (.int i), some (T ls), some (.ref k), some (.int (lcmZ (sets ls))), o8, o9, o10, o11, o12, o13, o14, o15] (S.push (.ins 0 [(2, form i ls)])) := by
  obtain ⟨e1, c1⟩ := mk_ca (n := n) (S := S) hi h1 h3
  have h2 : Ca (S.push (.ins 0 [(2, form i ls)])) k i ls := h.push
  have e2 : fnOr lenF (lenO (dLen (run (n + 5)))) [T ls] S = .ok (.int ls.length) S := len_eq (by
    show Res.ok (D.int ((ls.map Lvl.d).length : Int)) S = _
    rw [List.length_map])
  have e3 : oNe (run (n + 5)) (.int ls.length) (.int ls.length) S = .ok (.bl false) S := by
    show neF _ _ _ _ = _
    rw [neF_int]
    simp
  have e4 := ne_ca (n := n + 4) h2 c1
  rw [eqv_refl _ (SeqAt.canLay_of_shaped (form_shaped i ls))] at e4
  have e5 : oEq (run (n + 5)) (.ref k) (.tup [.int i, T ls]) (S.push (.ins 0 [(2, form i ls)])) = .ok (.bl false) (S.push (.ins 0 [(2, form i ls)])) := eq_other (n := n + 4) (t := .b "tuple") h2 rfl (by decide) rfl
  have e6 : oEq (run (n + 5)) (.ref k) .non (S.push (.ins 0 [(2, form i ls)])) = .ok (.bl false) (S.push (.ins 0 [(2, form i ls)])) := eq_other (n := n + 4) (t := .b "NoneType") h2 rfl (by decide) rfl
  unfold r6
  refine if_no ?_
  simp only [tOr_ev, tOf_ev, eBin_ev, eFn_ev, aList_cons, aList_nil, eTup_ev, eC_ev, eVar_s, eVar_0, bind_ok', len_ca (n := n + 4) h h3, e2, e3, Bool.false_eq_true, if_false, e1, e4, Bool.not_true, e5, e6]
end
end L2.Mi.Pg

set_option Elab.async false
set_option linter.all false
set_option maxRecDepth 100000
set_option maxHeartbeats 1000000
/-! k12: the law, second half. Printed by mk12k.py. -/
namespace L2.Mi.Pg
open PySem
section
variable {n k P : Nat} {S : Store} {i : Int} {ls : List Lvl} {o0 o1 o2 o3 o4 o5 o6 o7 o8 o9 o10 o11 o12 o13 o14 o15 : Option D} {ns : List Int}
theorem eqvAll_snoc {p q : PyData} (h : p.eqv q = false) : ∀ xs : List PyData, PyData.eqvAll (xs ++ [p]) (xs ++ [q]) = false
  | [] => by simp [PyData.eqvAll, h]
  | x :: xs => by simp [PyData.eqvAll, eqvAll_snoc h xs]
def x5 (call : Nat → FN) : ME := eBin itemF (eVar 5) (eUn (oNeg call) (eC (.int 1)))
def e7 (call : Nat → FN) : ME := eBin (oAdd call) (eSlice (x5 call) (oNone) (oSome (eC (.int 3)))) (eTup [eBin itemF (eLv [eC back, eC through]) (eFn intF (aList [eBin (oEq call) (eBin itemF (x5 call) (eC (.int 3))) (eC back)]))])
theorem last_ok {call : Nat → FN} {σ : En} (l : Lvl) (h5 : ∀ S, x5 call σ S = .ok l.d S) : ∃ l2 : Lvl, l.p.eqv l2.p = false ∧ e7 call σ S = .ok l2.d S := by
  obtain ⟨a, b, r, w, ha, hb, hr, hw, hn⟩ := l
  have s1 : eSlice (x5 call) (oNone) (oSome (eC (.int 3))) σ S = .ok (.tup [.int a, .int b, r]) S := by
    unfold eSlice
    rw [h5]
    rfl
  have s2 : eBin itemF (x5 call) (eC (.int 3)) σ S = .ok w S := by
    rw [eBin_ev, h5]
    rfl
  cases hw with
  | b =>
    refine ⟨⟨a, b, r, through, ha, hb, hr, .t, hn⟩, ?_, ?_⟩
    · simp [Lvl.p, Lvl.sD, PyData.eqv, PyData.eqvAll]
    · unfold e7
      rw [eBin_ev, s1, bind_ok']
      have s3 : eTup [eBin itemF (eLv [eC back, eC through]) (eFn intF (aList [eBin (oEq call) (eBin itemF (x5 call) (eC (.int 3))) (eC back)]))] σ S = .ok (.tup [through]) S := by
        have s4 : eFn intF (aList [eBin (oEq call) (eBin itemF (x5 call) (eC (.int 3))) (eC back)]) σ S = .ok (.int 1) S := by
          rw [eFn_ev, aList_cons, eBin_ev, s2]
          kernel_rfl
        have s5 : eLv [eC back, eC through] σ S = .ok (.lv [back, through]) S := rfl
        rw [eTup_ev, aList_cons, eBin_ev, s5, bind_ok', s4]
        rfl
      rw [s3]
      rfl
  | t =>
    refine ⟨⟨a, b, r, back, ha, hb, hr, .b, hn⟩, ?_, ?_⟩
    · simp [Lvl.p, Lvl.sD, PyData.eqv, PyData.eqvAll]
    · unfold e7
      rw [eBin_ev, s1, bind_ok']
      have s3 : eTup [eBin itemF (eLv [eC back, eC through]) (eFn intF (aList [eBin (oEq call) (eBin itemF (x5 call) (eC (.int 3))) (eC back)]))] σ S = .ok (.tup [back]) S := by
        have s4 : eFn intF (aList [eBin (oEq call) (eBin itemF (x5 call) (eC (.int 3))) (eC back)]) σ S = .ok (.int 0) S := by
          rw [eFn_ev, aList_cons, eBin_ev, s2]
          kernel_rfl
        have s5 : eLv [eC back, eC through] σ S = .ok (.lv [back, through]) S := rfl
        rw [eTup_ev, aList_cons, eBin_ev, s5, bind_ok', s4]
        rfl
      rw [s3]
      rfl
theorem r7_ok (h1 : 1 ≤ ls.length) : ∃ (ini : List Lvl) (l l2 : Lvl), ls = ini ++ [l] ∧ l.p.eqv l2.p = false ∧ r7 (run n) [o0, o1, o2, some (.ref P), some (.int i), some (T ls), o6, o7, o8, o9, o10, o11, o12, o13, o14, o15] S = .nx [o0, o1, o2, some (.ref P), some (.int i), some (T ls), o6, o7, some l2.d, o9, o10, o11, o12, o13, o14, o15] S := by
  have hne : ls ≠ [] := fun z => by rw [z] at h1; exact absurd h1 (by simp)
  have hls : ls = ls.dropLast ++ [ls.getLast hne] := (List.dropLast_concat_getLast hne).symm
  have h5 : ∀ S, x5 (run n) [o0, o1, o2, some (.ref P), some (.int i), some (T ls), o6, o7, o8, o9, o10, o11, o12, o13, o14, o15] S = .ok (ls.getLast hne).d S := fun S => by
    unfold x5
    have e1 : oNeg (run n) (.int 1) S = .ok (.int (-1)) S := rfl
    have e2 : itemF (T ls) (.int (-1)) S = .ok (ls.getLast hne).d S := by
      refine itemF_seq (xs := ls.map Lvl.d) rfl ?_
      conv => lhs; rw [hls]
      rw [List.map_append]
      exact atI_last
    simp only [eBin_ev, eVar_s, eVar_0, eUn_ev, eC_ev, bind_ok', e1, e2]
  obtain ⟨l2, q1, q2⟩ := last_ok (S := S) (ls.getLast hne) h5
  refine ⟨ls.dropLast, ls.getLast hne, l2, hls, q1, ?_⟩
  show sSet 8 (e7 (run n)) _ S = _
  simp only [sAsg_ev, q2, gName_ev, List.set_cons_succ, List.set_cons_zero]
theorem next_line (hi : In4 i) : In4 (i % 4 + 1) ∧ (i == i % 4 + 1) = false := by cases hi <;> exact ⟨by constructor, by decide⟩
theorem cut_ini {ini : List Lvl} {l : Lvl} (h3 : (ini ++ [l]).length ≤ 3) : sliceF (T (ini ++ [l])) none (some (-1)) S = .ok (T ini) S := by
  match ini, h3 with
  | [], _ => kernel_rfl
  | [a], _ => kernel_rfl
  | [a, b], _ => kernel_rfl
  | _ :: _ :: _ :: _, h => exact absurd h (by simp)
theorem add_T {ms : List Lvl} {o : D} (h : ms.length ≤ 3) : oAdd (run n) (T ms) (.tup [o]) S = .ok (.tup (ms.map Lvl.d ++ [o])) S := by
  match ms, h with
  | [], _ => kernel_rfl
  | [a], _ => kernel_rfl
  | [a, b], _ => kernel_rfl
  | [a, b, c], _ => kernel_rfl
  | _ :: _ :: _ :: _ :: _, h => exact absurd h (by simp)
theorem r8_ok {ini : List Lvl} {l l2 : Lvl} (hls : ls = ini ++ [l]) (hne : l.p.eqv l2.p = false) (h : Ca S k i ls) (hi : In4 i) (h1 : 1 ≤ ls.length) (h3 : ls.length ≤ 3) : ∃ oa ob, r8 (run (n + 5)) [o0, o1, o2, some (.ref P), some (.int i), some (T ls), some (.ref k), o7, some l2.d, o9, o10, o11, o12, o13, o14, o15] S = .nx [o0, o1, o2, some (.ref P), some (.int i), some (T ls), some (.ref k), o7, some l2.d, o9, o10, o11, o12, o13, o14, o15] ((S.push oa).push ob) := by
  obtain ⟨j4, jne⟩ := next_line hi
  obtain ⟨e1, c1⟩ := mk_ca (n := n) (S := S) j4 h1 h3
  have h3' : (ini ++ [l2]).length ≤ 3 := by rw [hls] at h3; simpa using h3
  obtain ⟨e2, c2⟩ := mk_ca (n := n) (S := S.push (.ins 0 [(2, form (i % 4 + 1) ls)])) (ls := ini ++ [l2]) hi (by simp) h3'
  have q1 := eq_ca (n := n + 4) (h.push (o := .ins 0 [(2, form (i % 4 + 1) ls)])) c1
  rw [form_eqv, jne, Bool.false_and] at q1
  have q2 := eq_ca (n := n + 4) ((h.push (o := .ins 0 [(2, form (i % 4 + 1) ls)])).push (o := .ins 0 [(2, form i (ini ++ [l2]))])) c2
  have hq : (formP i ls).eqv (formP i (ini ++ [l2])) = false := by
    rw [form_eqv, hls, List.map_append, List.map_append, List.map_cons, List.map_nil, List.map_cons, List.map_nil, eqvAll_snoc hne, Bool.and_false]
  rw [hq] at q2
  have q3 : ∀ S, sliceF (T ls) none (some (-1)) S = .ok (T ini) S := fun S => by rw [hls]; exact cut_ini (by rw [← hls]; exact h3)
  have q4 : ∀ S, oAdd (run (n + 5)) (T ini) (.tup [l2.d]) S = .ok (T (ini ++ [l2])) S := fun S => by
    rw [add_T (by rw [hls] at h3; simp at h3; omega)]
    unfold T
    rw [List.map_append]
    rfl
  have q5 : ∀ S, oNeg (run (n + 5)) (.int 1) S = .ok (.int (-1)) S := fun _ => rfl
  have q6 : ∀ S, oAdd (run (n + 5)) (.int (i % 4)) (.int 1) S = .ok (.int (i % 4 + 1)) S := fun _ => rfl
  refine ⟨.ins 0 [(2, form (i % 4 + 1) ls)], .ins 0 [(2, form i (ini ++ [l2]))], ?_⟩
  unfold r8
  refine if_no ?_
  have q7 : oSome (eUn (oNeg (run (n + 5))) (eC (.int 1))) [o0, o1, o2, some (.ref P), some (.int i), some (T ls), some (.ref k), o7, some l2.d, o9, o10, o11, o12, o13, o14, o15] (S.push (.ins 0 [(2, form (i % 4 + 1) ls)])) = .ok (some (-1)) (S.push (.ins 0 [(2, form (i % 4 + 1) ls)])) := rfl
  have q8 : oNone [o0, o1, o2, some (.ref P), some (.int i), some (T ls), some (.ref k), o7, some l2.d, o9, o10, o11, o12, o13, o14, o15] (S.push (.ins 0 [(2, form (i % 4 + 1) ls)])) = .ok none (S.push (.ins 0 [(2, form (i % 4 + 1) ls)])) := rfl
  simp only [tOr_ev, tOf_ev, eBin_ev, eFn_ev, aList_cons, aList_nil, eTup_ev, eC_ev, eVar_s, eVar_0, bind_ok', modI_ev (show (0 : Int) < 4 by omega), q6, e1, q1, Bool.false_eq_true, if_false, eSlice, q8, q7, q3, q4, e2, q2]
end
end L2.Mi.Pg

set_option Elab.async false
set_option linter.all false
set_option maxRecDepth 100000
set_option maxHeartbeats 1000000
/-! k12: the law's loops. Printed by mk12l.py. -/
namespace L2.Mi.Pg
open PySem
section
variable {n k P : Nat} {S : Store} {i : Int} {ls : List Lvl} {o0 o1 o2 o3 o4 o5 o6 o7 o8 o9 o10 o11 o12 o13 o14 o15 : Option D} {ns : List Int}
theorem pool_push {o : Ob} (h : Pool S P) : Pool (S.push o) P := by
  obtain ⟨a, b, hg, q⟩ := h
  exact ⟨a, b, Store.get_push_some hg, q⟩
def tst (call : Nat → FN) (x y o : Nat) : MS := sIf (tOf (eBin (oNe call) (eFn (call 18) (aList [eVar x, eVar y])) (eLv [eC (.str cacheW), eFn (reprF 8) (aList [eVar o])]))) (sRet (eC (.bl false))) (sNext)
theorem tst_ok {x y o : Nat} {σ : En} {dx dy d : D} {R : List Nat} (hx : ∀ S, eVar x σ S = .ok dx S) (hy : ∀ S, eVar y σ S = .ok dy S) (ho : ∀ S, eVar o σ S = .ok d S) (h : ∀ S, run (n + 4) 7 [dx, dy] S = .exc ⟨4, [(0, d)]⟩ S) (hr : ∀ S, reprF 8 [d] S = .ok (.str R) S) (ht : Txt R) :
    tst (run (n + 6)) x y o σ S = .nx σ (S.push (.ins 0 [])) := by
  unfold tst
  refine if_no ?_
  have tw : Txt cacheW := by unfold Txt; kernel_rfl
  simp only [tOf_ev, eBin_ev, eFn_ev, aList_cons, aList_nil, hx, hy, ho, bind_ok', heard_cache (n := n) h hr, eLv_ev, eC_ev, hr, ne_two tw ht]
def body9 (call : Nat → FN) : MS := sSeq (sPar 10 1 (eFn (call 16) (aList [eVar 3, eFn (fnOr lenF (lenO (dLen call))) (aList [eVar 5])])) (eFn (call 19) (aList [eVar 3])))
    (sSeq (sSet 11 (eBin (oAdd call) (eBin (oAdd call) (eSlice (eVar 5) (oNone) (oSome (eVar 10))) (eTup [eVar 1])) (eSlice (eVar 5) (oSome (eBin (oAdd call) (eVar 10) (eC (.int 1)))) (oNone)))) (tst call 4 11 1))
theorem r9_eq (call : Nat → FN) : r9 call = sFor (iRange1 (eC (.int 6))) (gName 9) (body9 call) 1000 := rfl
theorem bent_ok {o : D} {a : Int} (h3 : ls.length ≤ 3) (a0 : 0 ≤ a) (a1 : a < ls.length) : ∃ (pre : List Lvl) (rest : List D), (pre.map Lvl.d ++ o :: rest).length ≤ 3 ∧
    ∀ S, eBin (oAdd (run n)) (eBin (oAdd (run n)) (eSlice (eVar 5) (oNone) (oSome (eVar 10))) (eTup [eVar 1])) (eSlice (eVar 5) (oSome (eBin (oAdd (run n)) (eVar 10) (eC (.int 1)))) (oNone)) [o0, some o, o2, some (.ref P), some (.int i), some (T ls), o6, o7, o8, o9, some (.int a), o11, o12, o13, o14, o15] S = .ok (.tup (pre.map Lvl.d ++ o :: rest)) S := by
  match ls, h3, a1 with
  | [], _, h => exact absurd h (by simp; omega)
  | [x], _, h =>
    have e : a = 0 := by simp at h; omega
    subst e
    exact ⟨[], [], by simp, fun S => by kernel_rfl⟩
  | [x, y], _, h =>
    have e : a = 0 ∨ a = 1 := by simp at h; omega
    rcases e with e | e
    · subst e
      exact ⟨[], [y.d], by simp, fun S => by kernel_rfl⟩
    · subst e
      exact ⟨[x], [], by simp, fun S => by kernel_rfl⟩
  | [x, y, z], _, h =>
    have e : a = 0 ∨ a = 1 ∨ a = 2 := by simp at h; omega
    rcases e with e | e | e
    · subst e
      exact ⟨[], [y.d, z.d], by simp, fun S => by kernel_rfl⟩
    · subst e
      exact ⟨[x], [z.d], by simp, fun S => by kernel_rfl⟩
    · subst e
      exact ⟨[x, y], [], by simp, fun S => by kernel_rfl⟩
  | _ :: _ :: _ :: _ :: _, h, _ => exact absurd h (by simp)
theorem body9_ok (hp : Pool S P) (hi : In4 i) (h1 : 1 ≤ ls.length) (h3 : ls.length ≤ 3) : ∃ q1 q10 q11 S2, body9 (run (n + 6)) [o0, o1, o2, some (.ref P), some (.int i), some (T ls), o6, o7, o8, o9, o10, o11, o12, o13, o14, o15] S = .nx [o0, q1, o2, some (.ref P), some (.int i), some (T ls), o6, o7, o8, o9, q10, q11, o12, o13, o14, o15] S2 ∧ Pool S2 P := by
  obtain ⟨a, S1, e1, a0, a1, hp1, _⟩ := c16 (n := n + 5) (w := ls.length) hp (by omega) (by omega)
  obtain ⟨o, S2, e2, hodd, hp2, _, _⟩ := c19 (n := n + 4) hp1
  obtain ⟨pre, rest, hl, e3⟩ := bent_ok (n := n + 6) (P := P) (i := i) (o := o) (o0 := o0) (o2 := o2) (o6 := o6) (o7 := o7) (o8 := o8) (o9 := o9) (o11 := o11) (o12 := o12) (o13 := o13) (o14 := o14) (o15 := o15) h3 a0 a1
  have e4 : fnOr lenF (lenO (dLen (run (n + 6)))) [T ls] S = .ok (.int ls.length) S := len_eq (by
    show Res.ok (D.int ((ls.map Lvl.d).length : Int)) S = _
    rw [List.length_map])
  have f1 : sPar 10 1 (eFn (run (n + 6) 16) (aList [eVar 3, eFn (fnOr lenF (lenO (dLen (run (n + 6))))) (aList [eVar 5])])) (eFn (run (n + 6) 19) (aList [eVar 3])) [o0, o1, o2, some (.ref P), some (.int i), some (T ls), o6, o7, o8, o9, o10, o11, o12, o13, o14, o15] S = .nx [o0, some o, o2, some (.ref P), some (.int i), some (T ls), o6, o7, o8, o9, some (.int a), o11, o12, o13, o14, o15] S2 := by
    unfold sPar
    simp only [eFn_ev, aList_cons, aList_nil, eVar_s, eVar_0, bind_ok', e4, e1, e2]
    rfl
  have f2 : sSet 11 (eBin (oAdd (run (n + 6))) (eBin (oAdd (run (n + 6))) (eSlice (eVar 5) (oNone) (oSome (eVar 10))) (eTup [eVar 1])) (eSlice (eVar 5) (oSome (eBin (oAdd (run (n + 6))) (eVar 10) (eC (.int 1)))) (oNone))) [o0, some o, o2, some (.ref P), some (.int i), some (T ls), o6, o7, o8, o9, some (.int a), o11, o12, o13, o14, o15] S2 = .nx [o0, some o, o2, some (.ref P), some (.int i), some (T ls), o6, o7, o8, o9, some (.int a), some (.tup (pre.map Lvl.d ++ o :: rest)), o12, o13, o14, o15] S2 := by
    simp only [sAsg_ev, e3, gName_ev, List.set_cons_succ, List.set_cons_zero]
  refine ⟨some o, some (.int a), some (.tup (pre.map Lvl.d ++ o :: rest)), S2.push (.ins 0 []), ?_, pool_push hp2⟩
  unfold body9
  rw [seq_nx f1, seq_nx f2]
  exact tst_ok (fun _ => rfl) (fun _ => rfl) (fun _ => rfl) (fun S => c7_odd hi.in8 hl (fun S => hodd.no n S)) hodd.rp hodd.tx
theorem loop9 (hi : In4 i) (h1 : 1 ≤ ls.length) (h3 : ls.length ≤ 3) : ∀ (ds : List D) {o1 o9 o10 o11 : Option D} {S : Store}, Pool S P → ∃ q1 q9 q10 q11 S2, forL (gName 9) (body9 (run (n + 6))) ds [o0, o1, o2, some (.ref P), some (.int i), some (T ls), o6, o7, o8, o9, o10, o11, o12, o13, o14, o15] S = .nx [o0, q1, o2, some (.ref P), some (.int i), some (T ls), o6, o7, o8, q9, q10, q11, o12, o13, o14, o15] S2 ∧ Pool S2 P
  | [], o1, o9, o10, o11, S, hp => ⟨o1, o9, o10, o11, S, rfl, hp⟩
  | d :: ds, o1, o9, o10, o11, S, hp => by
    obtain ⟨q1, q10, q11, S1, e1, hp1⟩ := body9_ok (n := n) (o0 := o0) (o1 := o1) (o2 := o2) (o6 := o6) (o7 := o7) (o8 := o8) (o9 := some d) (o10 := o10) (o11 := o11) (o12 := o12) (o13 := o13) (o14 := o14) (o15 := o15) hp hi h1 h3
    obtain ⟨p1, p9, p10, p11, S2, e2, hp2⟩ := loop9 hi h1 h3 ds (o1 := q1) (o9 := some d) (o10 := q10) (o11 := q11) hp1
    refine ⟨p1, p9, p10, p11, S2, ?_, hp2⟩
    rw [forL_cons]
    simp only [gName_ev, List.set_cons_succ, List.set_cons_zero, e1]
    exact e2
theorem r9_ok (hp : Pool S P) (hi : In4 i) (h1 : 1 ≤ ls.length) (h3 : ls.length ≤ 3) : ∃ q1 q9 q10 q11 S2, r9 (run (n + 6)) [o0, o1, o2, some (.ref P), some (.int i), some (T ls), o6, o7, o8, o9, o10, o11, o12, o13, o14, o15] S = .nx [o0, q1, o2, some (.ref P), some (.int i), some (T ls), o6, o7, o8, q9, q10, q11, o12, o13, o14, o15] S2 ∧ Pool S2 P := by
  obtain ⟨q1, q9, q10, q11, S2, e, hp2⟩ := loop9 (n := n) (P := P) (i := i) (o0 := o0) (o2 := o2) (o6 := o6) (o7 := o7) (o8 := o8) (o12 := o12) (o13 := o13) (o14 := o14) (o15 := o15) hi h1 h3 (ups 0 (6 : Int).toNat) (o1 := o1) (o9 := o9) (o10 := o10) (o11 := o11) hp
  refine ⟨q1, q9, q10, q11, S2, ?_, hp2⟩
  rw [r9_eq, sFor_r1 (j := 6) (S1 := S) rfl (by omega) (by omega) (by decide)]
  exact e
structure No10 (n : Nat) (i : Int) (o : D) : Prop where
  ex : ∃ R, (∀ S, run (n + 4) 7 [.int i, o] S = .exc ⟨4, [(0, o)]⟩ S) ∧ (∀ S, reprF 8 [o] S = .ok (.str R) S) ∧ Txt R
theorem loop10 : ∀ (ds : List D) {o1 : Option D} {S : Store}, (∀ d ∈ ds, No10 n i d) → Pool S P → ∃ q1 S2, forL (gName 1) (tst (run (n + 6)) 4 1 1) ds [o0, o1, o2, some (.ref P), some (.int i), some (T ls), o6, o7, o8, o9, o10, o11, o12, o13, o14, o15] S = .nx [o0, q1, o2, some (.ref P), some (.int i), some (T ls), o6, o7, o8, o9, o10, o11, o12, o13, o14, o15] S2 ∧ Pool S2 P
  | [], o1, S, _, hp => ⟨o1, S, rfl, hp⟩
  | d :: ds, o1, S, h, hp => by
    obtain ⟨R, e1, e2, e3⟩ := (h d (by simp)).ex
    obtain ⟨q1, S2, e4, hp2⟩ := loop10 ds (o1 := some d) (fun x hx => h x (by simp [hx])) (pool_push (o := .ins 0 []) hp)
    refine ⟨q1, S2, ?_, hp2⟩
    have f : tst (run (n + 6)) 4 1 1 [o0, some d, o2, some (.ref P), some (.int i), some (T ls), o6, o7, o8, o9, o10, o11, o12, o13, o14, o15] S = .nx [o0, some d, o2, some (.ref P), some (.int i), some (T ls), o6, o7, o8, o9, o10, o11, o12, o13, o14, o15] (S.push (.ins 0 [])) := tst_ok (fun _ => rfl) (fun _ => rfl) (fun _ => rfl) e1 e2 e3
    rw [forL_cons]
    simp only [gName_ev, List.set_cons_succ, List.set_cons_zero, f]
    exact e4
theorem r10_eq (call : Nat → FN) : r10 call = sFor (iSeq (eLv [eC .non, eTup [], eFn listvF (aList [eVar 5]), eBin (oMul call) (eSlice (eVar 5) (oNone) (oSome (eC (.int 1)))) (eC (.int 4)), eC (.int 5), eC (.str [108, 105, 110, 101])])) (gName 1) (tst call 4 1 1) 1000 := rfl
theorem r10_ok (hp : Pool S P) (hi : In4 i) (h1 : 1 ≤ ls.length) (h3 : ls.length ≤ 3) : ∃ q1 S2, r10 (run (n + 6)) [o0, o1, o2, some (.ref P), some (.int i), some (T ls), o6, o7, o8, o9, o10, o11, o12, o13, o14, o15] S = .nx [o0, q1, o2, some (.ref P), some (.int i), some (T ls), o6, o7, o8, o9, o10, o11, o12, o13, o14, o15] S2 ∧ Pool S2 P := by
  obtain ⟨l, hl⟩ : ∃ l, ls = l :: ls.tail := by
    cases ls with
    | nil => exact absurd h1 (by simp)
    | cons x xs => exact ⟨x, rfl⟩
  have hd : ∀ d ∈ [D.non, D.tup [], D.lv (ls.map Lvl.d), T [l, l, l, l], D.int 5, D.str [108, 105, 110, 101]], No10 n i d := by
    intro d h
    simp only [List.mem_cons, List.not_mem_nil, or_false] at h
    rcases h with rfl | rfl | rfl | rfl | rfl | rfl
    · exact ⟨Rof .non, fun S => c7_no hi.in8 (fun S => by kernel_rfl), fun S => by kernel_rfl, by unfold Txt; kernel_rfl⟩
    · exact ⟨Rof (.tup []), fun S => c7_no hi.in8 (fun S => by kernel_rfl), fun S => by kernel_rfl, by unfold Txt; kernel_rfl⟩
    · exact ⟨_, fun S => c7_no hi.in8 (fun S => by kernel_rfl), fun S => (repr_list ls (by omega)).1, (repr_list (S := ⟨[]⟩) ls (by omega)).2⟩
    · exact ⟨_, fun S => c7_no hi.in8 (fun S => by kernel_rfl), fun S => (repr_tup [l, l, l, l] (by simp)).1, (repr_tup (S := ⟨[]⟩) [l, l, l, l] (by simp)).2⟩
    · exact ⟨Rof (.int 5), fun S => c7_no hi.in8 (fun S => by kernel_rfl), fun S => by kernel_rfl, by unfold Txt; kernel_rfl⟩
    · exact ⟨Rof (.str [108, 105, 110, 101]), fun S => c7_no hi.in8 (fun S => by kernel_rfl), fun S => by kernel_rfl, by unfold Txt; kernel_rfl⟩
  obtain ⟨q1, S2, e, hp2⟩ := loop10 (n := n) (i := i) (P := P) (ls := ls) (o0 := o0) (o2 := o2) (o6 := o6) (o7 := o7) (o8 := o8) (o9 := o9) (o10 := o10) (o11 := o11) (o12 := o12) (o13 := o13) (o14 := o14) (o15 := o15) _ (o1 := o1) hd hp
  refine ⟨q1, S2, ?_, hp2⟩
  have f : eLv [eC .non, eTup [], eFn listvF (aList [eVar 5]), eBin (oMul (run (n + 6))) (eSlice (eVar 5) (oNone) (oSome (eC (.int 1)))) (eC (.int 4)), eC (.int 5), eC (.str [108, 105, 110, 101])] [o0, o1, o2, some (.ref P), some (.int i), some (T ls), o6, o7, o8, o9, o10, o11, o12, o13, o14, o15] S = .ok (.lv [D.non, D.tup [], D.lv (ls.map Lvl.d), T [l, l, l, l], D.int 5, D.str [108, 105, 110, 101]]) S := by
    rw [hl]
    kernel_rfl
  rw [r10_eq, sFor_seq f rfl (by simp)]
  exact e
inductive In58 : Int → Prop
  | i5 : In58 5 | i6 : In58 6 | i7 : In58 7 | i8 : In58 8
theorem r11_ok (hp : Pool S P) : ∃ s S2, r11 (run (n + 1)) [o0, o1, o2, some (.ref P), o4, o5, o6, o7, o8, o9, o10, o11, o12, o13, o14, o15] S = .nx [o0, o1, o2, some (.ref P), o4, o5, o6, o7, o8, o9, o10, o11, some (.int s), o13, o14, o15] S2 ∧ In58 s ∧ Pool S2 P := by
  obtain ⟨r, S2, e, r0, r1, hp2, _⟩ := c16 (n := n) (w := 4) hp (by omega) (by omega)
  obtain ⟨x, hx, e2⟩ := pick (S := S2) (xs := [.int 5, .int 6, .int 7, .int 8]) (m := 4) rfl r0 r1
  have hs : ∃ s, x = .int s ∧ In58 s := by
    simp only [List.mem_cons, List.not_mem_nil, or_false] at hx
    rcases hx with rfl | rfl | rfl | rfl
    · exact ⟨5, rfl, .i5⟩
    · exact ⟨6, rfl, .i6⟩
    · exact ⟨7, rfl, .i7⟩
    · exact ⟨8, rfl, .i8⟩
  obtain ⟨s, rfl, hs⟩ := hs
  refine ⟨s, S2, ?_, hs, hp2⟩
  unfold r11
  have e3 : ∀ σ S, eLv [eC (.int 5), eC (.int 6), eC (.int 7), eC (.int 8)] σ S = .ok (.lv [.int 5, .int 6, .int 7, .int 8]) S := fun _ _ => rfl
  simp only [sAsg_ev, eBin_ev, e3, eFn_ev, aList_cons, aList_nil, eVar_s, eVar_0, eC_ev, bind_ok', e, e2, gName_ev, List.set_cons_succ, List.set_cons_zero]
def wider (s : Int) : D := .tup [.tup [.int s, .int 1, used, back], .tup [.int 4, .int 4, brought, through]]
def wl (s : Int) : Int := (Int.lcm s 4 : Nat)
theorem tog_wider {s : Int} (h : In58 s) : run (n + 1) 20 [wider s] S = .ok (.int (wl s)) S := by
  refine c20 (ds := [.tup [.int s, .int 1, used, back], .tup [.int 4, .int 4, brought, through]]) ?_ (by simp)
  cases h with
  | i5 => exact .cons (g := 5) (fun call p0 p3 p4 p5 p6 => comp_ok (by omega) (by omega) (by kernel_rfl)) (.cons (g := wl 5) (fun call p0 p3 p4 p5 p6 => comp_ok (by omega) (by omega) (by kernel_rfl)) .nil)
  | i6 => exact .cons (g := 6) (fun call p0 p3 p4 p5 p6 => comp_ok (by omega) (by omega) (by kernel_rfl)) (.cons (g := wl 6) (fun call p0 p3 p4 p5 p6 => comp_ok (by omega) (by omega) (by kernel_rfl)) .nil)
  | i7 => exact .cons (g := 7) (fun call p0 p3 p4 p5 p6 => comp_ok (by omega) (by omega) (by kernel_rfl)) (.cons (g := wl 7) (fun call p0 p3 p4 p5 p6 => comp_ok (by omega) (by omega) (by kernel_rfl)) .nil)
  | i8 => exact .cons (g := 8) (fun call p0 p3 p4 p5 p6 => comp_ok (by omega) (by omega) (by kernel_rfl)) (.cons (g := wl 8) (fun call p0 p3 p4 p5 p6 => comp_ok (by omega) (by omega) (by kernel_rfl)) .nil)
theorem c7_wider {s v : Int} (hs : In58 s) (hv : In8 v) : run (n + 4) 7 [.int v, wider s] S = if decide (64 < v * wl s) = true then .exc ⟨3, [(1, .str periodW)]⟩ S else .ok .non S := by
  cases hs <;> cases hv <;> kernel_rfl
def dueOf (b : Bool) : D := if b then .lv [.str largeW, .str periodW] else .lv [.str fineW]
def body12 (call : Nat → FN) : MS := sSeq (sSet 14 (eTup [eTup [eVar 12, eC (.int 1), eC used, eC back], eTup [eC (.int 4), eC (.int 4), eC brought, eC through]]))
    (sSeq (sSet 15 (eIf (tOf (eBin gtI (eBin (oMul call) (eVar 13) (eFn (call 20) (aList [eVar 14]))) (eC (.int 64)))) (eLv [eC (.str largeW), eC (.str periodW)]) (eLv [eC (.str fineW)])))
    (sIf (tOf (eBin (oNe call) (eFn (call 18) (aList [eVar 13, eVar 14])) (eVar 15))) (sRet (eC (.bl false))) (sNext)))
theorem r12_eq (call : Nat → FN) : r12 call = sFor (iRange2 (eC (.int 1)) (eC (.int 9))) (gName 13) (body12 call) 1000 := rfl
theorem body12_ok {s v : Int} (hs : In58 s) (hv : In8 v) : ∃ q14 q15 ob, body12 (run (n + 6)) [o0, o1, o2, o3, o4, o5, o6, o7, o8, o9, o10, o11, some (.int s), some (.int v), o14, o15] S = .nx [o0, o1, o2, o3, o4, o5, o6, o7, o8, o9, o10, o11, some (.int s), some (.int v), q14, q15] (S.push ob) := by
  have m1 : mulOk v (wl s) = true := by cases hs <;> cases hv <;> decide
  have f1 : sSet 14 (eTup [eTup [eVar 12, eC (.int 1), eC used, eC back], eTup [eC (.int 4), eC (.int 4), eC brought, eC through]]) [o0, o1, o2, o3, o4, o5, o6, o7, o8, o9, o10, o11, some (.int s), some (.int v), o14, o15] S = .nx [o0, o1, o2, o3, o4, o5, o6, o7, o8, o9, o10, o11, some (.int s), some (.int v), some (wider s), o15] S := rfl
  have f2 : sSet 15 (eIf (tOf (eBin gtI (eBin (oMul (run (n + 6))) (eVar 13) (eFn (run (n + 6) 20) (aList [eVar 14]))) (eC (.int 64)))) (eLv [eC (.str largeW), eC (.str periodW)]) (eLv [eC (.str fineW)])) [o0, o1, o2, o3, o4, o5, o6, o7, o8, o9, o10, o11, some (.int s), some (.int v), some (wider s), o15] S = .nx [o0, o1, o2, o3, o4, o5, o6, o7, o8, o9, o10, o11, some (.int s), some (.int v), some (wider s), some (dueOf (decide (64 < v * wl s)))] S := by
    have e1 : ∀ σ S, eLv [eC (.str largeW), eC (.str periodW)] σ S = .ok (dueOf true) S := fun _ _ => rfl
    have e2 : ∀ σ S, eLv [eC (.str fineW)] σ S = .ok (dueOf false) S := fun _ _ => rfl
    simp only [sAsg_ev, eIf_ev, tOf_ev, eBin_ev, eVar_s, eVar_0, eFn_ev, aList_cons, aList_nil, bind_ok', tog_wider (n := n + 5) hs, oMul_int m1, eC_ev, gtI_ev, e1, e2]
    cases decide (64 < v * wl s) <;> simp only [Bool.false_eq_true, if_false, if_true, gName_ev, List.set_cons_succ, List.set_cons_zero]
  have f3 : ∃ ob, run (n + 6) 18 [.int v, wider s] S = .ok (dueOf (decide (64 < v * wl s))) (S.push ob) := by
    cases hb : decide (64 < v * wl s) with
    | true => exact ⟨_, heard_large (n := n) fun S => by rw [c7_wider hs hv, hb]; rfl⟩
    | false => exact ⟨_, heard_fine (n := n) fun S => by rw [c7_wider hs hv, hb]; rfl⟩
  obtain ⟨ob, f3⟩ := f3
  have f4 : ∀ (b : Bool) (S : Store), oNe (run (n + 6)) (dueOf b) (dueOf b) S = .ok (.bl false) S := fun b S => by cases b <;> kernel_rfl
  refine ⟨some (wider s), some (dueOf (decide (64 < v * wl s))), ob, ?_⟩
  unfold body12
  rw [seq_nx f1, seq_nx f2]
  refine if_no ?_
  simp only [tOf_ev, eBin_ev, eFn_ev, aList_cons, aList_nil, eVar_s, eVar_0, bind_ok', f3, f4]
theorem loop12 {s : Int} (hs : In58 s) : ∀ (ds : List D) {o13 o14 o15 : Option D} {S : Store}, (∀ d ∈ ds, ∃ v, d = .int v ∧ In8 v) → ∃ q13 q14 q15 S2, forL (gName 13) (body12 (run (n + 6))) ds [o0, o1, o2, o3, o4, o5, o6, o7, o8, o9, o10, o11, some (.int s), o13, o14, o15] S = .nx [o0, o1, o2, o3, o4, o5, o6, o7, o8, o9, o10, o11, some (.int s), q13, q14, q15] S2
  | [], o13, o14, o15, S, _ => ⟨o13, o14, o15, S, rfl⟩
  | d :: ds, o13, o14, o15, S, h => by
    obtain ⟨v, rfl, hv⟩ := h d (by simp)
    obtain ⟨q14, q15, ob, e1⟩ := body12_ok (n := n) (S := S) (o0 := o0) (o1 := o1) (o2 := o2) (o3 := o3) (o4 := o4) (o5 := o5) (o6 := o6) (o7 := o7) (o8 := o8) (o9 := o9) (o10 := o10) (o11 := o11) (o14 := o14) (o15 := o15) hs hv
    obtain ⟨p13, p14, p15, S2, e2⟩ := loop12 hs ds (o13 := some (.int v)) (o14 := q14) (o15 := q15) (S := S.push ob) (fun x hx => h x (by simp [hx]))
    refine ⟨p13, p14, p15, S2, ?_⟩
    rw [forL_cons]
    simp only [gName_ev, List.set_cons_succ, List.set_cons_zero, e1]
    exact e2
theorem r12_ok {s : Int} (hs : In58 s) : ∃ q13 q14 q15 S2, r12 (run (n + 6)) [o0, o1, o2, o3, o4, o5, o6, o7, o8, o9, o10, o11, some (.int s), o13, o14, o15] S = .nx [o0, o1, o2, o3, o4, o5, o6, o7, o8, o9, o10, o11, some (.int s), q13, q14, q15] S2 := by
  obtain ⟨q13, q14, q15, S2, e⟩ := loop12 (n := n) (S := S) (o0 := o0) (o1 := o1) (o2 := o2) (o3 := o3) (o4 := o4) (o5 := o5) (o6 := o6) (o7 := o7) (o8 := o8) (o9 := o9) (o10 := o10) (o11 := o11) hs (ups 1 ((9 : Int) - 1).toNat) (o13 := o13) (o14 := o14) (o15 := o15) (fun d hd => by
    have e : ups 1 ((9 : Int) - 1).toNat = [.int 1, .int 2, .int 3, .int 4, .int 5, .int 6, .int 7, .int 8] := rfl
    rw [e] at hd
    simp only [List.mem_cons, List.not_mem_nil, or_false] at hd
    rcases hd with rfl | rfl | rfl | rfl | rfl | rfl | rfl | rfl <;> exact ⟨_, rfl, by constructor⟩)
  refine ⟨q13, q14, q15, S2, ?_⟩
  rw [r12_eq, sFor_r2 (S1 := S) (S2 := S) (i := 1) (j := 9) rfl rfl (by omega) (by omega) (by omega) (by omega) (by decide)]
  exact e
end
end L2.Mi.Pg

set_option Elab.async false
set_option linter.all false
set_option maxRecDepth 100000
set_option maxHeartbeats 1000000
/-! k12: a round, the law. Printed by mk12m.py. -/
namespace L2.Mi.Pg
open PySem
section
variable {n k P : Nat} {S : Store} {i : Int} {ls : List Lvl} {o0 o1 o2 o3 o4 o5 o6 o7 o8 o9 o10 o11 o12 o13 o14 o15 : Option D} {ns : List Int}
theorem round (hk : k < 1000) (hl : ns.length ≤ 63) : ∃ p1 p3 p4 p5 p6 p7 p8 p9 p10 p11 p12 p13 p14 p15 S2, rnd (run 30) [some (.fl (ns.map D.int)), o1, some (.int (k : Int)), o3, o4, o5, o6, o7, o8, o9, o10, o11, o12, o13, o14, o15] S = .nx [some (.fl (ns.map D.int)), p1, some (.int (k : Int)), p3, p4, p5, p6, p7, p8, p9, p10, p11, p12, p13, p14, p15] S2 := by
  obtain ⟨ob, e1, hp1⟩ := c15 (n := 29) (S := S) (ns := ns) (k := k) hk (by omega)
  obtain ⟨i, ls, S2, e2, hi, h1, h3, hp2, _, _⟩ := c17 (n := 28) hp1
  have hp3 : Pool (S2.push (.ins 0 [(2, form i ls)])) S.size := pool_push hp2
  have ca : Ca (S2.push (.ins 0 [(2, form i ls)])) S2.size i ls := (mk_ca (n := 25) (S := S2) hi h1 h3).2
  have hp4 : Pool ((S2.push (.ins 0 [(2, form i ls)])).push (.ins 0 [(2, form i ls)])) S.size := pool_push hp3
  have ca4 : Ca ((S2.push (.ins 0 [(2, form i ls)])).push (.ins 0 [(2, form i ls)])) S2.size i ls := ca.push
  have g1 := r1_ok (n := 30) (o1 := o1) (o3 := o3) (o4 := o4) (o5 := o5) (o6 := o6) (o7 := o7) (o8 := o8) (o9 := o9) (o10 := o10) (o11 := o11) (o12 := o12) (o13 := o13) (o14 := o14) (o15 := o15) e1
  unfold rnd
  rw [seq_nx g1, seq_nx (r2_ok (n := 30) e2), seq_nx (r3_ok (n := 25) hi h1 h3), seq_nx (r4_ok (n := 29) h3), seq_nx (r5_ok (n := 27) ca hi h3), seq_nx (r6_ok (n := 25) ca hi h1 h3)]
  obtain ⟨ini, l, l2, hls, hne, g7⟩ := r7_ok (n := 30) (P := S.size) (i := i) (S := (S2.push (.ins 0 [(2, form i ls)])).push (.ins 0 [(2, form i ls)])) (o0 := some (.fl (ns.map D.int))) (o1 := o1) (o2 := some (.int (k : Int))) (o6 := some (.ref S2.size)) (o7 := some (.int (lcmZ (sets ls)))) (o8 := o8) (o9 := o9) (o10 := o10) (o11 := o11) (o12 := o12) (o13 := o13) (o14 := o14) (o15 := o15) h1
  rw [seq_nx g7]
  obtain ⟨oa, ob2, g8⟩ := r8_ok (n := 25) (P := S.size) (o0 := some (.fl (ns.map D.int))) (o1 := o1) (o2 := some (.int (k : Int))) (o7 := some (.int (lcmZ (sets ls)))) (o9 := o9) (o10 := o10) (o11 := o11) (o12 := o12) (o13 := o13) (o14 := o14) (o15 := o15) hls hne ca4 hi h1 h3
  rw [seq_nx g8]
  have hp5 := pool_push (o := ob2) (pool_push (o := oa) hp4)
  obtain ⟨q1, q9, q10, q11, S6, g9, hp6⟩ := r9_ok (n := 24) (o0 := some (.fl (ns.map D.int))) (o1 := o1) (o2 := some (.int (k : Int))) (o6 := some (.ref S2.size)) (o7 := some (.int (lcmZ (sets ls)))) (o8 := some l2.d) (o9 := o9) (o10 := o10) (o11 := o11) (o12 := o12) (o13 := o13) (o14 := o14) (o15 := o15) hp5 hi h1 h3
  rw [seq_nx g9]
  obtain ⟨z1, S7, g10, hp7⟩ := r10_ok (n := 24) (o0 := some (.fl (ns.map D.int))) (o1 := q1) (o2 := some (.int (k : Int))) (o6 := some (.ref S2.size)) (o7 := some (.int (lcmZ (sets ls)))) (o8 := some l2.d) (o9 := q9) (o10 := q10) (o11 := q11) (o12 := o12) (o13 := o13) (o14 := o14) (o15 := o15) hp6 hi h1 h3
  rw [seq_nx g10]
  obtain ⟨s, S8, g11, hs, hp8⟩ := r11_ok (n := 29) (o0 := some (.fl (ns.map D.int))) (o1 := z1) (o2 := some (.int (k : Int))) (o4 := some (.int i)) (o5 := some (T ls)) (o6 := some (.ref S2.size)) (o7 := some (.int (lcmZ (sets ls)))) (o8 := some l2.d) (o9 := q9) (o10 := q10) (o11 := q11) (o12 := o12) (o13 := o13) (o14 := o14) (o15 := o15) hp7
  rw [seq_nx g11]
  obtain ⟨q13, q14, q15, S9, g12⟩ := r12_ok (n := 24) (S := S8) (o0 := some (.fl (ns.map D.int))) (o1 := z1) (o2 := some (.int (k : Int))) (o3 := some (.ref S.size)) (o4 := some (.int i)) (o5 := some (T ls)) (o6 := some (.ref S2.size)) (o7 := some (.int (lcmZ (sets ls)))) (o8 := some l2.d) (o9 := q9) (o10 := q10) (o11 := q11) (o13 := o13) (o14 := o14) (o15 := o15) hs
  exact ⟨_, _, _, _, _, _, _, _, _, _, _, _, _, _, _, g12⟩
def tst0 (call : Nat → FN) : MS := sIf (tOf (eBin (oNe call) (eFn (call 18) (aList [eVar 1, eC .non])) (eLv [eC (.str cacheW), eFn (reprF 8) (aList [eVar 1])]))) (sRet (eC (.bl false))) (sNext)
def firsts : List D := [.non, .int 0, .int 9, .int (-1), .bl true, .str [50], .int 1000, .lv [.int 2]]
theorem r0_eq (call : Nat → FN) : r0 call = sFor (iSeq (eLv [eC .non, eC (.int 0), eC (.int 9), eUn (oNeg call) (eC (.int 1)), eC (.bl true), eC (.str [50]), eC (.int 1000), eLv [eC (.int 2)]])) (gName 1) (tst0 call) 1000 := rfl
theorem tst0_ok {d : D} (h : ∀ S, run (n + 4) 7 [d, .non] S = .exc ⟨4, [(0, d)]⟩ S) (hr : ∀ S, reprF 8 [d] S = .ok (.str (Rof d)) S) (ht : Txt (Rof d)) : tst0 (run (n + 6)) [o0, some d, o2, o3, o4, o5, o6, o7, o8, o9, o10, o11, o12, o13, o14, o15] S = .nx [o0, some d, o2, o3, o4, o5, o6, o7, o8, o9, o10, o11, o12, o13, o14, o15] (S.push (.ins 0 [])) := by
  unfold tst0
  refine if_no ?_
  have tw : Txt cacheW := by unfold Txt; kernel_rfl
  simp only [tOf_ev, eBin_ev, eFn_ev, aList_cons, aList_nil, eVar_s, eVar_0, eC_ev, bind_ok', heard_cache (n := n) h hr, eLv_ev, hr, ne_two tw ht]
theorem loop0 : ∀ (ds : List D) {o1 : Option D} {S : Store}, (∀ d ∈ ds, d ∈ firsts) → ∃ q1 S2, forL (gName 1) (tst0 (run (n + 6))) ds [o0, o1, o2, o3, o4, o5, o6, o7, o8, o9, o10, o11, o12, o13, o14, o15] S = .nx [o0, q1, o2, o3, o4, o5, o6, o7, o8, o9, o10, o11, o12, o13, o14, o15] S2
  | [], o1, S, _ => ⟨o1, S, rfl⟩
  | d :: ds, o1, S, h => by
    obtain ⟨q1, S2, e4⟩ := loop0 ds (o1 := some d) (S := S.push (.ins 0 [])) (fun x hx => h x (by simp [hx]))
    refine ⟨q1, S2, ?_⟩
    have hd := h d (by simp)
    have f : tst0 (run (n + 6)) [o0, some d, o2, o3, o4, o5, o6, o7, o8, o9, o10, o11, o12, o13, o14, o15] S = .nx [o0, some d, o2, o3, o4, o5, o6, o7, o8, o9, o10, o11, o12, o13, o14, o15] (S.push (.ins 0 [])) := by
      simp only [firsts, List.mem_cons, List.not_mem_nil, or_false] at hd
      rcases hd with rfl | rfl | rfl | rfl | rfl | rfl | rfl | rfl <;> exact tst0_ok (fun S => by kernel_rfl) (fun S => by kernel_rfl) (by unfold Txt; kernel_rfl)
    rw [forL_cons]
    simp only [gName_ev, List.set_cons_succ, List.set_cons_zero, f]
    exact e4
theorem r0_ok : ∃ q1 S2, r0 (run (n + 6)) [o0, o1, o2, o3, o4, o5, o6, o7, o8, o9, o10, o11, o12, o13, o14, o15] S = .nx [o0, q1, o2, o3, o4, o5, o6, o7, o8, o9, o10, o11, o12, o13, o14, o15] S2 := by
  obtain ⟨q1, S2, e⟩ := loop0 (n := n) (S := S) (o0 := o0) (o2 := o2) (o3 := o3) (o4 := o4) (o5 := o5) (o6 := o6) (o7 := o7) (o8 := o8) (o9 := o9) (o10 := o10) (o11 := o11) (o12 := o12) (o13 := o13) (o14 := o14) (o15 := o15) firsts (o1 := o1) (fun d h => h)
  refine ⟨q1, S2, ?_⟩
  have f : eLv [eC .non, eC (.int 0), eC (.int 9), eUn (oNeg (run (n + 6))) (eC (.int 1)), eC (.bl true), eC (.str [50]), eC (.int 1000), eLv [eC (.int 2)]] [o0, o1, o2, o3, o4, o5, o6, o7, o8, o9, o10, o11, o12, o13, o14, o15] S = .ok (.lv firsts) S := rfl
  rw [r0_eq, sFor_seq f rfl (by decide)]
  exact e
theorem loopR (hl : ns.length ≤ 63) : ∀ (ds : List D) {o1 o2 o3 o4 o5 o6 o7 o8 o9 o10 o11 o12 o13 o14 o15 : Option D} {S : Store}, (∀ d ∈ ds, ∃ k : Nat, d = .int (k : Int) ∧ k < 1000) → ∃ q1 q2 q3 q4 q5 q6 q7 q8 q9 q10 q11 q12 q13 q14 q15 S2, forL (gName 2) (rnd (run 30)) ds [some (.fl (ns.map D.int)), o1, o2, o3, o4, o5, o6, o7, o8, o9, o10, o11, o12, o13, o14, o15] S = .nx [some (.fl (ns.map D.int)), q1, q2, q3, q4, q5, q6, q7, q8, q9, q10, q11, q12, q13, q14, q15] S2
  | [], o1, o2, o3, o4, o5, o6, o7, o8, o9, o10, o11, o12, o13, o14, o15, S, _ => ⟨o1, o2, o3, o4, o5, o6, o7, o8, o9, o10, o11, o12, o13, o14, o15, S, rfl⟩
  | d :: ds, o1, o2, o3, o4, o5, o6, o7, o8, o9, o10, o11, o12, o13, o14, o15, S, h => by
    obtain ⟨k, rfl, hk⟩ := h d (by simp)
    obtain ⟨p1, p3, p4, p5, p6, p7, p8, p9, p10, p11, p12, p13, p14, p15, S1, e1⟩ := round (S := S) (ns := ns) (o1 := o1) (o3 := o3) (o4 := o4) (o5 := o5) (o6 := o6) (o7 := o7) (o8 := o8) (o9 := o9) (o10 := o10) (o11 := o11) (o12 := o12) (o13 := o13) (o14 := o14) (o15 := o15) hk hl
    obtain ⟨u1, u2, u3, u4, u5, u6, u7, u8, u9, u10, u11, u12, u13, u14, u15, S2, e2⟩ := loopR hl ds (o1 := p1) (o2 := some (.int (k : Int))) (o3 := p3) (o4 := p4) (o5 := p5) (o6 := p6) (o7 := p7) (o8 := p8) (o9 := p9) (o10 := p10) (o11 := p11) (o12 := p12) (o13 := p13) (o14 := p14) (o15 := p15) (S := S1) (fun x hx => h x (by simp [hx]))
    refine ⟨u1, u2, u3, u4, u5, u6, u7, u8, u9, u10, u11, u12, u13, u14, u15, S2, ?_⟩
    rw [forL_cons]
    simp only [gName_ev, List.set_cons_succ, List.set_cons_zero, e1]
    exact e2
end
end L2.Mi.Pg
namespace Law
open PySem L2.Mi L2.Mi.Pg
theorem good (ns : List Int) (hl : ns.length ≤ 63) (hb : ∀ z ∈ ns, Builtin.Int.intBits z ≤ 1048576) : ∃ S, bodyRun 16 (L2.Mi.Pg.m_21 (L2.Mi.Pg.run 30)) [.fl (ns.map D.int)] ⟨[]⟩ = .ok (.bl true) S := by
  obtain ⟨q1, S1, e1⟩ := r0_ok (n := 24) (S := ⟨[]⟩) (o0 := some (.fl (ns.map D.int))) (o1 := none) (o2 := none) (o3 := none) (o4 := none) (o5 := none) (o6 := none) (o7 := none) (o8 := none) (o9 := none) (o10 := none) (o11 := none) (o12 := none) (o13 := none) (o14 := none) (o15 := none)
  obtain ⟨m, hm, hm1⟩ : ∃ m : Nat, eFn max2F (aList [eC (.int 1), eFn min2F (aList [eFn (fnOr lenF (lenO (dLen (L2.Mi.Pg.run 30)))) (aList [eVar 0]), eC (.int 6)])]) [some (.fl (ns.map D.int)), q1, none, none, none, none, none, none, none, none, none, none, none, none, none, none] S1 = .ok (.int (m : Int)) S1 ∧ m ≤ 6 := by
    have hlen : fnOr lenF (lenO (dLen (L2.Mi.Pg.run 30))) [.fl (ns.map D.int)] S1 = .ok (.int (ns.length : Int)) S1 := len_eq (by rw [lenF_seq (xs := ns.map D.int) rfl, List.length_map])
    refine ⟨max 1 (min ns.length 6), ?_, by omega⟩
    simp only [eFn_ev, aList_cons, aList_nil, eC_ev, eVar_0, bind_ok', hlen, min2F, max2F_ev]
    congr 2
    split <;> split <;> omega
  obtain ⟨u1, u2, u3, u4, u5, u6, u7, u8, u9, u10, u11, u12, u13, u14, u15, S2, e2⟩ := loopR hl (ups 0 (m : Int).toNat) (o1 := q1) (o2 := none) (o3 := none) (o4 := none) (o5 := none) (o6 := none) (o7 := none) (o8 := none) (o9 := none) (o10 := none) (o11 := none) (o12 := none) (o13 := none) (o14 := none) (o15 := none) (S := S1) (fun d hd => by
    unfold ups at hd
    obtain ⟨z, hz, rfl⟩ := List.mem_map.mp hd
    have := List.mem_range.mp hz
    exact ⟨z, by simp, by omega⟩)
  refine ⟨S2, ?_⟩
  have e3 := sFor_r1 (g := gName 2) (b := rnd (L2.Mi.Pg.run 30)) (n := 1000) hm (by omega) (by omega) (by omega)
  rw [e2] at e3
  have e4 : L2.Mi.Pg.m_21 (L2.Mi.Pg.run 30) [some (.fl (ns.map D.int)), none, none, none, none, none, none, none, none, none, none, none, none, none, none, none] ⟨[]⟩ = .rt (.bl true) S2 := by
    rw [m21, seq_nx e1, seq_nx e3]
    rfl
  show (match L2.Mi.Pg.m_21 (L2.Mi.Pg.run 30) [some (.fl (ns.map D.int)), none, none, none, none, none, none, none, none, none, none, none, none, none, none, none] ⟨[]⟩ with
    | .rt d S1 => Res.ok d S1
    | .nx _ S1 => .ok .non S1
    | .exc x _ S1 => .exc x S1
    | _ => .bad) = _
  rw [e4]
end Law

open PySem PySem.W PySem.Calls PyProof.Rows L2.Mi
set_option maxRecDepth 100000 in
set_option maxHeartbeats 0 in
theorem PySem.Challenge.cw_farmisses_k12_caches_refused_holds : PySem.Challenge.rw_farmisses_k12_caches_refused.Holds := by
  w_on; o_law
  refine HandSHeadRun.head_any (r := OpenLaw.row PySem.Challenge.rw_farmisses_k12_caches_refused) (q := view (OpenLaw.row PySem.Challenge.rw_farmisses_k12_caches_refused).prog [44]) (H := L2.Mi.Pg.hk) (ob := L2.Mi.Pg.ob) (M := 20000) (loose := L2.Mi.Pg.loose) (d := HandSHeadRun.topDef (OpenLaw.row PySem.Challenge.rw_farmisses_k12_caches_refused).prog 44) (kwd := []) L2.Mi.Pg.ob_eq
    (by kernel_rfl) (fun s => by kernel_rfl) L2.Mi.Pg.head (by kernel_rfl) (by kernel_rfl) (by kernel_rfl) (by rfl) (by first | assumption | decide +kernel) (by decide +kernel) ⟨rfl, rfl, rfl, rfl, rfl, by decide +kernel⟩ ?hw ?hc
  case hw => w_witness2
  case hc =>
    refine walkG (l := PySem.Challenge.rw_farmisses_k12_caches_refused) (n := 63) (k := lv 30 + 2) (x := "_law_script") (L := L2.Mi.Pg.L) (run := bodyRun 16 (L2.Mi.Pg.m_21 (L2.Mi.Pg.run 30))) rfl (by decide) (by kernel_rfl) ⟨rfl, by decide, by decide⟩ ?F Law.good
    intro w mg fa K c NS hmg0
    have hmg : mg ("law" : PySem.Str) = some (.ref fa) := by
      have e : (HandSHeadRun.topDef (OpenLaw.row PySem.Challenge.rw_farmisses_k12_caches_refused).prog 44).name = ("law" : PySem.Str) := by kernel_rfl
      rw [← e]
      exact hmg0
    obtain ⟨M⟩ := c.fn 21 rfl
    have hv : M.dvs = [] := List.eq_nil_of_length_eq_zero (by rw [← (M.rd ⟨[], []⟩ fun _ => none).length]; rfl)
    have e := hmg.symm.trans (NS.glo c 0)
    cases e
    have b := L2.FunD.bindsA (ps := ["_law_script"]) (hv ▸ M.F) fun _ _ _ _ _ _ us hl => match us, hl with | [_], _ => rfl
    exact ⟨M.fd, fun s v => b s [v] rfl, fun base _ _ => L2.Mi.Pg.ok_21 NS 30 (L2.Mi.Pg.all NS 30) M⟩
#print axioms PySem.Challenge.cw_farmisses_k12_caches_refused_holds
