import PyProof.Rows.All
import Wide.All
import OpenK.AllK
import Wide.FinOn
import HandS.ForMost
import HandS.ForExc
import HandS.CallSlots
import HandS.Wide
import HandS.TupAny
import HandS.Style
import HandS.IsInst
import HandS.Walk
import HandS.TupLen
import KE.GoesMore
import HandS.Property
import HandS.Defaults
import HandS.Star
import KE.KOpsOwn
import KE.GoesEnum
import HandS.HeadNt
import HandS.HeadWalk
import HandS.Head2
import HandS.EndBits
import PySem.Challenge.RW_farmisses_k40_sums_of_sizes
set_option Elab.async false
set_option linter.all false
set_option maxRecDepth 100000
set_option maxHeartbeats 4000000
/-! Mini: a deterministic store semantics (tuples by value, lists, dicts and instances in a store), and how it lies over HandS's abstract heaps. -/
namespace L2.Mi
open PySem

/-! ### values and stores -/
inductive D where
  | non | bl (b : Bool) | int (i : Int) | str (x : List Nat) | tup (xs : List D) | ref (a : Nat) | ty (n : String)
  /-- a list, a dict that nobody changes; a tuple of the written part -/
  | lv (xs : List D) | dv (t : Bool) (kvs : List (D × D)) | kt (xs : List D)
  /-- a class of the program -/
  | cl (c : Nat)
  /-- a list that stood there before: the script, a table of the top -/
  | fl (xs : List D)

inductive Ob where
  | lst (xs : List D)
  | dic (t : Bool) (kvs : List (D × D))
  | ins (c : Nat) (fs : List (Nat × D))
  | lck (o : Ob)

structure Store where
  objs : List Ob
namespace Store
def size (S : Store) : Nat := S.objs.length
def get (S : Store) (i : Nat) : Option Ob := S.objs[i]?
def set (S : Store) (i : Nat) (o : Ob) : Store := ⟨S.objs.set i o⟩
def push (S : Store) (o : Ob) : Store := ⟨S.objs ++ [o]⟩
theorem size_set (S : Store) (i : Nat) (o : Ob) : (S.set i o).size = S.size := by simp [size, set]
theorem size_push (S : Store) (o : Ob) : (S.push o).size = S.size + 1 := by simp [size, push]
theorem get_lt {S : Store} {i : Nat} {o : Ob} (h : S.get i = some o) : i < S.size := (List.getElem?_eq_some_iff.mp h).1
theorem get_none {S : Store} {i : Nat} (h : S.size ≤ i) : S.get i = none := by
  unfold get size at *
  exact List.getElem?_eq_none_iff.mpr h
theorem get_set_same {S : Store} {i : Nat} {o : Ob} (h : i < S.size) : (S.set i o).get i = some o := by
  unfold get set size at *
  simp [h]
theorem get_set_ne {S : Store} {i j : Nat} {o : Ob} (h : i ≠ j) : (S.set i o).get j = S.get j := by
  unfold get set
  simp [List.getElem?_set_ne h]
theorem get_push_same {S : Store} {o : Ob} : (S.push o).get S.size = some o := by
  unfold get push size
  simp
theorem get_push_lt {S : Store} {i : Nat} {o : Ob} (h : i < S.size) : (S.push o).get i = S.get i := by
  unfold get push size at *
  simp [List.getElem?_append_left h]
theorem get_push_some {S : Store} {i : Nat} {o u : Ob} (h : S.get i = some u) : (S.push o).get i = some u := by
  rw [get_push_lt (get_lt h)]; exact h
theorem get_push_ne {S : Store} {i : Nat} {o : Ob} (h : i ≠ S.size) : (S.push o).get i = S.get i := by
  by_cases hl : i < S.size
  · exact get_push_lt hl
  · rw [get_none (S := S) (by omega), get_none (by rw [size_push]; omega)]
end Store

/-- an exception in flight: its class, its fields -/
structure Xn where
  c : Nat
  fs : List (Nat × D)

inductive Res (α : Type) where
  | ok (a : α) (S : Store)
  | exc (x : Xn) (S : Store)
  | bad
abbrev En := List (Option D)
inductive RS where
  | nx (σ : En) (S : Store)
  | rt (d : D) (S : Store)
  | bk (σ : En) (S : Store)
  | ct (σ : En) (S : Store)
  | exc (x : Xn) (σ : En) (S : Store)
  | bad
def Res.bind {α β : Type} (r : Res α) (f : α → Store → Res β) : Res β :=
  match r with
  | .ok a S => f a S
  | .exc x S => .exc x S
  | .bad => .bad
theorem Res.bind_ok {α β : Type} {a : α} {S : Store} {f : α → Store → Res β} : (Res.ok a S).bind f = f a S := rfl
theorem Res.bind_exc {α β : Type} {x : Xn} {S : Store} {f : α → Store → Res β} : (Res.exc x S : Res α).bind f = .exc x S := rfl
theorem Res.bind_bad {α β : Type} {f : α → Store → Res β} : (Res.bad : Res α).bind f = .bad := rfl
abbrev ME := En → Store → Res D
abbrev MA := En → Store → Res (List D)
abbrev MT := En → Store → Res Bool
abbrev MS := En → Store → RS

/-! ### how a store lies over an abstract heap -/
/-- what a class of the program must have -/
structure CI (K : PySem.W.Frag) (C : Addr) : Prop where
  cl : Cls K C
  ha : PySem.W.findIn K (.ref C) "__class__" = some (some (.builtin "object.__class__"))
  hn : PySem.W.specialIn K (.builtin "object.__class__") "__get__" = some (some (.builtin "getset_descriptor.__get__"))
  htk : PySem.W.takesIn K (.builtin "object.__class__") = some true
  hm : PySem.W.mroIn K C (.type "object") = some true
/-- a type: a built-in one, a class of the program -/
inductive Tag where
  | b (n : String) | o (c : Nat)
  deriving DecidableEq
def tagVal (cls : Nat → Option Addr) : Tag → Option Value
  | .b n => some (.type n)
  | .o c => (cls c).map Value.ref
/-- the program's tables: the written part, the classes by number, the fields' names by number, what isinstance says, the exceptions' classes -/
structure Gx where
  K : PySem.W.Frag
  cls : Nat → Option Addr
  fld : Nat → Str
  inj : ∀ i j, fld i = fld j → i = j
  clsv : Nat → Option Value
  ci : ∀ c C, cls c = some C → CI K C
  isi : Tag → Tag → Option Bool
  isi_ok : ∀ t u b tv uv, isi t u = some b → tagVal cls t = some tv → tagVal cls u = some uv → PySem.W.kitOne K tv uv = some b

/-! ### keys -/
def keyD : D → Option Key
  | .int i => some (.inl i)
  | .str x => some (.inr ⟨x.toArray⟩)
  | _ => none
def keysD : List D → Option (List Key)
  | [] => some []
  | d :: ds => match keyD d, keysD ds with
    | some k, some ks => some (k :: ks)
    | _, _ => none
def keyT : D → Option (List Key)
  | .tup ds => keysD ds
  | _ => none

/-- where the store's things stand, and what is hidden (a comprehension's list while it grows) -/
structure Wd where
  v : List Addr
  h : List Addr
def Wd.no (ρ : Wd) (a : Addr) : Prop := a ∉ ρ.v ∧ a ∉ ρ.h
def Wd.push (ρ : Wd) (a : Addr) : Wd := ⟨ρ.v ++ [a], ρ.h⟩

/-- a list that nothing changes -/
def FlAt (K : PySem.W.Frag) (H : Hp) (a : Addr) (xs : List V) : Prop := (∃ o, H a = some (.frz o (.lst xs))) ∨ SqL K (fun _ => none) a xs
section
variable (G : Gx) (ρ : Wd) (H : Hp)
mutual
inductive RV : D → V → Prop
  | non : RV .non .non
  | bl (b : Bool) : RV (.bl b) (.bl b)
  | int (i : Int) : RV (.int i) (.int i)
  | str (x : List Nat) : RV (.str x) (.str ⟨x.toArray⟩)
  | ty (n : String) : RV (.ty n) (.ty n)
  | cl {c : Nat} {C : Addr} : G.cls c = some C → RV (.cl c) (.ref C)
  | ref {i : Nat} {a : Addr} : ρ.v[i]? = some a → RV (.ref i) (.ref a)
  | tup {ds : List D} {a : Addr} {xs : List V} : H a = some (.tup xs) → RVs ds xs → RV (.tup ds) (.ref a)
  | kt {ds : List D} {a : Addr} {xs : List V} : SqT G.K (fun _ => none) a xs → RVs ds xs → RV (.kt ds) (.ref a)
  | lv {ds : List D} {a : Addr} {xs : List V} : ρ.no a → H a = some (.lst xs) → RVs ds xs → RV (.lv ds) (.ref a)
  | fl {ds : List D} {a : Addr} {xs : List V} : FlAt G.K H a xs → RVs ds xs → RV (.fl ds) (.ref a)
  | dvK {kvs : List (D × D)} {a : Addr} {kus : List (Key × V)} : ρ.no a → Rd H a (.dK kus) → RKs kvs kus → RV (.dv false kvs) (.ref a)
  | dvT {kvs : List (D × D)} {a : Addr} {kus : List (List Key × V)} : ρ.no a → Rd H a (.dT kus) → RTs kvs kus → RV (.dv true kvs) (.ref a)
inductive RVs : List D → List V → Prop
  | nil : RVs [] []
  | cons {d : D} {ds : List D} {v : V} {vs : List V} : RV d v → RVs ds vs → RVs (d :: ds) (v :: vs)
inductive RKs : List (D × D) → List (Key × V) → Prop
  | nil : RKs [] []
  | cons {d e : D} {k : Key} {v : V} {kvs : List (D × D)} {kus : List (Key × V)} : keyD d = some k → RV e v → RKs kvs kus → RKs ((d, e) :: kvs) ((k, v) :: kus)
inductive RTs : List (D × D) → List (List Key × V) → Prop
  | nil : RTs [] []
  | cons {d e : D} {k : List Key} {v : V} {kvs : List (D × D)} {kus : List (List Key × V)} : keyT d = some k → RV e v → RTs kvs kus → RTs ((d, e) :: kvs) ((k, v) :: kus)
end
end

def IsT : HO → Prop
  | .tup _ => True
  | .frz _ (.lst _) => True
  | _ => False
/-- tuples stay, frozen lists too -/
def TK (G : Gx) (H H' : Hp) : Prop := ∀ a u, IsT u → H a = some u → H' a = some u
theorem FlAt.move {G : Gx} {H H' : Hp} {a : Addr} {xs : List V} (t : TK G H H') (h : FlAt G.K H a xs) : FlAt G.K H' a xs := h.elim (fun ⟨o, h⟩ => .inl ⟨o, t a _ trivial h⟩) .inr
theorem FlAt.sq {K : PySem.W.Frag} {H : Hp} {a : Addr} {xs : List V} (h : FlAt K H a xs) : SqL K H a xs := by
  rcases h with ⟨o, h⟩ | (h | ⟨o, h⟩) | h
  · exact .inl (.inr ⟨o, h⟩)
  · cases h
  · cases h
  · exact .inr h
def IsDk : HO → Prop
  | .dK _ => True
  | .dT _ => True
  | _ => False
structure Le (G : Gx) (ρ : Wd) (H : Hp) (ρ' : Wd) (H' : Hp) : Prop where
  pre : ρ.v <+: ρ'.v
  hid : ρ'.h = ρ.h
  tk : TK G H H'
  kl : ∀ a xs, ρ.no a → H a = some (.lst xs) → H' a = some (.lst xs)
  kp : ∀ a u, ρ.no a → IsDk u → Rd H a u → Rd H' a u
  ni : ∀ a, ρ.no a → H a ≠ none → ρ'.no a ∧ H' a ≠ none
  kh : ∀ a, a ∈ ρ.h → H a ≠ none → H' a = H a
theorem rd_some {H : Hp} {a : Addr} {u : HO} (h : Rd H a u) : H a ≠ none := by
  rcases h with h | ⟨o, h⟩ <;> (rw [h]; simp)
theorem Le.refl {G : Gx} {ρ : Wd} {H : Hp} : Le G ρ H ρ H := ⟨List.prefix_refl _, rfl, fun _ _ _ h => h, fun _ _ _ h => h, fun _ _ _ _ h => h, fun _ h e => ⟨h, e⟩, fun _ _ _ => rfl⟩
theorem Le.trans {G : Gx} {ρ ρ' ρ'' : Wd} {H H' H'' : Hp} (a : Le G ρ H ρ' H') (b : Le G ρ' H' ρ'' H'') : Le G ρ H ρ'' H'' := by
  refine ⟨a.pre.trans b.pre, b.hid.trans a.hid, fun c xs t h => b.tk c xs t (a.tk c xs t h), fun c xs hc h => b.kl c xs (a.ni c hc (by rw [h]; simp)).1 (a.kl c xs hc h), fun c u hc n h => ?_, fun c hc h => ?_, fun c hc h => ?_⟩
  · exact b.kp c u (a.ni c hc (rd_some h)).1 n (a.kp c u hc n h)
  · obtain ⟨h1, h2⟩ := a.ni c hc h
    exact b.ni c h1 h2
  · have e := a.kh c hc h
    rw [b.kh c (by rw [a.hid]; exact hc) (by rw [e]; exact h), e]
theorem pre_get {ρ ρ' : List Addr} (h : ρ <+: ρ') {i : Nat} {a : Addr} (e : ρ[i]? = some a) : ρ'[i]? = some a := by
  obtain ⟨t, rfl⟩ := h
  obtain ⟨hl, _⟩ := List.getElem?_eq_some_iff.mp e
  rw [List.getElem?_append_left hl]
  exact e
/-- values move from one world to another -/
structure Mv (G : Gx) (ρ : Wd) (H : Hp) (ρ' : Wd) (H' : Hp) : Prop where
  at_ : ∀ (i : Nat) a, ρ.v[i]? = some a → ρ'.v[i]? = some a
  tk : TK G H H'
  kl : ∀ a xs, ρ.no a → H a = some (.lst xs) → ρ'.no a ∧ H' a = some (.lst xs)
  kp : ∀ a u, ρ.no a → IsDk u → Rd H a u → ρ'.no a ∧ Rd H' a u
mutual
theorem RV.move {G : Gx} {ρ ρ' : Wd} {H H' : Hp} (l : Mv G ρ H ρ' H') : ∀ {d : D} {v : V}, RV G ρ H d v → RV G ρ' H' d v
  | _, _, .non => .non
  | _, _, .bl b => .bl b
  | _, _, .int i => .int i
  | _, _, .str x => .str x
  | _, _, .ty n => .ty n
  | _, _, .cl h => .cl h
  | _, _, .ref e => .ref (l.at_ _ _ e)
  | _, _, .tup h r => .tup (l.tk _ _ trivial h) (RVs.move l r)
  | _, _, .fl h r => .fl (h.move l.tk) (RVs.move l r)
  | _, _, .kt h r => .kt h (RVs.move l r)
  | _, _, .lv n h r => .lv (l.kl _ _ n h).1 (l.kl _ _ n h).2 (RVs.move l r)
  | _, _, .dvK n h r => .dvK (l.kp _ (.dK _) n trivial h).1 (l.kp _ (.dK _) n trivial h).2 (RKs.move l r)
  | _, _, .dvT n h r => .dvT (l.kp _ (.dT _) n trivial h).1 (l.kp _ (.dT _) n trivial h).2 (RTs.move l r)
theorem RVs.move {G : Gx} {ρ ρ' : Wd} {H H' : Hp} (l : Mv G ρ H ρ' H') : ∀ {ds : List D} {vs : List V}, RVs G ρ H ds vs → RVs G ρ' H' ds vs
  | _, _, .nil => .nil
  | _, _, .cons h t => .cons (RV.move l h) (RVs.move l t)
theorem RKs.move {G : Gx} {ρ ρ' : Wd} {H H' : Hp} (l : Mv G ρ H ρ' H') : ∀ {ds : List (D × D)} {vs : List (Key × V)}, RKs G ρ H ds vs → RKs G ρ' H' ds vs
  | _, _, .nil => .nil
  | _, _, .cons k h t => .cons k (RV.move l h) (RKs.move l t)
theorem RTs.move {G : Gx} {ρ ρ' : Wd} {H H' : Hp} (l : Mv G ρ H ρ' H') : ∀ {ds : List (D × D)} {vs : List (List Key × V)}, RTs G ρ H ds vs → RTs G ρ' H' ds vs
  | _, _, .nil => .nil
  | _, _, .cons k h t => .cons k (RV.move l h) (RTs.move l t)
end
theorem Le.mv {G : Gx} {ρ ρ' : Wd} {H H' : Hp} (l : Le G ρ H ρ' H') : Mv G ρ H ρ' H' :=
  ⟨fun _ _ h => pre_get l.pre h, l.tk, fun a xs n h => ⟨(l.ni a n (by rw [h]; simp)).1, l.kl a xs n h⟩, fun a u n dk h => ⟨(l.ni a n (rd_some h)).1, l.kp a u n dk h⟩⟩
theorem Mv.trans {G : Gx} {ρ ρ' ρ'' : Wd} {H H' H'' : Hp} (a : Mv G ρ H ρ' H') (b : Mv G ρ' H' ρ'' H'') : Mv G ρ H ρ'' H'' :=
  ⟨fun i c h => b.at_ i c (a.at_ i c h), fun c xs t h => b.tk c xs t (a.tk c xs t h), fun c xs n h => b.kl c xs (a.kl c xs n h).1 (a.kl c xs n h).2, fun c u n dk h => b.kp c u (a.kp c u n dk h).1 dk (a.kp c u n dk h).2⟩
theorem RV.mono {G : Gx} {ρ ρ' : Wd} {H H' : Hp} (l : Le G ρ H ρ' H') {d : D} {v : V} (r : RV G ρ H d v) : RV G ρ' H' d v := r.move l.mv
theorem RVs.mono {G : Gx} {ρ ρ' : Wd} {H H' : Hp} (l : Le G ρ H ρ' H') {ds : List D} {vs : List V} (r : RVs G ρ H ds vs) : RVs G ρ' H' ds vs := r.move l.mv
theorem RVs.length {G : Gx} {ρ : Wd} {H : Hp} : ∀ {ds : List D} {vs : List V}, RVs G ρ H ds vs → ds.length = vs.length
  | _, _, .nil => rfl
  | _, _, .cons _ t => by simp [RVs.length t]
theorem RVs.append {G : Gx} {ρ : Wd} {H : Hp} : ∀ {ds es : List D} {vs us : List V}, RVs G ρ H ds vs → RVs G ρ H es us → RVs G ρ H (ds ++ es) (vs ++ us)
  | _, _, _, _, .nil, r => r
  | _, _, _, _, .cons h t, r => .cons h (RVs.append t r)
theorem RVs.get {G : Gx} {ρ : Wd} {H : Hp} : ∀ {ds : List D} {vs : List V} {i : Nat} {d : D}, RVs G ρ H ds vs → ds[i]? = some d → ∃ v, vs[i]? = some v ∧ RV G ρ H d v
  | _, _, _, _, .nil, e => by simp at e
  | _, _, 0, _, .cons h _, e => by simp at e; subst e; exact ⟨_, rfl, h⟩
  | _, _, i + 1, d, .cons _ t, e => by
    obtain ⟨v, h1, h2⟩ := RVs.get (i := i) (d := d) t (by simpa using e)
    exact ⟨v, by simpa using h1, h2⟩
theorem RVs.set {G : Gx} {ρ : Wd} {H : Hp} {d : D} {v : V} (h : RV G ρ H d v) : ∀ {ds : List D} {vs : List V} (i : Nat), RVs G ρ H ds vs → RVs G ρ H (ds.set i d) (vs.set i v)
  | _, _, _, .nil => .nil
  | _, _, 0, .cons _ t => .cons h t
  | _, _, i + 1, .cons q t => .cons q (RVs.set h i t)
theorem RVs.get' {G : Gx} {ρ : Wd} {H : Hp} : ∀ {ds : List D} {vs : List V} {i : Nat} {v : V}, RVs G ρ H ds vs → vs[i]? = some v → ∃ d, ds[i]? = some d ∧ RV G ρ H d v
  | _, _, _, _, .nil, e => by simp at e
  | _, _, 0, _, .cons h _, e => by simp at e; subst e; exact ⟨_, rfl, h⟩
  | _, _, i + 1, v, .cons _ t, e => by
    obtain ⟨d, h1, h2⟩ := RVs.get' (i := i) (v := v) t (by simpa using e)
    exact ⟨d, by simpa using h1, h2⟩

section
variable (G : Gx) (ρ : Wd) (H : Hp)
inductive RFs : List (Nat × D) → List (Str × V) → Prop
  | nil : RFs [] []
  | cons {n : Nat} {d : D} {v : V} {fs : List (Nat × D)} {us : List (Str × V)} : RV G ρ H d v → RFs fs us → RFs ((n, d) :: fs) ((G.fld n, v) :: us)
inductive RO : Ob → HO → Prop
  | lst {ds : List D} {xs : List V} : RVs G ρ H ds xs → RO (.lst ds) (.lst xs)
  | dK {kvs : List (D × D)} {kus : List (Key × V)} : RKs G ρ H kvs kus → RO (.dic false kvs) (.dK kus)
  | dT {kvs : List (D × D)} {kus : List (List Key × V)} : RTs G ρ H kvs kus → RO (.dic true kvs) (.dT kus)
  | ins {c : Nat} {C dx : Addr} {fs : List (Nat × D)} {us : List (Str × V)} : G.cls c = some C → RFs G ρ H fs us → RO (.ins c fs) (.ins C dx us)
  | lck {o : Ob} {ob : Obj} {u : HO} : RO o u → RO (.lck o) (.frz ob u)
end
section
variable {G : Gx} {ρ ρ' : Wd} {H H' : Hp}
theorem RFs.move {ρ ρ' : Wd} {H H' : Hp} (l : Mv G ρ H ρ' H') : ∀ {ds : List (Nat × D)} {vs : List (Str × V)}, RFs G ρ H ds vs → RFs G ρ' H' ds vs
  | _, _, .nil => .nil
  | _, _, .cons h t => .cons (h.move l) (RFs.move l t)
theorem RO.move {ρ ρ' : Wd} {H H' : Hp} (l : Mv G ρ H ρ' H') {o : Ob} {u : HO} (r : RO G ρ H o u) : RO G ρ' H' o u := by
  induction r with
  | lst r => exact .lst (r.move l)
  | dK r => exact .dK (r.move l)
  | dT r => exact .dT (r.move l)
  | ins h r => exact .ins h (r.move l)
  | lck _ ih => exact .lck ih
theorem RO.mono (l : Le G ρ H ρ' H') {o : Ob} {u : HO} (r : RO G ρ H o u) : RO G ρ' H' o u := r.move l.mv
theorem RFs.length : ∀ {fs : List (Nat × D)} {us : List (Str × V)}, RFs G ρ H fs us → fs.length = us.length
  | _, _, .nil => rfl
  | _, _, .cons _ t => by simp [RFs.length t]
end

structure Rl (G : Gx) (ρ : Wd) (S : Store) (H : Hp) : Prop where
  len : ρ.v.length = S.size
  nd : ρ.v.Nodup
  hh : ∀ a, a ∈ ρ.h → a ∉ ρ.v ∧ H a ≠ none
  ob : ∀ i o, S.get i = some o → ∃ a u, ρ.v[i]? = some a ∧ H a = some u ∧ RO G ρ H o u
/-- slots -/
structure RE (G : Gx) (ρ : Wd) (H : Hp) (σs : En) (σ : St) : Prop where
  len : σs.length = σ.length
  get : ∀ (i : Nat) (d : D), σs[i]? = some (some d) → ∃ v : V, σ[i]? = some (some v) ∧ RV G ρ H d v
/-- an exception: its class, its fields -/
structure RX (G : Gx) (ρ : Wd) (H : Hp) (x : Xn) (cls : Value) (dd : Option Addr) : Prop where
  cls : G.clsv x.c = some cls
  fs : (dd = none ∧ x.fs = []) ∨ ∃ d us, dd = some d ∧ H d = some (.xd us) ∧ RFs G ρ H x.fs us
section
variable {G : Gx} {ρ ρ' : Wd} {H H' : Hp}
theorem RE.move {ρ ρ' : Wd} {H H' : Hp} (l : Mv G ρ H ρ' H') {σs : En} {σ : St} (r : RE G ρ H σs σ) : RE G ρ' H' σs σ := ⟨r.len, fun i d e => let ⟨v, h1, h2⟩ := r.get i d e; ⟨v, h1, h2.move l⟩⟩
theorem RE.mono (l : Le G ρ H ρ' H') {σs : En} {σ : St} (r : RE G ρ H σs σ) : RE G ρ' H' σs σ := ⟨r.len, fun i d e => let ⟨v, h1, h2⟩ := r.get i d e; ⟨v, h1, h2.mono l⟩⟩
theorem RE.set {σs : En} {σ : St} {d : D} {v : V} (r : RE G ρ H σs σ) (i : Nat) (h : RV G ρ H d v) : RE G ρ H (σs.set i (some d)) (σ.set i (some v)) := by
  refine ⟨by simp [r.len], fun j e hj => ?_⟩
  by_cases hij : i = j
  · subst hij
    by_cases hl : i < σs.length
    · rw [List.getElem?_set_self hl] at hj
      cases hj
      exact ⟨v, List.getElem?_set_self (by rw [← r.len]; exact hl), h⟩
    · rw [List.getElem?_eq_none (by simpa using hl)] at hj
      cases hj
  · rw [List.getElem?_set_ne hij] at hj ⊢
    exact r.get j e hj
end

/-! ### what is wanted of a run -/
section
variable {α β : Type} (G : Gx)
def PostR (R : Wd → Hp → α → β → Prop) (ρ : Wd) (H : Hp) (r : Res α) (Q : β → Hp → Prop) (E : XK) : Prop :=
  match r with
  | .ok d S' => ∀ ρ' H' v, Le G ρ H ρ' H' → Rl G ρ' S' H' → R ρ' H' d v → Q v H'
  | .exc x S' => ∀ ρ' H' cls dd, Le G ρ H ρ' H' → Rl G ρ' S' H' → RX G ρ' H' x cls dd → E cls dd H'
  | .bad => False
def PostS (ρ : Wd) (H : Hp) (r : RS) (Dn : Ends) (W : WX) : Prop :=
  match r with
  | .nx σs S' => ∀ ρ' H' σ', Le G ρ H ρ' H' → Rl G ρ' S' H' → RE G ρ' H' σs σ' → Dn.nx σ' H'
  | .bk σs S' => ∀ ρ' H' σ', Le G ρ H ρ' H' → Rl G ρ' S' H' → RE G ρ' H' σs σ' → Dn.bk σ' H'
  | .ct σs S' => ∀ ρ' H' σ', Le G ρ H ρ' H' → Rl G ρ' S' H' → RE G ρ' H' σs σ' → Dn.ct σ' H'
  | .rt d S' => ∀ ρ' H' v, Le G ρ H ρ' H' → Rl G ρ' S' H' → RV G ρ' H' d v → Dn.rt v H'
  | .exc x σs S' => ∀ ρ' H' σ' cls dd, Le G ρ H ρ' H' → Rl G ρ' S' H' → RE G ρ' H' σs σ' → RX G ρ' H' x cls dd → W cls dd σ' H'
  | .bad => False
end
abbrev Post (G : Gx) := PostR (α := D) (β := V) G (RV G)
abbrev PostA (G : Gx) := PostR (α := List D) (β := List V) G (RVs G)
abbrev PostT (G : Gx) := PostR (α := Bool) (β := Bool) G (fun _ _ b c => b = c)
section
variable {α β : Type} {G : Gx} {ρ ρ' : Wd} {H H' : Hp}
theorem PostR.le {R : Wd → Hp → α → β → Prop} {r : Res α} {Q : β → Hp → Prop} {E : XK} (p : PostR G R ρ H r Q E) (l : Le G ρ H ρ' H') : PostR G R ρ' H' r Q E := by
  cases r with
  | ok d S => exact fun ρ2 H2 v l2 rl h => p ρ2 H2 v (l.trans l2) rl h
  | exc x S => exact fun ρ2 H2 c dd l2 rl h => p ρ2 H2 c dd (l.trans l2) rl h
  | bad => exact p
theorem PostR.imp {R : Wd → Hp → α → β → Prop} {r : Res α} {Q Q' : β → Hp → Prop} {E E' : XK} (p : PostR G R ρ H r Q E) (h : ∀ v H', Q v H' → Q' v H') (hE : ∀ c d H', E c d H' → E' c d H') : PostR G R ρ H r Q' E' := by
  cases r with
  | ok d S => exact fun ρ2 H2 v l2 rl q => h _ _ (p ρ2 H2 v l2 rl q)
  | exc x S => exact fun ρ2 H2 c dd l2 rl q => hE _ _ _ (p ρ2 H2 c dd l2 rl q)
  | bad => exact p
theorem PostS.le {r : RS} {Dn : Ends} {W : WX} (p : PostS G ρ H r Dn W) (l : Le G ρ H ρ' H') : PostS G ρ' H' r Dn W := by
  cases r with
  | nx σ S => exact fun ρ2 H2 v l2 rl h => p ρ2 H2 v (l.trans l2) rl h
  | bk σ S => exact fun ρ2 H2 v l2 rl h => p ρ2 H2 v (l.trans l2) rl h
  | ct σ S => exact fun ρ2 H2 v l2 rl h => p ρ2 H2 v (l.trans l2) rl h
  | rt d S => exact fun ρ2 H2 v l2 rl h => p ρ2 H2 v (l.trans l2) rl h
  | exc x σ S => exact fun ρ2 H2 σ' c dd l2 rl re h => p ρ2 H2 σ' c dd (l.trans l2) rl re h
  | bad => exact p
/-- THE STEP: what is wanted of the first part, then of the rest -/
theorem PostR.bind {γ δ : Type} {R : Wd → Hp → α → β → Prop} {R' : Wd → Hp → γ → δ → Prop} {r : Res α} {f : α → Store → Res γ} {Q : δ → Hp → Prop} {E : XK} (p : PostR G R' ρ H (r.bind f) Q E)
    {Q1 : β → Hp → Prop} (k : ∀ ρ1 H1 S1 d v, Le G ρ H ρ1 H1 → Rl G ρ1 S1 H1 → R ρ1 H1 d v → PostR G R' ρ1 H1 (f d S1) Q E → Q1 v H1) : PostR G R ρ H r Q1 E := by
  cases r with
  | ok d S =>
    intro ρ1 H1 v l rl h
    exact k ρ1 H1 S d v l rl h (PostR.le (r := f d S) p l)
  | exc x S => exact p
  | bad => exact p
end

/-! ### runs as readings -/
section
variable (G : Gx) (W : WX)
def tm (m : ME) : TE := fun σ H Q => ∃ ρ σs S, Rl G ρ S H ∧ RE G ρ H σs σ ∧ Post G ρ H (m σs S) Q (fun c d H' => W c d σ H')
def tma (m : MA) : TA := fun σ H Q => ∃ ρ σs S, Rl G ρ S H ∧ RE G ρ H σs σ ∧ PostA G ρ H (m σs S) Q (fun c d H' => W c d σ H')
def tmt (m : MT) : TT := fun σ H Q => ∃ ρ σs S, Rl G ρ S H ∧ RE G ρ H σs σ ∧ PostT G ρ H (m σs S) Q (fun c d H' => W c d σ H')
def tms (m : MS) : TS := fun Dn σ H => ∃ ρ σs S, Rl G ρ S H ∧ RE G ρ H σs σ ∧ PostS G ρ H (m σs S) Dn W
end
theorem PE.weak {X : Cx} {e : Expr} {t t' : TE} (h : PE X e t) (i : ∀ σ H Q, t' σ H Q → t σ H Q) : PE X e t' := ⟨fun pins s σ H Q I q => h.run pins s σ H Q I (i _ _ _ q)⟩
theorem PT.weak {X : Cx} {e : Expr} {t t' : TT} (h : PT X e t) (i : ∀ σ H Q, t' σ H Q → t σ H Q) : PT X e t' := ⟨fun pins s σ H Q I q => h.run pins s σ H Q I (i _ _ _ q)⟩
theorem PW.weak {X : Cx} {e : Expr} {t t' : TT} (h : PW X e t) (i : ∀ σ H Q, t' σ H Q → t σ H Q) : PW X e t' := ⟨fun w pins s σ H Q I q => h.run w pins s σ H Q I (i _ _ _ q)⟩
theorem PA.weak {X : Cx} {e : List Expr} {t t' : TA} (h : PA X e t) (i : ∀ σ H Q, t' σ H Q → t σ H Q) : PA X e t' := ⟨fun pos pins s σ H Q I q => h.run pos pins s σ H Q I (i _ _ _ q)⟩
theorem PS.weak {X : Cx} {e : Stmt} {t t' : TS} (h : PS X e t) (i : ∀ σ H Q, t' σ H Q → t σ H Q) : PS X e t' := ⟨fun pins s σ H D I q => h.run pins s σ H D I (i _ _ _ q)⟩
theorem PSs.weak {X : Cx} {e : List Stmt} {t t' : TS} (h : PSs X e t) (i : ∀ σ H Q, t' σ H Q → t σ H Q) : PSs X e t' := ⟨fun pins s σ H D I q => h.run pins s σ H D I (i _ _ _ q)⟩

/-! ### heaps that change -/
section
variable {G : Gx} {ρ : Wd} {S : Store} {H : Hp}
theorem tk_new {p : Addr} {o : HO} (hp : H p = none) : TK G H (L2.upd H p o) := fun _ _ _ h => by rw [upd_ne (ne_of_none h hp)]; exact h
/-- the thing at p is no tuple -/
def NoT : HO → Prop
  | .tup _ => False
  | .frz _ (.lst _) => False
  | _ => True
theorem NoT.no {u : HO} (n : NoT u) (t : IsT u) : False := by
  cases u with
  | frz o v => cases v <;> first | exact n | exact t
  | _ => first | exact n | exact t
theorem tk_upd {p : Addr} {o u : HO} (hp : H p = some u) (n : NoT u) : TK G H (L2.upd H p o) := fun a xs t h => by
  rw [upd_ne]
  · exact h
  · rintro rfl
    rw [h] at hp
    cases hp
    exact n.no t
theorem rd_new {p : Addr} {o : HO} (hp : H p = none) {a : Addr} {u : HO} (h : Rd H a u) : Rd (L2.upd H p o) a u := by
  have hne : a ≠ p := fun e => rd_some h (by rw [e]; exact hp)
  rcases h with h | ⟨ob, h⟩
  · exact .inl (by rw [upd_ne hne]; exact h)
  · exact .inr ⟨ob, by rw [upd_ne hne]; exact h⟩
theorem Le.new {p : Addr} {o : HO} (hp : H p = none) : Le G ρ H ρ (L2.upd H p o) := ⟨List.prefix_refl _, rfl, tk_new hp, fun _ _ _ h => by rw [upd_ne (ne_of_none h hp)]; exact h, fun _ _ _ _ h => rd_new hp h, fun a h e => ⟨h, by
  rw [upd_ne (show a ≠ p from fun z => e (by rw [z]; exact hp))]; exact e⟩, fun a _ e => upd_ne (show a ≠ p from fun z => e (by rw [z]; exact hp))⟩
theorem Le.push {p : Addr} {o : HO} (hp : H p = none) : Le G ρ H (ρ.push p) (L2.upd H p o) := ⟨List.prefix_append _ _, rfl, tk_new hp, fun _ _ _ h => by rw [upd_ne (ne_of_none h hp)]; exact h, fun _ _ _ _ h => rd_new hp h, fun a h e => by
  have hne : a ≠ p := fun z => e (by rw [z]; exact hp)
  exact ⟨⟨by simp [Wd.push, h.1, hne], h.2⟩, by rw [upd_ne hne]; exact e⟩, fun a _ e => upd_ne (show a ≠ p from fun z => e (by rw [z]; exact hp))⟩
theorem Le.upd {p : Addr} {u u' : HO} (hm : p ∈ ρ.v) (hx : p ∉ ρ.h) (hp : H p = some u) (n : NoT u) : Le G ρ H ρ (L2.upd H p u') := ⟨List.prefix_refl _, rfl, tk_upd hp n, fun a xs ha h => by
    rw [upd_ne (show a ≠ p from fun z => ha.1 (by rw [z]; exact hm))]; exact h, fun a v ha _ h => by
  have hne : a ≠ p := fun z => ha.1 (by rw [z]; exact hm)
  rcases h with h | ⟨ob, h⟩
  · exact .inl (by rw [upd_ne hne]; exact h)
  · exact .inr ⟨ob, by rw [upd_ne hne]; exact h⟩, fun a ha e => ⟨ha, by rw [upd_ne (show a ≠ p from fun z => ha.1 (by rw [z]; exact hm))]; exact e⟩, fun a ha _ => upd_ne (show a ≠ p from fun z => hx (by rw [← z]; exact ha))⟩
/-- something new that the store does not know -/
theorem Rl.other {p : Addr} {o : HO} (r : Rl G ρ S H) (hp : H p = none) : Rl G ρ S (L2.upd H p o) := by
  refine ⟨r.len, r.nd, fun a ha => ⟨(r.hh a ha).1, ?_⟩, fun i ob e => ?_⟩
  · have e := (r.hh a ha).2
    rw [upd_ne (show a ≠ p from fun z => e (by rw [z]; exact hp))]
    exact e
  · obtain ⟨a, u, h1, h2, h3⟩ := r.ob i ob e
    exact ⟨a, u, h1, by rw [upd_ne (ne_of_none h2 hp)]; exact h2, h3.mono (Le.new hp)⟩
theorem Store.all {S : Store} (i : Nat) (h : i < S.size) : ∃ o, S.get i = some o := by
  unfold Store.get Store.size at *
  exact ⟨S.objs[i], List.getElem?_eq_getElem h⟩
theorem Rl.no {p : Addr} (r : Rl G ρ S H) (hp : H p = none) : ρ.no p := by
  refine ⟨fun hm => ?_, fun hm => (r.hh p hm).2 hp⟩
  obtain ⟨i, hl, e⟩ := List.getElem_of_mem hm
  obtain ⟨o, ho⟩ := Store.all (S := S) i (by rw [← r.len]; exact hl)
  obtain ⟨a, u, h1, h2, _⟩ := r.ob i o ho
  rw [List.getElem?_eq_getElem hl, e] at h1
  cases h1
  rw [h2] at hp
  cases hp
theorem Rl.nh {p : Addr} {i : Nat} (r : Rl G ρ S H) (hi : ρ.v[i]? = some p) : p ∉ ρ.h := fun hm => (r.hh p hm).1 (List.mem_of_getElem? hi)
theorem Rl.leUpd {p : Addr} {i : Nat} {u u' : HO} (r : Rl G ρ S H) (hi : ρ.v[i]? = some p) (hp : H p = some u) (n : NoT u) : Le G ρ H ρ (L2.upd H p u') := Le.upd (List.mem_of_getElem? hi) (r.nh hi) hp n
/-- a new thing of the store -/
theorem Rl.push {p : Addr} {o : Ob} {u : HO} (r : Rl G ρ S H) (hp : H p = none) (ro : RO G ρ H o u) : Rl G (ρ.push p) (S.push o) (L2.upd H p u) := by
  have l : Le G ρ H (ρ.push p) (L2.upd H p u) := Le.push hp
  have hn := r.no hp
  refine ⟨by simp [Wd.push, r.len, Store.size_push], ?_, fun a ha => ?_, fun i ob e => ?_⟩
  · show (ρ.v ++ [p]).Nodup
    rw [List.nodup_append]
    refine ⟨r.nd, by simp, fun a ha b hb => ?_⟩
    simp only [List.mem_singleton] at hb
    subst hb
    rintro rfl
    exact hn.1 ha
  · obtain ⟨h1, h2⟩ := r.hh a ha
    have hne : a ≠ p := fun z => h2 (by rw [z]; exact hp)
    exact ⟨by simp [Wd.push, h1, hne], by rw [upd_ne hne]; exact h2⟩
  · by_cases hi : i = S.size
    · subst hi
      rw [Store.get_push_same] at e
      cases e
      refine ⟨p, u, ?_, upd_same, ro.mono l⟩
      rw [← r.len]
      simp [Wd.push]
    · rw [Store.get_push_ne hi] at e
      obtain ⟨a, u', h1, h2, h3⟩ := r.ob i ob e
      exact ⟨a, u', pre_get l.pre h1, by rw [upd_ne (ne_of_none h2 hp)]; exact h2, h3.mono l⟩
theorem RV.new {p : Addr} {u : HO} (r : Rl G ρ S H) : RV G (ρ.push p) (L2.upd H p u) (.ref S.size) (.ref p) := .ref (by rw [← r.len]; simp [Wd.push])
theorem nd_get {l : List Addr} (nd : l.Nodup) {i j : Nat} {a : Addr} (h1 : l[i]? = some a) (h2 : l[j]? = some a) : i = j := by
  obtain ⟨a1, e1⟩ := List.getElem?_eq_some_iff.mp h1
  obtain ⟨a2, e2⟩ := List.getElem?_eq_some_iff.mp h2
  have pw := List.pairwise_iff_getElem.mp nd
  rcases Nat.lt_trichotomy i j with h | h | h
  · exact absurd (e1.trans e2.symm) (pw i j a1 a2 h)
  · exact h
  · exact absurd (e2.trans e1.symm) (pw j i a2 a1 h)
/-- a thing of the store is changed -/
theorem Rl.set {p : Addr} {o o' : Ob} {u u' : HO} {i : Nat} (r : Rl G ρ S H) (hi : ρ.v[i]? = some p) (ho : S.get i = some o) (hp : H p = some u) (n : NoT u) (ro : RO G ρ H o' u') : Rl G ρ (S.set i o') (L2.upd H p u') := by
  have l : Le G ρ H ρ (L2.upd H p u') := r.leUpd hi hp n
  refine ⟨by rw [Store.size_set]; exact r.len, r.nd, fun a ha => ⟨(r.hh a ha).1, ?_⟩, fun j ob e => ?_⟩
  · rw [l.kh a ha (r.hh a ha).2]
    exact (r.hh a ha).2
  by_cases hij : i = j
  · subst hij
    rw [Store.get_set_same (Store.get_lt ho)] at e
    cases e
    exact ⟨p, u', hi, upd_same, ro.mono l⟩
  · rw [Store.get_set_ne hij] at e
    obtain ⟨a, v, h1, h2, h3⟩ := r.ob j ob e
    refine ⟨a, v, h1, ?_, h3.mono l⟩
    rw [upd_ne]
    · exact h2
    · rintro rfl
      exact hij (nd_get r.nd hi h1)
/-- what stands at a reference -/
theorem Rl.at {i : Nat} {a : Addr} {o : Ob} (r : Rl G ρ S H) (h : ρ.v[i]? = some a) (e : S.get i = some o) : ∃ u, H a = some u ∧ RO G ρ H o u := by
  obtain ⟨b, u, h1, h2, h3⟩ := r.ob i o e
  rw [h] at h1
  cases h1
  exact ⟨u, h2, h3⟩
end
end L2.Mi

set_option Elab.async false
set_option linter.all false
set_option maxRecDepth 100000
set_option maxHeartbeats 4000000
/-! Mini, 1: the runs of expressions and statements, one lemma a construct. -/
namespace L2.Mi
open PySem PySem.Spec PyProof.Rows

theorem Res.bind_assoc {α β γ : Type} {r : Res α} {f : α → Store → Res β} {g : β → Store → Res γ} : (r.bind f).bind g = r.bind fun a S => (f a S).bind g := by
  cases r <;> rfl

/-! ### combinators -/
def eVar (i : Nat) : ME := fun σ S => match σ[i]? with | some (some d) => .ok d S | _ => .bad
def eC (d : D) : ME := fun _ S => .ok d S
def eBin (f : D → D → Store → Res D) (a b : ME) : ME := fun σ S => (a σ S).bind fun x S1 => (b σ S1).bind fun y S2 => f x y S2
def eUn (f : D → Store → Res D) (a : ME) : ME := fun σ S => (a σ S).bind fun x S1 => f x S1
def aList : List ME → MA
  | [] => fun _ S => .ok [] S
  | m :: ms => fun σ S => (m σ S).bind fun x S1 => (aList ms σ S1).bind fun xs S2 => .ok (x :: xs) S2
def eTup (ms : List ME) : ME := fun σ S => (aList ms σ S).bind fun xs S1 => .ok (.tup xs) S1
/-- a list that is changed later, one that is not -/
def eLst (ms : List ME) : ME := fun σ S => (aList ms σ S).bind fun xs S1 => .ok (.ref S1.size) (S1.push (.lst xs))
def eLv (ms : List ME) : ME := fun σ S => (aList ms σ S).bind fun xs S1 => .ok (.lv xs) S1
/-- a call of a built-in -/
def eFn (f : List D → Store → Res D) (a : MA) : ME := fun σ S => (a σ S).bind f
def tOf (m : ME) : MT := fun σ S => (m σ S).bind fun d S1 => match d with | .bl b => .ok b S1 | _ => .bad
def tAnd (a b : MT) : MT := fun σ S => (a σ S).bind fun c S1 => if c then b σ S1 else .ok false S1
def tOr (a b : MT) : MT := fun σ S => (a σ S).bind fun c S1 => if c then .ok true S1 else b σ S1
def tNot (a : MT) : MT := fun σ S => (a σ S).bind fun c S1 => .ok (!c) S1
def eAnd (a b : ME) : ME := fun σ S => (tOf a σ S).bind fun c S1 => if c then b σ S1 else .ok (.bl false) S1
def eOr (a b : ME) : ME := fun σ S => (tOf a σ S).bind fun c S1 => if c then .ok (.bl true) S1 else b σ S1
def eNot (a : ME) : ME := fun σ S => (tOf a σ S).bind fun c S1 => .ok (.bl (!c)) S1
def eIf (t : MT) (a b : ME) : ME := fun σ S => (t σ S).bind fun c S1 => if c then a σ S1 else b σ S1
def eChain (f g : D → D → Store → Res D) (a b c : ME) : ME := fun σ S => (a σ S).bind fun x S1 => (b σ S1).bind fun y S2 => (f x y S2).bind fun d S3 =>
  match d with
  | .bl true => (c σ S3).bind fun z S4 => g y z S4
  | .bl false => .ok (.bl false) S3
  | _ => .bad

def sNext : MS := fun σ S => .nx σ S
def sBreak : MS := fun σ S => .bk σ S
def sCont : MS := fun σ S => .ct σ S
def sSeq (a b : MS) : MS := fun σ S => match a σ S with | .nx σ1 S1 => b σ1 S1 | r => r
def sOf (σ : En) (r : Res RS) : RS := match r with | .ok a _ => a | .exc x S => .exc x σ S | .bad => .bad
def sDo (m : ME) (k : D → Store → RS) : MS := fun σ S => match m σ S with | .ok d S1 => k d S1 | .exc x S1 => .exc x σ S1 | .bad => .bad
def sRet (m : ME) : MS := fun σ S => match m σ S with | .ok d S1 => .rt d S1 | .exc x S1 => .exc x σ S1 | .bad => .bad
def sRetN : MS := fun σ S => .rt .non S
def sDrop (m : ME) : MS := fun σ S => match m σ S with | .ok _ S1 => .nx σ S1 | .exc x S1 => .exc x σ S1 | .bad => .bad
def sIf (t : MT) (a b : MS) : MS := fun σ S => match t σ S with | .ok c S1 => (if c then a σ S1 else b σ S1) | .exc x S1 => .exc x σ S1 | .bad => .bad
/-- targets -/
abbrev MG := D → En → Store → Res En
def gName (i : Nat) : MG := fun d σ S => .ok (σ.set i (some d)) S
def gAll : List MG → List D → En → Store → Res En
  | [], [], σ, S => .ok σ S
  | g :: gs, d :: ds, σ, S => (g d σ S).bind fun σ1 S1 => gAll gs ds σ1 S1
  | _, _, _, _ => .bad
def gTup (gs : List MG) : MG := fun d σ S => match d with
  | .tup ds => gAll gs ds σ S
  | _ => .bad
def sAsg (m : ME) (g : MG) : MS := fun σ S => match m σ S with
  | .ok d S1 => (match g d σ S1 with | .ok σ2 S2 => .nx σ2 S2 | _ => .bad)
  | .exc x S1 => .exc x σ S1
  | .bad => .bad
abbrev sSet (i : Nat) (m : ME) : MS := sAsg m (gName i)
def sAug (i : Nat) (f : D → D → Store → Res D) (m : ME) : MS := fun σ S => match σ[i]? with
  | some (some x) => (match (m σ S).bind fun y S1 => f x y S1 with | .ok d S1 => .nx (σ.set i (some d)) S1 | .exc z S1 => .exc z σ S1 | .bad => .bad)
  | _ => .bad
def sWhile (t : MT) (b : MS) : Nat → MS
  | 0 => fun _ _ => .bad
  | n + 1 => fun σ S => match t σ S with
    | .ok true S1 => (match b σ S1 with
      | .nx σ2 S2 => sWhile t b n σ2 S2
      | .ct σ2 S2 => sWhile t b n σ2 S2
      | .bk σ2 S2 => .nx σ2 S2
      | r => r)
    | .ok false S1 => .nx σ S1
    | .exc x S1 => .exc x σ S1
    | .bad => .bad
/-- what is walked: at turn k, in a store: an item, or the end -/
abbrev Src := Nat → Store → Option (Option D)
abbrev MI := En → Store → Res Src
def forGo (src : Src) (g : MG) (b : MS) : Nat → Nat → MS
  | 0, _ => fun _ _ => .bad
  | n + 1, k => fun σ S => match src k S with
    | none => .bad
    | some none => .nx σ S
    | some (some d) => (match g d σ S with
      | .ok σ1 S1 => (match b σ1 S1 with
        | .nx σ2 S2 => forGo src g b n (k + 1) σ2 S2
        | .ct σ2 S2 => forGo src g b n (k + 1) σ2 S2
        | .bk σ2 S2 => .nx σ2 S2
        | r => r)
      | _ => .bad)
def sFor (i : MI) (g : MG) (b : MS) (n : Nat) : MS := fun σ S => match i σ S with
  | .ok src S1 => forGo src g b n 0 σ S1
  | .exc x S1 => .exc x σ S1
  | .bad => .bad
def iTup (m : ME) : MI := fun σ S => (m σ S).bind fun d S1 => match d with
  | .tup ds => .ok (fun k _ => some ds[k]?) S1
  | .kt ds => .ok (fun k _ => some ds[k]?) S1
  | _ => .bad
/-- the items of a list as it stands -/
def listAt (S : Store) : D → Option (List D)
  | .lv ds => some ds
  | .fl ds => some ds
  | .ref a => (match S.get a with | some (.lst ds) => some ds | some (.lck (.lst ds)) => some ds | _ => none)
  | _ => none
def iList (m : ME) : MI := fun σ S => (m σ S).bind fun d S1 => match listAt S1 d with
  | some _ => .ok (fun k S' => (listAt S' d).map fun ds => ds[k]?) S1
  | none => .bad
def i62 (j : Int) : Bool := decide (-(2 ^ 62) ≤ j) && decide (j < 2 ^ 62)
def iRange1 (m : ME) : MI := fun σ S => (m σ S).bind fun d S1 => match d with
  | .int j => if i62 j then .ok (fun k _ => some (if k < j.toNat then some (.int (0 + (k : Int))) else none)) S1 else .bad
  | _ => .bad
def iRange2 (a b : ME) : MI := fun σ S => (aList [a, b] σ S).bind fun ds S1 => match ds with
  | [.int i, .int j] => if i62 i && i62 j then .ok (fun k _ => some (if k < (j - i).toNat then some (.int (i + (k : Int))) else none)) S1 else .bad
  | _ => .bad

/-! ### judgements -/
structure Cc (G : Gx) (X : Cx) (W : WX) : Prop where
  k : X.K = G.K
  tk : Takes X W
  hp : PassesOwn (model X.prog X.w) X.A X.env X.xe
  calm : X.calm = true
  nd : X.N.Nodup
abbrev SE (G : Gx) (X : Cx) (W : WX) (e : Expr) (m : ME) : Prop := PE X e (tm G W m)
abbrev SA (G : Gx) (X : Cx) (W : WX) (es : List Expr) (m : MA) : Prop := PA X es (tma G W m)
abbrev ST (G : Gx) (X : Cx) (W : WX) (e : Expr) (m : MT) : Prop := PT X e (tmt G W m)
abbrev SW (G : Gx) (X : Cx) (W : WX) (e : Expr) (m : MT) : Prop := PW X e (tmt G W m)
abbrev SS (G : Gx) (X : Cx) (W : WX) (st : Stmt) (m : MS) : Prop := PS X st (tms G W m)
abbrev SSs (G : Gx) (X : Cx) (W : WX) (st : List Stmt) (m : MS) : Prop := PSs X st (tms G W m)

abbrev EW (W : WX) (σ : St) : XK := fun c d H' => W c d σ H'
section
variable {G : Gx} {X : Cx} {W : WX} {pins : List (Addr × Obj)} {σ : St} {H : Hp} {s : Shared} {ρ : Wd} {σs : En} {S : Store} {α β : Type} {R : Wd → Hp → α → β → Prop} {Q : β → Hp → Prop}
/-- an expression, then the rest -/
theorem SE.go {e : Expr} {m : ME} {f : D → Store → Res α} (h : SE G X W e m) (I : Inv X pins σ H s) (rl : Rl G ρ S H) (re : RE G ρ H σs σ) (p : PostR G R ρ H ((m σs S).bind f) Q (EW W σ)) {Z : Value → Shared → Prop}
    (k : ∀ v s1 x H1 ρ1 S1 d, Inv X pins σ H1 s1 → RelV x v → Le G ρ H ρ1 H1 → Rl G ρ1 S1 H1 → RE G ρ1 H1 σs σ → RV G ρ1 H1 d x → PostR G R ρ1 H1 (f d S1) Q (EW W σ) → Z v s1) :
    wpAny (model X.prog X.w) X.A (eval e X.env) Z X.xe s := by
  refine thn (h.run pins s σ H (fun x H1 => ∃ ρ1 S1 d, Le G ρ H ρ1 H1 ∧ Rl G ρ1 S1 H1 ∧ RV G ρ1 H1 d x ∧ PostR G R ρ1 H1 (f d S1) Q (EW W σ)) I ⟨ρ, σs, S, rl, re, p.bind (R := RV G) fun ρ1 H1 S1 d v l r1 rv p1 => ⟨ρ1, S1, d, l, r1, rv, p1⟩⟩) ?_
  rintro v s1 ⟨x, H1, I1, rx, ρ1, S1, d, l, r1, rv, p1⟩
  exact k v s1 x H1 ρ1 S1 d I1 rx l r1 (re.mono l) rv p1
theorem SA.go {es : List Expr} {m : MA} {pos : Pos} {f : List D → Store → Res α} (h : SA G X W es m) (I : Inv X pins σ H s) (rl : Rl G ρ S H) (re : RE G ρ H σs σ) (p : PostR G R ρ H ((m σs S).bind f) Q (EW W σ)) {Z : List Value → Shared → Prop}
    (k : ∀ us s1 xs H1 ρ1 S1 ds, Inv X pins σ H1 s1 → Vals xs us → Le G ρ H ρ1 H1 → Rl G ρ1 S1 H1 → RE G ρ1 H1 σs σ → RVs G ρ1 H1 ds xs → PostR G R ρ1 H1 (f ds S1) Q (EW W σ) → Z us s1) :
    wpAny (model X.prog X.w) X.A (spliced (backTo pos (starEach es X.env))) Z X.xe s := by
  refine thn (h.run pos pins s σ H (fun xs H1 => ∃ ρ1 S1 ds, Le G ρ H ρ1 H1 ∧ Rl G ρ1 S1 H1 ∧ RVs G ρ1 H1 ds xs ∧ PostR G R ρ1 H1 (f ds S1) Q (EW W σ)) I ⟨ρ, σs, S, rl, re, p.bind (R := RVs G) fun ρ1 H1 S1 d v l r1 rv p1 => ⟨ρ1, S1, d, l, r1, rv, p1⟩⟩) ?_
  rintro v s1 ⟨x, H1, I1, rx, ρ1, S1, d, l, r1, rv, p1⟩
  exact k v s1 x H1 ρ1 S1 d I1 rx l r1 (re.mono l) rv p1
theorem ST.go {e : Expr} {m : MT} {f : Bool → Store → Res α} (h : ST G X W e m) (I : Inv X pins σ H s) (rl : Rl G ρ S H) (re : RE G ρ H σs σ) (p : PostR G R ρ H ((m σs S).bind f) Q (EW W σ)) {Z : Bool → Shared → Prop}
    (k : ∀ b s1 H1 ρ1 S1, Inv X pins σ H1 s1 → Le G ρ H ρ1 H1 → Rl G ρ1 S1 H1 → RE G ρ1 H1 σs σ → PostR G R ρ1 H1 (f b S1) Q (EW W σ) → Z b s1) :
    wpAny (model X.prog X.w) X.A (isTrue e X.env (eval e X.env)) Z X.xe s := by
  refine thn (h.run pins s σ H (fun b H1 => ∃ ρ1 S1, Le G ρ H ρ1 H1 ∧ Rl G ρ1 S1 H1 ∧ PostR G R ρ1 H1 (f b S1) Q (EW W σ)) I ⟨ρ, σs, S, rl, re, p.bind (R := fun _ _ b c => b = c) fun ρ1 H1 S1 d v l r1 rv p1 => ⟨ρ1, S1, l, r1, rv ▸ p1⟩⟩) ?_
  rintro v s1 ⟨H1, I1, ρ1, S1, l, r1, p1⟩
  exact k v s1 H1 ρ1 S1 I1 l r1 (re.mono l) p1
/-- a value is given out -/
theorem post_ok {Q : VK} {E : XK} {d : D} {x : V} (p : Post G ρ H (.ok d S) Q E) (rl : Rl G ρ S H) (rv : RV G ρ H d x) : Q x H := p ρ H x Le.refl rl rv
theorem post_new {Q : VK} {E : XK} {d : D} {x : V} {a : Addr} {u : HO} (p : Post G ρ H (.ok d S) Q E) (rl : Rl G ρ S H) (hn : H a = none) (rv : RV G ρ (L2.upd H a u) d x) : Q x (L2.upd H a u) := p ρ _ x (Le.new hn) (rl.other hn) rv
end

/-! ### operations on values -/
def OpS (G : Gx) (X : Cx) (W : WX) (F : Value → Value → Sem Value) (f : D → D → Store → Res D) : Prop :=
  ∀ (pins : List (Addr × Obj)) (s : Shared) (σ : St) (H : Hp) (x y : V) (v u : Value) (Q : VK) (ρ : Wd) (S : Store) (d1 d2 : D), Inv X pins σ H s → RelV x v → RelV y u → Rl G ρ S H → RV G ρ H d1 x → RV G ρ H d2 y →
    Post G ρ H (f d1 d2 S) Q (EW W σ) → wpAny (model X.prog X.w) X.A (F v u) (EP X pins σ Q) X.xe s
def UnS (G : Gx) (X : Cx) (W : WX) (F : Value → Sem Value) (f : D → Store → Res D) : Prop :=
  ∀ (pins : List (Addr × Obj)) (s : Shared) (σ : St) (H : Hp) (x : V) (v : Value) (Q : VK) (ρ : Wd) (S : Store) (d : D), Inv X pins σ H s → RelV x v → Rl G ρ S H → RV G ρ H d x →
    Post G ρ H (f d S) Q (EW W σ) → wpAny (model X.prog X.w) X.A (F v) (EP X pins σ Q) X.xe s
def FnS (G : Gx) (X : Cx) (W : WX) (F : Value) (f : List D → Store → Res D) : Prop :=
  ∀ (pins : List (Addr × Obj)) (s : Shared) (σ : St) (H : Hp) (xs : List V) (us : List Value) (Q : VK) (ρ : Wd) (S : Store) (ds : List D), Inv X pins σ H s → Vals xs us → Rl G ρ S H → RVs G ρ H ds xs →
    Post G ρ H (f ds S) Q (EW W σ) → wpAny (model X.prog X.w) X.A (call F us) (EP X pins σ Q) X.xe s
section
variable {G : Gx} {X : Cx} {W : WX}
theorem OpS.of {F : Value → Value → Sem Value} {f : D → D → Store → Res D} {r : R2} (ho : OpR X F r)
    (h : ∀ ρ S H d1 d2 x y Q E, Rl G ρ S H → RV G ρ H d1 x → RV G ρ H d2 y → Post G ρ H (f d1 d2 S) Q E → r x y H Q) : OpS G X W F f :=
  fun pins s σ H x y v u Q ρ S d1 d2 I rx ry rl r1 r2 p => ho pins s σ H x y v u Q I rx ry (h ρ S H d1 d2 x y Q _ rl r1 r2 p)
theorem UnS.of {F : Value → Sem Value} {f : D → Store → Res D} {r : V → Hp → VK → Prop} (ho : UnR X F r)
    (h : ∀ ρ S H d x Q E, Rl G ρ S H → RV G ρ H d x → Post G ρ H (f d S) Q E → r x H Q) : UnS G X W F f :=
  fun pins s σ H x v Q ρ S d I rx rl r1 p => ho pins s σ H x v Q I rx (h ρ S H d x Q _ rl r1 p)
theorem FnS.of {F : Value} {f : List D → Store → Res D} {r : List V → Hp → VK → Prop} (ho : CallR X F r)
    (h : ∀ ρ S H ds xs Q E, Rl G ρ S H → RVs G ρ H ds xs → Post G ρ H (f ds S) Q E → r xs H Q) : FnS G X W F f :=
  fun pins s σ H xs us Q ρ S ds I r rl r1 p => ho pins s σ H xs us Q I r (h ρ S H ds xs Q _ rl r1 p)
end

/-! ### expressions -/
section
variable {G : Gx} {X : Cx} {W : WX} {a b c e : Expr} {es : List Expr} {ma mb mc m : ME} {t u : MT} {pos : Pos}
theorem se_of {tr : TE} (h : PE X e tr) (i : ∀ σ H Q ρ σs S, Rl G ρ S H → RE G ρ H σs σ → Post G ρ H (m σs S) Q (EW W σ) → tr σ H Q) : SE G X W e m :=
  PE.weak h fun σ H Q ⟨ρ, σs, S, rl, re, p⟩ => i σ H Q ρ σs S rl re p
theorem se_var (i : Nat) {x : Str} (hN : X.N[i]? = some x := by rfl) (hv : Vis X.env.scope x := by first | exact Or.inl rfl | exact Or.inr (Or.inl rfl) | exact Or.inr (Or.inr rfl)) (hd : (x == ("__debug__" : Str)) = false := by decide)
    (hcd : (x == ("__classdict__" : Str)) = false := by decide) : SE G X W (.Name x pos) (eVar i) := by
  refine se_of (pe_var hN hv hd hcd) fun σ H Q ρ σs S rl re p => ?_
  unfold eVar at p
  cases q : σs[i]? with
  | none => rw [q] at p; exact p.elim
  | some o =>
    cases o with
    | none => rw [q] at p; exact p.elim
    | some d =>
      rw [q] at p
      obtain ⟨v, h1, h2⟩ := re.get i d q
      exact ⟨v, h1, post_ok p rl h2⟩
theorem se_int {i : Int} {j : Nat} : SE G X W (.Constant (.int i) j pos) (eC (.int i)) := se_of pe_int fun _ _ _ _ _ _ rl _ p => post_ok p rl (.int i)
theorem se_bl {i : Bool} {j : Nat} : SE G X W (.Constant (.bool i) j pos) (eC (.bl i)) := se_of pe_bl fun _ _ _ _ _ _ rl _ p => post_ok p rl (.bl i)
theorem se_non {j : Nat} : SE G X W (.Constant .none j pos) (eC .non) := se_of pe_non fun _ _ _ _ _ _ rl _ p => post_ok p rl .non
theorem rv_str {ρ : Wd} {H : Hp} (x : Str) : RV G ρ H (.str x.cps.toList) (.str x) := by
  have h : RV G ρ H (.str x.cps.toList) (.str ⟨x.cps.toList.toArray⟩) := .str x.cps.toList
  simpa using h
theorem se_str {x : Str} {j : Nat} (l : List Nat) (hl : x.cps.toList = l := by rfl) : SE G X W (.Constant (.str x) j pos) (eC (.str l)) := by
  subst hl
  exact se_of pe_str fun _ _ _ _ _ _ rl _ p => post_ok p rl (rv_str x)
/-- a constant of the module -/
theorem se_glob {x : Str} {v : V} {w : Value} {d : D} (hg : Gl X x) (hm : X.mg x = some w) (r : RelV v w) (rv : ∀ ρ H, RV G ρ H d v) (hdb : (x == ("__debug__" : Str)) = false := by decide) : SE G X W (.Name x pos) (eC d) :=
  se_of (pe_glob hg hm r hdb) fun _ _ _ _ _ _ rl _ p => post_ok p rl (rv _ _)
theorem se_bin {op : Operator} {f : D → D → Store → Res D} (ho : OpS G X W (binaryOp op) f) (ha : SE G X W a ma) (hb : SE G X W b mb) : SE G X W (.BinOp a op b pos) (eBin f ma mb) :=
  ⟨fun pins s σ H Q I ⟨ρ, σs, S, rl, re, p⟩ => wpAny_BinOp (ha.go I rl re p fun v s1 x H1 ρ1 S1 d I1 rx l1 rl1 re1 rv1 p1 => hb.go I1 rl1 re1 p1 fun u s2 y H2 ρ2 S2 e I2 ry l2 rl2 re2 rv2 p2 =>
    ho pins s2 σ H2 x y v u Q ρ2 S2 d e I2 rx ry rl2 (rv1.mono l2) rv2 p2)⟩
theorem se_un {op : UnaryOp} {f : D → Store → Res D} (ho : UnS G X W (unaryOp op) f) (ha : SE G X W a ma) : SE G X W (.UnaryOp op a pos) (eUn f ma) :=
  ⟨fun pins s σ H Q I ⟨ρ, σs, S, rl, re, p⟩ => UnaryOp_ (ha.go I rl re p fun v s1 x H1 ρ1 S1 d I1 rx l1 rl1 re1 rv1 p1 => ho pins s1 σ H1 x v Q ρ1 S1 d I1 rx rl1 rv1 p1)⟩
theorem se_cmp {op : CmpOp} {f : D → D → Store → Res D} (ho : OpS G X W (compareOp op) f) (ha : SE G X W a ma) (hb : SE G X W b mb) (hm : behindInMarks op b = false := by first | exact nobehind _ (by decide) (by decide) | rfl) : SE G X W (.Compare a [op] [b] pos) (eBin f ma mb) :=
  ⟨fun pins s σ H Q I ⟨ρ, σs, S, rl, re, p⟩ => wpAny_Compare1 (ha.go I rl re p fun v s1 x H1 ρ1 S1 d I1 rx l1 rl1 re1 rv1 p1 => hb.go I1 rl1 re1 p1 fun u s2 y H2 ρ2 S2 e I2 ry l2 rl2 re2 rv2 p2 =>
    ho pins s2 σ H2 x y v u Q ρ2 S2 d e I2 rx ry rl2 (rv1.mono l2) rv2 p2) hm⟩
/-- a value that is a bool, behind a test's run -/
theorem bool_go {pins : List (Addr × Obj)} {σ : St} {H : Hp} {ρ : Wd} {d : D} {S : Store} {Q : Bool → Hp → Prop} {E : XK} {x : V} (p : PostT G ρ H (match d with | .bl b => .ok b S | _ => .bad) Q E) (rl : Rl G ρ S H) (rv : RV G ρ H d x) : ∃ k, x = .bl k ∧ Q k H := by
  cases rv with
  | bl b => exact ⟨b, rfl, p ρ H b Le.refl rl rfl⟩
  | _ => exact p.elim
/-- a comparison as a test -/
theorem st_cmp {op : CmpOp} {f : D → D → Store → Res D} (ho : OpS G X W (compareOp op) f) (ha : SE G X W a ma) (hb : SE G X W b mb) (hm : behindInMarks op b = false := by first | exact nobehind _ (by decide) (by decide) | rfl) : ST G X W (.Compare a [op] [b] pos) (tOf (eBin f ma mb)) := by
  refine ⟨fun pins s σ H Q I ⟨ρ, σs, S, rl, re, p⟩ => ?_⟩
  have p0 : PostT G ρ H ((ma σs S).bind fun x S1 => ((mb σs S1).bind fun y S2 => f x y S2).bind fun d S3 => match d with | .bl b => .ok b S3 | _ => .bad) Q (EW W σ) := by
    have p' := p
    unfold tOf eBin at p'
    rw [Res.bind_assoc] at p'
    exact p'
  refine wpAny_isTrue_Compare1 (ha.go I rl re p0 fun v s1 x H1 ρ1 S1 d I1 rx l1 rl1 re1 rv1 p1 => ?_) hm
  have p1' : PostT G ρ1 H1 ((mb σs S1).bind fun y S2 => (f d y S2).bind fun d S3 => match d with | .bl b => .ok b S3 | _ => .bad) Q (EW W σ) := by
    rw [Res.bind_assoc] at p1
    exact p1
  refine hb.go I1 rl1 re1 p1' fun u s2 y H2 ρ2 S2 e I2 ry l2 rl2 re2 rv2 p2 => ?_
  refine thn (ho pins s2 σ H2 x y v u _ ρ2 S2 d e I2 rx ry rl2 (rv1.mono l2) rv2 (p2.bind (R := RV G) (Q1 := fun z H3 => ∃ k, z = .bl k ∧ Q k H3) fun ρ3 H3 S3 z w l3 rl3 rv3 p3 => bool_go (pins := pins) (σ := σ) p3 rl3 rv3)) ?_
  rintro c s3 ⟨z, H3, I3, r3, k, rfl, q3⟩
  cases r3
  exact wpAny_truthy_bool ⟨H3, I3, q3⟩
/-- an expression whose value is a bool, as a test -/
theorem st_val (h : SE G X W e m) (he : ∀ whole, isTrue e X.env whole = (do let v ← whole; standAt e.pos; holding [v] (truthy v)) := by intro _; rfl) : ST G X W e (tOf m) := by
  refine PT.weak (pt_val h he) fun σ H Q ⟨ρ, σs, S, rl, re, p⟩ => ?_
  exact ⟨ρ, σs, S, rl, re, p.bind (R := RV G) fun ρ3 H3 S3 z w l3 rl3 rv3 p3 => bool_go (pins := []) (σ := σ) p3 rl3 rv3⟩
theorem sw_and1 (ha : ST G X W a t) : SW G X W (.BoolOp .And [a] pos) t := pw_and1 ha
theorem sw_or1 (ha : ST G X W a t) : SW G X W (.BoolOp .Or [a] pos) t := pw_or1 ha
theorem sw_and {rest : List Expr} (ha : ST G X W a t) (hb : SW G X W (.BoolOp .And (b :: rest) pos) u) : SW G X W (.BoolOp .And (a :: b :: rest) pos) (tAnd t u) := by
  refine PW.weak (pw_and ha hb) fun σ H Q ⟨ρ, σs, S, rl, re, p⟩ => ?_
  refine ⟨ρ, σs, S, rl, re, p.bind (R := fun _ _ b c => b = c) fun ρ1 H1 S1 c1 c2 l1 rl1 rv1 p1 => ?_⟩
  subst rv1
  cases c1 with
  | true => exact ⟨ρ1, σs, S1, rl1, re.mono l1, p1⟩
  | false => exact p1 ρ1 H1 false Le.refl rl1 rfl
theorem sw_or {rest : List Expr} (ha : ST G X W a t) (hb : SW G X W (.BoolOp .Or (b :: rest) pos) u) : SW G X W (.BoolOp .Or (a :: b :: rest) pos) (tOr t u) := by
  refine PW.weak (pw_or ha hb) fun σ H Q ⟨ρ, σs, S, rl, re, p⟩ => ?_
  refine ⟨ρ, σs, S, rl, re, p.bind (R := fun _ _ b c => b = c) fun ρ1 H1 S1 c1 c2 l1 rl1 rv1 p1 => ?_⟩
  subst rv1
  cases c1 with
  | false => exact ⟨ρ1, σs, S1, rl1, re.mono l1, p1⟩
  | true => exact p1 ρ1 H1 true Le.refl rl1 rfl
theorem st_w (h : SW G X W e t) : ST G X W e t := h.pt
theorem st_not (ha : ST G X W a t) : ST G X W (.UnaryOp .Not a pos) (tNot t) := by
  refine PT.weak (pt_not ha) fun σ H Q ⟨ρ, σs, S, rl, re, p⟩ => ?_
  refine ⟨ρ, σs, S, rl, re, p.bind (R := fun _ _ b c => b = c) fun ρ1 H1 S1 c1 c2 l1 rl1 rv1 p1 => ?_⟩
  subst rv1
  exact p1 ρ1 H1 (!c1) Le.refl rl1 rfl
/-- and, or, not as values of bools -/
theorem se_one {op} (h : SE G X W a m) : SE G X W (.BoolOp op [a] pos) m := pe_one h
theorem tof_go {σ : St} {H : Hp} {ρ : Wd} {σs : En} {S : Store} {Q : VK} {E : XK} {f : Bool → Store → Res D} (rl : Rl G ρ S H) (p : Post G ρ H ((tOf m σs S).bind f) Q E) {Q1 : VK}
    (k : ∀ ρ1 H1 S1 c, Le G ρ H ρ1 H1 → Rl G ρ1 S1 H1 → Post G ρ1 H1 (f c S1) Q E → Q1 (.bl c) H1) : Post G ρ H (m σs S) Q1 E := by
  unfold tOf at p
  cases q : m σs S with
  | ok d S1 =>
    rw [q] at p
    intro ρ1 H1 v l1 rl1 rv1
    cases rv1 with
    | bl b => exact k ρ1 H1 S1 b l1 rl1 (PostR.le (r := f b S1) p l1)
    | _ => exact False.elim p
  | exc x S1 => rw [q] at p; exact p
  | bad => rw [q] at p; exact p
theorem se_and {rest : List Expr} (ha : SE G X W a ma) (hb : SE G X W (.BoolOp .And (b :: rest) pos) mb) : SE G X W (.BoolOp .And (a :: b :: rest) pos) (eAnd ma mb) := by
  refine se_of (pe_and ha hb) fun σ H Q ρ σs S rl re p => ?_
  refine ⟨ρ, σs, S, rl, re, tof_go (σ := σ) rl p fun ρ1 H1 S1 c l1 rl1 p1 => ⟨c, rfl, ?_⟩⟩
  cases c with
  | true => exact ⟨ρ1, σs, S1, rl1, re.mono l1, p1⟩
  | false => exact post_ok (S := S1) p1 rl1 (.bl false)
theorem se_or {rest : List Expr} (ha : SE G X W a ma) (hb : SE G X W (.BoolOp .Or (b :: rest) pos) mb) : SE G X W (.BoolOp .Or (a :: b :: rest) pos) (eOr ma mb) := by
  refine se_of (pe_or ha hb) fun σ H Q ρ σs S rl re p => ?_
  refine ⟨ρ, σs, S, rl, re, tof_go (σ := σ) rl p fun ρ1 H1 S1 c l1 rl1 p1 => ⟨c, rfl, ?_⟩⟩
  cases c with
  | false => exact ⟨ρ1, σs, S1, rl1, re.mono l1, p1⟩
  | true => exact post_ok (S := S1) p1 rl1 (.bl true)
theorem se_not (ha : SE G X W a ma) : SE G X W (.UnaryOp .Not a pos) (eNot ma) := by
  refine se_of (pe_not ha) fun σ H Q ρ σs S rl re p => ?_
  exact ⟨ρ, σs, S, rl, re, tof_go (σ := σ) rl p fun ρ1 H1 S1 c l1 rl1 p1 => ⟨c, rfl, post_ok (S := S1) p1 rl1 (.bl _)⟩⟩
theorem se_if (hc : ST G X W c t) (ha : SE G X W a ma) (hb : SE G X W b mb) : SE G X W (.IfExp c a b pos) (eIf t ma mb) := by
  refine se_of (pe_ifExp hc ha hb) fun σ H Q ρ σs S rl re p => ?_
  refine ⟨ρ, σs, S, rl, re, p.bind (R := fun _ _ b c => b = c) fun ρ1 H1 S1 c1 c2 l1 rl1 rv1 p1 => ?_⟩
  subst rv1
  cases c1 with
  | true => exact ⟨ρ1, σs, S1, rl1, re.mono l1, p1⟩
  | false => exact ⟨ρ1, σs, S1, rl1, re.mono l1, p1⟩
/-! arguments and displays -/
theorem sa_nil : SA G X W [] (aList []) := PA.weak pa_nil fun σ H Q ⟨ρ, σs, S, rl, re, p⟩ => p ρ H [] Le.refl rl .nil
theorem sa_cons {ms : List ME} (ha : SE G X W e m) (hr : SA G X W es (aList ms)) (hs : starEach (e :: es) X.env = (false, eval e X.env) :: starEach es X.env := by rfl) : SA G X W (e :: es) (aList (m :: ms)) := by
  refine PA.weak (pa_cons ha hr hs) fun σ H Q ⟨ρ, σs, S, rl, re, p⟩ => ?_
  refine ⟨ρ, σs, S, rl, re, PostR.bind (R := RV G) (r := m σs S) p fun ρ1 H1 S1 d v l1 rl1 rv1 p1 => ?_⟩
  refine ⟨ρ1, σs, S1, rl1, re.mono l1, PostR.bind (R := RVs G) (r := aList ms σs S1) p1 fun ρ2 H2 S2 ds vs l2 rl2 rv2 p2 => ?_⟩
  exact p2 ρ2 H2 _ Le.refl rl2 (.cons (rv1.mono l2) rv2)
theorem aList_len : ∀ {ms : List ME} {σs : En} {S S' : Store} {ds : List D}, aList ms σs S = .ok ds S' → ds.length = ms.length
  | [], σs, S, S', ds, h => by unfold aList at h; cases h; rfl
  | m :: ms, σs, S, S', ds, h => by
    unfold aList at h
    cases q : m σs S with
    | ok d S1 =>
      rw [q] at h
      cases q2 : aList ms σs S1 with
      | ok ds' S2 =>
        rw [Res.bind_ok, q2] at h
        cases h
        simp [aList_len q2]
      | exc x S2 => rw [Res.bind_ok, q2] at h; cases h
      | bad => rw [Res.bind_ok, q2] at h; cases h
    | exc x S1 => rw [q] at h; cases h
    | bad => rw [q] at h; cases h
theorem list_go {ms : List ME} {σ : St} {H : Hp} {ρ : Wd} {σs : En} {S : Store} {Q : VK} {E : XK} {f : List D → Store → Res D} (p : Post G ρ H ((aList ms σs S).bind f) Q E) {Q1 : List V → Hp → Prop}
    (k : ∀ ρ1 H1 S1 ds xs, Le G ρ H ρ1 H1 → Rl G ρ1 S1 H1 → RVs G ρ1 H1 ds xs → xs.length = ms.length → Post G ρ1 H1 (f ds S1) Q E → Q1 xs H1) : PostA G ρ H (aList ms σs S) Q1 E := by
  cases q : aList ms σs S with
  | ok ds S1 =>
    rw [q] at p
    exact fun ρ1 H1 xs l1 rl1 rv1 => k ρ1 H1 S1 ds xs l1 rl1 rv1 (by rw [← rv1.length, aList_len q]) (PostR.le (r := f ds S1) p l1)
  | exc x S1 => rw [q] at p; exact p
  | bad => rw [q] at p; exact p
theorem se_tup {ms : List ME} {x1} (h : SA G X W es (aList ms)) (hz : ms.length ≤ sizeLine := by first | decide | (rw [sizeLine_eq]; decide)) : SE G X W (.Tuple es x1 pos) (eTup ms) := by
  refine se_of (pe_tup h) fun σ H Q ρ σs S rl re p => ?_
  refine ⟨ρ, σs, S, rl, re, list_go (σ := σ) p fun ρ1 H1 S1 ds xs l1 rl1 rv1 hl p1 => ⟨by rw [hl]; exact hz, fun a hn => post_new p1 rl1 hn (.tup upd_same (rv1.mono (Le.new hn)))⟩⟩
theorem se_lst {ms : List ME} (h : SA G X W es (aList ms)) (hz : ms.length ≤ sizeLine := by first | decide | (rw [sizeLine_eq]; decide)) : SE G X W (.List es pos) (eLst ms) := by
  refine se_of (pe_lst h) fun σ H Q ρ σs S rl re p => ?_
  refine ⟨ρ, σs, S, rl, re, list_go (σ := σ) p fun ρ1 H1 S1 ds xs l1 rl1 rv1 hl p1 => ⟨by rw [hl]; exact hz, fun a hn => ?_⟩⟩
  exact p1 (ρ1.push a) _ _ (Le.push hn) (rl1.push hn (.lst rv1)) (RV.new rl1)
theorem se_lv {ms : List ME} (h : SA G X W es (aList ms)) (hz : ms.length ≤ sizeLine := by first | decide | (rw [sizeLine_eq]; decide)) : SE G X W (.List es pos) (eLv ms) := by
  refine se_of (pe_lst h) fun σ H Q ρ σs S rl re p => ?_
  refine ⟨ρ, σs, S, rl, re, list_go (σ := σ) p fun ρ1 H1 S1 ds xs l1 rl1 rv1 hl p1 => ⟨by rw [hl]; exact hz, fun a hn => post_new p1 rl1 hn (.lv (rl1.no hn) upd_same (rv1.mono (Le.new hn)))⟩⟩
/-- a built-in function, a built-in class by its name -/
theorem se_callB {x : Str} {id : String} {f : List D → Store → Res D} {p : Pos} {ma : MA} (hc : FnS G X W (.builtin id) f) (hg : Gl X x) (hm : X.mg x = none) (hv : bootBuiltins x = some (.builtin id)) (ha : SA G X W (e :: es) ma) (hn : x ≠ "__name__" := by decide) (hdb : (x == ("__debug__" : Str)) = false := by decide)
    (he : starEach (e :: es) X.env = (false, eval e X.env) :: starEach es X.env := by rfl) (hpl : (backTo pos (starEach es X.env)).any (·.1) = false := by rfl) : SE G X W (.Call (.Name x p) (e :: es) [] pos) (eFn f ma) := by
  refine ⟨fun pins s σ H Q I ⟨ρ, σs, S, rl, re, p⟩ => ?_⟩
  refine wpAny_Call_Name_kw (ld_blt I hg hm hv ?_ hn hdb)
  exact PyProof.Rows.callWith_builtin1 (ha.go I rl re p fun us s1 xs H1 ρ1 S1 ds I1 rx l1 rl1 re1 rv1 p1 => hc pins s1 σ H1 xs us Q ρ1 S1 ds I1 rx rl1 rv1 p1) he hpl
theorem se_callTy {x : Str} {T : String} {f : List D → Store → Res D} {p : Pos} {ma : MA} (hc : FnS G X W (.type T) f) (hg : Gl X x) (hm : X.mg x = none) (hv : bootBuiltins x = some (.type T)) (ha : SA G X W (e :: es) ma) (hn : x ≠ "__name__" := by decide) (hdb : (x == ("__debug__" : Str)) = false := by decide)
    (he : starEach (e :: es) X.env = (false, eval e X.env) :: starEach es X.env := by rfl) (hpl : (backTo pos (starEach es X.env)).any (·.1) = false := by rfl) : SE G X W (.Call (.Name x p) (e :: es) [] pos) (eFn f ma) := by
  refine ⟨fun pins s σ H Q I ⟨ρ, σs, S, rl, re, p⟩ => ?_⟩
  refine wpAny_Call_Name_kw (ld_blt I hg hm hv ?_ hn hdb)
  exact PyProof.Rows.callWith_type1 (ha.go I rl re p fun us s1 xs H1 ρ1 S1 ds I1 rx l1 rl1 re1 rv1 p1 => hc pins s1 σ H1 xs us Q ρ1 S1 ds I1 rx rl1 rv1 p1) he hpl
/-- a < b < c -/
theorem se_chain {op op' : CmpOp} {f g : D → D → Store → Res D} {r r' : R2} (ho : OpR X (compareOp op) r) (ho' : OpR X (compareOp op') r')
    (hf : ∀ ρ S H d1 d2 x y Q E, Rl G ρ S H → RV G ρ H d1 x → RV G ρ H d2 y → Post G ρ H (f d1 d2 S) Q E → r x y H Q) (hg : ∀ ρ S H d1 d2 x y Q E, Rl G ρ S H → RV G ρ H d1 x → RV G ρ H d2 y → Post G ρ H (g d1 d2 S) Q E → r' x y H Q)
    (ha : SE G X W a ma) (hb : SE G X W b mb) (hc : SE G X W c mc) (hm : lastMarks [op, op'] [b, c] = false := by with_unfolding_all rfl) : SE G X W (.Compare a [op, op'] [b, c] pos) (eChain f g ma mb mc) := by
  refine se_of (pe_chain ho ho' ha hb hc hm) fun σ H Q ρ σs S rl re p => ?_
  refine ⟨ρ, σs, S, rl, re, PostR.bind (R := RV G) p fun ρ1 H1 S1 d1 x l1 rl1 rv1 p1 => ?_⟩
  refine ⟨ρ1, σs, S1, rl1, re.mono l1, PostR.bind (R := RV G) p1 fun ρ2 H2 S2 d2 y l2 rl2 rv2 p2 => ?_⟩
  refine hf ρ2 S2 H2 d1 d2 x y _ _ rl2 (rv1.mono l2) rv2 (PostR.bind (R := RV G) p2 fun ρ3 H3 S3 d3 z l3 rl3 rv3 p3 => ?_)
  cases rv3 with
  | bl k =>
    refine ⟨k, rfl, ?_⟩
    cases k with
    | true =>
      show if true = true then _ else _
      rw [if_pos rfl]
      refine ⟨ρ3, σs, S3, rl3, (re.mono l1).mono (l2.trans l3), PostR.bind (R := RV G) p3 fun ρ4 H4 S4 d4 w l4 rl4 rv4 p4 => ?_⟩
      exact hg ρ4 S4 H4 d2 d4 y w _ _ rl4 (rv2.mono (l3.trans l4)) rv4 p4
    | false =>
      show if false = true then _ else _
      rw [if_neg Bool.false_ne_true]
      exact post_ok (S := S3) p3 rl3 (.bl false)
  | _ => exact False.elim p3
end
end L2.Mi

set_option Elab.async false
set_option linter.all false
set_option maxRecDepth 100000
set_option maxHeartbeats 4000000
/-! Mini, 2: statements, targets, loops. -/
namespace L2.Mi
open PySem PySem.Spec PyProof.Rows

section
variable {G : Gx} {X : Cx} {W : WX} {st : Stmt} {sts rest : List Stmt} {a b e : Expr} {ma mb m : ME} {t : MT} {k l : MS} {pos : Pos}
theorem ss_of {tr : TS} (h : PS X st tr) (i : ∀ σ H Dn ρ σs S, Rl G ρ S H → RE G ρ H σs σ → PostS G ρ H (k σs S) Dn W → tr Dn σ H) : SS G X W st k :=
  PS.weak h fun Dn σ H ⟨ρ, σs, S, rl, re, p⟩ => i σ H Dn ρ σs S rl re p
theorem sss_nil : SSs G X W [] sNext := PSs.weak pss_nil fun Dn σ H ⟨ρ, σs, S, rl, re, p⟩ => p ρ H σ Le.refl rl re
theorem sss_cons (h1 : SS G X W st k) (h2 : SSs G X W rest l) : SSs G X W (st :: rest) (sSeq k l) := by
  refine PSs.weak (pss_cons h1 h2) fun Dn σ H ⟨ρ, σs, S, rl, re, p⟩ => ?_
  refine ⟨ρ, σs, S, rl, re, ?_⟩
  unfold sSeq at p
  cases q : k σs S with
  | nx σ1 S1 =>
    rw [q] at p
    exact fun ρ1 H1 σ2 l1 rl1 re1 => ⟨ρ1, σ1, S1, rl1, re1, PostS.le (r := l σ1 S1) p l1⟩
  | rt d S1 => rw [q] at p; exact p
  | bk σ1 S1 => rw [q] at p; exact p
  | ct σ1 S1 => rw [q] at p; exact p
  | exc x σ1 S1 => rw [q] at p; exact p
  | bad => rw [q] at p; exact p
theorem sss_one (h1 : SS G X W st k) : SSs G X W [st] k := pss_one h1
theorem ss_pass : SS G X W (.Pass pos) sNext := ss_of ps_pass fun σ H Dn ρ σs S rl re p => p ρ H σ Le.refl rl re
theorem ss_break : SS G X W (.Break pos) sBreak := ss_of ps_break fun σ H Dn ρ σs S rl re p => p ρ H σ Le.refl rl re
theorem ss_cont : SS G X W (.Continue pos) sCont := ss_of ps_continue fun σ H Dn ρ σs S rl re p => p ρ H σ Le.refl rl re
/-- an expression's run inside a statement -/
theorem do_go {σ : St} {H : Hp} {ρ : Wd} {σs : En} {S : Store} {Dn : Ends} {f : D → Store → RS} (re : RE G ρ H σs σ) (p : PostS G ρ H (match m σs S with | .ok d S1 => f d S1 | .exc x S1 => .exc x σs S1 | .bad => .bad) Dn W) {Q1 : VK}
    (k : ∀ ρ1 H1 S1 d v, Le G ρ H ρ1 H1 → Rl G ρ1 S1 H1 → RV G ρ1 H1 d v → PostS G ρ1 H1 (f d S1) Dn W → Q1 v H1) : Post G ρ H (m σs S) Q1 (EW W σ) := by
  cases q : m σs S with
  | ok d S1 =>
    rw [q] at p
    exact fun ρ1 H1 v l1 rl1 rv1 => k ρ1 H1 S1 d v l1 rl1 rv1 (PostS.le (r := f d S1) p l1)
  | exc x S1 =>
    rw [q] at p
    exact fun ρ1 H1 c dd l1 rl1 rx => p ρ1 H1 σ c dd l1 rl1 (re.mono l1) rx
  | bad => rw [q] at p; exact p
theorem ss_expr (he : SE G X W e m) (hs : swapsWith e none pos.line X.env = pure false := by rfl) : SS G X W (.Expr e pos) (sDrop m) := by
  refine ss_of (ps_expr he hs) fun σ H Dn ρ σs S rl re p => ?_
  exact ⟨ρ, σs, S, rl, re, do_go re p fun ρ1 H1 S1 d v l1 rl1 rv1 p1 => p1 ρ1 H1 σ Le.refl rl1 (re.mono l1)⟩
theorem ss_ret (he : SE G X W e m) : SS G X W (.Return (some e) pos) (sRet m) := by
  refine ss_of (ps_ret he) fun σ H Dn ρ σs S rl re p => ?_
  exact ⟨ρ, σs, S, rl, re, do_go re p fun ρ1 H1 S1 d v l1 rl1 rv1 p1 => p1 ρ1 H1 v Le.refl rl1 rv1⟩
theorem ss_retN : SS G X W (.Return none pos) sRetN := ss_of ps_retN fun σ H Dn ρ σs S rl re p => p ρ H .non Le.refl rl .non
theorem ss_if {c : Expr} {sa sb : List Stmt} (hc : ST G X W c t) (ha : SSs G X W sa k) (hb : SSs G X W sb l) : SS G X W (.If c sa sb pos) (sIf t k l) := by
  refine ss_of (ps_if hc ha hb) fun σ H Dn ρ σs S rl re p => ?_
  refine ⟨ρ, σs, S, rl, re, ?_⟩
  unfold sIf at p
  cases q : t σs S with
  | ok c1 S1 =>
    rw [q] at p
    intro ρ1 H1 b l1 rl1 e
    subst e
    cases c1 with
    | true => exact ⟨ρ1, σs, S1, rl1, re.mono l1, PostS.le (r := k σs S1) p l1⟩
    | false => exact ⟨ρ1, σs, S1, rl1, re.mono l1, PostS.le (r := l σs S1) p l1⟩
  | exc x S1 =>
    rw [q] at p
    exact fun ρ1 H1 c dd l1 rl1 rx => p ρ1 H1 σ c dd l1 rl1 (re.mono l1) rx
  | bad => rw [q] at p; exact p

/-! ### targets -/
def PostG (G : Gx) (ρ : Wd) (H : Hp) (r : Res En) (Q : St → Hp → Prop) : Prop := match r with
  | .ok σs S => ∀ ρ' H' σ', Le G ρ H ρ' H' → Rl G ρ' S H' → RE G ρ' H' σs σ' → Q σ' H'
  | _ => False
def tmg (G : Gx) (g : MG) : TG := fun v σ H Q => ∃ ρ σs S d, Rl G ρ S H ∧ RE G ρ H σs σ ∧ RV G ρ H d v ∧ PostG G ρ H (g d σs S) Q
def tmgs (G : Gx) (gs : List MG) : TGs := fun vs σ H Q => ∃ ρ σs S ds, Rl G ρ S H ∧ RE G ρ H σs σ ∧ RVs G ρ H ds vs ∧ PostG G ρ H (gAll gs ds σs S) Q
abbrev SG (G : Gx) (X : Cx) (e : Expr) (g : MG) : Prop := PG X e (tmg G g)
abbrev SGs (G : Gx) (X : Cx) (es : List Expr) (gs : List MG) : Prop := PGs X es (tmgs G gs)
theorem PostG.le {ρ ρ' : Wd} {H H' : Hp} {r : Res En} {Q : St → Hp → Prop} (p : PostG G ρ H r Q) (l : Le G ρ H ρ' H') : PostG G ρ' H' r Q := by
  cases r with
  | ok d S => exact fun ρ2 H2 v l2 rl h => p ρ2 H2 v (l.trans l2) rl h
  | exc x S => exact p
  | bad => exact p
theorem PG.weak {e : Expr} {t t' : TG} (h : PG X e t) (i : ∀ v σ H Q, t' v σ H Q → t v σ H Q) : PG X e t' := ⟨fun pins s σ H v u Q I r q => h.run pins s σ H v u Q I r (i _ _ _ _ q)⟩
theorem PGs.weak {es : List Expr} {t t' : TGs} (h : PGs X es t) (i : ∀ v σ H Q, t' v σ H Q → t v σ H Q) : PGs X es t' := ⟨fun pins s σ H v u Q I r q => h.run pins s σ H v u Q I r (i _ _ _ _ q)⟩
theorem sg_name {i : Nat} {x : Str} (hN : X.N.Nodup) (hi : X.N[i]? = some x) (hx : Loc X.env.scope x) (hf : X.fn x = true ∨ X.env.scope.names.lookup x = some .local := by first | exact .inl rfl | exact .inr rfl | assumption) : SG G X (.Name x pos) (gName i) :=
  PG.weak (pg_name hN hi hx hf) fun v σ H Q ⟨ρ, σs, S, d, rl, re, rv, p⟩ => p ρ H _ Le.refl rl (re.set i rv)
theorem sgs_nil : SGs G X [] [] := PGs.weak pgs_nil fun vs σ H Q ⟨ρ, σs, S, ds, rl, re, rv, p⟩ => by
  cases rv with
  | nil => exact ⟨rfl, p ρ H σ Le.refl rl re⟩
  | cons _ _ => exact False.elim p
theorem sgs_cons {es : List Expr} {g : MG} {gs : List MG} (h1 : SG G X e g) (h2 : SGs G X es gs) (hs : (assignEach (e :: es) X.env).map (·.2) = assign e X.env :: (assignEach es X.env).map (·.2) := by rfl) : SGs G X (e :: es) (g :: gs) := by
  refine PGs.weak (pgs_cons h1 h2 hs) fun vs σ H Q ⟨ρ, σs, S, ds, rl, re, rv, p⟩ => ?_
  cases rv with
  | nil => exact False.elim p
  | @cons d ds v vs r1 r2 =>
    refine ⟨v, vs, rfl, ρ, σs, S, d, rl, re, r1, ?_⟩
    have p' : PostG G ρ H ((g d σs S).bind fun σ1 S1 => gAll gs ds σ1 S1) Q := p
    cases q : g d σs S with
    | ok σ1 S1 =>
      rw [q] at p'
      exact fun ρ1 H1 σ2 l1 rl1 re1 => ⟨ρ1, σ1, S1, ds, rl1, re1, r2.mono l1, PostG.le (r := gAll gs ds σ1 S1) p' l1⟩
    | exc x S1 => rw [q] at p'; exact p'
    | bad => rw [q] at p'; exact p'
theorem gAll_len : ∀ {gs : List MG} {ds : List D} {σs σ' : En} {S S' : Store}, gAll gs ds σs S = .ok σ' S' → ds.length = gs.length
  | [], [], _, _, _, _, _ => rfl
  | [], _ :: _, _, _, _, _, h => by cases h
  | _ :: _, [], _, _, _, _, h => by cases h
  | g :: gs, d :: ds, σs, σ', S, S', h => by
    have h' : ((g d σs S).bind fun σ1 S1 => gAll gs ds σ1 S1) = .ok σ' S' := h
    cases q : g d σs S with
    | ok σ1 S1 => rw [q] at h'; simp [gAll_len h']
    | exc x S1 => rw [q] at h'; cases h'
    | bad => rw [q] at h'; cases h'
theorem sg_tup {es : List Expr} {j : Nat} {gs : List MG} (c : Cc G X W) (h : SGs G X es gs) (hn : (assignEach es X.env).length = gs.length := by rfl) (hst : (assignEach es X.env).findIdx? (·.1) = none := by rfl) : SG G X (.Tuple es j pos) (gTup gs) := by
  refine PG.weak (pg_tup (n := gs.length) c.calm h hn hst) fun v σ H Q ⟨ρ, σs, S, d, rl, re, rv, p⟩ => ?_
  cases rv with
  | @tup ds a xs ht hr =>
    have p' : PostG G ρ H (gAll gs ds σs S) Q := p
    refine ⟨a, xs, rfl, SqT.of ht, ?_, ρ, σs, S, ds, rl, re, hr, p'⟩
    cases q : gAll gs ds σs S with
    | ok σ1 S1 => rw [← hr.length]; exact gAll_len q
    | exc x S1 => rw [q] at p'; exact p'.elim
    | bad => rw [q] at p'; exact p'.elim
  | _ => exact False.elim p
/-- o[i] = v -/
def StS (G : Gx) (X : Cx) (f : D → D → D → Store → Option Store) : Prop :=
  ∀ (pins : List (Addr × Obj)) (s : Shared) (σ : St) (H : Hp) (x y z : V) (v u w : Value) (Q : Hp → Prop) (ρ : Wd) (S S' : Store) (d1 d2 d3 : D), Inv X pins σ H s → RelV x v → RelV y u → RelV z w → Rl G ρ S H → RV G ρ H d1 x → RV G ρ H d2 y → RV G ρ H d3 z →
    f d1 d2 d3 S = some S' → (∀ ρ' H', Le G ρ H ρ' H' → Rl G ρ' S' H' → Q H') → wpAny (model X.prog X.w) X.A (setItem v u w) (fun _ s' => ∃ H', Inv X pins σ H' s' ∧ Q H') X.xe s
def gSub (mo mi : ME) (f : D → D → D → Store → Option Store) : MG := fun d σ S => match (mo σ S).bind fun o S1 => (mi σ S1).bind fun i S2 => (match f o i d S2 with | some S3 => Res.ok () S3 | none => .bad) with
  | .ok _ S3 => .ok σ S3
  | _ => .bad
theorem sg_sub {o i : Expr} {mo mi : ME} {f : D → D → D → Store → Option Store} (ho : SE G X W o mo) (hi : SE G X W i mi) (hs : StS G X f)
    (ha : ∀ v, assign (.Subscript o i pos) X.env v = (do
      let ov ← holding [v] (eval o X.env)
      let iv ← holding [v, ov] (eval i X.env)
      standAt pos
      holding [v, ov, iv] (setItem ov iv v)
      release [v, ov, iv] []) := by intro _; rfl) : SG G X (.Subscript o i pos) (gSub mo mi f) := by
  refine ⟨fun pins s σ H v u Q I r ⟨ρ, σs, S, d, rl, re, rv, p⟩ => ?_⟩
  rw [ha]
  have p0 : PostR (α := Unit) (β := Unit) G (fun _ _ _ _ => True) ρ H ((mo σs S).bind fun o S1 => (mi σs S1).bind fun i S2 => (match f o i d S2 with | some S3 => Res.ok () S3 | none => .bad)) (fun _ H' => Q σ H') (EW W σ) := by
    unfold gSub at p
    cases q : ((mo σs S).bind fun o S1 => (mi σs S1).bind fun i S2 => (match f o i d S2 with | some S3 => Res.ok () S3 | none => .bad)) with
    | ok x S3 => rw [q] at p; exact fun ρ1 H1 _ l1 rl1 _ => p ρ1 H1 σ l1 rl1 (re.mono l1)
    | exc x S3 => rw [q] at p; exact p.elim
    | bad => rw [q] at p; exact p.elim
  refine wpAny_bind (wpAny_holding (ho.go I rl re p0 fun ov s1 x H1 ρ1 S1 d1 I1 r1 l1 rl1 re1 rv1 p1 => ?_))
  refine wpAny_bind (wpAny_holding (hi.go I1 rl1 re1 p1 fun iv s2 y H2 ρ2 S2 d2 I2 r2 l2 rl2 re2 rv2 p2 => ?_))
  cases q : f d1 d2 d S2 with
  | none => rw [q] at p2; exact False.elim p2
  | some S3 =>
    rw [q] at p2
    refine wpAny_bind (wpAny_standAt (wpAny_bind (wpAny_holding (thn (hs pins s2 σ H2 x y v ov iv u (fun H3 => Q σ H3) ρ2 S2 S3 d1 d2 d I2 r1 r2 r rl2 (rv1.mono l2) rv2 (rv.mono (l1.trans l2)) q (fun ρ3 H3 l3 rl3 => p2 ρ3 H3 () l3 rl3 trivial)) fun _ s3 ⟨H3, I3, q3⟩ => ?_))))
    exact wpAny_release ⟨σ, H3, I3, q3⟩
/-- target = value -/
theorem asg_go {g : MG} {σ : St} {H : Hp} {ρ : Wd} {σs : En} {S : Store} {Dn : Ends} (rl : Rl G ρ S H) (re : RE G ρ H σs σ) (p : PostS G ρ H (sAsg m g σs S) Dn W) : tm G W m σ H fun x H1 => tmg G g x σ H1 Dn.nx := by
  refine ⟨ρ, σs, S, rl, re, do_go (f := fun d S1 => match g d σs S1 with | .ok σ2 S2 => .nx σ2 S2 | _ => .bad) re p fun ρ1 H1 S1 d v l1 rl1 rv1 p1 => ⟨ρ1, σs, S1, d, rl1, re.mono l1, rv1, ?_⟩⟩
  cases q : g d σs S1 with
  | ok σ2 S2 => simp only [q] at p1; exact p1
  | exc x S2 => simp only [q] at p1; exact p1
  | bad => simp only [q] at p1; exact p1
theorem ss_asg {tg : Expr} {g : MG} (he : SE G X W e m) (hg : SG G X tg g) (hs : swapsWithSole [tg] e pos.line X.env = pure false := by rfl) (hw : swappedStores [tg] e X.env = pure none := by rfl)
    (h1 : (assignEach [tg] X.env).map (·.2) = [assign tg X.env] := by rfl) : SS G X W (.Assign [tg] e pos) (sAsg m g) :=
  ss_of (ps_asg he hg hs hw h1) fun σ H Dn ρ σs S rl re p => asg_go rl re p
theorem ss_set {i : Nat} {x : Str} {pos' : Pos} (hN : X.N.Nodup) (hi : X.N[i]? = some x) (hx : Loc X.env.scope x) (he : SE G X W e m) (hs : swapsWith e (some (.Name x pos')) pos.line X.env = pure false := by rfl) (hf : X.fn x = true ∨ X.env.scope.names.lookup x = some .local := by first | exact .inl rfl | exact .inr rfl | assumption) :
    SS G X W (.Assign [.Name x pos'] e pos) (sSet i m) := by
  refine ss_of (ps_set hN hi hx he hs hf) fun σ H Dn ρ σs S rl re p => ?_
  refine ⟨ρ, σs, S, rl, re, do_go re p fun ρ1 H1 S1 d v l1 rl1 rv1 p1 => p1 ρ1 H1 _ Le.refl rl1 ((re.mono l1).set i rv1)⟩
/-- a, b = x, y -/
def sPar (i j : Nat) (a b : ME) : MS := fun σ S => match aList [a, b] σ S with
  | .ok [x, y] S1 => .nx ((σ.set i (some x)).set j (some y)) S1
  | .exc x S1 => .exc x σ S1
  | _ => .bad
theorem ss_par {i j : Nat} {x y : Str} {px py pt : Pos} {kt k2 pt2} (hc : X.calm = true) (hN : X.N.Nodup) (hi : X.N[i]? = some x) (hj : X.N[j]? = some y) (hij : i ≠ j)
    (hx : X.env.scope.names.lookup x = some .local) (hy : X.env.scope.names.lookup y = some .local) (ha : SA G X W [a, b] (aList [ma, mb])) (hs : swappedStores [.Tuple [.Name x px, .Name y py] kt pt] (.Tuple [a, b] k2 pt2) X.env = pure (some [x, y]) := by rfl) :
    SS G X W (.Assign [.Tuple [.Name x px, .Name y py] kt pt] (.Tuple [a, b] k2 pt2) pos) (sPar i j ma mb) := by
  refine ss_of (ps_par hc hN hi hj hij hx hy ha hs) fun σ H Dn ρ σs S rl re p => ?_
  refine ⟨ρ, σs, S, rl, re, ?_⟩
  unfold sPar at p
  cases q : aList [ma, mb] σs S with
  | ok ds S1 =>
    rw [q] at p
    have hl : ds.length = 2 := aList_len q
    match ds, hl, p with
    | [d1, d2], _, p =>
      intro ρ1 H1 vs l1 rl1 rv1
      cases rv1 with
      | cons r1 r2 =>
        cases r2 with
        | cons r2 r3 =>
          cases r3
          exact ⟨_, _, rfl, p ρ1 H1 _ l1 rl1 (((re.mono l1).set i r1).set j r2)⟩
  | exc x S1 =>
    rw [q] at p
    exact fun ρ1 H1 c dd l1 rl1 rx => p ρ1 H1 σ c dd l1 rl1 (re.mono l1) rx
  | bad => rw [q] at p; exact p
/-- x op= e -/
theorem ss_aug {i : Nat} {x : Str} {op : Operator} {f : D → D → Store → Res D} {pos' : Pos} {r : TIp} (hN : X.N.Nodup) (hi : X.N[i]? = some x) (hx : Loc X.env.scope x) (he : SE G X W e m) (ho : PIp X op r)
    (h : ∀ ρ S H d1 d2 x y Q E, Rl G ρ S H → RV G ρ H d1 x → RV G ρ H d2 y → Post G ρ H (f d1 d2 S) Q E → r x y H Q) (hf : X.fn x = true ∨ X.env.scope.names.lookup x = some .local := by first | exact .inl rfl | exact .inr rfl | assumption) :
    SS G X W (.AugAssign (.Name x pos') op e pos) (sAug i f m) := by
  refine ss_of (ps_aug hN hi hx he ho hf) fun σ H Dn ρ σs S rl re p => ?_
  unfold sAug at p
  cases q : σs[i]? with
  | none => rw [q] at p; exact p.elim
  | some o =>
    cases o with
    | none => rw [q] at p; exact p.elim
    | some d =>
      obtain ⟨v, h1, h2⟩ := re.get i d q
      refine ⟨v, h1, ρ, σs, S, rl, re, ?_⟩
      rw [q] at p
      cases q1 : m σs S with
      | ok d1 S1 =>
        intro ρ1 H1 y l1 rl1 rv1
        simp only [q1, Res.bind_ok] at p
        refine h ρ1 S1 H1 d d1 v y _ (EW W σ) rl1 (h2.mono l1) rv1 ?_
        cases q2 : f d d1 S1 with
        | ok d2 S2 =>
          simp only [q2] at p
          exact fun ρ2 H2 z l2 rl2 rv2 => p ρ2 H2 _ (l1.trans l2) rl2 (((re.mono l1).mono l2).set i rv2)
        | exc z S2 =>
          simp only [q2] at p
          exact fun ρ2 H2 c dd l2 rl2 rx => p ρ2 H2 σ c dd (l1.trans l2) rl2 ((re.mono l1).mono l2) rx
        | bad => simp only [q2] at p; exact p
      | exc z S1 =>
        simp only [q1, Res.bind_exc] at p
        exact fun ρ1 H1 c dd l1 rl1 rx => p ρ1 H1 σ c dd l1 rl1 (re.mono l1) rx
      | bad => simp only [q1, Res.bind_bad] at p; exact p
/-! ### loops -/
theorem ss_while {c : Expr} {body : List Stmt} (n : Nat) (cc : Cc G X W) (hc : ST G X W c t) (hb : SSs G X W body k) : SS G X W (.While c body [] pos) (sWhile t k n) := by
  refine ss_of (ps_while cc.hp hc hb) fun σ H Dn ρ σs S rl re p => ?_
  refine ⟨fun m σ H => ∃ ρ σs S, Rl G ρ S H ∧ RE G ρ H σs σ ∧ PostS G ρ H (sWhile t k m σs S) Dn W, ⟨n, ρ, σs, S, rl, re, p⟩, ?_⟩
  rintro m σ H ⟨ρ, σs, S, rl, re, p⟩
  cases m with
  | zero => exact p.elim
  | succ m =>
    refine ⟨ρ, σs, S, rl, re, ?_⟩
    unfold sWhile at p
    cases q : t σs S with
    | exc x S1 =>
      simp only [q] at p
      exact fun ρ1 H1 c dd l1 rl1 rx => p ρ1 H1 σ c dd l1 rl1 (re.mono l1) rx
    | bad => simp only [q] at p; exact p
    | ok c1 S1 =>
      intro ρ1 H1 b l1 rl1 e
      subst e
      cases c1 with
      | false =>
        simp only [q] at p
        show if false = true then _ else _
        rw [if_neg Bool.false_ne_true]
        exact p ρ1 H1 σ l1 rl1 (re.mono l1)
      | true =>
        simp only [q] at p
        show if true = true then _ else _
        rw [if_pos rfl]
        refine ⟨fun σ' H' => ∃ ρ σs S, Rl G ρ S H' ∧ RE G ρ H' σs σ' ∧ PostS G ρ H' (sWhile t k m σs S) Dn W, fun σ' H' w => ⟨m, Nat.lt_succ_self m, w⟩, ρ1, σs, S1, rl1, re.mono l1, ?_⟩
        cases q2 : k σs S1 with
        | nx σ2 S2 => simp only [q2] at p; exact fun ρ2 H2 σ' l2 rl2 re2 => ⟨ρ2, σ2, S2, rl2, re2, PostS.le p (l1.trans l2)⟩
        | ct σ2 S2 => simp only [q2] at p; exact fun ρ2 H2 σ' l2 rl2 re2 => ⟨ρ2, σ2, S2, rl2, re2, PostS.le p (l1.trans l2)⟩
        | bk σ2 S2 => simp only [q2] at p; exact fun ρ2 H2 σ' l2 rl2 re2 => p ρ2 H2 σ' (l1.trans l2) rl2 re2
        | rt d S2 => simp only [q2] at p; exact fun ρ2 H2 v l2 rl2 re2 => p ρ2 H2 v (l1.trans l2) rl2 re2
        | exc x σ2 S2 => simp only [q2] at p; exact fun ρ2 H2 σ' c dd l2 rl2 re2 rx => p ρ2 H2 σ' c dd (l1.trans l2) rl2 re2 rx
        | bad => simp only [q2] at p; exact p
/-- an iterator of HandS and a source -/
def JR (G : Gx) (ρ0 : Wd) (H0 : Hp) (src : Src) (J : It) : Prop := ∀ ρ S H, Mv G ρ0 H0 ρ H → Rl G ρ S H → ∀ i,
  (∀ d, src i S = some (some d) → J.go i H ∧ ∀ x H', J.yld i H x H' → Le G ρ H ρ H' ∧ Rl G ρ S H' ∧ RV G ρ H' d x) ∧ (src i S = some none → J.stop i H)
abbrev PostI (G : Gx) := PostR (α := Src) (β := It) G (JR G)
def tmi (G : Gx) (W : WX) (m : MI) : TI := fun σ H R => ∃ ρ σs S, Rl G ρ S H ∧ RE G ρ H σs σ ∧ PostI G ρ H (m σs S) R (fun c d H' => W c d σ H')
abbrev SI (G : Gx) (X : Cx) (W : WX) (tg iter : Expr) (m : MI) : Prop := PI X tg iter (tmi G W m)
theorem JR.le {ρ0 ρ1 : Wd} {H0 H1 : Hp} {src : Src} {J : It} (h : JR G ρ0 H0 src J) (l : Le G ρ0 H0 ρ1 H1) : JR G ρ1 H1 src J := fun ρ S H l' rl i => h ρ S H (l.mv.trans l') rl i
theorem PI.weak {tg iter : Expr} {w w' : TI} (h : PI X tg iter w) (i : ∀ σ H R, w' σ H R → w σ H R) : PI X tg iter w' := ⟨fun pins s σ H R I q => h.run pins s σ H R I (i _ _ _ q)⟩
theorem ss_for {tg iter : Expr} {body : List Stmt} {mi : MI} {g : MG} (n : Nat) (cc : Cc G X W) (hi : SI G X W tg iter mi) (hg : SG G X tg g) (hb : SSs G X W body k) (hs : ∀ x, foldedSetIterable iter X.env x = pure x := by intro _; rfl) :
    SS G X W (.For tg iter body [] pos) (sFor mi g k n) := by
  refine ss_of (ps_for cc.hp cc.calm hi hg hb hs) fun σ H Dn ρ σs S rl re p => ?_
  refine ⟨ρ, σs, S, rl, re, ?_⟩
  unfold sFor at p
  cases q : mi σs S with
  | exc x S1 =>
    simp only [q] at p
    exact fun ρ1 H1 c dd l1 rl1 rx => p ρ1 H1 σ c dd l1 rl1 (re.mono l1) rx
  | bad => simp only [q] at p; exact p
  | ok src S1 =>
    simp only [q] at p
    intro ρ1 H1 J l1 rl1 jr
    refine ⟨fun i m σ H => ∃ ρ σs S, Le G ρ1 H1 ρ H ∧ Rl G ρ S H ∧ RE G ρ H σs σ ∧ PostS G ρ H (forGo src g k m i σs S) Dn W, ⟨n, ρ1, σs, S1, Le.refl, rl1, re.mono l1, PostS.le p l1⟩, ?_⟩
    rintro i m σ H ⟨ρ, σs, S, l0, rl, re, p⟩
    cases m with
    | zero => exact p.elim
    | succ m =>
      unfold forGo at p
      obtain ⟨j1, j2⟩ := jr ρ S H l0.mv rl i
      cases q : src i S with
      | none => simp only [q] at p; exact p.elim
      | some o =>
        cases o with
        | none => simp only [q] at p; exact .inl ⟨j2 q, p ρ H σ Le.refl rl re⟩
        | some d =>
          simp only [q] at p
          obtain ⟨go, yl⟩ := j1 d q
          refine .inr ⟨go, fun σ' H' => ∃ ρ σs S, Le G ρ1 H1 ρ H' ∧ Rl G ρ S H' ∧ RE G ρ H' σs σ' ∧ PostS G ρ H' (forGo src g k m (i + 1) σs S) Dn W, fun σ' H' w => ⟨m, Nat.lt_succ_self m, w⟩, fun x H' y => ?_⟩
          obtain ⟨l2, rl2, rv2⟩ := yl x H' y
          refine ⟨ρ, σs, S, d, rl2, re.mono l2, rv2, ?_⟩
          cases q1 : g d σs S with
          | exc x S2 => simp only [q1] at p; exact p
          | bad => simp only [q1] at p; exact p
          | ok σ2 S2 =>
            simp only [q1] at p
            intro ρ3 H3 σ3 l3 rl3 re3
            refine ⟨ρ3, σ2, S2, rl3, re3, ?_⟩
            have l03 : Le G ρ H ρ3 H3 := l2.trans l3
            cases q2 : k σ2 S2 with
            | nx σ4 S4 => simp only [q2] at p; exact fun ρ4 H4 σ' l4 rl4 re4 => ⟨ρ4, σ4, S4, l0.trans (l03.trans l4), rl4, re4, PostS.le p (l03.trans l4)⟩
            | ct σ4 S4 => simp only [q2] at p; exact fun ρ4 H4 σ' l4 rl4 re4 => ⟨ρ4, σ4, S4, l0.trans (l03.trans l4), rl4, re4, PostS.le p (l03.trans l4)⟩
            | bk σ4 S4 => simp only [q2] at p; exact fun ρ4 H4 σ' l4 rl4 re4 => p ρ4 H4 σ' (l03.trans l4) rl4 re4
            | rt d S4 => simp only [q2] at p; exact fun ρ4 H4 v l4 rl4 re4 => p ρ4 H4 v (l03.trans l4) rl4 re4
            | exc x σ4 S4 => simp only [q2] at p; exact fun ρ4 H4 σ' c dd l4 rl4 re4 rx => p ρ4 H4 σ' c dd (l03.trans l4) rl4 re4 rx
            | bad => simp only [q2] at p; exact p
end
end L2.Mi

set_option Elab.async false
set_option linter.all false
set_option maxRecDepth 100000
set_option maxHeartbeats 4000000
/-! Mini, 3: operations on values: ints, tuples, lists, equality. -/
namespace L2.Mi
open PySem PySem.Spec PyProof.Rows

abbrev lim : Nat := 1000000
theorem lim_le {n : Nat} (h : n ≤ lim) : n ≤ sizeLine := by rw [sizeLine_eq]; unfold lim at h; omega
theorem lim_lt {n : Nat} (h : n < lim) : n < sizeLine := by rw [sizeLine_eq]; unfold lim at h; omega

/-! ### reading sequences -/
def tupD : D → Option (List D)
  | .tup ds => some ds
  | .kt ds => some ds
  | _ => none
section
variable {G : Gx} {X : Cx} {W : WX} {ρ : Wd} {S : Store} {H : Hp} {d : D} {x : V} {ds : List D}
theorem sqT_written {K : PySem.W.Frag} {a : Addr} {xs : List V} (h : SqT K (fun _ => none) a xs) : SqT K H a xs := by
  rcases h with (h | ⟨o, h⟩) | h
  · cases h
  · cases h
  · exact .inr h
theorem tupD_rel (rv : RV G ρ H d x) (h : tupD d = some ds) : ∃ a xs, x = .ref a ∧ SqT G.K H a xs ∧ RVs G ρ H ds xs := by
  cases rv with
  | tup ht hr => cases h; exact ⟨_, _, rfl, SqT.of ht, hr⟩
  | kt ht hr => cases h; exact ⟨_, _, rfl, sqT_written ht, hr⟩
  | _ => cases h
theorem listAt_rel (rl : Rl G ρ S H) (rv : RV G ρ H d x) (h : listAt S d = some ds) : ∃ a xs, x = .ref a ∧ SqL G.K H a xs ∧ RVs G ρ H ds xs := by
  cases rv with
  | lv n ht hr => cases h; exact ⟨_, _, rfl, SqL.of ht, hr⟩
  | fl ht hr => cases h; exact ⟨_, _, rfl, ht.sq, hr⟩
  | @ref i a hi =>
    unfold listAt at h
    cases q : S.get i with
    | none => simp only [q] at h; cases h
    | some o =>
      obtain ⟨u, hu, ro⟩ := rl.at hi q
      cases ro with
      | lst r => simp only [q] at h; cases h; exact ⟨a, _, rfl, SqL.of hu, r⟩
      | lck r =>
        cases r with
        | lst r => simp only [q] at h; cases h; exact ⟨a, _, rfl, .inl (.inr ⟨_, hu⟩), r⟩
        | _ => simp only [q] at h; cases h
      | _ => simp only [q] at h; cases h
  | _ => cases h
theorem RVs.atI {ds : List D} {xs : List V} {i : Int} {d : D} (r : RVs G ρ H ds xs) (h : L2.atI ds i = some d) : ∃ v, L2.atI xs i = some v ∧ RV G ρ H d v := by
  unfold L2.atI at h ⊢
  rw [← r.length]
  cases q : ixN ds.length i with
  | none => rw [q] at h; cases h
  | some j =>
    rw [q] at h
    exact RVs.get r h
end

/-! ### ints -/
def intOp (c : Int → Int → Bool) (g : Int → Int → D) : D → D → Store → Res D := fun x y S => match x, y with
  | .int i, .int j => if c i j then .ok (g i j) S else .bad
  | _, _ => .bad
def mulOk (i j : Int) : Bool := (decide (-(2 ^ 64) < i) && decide (i < 2 ^ 64)) || (decide (-(2 ^ 64) < j) && decide (j < 2 ^ 64)) || decide (i.natAbs.log2 + j.natAbs.log2 < 1000000)
def divOk (j : Int) : Bool := decide (0 < j) && decide (j.natAbs.log2 < 9000)
def powOk (i j : Int) : Bool := decide (0 ≤ j) && decide (j ≤ 1000000) && decide (i.natAbs < 2 ^ 64)
section
variable {G : Gx} {X : Cx} {W : WX}
theorem intOp_go {c : Int → Int → Bool} {g : Int → Int → D} {ρ : Wd} {S : Store} {H : Hp} {d1 d2 : D} {x y : V} {Q : VK} {E : XK} (r1 : RV G ρ H d1 x) (r2 : RV G ρ H d2 y) (p : Post G ρ H (intOp c g d1 d2 S) Q E) :
    ∃ i j, x = .int i ∧ y = .int j ∧ c i j = true ∧ Post G ρ H (.ok (g i j) S) Q E := by
  cases r1 with
  | int i =>
    cases r2 with
    | int j =>
      unfold intOp at p
      by_cases h : c i j = true
      · simp only [h, if_true] at p
        exact ⟨i, j, rfl, rfl, h, p⟩
      · simp only [h] at p
        exact False.elim p
    | _ => exact False.elim p
  | _ => exact False.elim p
theorem ops_int {F : Value → Value → Sem Value} {c : Int → Int → Bool} {C : Int → Int → Prop} {g : Int → Int → Int} (ho : OpR X F (rI C fun i j => .int (g i j))) (hc : ∀ i j, c i j = true → C i j) : OpS G X W F (intOp c fun i j => .int (g i j)) :=
  OpS.of ho fun ρ S H d1 d2 x y Q E rl r1 r2 p => by
    obtain ⟨i, j, h1, h2, h3, p⟩ := intOp_go r1 r2 p
    exact ⟨i, j, h1, h2, hc i j h3, post_ok p rl (.int _)⟩
theorem ops_int0 {F : Value → Value → Sem Value} {g : Int → Int → Int} (ho : OpR X F (rI0 fun i j => .int (g i j))) : OpS G X W F (intOp (fun _ _ => true) fun i j => .int (g i j)) :=
  OpS.of ho fun ρ S H d1 d2 x y Q E rl r1 r2 p => by
    obtain ⟨i, j, h1, h2, h3, p⟩ := intOp_go r1 r2 p
    exact ⟨i, j, h1, h2, post_ok p rl (.int _)⟩
theorem ops_cmp0 {F : Value → Value → Sem Value} {g : Int → Int → Bool} (ho : OpR X F (rI0 fun i j => .bl (g i j))) : OpS G X W F (intOp (fun _ _ => true) fun i j => .bl (g i j)) :=
  OpS.of ho fun ρ S H d1 d2 x y Q E rl r1 r2 p => by
    obtain ⟨i, j, h1, h2, h3, p⟩ := intOp_go r1 r2 p
    exact ⟨i, j, h1, h2, post_ok p rl (.bl _)⟩
end
/-- the operations of ints -/
def mulI : D → D → Store → Res D := intOp mulOk fun i j => .int (i * j)
def divI : D → D → Store → Res D := intOp (fun _ j => divOk j) fun i j => .int (i / j)
def modI : D → D → Store → Res D := intOp (fun _ j => decide (0 < j)) fun i j => .int (i % j)
def powI : D → D → Store → Res D := intOp powOk fun i j => .int (i ^ j.toNat)
def ltI : D → D → Store → Res D := intOp (fun _ _ => true) fun i j => .bl (decide (i < j))
def leI : D → D → Store → Res D := intOp (fun _ _ => true) fun i j => .bl (decide (i ≤ j))
def gtI : D → D → Store → Res D := intOp (fun _ _ => true) fun i j => .bl (decide (j < i))
def geI : D → D → Store → Res D := intOp (fun _ _ => true) fun i j => .bl (decide (j ≤ i))
def noOwn : D → D → Store → Res D := fun _ _ _ => .bad
/-- a + b -/
def addF (own : D → D → Store → Res D) : D → D → Store → Res D := fun x y S => match x, y with
  | .int i, .int j => .ok (.int (i + j)) S
  | .str a, .str b => if a.length + b.length ≤ lim then .ok (.str (a ++ b)) S else .bad
  | .tup a, .tup b => if a.length + b.length ≤ lim then .ok (.tup (a ++ b)) S else .bad
  | .lv a, .lv b => if a.length + b.length ≤ lim then .ok (.lv (a ++ b)) S else .bad
  | .ref a, _ => own (.ref a) y S
  | _, _ => .bad
def subF (own : D → D → Store → Res D) : D → D → Store → Res D := fun x y S => match x, y with
  | .int i, .int j => .ok (.int (i - j)) S
  | .ref a, _ => own (.ref a) y S
  | _, _ => .bad
/-- a * b -/
def mulF (own : D → D → Store → Res D) : D → D → Store → Res D := fun x y S => match x, y with
  | .int i, .int j => if mulOk i j then .ok (.int (i * j)) S else .bad
  | .lv a, .int k => if decide (0 ≤ k) && decide (k ≤ 1000) && decide (a.length ≤ 1000) then .ok (.lv (List.replicate k.toNat a).flatten) S else .bad
  | .ref a, _ => own (.ref a) y S
  | _, _ => .bad
section
variable {G : Gx} {X : Cx} {W : WX}
theorem noOwn_ok {F : Value → Value → Sem Value} : OpS G X W F noOwn := fun _ _ _ _ _ _ _ _ _ _ _ _ _ _ _ _ _ _ _ p => p.elim
theorem ops_mod : OpS G X W (binaryOp .Mod) modI := ops_int op_mod fun i j h => by simpa using h
theorem ops_div : OpS G X W (binaryOp .FloorDiv) divI := ops_int op_fdivW fun i j h => by
  unfold divOk at h
  simp only [Bool.and_eq_true, decide_eq_true_eq] at h
  exact h
theorem ops_pow : OpS G X W (binaryOp .Pow) powI := ops_int op_pow fun i j h => by
  unfold powOk at h
  simp only [Bool.and_eq_true, decide_eq_true_eq] at h
  exact ⟨h.1.1, h.1.2, h.2⟩
theorem ops_lt : OpS G X W (compareOp .Lt) ltI := ops_cmp0 op_lt
theorem ops_le : OpS G X W (compareOp .LtE) leI := ops_cmp0 op_le
theorem ops_gt : OpS G X W (compareOp .Gt) gtI := ops_cmp0 op_gt
theorem ops_ge : OpS G X W (compareOp .GtE) geI := ops_cmp0 op_ge
theorem str_append (a b : List Nat) : (⟨a.toArray⟩ : Str) ++ ⟨b.toArray⟩ = ⟨(a ++ b).toArray⟩ := by
  show Str.mk (a.toArray ++ b.toArray) = _
  simp
theorem str_len (a : List Nat) : (⟨a.toArray⟩ : Str).length = a.length := by
  show a.toArray.size = _
  simp
theorem ops_add {own : D → D → Store → Res D} (cc : Cc G X W) (ho : OpS G X W (binaryOp .Add) own) : OpS G X W (binaryOp .Add) (addF own) := by
  intro pins s σ H x y v u Q ρ S d1 d2 I rx ry rl r1 r2 p
  cases r1 with
  | int i =>
    cases r2 with
    | int j => exact op_add pins s σ H _ _ v u Q I rx ry ⟨i, j, rfl, rfl, post_ok p rl (.int _)⟩
    | _ => exact p.elim
  | str a =>
    cases r2 with
    | str b =>
      unfold addF at p
      by_cases hl : a.length + b.length ≤ lim
      · simp only [hl, if_true] at p
        refine op_add_str pins s σ H _ _ v u Q I rx ry ⟨_, _, rfl, rfl, by rw [str_len, str_len]; exact lim_le hl, ?_⟩
        rw [str_append]
        exact post_ok p rl (.str _)
      · simp only [hl, if_false] at p
        exact p.elim
    | _ => exact p.elim
  | @tup as a xs ha hr =>
    cases r2 with
    | @tup bs b ys hb hs =>
      unfold addF at p
      by_cases hl : as.length + bs.length ≤ lim
      · simp only [hl, if_true] at p
        refine op_catA pins s σ H _ _ v u Q I rx ry ⟨a, b, xs, ys, rfl, rfl, SqT.of ha, SqT.of hb, by rw [← hr.length, ← hs.length]; exact lim_le hl, fun e => ?_, fun _ e => ?_, fun _ _ q hq => ?_⟩
        · subst e
          cases hr
          exact post_ok p rl (.tup hb hs)
        · subst e
          cases hs
          exact post_ok p rl (.tup ha (by rw [List.append_nil]; exact hr))
        · exact post_new p rl hq (.tup upd_same ((hr.append hs).mono (Le.new hq)))
      · simp only [hl, if_false] at p
        exact p.elim
    | _ => exact p.elim
  | @lv as a xs na ha hr =>
    cases r2 with
    | @lv bs b ys nb hb hs =>
      unfold addF at p
      by_cases hl : as.length + bs.length ≤ lim
      · simp only [hl, if_true] at p
        refine op_cat pins s σ H _ _ v u Q I rx ry ⟨a, b, xs, ys, rfl, rfl, ha, hb, by rw [← hr.length, ← hs.length]; exact lim_le hl, fun q hq => ?_⟩
        exact post_new p rl hq (.lv (rl.no hq) upd_same ((hr.append hs).mono (Le.new hq)))
      · simp only [hl, if_false] at p
        exact p.elim
    | _ => exact p.elim
  | ref h => exact ho pins s σ H _ _ v u Q ρ S _ d2 I rx ry rl (.ref h) r2 p
  | _ => exact p.elim
theorem ops_sub {own : D → D → Store → Res D} (ho : OpS G X W (binaryOp .Sub) own) : OpS G X W (binaryOp .Sub) (subF own) := by
  intro pins s σ H x y v u Q ρ S d1 d2 I rx ry rl r1 r2 p
  cases r1 with
  | int i =>
    cases r2 with
    | int j => exact op_sub pins s σ H _ _ v u Q I rx ry ⟨i, j, rfl, rfl, post_ok p rl (.int _)⟩
    | _ => exact p.elim
  | ref h => exact ho pins s σ H _ _ v u Q ρ S _ d2 I rx ry rl (.ref h) r2 p
  | _ => exact p.elim
theorem ops_mul {own : D → D → Store → Res D} (ho : OpS G X W (binaryOp .Mult) own) : OpS G X W (binaryOp .Mult) (mulF own) := by
  intro pins s σ H x y v u Q ρ S d1 d2 I rx ry rl r1 r2 p
  cases r1 with
  | int i =>
    cases r2 with
    | int j =>
      unfold mulF at p
      by_cases h : mulOk i j = true
      · simp only [h, if_true] at p
        have h' := h
        unfold mulOk at h'
        simp only [Bool.or_eq_true, Bool.and_eq_true, decide_eq_true_eq] at h'
        rcases h' with h' | h'
        · exact op_mul pins s σ H _ _ v u Q I rx ry ⟨i, j, rfl, rfl, h', post_ok p rl (.int _)⟩
        · exact op_mulW pins s σ H _ _ v u Q I rx ry ⟨i, j, rfl, rfl, h', post_ok p rl (.int _)⟩
      · simp only [h] at p
        exact p.elim
    | _ => exact p.elim
  | @lv as a xs na ha hr =>
    cases r2 with
    | int k =>
      unfold mulF at p
      by_cases h : (decide (0 ≤ k) && decide (k ≤ 1000) && decide (as.length ≤ 1000)) = true
      · simp only [h, if_true] at p
        simp only [Bool.and_eq_true, decide_eq_true_eq] at h
        have hl := hr.length
        have hz : xs.length * k.toNat ≤ sizeLine := by
          rw [sizeLine_eq]
          have : xs.length * k.toNat ≤ 1000 * 1000 := Nat.mul_le_mul (by omega) (by omega)
          omega
        refine op_rep pins s σ H _ _ v u Q I rx ry ⟨a, k, xs, rfl, rfl, ha, by omega, by omega, hz, fun q hq => ?_⟩
        refine post_new p rl hq (.lv (rl.no hq) upd_same ?_)
        have rep : ∀ n, RVs G ρ H (List.replicate n as).flatten (List.replicate n xs).flatten := fun n => by
          induction n with
          | zero => exact .nil
          | succ n ih => rw [List.replicate_succ, List.replicate_succ]; exact hr.append ih
        exact (rep k.toNat).mono (Le.new hq)
      · simp only [h] at p
        exact p.elim
    | _ => exact p.elim
  | ref h => exact ho pins s σ H _ _ v u Q ρ S _ d2 I rx ry rl (.ref h) r2 p
  | _ => exact p.elim
def negI : D → Store → Res D := fun x S => match x with
  | .int i => .ok (.int (-i)) S
  | _ => .bad
end

/-! ### data: equality -/
def mapO {α β : Type} (f : α → Option β) : List α → Option (List β)
  | [] => some []
  | a :: as => match f a, mapO f as with
    | some b, some bs => some (b :: bs)
    | _, _ => none
def dat : Nat → Store → D → Option PyData
  | _, _, .non => some .none
  | _, _, .bl b => some (.bool b)
  | _, _, .int i => some (.int i)
  | _, _, .str x => some (.str ⟨x.toArray⟩)
  | n + 1, S, .tup ds => (mapO (dat n S) ds).map .tuple
  | n + 1, S, .kt ds => (mapO (dat n S) ds).map .tuple
  | n + 1, S, .lv ds => (mapO (dat n S) ds).map .list
  | n + 1, S, .ref a => (match listAt S (.ref a) with | some ds => (mapO (dat n S) ds).map .list | none => none)
  | _, _, _ => none
section
variable {G : Gx} {X : Cx} {W : WX} {ρ : Wd} {S : Store} {H : Hp}
theorem mapO_rel {f : D → Option PyData} (h : ∀ d x e, RV G ρ H d x → f d = some e → Dp G.K H x e) : ∀ {ds : List D} {xs : List V} {es : List PyData}, RVs G ρ H ds xs → mapO f ds = some es → DpAll G.K H xs es
  | _, _, _, .nil, e => by cases e; exact .nil
  | d :: ds, x :: xs, es, .cons r rs, e => by
    unfold mapO at e
    cases q1 : f d with
    | none => simp only [q1] at e; cases e
    | some b =>
      cases q2 : mapO f ds with
      | none => simp only [q1, q2] at e; cases e
      | some bs =>
        simp only [q1, q2] at e
        cases e
        exact .cons (h d x b r q1) (mapO_rel h rs q2)
theorem dat_rel (rl : Rl G ρ S H) : ∀ (n : Nat) (d : D) (x : V) (e : PyData), RV G ρ H d x → dat n S d = some e → Dp G.K H x e := by
  intro n
  induction n with
  | zero =>
    intro d x e r h
    cases r with
    | non => cases h; exact .non
    | bl b => cases h; exact .bl b
    | int i => cases h; exact .int i
    | str x => cases h; exact .str _
    | _ => cases h
  | succ n ih =>
    intro d x e r h
    have seqT : ∀ {ds : List D} {a : Addr} {xs : List V}, SqT G.K H a xs → RVs G ρ H ds xs → (mapO (dat n S) ds).map PyData.tuple = some e → Dp G.K H (.ref a) e := fun {ds a xs} ht hr h => by
      cases q : mapO (dat n S) ds with
      | none => rw [q] at h; cases h
      | some es => rw [q] at h; cases h; exact .tup ht (mapO_rel ih hr q)
    have seqL : ∀ {ds : List D} {a : Addr} {xs : List V}, SqL G.K H a xs → RVs G ρ H ds xs → (mapO (dat n S) ds).map PyData.list = some e → Dp G.K H (.ref a) e := fun {ds a xs} ht hr h => by
      cases q : mapO (dat n S) ds with
      | none => rw [q] at h; cases h
      | some es => rw [q] at h; cases h; exact .lst ht (mapO_rel ih hr q)
    cases r with
    | non => cases h; exact .non
    | bl b => cases h; exact .bl b
    | int i => cases h; exact .int i
    | str x => cases h; exact .str _
    | ty n => cases h
    | tup ht hr => exact seqT (SqT.of ht) hr h
    | kt ht hr => exact seqT (sqT_written ht) hr h
    | lv hn ht hr => exact seqL (SqL.of ht) hr h
    | @ref i a hi =>
      unfold dat at h
      cases q : listAt S (.ref i) with
      | none => simp only [q] at h; cases h
      | some ds =>
        simp only [q] at h
        obtain ⟨b, xs, e1, hq, hr⟩ := listAt_rel rl (.ref hi) q
        cases e1
        exact seqL hq hr h
    | _ => cases h
end
/-- a == b, a != b of data; own objects by own -/
def eqF (own : D → D → Store → Res D) : D → D → Store → Res D := fun x y S => match dat 64 S x, dat 64 S y with
  | some a, some b => if SeqAt.shaped a && SeqAt.shaped b then .ok (.bl (PyData.eqv a b)) S else .bad
  | _, _ => own x y S
def neF (own : D → D → Store → Res D) : D → D → Store → Res D := fun x y S => match dat 64 S x, dat 64 S y with
  | some a, some b => if SeqAt.shaped a && SeqAt.shaped b then .ok (.bl (!PyData.eqv a b)) S else .bad
  | _, _ => own x y S
section
variable {G : Gx} {X : Cx} {W : WX}
theorem ops_eq {own : D → D → Store → Res D} (cc : Cc G X W) (hu : X.A.units + 64 < cLine) (ho : OpS G X W (compareOp .Eq) own) : OpS G X W (compareOp .Eq) (eqF own) := by
  intro pins s σ H x y v u Q ρ S d1 d2 I rx ry rl r1 r2 p
  unfold eqF at p
  cases q1 : dat 64 S d1 with
  | none => simp only [q1] at p; exact ho pins s σ H x y v u Q ρ S d1 d2 I rx ry rl r1 r2 p
  | some a =>
    cases q2 : dat 64 S d2 with
    | none => simp only [q1, q2] at p; exact ho pins s σ H x y v u Q ρ S d1 d2 I rx ry rl r1 r2 p
    | some b =>
      simp only [q1, q2] at p
      by_cases h : (SeqAt.shaped a && SeqAt.shaped b) = true
      · simp only [h, if_true] at p
        rw [Bool.and_eq_true] at h
        refine op_eqD hu pins s σ H x y v u Q I rx ry ⟨a, b, ?_, ?_, h.1, h.2, post_ok p rl (.bl _)⟩
        · rw [cc.k]; exact dat_rel rl 64 d1 x a r1 q1
        · rw [cc.k]; exact dat_rel rl 64 d2 y b r2 q2
      · simp only [h] at p
        exact p.elim
theorem ops_ne {own : D → D → Store → Res D} (cc : Cc G X W) (hu : X.A.units + 64 < cLine) (ho : OpS G X W (compareOp .NotEq) own) : OpS G X W (compareOp .NotEq) (neF own) := by
  intro pins s σ H x y v u Q ρ S d1 d2 I rx ry rl r1 r2 p
  unfold neF at p
  cases q1 : dat 64 S d1 with
  | none => simp only [q1] at p; exact ho pins s σ H x y v u Q ρ S d1 d2 I rx ry rl r1 r2 p
  | some a =>
    cases q2 : dat 64 S d2 with
    | none => simp only [q1, q2] at p; exact ho pins s σ H x y v u Q ρ S d1 d2 I rx ry rl r1 r2 p
    | some b =>
      simp only [q1, q2] at p
      by_cases h : (SeqAt.shaped a && SeqAt.shaped b) = true
      · simp only [h, if_true] at p
        rw [Bool.and_eq_true] at h
        refine op_neD hu pins s σ H x y v u Q I rx ry ⟨a, b, ?_, ?_, h.1, h.2, post_ok p rl (.bl _)⟩
        · rw [cc.k]; exact dat_rel rl 64 d1 x a r1 q1
        · rw [cc.k]; exact dat_rel rl 64 d2 y b r2 q2
      · simp only [h] at p
        exact p.elim
end
end L2.Mi

set_option Elab.async false
set_option linter.all false
set_option maxRecDepth 100000
set_option maxHeartbeats 4000000
/-! Mini, 4: subscripts, slices, lengths, methods of lists, built-ins. -/
namespace L2.Mi
open PySem PySem.Spec PyProof.Rows

/-! ### subscripts -/
def IxS (G : Gx) (X : Cx) (W : WX) (f : D → D → Store → Res D) : Prop :=
  ∀ (value slice : Expr) (pins : List (Addr × Obj)) (s : Shared) (σ : St) (H : Hp) (x y : V) (v u : Value) (Q : VK) (ρ : Wd) (S : Store) (d1 d2 : D), Inv X pins σ H s → RelV x v → RelV y u → Rl G ρ S H → RV G ρ H d1 x → RV G ρ H d2 y →
    Post G ρ H (f d1 d2 S) Q (EW W σ) → subscripted slice false v u = operate [v, u] (getItem v u) → wpAny (model X.prog X.w) X.A (subscriptTail value slice v u) (EP X pins σ Q) X.xe s
/-- an item of a tuple, a list, a text -/
def itemF : D → D → Store → Res D := fun x y S => match y with
  | .int i => (match tupD x with
    | some ds => (match L2.atI ds i with | some d => .ok d S | none => .bad)
    | none => (match listAt S x with
      | some ds => (match L2.atI ds i with | some d => .ok d S | none => .bad)
      | none => (match x with
        | .str l => if l.length ≤ lim then (match L2.atI l i with | some c => .ok (.str [c]) S | none => .bad) else .bad
        | _ => .bad)))
  | _ => .bad
section
variable {G : Gx} {X : Cx} {W : WX} {a b e : Expr} {ma mb m : ME} {pos : Pos}
theorem IxS.of {f : D → D → Store → Res D} {r : R2} (ho : IxR X r) (h : ∀ ρ S H d1 d2 x y Q E, Rl G ρ S H → RV G ρ H d1 x → RV G ρ H d2 y → Post G ρ H (f d1 d2 S) Q E → r x y H Q) : IxS G X W f :=
  fun value slice pins s σ H x y v u Q ρ S d1 d2 I rx ry rl r1 r2 p hs => ho value slice pins s σ H x y v u Q I rx ry (h ρ S H d1 d2 x y Q _ rl r1 r2 p) hs
theorem se_ix {f : D → D → Store → Res D} (hr : IxS G X W f) (ha : SE G X W a ma) (hb : SE G X W b mb) (hs : PlainIx b := by exact fun _ _ => rfl) : SE G X W (.Subscript a b pos) (eBin f ma mb) :=
  ⟨fun pins s σ H Q I ⟨ρ, σs, S, rl, re, p⟩ => Subscript_ (ha.go I rl re p fun v s1 x H1 ρ1 S1 d I1 rx l1 rl1 re1 rv1 p1 => hb.go I1 rl1 re1 p1 fun u s2 y H2 ρ2 S2 e I2 ry l2 rl2 re2 rv2 p2 =>
    hr a b pins s2 σ H2 x y v u Q ρ2 S2 d e I2 rx ry rl2 (rv1.mono l2) rv2 p2 (hs _ _))⟩
theorem ixs_item (cc : Cc G X W) : IxS G X W itemF := by
  intro value slice pins s σ H x y v u Q ρ S d1 d2 I rx ry rl r1 r2 p hs
  cases r2 with
  | int i =>
    unfold itemF at p
    cases q1 : tupD d1 with
    | some ds =>
      obtain ⟨a, xs, rfl, ht, hr⟩ := tupD_rel r1 q1
      cases q2 : L2.atI ds i with
      | none => simp only [q1, q2] at p; exact p.elim
      | some d =>
        simp only [q1, q2] at p
        obtain ⟨z, h1, h2⟩ := hr.atI q2
        exact ix_tup value slice pins s σ H _ _ v u Q I rx ry ⟨a, xs, i, z, rfl, rfl, by rw [cc.k]; exact ht, h1, post_ok p rl h2⟩ hs
    | none =>
      cases q3 : listAt S d1 with
      | some ds =>
        obtain ⟨a, xs, rfl, ht, hr⟩ := listAt_rel rl r1 q3
        cases q2 : L2.atI ds i with
        | none => simp only [q1, q2, q3] at p; exact p.elim
        | some d =>
          simp only [q1, q2, q3] at p
          obtain ⟨z, h1, h2⟩ := hr.atI q2
          exact ix_list value slice pins s σ H _ _ v u Q I rx ry ⟨a, xs, i, z, rfl, rfl, by rw [cc.k]; exact ht, h1, post_ok p rl h2⟩ hs
      | none =>
        cases r1 with
        | str l =>
          simp only [q1, q3] at p
          by_cases hl : l.length ≤ lim
          · simp only [hl, if_true] at p
            cases q2 : L2.atI l i with
            | none => simp only [q2] at p; exact p.elim
            | some c =>
              simp only [q2] at p
              refine ix_str value slice pins s σ H _ _ v u Q I rx ry ⟨⟨l.toArray⟩, i, c, rfl, rfl, by rw [str_len]; exact lim_le hl, ?_, post_ok p rl (.str [c])⟩ hs
              simpa using q2
          · simp only [hl, if_false] at p
            exact p.elim
        | _ => simp only [q1, q3] at p; exact p.elim
  | _ => exact p.elim
end

/-! ### slices -/
abbrev MO := En → Store → Res (Option Int)
def oNone : MO := fun _ S => .ok none S
def oSome (m : ME) : MO := fun σ S => (m σ S).bind fun d S1 => match d with | .int i => .ok (some i) S1 | _ => .bad
def tmo (G : Gx) (W : WX) (m : MO) : TO := fun σ H Q => ∃ ρ σs S, Rl G ρ S H ∧ RE G ρ H σs σ ∧ PostR (α := Option Int) (β := Option Int) G (fun _ _ a b => a = b) ρ H (m σs S) Q (fun c d H' => W c d σ H')
abbrev SO (G : Gx) (X : Cx) (W : WX) (e : Option Expr) (m : MO) : Prop := PO X e (tmo G W m)
def cutD {α : Type} (xs : List α) (lo hi : Option Int) : List α := (xs.drop (HT.sIx xs.length 0 lo)).take (HT.sIx xs.length xs.length hi - HT.sIx xs.length 0 lo)
def sliceF (x : D) (lo hi : Option Int) (S : Store) : Res D := match x with
  | .tup ds => .ok (.tup (cutD ds lo hi)) S
  | .str l => if l.length ≤ lim then .ok (.str (cutD l lo hi)) S else .bad
  | d => (match listAt S d with | some ds => .ok (.lv (cutD ds lo hi)) S | none => .bad)
def eSlice (m : ME) (lo hi : MO) : ME := fun σ S => (m σ S).bind fun x S1 => (lo σ S1).bind fun l S2 => (hi σ S2).bind fun h S3 => sliceF x l h S3
section
variable {G : Gx} {X : Cx} {W : WX} {a b e : Expr} {ma mb m : ME} {pos : Pos}
theorem so_none : SO G X W none oNone := ⟨fun pins s σ H Q I ⟨ρ, σs, S, rl, re, p⟩ => po_none.run pins s σ H Q I (p ρ H none Le.refl rl rfl)⟩
theorem so_some (h : SE G X W e m) : SO G X W (some e) (oSome m) := by
  refine ⟨fun pins s σ H Q I ⟨ρ, σs, S, rl, re, p⟩ => (po_some h).run pins s σ H Q I ?_⟩
  refine ⟨ρ, σs, S, rl, re, p.bind (R := RV G) fun ρ1 H1 S1 d v l1 rl1 rv1 p1 => ?_⟩
  cases rv1 with
  | int i => exact ⟨i, rfl, p1 ρ1 H1 (some i) Le.refl rl1 rfl⟩
  | _ => exact False.elim p1
theorem cut_rel {ρ : Wd} {H : Hp} {ds : List D} {xs : List V} (r : RVs G ρ H ds xs) (lo hi : Option Int) : RVs G ρ H (cutD ds lo hi) (cutV xs lo hi) := by
  have dr : ∀ (n : Nat) {ds : List D} {xs : List V}, RVs G ρ H ds xs → RVs G ρ H (ds.drop n) (xs.drop n) := by
    intro n
    induction n with
    | zero => exact fun r => r
    | succ n ih => intro ds xs r; cases r with | nil => exact .nil | cons _ t => exact ih t
  have tk : ∀ (n : Nat) {ds : List D} {xs : List V}, RVs G ρ H ds xs → RVs G ρ H (ds.take n) (xs.take n) := by
    intro n
    induction n with
    | zero => exact fun r => .nil
    | succ n ih => intro ds xs r; cases r with | nil => exact .nil | cons h t => exact .cons h (ih t)
  unfold cutD cutV
  rw [r.length]
  exact tk _ (dr _ r)
theorem cut_str (l : List Nat) (lo hi : Option Int) : cutS ⟨l.toArray⟩ lo hi = ⟨(cutD l lo hi).toArray⟩ := by
  unfold cutS cutD
  simp [Str.length]
theorem whole_cut {α : Type} {xs : List α} {lo hi : Option Int} (h : HT.sIx xs.length 0 lo = 0 ∧ HT.sIx xs.length xs.length hi = xs.length) : cutD xs lo hi = xs := by
  unfold cutD
  rw [h.1, h.2]
  simp
theorem se_slice {lo hi : Option Expr} {ml mh : MO} {p2 : Pos} (cc : Cc G X W) (he : SE G X W e m) (hl : SO G X W lo ml) (hh : SO G X W hi mh) : SE G X W (.Subscript e (.Slice lo hi none p2) pos) (eSlice m ml mh) := by
  refine se_of (pe_slice ((sl_tupA (X := X)).or ((sl_str (X := X)).or (sl_list (X := X)))) he hl hh) fun σ H Q ρ σs S rl re p => ?_
  refine ⟨ρ, σs, S, rl, re, PostR.bind (R := RV G) p fun ρ1 H1 S1 d x l1 rl1 rv1 p1 => ?_⟩
  refine ⟨ρ1, σs, S1, rl1, re.mono l1, PostR.bind (R := fun _ _ a b => a = b) p1 fun ρ2 H2 S2 a1 a2 l2 rl2 e2 p2 => ?_⟩
  subst e2
  refine ⟨ρ2, σs, S2, rl2, (re.mono l1).mono l2, PostR.bind (R := fun _ _ a b => a = b) p2 fun ρ3 H3 S3 b1 b2 l3 rl3 e3 p3 => ?_⟩
  subst e3
  have rv3 := rv1.mono (l2.trans l3)
  have lists : ∀ {ds : List D}, listAt S3 d = some ds → Post G ρ3 H3 (.ok (.lv (cutD ds a1 b1)) S3) Q (EW W σ) → rSlL X.K x a1 b1 H3 Q := fun {ds} h p => by
    obtain ⟨a, xs, e, hq, hr⟩ := listAt_rel rl3 rv3 h
    exact ⟨a, xs, e, by rw [cc.k]; exact hq, fun q hq' => post_new p rl3 hq' (.lv (rl3.no hq') upd_same ((cut_rel hr a1 b1).mono (Le.new hq')))⟩
  cases rv3 with
  | @tup ds a xs ht hr =>
    refine .inl ⟨a, xs, rfl, SqT.of ht, fun hw => ?_, fun hw q hq => ?_⟩
    · have p3' : Post G ρ3 H3 (.ok (.tup (cutD ds a1 b1)) S3) Q (EW W σ) := p3
      rw [whole_cut (by rw [hr.length]; exact hw)] at p3'
      exact post_ok p3' rl3 (.tup ht hr)
    · exact post_new (S := S3) p3 rl3 hq (.tup upd_same ((cut_rel hr a1 b1).mono (Le.new hq)))
  | str l =>
    refine .inr (.inl ⟨_, rfl, ?_⟩)
    have p3' : Post G ρ3 H3 (if l.length ≤ lim then .ok (.str (cutD l a1 b1)) S3 else .bad) Q (EW W σ) := p3
    by_cases hl : l.length ≤ lim
    · rw [if_pos hl] at p3'
      refine ⟨by rw [str_len]; exact lim_le hl, ?_⟩
      rw [cut_str]
      exact post_ok p3' rl3 (.str _)
    · rw [if_neg hl] at p3'
      exact p3'.elim
  | lv n ht hr => exact .inr (.inr (lists rfl p3))
  | fl ht hr => exact .inr (.inr (lists rfl p3))
  | @ref i a hi =>
    refine .inr (.inr ?_)
    have p3' : Post G ρ3 H3 (match listAt S3 (.ref i) with | some ds => .ok (.lv (cutD ds a1 b1)) S3 | none => .bad) Q (EW W σ) := p3
    cases q : listAt S3 (.ref i) with
    | none => rw [q] at p3'; exact p3'.elim
    | some ds => rw [q] at p3'; exact lists q p3'
  | _ => exact False.elim p3
end
/-! x[::-1] -/
section
variable {prog : Program} {w : World} {A : Around} {E : Value → Shared → Prop} {s : Shared}
theorem sliceApplied_rev {sl : Addr} {vs : Value} {n : Nat} {Q : Int × Int × Nat → Shared → Prop} (hs : s.heap.IsSliceOf sl .none .none vs) (ps : IsPart vs (some (-1))) (h : Q ((n : Int) - 1, -1, n) s) :
    wpAny (model prog w) A (Builtin.Slice.sliceApplied (.ref sl) (pure (n : Int))) Q E s := by
  obtain ⟨os, hos, hcs, hds⟩ := id hs
  unfold Builtin.Slice.sliceApplied Builtin.Slice.sliceFields
  refine wpAny_bind (wpAny_bind (wpAny_field hos hds (x := .none) rfl (wpAny_bind (wpAny_field hos hds (x := .none) rfl (wpAny_bind (wpAny_field hos hds (x := vs) rfl (wpAny_pure ?_)))))))
  refine wpAny_bind (HT.slicePart_ ps ?_)
  show wpAny _ _ (if ((-1 : Int) == 0) = true then _ else _) _ _ s
  rw [if_neg (by decide)]
  refine wpAny_bind (HT.slicePart_ .none (wpAny_bind (HT.slicePart_ .none (wpAny_bind (wpAny_pure ?_)))))
  show wpAny _ _ (pure ((n : Int) - 1, (-1 : Int), Builtin.Slice.slicePlaces ((n : Int) - 1) (-1) (-1))) _ _ s
  have e : Builtin.Slice.slicePlaces ((n : Int) - 1) (-1) (-1) = n := by
    unfold Builtin.Slice.slicePlaces
    have h1 : ¬ ((-1 : Int) > 0) := by omega
    simp only [h1, if_false, Int.neg_neg, Int.ediv_one]
    split <;> omega
  rw [e]
  exact wpAny_pure h
theorem filterMap_cong {α β : Type} {f g : α → Option β} : ∀ {l : List α}, (∀ a ∈ l, f a = g a) → l.filterMap f = l.filterMap g
  | [], _ => rfl
  | a :: l, h => by
    rw [List.filterMap_cons, List.filterMap_cons, h a (by simp), filterMap_cong fun b hb => h b (by simp [hb])]
theorem pick_rev (xs : Array Value) : ((List.range xs.size).filterMap fun (m : Nat) => xs[((xs.size : Int) - 1 + (m : Int) * -1).toNat]?) = xs.toList.reverse := by
  have key : ∀ (l : List Value), ((List.range l.length).filterMap fun (m : Nat) => l[l.length - 1 - m]?) = l.reverse := by
    intro l
    have : ((List.range l.length).filterMap fun (m : Nat) => l[l.length - 1 - m]?) = ((List.range l.length).map fun m => l.reverse[m]?).filterMap id := by
      rw [List.filterMap_map]
      apply filterMap_cong
      intro m hm
      rw [List.mem_range] at hm
      show _ = l.reverse[m]?
      rw [List.getElem?_reverse hm]
    rw [this]
    have h2 : ((List.range l.length).map fun m => l.reverse[m]?) = l.reverse.map some := by
      apply List.ext_getElem?
      intro i
      by_cases hi : i < l.length
      · rw [List.getElem?_map, List.getElem?_range hi, List.getElem?_map]
        simp [List.getElem?_eq_getElem (show i < l.reverse.length by simpa using hi)]
      · rw [List.getElem?_eq_none (by simpa using hi), List.getElem?_eq_none (by simpa using hi)]
    rw [h2, List.filterMap_map]
    simp
  rw [← key xs.toList]
  rw [Array.length_toList]
  apply filterMap_cong
  intro m hm
  rw [List.mem_range] at hm
  have e1 : ((xs.size : Int) - 1 + (m : Int) * -1).toNat = xs.size - 1 - m := by omega
  rw [e1]
  simp
theorem getItem_tuple_rev {t sl : Addr} {items : Array Value} {vs : Value} {Q : Value → Shared → Prop} (ht : IsTup s.heap t items) (hs : s.heap.IsSliceOf sl .none .none vs) (ps : IsPart vs (some (-1)))
    (h : Q (.ref s.heap.objs.size) { s with heap := s.heap.push { cls := .type "tuple", data := .seq items.toList.reverse.toArray } }) (hsz : items.size ≤ sizeLine) : wpAny (model prog w) A (getItem (.ref t) (.ref sl)) Q E s := by
  have htake : sizeOk (.seq items.toList.reverse.toArray) := by
    show items.toList.reverse.toArray.size ≤ sizeLine
    rw [List.size_toArray, List.length_reverse, Array.length_toList]
    exact hsz
  obtain ⟨os, hos, hcs, hds⟩ := id hs
  have hTs : s.TypeIs (.ref sl) "slice" := ⟨os, hos, hcs⟩
  unfold getItem
  try with_reducible refine wpAny_holding ?_
  first | refine wpAny_bind (wpAny_pure ?_) | skip
  refine wpAny_bind (wpAny_sequenceKey ht.typeIs (by decide) ?_)
  refine wpAny_bind (wpAny_callSpecial?_slot (name := Str.ofString "__getitem__") ht.typeIs PyProof.Rows.slot_tuple_getitem
    (wpAny_call_entry PyProof.Rows.slot_tuple_getitem ht.typeIs entry_tuple_getitem ?_ (args_tuple_getitem _ _)))
  show wpAny _ _ (Builtin.Tuple.tupleItemsOf (.ref t) >>= _) _ _ s
  refine wpAny_bind (tupleItemsOf_ ht ?_)
  refine wpAny_bind (wpAny_typeOf hTs ?_)
  rw [if_pos (by decide)]
  refine wpAny_bind (sliceApplied_rev hs ps ?_)
  have hno : ¬ ((((items.size : Int) - 1) == 0 && (-1 : Int) == 1 && items.size == items.size) = true) := by simp
  show wpAny _ _ (if (((items.size : Int) - 1) == 0 && (-1 : Int) == 1 && items.size == items.size) = true then _ else _) _ _ s
  rw [if_neg hno, pick_rev]
  first
    | exact wpAny_bind (m := Builtin.Tuple.tupleExact _) (wpAny_newObj_type (wpAny_pure ⟨_, rfl, wpAny_pure h⟩) htake)
    | exact wpAny_bind (m := Builtin.Tuple.tupleExact _) (wpAny_newObj_type (wpAny_bind (wpAny_pure (wpAny_pure ⟨_, rfl, wpAny_pure h⟩))) htake)
    | exact wpAny_bind (wpAny_bind (m := Builtin.Tuple.tupleExact _) (wpAny_newObj_type (wpAny_pure (wpAny_pure ⟨_, rfl, wpAny_pure h⟩)) htake))
    | exact wpAny_bind (wpAny_bind (m := Builtin.Tuple.tupleExact _) (wpAny_newObj_type (wpAny_pure ⟨_, rfl, wpAny_pure h⟩) htake))
end
def revF (x : D) (S : Store) : Res D := match x with
  | .tup ds => .ok (.tup ds.reverse) S
  | d => (match listAt S d with | some ds => .ok (.lv ds.reverse) S | none => .bad)
section
variable {G : Gx} {X : Cx} {W : WX} {a b e : Expr} {ma mb m : ME} {pos : Pos}
theorem RVs.reverse {ρ : Wd} {H : Hp} {ds : List D} {xs : List V} (r : RVs G ρ H ds xs) : RVs G ρ H ds.reverse xs.reverse := by
  induction ds generalizing xs with
  | nil => cases r; exact .nil
  | cons d ds ih =>
    cases r with
    | cons h t => rw [List.reverse_cons, List.reverse_cons]; exact (ih t).append (.cons h .nil)
theorem se_rev {k : Nat} {q1 q2 q3 : Pos} (cc : Cc G X W) (he : SE G X W e m) : SE G X W (.Subscript e (.Slice none none (some (.UnaryOp .USub (.Constant (.int 1) k q1) q2)) q3) pos) (eUn revF m) := by
  refine ⟨fun pins s σ H Q I ⟨ρ, σs, S, rl, re, p⟩ => ?_⟩
  refine Subscript_ (he.go I rl re p fun v s1 x H1 ρ1 S1 d I1 r1 l1 rl1 re1 rv1 p1 => ?_)
  have hst : PO X (some (.UnaryOp .USub (.Constant (.int 1) k q1) q2)) (tPart (tUn (rU fun i => .int (-i)) (tC (.int 1)))) := po_some (pe_un un_neg pe_int)
  refine wpAny_Slice ?_
  rw [evalPart_none]
  refine wpAny_pure (wpAny_pure ?_)
  refine thn (hst.run pins s1 σ H1 (fun o H4 => o = some (-1) ∧ H4 = H1) I1 ⟨1, rfl, -1, rfl, rfl, rfl⟩) fun vs s4 ⟨o, H4, I4, ps, eo, e4⟩ => ?_
  subst eo e4
  have I5 : Inv X pins σ H4 { s4 with heap := s4.heap.push { cls := .type "slice", data := .fields #[.none, .none, vs] } } := I4.kept (t' := s4.toks) fun b ob q => Heap.get?_push_of_some _ q
  have lists : ∀ {ds : List D}, listAt S1 d = some ds → Post G ρ1 H4 (.ok (.lv ds.reverse) S1) Q (EW W σ) → wpAny (model X.prog X.w) X.A (subscriptTail e (.Slice none none (some (.UnaryOp .USub (.Constant (.int 1) k q1) q2)) q3) v (.ref s4.heap.objs.size)) (EP X pins σ Q) X.xe { s4 with heap := s4.heap.push { cls := .type "slice", data := .fields #[.none, .none, vs] } } := fun {ds} h p => by
    obtain ⟨a, xs, ex, hq, hr⟩ := listAt_rel rl1 rv1 h
    subst ex
    cases r1
    obtain ⟨its, r, ht, hz⟩ := I5.list (a := a) (xs := xs) (by rw [cc.k]; exact hq)
    have hlen := r.length
    refine tail_any (ops := [.ref a, .ref s4.heap.objs.size]) ht.isList.typeIs (PySem.slot_list_getitem.lookup) ?_ (by with_unfolding_all rfl)
    refine wpAny_getItem_list_slice ht.isList (Heap.IsSliceOf.new _ .none .none vs) .none .none ps (by decide) ?_ (by rw [List.size_toArray]; omega)
    rw [PySem.W.krv_pick]
    have hfr := I5.hok.fresh (Nat.le_refl _)
    refine ⟨.ref _, _, I5.laid (t' := s4.toks) (o := .lst xs.reverse) (fun b ob q => Heap.get?_push_of_some _ q) (Nat.le_refl _) ?_, rfl, post_new p rl1 hfr (.lv (rl1.no hfr) upd_same (hr.reverse.mono (Le.new hfr)))⟩
    exact ⟨by rw [List.length_reverse]; exact hz, _, 0, r.reverse, Heap.get?_push_size _ rfl⟩
  show wpAny (model X.prog X.w) X.A (subscriptTail e (.Slice none none (some (.UnaryOp .USub (.Constant (.int 1) k q1) q2)) q3) v (.ref s4.heap.objs.size)) (EP X pins σ Q) X.xe { s4 with heap := s4.heap.push { cls := .type "slice", data := .fields #[.none, .none, vs] } }
  cases rv1 with
  | @tup ds a xs htt hr =>
    cases r1
    obtain ⟨its, r, ht, hz⟩ := I5.tuple (a := a) (xs := xs) (SqT.of htt)
    have hlen := r.length
    refine tail_any (ops := [.ref a, .ref s4.heap.objs.size]) ht.typeIs (PyProof.Rows.slot_tuple_getitem.lookup) ?_ (by with_unfolding_all rfl)
    refine getItem_tuple_rev ht (Heap.IsSliceOf.new _ .none .none vs) ps ?_ (by rw [List.size_toArray]; omega)
    have hfr := I5.hok.fresh (Nat.le_refl _)
    refine ⟨.ref _, _, I5.laid (t' := s4.toks) (o := .tup xs.reverse) (fun b ob q => Heap.get?_push_of_some _ q) (Nat.le_refl _) ?_, rfl, post_new (S := S1) p1 rl1 hfr (.tup upd_same (hr.reverse.mono (Le.new hfr)))⟩
    exact ⟨by rw [List.length_reverse]; exact hz, its.reverse, r.reverse, ⟨_, Heap.get?_push_size _ rfl, rfl, _, rfl⟩⟩
  | lv n ht hr => exact lists rfl p1
  | fl ht hr => exact lists rfl p1
  | @ref i a hi =>
    have p1' : Post G ρ1 H4 (match listAt S1 (.ref i) with | some ds => .ok (.lv ds.reverse) S1 | none => .bad) Q (EW W σ) := p1
    cases q : listAt S1 (.ref i) with
    | none => rw [q] at p1'; exact p1'.elim
    | some ds => rw [q] at p1'; exact lists q p1'
  | _ => exact False.elim p1
end
end L2.Mi

set_option Elab.async false
set_option linter.all false
set_option maxRecDepth 100000
set_option maxHeartbeats 4000000
/-! Mini, 5: built-in functions, what loops walk. -/
namespace L2.Mi
open PySem PySem.Spec PyProof.Rows

def asInts : List D → Option (List Int)
  | [] => some []
  | .int i :: ds => (asInts ds).map (i :: ·)
  | _ :: _ => none
def asBools : List D → Option (List Bool)
  | [] => some []
  | .bl b :: ds => (asBools ds).map (b :: ·)
  | _ :: _ => none
/-- the pairs of a dict as it stands -/
def dictAt (S : Store) : D → Option (Bool × List (D × D))
  | .dv t kvs => some (t, kvs)
  | .ref a => (match S.get a with | some (.dic t kvs) => some (t, kvs) | some (.lck (.dic t kvs)) => some (t, kvs) | _ => none)
  | _ => none
section
variable {G : Gx} {ρ : Wd} {H : Hp} {S : Store}
theorem asInts_rel : ∀ {ds : List D} {xs : List V} {ns : List Int}, RVs G ρ H ds xs → asInts ds = some ns → xs = ns.map V.int
  | _, _, _, .nil, h => by cases h; rfl
  | d :: ds, x :: xs, ns, .cons r t, h => by
    cases r with
    | int i =>
      unfold asInts at h
      cases q : asInts ds with
      | none => rw [q] at h; cases h
      | some ms => rw [q] at h; cases h; rw [asInts_rel t q]; rfl
    | _ => cases h
theorem asBools_rel : ∀ {ds : List D} {xs : List V} {ns : List Bool}, RVs G ρ H ds xs → asBools ds = some ns → xs = ns.map V.bl
  | _, _, _, .nil, h => by cases h; rfl
  | d :: ds, x :: xs, ns, .cons r t, h => by
    cases r with
    | bl i =>
      unfold asBools at h
      cases q : asBools ds with
      | none => rw [q] at h; cases h
      | some ms => rw [q] at h; cases h; rw [asBools_rel t q]; rfl
    | _ => cases h
end
def lenF (ds : List D) (S : Store) : Res D := match ds with
  | [.str l] => if l.length ≤ lim then .ok (.int l.length) S else .bad
  | [.tup xs] => .ok (.int xs.length) S
  | [.kt xs] => .ok (.int xs.length) S
  | [d] => (match listAt S d with | some xs => .ok (.int xs.length) S | none => .bad)
  | _ => .bad
def absF (ds : List D) (S : Store) : Res D := match ds with
  | [.int i] => .ok (.int (if i < 0 then -i else i)) S
  | _ => .bad
def max2F (ds : List D) (S : Store) : Res D := match ds with
  | [.int i, .int j] => .ok (.int (if j > i then j else i)) S
  | _ => .bad
def min2F (ds : List D) (S : Store) : Res D := match ds with
  | [.int i, .int j] => .ok (.int (if j < i then j else i)) S
  | _ => .bad
def intF (ds : List D) (S : Store) : Res D := match ds with
  | [.int i] => .ok (.int i) S
  | [.bl k] => .ok (.int (if k then 1 else 0)) S
  | _ => .bad
/-- a list of the items of a list or a tuple: one that is changed later, one that is not -/
def seqAt (S : Store) (d : D) : Option (List D) := match tupD d with | some ds => some ds | none => listAt S d
def listF (ds : List D) (S : Store) : Res D := match ds with
  | [d] => (match seqAt S d with | some xs => .ok (.ref S.size) (S.push (.lst xs)) | none => .bad)
  | _ => .bad
def listvF (ds : List D) (S : Store) : Res D := match ds with
  | [d] => (match seqAt S d with | some xs => .ok (.lv xs) S | none => .bad)
  | _ => .bad
def tupleF (ds : List D) (S : Store) : Res D := match ds with
  | [.tup xs] => .ok (.tup xs) S
  | [d] => (match listAt S d with | some xs => .ok (.tup xs) S | none => .bad)
  | _ => .bad
def sumF (ds : List D) (S : Store) : Res D := match ds with
  | [d] => (match (listAt S d).bind asInts with | some ns => .ok (.int ns.sum) S | none => .bad)
  | _ => .bad
def allF (ds : List D) (S : Store) : Res D := match ds with
  | [d] => (match (listAt S d).bind asBools with | some bs => .ok (.bl (bs.all id)) S | none => .bad)
  | _ => .bad
def anyF (ds : List D) (S : Store) : Res D := match ds with
  | [d] => (match (listAt S d).bind asBools with | some bs => .ok (.bl (bs.any id)) S | none => .bad)
  | _ => .bad
section
variable {G : Gx} {X : Cx} {W : WX}
theorem rvs1 {ρ : Wd} {H : Hp} {d : D} {xs : List V} (r : RVs G ρ H [d] xs) : ∃ x, xs = [x] ∧ RV G ρ H d x := by
  cases r with
  | cons h t => cases t; exact ⟨_, rfl, h⟩
theorem rvs2 {ρ : Wd} {H : Hp} {d e : D} {xs : List V} (r : RVs G ρ H [d, e] xs) : ∃ x y, xs = [x, y] ∧ RV G ρ H d x ∧ RV G ρ H e y := by
  cases r with
  | cons h t =>
    cases t with
    | cons h' t' => cases t'; exact ⟨_, _, rfl, h, h'⟩
theorem fns_len (cc : Cc G X W) : FnS G X W (.builtin "len") lenF := FnS.of call_len fun ρ S H ds xs Q E rl r p => by
  have seq : ∀ {d : D} {x : V} {ys : List D}, RV G ρ H d x → listAt S d = some ys → Post G ρ H (.ok (.int ys.length) S) Q E → ∃ x' n, [x] = [x'] ∧ LenV X.K x' H n ∧ Q (.int n) H := fun {d x ys} h q p => by
    obtain ⟨a, zs, rfl, hq, hr⟩ := listAt_rel rl h q
    refine ⟨_, zs.length, rfl, .inl ⟨zs, by rw [cc.k]; exact hq, rfl⟩, ?_⟩
    rw [← hr.length]
    exact post_ok p rl (.int _)
  match ds, r, p with
  | [], _, p => exact p.elim
  | _ :: _ :: _, _, p => exact (show False by unfold lenF at p; split at p <;> first | exact p | simp_all).elim
  | [d], r, p =>
    obtain ⟨x, rfl, h⟩ := rvs1 r
    cases h with
    | str l =>
      have p' : Post G ρ H (if l.length ≤ lim then .ok (.int l.length) S else .bad) Q E := p
      by_cases hl : l.length ≤ lim
      · rw [if_pos hl] at p'
        refine ⟨_, l.length, rfl, ⟨by rw [str_len]; exact lim_le hl, by rw [str_len]⟩, post_ok p' rl (.int _)⟩
      · rw [if_neg hl] at p'
        exact p'.elim
    | @tup ds a zs ht hr =>
      refine ⟨_, zs.length, rfl, .inr ⟨zs, SqT.of ht, rfl⟩, ?_⟩
      rw [← hr.length]
      exact post_ok (S := S) p rl (.int _)
    | @kt ds a zs ht hr =>
      refine ⟨_, zs.length, rfl, .inr ⟨zs, by rw [cc.k]; exact sqT_written ht, rfl⟩, ?_⟩
      rw [← hr.length]
      exact post_ok (S := S) p rl (.int _)
    | lv n ht hr => exact seq (.lv n ht hr) rfl p
    | fl ht hr => exact seq (.fl ht hr) rfl p
    | @ref i a hi =>
      have p' : Post G ρ H (match listAt S (.ref i) with | some ys => .ok (.int ys.length) S | none => .bad) Q E := p
      cases q : listAt S (.ref i) with
      | none => rw [q] at p'; exact p'.elim
      | some ys => rw [q] at p'; exact seq (.ref hi) q p'
    | _ => exact False.elim p
theorem fns_abs : FnS G X W (.builtin "abs") absF := FnS.of call_abs fun ρ S H ds xs Q E rl r p => by
  unfold absF at p
  split at p
  · obtain ⟨x, rfl, h⟩ := rvs1 r
    cases h
    exact ⟨_, rfl, post_ok p rl (.int _)⟩
  · exact p.elim
theorem fns_max2 (cc : Cc G X W) : FnS G X W (.builtin "max") max2F := FnS.of (call_max2 cc.calm) fun ρ S H ds xs Q E rl r p => by
  unfold max2F at p
  split at p
  · obtain ⟨x, y, rfl, h, h'⟩ := rvs2 r
    cases h
    cases h'
    exact ⟨_, _, rfl, post_ok p rl (.int _)⟩
  · exact p.elim
theorem fns_min2 (cc : Cc G X W) : FnS G X W (.builtin "min") min2F := FnS.of (call_min2 cc.calm) fun ρ S H ds xs Q E rl r p => by
  unfold min2F at p
  split at p
  · obtain ⟨x, y, rfl, h, h'⟩ := rvs2 r
    cases h
    cases h'
    exact ⟨_, _, rfl, post_ok p rl (.int _)⟩
  · exact p.elim
theorem fns_int : FnS G X W (.type "int") intF := FnS.of call_int1 fun ρ S H ds xs Q E rl r p => by
  unfold intF at p
  split at p
  · obtain ⟨x, rfl, h⟩ := rvs1 r
    cases h
    exact .inl ⟨_, rfl, post_ok p rl (.int _)⟩
  · obtain ⟨x, rfl, h⟩ := rvs1 r
    cases h
    exact .inr ⟨_, rfl, post_ok p rl (.int _)⟩
  · exact p.elim
theorem seqAt_rel {ρ : Wd} {S : Store} {H : Hp} {d : D} {x : V} {ds : List D} (rl : Rl G ρ S H) (rv : RV G ρ H d x) (h : seqAt S d = some ds) : ∃ a xs, x = .ref a ∧ (SqL G.K H a xs ∨ SqT G.K H a xs) ∧ RVs G ρ H ds xs := by
  unfold seqAt at h
  cases q : tupD d with
  | some es =>
    rw [q] at h
    cases h
    obtain ⟨a, xs, e, ht, hr⟩ := tupD_rel rv q
    exact ⟨a, xs, e, .inr ht, hr⟩
  | none =>
    rw [q] at h
    obtain ⟨a, xs, e, ht, hr⟩ := listAt_rel rl rv h
    exact ⟨a, xs, e, .inl ht, hr⟩
theorem fns_list (cc : Cc G X W) : FnS G X W (.type "list") listF := FnS.of call_list_of fun ρ S H ds xs Q E rl r p => by
  unfold listF at p
  split at p
  · rename_i d
    obtain ⟨x, rfl, h⟩ := rvs1 r
    cases q : seqAt S d with
    | none => rw [q] at p; exact p.elim
    | some es =>
      rw [q] at p
      obtain ⟨a, zs, rfl, hq, hr⟩ := seqAt_rel rl h q
      refine ⟨a, zs, rfl, by rw [cc.k]; exact hq, fun l hl => ?_⟩
      exact p (ρ.push l) _ _ (Le.push hl) (rl.push hl (.lst hr)) (RV.new rl)
  · exact p.elim
theorem fns_listv (cc : Cc G X W) : FnS G X W (.type "list") listvF := FnS.of call_list_of fun ρ S H ds xs Q E rl r p => by
  unfold listvF at p
  split at p
  · rename_i d
    obtain ⟨x, rfl, h⟩ := rvs1 r
    cases q : seqAt S d with
    | none => rw [q] at p; exact p.elim
    | some es =>
      rw [q] at p
      obtain ⟨a, zs, rfl, hq, hr⟩ := seqAt_rel rl h q
      refine ⟨a, zs, rfl, by rw [cc.k]; exact hq, fun l hl => ?_⟩
      exact post_new p rl hl (.lv (rl.no hl) upd_same (hr.mono (Le.new hl)))
  · exact p.elim
theorem fns_tuple (cc : Cc G X W) : FnS G X W (.type "tuple") tupleF := FnS.of call_tuple_of fun ρ S H ds xs Q E rl r p => by
  unfold tupleF at p
  split at p
  · obtain ⟨x, rfl, h⟩ := rvs1 r
    cases h with
    | tup ht hr => exact ⟨_, _, rfl, .inr ⟨SqT.of ht, post_ok p rl (.tup ht hr)⟩⟩
  · rename_i d _
    obtain ⟨x, rfl, h⟩ := rvs1 r
    cases q : listAt S d with
    | none => rw [q] at p; exact p.elim
    | some es =>
      rw [q] at p
      obtain ⟨a, zs, rfl, hq, hr⟩ := listAt_rel rl h q
      exact ⟨a, zs, rfl, .inl ⟨by rw [cc.k]; exact hq, fun l hl => post_new p rl hl (.tup upd_same (hr.mono (Le.new hl)))⟩⟩
  · exact p.elim
theorem fns_sum (cc : Cc G X W) : FnS G X W (.builtin "sum") sumF := FnS.of (cr_sum cc.calm) fun ρ S H ds xs Q E rl r p => by
  unfold sumF at p
  split at p
  · rename_i d
    obtain ⟨x, rfl, h⟩ := rvs1 r
    cases q : listAt S d with
    | none => rw [q] at p; exact p.elim
    | some es =>
      cases q2 : asInts es with
      | none => rw [q, Option.bind_some, q2] at p; exact p.elim
      | some ns =>
        rw [q, Option.bind_some, q2] at p
        obtain ⟨a, zs, rfl, hq, hr⟩ := listAt_rel rl h q
        exact ⟨a, ns, rfl, by rw [cc.k, ← asInts_rel hr q2]; exact hq, post_ok p rl (.int _)⟩
  · exact p.elim
theorem fns_all (cc : Cc G X W) : FnS G X W (.builtin "all") allF := FnS.of (cr_all cc.calm) fun ρ S H ds xs Q E rl r p => by
  unfold allF at p
  split at p
  · rename_i d
    obtain ⟨x, rfl, h⟩ := rvs1 r
    cases q : listAt S d with
    | none => rw [q] at p; exact p.elim
    | some es =>
      cases q2 : asBools es with
      | none => rw [q, Option.bind_some, q2] at p; exact p.elim
      | some ns =>
        rw [q, Option.bind_some, q2] at p
        obtain ⟨a, zs, rfl, hq, hr⟩ := listAt_rel rl h q
        exact ⟨a, ns, rfl, by rw [cc.k, ← asBools_rel hr q2]; exact hq, post_ok p rl (.bl _)⟩
  · exact p.elim
theorem fns_any (cc : Cc G X W) : FnS G X W (.builtin "any") anyF := FnS.of (cr_any cc.calm) fun ρ S H ds xs Q E rl r p => by
  unfold anyF at p
  split at p
  · rename_i d
    obtain ⟨x, rfl, h⟩ := rvs1 r
    cases q : listAt S d with
    | none => rw [q] at p; exact p.elim
    | some es =>
      cases q2 : asBools es with
      | none => rw [q, Option.bind_some, q2] at p; exact p.elim
      | some ns =>
        rw [q, Option.bind_some, q2] at p
        obtain ⟨a, zs, rfl, hq, hr⟩ := listAt_rel rl h q
        exact ⟨a, ns, rfl, by rw [cc.k, ← asBools_rel hr q2]; exact hq, post_ok p rl (.bl _)⟩
  · exact p.elim

/-! ### what loops walk -/
variable {e tg : Expr} {m : ME} {pos p : Pos}
theorem si_of {wi : TI} {mi : MI} {iter : Expr} (h : PI X tg iter wi) (i : ∀ σ H R ρ σs S, Rl G ρ S H → RE G ρ H σs σ → PostI G ρ H (mi σs S) R (EW W σ) → wi σ H R) : SI G X W tg iter mi :=
  PI.weak h fun σ H R ⟨ρ, σs, S, rl, re, p⟩ => i σ H R ρ σs S rl re p
theorem jr_list {ρ0 : Wd} {H0 : Hp} {d : D} {a : Addr} (rv : RV G ρ0 H0 d (.ref a)) : JR G ρ0 H0 (fun k S' => (listAt S' d).map fun ds => ds[k]?) (Itl G.K a) := by
  intro ρ S H l rl i
  refine ⟨fun e h => ?_, fun h => ?_⟩
  · cases q : listAt S d with
    | none => simp only [q] at h; cases h
    | some ds =>
      simp only [q, Option.map_some, Option.some.injEq] at h
      obtain ⟨b, xs, e1, hq, hr⟩ := listAt_rel rl (rv.move l) q
      cases e1
      obtain ⟨x, h1, h2⟩ := hr.get h
      refine ⟨⟨xs, x, hq, h1⟩, fun y H' hy => ?_⟩
      obtain ⟨e2, hy⟩ := hy
      subst e2
      have := hy xs hq
      rw [h1] at this
      cases this
      exact ⟨Le.refl, rl, h2⟩
  · cases q : listAt S d with
    | none => simp only [q] at h; cases h
    | some ds =>
      simp only [q, Option.map_some, Option.some.injEq] at h
      obtain ⟨b, xs, e1, hq, hr⟩ := listAt_rel rl (rv.move l) q
      cases e1
      exact ⟨xs, hq, by rw [← hr.length]; exact List.getElem?_eq_none_iff.mp h⟩
theorem si_list (cc : Cc G X W) (h : SE G X W e m) : SI G X W tg e (iList m) := by
  refine si_of (pi_list h) fun σ H R ρ σs S rl re p => ?_
  refine ⟨ρ, σs, S, rl, re, PostR.bind (R := RV G) p fun ρ1 H1 S1 d x l1 rl1 rv1 p1 => ?_⟩
  cases q : listAt S1 d with
  | none => simp only [q] at p1; exact p1.elim
  | some ds =>
    simp only [q] at p1
    obtain ⟨a, xs, rfl, hq, hr⟩ := listAt_rel rl1 rv1 q
    refine ⟨a, rfl, ⟨xs, by rw [cc.k]; exact hq⟩, p1 ρ1 H1 _ Le.refl rl1 ?_⟩
    rw [cc.k]
    exact jr_list rv1
theorem jr_tup {ρ0 : Wd} {H0 : Hp} {ds : List D} {d : D} {a : Addr} (rv : RV G ρ0 H0 d (.ref a)) (hd : tupD d = some ds) : JR G ρ0 H0 (fun k _ => some ds[k]?) (Itt G.K a) := by
  intro ρ S H l rl i
  obtain ⟨b, xs, e1, hq, hr⟩ := tupD_rel (rv.move l) hd
  cases e1
  refine ⟨fun e h => ?_, fun h => ?_⟩
  · obtain ⟨x, h1, h2⟩ := hr.get (Option.some.inj h)
    refine ⟨⟨xs, x, hq, h1⟩, fun y H' hy => ?_⟩
    obtain ⟨e2, hy⟩ := hy
    subst e2
    have := hy xs hq
    rw [h1] at this
    cases this
    exact ⟨Le.refl, rl, h2⟩
  · exact ⟨xs, hq, by rw [← hr.length]; exact List.getElem?_eq_none_iff.mp (Option.some.inj h)⟩
theorem si_tup (cc : Cc G X W) (h : SE G X W e m) : SI G X W tg e (iTup m) := by
  refine si_of (pi_tup h) fun σ H R ρ σs S rl re p => ?_
  refine ⟨ρ, σs, S, rl, re, PostR.bind (R := RV G) p fun ρ1 H1 S1 d x l1 rl1 rv1 p1 => ?_⟩
  have go : ∀ {ds : List D}, tupD d = some ds → PostI G ρ1 H1 (.ok (fun k _ => some ds[k]?) S1) R (EW W σ) → ∃ a, x = .ref a ∧ (∃ xs, SqT X.K H1 a xs) ∧ R (Itt X.K a) H1 := fun {ds} hd p => by
    obtain ⟨a, xs, rfl, hq, hr⟩ := tupD_rel rv1 hd
    refine ⟨a, rfl, ⟨xs, by rw [cc.k]; exact hq⟩, p ρ1 H1 _ Le.refl rl1 ?_⟩
    rw [cc.k]
    exact jr_tup rv1 hd
  cases d with
  | tup ds => exact go rfl p1
  | kt ds => exact go rfl p1
  | _ => exact False.elim p1
theorem jr_range {ρ0 : Wd} {H0 : Hp} {lo : Int} {n : Nat} : JR G ρ0 H0 (fun k _ => some (if k < n then some (.int (lo + (k : Int))) else none)) (Itr lo n) := by
  intro ρ S H l rl i
  by_cases hi : i < n
  · refine ⟨fun e h => ?_, fun h => ?_⟩
    · simp only [hi, if_true, Option.some.injEq] at h
      subst h
      refine ⟨hi, fun y H' hy => ?_⟩
      obtain ⟨e2, hy⟩ := hy
      subst e2 hy
      exact ⟨Le.refl, rl, .int _⟩
    · simp only [hi, if_true] at h
      cases h
  · refine ⟨fun e h => ?_, fun h => ?_⟩
    · simp only [hi, if_false] at h
      cases h
    · exact Nat.le_of_not_lt hi
theorem i62_ok {j : Int} (h : i62 j = true) : -(2 ^ 62) ≤ j ∧ j < 2 ^ 62 := by
  unfold i62 at h
  simpa using h
theorem si_range1 (h : SA G X W [e] (aList [m])) (hg : Gl X "range") (hm : X.mg "range" = none) (hs : starEach [e] X.env = [(false, eval e X.env)] := by rfl) : SI G X W tg (.Call (.Name "range" p) [e] [] pos) (iRange1 m) := by
  refine si_of (pi_range1 hg hm h hs) fun σ H R ρ σs S rl re p => ?_
  refine ⟨ρ, σs, S, rl, re, ?_⟩
  show PostA G ρ H ((m σs S).bind fun x S1 => (Res.ok [] S1).bind fun xs S2 => .ok (x :: xs) S2) _ _
  have p' : PostI G ρ H ((m σs S).bind fun d S1 => match d with
    | .int j => if i62 j then .ok (fun k _ => some (if k < j.toNat then some (.int (0 + (k : Int))) else none)) S1 else .bad
    | _ => .bad) R (EW W σ) := p
  cases q : m σs S with
  | ok d S1 =>
    rw [q] at p'
    intro ρ1 H1 vs l1 rl1 rv1
    obtain ⟨x, rfl, h1⟩ := rvs1 rv1
    cases h1 with
    | int j =>
      have p2 : PostI G ρ H (if i62 j then .ok (fun k _ => some (if k < j.toNat then some (.int (0 + (k : Int))) else none)) S1 else .bad) R (EW W σ) := p'
      by_cases hj : i62 j = true
      · rw [if_pos hj] at p2
        exact ⟨j, rfl, (i62_ok hj).1, (i62_ok hj).2, p2 ρ1 H1 _ l1 rl1 jr_range⟩
      · rw [if_neg hj] at p2
        exact p2.elim
    | _ => exact False.elim p'
  | exc x S1 => rw [q] at p'; exact p'
  | bad => rw [q] at p'; exact p'
theorem si_range2 {a b : Expr} {ma mb : ME} (ha : SA G X W [a, b] (aList [ma, mb])) (hg : Gl X "range") (hm : X.mg "range" = none) (hs : starEach [a, b] X.env = [(false, eval a X.env), (false, eval b X.env)] := by rfl) (hs2 : starEach [b] X.env = [(false, eval b X.env)] := by rfl) : SI G X W tg (.Call (.Name "range" p) [a, b] [] pos) (iRange2 ma mb) := by
  refine si_of (pi_range2 hg hm ha hs hs2) fun σ H R ρ σs S rl re p => ?_
  refine ⟨ρ, σs, S, rl, re, PostR.bind (R := RVs G) p fun ρ1 H1 S1 ds vs l1 rl1 rv1 p1 => ?_⟩
  split at p1
  · rename_i i j
    obtain ⟨x, y, rfl, h1, h2⟩ := rvs2 rv1
    cases h1 with
    | int i =>
      cases h2 with
      | int j =>
        by_cases hj : (i62 i && i62 j) = true
        · rw [if_pos hj] at p1
          rw [Bool.and_eq_true] at hj
          exact ⟨i, j, rfl, ⟨(i62_ok hj.1).1, (i62_ok hj.1).2, (i62_ok hj.2).1, (i62_ok hj.2).2⟩, p1 ρ1 H1 _ Le.refl rl1 jr_range⟩
        · rw [if_neg hj] at p1
          exact p1.elim
  · exact p1.elim
end
end L2.Mi

set_option Elab.async false
set_option linter.all false
set_option maxRecDepth 100000
set_option maxHeartbeats 4000000
/-! Mini, 6: defs, classes, methods, attributes. -/
namespace L2.Mi
open PySem PySem.Spec PyProof.Rows

abbrev FN := List D → Store → Res D
def spF (G : Gx) (m : FN) (n : Nat) : Sp := fun vs H Q E => ∃ ρ S ds, vs.length = n ∧ Rl G ρ S H ∧ RVs G ρ H ds vs ∧ Post G ρ H (m ds S) Q E
/-- a def's run by its body's: n slots -/
def bodyRun (n : Nat) (ms : MS) : FN := fun ds S => match ms (ds.map some ++ List.replicate (n - ds.length) none) S with
  | .rt d S1 => .ok d S1
  | .nx _ S1 => .ok .non S1
  | .exc x _ S1 => .exc x S1
  | _ => .bad
abbrev WF (E : XK) : WX := fun c d _ H' => E c d H'
section
variable {G : Gx} {P : Program} {w : World} {mg : Str → Option Value} {base : Heap} {N ps : List Str} {x qual : Str} {params : Arguments} {body : List Stmt} {scope : Scope} {dvs : List V} {kws : List (Str × V)} {f : Addr} {fd : FuncData} {k : Nat} {ms : MS}
theorem re_start {ρ : Wd} {H : Hp} : ∀ {ds : List D} {vs : List V}, RVs G ρ H ds vs → RE G ρ H (ds.map some ++ List.replicate (N.length - ds.length) none) (start N vs) := by
  intro ds vs r
  have hl := r.length
  refine ⟨by unfold start; simp [hl], fun i d h => ?_⟩
  by_cases hi : i < ds.length
  · rw [List.getElem?_append_left (by simpa using hi), List.getElem?_map] at h
    cases q : ds[i]? with
    | none => rw [q] at h; cases h
    | some e =>
      rw [q] at h
      cases h
      obtain ⟨v, h1, h2⟩ := r.get q
      refine ⟨v, ?_, h2⟩
      unfold start
      rw [List.getElem?_append_left (by simpa [← hl] using hi), List.getElem?_map, h1]
      rfl
  · rw [List.getElem?_append_right (by simpa using hi)] at h
    obtain ⟨_, e⟩ := List.getElem?_eq_some_iff.mp h
    simp at e
theorem fnd_ok (F : FunD G.K x qual params body scope dvs kws f fd) (S : FnScope N ps scope)
    (hb : ∀ (cdv : Value) (A : Around) (outer : List Env) (s : Shared) (H : Hp) (E : XK), Room k (A.deeper (envOfC qual scope s.heap.objs.size f cdv)) →
      Cc G (cxOf (L2.CX P w) P w G.K mg base N qual scope f cdv A outer s H E) (WF E) → SSs G (cxOf (L2.CX P w) P w G.K mg base N qual scope f cdv A outer s H E) (WF E) body ms) :
    FnOk P w G.K mg base (L2.CX P w) (k + 1) f fd ps (spF G (bodyRun N.length ms) ps.length) := by
  refine F.ok S (fun vs H Q E h => ?_) (fun cdv A outer s H vs Q E hr h => ?_)
  · obtain ⟨_, _, _, h, _⟩ := h
    exact h
  · obtain ⟨ρ, St, ds, hn, rl, rv, p⟩ := h
    have cc : Cc G (cxOf (L2.CX P w) P w G.K mg base N qual scope f cdv A outer s H E) (WF E) := ⟨rfl, takes_of rfl rfl rfl rfl, passes_of rfl, rfl, S.nd⟩
    refine ⟨_, hb cdv A outer s H E hr cc, ρ, _, St, rl, re_start rv, ?_⟩
    unfold bodyRun at p
    cases q : ms (ds.map some ++ List.replicate (N.length - ds.length) none) St with
    | rt d S1 => rw [q] at p; exact p
    | nx σ1 S1 => rw [q] at p; exact fun ρ1 H1 σ' l1 rl1 re1 => p ρ1 H1 .non l1 rl1 .non
    | exc x σ1 S1 => rw [q] at p; exact fun ρ1 H1 σ' c dd l1 rl1 re1 rx => p ρ1 H1 c dd l1 rl1 rx
    | bk σ1 S1 => rw [q] at p; exact p.elim
    | ct σ1 S1 => rw [q] at p; exact p.elim
    | bad => rw [q] at p; exact p.elim
end
/-- a call with the defaults dd filled up: n parameters -/
def callW (n : Nat) (dd : List D) (m : FN) : FN := fun xs S => if xs.length + dd.length = n then m (xs ++ dd) S else .bad
/-- an object of the class c is made by its __init__ -/
def makeW (c : Nat) (m : FN) : FN := fun xs S => (m (.ref S.size :: xs) (S.push (.ins c []))).bind fun r S1 => match r with | .non => .ok (.ref S.size) S1 | _ => .bad
/-- what a callable promises: any arguments, by its run -/
def spG (G : Gx) (m : FN) : Sp := fun vs H Q E => ∃ ρ S ds, Rl G ρ S H ∧ RVs G ρ H ds vs ∧ Post G ρ H (m ds S) Q E
abbrev Cal (G : Gx) (P : Program) (w : World) (mg : Str → Option Value) (base : Heap) (k : Nat) (f : Addr) (m : FN) : Prop := FnR P w G.K mg base (L2.CX P w) k f (spG G m)
theorem cal_def {G : Gx} {P : Program} {w : World} {mg : Str → Option Value} {base : Heap} {k : Nat} {f : Addr} {fd : FuncData} {ps : List Str} {m : FN} {n : Nat} {dvs : List V} {ds : List Value} {dd : List D}
    (F : FnOk P w G.K mg base (L2.CX P w) k f fd ps (spF G m n)) (hn : n = ps.length) (hb : Binds G.K fd ps ds) (hd : Vals dvs ds) (hdd : ∀ ρ H, RVs G ρ H dd dvs) : Cal G P w mg base k f (callW n dd m) := by
  intro A outer s H us vs Q E hr e0 r h
  obtain ⟨ρ, S, es, rl, rv, p⟩ := h
  unfold callW at p
  by_cases hl : es.length + dd.length = n
  · rw [if_pos hl] at p
    have hlen : vs.length + dvs.length = n := by rw [← rv.length, ← (hdd ρ H).length]; exact hl
    have KX : G.K.In s.heap := e0.mod.kin.keeps fun b o e => (e0.bs b o e).1
    refine F.run A outer s H ⟨us, []⟩ (us ++ ds) (vs ++ dvs) Q E hr e0 (hb s us KX ?_) (r.append hd) ⟨ρ, S, es ++ dd, ?_, rl, rv.append (hdd ρ H), p⟩
    · rw [List.length_append, ← r.length, ← hd.length, ← hn]; exact hlen
    · rw [List.length_append]; exact hlen
  · rw [if_neg hl] at p
    exact p.elim
section
variable {G : Gx} {X : Cx} {W : WX} {k : Nat} {f C : Addr} {m : FN} {n : Nat} {dd : List D}
theorem run_fnRS {pins : List (Addr × Obj)} {σ : St} {H : Hp} {s : Shared} {Q : VK} {us : List Value} {vs : List V} {CX : CXT} {sp : Sp} {E : XK} (F : FnR X.prog X.w X.K X.mg X.base CX k f sp) (hr : Room k X.A) (hx : PassesAt CX X σ E)
    (I : Inv X pins σ H s) (r : Vals vs us) (h : sp vs H Q E) : wpAny (model X.prog X.w) X.A (call (.ref f) us) (EP X pins σ Q) X.xe s := by
  refine wpAny_call (codeAny_mono (F X.A X.stack s H us vs Q E hr I.env0 r h) fun r s' hq => ?_)
  cases r with
  | error e => exact hx pins H s e s' I hq
  | ok fl =>
    cases fl with
    | ret u => exact I.after hq
    | next => exact False.elim hq
    | brk => exact False.elim hq
    | cont => exact False.elim hq
theorem fns_cal (cc : Cc G X W) (F : Cal G X.prog X.w X.mg X.base k f m) (hr : Room k X.A) : FnS G X W (.ref f) m := by
  intro pins s σ H xs us Q ρ S es I r rl rv p
  have F' : FnR X.prog X.w X.K X.mg X.base (L2.CX X.prog X.w) k f (spG G m) := by rw [cc.k]; exact F
  exact run_fnRS (E := EW W σ) F' hr (passAt cc.tk σ) I r ⟨ρ, S, es, rl, rv, p⟩
theorem run_makeS {pins : List (Addr × Obj)} {σ : St} {H : Hp} {s : Shared} {Q : VK} {us : List Value} {vs : List V} {CX : CXT} {sp : Sp} {E : XK} (M : Mk X.K C f) (F : FnR X.prog X.w X.K X.mg X.base CX k f sp) (hr : Room (k + 1) X.A)
    (hx : PassesAt CX X σ E) (I : Inv X pins σ H s) (r : Vals vs us)
    (h : ∀ x dx, H x = none → H dx = none → dx ≠ x → sp (.ref x :: vs) (upd (upd H dx (.own x)) x (.ins C dx [])) (fun v H2 => v = .non ∧ Q (.ref x) H2) E) :
    wpAny (model X.prog X.w) X.A (call (.ref C) us) (EP X pins σ Q) X.xe s := by
  have hq := h (s.heap.objs.size + 1) s.heap.objs.size (I.hok.fresh (Nat.le_succ _)) (I.hok.fresh (Nat.le_refl _)) (Nat.ne_of_lt (Nat.lt_succ_self _))
  have I2 := Inv.made (C := C) I
  have r2 : Vals (V.ref (s.heap.objs.size + 1) :: vs) (Value.ref (s.heap.objs.size + 1) :: us) := .cons rfl r
  refine wpAny_call (make_map (f := f) I.kIn M.makes M.init (beq_iff_eq.mp M.fn) (codeAny_mono (F _ X.stack _ _ (Value.ref (s.heap.objs.size + 1) :: us) _ _ E (hr.make C us [])
    (I2.env0.make C us []) r2 hq) fun r s' hq' => ?_))
  cases r with
  | error e => exact hx pins _ _ e s' I2 hq'
  | ok fl =>
    cases fl with
    | ret u =>
      obtain ⟨v, H', I3, rv, ev, q3⟩ := I2.after hq'
      subst ev
      exact ⟨rv, ⟨V.ref (s.heap.objs.size + 1), H', I3, rfl, q3⟩⟩
    | next => exact False.elim hq'
    | brk => exact False.elim hq'
    | cont => exact False.elim hq'
theorem fns_make {c : Nat} (cc : Cc G X W) (hC : G.cls c = some C) (M : Mk X.K C f) (F : Cal G X.prog X.w X.mg X.base k f m) (hr : Room (k + 1) X.A) : FnS G X W (.ref C) (makeW c m) := by
  intro pins s σ H xs us Q ρ S es I r rl rv p
  unfold makeW at p
  have F' : FnR X.prog X.w X.K X.mg X.base (L2.CX X.prog X.w) k f (spG G m) := by rw [cc.k]; exact F
  refine run_makeS (E := EW W σ) M F' hr (passAt cc.tk σ) I r fun a dx ha hdx hne => ?_
  have ha1 : L2.upd H dx (.own a) a = none := by rw [upd_ne (Ne.symm hne)]; exact ha
  have l1 : Le G ρ H ρ (L2.upd H dx (.own a)) := Le.new hdx
  have rl1 := rl.other (o := .own a) hdx
  have l2 : Le G ρ (L2.upd H dx (.own a)) (ρ.push a) (L2.upd (L2.upd H dx (.own a)) a (.ins C dx [])) := Le.push ha1
  have rl2 : Rl G (ρ.push a) (S.push (.ins c [])) (L2.upd (L2.upd H dx (.own a)) a (.ins C dx [])) := rl1.push ha1 (.ins hC .nil)
  have l12 := l1.trans l2
  refine ⟨ρ.push a, S.push (.ins c []), .ref S.size :: es, rl2, .cons (RV.new rl1) (rv.mono l12), ?_⟩
  refine PostR.bind (R := RV G) (PostR.le p l12) fun ρ3 H3 S3 d v l3 rl3 rv3 p3 => ?_
  cases rv3 with
  | non =>
    refine ⟨rfl, post_ok (S := S3) p3 rl3 (.ref (pre_get l3.pre ?_))⟩
    rw [← rl1.len]
    simp [Wd.push]
  | _ => exact False.elim p3
end
section
variable {G : Gx} {X : Cx} {W : WX} {e o : Expr} {es : List Expr} {x name : Str} {p pos apos : Pos} {f : Addr} {m : FN} {ma : MA} {mo mv : ME}
/-- f(e, ..) -/
theorem se_call (hc : FnS G X W (.ref f) m) (hg : Gl X x) (hm : X.mg x = some (.ref f)) (hk : PySem.W.keepIn X.K (.ref f) = true) (ha : SA G X W (e :: es) ma) (hdb : (x == ("__debug__" : Str)) = false := by decide)
    (he : starEach (e :: es) X.env = (false, eval e X.env) :: starEach es X.env := by rfl) (hpl : (backTo pos (starEach es X.env)).any (·.1) = false := by rfl) : SE G X W (.Call (.Name x p) (e :: es) [] pos) (eFn m ma) := by
  refine ⟨fun pins s σ H Q I ⟨ρ, σs, S, rl, re, p⟩ => ?_⟩
  refine wpAny_Call_Name_kw (ld_glob I hg hm ?_ hdb)
  refine PySem.W.callWith_K (h₀ := X.base) I.ok.mod.kin hk (ha.go I rl re p fun us s1 xs H1 ρ1 S1 ds I1 rx l1 rl1 re1 rv1 p1 => ⟨I1.kIn, hc pins s1 σ H1 xs us Q ρ1 S1 ds I1 rx rl1 rv1 p1⟩) he hpl
theorem se_call0 (hc : FnS G X W (.ref f) m) (hg : Gl X x) (hm : X.mg x = some (.ref f)) (hk : PySem.W.keepIn X.K (.ref f) = true) (hdb : (x == ("__debug__" : Str)) = false := by decide) : SE G X W (.Call (.Name x p) [] [] pos) (eFn m (aList [])) := by
  refine ⟨fun pins s σ H Q I ⟨ρ, σs, S, rl, re, p⟩ => ?_⟩
  refine wpAny_Call_Name_kw (ld_glob I hg hm ?_ hdb)
  exact PySem.W.callWith_K0 I.kIn hk (hc pins s σ H [] [] Q ρ S [] I .nil rl .nil p)
/-- o.m(e, ..): by the class of o -/
abbrev Disp := Nat → Option FN
def eMeth (ds : Disp) (fi : Nat) (mo : ME) (ma : MA) : ME := fun σ S => (mo σ S).bind fun o S1 => match o with
  | .ref i => (match S1.get i with
    | some (.ins c fs) => (match ds c, fs.lookup fi with
      | some g, none => (ma σ S1).bind fun xs S2 => g (.ref i :: xs) S2
      | _, _ => .bad)
    | _ => .bad)
  | _ => .bad
structure MethS (G : Gx) (X : Cx) (W : WX) (name : Str) (c : Nat) (g : FN) : Prop where
  ex : ∃ C f, G.cls c = some C ∧ Cls X.K C ∧ Meth X.K C name f ∧ FnS G X W (.ref f) g
theorem rfs_lookup {ρ : Wd} {H : Hp} {fi : Nat} : ∀ {fs : List (Nat × D)} {us : List (Str × V)}, RFs G ρ H fs us → (fs.lookup fi = none ∧ us.lookup (G.fld fi) = none) ∨ ∃ d v, fs.lookup fi = some d ∧ us.lookup (G.fld fi) = some v ∧ RV G ρ H d v
  | _, _, .nil => .inl ⟨rfl, rfl⟩
  | _, _, .cons (n := n) (d := d) (v := v) (fs := fs) (us := us) r t => by
    by_cases h : fi = n
    · subst h
      exact .inr ⟨d, v, by simp [List.lookup], by simp [List.lookup], r⟩
    · have h1 : (fi == n) = false := by simp [h]
      have h2 : (G.fld fi == G.fld n) = false := beq_eq_false_iff_ne.mpr fun e => h (G.inj _ _ e)
      simp only [List.lookup, h1, h2]
      exact rfs_lookup t
theorem se_meth {ds : Disp} {fi : Nat} {pl : Sem Bool} (cc : Cc G X W) (he : SE G X W o mo) (hf : G.fld fi = name) (hd : ∀ c g, ds c = some g → MethS G X W name c g) (ha : SA G X W (e :: es) ma)
    (hst : starEach (e :: es) X.env = (false, eval e X.env) :: starEach es X.env := by rfl) (hpl : (backTo pos (starEach es X.env)).any (·.1) = false := by rfl)
    (ht : eval (.Call (.Attribute o name apos) (e :: es) [] pos) X.env = (do
      let ov ← eval o X.env
      standAt apos.atName
      let (f, first) ← holding [ov] (getMethod ov name pl)
      callWith pos f first (backTo pos (starEach (e :: es) X.env)) (backToKw pos (keywordEach [] X.env))) := by rfl) : SE G X W (.Call (.Attribute o name apos) (e :: es) [] pos) (eMeth ds fi mo ma) := by
  refine ⟨fun pins s σ H Q I ⟨ρ, σs, S, rl, re, p⟩ => ?_⟩
  refine PySem.W.methodCall_KW (pl := pl) (he.go I rl re p fun u s1 x H1 ρ1 S1 d I1 rx l1 rl1 re1 rv1 p1 => ?_) ht
  cases rv1 with
  | @ref i a hi =>
    obtain rfl : u = Value.ref a := rx
    cases q : S1.get i with
    | none => simp only [q] at p1; exact p1.elim
    | some ob =>
      obtain ⟨h, hu, ro⟩ := rl1.at hi q
      cases ro with
      | @ins c C dx fs us hC hfs =>
        simp only [q] at p1
        cases q2 : ds c with
        | none => simp only [q2] at p1; exact p1.elim
        | some g =>
          rcases rfs_lookup (fi := fi) hfs with ⟨h1, h2⟩ | ⟨d, v, h1, h2, _⟩
          · simp only [q2, h1] at p1
            obtain ⟨C', f, hC', hcl, hmt, hfn⟩ := (hd c g q2).ex
            rw [hC] at hC'
            cases hC'
            refine getmeth_ok I1 hu hcl hmt (by rw [← hf]; exact h2) ?_
            refine PySem.W.callWith_K (first := [.ref a]) (h₀ := X.base) I.ok.mod.kin hmt.kp (ha.go I1 rl1 re1 p1 fun us s2 xs H2 ρ2 S2 ds I2 rx2 l2 rl2 re2 rv2 p2 => ⟨I2.kIn, ?_⟩) hst hpl
            exact hfn pins s2 σ H2 (.ref a :: xs) (.ref a :: us) Q ρ2 S2 (.ref i :: ds) I2 (.cons rfl rx2) rl2 (.cons (.ref (pre_get l2.pre hi)) rv2) p2
          · simp only [q2, h1] at p1
            exact p1.elim
      | _ => simp only [q] at p1; exact p1.elim
  | _ => exact False.elim p1
theorem se_meth0 {ds : Disp} {fi : Nat} {pl : Sem Bool} (cc : Cc G X W) (he : SE G X W o mo) (hf : G.fld fi = name) (hd : ∀ c g, ds c = some g → MethS G X W name c g)
    (ht : eval (.Call (.Attribute o name apos) [] [] pos) X.env = (do
      let ov ← eval o X.env
      standAt apos.atName
      let (f, first) ← holding [ov] (getMethod ov name pl)
      callWith pos f first (backTo pos (starEach [] X.env)) (backToKw pos (keywordEach [] X.env))) := by rfl) : SE G X W (.Call (.Attribute o name apos) [] [] pos) (eMeth ds fi mo (aList [])) := by
  refine ⟨fun pins s σ H Q I ⟨ρ, σs, S, rl, re, p⟩ => ?_⟩
  refine PySem.W.methodCall_KW (pl := pl) (he.go I rl re p fun u s1 x H1 ρ1 S1 d I1 rx l1 rl1 re1 rv1 p1 => ?_) ht
  cases rv1 with
  | @ref i a hi =>
    obtain rfl : u = Value.ref a := rx
    cases q : S1.get i with
    | none => simp only [q] at p1; exact p1.elim
    | some ob =>
      obtain ⟨h, hu, ro⟩ := rl1.at hi q
      cases ro with
      | @ins c C dx fs us hC hfs =>
        simp only [q] at p1
        cases q2 : ds c with
        | none => simp only [q2] at p1; exact p1.elim
        | some g =>
          rcases rfs_lookup (fi := fi) hfs with ⟨h1, h2⟩ | ⟨d, v, h1, h2, _⟩
          · simp only [q2, h1] at p1
            obtain ⟨C', f, hC', hcl, hmt, hfn⟩ := (hd c g q2).ex
            rw [hC] at hC'
            cases hC'
            refine getmeth_ok I1 hu hcl hmt (by rw [← hf]; exact h2) ?_
            exact PySem.W.callWith_K0 (first := [.ref a]) I1.kIn hmt.kp (hfn pins s1 σ H1 [.ref a] [.ref a] Q ρ1 S1 [.ref i] I1 (.cons rfl .nil) rl1 (.cons (.ref hi) .nil) p1)
          · simp only [q2, h1] at p1
            exact p1.elim
      | _ => simp only [q] at p1; exact p1.elim
  | _ => exact False.elim p1
/-- o.f: a field (none), a property (its getter) -/
abbrev ADisp := Nat → Option (Option FN)
def noExc (r : Res D) : Res D := match r with | .exc _ _ => .bad | r => r
def attrF (ds : ADisp) (fi : Nat) (o : D) (S : Store) : Res D := match o with
  | .ref i => (match S.get i with
    | some (.ins c fs) => (match ds c with
      | some none => (match fs.lookup fi with | some d => .ok d S | none => .bad)
      | some (some g) => noExc (g [.ref i] S)
      | none => .bad)
    | _ => .bad)
  | _ => .bad
structure FieldS (G : Gx) (X : Cx) (name : Str) (c : Nat) : Prop where
  ex : ∃ C, G.cls c = some C ∧ Cls X.K C ∧ NoAttr X.K C name
/-- the getter's promise -/
structure PropS (G : Gx) (X : Cx) (name : Str) (c : Nat) (g : FN) : Prop where
  ex : ∃ C p f k, G.cls c = some C ∧ Cls X.K C ∧ PropOf X.K C name p f ∧ FnR X.prog X.w X.K X.mg X.base (L2.CX X.prog X.w) k f (spG G g) ∧ Room (k + 1) X.A
theorem getprop_okR {C p g a dx : Addr} {fs : List (Str × V)} {f : Str} {k : Nat} {CX : CXT} {sp : Sp} {E : XK} {pins : List (Addr × Obj)} {σ : St} {H : Hp} {s : Shared} {Q : VK} {b : Bool} {E' : Value → Shared → Prop} (I : Inv X pins σ H s) (ea : H a = some (.ins C dx fs)) (c : Cls X.K C) (hp : PropOf X.K C f p g)
    (F : FnR X.prog X.w X.K X.mg X.base CX k g sp) (hr : Room (k + 1) X.A) (hx : Passes CX X.nox E) (h : sp [.ref a] H Q E) :
    wpAny (model X.prog X.w) X.A (getAttr (.ref a) f b) (EP X pins σ Q) E' s := by
  obtain ⟨mA, O, _, _, _, _⟩ := ins_get I.hok ea
  obtain ⟨od, J, _⟩ := O.look
  obtain ⟨rest, hrec⟩ := hp.rec_
  have I1 := I.tok (s.toks + 1)
  have hc : (PySem.W.clsIn X.K C).isSome = true := by
    obtain ⟨cd, hc, _⟩ := PySem.W.any_some c.hd
    rw [hc]
    rfl
  refine PySem.W.get_bind I.kIn J (PySem.W.plainGet_of (c.get f)).1 (PySem.W.findObj_data hc hp.at_ hp.get hp.tak) (PySem.W.plainGet_of (c.get f)).2 (wpAny_call (PySem.W.prop_get (s := { s with toks := s.toks + 1 }) I.kIn hrec ?_))
  refine codeAny_mono (F X.A.in1 X.stack { s with toks := s.toks + 1 } H [.ref a] [.ref a] Q E hr.in1 I1.env0.in1 (.cons rfl .nil) h) fun r s' hq => ?_
  cases r with
  | error er => exact False.elim (hx pins σ H { s with toks := s.toks + 1 } er s' (I1.wish _) hq)
  | ok fl =>
    cases fl with
    | ret u =>
      obtain ⟨v, H', I3, rv, q3⟩ := I1.after hq
      show wpAny _ _ (handedOut u) _ _ _
      rw [PySem.W.handedOut_of (handed_of rv)]
      exact wpAny_pure ⟨v, H', I3, rv, q3⟩
    | next => exact False.elim hq
    | brk => exact False.elim hq
    | cont => exact False.elim hq
theorem passNox {X : Cx} : Passes (L2.CX X.prog X.w) X.nox E0 := fun _ _ _ _ _ _ _ h => by
  obtain ⟨_, _, _, _, _, _, _, _, _, _, _, _, z⟩ := h
  exact z.elim
theorem se_attr {ds : ADisp} {fi : Nat} (cc : Cc G X W) (he : SE G X W o mo) (hf : G.fld fi = name) (h1 : ∀ c, ds c = some none → FieldS G X name c) (h2 : ∀ c g, ds c = some (some g) → PropS G X name c g)
    (hab : attributeBase o name X.env (eval o X.env) = eval o X.env := by rfl) : SE G X W (.Attribute o name pos) (eUn (attrF ds fi) mo) := by
  refine ⟨fun pins s σ H Q I ⟨ρ, σs, S, rl, re, p⟩ => ?_⟩
  refine attr_of hab (he.go I rl re p fun u s1 x H1 ρ1 S1 d I1 rx l1 rl1 re1 rv1 p1 => ?_)
  cases rv1 with
  | @ref i a hi =>
    obtain rfl : u = Value.ref a := rx
    unfold attrF at p1
    cases q : S1.get i with
    | none => simp only [q] at p1; exact p1.elim
    | some ob =>
      obtain ⟨h, hu, ro⟩ := rl1.at hi q
      cases ro with
      | @ins c C dx fs us hC hfs =>
        simp only [q] at p1
        cases q2 : ds c with
        | none => simp only [q2] at p1; exact p1.elim
        | some og =>
          cases og with
          | none =>
            rcases rfs_lookup (fi := fi) hfs with ⟨e1, e2⟩ | ⟨d, v, e1, e2, rv⟩
            · simp only [q2, e1] at p1
              exact p1.elim
            · simp only [q2, e1] at p1
              obtain ⟨C', hC', hcl, hna⟩ := (h1 c q2).ex
              rw [hC] at hC'
              cases hC'
              exact getattr_ok I1 hu hcl hna (by rw [← hf]; exact e2) fun u' s2 I2 ru => ⟨v, H1, I2, ru, post_ok p1 rl1 rv⟩
          | some g =>
            simp only [q2] at p1
            obtain ⟨C', pa, f, k, hC', hcl, hpo, F, hr⟩ := (h2 c g q2).ex
            rw [hC] at hC'
            cases hC'
            refine getprop_okR I1 hu hcl hpo F hr passNox ⟨ρ1, S1, [.ref i], rl1, .cons (.ref hi) .nil, ?_⟩
            cases q3 : g [.ref i] S1 with
            | ok d2 S2 => rw [q3] at p1; exact p1
            | exc x S2 => rw [q3] at p1; exact False.elim p1
            | bad => rw [q3] at p1; exact p1
      | _ => simp only [q] at p1; exact p1.elim
  | _ => exact False.elim p1
/-- o.f = e -/
def putN (n : Nat) (d : D) : List (Nat × D) → List (Nat × D)
  | [] => [(n, d)]
  | (k, e) :: r => if k = n then (k, d) :: r else (k, e) :: putN n d r
theorem putN_rel {ρ : Wd} {H : Hp} {fi : Nat} {d : D} {v : V} (rv : RV G ρ H d v) : ∀ {fs : List (Nat × D)} {us : List (Str × V)}, RFs G ρ H fs us → RFs G ρ H (putN fi d fs) (putF (G.fld fi) v us)
  | _, _, .nil => .cons rv .nil
  | _, _, .cons (n := n) (d := e) (v := y) (fs := fs) (us := us) r t => by
    unfold putN putF
    by_cases h : n = fi
    · subst h
      rw [if_pos rfl, if_pos rfl]
      exact .cons rv t
    · rw [if_neg h, if_neg fun q => h (G.inj _ _ q)]
      exact .cons r (putN_rel rv t)
def fldSet (ok : Nat → Bool) (fi : Nat) (o v : D) (S : Store) : Option Store := match o with
  | .ref i => (match S.get i with
    | some (.ins c fs) => if ok c && decide (fs.length < 900) then some (S.set i (.ins c (putN fi v fs))) else none
    | _ => none)
  | _ => none
def sFld (ok : Nat → Bool) (fi : Nat) (mo mv : ME) : MS := fun σ S => match (mv σ S).bind fun v S1 => (mo σ S1).bind fun o S2 => (match fldSet ok fi o v S2 with | some S3 => Res.ok () S3 | none => .bad) with
  | .ok _ S3 => .nx σ S3
  | .exc x S3 => .exc x σ S3
  | .bad => .bad
theorem ss_fld {ok : Nat → Bool} {fi : Nat} {pos' : Pos} (cc : Cc G X W) (ha : SE G X W o mo) (hv : SE G X W e mv) (hf : G.fld fi = name) (hok : ∀ c, ok c = true → FieldS G X name c)
    (hs : swapsWith e (some (.Attribute o name pos')) pos.line X.env = pure false := by rfl) : SS G X W (.Assign [.Attribute o name pos'] e pos) (sFld ok fi mo mv) := by
  refine ss_of (ps_fld ha hv hs) fun σ H Dn ρ σs S rl re p => ?_
  have p0 : PostR (α := Unit) (β := Unit) G (fun _ _ _ _ => True) ρ H ((mv σs S).bind fun v S1 => (mo σs S1).bind fun o S2 => (match fldSet ok fi o v S2 with | some S3 => Res.ok () S3 | none => .bad)) (fun _ H' => Dn.nx σ H') (EW W σ) := by
    unfold sFld at p
    cases q : ((mv σs S).bind fun v S1 => (mo σs S1).bind fun o S2 => (match fldSet ok fi o v S2 with | some S3 => Res.ok () S3 | none => .bad)) with
    | ok x S3 => rw [q] at p; exact fun ρ1 H1 _ l1 rl1 _ => p ρ1 H1 σ l1 rl1 (re.mono l1)
    | exc x S3 => rw [q] at p; exact fun ρ1 H1 c dd l1 rl1 rx => p ρ1 H1 σ c dd l1 rl1 (re.mono l1) rx
    | bad => rw [q] at p; exact p.elim
  refine ⟨ρ, σs, S, rl, re, PostR.bind (R := RV G) p0 fun ρ1 H1 S1 d y l1 rl1 rv1 p1 => ?_⟩
  refine ⟨ρ1, σs, S1, rl1, re.mono l1, PostR.bind (R := RV G) p1 fun ρ2 H2 S2 od x l2 rl2 rv2 p2 => ?_⟩
  cases rv2 with
  | @ref i a hi =>
    unfold fldSet at p2
    cases q : S2.get i with
    | none => simp only [q] at p2; exact p2.elim
    | some ob =>
      obtain ⟨h, hu, ro⟩ := rl2.at hi q
      cases ro with
      | @ins c C dx fs us hC hfs =>
        simp only [q] at p2
        by_cases hk : (ok c && decide (fs.length < 900)) = true
        · rw [if_pos hk] at p2
          rw [Bool.and_eq_true, decide_eq_true_eq] at hk
          obtain ⟨C', hC', hcl, hna⟩ := (hok c hk.1).ex
          rw [hC] at hC'
          cases hC'
          refine ⟨a, C, dx, us, rfl, hu, hcl, hna, by rw [← hfs.length]; omega, ?_⟩
          rw [← hf]
          exact p2 ρ2 _ () (rl2.leUpd hi hu trivial) (rl2.set hi q hu trivial (.ins hC (putN_rel (rv1.mono l2) hfs))) trivial
        · rw [if_neg hk] at p2
          exact p2.elim
      | _ => simp only [q] at p2; exact p2.elim
  | _ => exact False.elim p2
end
end L2.Mi

set_option Elab.async false
set_option linter.all false
set_option maxRecDepth 100000
set_option maxHeartbeats 4000000
/-! Mini, 7: types, operators of own classes, instances called. -/
namespace L2.Mi
open PySem PySem.Spec PyProof.Rows

def tagOf (S : Store) : D → Option Tag
  | .non => some (.b "NoneType")
  | .bl _ => some (.b "bool")
  | .int _ => some (.b "int")
  | .str _ => some (.b "str")
  | .tup _ => some (.b "tuple")
  | .kt _ => some (.b "tuple")
  | .lv _ => some (.b "list")
  | .dv _ _ => none
  | .ref i => (match S.get i with
    | some (.lst _) => some (.b "list")
    | some (.lck (.lst _)) => some (.b "list")
    | some (.dic _ _) => some (.b "dict")
    | some (.ins c _) => some (.o c)
    | _ => none)
  | _ => none
def clsTag : D → Option Tag
  | .ty n => some (.b n)
  | .cl c => some (.o c)
  | _ => none
section
variable {G : Gx} {X : Cx} {W : WX} {ρ : Wd} {S : Store} {H : Hp} {d : D} {x : V} {t : Tag}
theorem tag_rel (rl : Rl G ρ S H) (rv : RV G ρ H d x) (h : tagOf S d = some t) : ∃ tv, tagVal G.cls t = some tv ∧ TyX G.K H x tv := by
  cases rv with
  | non => cases h; exact ⟨_, rfl, .base .non⟩
  | bl b => cases h; exact ⟨_, rfl, .base (.bl b)⟩
  | int i => cases h; exact ⟨_, rfl, .base (.int i)⟩
  | str l => cases h; exact ⟨_, rfl, .base (.str _)⟩
  | tup ht hr => cases h; exact ⟨_, rfl, .base (.tup ht)⟩
  | kt ht hr =>
    cases h
    rcases ht with (ht | ⟨o, ht⟩) | ⟨o, its, n, hk, hc, _⟩
    · cases ht
    · cases ht
    · exact ⟨_, rfl, .kTuple hk hc⟩
  | lv n ht hr => cases h; exact ⟨_, rfl, .base (.lst ht)⟩
  | @ref i a hi =>
    unfold tagOf at h
    cases q : S.get i with
    | none => simp only [q] at h; cases h
    | some o =>
      obtain ⟨u, hu, ro⟩ := rl.at hi q
      cases ro with
      | lst r => simp only [q] at h; cases h; exact ⟨_, rfl, .base (.lst hu)⟩
      | dK r => simp only [q] at h; cases h; exact ⟨_, rfl, .base (.dK hu)⟩
      | dT r => simp only [q] at h; cases h; exact ⟨_, rfl, .base (.dT hu)⟩
      | @ins c C dx fs us hC hfs =>
        simp only [q] at h
        cases h
        have z := G.ci c C hC
        exact ⟨.ref C, by show (G.cls c).map Value.ref = _; rw [hC]; rfl, .base (.ins hu z.cl z.ha z.hn z.htk z.hm)⟩
      | lck r =>
        cases r with
        | lst r => simp only [q] at h; cases h; exact ⟨_, rfl, .base (.frz hu)⟩
        | _ => simp only [q] at h; cases h
  | _ => cases h
theorem clsTag_rel (rv : RV G ρ H d x) (h : clsTag d = some t) : ∃ tv, tagVal G.cls t = some tv ∧ ClsV x tv := by
  cases rv with
  | ty n => cases h; exact ⟨_, rfl, .ty n⟩
  | @cl c C hC => cases h; exact ⟨.ref C, by show (G.cls c).map Value.ref = _; rw [hC]; rfl, .own C⟩
  | _ => cases h
end
def isiF (isi : Tag → Tag → Option Bool) : FN := fun ds S => match ds with
  | [d, c] => (match tagOf S d, clsTag c with
    | some t, some u => (match isi t u with | some b => .ok (.bl b) S | none => .bad)
    | _, _ => .bad)
  | _ => .bad
section
variable {G : Gx} {X : Cx} {W : WX}
theorem fns_isi (cc : Cc G X W) : FnS G X W (.builtin "isinstance") (isiF G.isi) := FnS.of call_isi fun ρ S H ds xs Q E rl r p => by
  unfold isiF at p
  split at p
  · rename_i d c
    obtain ⟨x, y, rfl, h1, h2⟩ := rvs2 r
    cases q1 : tagOf S d with
    | none => simp only [q1] at p; exact p.elim
    | some t =>
      cases q2 : clsTag c with
      | none => simp only [q1, q2] at p; exact p.elim
      | some u =>
        cases q3 : G.isi t u with
        | none => simp only [q1, q2, q3] at p; exact p.elim
        | some b =>
          simp only [q1, q2, q3] at p
          obtain ⟨tv, e1, ty⟩ := tag_rel rl h1 q1
          obtain ⟨uv, e2, cv⟩ := clsTag_rel h2 q2
          exact ⟨x, y, tv, uv, b, rfl, cv, by rw [cc.k]; exact ty, by rw [cc.k]; exact G.isi_ok t u b tv uv q3 e1 e2, post_ok p rl (.bl b)⟩
  · exact p.elim
/-- a built-in class as a value -/
theorem se_bltn {x : Str} {n : String} {pos : Pos} (hg : Gl X x) (hm : X.mg x = none) (hv : bootBuiltins x = some (.type n)) (hn : x ≠ "__name__" := by decide) (hd : (x == ("__debug__" : Str)) = false := by decide) : SE G X W (.Name x pos) (eC (.ty n)) :=
  se_of (pe_bltn hg hm hv (v := .ty n) rfl hn hd) fun _ _ _ _ _ _ rl _ p => post_ok p rl (.ty n)
/-- an own class as a value -/
theorem se_cls {x : Str} {c : Nat} {C : Addr} {pos : Pos} (hg : Gl X x) (hm : X.mg x = some (.ref C)) (hC : G.cls c = some C) (hdb : (x == ("__debug__" : Str)) = false := by decide) : SE G X W (.Name x pos) (eC (.cl c)) :=
  se_of (pe_glob hg hm (v := .ref C) rfl hdb) fun _ _ _ _ _ _ rl _ p => post_ok p rl (.cl hC)

/-! ### operators of own classes -/
theorem inst_at {ρ : Wd} {S : Store} {H : Hp} {i c : Nat} {a : Addr} {fs : List (Nat × D)} (rl : Rl G ρ S H) (hi : ρ.v[i]? = some a) (q : S.get i = some (.ins c fs)) : ∃ C dx us, G.cls c = some C ∧ H a = some (.ins C dx us) := by
  obtain ⟨u, hu, ro⟩ := rl.at hi q
  cases ro with
  | @ins c C dx fs us hC hfs => exact ⟨C, dx, us, hC, hu⟩
theorem cmpBack_of {Q : Value → Shared → Prop} {x : V} {v : Value} {s : Shared} (r : RelV x v) (q : Q v s) : PySem.W.CmpBack Q v s := by
  cases x with
  | non => cases r; exact q
  | bl _ => cases r; exact q
  | int _ => obtain ⟨t, rfl⟩ := r; exact q
  | str _ => obtain ⟨t, rfl⟩ := r; exact q
  | byt _ => obtain ⟨t, rfl⟩ := r; exact q
  | flt _ => obtain ⟨t, rfl⟩ := r; exact q
  | ref _ => cases r; exact q
  | ty _ => cases r; exact q
/-- x op y by the class of x; y an int or of the same class -/
def ownB (ds : Disp) : D → D → Store → Res D := fun x y S => match x with
  | .ref i => (match S.get i with
    | some (.ins c _) => (match ds c with
      | some g => (match y with
        | .int _ => g [.ref i, y] S
        | .ref j => (match S.get j with | some (.ins c' _) => if c' = c then g [.ref i, y] S else .bad | _ => .bad)
        | _ => .bad)
      | none => .bad)
    | _ => .bad)
  | _ => .bad
structure OpClsS (G : Gx) (X : Cx) (W : WX) (op : Operator) (c : Nat) (g : FN) : Prop where
  ex : ∃ C f rc, G.cls c = some C ∧ PySem.W.selfFirst X.K C = true ∧ PySem.W.findIn X.K (.ref C) (PySem.dunder op.info.2) = some (some (.ref f)) ∧ PySem.W.isFn X.K (.ref f) = true ∧
    PySem.W.findIn X.K (.ref C) (dunderR op.info.2) = some rc ∧ (rc = none ∨ ∃ g : Addr, rc = some (.ref g)) ∧ (∃ fo, PySem.W.findIn X.K (.type "int") (PySem.dunder op.info.2) = some fo) ∧
    (∃ ro, PySem.W.findIn X.K (.type "int") (dunderR op.info.2) = some ro) ∧ PySem.W.subIn X.K (.type "int") (.ref C) = some false ∧ FnS G X W (.ref f) g
theorem ops_own {op : Operator} {ds : Disp} (hd : ∀ c g, ds c = some g → OpClsS G X W op c g) : OpS G X W (binaryOp op) (ownB ds) := by
  intro pins s σ H x y v u Q ρ S d1 d2 I rx ry rl r1 r2 p
  cases r1 with
  | @ref i a hi =>
    obtain rfl : v = Value.ref a := rx
    unfold ownB at p
    cases q : S.get i with
    | none => simp only [q] at p; exact p.elim
    | some ob =>
      cases ob with
      | ins c fs =>
        simp only [q] at p
        cases q2 : ds c with
        | none => simp only [q2] at p; exact p.elim
        | some g =>
          simp only [q2] at p
          obtain ⟨C, f, rc, hC, sf, hs, hf, hr, hp, ⟨fo, h1⟩, ⟨ro, h2⟩, hsub, hfn⟩ := (hd c g q2).ex
          obtain ⟨C', dx, us, hC', hH⟩ := inst_at rl hi q
          rw [hC] at hC'
          cases hC'
          obtain ⟨mA, O, _⟩ := ins_get I.hok hH
          obtain ⟨od, J, _⟩ := O.look
          obtain ⟨mF, hF⟩ := I.fr
          have run : Post G ρ H (g [.ref i, d2] S) Q (EW W σ) → wpAny (model X.prog X.w) X.A (call (.ref f) [.ref a, u]) (PySem.W.CmpBack (EP X pins σ Q)) X.xe s := fun p => by
            refine thn (hfn pins s σ H [.ref a, y] [.ref a, u] Q ρ S [.ref i, d2] I (.cons rfl (.cons ry .nil)) rl (.cons (.ref hi) (.cons r2 .nil)) p) fun z s' h => ?_
            obtain ⟨zv, H', I', rz, q'⟩ := h
            exact cmpBack_of rz ⟨zv, H', I', rz, q'⟩
          cases r2 with
          | int n =>
            obtain ⟨t, rfl⟩ := ry
            exact PySem.W.ksp_binT (T := "int") hF I.ok.mod.kin J rfl sf hs hf hr hp h1 h2 hsub (run p)
          | @ref j b hj =>
            obtain rfl : u = Value.ref b := ry
            cases q3 : S.get j with
            | none => simp only [q3] at p; exact p.elim
            | some ob2 =>
              cases ob2 with
              | ins c' fs' =>
                simp only [q3] at p
                by_cases hcc : c' = c
                · rw [if_pos hcc] at p
                  subst hcc
                  obtain ⟨C2, dx2, us2, hC2, hH2⟩ := inst_at rl hj q3
                  rw [hC] at hC2
                  cases hC2
                  obtain ⟨mA2, O2, _⟩ := ins_get I.hok hH2
                  obtain ⟨od2, J2, _⟩ := O2.look
                  exact PySem.W.binop_K hF I.ok.mod.kin J J2.type sf hs hf (run p)
                · rw [if_neg hcc] at p
                  exact p.elim
              | _ => simp only [q3] at p; exact p.elim
          | _ => exact p.elim
      | _ => simp only [q] at p; exact p.elim
  | _ => exact p.elim
/-- -x -/
def negF (ds : Disp) : D → Store → Res D := fun x S => match x with
  | .int i => .ok (.int (-i)) S
  | .ref i => (match S.get i with
    | some (.ins c _) => (match ds c with | some g => g [.ref i] S | none => .bad)
    | _ => .bad)
  | _ => .bad
structure UnClsS (G : Gx) (X : Cx) (W : WX) (name : Str) (c : Nat) (g : FN) : Prop where
  ex : ∃ C f, G.cls c = some C ∧ PySem.W.findIn X.K (.ref C) name = some (some (.ref f)) ∧ PySem.W.isFn X.K (.ref f) = true ∧ FnS G X W (.ref f) g
theorem uns_neg {ds : Disp} (hd : ∀ c g, ds c = some g → UnClsS G X W "__neg__" c g) : UnS G X W (unaryOp .USub) (negF ds) := by
  intro pins s σ H x v Q ρ S d I rx rl r1 p
  cases r1 with
  | int i => exact un_neg pins s σ H _ v Q I rx ⟨i, rfl, post_ok (S := S) p rl (.int _)⟩
  | @ref i a hi =>
    obtain rfl : v = Value.ref a := rx
    unfold negF at p
    cases q : S.get i with
    | none => simp only [q] at p; exact p.elim
    | some ob =>
      cases ob with
      | ins c fs =>
        simp only [q] at p
        cases q2 : ds c with
        | none => simp only [q2] at p; exact p.elim
        | some g =>
          simp only [q2] at p
          obtain ⟨C, f, hC, hs, hf, hfn⟩ := (hd c g q2).ex
          obtain ⟨C', dx, us, hC', hH⟩ := inst_at rl hi q
          rw [hC] at hC'
          cases hC'
          obtain ⟨mA, O, _⟩ := ins_get I.hok hH
          obtain ⟨od, J, _⟩ := O.look
          obtain ⟨mF, hF⟩ := I.fr
          exact PySem.W.ksp_neg hF I.ok.mod.kin J hs hf (hfn pins s σ H [.ref a] [.ref a] Q ρ S [.ref i] I (.cons rfl .nil) rl (.cons (.ref hi) .nil) p)
      | _ => simp only [q] at p; exact p.elim
  | _ => exact p.elim
/-- x == y by the class of x -/
def eqOwn (isi : Tag → Tag → Option Bool) (ds : Disp) : D → D → Store → Res D := fun x y S => match x with
  | .ref i => (match S.get i, tagOf S y with
    | some (.ins c _), some t => (match ds c with
      | some g => if (t == .o c || isi t (.o c) == some false) = true then g [.ref i, y] S else .bad
      | none => .bad)
    | _, _ => .bad)
  | _ => .bad
theorem kit_false {K : PySem.W.Frag} {t : Value} {C : Addr} (h : PySem.W.kitOne K t (.ref C) = some false) : PySem.W.subIn K t (.ref C) = some false := by
  unfold PySem.W.kitOne at h
  split at h
  · cases h
  · unfold PySem.W.kitCls at h
    simp only at h
    split at h
    · exact h
    · cases h
theorem ops_eqOwn {ds : Disp} (cc : Cc G X W) (hu : X.A.units + 64 < cLine) (hd : ∀ c g, ds c = some g → UnClsS G X W "__eq__" c g) : OpS G X W (compareOp .Eq) (eqOwn G.isi ds) := by
  intro pins s σ H x y v u Q ρ S d1 d2 I rx ry rl r1 r2 p
  cases r1 with
  | @ref i a hi =>
    obtain rfl : v = Value.ref a := rx
    unfold eqOwn at p
    cases q : S.get i with
    | none => simp only [q] at p; exact p.elim
    | some ob =>
      cases ob with
      | ins c fs =>
        cases q4 : tagOf S d2 with
        | none => simp only [q, q4] at p; exact p.elim
        | some t =>
          simp only [q, q4] at p
          cases q2 : ds c with
          | none => simp only [q2] at p; exact p.elim
          | some g =>
            simp only [q2] at p
            by_cases hn : (t == .o c || G.isi t (.o c) == some false) = true
            · rw [if_pos hn] at p
              obtain ⟨C, f, hC, hs, hf, hfn⟩ := (hd c g q2).ex
              obtain ⟨C', dx, us, hC', hH⟩ := inst_at rl hi q
              rw [hC] at hC'
              cases hC'
              obtain ⟨mA, O, _⟩ := ins_get I.hok hH
              obtain ⟨od, J, _⟩ := O.look
              obtain ⟨mF, hF⟩ := I.fr
              obtain ⟨tv, e1, ty⟩ := tag_rel rl r2 q4
              obtain ⟨Pk, Z, pk, _⟩ := kit_of I ry (by rw [cc.k]; exact ty)
              have oC : tagVal G.cls (.o c) = some (.ref C) := by show (G.cls c).map Value.ref = _; rw [hC]; rfl
              have nf : PySem.W.notFirst X.K C tv = true := by
                unfold PySem.W.notFirst
                rw [Bool.or_eq_true] at hn ⊢
                rcases hn with hn | hn
                · refine .inl ?_
                  have e2 : t = .o c := beq_iff_eq.mp hn
                  subst e2
                  rw [oC] at e1
                  cases e1
                  exact beq_self_eq_true _
                · refine .inr ?_
                  have e2 : G.isi t (.o c) = some false := beq_iff_eq.mp hn
                  rw [beq_iff_eq, cc.k]
                  exact kit_false (G.isi_ok t (.o c) false tv (.ref C) e2 e1 oC)
              show wpAny (model X.prog X.w) X.A (richCompare .Eq (.ref a) u) (EP X pins σ Q) X.xe s
              refine PySem.W.cmp_K (op := .Eq) (by omega) hF I.ok.mod.kin J (Z.ty _ _ I.kIn pk) nf hs hf ?_
              refine thn (hfn pins s σ H [.ref a, y] [.ref a, u] Q ρ S [.ref i, d2] I (.cons rfl (.cons ry .nil)) rl (.cons (.ref hi) (.cons r2 .nil)) p) fun z s' h => ?_
              obtain ⟨zv, H', I', rz, q'⟩ := h
              exact cmpBack_of rz ⟨zv, H', I', rz, q'⟩
            · rw [if_neg hn] at p
              exact p.elim
      | _ => simp only [q] at p; exact p.elim
  | _ => exact p.elim
end
end L2.Mi

set_option Elab.async false
set_option linter.all false
set_option maxRecDepth 100000
set_option maxHeartbeats 4000000
/-! Mini, 8: != by an own ==, instances called, methods of lists, comprehensions, enumerate. -/
namespace PySem.W
open PySem PySem.Calls PyProof.Rows
section
variable {prog : Program} {w : World} {A : Around} {E : Value → Shared → Prop} {s : Shared} {K : Frag} {x C L f : Addr} {h₀ : Heap} {m : Str → Option Value} {ox : Obj} {od : Option Obj} {b tb : Value}
theorem mi_ifBoundB {M : Model} {T : String} {name : Str} {id : String} {args : List Value} {Q : Option Value → Shared → Prop} (X : K.In s.heap) (I : InstAt s.heap x ox C od) (hs : findIn K (.ref C) name = some (some (.builtin id))) (S : Slot T name id)
    (h : wpAny M A (call (.builtin id) (.ref x :: args)) (fun v => Q (some v)) E s) : wpAny M A (callSpecialIfBound? (.ref x) name args) Q E s := by
  simp only [callSpecialIfBound?, bindSpecialIfBound?]
  refine wpAny_holding (wpAny_bind (wpAny_bind (wpAny_bind (I.type.here ((looks_findIn X hs).here ?_)))))
  simp only [S.bind]
  refine wpAny_bind (wpAny_askSetting (wpAny_ite ?_))
  have fin : wpAny M A (call (.builtin id) ([.ref x] ++ args) >>= fun v => pure (some v)) Q E s := wpAny_bind (wpAny_mono h (fun v s' h' => wpAny_pure h') fun _ _ h' => h')
  split
  · exact wpAny_bind (wpAny_pure (wpAny_pure fin))
  · exact wpAny_tryCatch (wpAny_bind (wpAny_pure (wpAny_pure fin)))
theorem mi_ne {Q : Value → Shared → Prop} (hu : A.units + 1 < cLine) (F : Fr h₀ L s.heap m) (X₀ : K.In h₀) (I : InstAt s.heap x ox C od) (hb : Looks (model prog w) s.heap (typeOf b) tb) (hn : notFirst K C tb = true)
    (hs : findIn K (.ref C) "__ne__" = some (some (.builtin "object.__ne__"))) (hm : mroIn K C (.type "object") = some true) (he : findIn K (.ref C) "__eq__" = some (some (.ref f))) (hf : isFn K (.ref f) = true)
    (h : wpAny (model prog w) A.in1 (call (.ref f) [.ref x, b]) (fun v s' => ∃ k, v = .bool k ∧ Q (.bool (!k)) s') E s) : wpAny (model prog w) A (richCompare .NotEq (.ref x) b) Q E s := by
  have X := X₀.keeps F.keep
  have inst : Looks (model prog w) s.heap (isInstance (.ref x) (.type "object")) true := I.type.andThen (looks_mroIn X hm)
  have one : wpAny (model prog w) A (tryCompare (.ref x) (cmpInfo .NotEq).2.1 b) (fun r s' => ∃ v, r = some v ∧ Q v s') E s := by
    unfold tryCompare
    refine wpAny_bind (mi_ifBoundB (T := "object") X I hs PySem.F.cmp_object.ne ?_)
    refine wpAny_call (codeAny_call_builtin (by decide +kernel) PySem.F.cmpEntry_ne (check_slot PySem.F.cmpKind_ne PySem.F.cmpSplit_ne inst (PySem.F.cmpArgs_ne _ _) ?_))
    unfold Builtin.«object.__ne__»
    refine wpAny_bind (wpAny_pure ?_)
    dsimp only
    refine wpAny_bind (wpAny_cRoomFor (show A.units + 1 < cLine from hu) ?_)
    refine wpAny_bind (ifBound_K X I he hf (wpAny_mono h (fun v s' hv => ?_) fun _ _ e => e))
    obtain ⟨k, rfl, q⟩ := hv
    dsimp only
    refine wpAny_bind (wpAny_truthy_bool ?_)
    exact wpAny_pure (wpAny_pure ⟨_, rfl, q⟩)
  unfold richCompare
  simp only [oneThing_ref]
  refine wpAny_holding (wpAny_bind (wpAny_cRoomFor (by omega) ?_))
  refine wpAny_bind (I.type.here (wpAny_bind (hb.here ?_)))
  split
  · rename_i q
    have e : subIn K tb (.ref C) = some false := by
      rcases Bool.or_eq_true_iff.mp hn with e | e
      · rw [beq_iff_eq.mp e] at q; simp at q
      · exact beq_iff_eq.mp e
    refine wpAny_bind ((looks_subIn X e).here ?_)
    simp only [Bool.false_eq_true, if_false]
    refine wpAny_bind (wpAny_mono one (fun r s' z => ?_) fun _ _ e => e)
    obtain ⟨v, rfl, hq⟩ := z
    exact wpAny_pure hq
  · refine wpAny_bind (wpAny_pure ?_)
    simp only [Bool.false_eq_true, if_false]
    refine wpAny_bind (wpAny_mono one (fun r s' z => ?_) fun _ _ e => e)
    obtain ⟨v, rfl, hq⟩ := z
    exact wpAny_pure hq
end
end PySem.W
namespace L2.Mi
open PySem PySem.Spec PyProof.Rows
/-- x != y by the own == of x's class -/
def neOwn (isi : Tag → Tag → Option Bool) (ds : Disp) : D → D → Store → Res D := fun x y S => match x with
  | .ref i => (match S.get i, tagOf S y with
    | some (.ins c _), some t => (match ds c with
      | some g => if (t == .o c || isi t (.o c) == some false) = true then (match g [.ref i, y] S with | .ok (.bl k) S1 => .ok (.bl (!k)) S1 | _ => .bad) else .bad
      | none => .bad)
    | _, _ => .bad)
  | _ => .bad
structure NeClsS (G : Gx) (X : Cx) (c : Nat) (g : FN) : Prop where
  ex : ∃ C f k, G.cls c = some C ∧ PySem.W.findIn X.K (.ref C) "__ne__" = some (some (.builtin "object.__ne__")) ∧ PySem.W.findIn X.K (.ref C) "__eq__" = some (some (.ref f)) ∧ PySem.W.isFn X.K (.ref f) = true ∧
    FnR X.prog X.w X.K X.mg X.base (L2.CX X.prog X.w) k f (spG G g) ∧ Room (k + 1) X.A
section
variable {G : Gx} {X : Cx} {W : WX}
theorem ops_neOwn {ds : Disp} (cc : Cc G X W) (hu : X.A.units + 64 < cLine) (hd : ∀ c g, ds c = some g → NeClsS G X c g) : OpS G X W (compareOp .NotEq) (neOwn G.isi ds) := by
  intro pins s σ H x y v u Q ρ S d1 d2 I rx ry rl r1 r2 p
  cases r1 with
  | @ref i a hi =>
    obtain rfl : v = Value.ref a := rx
    unfold neOwn at p
    cases q : S.get i with
    | none => simp only [q] at p; exact p.elim
    | some ob =>
      cases ob with
      | ins c fs =>
        cases q4 : tagOf S d2 with
        | none => simp only [q, q4] at p; exact p.elim
        | some t =>
          simp only [q, q4] at p
          cases q2 : ds c with
          | none => simp only [q2] at p; exact p.elim
          | some g =>
            simp only [q2] at p
            by_cases hn : (t == .o c || G.isi t (.o c) == some false) = true
            · rw [if_pos hn] at p
              obtain ⟨C, f, k, hC, hs, he, hf, F, hr⟩ := (hd c g q2).ex
              obtain ⟨C', dx, us, hC', hH⟩ := inst_at rl hi q
              rw [hC] at hC'
              cases hC'
              obtain ⟨mA, O, _⟩ := ins_get I.hok hH
              obtain ⟨od, J, _⟩ := O.look
              obtain ⟨mF, hF⟩ := I.fr
              obtain ⟨tv, e1, ty⟩ := tag_rel rl r2 q4
              obtain ⟨Pk, Z, pk, _⟩ := kit_of I ry (by rw [cc.k]; exact ty)
              have oC : tagVal G.cls (.o c) = some (.ref C) := by show (G.cls c).map Value.ref = _; rw [hC]; rfl
              have nf : PySem.W.notFirst X.K C tv = true := by
                unfold PySem.W.notFirst
                rw [Bool.or_eq_true] at hn ⊢
                rcases hn with hn | hn
                · refine .inl ?_
                  have e2 : t = .o c := beq_iff_eq.mp hn
                  subst e2
                  rw [oC] at e1
                  cases e1
                  exact beq_self_eq_true _
                · refine .inr ?_
                  have e2 : G.isi t (.o c) = some false := beq_iff_eq.mp hn
                  rw [beq_iff_eq, cc.k]
                  exact kit_false (G.isi_ok t (.o c) false tv (.ref C) e2 e1 oC)
              show wpAny (model X.prog X.w) X.A (richCompare .NotEq (.ref a) u) (EP X pins σ Q) X.xe s
              refine PySem.W.mi_ne (by omega) hF I.ok.mod.kin J (Z.ty _ _ I.kIn pk) nf hs (by rw [cc.k]; exact (G.ci c C hC).hm) he hf ?_
              have hsp : spG G g [.ref a, y] H (fun z H' => ∃ k, z = .bl k ∧ Q (.bl (!k)) H') E0 := ⟨ρ, S, [.ref i, d2], rl, .cons (.ref hi) (.cons r2 .nil), by
                cases q5 : g [.ref i, d2] S with
                | ok d S1 =>
                  rw [q5] at p
                  intro ρ1 H1 z l1 rl1 rv1
                  cases rv1 with
                  | bl k => exact ⟨k, rfl, p ρ1 H1 _ l1 rl1 (.bl _)⟩
                  | _ => exact False.elim p
                | exc xx S1 => rw [q5] at p; exact False.elim p
                | bad => rw [q5] at p; exact False.elim p⟩
              refine wpAny_call (codeAny_mono (F X.A.in1 X.stack s H [.ref a, u] [.ref a, y] _ E0 hr.in1 I.env0.in1 (.cons rfl (.cons ry .nil)) hsp) fun r s' hq => ?_)
              cases r with
              | error er => exact False.elim (passNox (X := X) pins σ H s er s' (I.wish _) hq)
              | ok fl =>
                cases fl with
                | ret w =>
                  obtain ⟨z, H', I', rz, k, ez, q6⟩ := I.after hq
                  subst ez
                  cases rz
                  exact ⟨k, rfl, .bl (!k), H', I', rfl, q6⟩
                | next => exact False.elim hq
                | brk => exact False.elim hq
                | cont => exact False.elim hq
            · rw [if_neg hn] at p
              exact p.elim
      | _ => simp only [q] at p; exact p.elim
  | _ => exact p.elim
end
/-! ### instances called -/
def eCallI (ds : Disp) (mf : ME) (ma : MA) : ME := fun σ S => (mf σ S).bind fun o S1 => match o with
  | .ref i => (ma σ S1).bind fun xs S2 => (match S2.get i with
    | some (.ins c _) => (match ds c with | some g => g (.ref i :: xs) S2 | none => .bad)
    | _ => .bad)
  | _ => .bad
structure CallOS (G : Gx) (X : Cx) (c : Nat) (g : FN) : Prop where
  ex : ∃ C f k, G.cls c = some C ∧ StX.CallO X.K C f ∧ FnR X.prog X.w X.K X.mg X.base (L2.CX X.prog X.w) k f (spG G g) ∧ Room k X.A
section
variable {G : Gx} {X : Cx} {W : WX} {e fe o : Expr} {es : List Expr} {pos apos p : Pos} {ma : MA} {mf mo m : ME} {name : Str}
theorem se_callI {ds : Disp} (cc : Cc G X W) (hf : SE G X W fe mf) (hd : ∀ c g, ds c = some g → CallOS G X c g) (ha : SA G X W (e :: es) ma)
    (ht : eval (.Call fe (e :: es) [] pos) X.env = (do callWith pos (← eval fe X.env) [] (backTo pos (starEach (e :: es) X.env)) (backToKw pos (keywordEach [] X.env))) := by rfl)
    (he : starEach (e :: es) X.env = (false, eval e X.env) :: starEach es X.env := by rfl) (hpl : (backTo pos (starEach es X.env)).any (·.1) = false := by rfl) : SE G X W (.Call fe (e :: es) [] pos) (eCallI ds mf ma) := by
  refine ⟨fun pins s σ H Q I ⟨ρ, σs, S, rl, re, p⟩ => ?_⟩
  refine Call_ (hf.go I rl re p fun u s1 x H1 ρ1 S1 d I1 rx l1 rl1 re1 rv1 p1 => ?_) ht
  cases rv1 with
  | @ref i a hi =>
    obtain rfl : u = Value.ref a := rx
    refine StX.callO_with (ha.go I1 rl1 re1 p1 fun us s2 xs H2 ρ2 S2 ds' I2 rx2 l2 rl2 re2 rv2 p2 => ?_) he hpl
    cases q : S2.get i with
    | none => simp only [q] at p2; exact p2.elim
    | some ob =>
      cases ob with
      | ins c fs =>
        simp only [q] at p2
        cases q2 : ds c with
        | none => simp only [q2] at p2; exact p2.elim
        | some g =>
          simp only [q2] at p2
          obtain ⟨C, f, k, hC, hco, F, hr⟩ := (hd c g q2).ex
          have hi2 := pre_get l2.pre hi
          obtain ⟨C', dx, us', hC', hH⟩ := inst_at rl2 hi2 q
          rw [hC] at hC'
          cases hC'
          obtain ⟨mA, O, _⟩ := ins_get I2.hok hH
          obtain ⟨od, J, _⟩ := O.look
          refine ⟨⟨C, _, _, J, rfl⟩, ?_⟩
          refine wpAny_call (PySem.W.kco_code I2.kIn J rfl hco.at_ hco.fn hco.fi ?_)
          refine codeAny_mono (F X.A X.stack s2 H2 (.ref a :: us) (.ref a :: xs) Q (EW W σ) hr I2.env0 (.cons rfl rx2) ⟨ρ2, S2, .ref i :: ds', rl2, .cons (.ref hi2) rv2, p2⟩) fun r s' hq => ?_
          cases r with
          | error er => exact passAt cc.tk σ pins H2 s2 er s' I2 hq
          | ok fl =>
            cases fl with
            | ret w => exact I2.after hq
            | next => exact False.elim hq
            | brk => exact False.elim hq
            | cont => exact False.elim hq
      | _ => simp only [q] at p2; exact p2.elim
  | _ => exact False.elim p1

/-! ### methods of lists -/
def eBm (ck : D → Store → Bool) (f : D → List D → Store → Res D) (mo : ME) (ma : MA) : ME := fun σ S => (mo σ S).bind fun o S1 => if ck o S1 then (ma σ S1).bind fun xs S2 => f o xs S2 else .bad
def MtS (G : Gx) (X : Cx) (W : WX) (id : String) (f : D → List D → Store → Res D) : Prop :=
  ∀ (pins : List (Addr × Obj)) (s : Shared) (σ : St) (H : Hp) (x : V) (xs : List V) (v : Value) (us : List Value) (Q : VK) (ρ : Wd) (S : Store) (d : D) (ds : List D), Inv X pins σ H s → RelV x v → Vals xs us → Rl G ρ S H → RV G ρ H d x → RVs G ρ H ds xs →
    Post G ρ H (f d ds S) Q (EW W σ) → wpAny (model X.prog X.w) X.A (call (.builtin id) (v :: us)) (EP X pins σ Q) X.xe s
theorem MtS.of {id : String} {f : D → List D → Store → Res D} {r : V → List V → Hp → VK → Prop} (hm : MtR X id r) (h : ∀ ρ S H d ds x xs Q E, Rl G ρ S H → RV G ρ H d x → RVs G ρ H ds xs → Post G ρ H (f d ds S) Q E → r x xs H Q) : MtS G X W id f :=
  fun pins s σ H x xs v us Q ρ S d ds I rx rs rl r1 r2 p => hm pins s σ H x xs v us Q I rx rs (h ρ S H d ds x xs Q _ rl r1 r2 p)
theorem se_bm {T id : String} {ck : D → Store → Bool} {f : D → List D → Store → Res D} (pa : PlainAttrs T) (slot : Slot T name id) (hty : typeOf (.builtin id) = pure (.type "method_descriptor")) (hm : MtS G X W id f)
    (hT : ∀ ρ S H d x, Rl G ρ S H → RV G ρ H d x → ck d S = true → tyV X.K T x H) (ho : SE G X W o mo) (ha : SA G X W (e :: es) ma)
    (hbase : attributeBase o name X.env (eval o X.env) = eval o X.env := by rfl)
    (hfew : ((backTo pos (starEach (e :: es) X.env)).all (fun x => !x.1) && (backToKw pos (keywordEach [] X.env)).all (fun x => x.1.isSome)
      && decide ((e :: es).length + ([] : List Keyword).length + (if ([] : List Keyword).isEmpty then 0 else 1) < 30)) = true := by rfl)
    (hline : (apos.endLine == pos.line) = true := by rfl) (hs : starEach (e :: es) X.env = (false, eval e X.env) :: starEach es X.env := by rfl) (hplain : (backTo pos (starEach es X.env)).any (·.1) = false := by rfl) :
    SE G X W (.Call (.Attribute o name apos) (e :: es) [] pos) (eBm ck f mo ma) := by
  refine ⟨fun pins s σ H Q I ⟨ρ, σs, S, rl, re, p⟩ => ?_⟩
  refine wpAny_Call_method_late hbase hfew hline rfl (ho.go I rl re p fun v s1 x H1 ρ1 S1 d I1 r1 l1 rl1 re1 rv1 p1 => ?_)
  by_cases hc : ck d S1 = true
  · rw [if_pos hc] at p1
    obtain ⟨h1, h2⟩ := tyV_is I1 r1 (hT ρ1 S1 H1 d x rl1 rv1 hc)
    refine ⟨T, id, pa, slot, hty, h1, h2, ?_⟩
    have hA : wpAny (model X.prog X.w) X.A (spliced (backTo pos (starEach (e :: es) X.env))) (fun us s2 => wpAny (model X.prog X.w) X.A (call (.builtin id) (v :: us)) (EP X pins σ Q) X.xe s2) X.xe s1 :=
      ha.go I1 rl1 re1 p1 fun us s2 xs H2 ρ2 S2 ds I2 rx2 l2 rl2 re2 rv2 p2 => hm pins s2 σ H2 x xs v us Q ρ2 S2 d ds I2 r1 rx2 rl2 (rv1.mono l2) rv2 p2
    rw [hs] at hA ⊢
    refine Calls.callWith_builtin (by show (false || (backTo pos (starEach es X.env)).any (·.1)) = false; rw [hplain] <;> rfl) (Calls.evalArgs_plain ?_)
    exact hA
  · rw [if_neg hc] at p1
    exact p1.elim
theorem se_bm0 {T id : String} {ck : D → Store → Bool} {f : D → List D → Store → Res D} (pa : PlainAttrs T) (slot : Slot T name id) (hty : typeOf (.builtin id) = pure (.type "method_descriptor")) (hm : MtS G X W id f)
    (hT : ∀ ρ S H d x, Rl G ρ S H → RV G ρ H d x → ck d S = true → tyV X.K T x H) (ho : SE G X W o mo)
    (hbase : attributeBase o name X.env (eval o X.env) = eval o X.env := by rfl) (hline : (apos.endLine == pos.line) = true := by rfl) : SE G X W (.Call (.Attribute o name apos) [] [] pos) (eBm ck f mo (aList [])) := by
  refine ⟨fun pins s σ H Q I ⟨ρ, σs, S, rl, re, p⟩ => ?_⟩
  refine wpAny_Call_method0_late hbase hline (ho.go I rl re p fun v s1 x H1 ρ1 S1 d I1 r1 l1 rl1 re1 rv1 p1 => ?_)
  by_cases hc : ck d S1 = true
  · rw [if_pos hc] at p1
    obtain ⟨h1, h2⟩ := tyV_is I1 r1 (hT ρ1 S1 H1 d x rl1 rv1 hc)
    exact ⟨T, id, pa, slot, hty, h1, h2, Calls.callWith_builtin rfl (PySem.evalArgs_none (hm pins s1 σ H1 x [] v [] Q ρ1 S1 d [] I1 r1 .nil rl1 rv1 .nil p1))⟩
  · rw [if_neg hc] at p1
    exact p1.elim
def isLst (d : D) (S : Store) : Bool := (listAt S d).isSome
theorem ck_list (cc : Cc G X W) : ∀ ρ S H d x, Rl G ρ S H → RV G ρ H d x → isLst d S = true → tyV X.K "list" x H := fun ρ S H d x rl rv h => by
  unfold isLst at h
  cases q : listAt S d with
  | none => rw [q] at h; cases h
  | some ds =>
    obtain ⟨a, xs, rfl, hq, _⟩ := listAt_rel rl rv q
    exact .inl ⟨rfl, xs, by rw [cc.k]; exact hq⟩
def appendF : D → List D → Store → Res D := fun o xs S => match o, xs with
  | .ref i, [y] => (match S.get i with
    | some (.lst ds) => if ds.length < lim then .ok .non (S.set i (.lst (ds ++ [y]))) else .bad
    | _ => .bad)
  | _, _ => .bad
def popF : D → List D → Store → Res D := fun o xs S => match o, xs with
  | .ref i, [] => (match S.get i with
    | some (.lst ds) => (match ds[ds.length - 1]? with | some y => .ok y (S.set i (.lst ds.dropLast)) | none => .bad)
    | _ => .bad)
  | _, _ => .bad
theorem lst_at {ρ : Wd} {S : Store} {H : Hp} {i : Nat} {a : Addr} {ds : List D} (rl : Rl G ρ S H) (hi : ρ.v[i]? = some a) (q : S.get i = some (.lst ds)) : ∃ xs, H a = some (.lst xs) ∧ RVs G ρ H ds xs := by
  obtain ⟨u, hu, ro⟩ := rl.at hi q
  cases ro with
  | lst r => exact ⟨_, hu, r⟩
theorem mts_append : MtS G X W "list.append" appendF := MtS.of mt_append fun ρ S H d ds x xs Q E rl r1 r2 p => by
  unfold appendF at p
  split at p
  · rename_i i y
    obtain ⟨z, rfl, hz⟩ := rvs1 r2
    cases r1 with
    | @ref i a hi =>
      cases q : S.get i with
      | none => simp only [q] at p; exact p.elim
      | some ob =>
        cases ob with
        | lst es =>
          simp only [q] at p
          obtain ⟨us, hu, hr⟩ := lst_at rl hi q
          by_cases hl : es.length < lim
          · rw [if_pos hl] at p
            exact ⟨a, us, z, rfl, rfl, hu, by rw [← hr.length]; exact lim_lt hl, p ρ _ _ (rl.leUpd hi hu trivial) (rl.set hi q hu trivial (.lst (hr.append (.cons hz .nil)))) .non⟩
          · rw [if_neg hl] at p
            exact p.elim
        | _ => simp only [q] at p; exact p.elim
  · exact p.elim
theorem RVs.dropLast {ρ : Wd} {H : Hp} : ∀ {ds : List D} {xs : List V}, RVs G ρ H ds xs → RVs G ρ H ds.dropLast xs.dropLast
  | _, _, .nil => .nil
  | _, _, .cons _ .nil => .nil
  | _, _, .cons h (.cons h' t) => .cons h (RVs.dropLast (.cons h' t))
theorem mts_pop : MtS G X W "list.pop" popF := MtS.of mt_pop fun ρ S H d ds x xs Q E rl r1 r2 p => by
  unfold popF at p
  split at p
  · rename_i i
    cases r2
    cases r1 with
    | @ref i a hi =>
      cases q : S.get i with
      | none => simp only [q] at p; exact p.elim
      | some ob =>
        cases ob with
        | lst es =>
          simp only [q] at p
          obtain ⟨us, hu, hr⟩ := lst_at rl hi q
          cases q2 : es[es.length - 1]? with
          | none => simp only [q2] at p; exact p.elim
          | some y =>
            simp only [q2] at p
            obtain ⟨v, h1, h2⟩ := hr.get q2
            have l := rl.leUpd (u' := .lst us.dropLast) hi hu trivial
            exact ⟨a, us, v, rfl, rfl, hu, by rw [← hr.length]; exact h1, p ρ _ _ l (rl.set hi q hu trivial (.lst hr.dropLast)) (h2.mono l)⟩
        | _ => simp only [q] at p; exact p.elim
  · exact p.elim
/-- l[i] = v -/
def setL : D → D → D → Store → Option Store := fun o i v S => match o, i with
  | .ref a, .int k => (match S.get a with
    | some (.lst ds) => (match ixN ds.length k with | some j => some (S.set a (.lst (ds.set j v))) | none => none)
    | _ => none)
  | _, _ => none
theorem sts_list : StS G X setL := by
  intro pins s σ H x y z v u w Q ρ S S' d1 d2 d3 I rx ry rz rl r1 r2 r3 h k
  unfold setL at h
  split at h
  · rename_i i n
    cases r1 with
    | @ref i a hi =>
      cases r2 with
      | int _ =>
        cases q : S.get i with
        | none => simp only [q] at h; cases h
        | some ob =>
          cases ob with
          | lst es =>
            simp only [q] at h
            obtain ⟨us, hu, hr⟩ := lst_at rl hi q
            cases q2 : ixN es.length n with
            | none => simp only [q2] at h; cases h
            | some j =>
              simp only [q2] at h
              cases h
              refine set_list pins s σ H _ _ _ v u w Q I rx ry rz ⟨a, us, n, j, rfl, rfl, hu, by rw [← hr.length]; exact q2, ?_⟩
              exact k ρ _ (rl.leUpd hi hu trivial) (rl.set hi q hu trivial (.lst (hr.set r3 j)))
          | _ => simp only [q] at h; cases h
  · cases h
end
end L2.Mi

set_option Elab.async false
set_option linter.all false
set_option maxRecDepth 100000
set_option maxHeartbeats 4000000
/-! Mini, 9: list comprehensions, enumerate of tuples. -/
namespace L2.Mi
open PySem PySem.Spec PyProof.Rows

/-! ### slots wiped -/
def wipeD (σ : En) : List Nat → En
  | [] => σ
  | v :: vs => (wipeD σ vs).set v none
theorem wipe_set {σ : St} {i : Nat} {o : Option V} : ∀ {vs : List Nat}, wipe (σ.set i o) vs = if i ∈ vs then wipe σ vs else (wipe σ vs).set i o
  | [] => by simp [wipe]
  | w :: vs => by
    unfold wipe
    rw [wipe_set (vs := vs)]
    by_cases h1 : i ∈ vs
    · simp [h1]
    · by_cases h2 : i = w
      · subst h2
        simp [h1, List.set_set]
      · simp only [h1, List.mem_cons, h2, or_self, if_false]
        rw [List.set_comm _ _ h2]
theorem wipe_wipe {σ : St} : ∀ {vs : List Nat}, wipe (wipe σ vs) vs = wipe σ vs := by
  have key : ∀ (ws vs : List Nat), (∀ w ∈ ws, w ∈ vs) → wipe (wipe σ ws) vs = wipe σ vs := by
    intro ws
    induction ws with
    | nil => intro vs _; rfl
    | cons w ws ih =>
      intro vs h
      show wipe ((wipe σ ws).set w none) vs = _
      rw [wipe_set, if_pos (h w (by simp))]
      exact ih vs fun x hx => h x (by simp [hx])
  exact fun {vs} => key vs vs fun _ h => h
/-- the targets of a comprehension: a name, some names -/
inductive TgN where
  | one (i : Nat)
  | many (is : List Nat)
def TgN.slots : TgN → List Nat
  | .one i => [i]
  | .many is => is
def setAll : List Nat → List D → En → Option En
  | [], [], σ => some σ
  | i :: is, d :: ds, σ => setAll is ds (σ.set i (some d))
  | _, _, _ => none
def TgN.put (t : TgN) (d : D) (σ : En) : Option En := match t with
  | .one i => some (σ.set i (some d))
  | .many is => (match d with | .tup ds => setAll is ds σ | _ => none)
def gNames : List Nat → TGs
  | [] => gNil
  | i :: is => gCons (L2.gName i) (gNames is)
def TgN.tg (K : PySem.W.Frag) : TgN → TG
  | .one i => L2.gName i
  | .many is => L2.gTup K is.length (gNames is)
section
variable {G : Gx} {ρ : Wd} {H : Hp}
theorem RE.setNone {σs : En} {σ : St} (r : RE G ρ H σs σ) (i : Nat) : RE G ρ H (σs.set i none) (σ.set i none) := by
  refine ⟨by simp [r.len], fun j e hj => ?_⟩
  by_cases hij : i = j
  · subst hij
    by_cases hl : i < σs.length
    · rw [List.getElem?_set_self hl] at hj; cases hj
    · rw [List.getElem?_eq_none (by simpa using hl)] at hj; cases hj
  · rw [List.getElem?_set_ne hij] at hj ⊢
    exact r.get j e hj
theorem RE.wipe {σs : En} {σ : St} (r : RE G ρ H σs σ) : ∀ (vs : List Nat), RE G ρ H (wipeD σs vs) (L2.wipe σ vs)
  | [] => r
  | v :: vs => (RE.wipe r vs).setNone v
theorem names_go {Q : St → Hp → Prop} : ∀ {is : List Nat} {ds : List D} {xs : List V} {σs σ2 : En} {σ : St}, RVs G ρ H ds xs → RE G ρ H σs σ → setAll is ds σs = some σ2 → ∀ (vs : List Nat), (∀ i ∈ is, i ∈ vs) →
    (∀ σ', RE G ρ H σ2 σ' → L2.wipe σ' vs = L2.wipe σ vs → Q σ' H) → gNames is xs σ H Q
  | [], [], _, _, _, _, .nil, re, h, vs, _, k => by cases h; exact ⟨rfl, k _ re rfl⟩
  | i :: is, d :: ds, _, σs, σ2, σ, .cons r t, re, h, vs, hv, k => by
    refine ⟨_, _, rfl, ?_⟩
    show gNames is _ (σ.set i (some _)) H Q
    refine names_go t (re.set i r) h vs (fun j hj => hv j (by simp [hj])) fun σ' re' e => k σ' re' ?_
    rw [e, wipe_set, if_pos (hv i (by simp))]
  | [], _ :: _, _, _, _, _, _, _, h, _, _, _ => by cases h
  | _ :: _, [], _, _, _, _, _, _, h, _, _, _ => by cases h
theorem setAll_len : ∀ {is : List Nat} {ds : List D} {σs σ2 : En}, setAll is ds σs = some σ2 → ds.length = is.length
  | [], [], _, _, _ => rfl
  | _ :: is, _ :: ds, _, _, h => by simp [setAll_len (is := is) (ds := ds) h]
  | [], _ :: _, _, _, h => by cases h
  | _ :: _, [], _, _, h => by cases h
theorem put_go {Q : St → Hp → Prop} {K : PySem.W.Frag} {t : TgN} {d : D} {x : V} {σs σ2 : En} {σ : St} (rv : RV G ρ H d x) (re : RE G ρ H σs σ) (h : t.put d σs = some σ2) (vs : List Nat) (hv : ∀ i ∈ t.slots, i ∈ vs)
    (k : ∀ σ', RE G ρ H σ2 σ' → L2.wipe σ' vs = L2.wipe σ vs → Q σ' H) : t.tg K x σ H Q := by
  cases t with
  | one i =>
    cases h
    refine k _ (re.set i rv) ?_
    rw [wipe_set, if_pos (hv i (by simp [TgN.slots]))]
  | many is =>
    cases rv with
    | @tup ds a xs ht hr =>
      have h' : setAll is ds σs = some σ2 := h
      exact ⟨a, xs, rfl, SqT.of ht, by rw [← hr.length]; exact setAll_len h', names_go hr re h' vs hv k⟩
    | _ => cases h
end
/-! ### the loop -/
def lcGo (src : Src) (t : TgN) (mt : MT) (me : ME) (σ : En) : Nat → Nat → List D → Store → Res (List D)
  | 0, _, _, _ => .bad
  | n + 1, k, acc, S => match src k S with
    | none => .bad
    | some none => .ok acc S
    | some (some d) => (match t.put d σ with
      | none => .bad
      | some σ2 => (match mt σ2 S with
        | .ok true S1 => (match me σ2 S1 with
          | .ok y S2 => if acc.length < lim then lcGo src t mt me σ n (k + 1) (acc ++ [y]) S2 else .bad
          | _ => .bad)
        | .ok false S1 => lcGo src t mt me σ n (k + 1) acc S1
        | _ => .bad))
/-- the list as a value that nobody changes, as one that is changed later -/
def eLcV (mi : MI) (t : TgN) (mt : MT) (me : ME) (vs : List Nat) (n : Nat) : ME := fun σ S => (mi σ S).bind fun src S1 => (lcGo src t mt me (wipeD σ vs) n 0 [] S1).bind fun ds S2 => .ok (.lv ds) S2
def eLc (mi : MI) (t : TgN) (mt : MT) (me : ME) (vs : List Nat) (n : Nat) : ME := fun σ S => (mi σ S).bind fun src S1 => (lcGo src t mt me (wipeD σ vs) n 0 [] S1).bind fun ds S2 => .ok (.ref S2.size) (S2.push (.lst ds))
def tYesM : MT := fun _ S => .ok true S
abbrev W0 : WX := fun _ _ _ _ => False
section
variable {G : Gx} {X : Cx} {W : WX}
theorem cc_blk (cc : Cc G X W) {s : Shared} {H : Hp} {scope : Scope} {cenv : Env} {fp : List Addr} : Cc G (X.blk s H scope cenv fp) W0 := ⟨cc.k, takes0, PassesOwn.never, cc.calm, cc.nd⟩
theorem sts_nil : PTs X [] (tmt G W tYesM) := ⟨fun pins s σ H Q I ⟨ρ, σs, S, rl, re, p⟩ => (pts_nil).run pins s σ H Q I (p ρ H true Le.refl rl rfl)⟩
theorem sts_one {c : Expr} {t : MT} (h : ST G X W c t) : PTs X [c] (tmt G W t) := pts_one h
/-! the list that grows is hidden -/
theorem Mv.unhide {ρ : Wd} {a : Addr} {H : Hp} : Mv G ⟨ρ.v, a :: ρ.h⟩ H ρ H :=
  ⟨fun _ _ h => h, fun _ _ _ h => h, fun _ _ n h => ⟨⟨n.1, fun z => n.2 (List.mem_cons_of_mem _ z)⟩, h⟩, fun _ _ n _ h => ⟨⟨n.1, fun z => n.2 (List.mem_cons_of_mem _ z)⟩, h⟩⟩
theorem Mv.hide {ρ : Wd} {a : Addr} {H : Hp} {u : HO} (hn : H a = none) : Mv G ρ H ⟨ρ.v, a :: ρ.h⟩ (L2.upd H a u) := by
  have ne : ∀ b, H b ≠ none → b ≠ a := fun b hb z => hb (by rw [z]; exact hn)
  refine ⟨fun _ _ h => h, tk_new hn, fun b xs n h => ?_, fun b v n _ h => ?_⟩
  · have hb := ne b (by rw [h]; simp)
    exact ⟨⟨n.1, by simp [hb, n.2]⟩, by rw [upd_ne hb]; exact h⟩
  · have hb := ne b (rd_some h)
    exact ⟨⟨n.1, by simp [hb, n.2]⟩, rd_new hn h⟩
theorem Rl.unhide {ρ : Wd} {a : Addr} {S : Store} {H : Hp} (r : Rl G ⟨ρ.v, a :: ρ.h⟩ S H) : Rl G ρ S H :=
  ⟨r.len, r.nd, fun b hb => r.hh b (List.mem_cons_of_mem _ hb), fun i o e => let ⟨b, u, h1, h2, h3⟩ := r.ob i o e; ⟨b, u, h1, h2, h3.move Mv.unhide⟩⟩
theorem Rl.hide {ρ : Wd} {a : Addr} {S : Store} {H : Hp} {u : HO} (r : Rl G ρ S H) (hn : H a = none) : Rl G ⟨ρ.v, a :: ρ.h⟩ S (L2.upd H a u) := by
  have r1 := r.other (o := u) hn
  refine ⟨r.len, r.nd, fun b hb => ?_, fun i o e => ?_⟩
  · rcases List.mem_cons.mp hb with rfl | hb
    · exact ⟨(r.no hn).1, by rw [upd_same]; simp⟩
    · exact r1.hh b hb
  · obtain ⟨b, w, h1, h2, h3⟩ := r.ob i o e
    exact ⟨b, w, h1, by rw [upd_ne (ne_of_none h2 hn)]; exact h2, h3.move (Mv.hide hn)⟩
/-- the hidden thing is changed: values stand -/
theorem Mv.grow {ρ : Wd} {a : Addr} {H : Hp} {u w : HO} (hw : H a = some w) (nt : NoT w) (hm : a ∈ ρ.h) : Mv G ρ H ρ (L2.upd H a u) := by
  refine ⟨fun _ _ h => h, tk_upd hw nt, fun b xs n h => ⟨n, ?_⟩, fun b v n _ h => ⟨n, ?_⟩⟩
  · rw [upd_ne (show b ≠ a from fun z => n.2 (by rw [z]; exact hm))]
    exact h
  · have hb : b ≠ a := fun z => n.2 (by rw [z]; exact hm)
    rcases h with h | ⟨o, h⟩
    · exact .inl (by rw [upd_ne hb]; exact h)
    · exact .inr ⟨o, by rw [upd_ne hb]; exact h⟩
theorem Rl.grow {ρ : Wd} {a : Addr} {S : Store} {H : Hp} {u w : HO} (r : Rl G ρ S H) (hw : H a = some w) (nt : NoT w) (hm : a ∈ ρ.h) : Rl G ρ S (L2.upd H a u) := by
  refine ⟨r.len, r.nd, fun b hb => ⟨(r.hh b hb).1, ?_⟩, fun i o e => ?_⟩
  · by_cases hba : b = a
    · subst hba; rw [upd_same]; simp
    · rw [upd_ne hba]; exact (r.hh b hb).2
  · obtain ⟨b, v, h1, h2, h3⟩ := r.ob i o e
    refine ⟨b, v, h1, ?_, h3.move (Mv.grow hw nt hm)⟩
    rw [upd_ne (show b ≠ a from fun z => (r.hh a hm).1 (by rw [← z]; exact List.mem_of_getElem? h1))]
    exact h2
/-- a new thing at a is hidden -/
theorem Le.hide {ρ : Wd} {a : Addr} {H : Hp} {u : HO} (hn : H a = none) {ρ' : Wd} {H' : Hp} (hh : ∀ b, b ∈ ρ.h → H b ≠ none) (l : Le G ⟨ρ.v, a :: ρ.h⟩ (L2.upd H a u) ρ' H') : Le G ρ H ⟨ρ'.v, ρ.h⟩ H' := by
  have e : ρ'.h = a :: ρ.h := l.hid
  have ne : ∀ b, H b ≠ none → b ≠ a := fun b hb z => hb (by rw [z]; exact hn)
  refine ⟨l.pre, rfl, fun b xs t h => l.tk b xs t (by rw [upd_ne (ne b (by rw [h]; simp))]; exact h), fun b xs nb h => ?_, fun b v nb dk h => ?_, fun b nb h => ?_, fun b hb h => ?_⟩
  · have hb := ne b (by rw [h]; simp)
    exact l.kl b xs ⟨nb.1, by simp [hb, nb.2]⟩ (by rw [upd_ne hb]; exact h)
  · have hb := ne b (rd_some h)
    exact l.kp b v ⟨nb.1, by simp [hb, nb.2]⟩ dk (rd_new hn h)
  · have hb := ne b h
    obtain ⟨h1, h2⟩ := l.ni b ⟨nb.1, by simp [hb, nb.2]⟩ (by rw [upd_ne hb]; exact h)
    exact ⟨⟨h1.1, nb.2⟩, h2⟩
  · have hb' := ne b h
    rw [l.kh b (List.mem_cons_of_mem _ hb) (by rw [upd_ne hb']; exact h), upd_ne hb']
/-- the hidden thing is changed -/
theorem Le.grow {ρ : Wd} {a : Addr} {H : Hp} {u u' : HO} (hn : H a = none) {ρ' : Wd} {H' : Hp} {w : HO} (hw : H' a = some w) (nt : NoT w) (nv : a ∉ ρ'.v) (l : Le G ⟨ρ.v, a :: ρ.h⟩ (L2.upd H a u) ρ' H') : Le G ⟨ρ.v, a :: ρ.h⟩ (L2.upd H a u') ρ' (L2.upd H' a u') := by
  have e : ρ'.h = a :: ρ.h := l.hid
  have up : ∀ b, b ≠ a → L2.upd H a u' b = L2.upd H a u b := fun b hb => by rw [upd_ne hb, upd_ne hb]
  have nn : ∀ b, (⟨ρ.v, a :: ρ.h⟩ : Wd).no b → b ≠ a := fun b nb z => nb.2 (by rw [z]; exact List.mem_cons_self)
  refine ⟨l.pre, l.hid, fun b xs t h => ?_, fun b xs nb h => ?_, fun b v nb dk h => ?_, fun b nb h => ?_, fun b hb h => ?_⟩
  · by_cases hb : b = a
    · subst hb
      rw [upd_same] at h
      rw [upd_same]
      exact h
    · rw [up b hb] at h
      rw [upd_ne hb]
      exact l.tk b xs t h
  · rw [up b (nn b nb)] at h
    rw [upd_ne (nn b nb)]
    exact l.kl b xs nb h
  · have hb := nn b nb
    have h' : Rd (L2.upd H a u) b v := by
      rcases h with h | ⟨o, h⟩
      · exact .inl (by rw [← up b hb]; exact h)
      · exact .inr ⟨o, by rw [← up b hb]; exact h⟩
    rcases l.kp b v nb dk h' with h | ⟨o, h⟩
    · exact .inl (by rw [upd_ne hb]; exact h)
    · exact .inr ⟨o, by rw [upd_ne hb]; exact h⟩
  · have hb := nn b nb
    rw [up b hb] at h
    obtain ⟨h1, h2⟩ := l.ni b nb h
    exact ⟨h1, by rw [upd_ne hb]; exact h2⟩
  · by_cases hba : b = a
    · subst hba
      rw [upd_same, upd_same]
    · rw [up b hba] at h
      rw [upd_ne hba, up b hba]
      exact l.kh b hb h
/-- a comprehension's loop: its own list at Dl is hidden while it grows -/
theorem lc_read {mi : MI} {t : TgN} {mt : MT} {me : ME} {vs : List Nat} {n : Nat} {K : PySem.W.Frag} (hv : ∀ i ∈ t.slots, i ∈ vs) {σ : St} {H : Hp} {Q : VK} {ρ : Wd} {σs : En} {S : Store} (fin : List D → Store → Res D) (rl : Rl G ρ S H) (re : RE G ρ H σs σ)
    (hf : ∀ (ρ' : Wd) (H' : Hp) (S' : Store) (ds : List D) (xs : List V) (Dl : Addr), Rl G ρ' S' H' → H' Dl = some (.lst xs) → ρ'.no Dl → RVs G ρ' H' ds xs → Post G ρ' H' (fin ds S') Q (EW W σ) → Q (.ref Dl) H')
    (p : Post G ρ H ((mi σs S).bind fun src S1 => (lcGo src t mt me (wipeD σs vs) n 0 [] S1).bind fin) Q (EW W σ)) :
    tLc (tmi G W mi) (t.tg K) (tmt G W0 mt) (tm G W0 me) vs σ H Q := by
  refine ⟨ρ, σs, S, rl, re, PostR.bind (R := JR G) p fun ρ1 H1 S1 src J l1 rl1 jr p1 => ?_⟩
  intro Dl hD
  have re1 := re.mono l1
  -- what stands at each turn
  refine ⟨fun i m H => ∃ ρ S acc xs, Le G ⟨ρ1.v, Dl :: ρ1.h⟩ (L2.upd H1 Dl (.lst xs)) ρ H ∧ Rl G ρ S H ∧ H Dl = some (.lst xs) ∧ RVs G ρ H acc xs ∧ Post G ρ1 H1 ((lcGo src t mt me (wipeD σs vs) m i acc S).bind fin) Q (EW W σ),
    ⟨n, ⟨ρ1.v, Dl :: ρ1.h⟩, S1, [], [], Le.refl, rl1.hide hD, upd_same, .nil, p1⟩, ?_⟩
  rintro i m H2 ⟨ρ2, S2, acc, xs, l3, rl2, hDl, ra, p2⟩
  have hid : ρ2.h = Dl :: ρ1.h := l3.hid
  have hh1 : ∀ b, b ∈ ρ1.h → H1 b ≠ none := fun b hb => (rl1.hh b hb).2
  have lo : Le G ρ1 H1 ⟨ρ2.v, ρ1.h⟩ H2 := Le.hide hD hh1 l3
  have e2 : ρ2 = ⟨ρ2.v, Dl :: ρ1.h⟩ := by rw [← hid]
  have rlo : Rl G ⟨ρ2.v, ρ1.h⟩ S2 H2 := by rw [e2] at rl2; exact Rl.unhide (ρ := ⟨ρ2.v, ρ1.h⟩) rl2
  have nDv : Dl ∉ ρ2.v := (rl2.hh Dl (by rw [hid]; simp)).1
  have nDh : Dl ∉ ρ1.h := fun z => hh1 Dl z hD
  cases m with
  | zero => exact False.elim p2
  | succ m =>
    obtain ⟨j1, j2⟩ := jr ρ2 S2 H2 ((Mv.hide hD).trans l3.mv) rl2 i
    unfold lcGo at p2
    cases q : src i S2 with
    | none => simp only [q] at p2; exact False.elim p2
    | some o =>
      cases o with
      | none =>
        simp only [q] at p2
        refine .inl ⟨j2 q, hf ⟨ρ2.v, ρ1.h⟩ H2 S2 acc xs Dl rlo hDl ⟨nDv, nDh⟩ ?_ (PostR.le p2 lo)⟩
        rw [e2] at ra
        exact ra.move (Mv.unhide (ρ := ⟨ρ2.v, ρ1.h⟩))
      | some d =>
        simp only [q] at p2
        obtain ⟨go, yl⟩ := j1 d q
        refine .inr ⟨go, fun H => ∃ ρ S acc xs, Le G ⟨ρ1.v, Dl :: ρ1.h⟩ (L2.upd H1 Dl (.lst xs)) ρ H ∧ Rl G ρ S H ∧ H Dl = some (.lst xs) ∧ RVs G ρ H acc xs ∧ Post G ρ1 H1 ((lcGo src t mt me (wipeD σs vs) m (i + 1) acc S).bind fin) Q (EW W σ),
          fun H' w => ⟨m, Nat.lt_succ_self m, w⟩, fun x H3 hy => ?_⟩
        obtain ⟨l4, rl3, rv3⟩ := yl x H3 hy
        have mD : Dl ∈ ρ2.h := by rw [hid]; simp
        have hD3 : H3 Dl = some (.lst xs) := by rw [l4.kh Dl mD (by rw [hDl]; simp)]; exact hDl
        cases q1 : t.put d (wipeD σs vs) with
        | none => simp only [q1] at p2; exact False.elim p2
        | some σ2 =>
          simp only [q1] at p2
          have reh : RE G ρ2 H3 σs σ := (re1.move ((Mv.hide hD).trans l3.mv)).mono l4
          refine put_go rv3 (reh.wipe vs) q1 vs hv fun σ' re' e' => ⟨by rw [e', wipe_wipe], ρ2, σ2, S2, rl3, re', ?_⟩
          cases q2 : mt σ2 S2 with
          | exc xx S3 => simp only [q2] at p2; exact False.elim p2
          | bad => simp only [q2] at p2; exact False.elim p2
          | ok b S3 =>
            intro ρ4 H4 b' l5 rl4 eb
            subst eb
            have mD4 : Dl ∈ ρ4.h := by rw [l5.hid]; exact mD
            have hD4 : H4 Dl = some (.lst xs) := by rw [l5.kh Dl mD (by rw [hD3]; simp)]; exact hD3
            cases b with
            | false =>
              simp only [q2] at p2
              show if false = true then _ else _
              rw [if_neg Bool.false_ne_true]
              exact ⟨ρ4, S3, acc, xs, (l3.trans l4).trans l5, rl4, hD4, ra.mono (l4.trans l5), p2⟩
            | true =>
              simp only [q2] at p2
              show if true = true then _ else _
              rw [if_pos rfl]
              refine ⟨ρ4, σ2, S3, rl4, re'.mono l5, ?_⟩
              cases q3 : me σ2 S3 with
              | exc xx S4 => simp only [q3] at p2; exact False.elim p2
              | bad => simp only [q3] at p2; exact False.elim p2
              | ok y S4 =>
                simp only [q3] at p2
                intro ρ5 H5 yv l6 rl5 ry
                have mD5 : Dl ∈ ρ5.h := by rw [l6.hid]; exact mD4
                have hD5 : H5 Dl = some (.lst xs) := by rw [l6.kh Dl mD4 (by rw [hD4]; simp)]; exact hD4
                have nv5 : Dl ∉ ρ5.v := (rl5.hh Dl mD5).1
                by_cases hl : acc.length < lim
                · rw [if_pos hl] at p2
                  refine ⟨xs, hD5, by rw [← ra.length]; exact lim_lt hl, ρ5, S4, acc ++ [y], xs ++ [yv], ?_, rl5.grow hD5 trivial mD5, upd_same, ?_, p2⟩
                  · exact Le.grow hD hD5 trivial nv5 (((l3.trans l4).trans l5).trans l6)
                  · exact ((ra.mono ((l4.trans l5).trans l6)).append (.cons ry .nil)).move (Mv.grow hD5 trivial mD5)
                · rw [if_neg hl] at p2
                  exact False.elim p2
/-- [elt for t in iter if ..], nobody changes it -/
theorem se_lcv {elt tg iter : Expr} {ifs : List Expr} {scope : Scope} {own : List (Str × Nat)} {pos : Pos} {mi : MI} {t : TgN} {mt : MT} {me : ME} (n : Nat) (cc : Cc G X W) (hi : SI G X W tg iter mi) (ok : BlkOk X.N X.env.scope scope own) (hv : ∀ i ∈ t.slots, i ∈ own.map (·.2))
    (hg : ∀ (s : Shared) (H : Hp) (C : Addr) (cl : List (Str × Addr)) (fp : List Addr), PG (X.blk s H scope (compEnvC scope cl C X.env) fp) tg (t.tg X.K)) (ht : ∀ (s : Shared) (H : Hp) (C : Addr) (cl : List (Str × Addr)) (fp : List Addr), PTs (X.blk s H scope (compEnvC scope cl C X.env) fp) ifs (tmt G W0 mt))
    (he : ∀ (s : Shared) (H : Hp) (C : Addr) (cl : List (Str × Addr)) (fp : List Addr), SE G (X.blk s H scope (compEnvC scope cl C X.env) fp) W0 elt me) (hs : ∀ x, foldedSetIterable iter X.env x = pure x := by intro _; rfl) :
    SE G X W (.ListComp elt [⟨tg, iter, ifs, 0⟩] scope pos) (eLcV mi t mt me (own.map (·.2)) n) :=
  se_of (pe_lc cc.calm cc.nd hi ok hg ht he hs) fun σ H Q ρ σs S rl re p => lc_read hv (fun ds S2 => .ok (.lv ds) S2) rl re (fun ρ' H' S' ds xs Dl rl' h1 h2 h3 p' => post_ok (S := S') p' rl' (.lv h2 h1 h3)) p
end
end L2.Mi

set_option Elab.async false
set_option linter.all false
set_option maxRecDepth 100000
set_option maxHeartbeats 4000000
/-! Mini, 10: enumerate over tuples and lists, three names at once. -/
namespace PySem
open Sem (wp)
theorem mi_enum_new {v : Value} {o : Obj} {H : Heap → Prop} (B : Begins v o H) :
    Meets (Builtin.«enumerate.__new__» ⟨[.type "enumerate", v], []⟩) (fun _ R s => H s.heap ∧
      R (.ok (.ret (.ref (s.heap.push o).objs.size))) { s with heap := (s.heap.push o).push { cls := .type "enumerate", data := .fields #[.none, .bool false, .ref s.heap.objs.size, rawInt 0, .none, .none] } }) :=
  .of_wp fun prog w A R s h => by
    obtain ⟨hp, g, d, tk, os⟩ := s; obtain ⟨h1, h⟩ := h
    have hsub := sub_enumerate
    have q1 : ∀ {A' : Around} {E : Value → Shared → Prop} {Q : Value → Shared → Prop}, Q (.ref hp.objs.size) ⟨hp.push o, g, d, tk, os⟩ → wpAny (model prog w) A' (pyIter v) Q E ⟨hp, g, d, tk, os⟩ :=
      fun q => B.iter prog w _ _ ⟨hp, g, d, tk, os⟩ _ h1 q
    wp_walk using q1
    refine wpAny_stack_any fun st => wpAny_pure ?_
    split
    · rename_i c _ _ _ _ _
      cases (c == Value.type "enumerate")
      · wp_walk using q1
        exact ⟨_, rfl, h⟩
      · wp_walk using q1
        exact ⟨_, rfl, h⟩
    · wp_walk using q1
      exact ⟨_, rfl, h⟩
section
variable {prog : Program} {w : World} {A : Around} {E : Value → Shared → Prop} {s : Shared}
theorem mi_enum_begins {v : Value} {o : Obj} {H : Heap → Prop} {Q : Value → Shared → Prop} (B : Begins v o H) (h1 : H s.heap)
    (h : ∀ h', IsEnum h' (s.heap.objs.size + 1) s.heap.objs.size 0 .none → h'.get? s.heap.objs.size = some o → h'.objs.size = s.heap.objs.size + 2 →
      (∀ b o, s.heap.get? b = some o → h'.get? b = some o) → Q (.ref (s.heap.objs.size + 1)) { s with heap := h' }) :
    wpAny (model prog w) A (call (.type "enumerate") [v]) Q E s := by
  refine callType_new F.called_enumerate (by decide) (F.typeCall_enumerate_1 _) (F.newCall_enumerate_1 _) (fun obj => F.args_object_init_2 obj _) F.entry_enumerate_new
    (mi_enum_new B) ⟨h1, ?_⟩
  have hz : (s.heap.push o).objs.size = s.heap.objs.size + 1 := Heap.size_push ..
  show _ ∧ _
  rw [hz]
  have he : IsEnum ((s.heap.push o).push { cls := .type "enumerate", data := .fields #[.none, .bool false, .ref s.heap.objs.size, rawInt 0, .none, .none] }) (s.heap.objs.size + 1) s.heap.objs.size 0 .none := by
    have := Heap.get?_push_size (s.heap.push o) (o := { cls := .type "enumerate", data := .fields #[.none, .bool false, .ref s.heap.objs.size, rawInt 0, .none, .none] }) rfl
    rw [hz] at this; exact this
  refine ⟨⟨_, he, rfl⟩, h _ he (Heap.get?_push_of_some _ (Heap.get?_push_size _ B.free)) (by rw [Heap.size_push, hz]) fun b o x => Heap.get?_push_of_some _ (Heap.get?_push_of_some _ x)⟩
end
end PySem
namespace L2
open PySem PySem.Spec PyProof.Rows
/-- a tuple's items with their places -/
def Iet (K : PySem.W.Frag) (a : Addr) : It :=
  ⟨fun i H => ∃ (xs : List V) (x : V), SqT K H a xs ∧ xs[i]? = some x, fun i H v H' => ∃ T x, v = .ref T ∧ H T = none ∧ H' = upd H T (.tup [.int (i : Nat), x]) ∧ ∀ xs, SqT K H a xs → xs[i]? = some x, fun i H => ∃ xs : List V, SqT K H a xs ∧ xs.length = i⟩
theorem mi_turn_enum {P : Program} {w : World} {K : PySem.W.Frag} {elts : List Expr} {kk : Nat} {tpos : Pos} (a e it : Addr) :
    Turn P w K (.Tuple elts kk tpos) (Iet K a) [e, it] e (fun i h => (∃ old, IsEnum h e it ((i : Nat) : Int) old) ∧ h.IsTupleIter it a i ∧ e ≠ it ∧ a ≠ it ∧ a ≠ e) where
  mem := by simp
  obj := fun i h st b hb => by
    obtain ⟨⟨old, he⟩, ⟨o, ho, hc, hd⟩, _⟩ := st
    have e' : b = e ∨ b = it := by simpa using hb
    rcases e' with z | z
    · rw [z]; exact ⟨_, he, fun v q => nomatch q⟩
    · rw [z]; exact ⟨o, ho, fun v q => by rw [hd] at q; cases q⟩
  keep := fun i h h' st k => let ⟨⟨old, he⟩, hi, hne⟩ := st; ⟨⟨old, k e (by simp) _ he⟩, hi.at fun o q => k it (by simp) o q, hne⟩
  item := by
    intro X hP hw hK hc i pins s σ H E I hf st hg
    subst hP hw hK
    obtain ⟨⟨old, he⟩, hit, hne, hai, hae⟩ := st
    obtain ⟨xs, x, hq, hx⟩ := hg
    obtain ⟨its, rv, p, hz⟩ := I.tuple hq
    obtain ⟨u, hu, ru⟩ := rv.get hx
    have hel : e < s.heap.objs.size := Heap.lt_size he
    have hil : it < s.heap.objs.size := by obtain ⟨_, q, _⟩ := hit; exact Heap.lt_size q
    have hin : i < its.toArray.size := by
      obtain ⟨h1, _⟩ := List.getElem?_eq_some_iff.mp hu
      simpa using h1
    have hD : Draws X.prog X.w X.A.in1 it [it, a] its.toArray.size (fun i v => its.toArray[i]? = some v) (fun i h => h.IsTupleIter it a i ∧ h.IsTuple a its.toArray) := Draws.tuple (show X.A.in1.handled = none from I.ok.hd hc) it a hai its.toArray
    refine wpAny_pyNext_enum_itemD hD he ⟨hit, p⟩ hin hne (by simp [hne, Ne.symm hae]) fun y h' tk hy ho hst hT hsz hk => ?_
    have hy' : y = u := by
      have e1 : its[i]? = some y := by simpa using hy
      rw [hu] at e1
      exact (Option.some.inj e1).symm
    subst hy'
    obtain ⟨hit', _⟩ := hst
    refine ⟨_, rfl, wpAny_letOwnedTupleGo_enum (s := { s with heap := h', toks := tk + 1 }) ho fun h'' he' sb => ?_⟩
    have hT2 : h''.get? s.heap.objs.size = some { cls := .type "tuple", data := .seq #[.int i tk, y] } := (sb.2 _ (Nat.ne_of_gt hel)).trans hT
    have new : ObjOk X.prog X.w (upd H s.heap.objs.size (.tup [.int (i : Nat), x])) h'' s.heap.objs.size (.tup [.int (i : Nat), x]) :=
      ⟨by show 2 ≤ sizeLine; decide, [.int i tk, y], .cons ⟨_, rfl⟩ (.cons ru .nil), ⟨_, hT2, rfl, _, rfl⟩⟩
    have I1 : Inv X pins σ (upd H s.heap.objs.size (.tup [.int (i : Nat), x])) { s with heap := h'', toks := tk + 1 } :=
      I.turnedNew (ch := [e, it]) (fun b ob hb q => (sb.2 b (fun z => hb (by simp [z]))).trans (hk b ob (fun z => hb (by simp [z])) (fun z => hb (by simp [z])) q)) hf (Nat.le_refl _) new
    refine ⟨.ref s.heap.objs.size, _, I1, rfl, ⟨_, x, rfl, I.hok.fresh (Nat.le_refl _), rfl, fun ys hy => by rw [I.tuple_inj hy hq]; exact hx⟩, ⟨⟨y, ?_⟩, hit'.at fun o q => (sb.2 it (Ne.symm hne)).trans q, hne, hai, hae⟩, fun b hb => ?_⟩
    · have e1 : ((i + 1 : Nat) : Int) = (i : Int) + 1 := by omega
      rw [e1]; exact he'
    · have hb' : b < s.heap.objs.size := by
        have e' : b = e ∨ b = it := by simpa using hb
        rcases e' with z | z
        · rw [z]; exact hel
        · rw [z]; exact hil
      rw [upd_ne (Nat.ne_of_lt hb')]
      exact (hf b hb).1
  done := by
    intro X hP hw hK hc i pins s σ H E I hf st hg
    subst hP hw hK
    obtain ⟨⟨old, he⟩, hit, hne, hai, hae⟩ := st
    obtain ⟨xs, hq, hx⟩ := hg
    obtain ⟨its, rv, p, hz⟩ := I.tuple hq
    obtain ⟨f0, f1, f2, f3, f4, f5⟩ := hf it (by simp)
    have hl := rv.length
    have hD : Draws X.prog X.w X.A.in1 it [it, a] its.toArray.size (fun i v => its.toArray[i]? = some v) (fun i h => h.IsTupleIter it a i ∧ h.IsTuple a its.toArray) := Draws.tuple (show X.A.in1.handled = none from I.ok.hd hc) it a hai its.toArray
    have hit' : s.heap.IsTupleIter it a its.toArray.size := by
      have : its.toArray.size = i := by simp; omega
      rw [this]; exact hit
    exact wpAny_pyNext_enum_endD hD he ⟨hit', p⟩ fun h' eb => ⟨rfl, I.turned (t' := s.toks) (fun b o hb q => eb b o hb q) f0 f1 f3 f4 f5⟩
  self := fun A i s Q E st h => let ⟨⟨_, he⟩, _⟩ := st; wpAny_pyIter_enum he h
def iEnumT (K : PySem.W.Frag) (ta : TA) : TI := fun σ H R => ta σ H fun vs H1 => ∃ a xs, vs = [.ref a] ∧ SqT K H1 a xs ∧ R (Iet K a) H1
theorem pi_enumT {X : Cx} {e : Expr} {ta : TA} {p pos tpos : Pos} {elts : List Expr} {kk : Nat} (hg : Gl X "enumerate") (hm : X.mg "enumerate" = none) (ha : PA X [e] ta) (hs : starEach [e] X.env = [(false, eval e X.env)] := by rfl) :
    PI X (.Tuple elts kk tpos) (.Call (.Name "enumerate" p) [e] [] pos) (iEnumT X.K ta) := by
  refine ⟨fun pins s σ H R I h => ?_⟩
  refine Call_ (ld_blt I hg hm boot_enumerate (PyProof.Rows.callWith_type1 (thn (ha.run pos pins s σ H _ I h) fun us s1 ⟨vs, H1, I1, r1, q1⟩ => ?_) hs rfl))
  obtain ⟨a, xs, ex, hq, q⟩ := q1
  subst ex
  cases r1 with
  | cons r rr =>
    cases rr
    cases r
    obtain ⟨its, rv, p', hz⟩ := I1.tuple hq
    have hal : a < s1.heap.objs.size := by obtain ⟨_, q, _⟩ := p'; exact Heap.lt_size q
    refine mi_enum_begins (begins_tuple a its.toArray) p' fun h' he hit hsz hk => wpAny_pyIter_enum he ?_
    have I2 : Inv X pins σ H1 { s1 with heap := h' } := I1.kept (t' := s1.toks) hk
    refine ⟨s1.heap.objs.size + 1, [s1.heap.objs.size + 1, s1.heap.objs.size], _, _, H1, rfl, I2, mi_turn_enum a (s1.heap.objs.size + 1) s1.heap.objs.size, ⟨⟨.none, he⟩, ⟨_, hit, rfl, rfl⟩, Nat.succ_ne_self _, Nat.ne_of_lt hal, Nat.ne_of_lt (Nat.lt_succ_of_lt hal)⟩, fun b hb => ?_, q⟩
    have e' : b = s1.heap.objs.size + 1 ∨ b = s1.heap.objs.size := by simpa using hb
    have hle : s1.heap.objs.size ≤ b := by
      rcases e' with z | z
      · rw [z]; exact Nat.le_add_right _ _
      · rw [z]; exact Nat.le_refl _
    exact I1.fpOk hle (I1.hok.fresh hle)
end L2
namespace L2.Mi
open PySem PySem.Spec PyProof.Rows
def enT (ds : List D) : Src := fun k _ => match ds[k]? with
  | some x => some (some (.tup [.int (k : Nat), x]))
  | none => if k = ds.length then some none else none
def iEnT (m : ME) : MI := fun σ S => (m σ S).bind fun d S1 => match tupD d with
  | some ds => .ok (enT ds) S1
  | none => .bad
def enL (d : D) : Src := fun k S => match listAt S d with
  | some ds => (match ds[k]? with | some x => some (some (.tup [.int (k : Nat), x])) | none => some none)
  | none => none
def iEnL (m : ME) : MI := fun σ S => (m σ S).bind fun d S1 => match listAt S1 d with
  | some ds => .ok (enL d) S1
  | none => .bad
section
variable {G : Gx} {X : Cx} {W : WX} {e tg : Expr} {m : ME} {pos p : Pos}
theorem jr_enT {ρ0 : Wd} {H0 : Hp} {ds : List D} {d : D} {a : Addr} (rv : RV G ρ0 H0 d (.ref a)) (hd : tupD d = some ds) : JR G ρ0 H0 (enT ds) (Iet G.K a) := by
  intro ρ S H l rl i
  obtain ⟨b, xs, e1, hq, hr⟩ := tupD_rel (rv.move l) hd
  cases e1
  refine ⟨fun e h => ?_, fun h => ?_⟩
  · unfold enT at h
    cases q : ds[i]? with
    | none =>
      simp only [q] at h
      split at h <;> cases h
    | some d1 =>
      simp only [q] at h
      cases h
      obtain ⟨x, h1, h2⟩ := hr.get q
      refine ⟨⟨xs, x, hq, h1⟩, fun y H' hy => ?_⟩
      obtain ⟨T, x', e2, hT, e3, hy⟩ := hy
      have e4 := hy xs hq
      rw [h1] at e4
      cases e4
      subst e2 e3
      exact ⟨Le.new hT, rl.other hT, .tup upd_same (.cons (.int _) (.cons (h2.mono (Le.new hT)) .nil))⟩
  · unfold enT at h
    cases q : ds[i]? with
    | some d1 => simp only [q] at h; cases h
    | none =>
      simp only [q] at h
      by_cases hi : i = ds.length
      · exact ⟨xs, hq, by rw [← hr.length]; exact hi.symm⟩
      · rw [if_neg hi] at h; cases h
theorem jr_enL {ρ0 : Wd} {H0 : Hp} {d : D} {a : Addr} (rv : RV G ρ0 H0 d (.ref a)) : JR G ρ0 H0 (enL d) (Ite G.K a) := by
  intro ρ S H l rl i
  refine ⟨fun e h => ?_, fun h => ?_⟩
  · unfold enL at h
    cases q0 : listAt S d with
    | none => simp only [q0] at h; cases h
    | some ds =>
      obtain ⟨b, xs, e1, hq, hr⟩ := listAt_rel rl (rv.move l) q0
      cases e1
      cases q : ds[i]? with
      | none => simp only [q0, q] at h; cases h
      | some d1 =>
        simp only [q0, q] at h
        cases h
        obtain ⟨x, h1, h2⟩ := hr.get q
        refine ⟨⟨xs, x, hq, h1⟩, fun y H' hy => ?_⟩
        obtain ⟨T, x', e2, hT, e3, hy⟩ := hy
        have e4 := hy xs hq
        rw [h1] at e4
        cases e4
        subst e2 e3
        exact ⟨Le.new hT, rl.other hT, .tup upd_same (.cons (.int _) (.cons (h2.mono (Le.new hT)) .nil))⟩
  · unfold enL at h
    cases q0 : listAt S d with
    | none => simp only [q0] at h; cases h
    | some ds =>
      obtain ⟨b, xs, e1, hq, hr⟩ := listAt_rel rl (rv.move l) q0
      cases e1
      cases q : ds[i]? with
      | some d1 => simp only [q0, q] at h; cases h
      | none => exact ⟨xs, hq, by rw [← hr.length]; exact List.getElem?_eq_none_iff.mp q⟩
variable {elts : List Expr} {kk : Nat} {tpos : Pos}
theorem one_go {α β : Type} {R : Wd → Hp → α → β → Prop} {ρ : Wd} {H : Hp} {σs : En} {S : Store} {Q : β → Hp → Prop} {E : XK} {f : D → Store → Res α} (p : PostR G R ρ H ((m σs S).bind f) Q E) {Q1 : List V → Hp → Prop}
    (k : ∀ ρ1 H1 S1 d x, Le G ρ H ρ1 H1 → Rl G ρ1 S1 H1 → RV G ρ1 H1 d x → PostR G R ρ1 H1 (f d S1) Q E → Q1 [x] H1) : PostA G ρ H (aList [m] σs S) Q1 E := by
  unfold aList aList
  cases q : m σs S with
  | ok d S1 =>
    rw [q] at p
    intro ρ1 H1 xs l1 rl1 rv1
    obtain ⟨x, rfl, r⟩ := rvs1 rv1
    exact k ρ1 H1 S1 d x l1 rl1 r (PostR.le (r := f d S1) p l1)
  | exc x S1 => rw [q] at p; exact p
  | bad => rw [q] at p; exact p
theorem si_enT (cc : Cc G X W) (h : SE G X W e m) (hg : Gl X "enumerate") (hm : X.mg "enumerate" = none) (hs : starEach [e] X.env = [(false, eval e X.env)] := by rfl) : SI G X W (.Tuple elts kk tpos) (.Call (.Name "enumerate" p) [e] [] pos) (iEnT m) := by
  refine si_of (pi_enumT hg hm (sa_cons h sa_nil hs) hs) fun σ H R ρ σs S rl re p => ?_
  refine ⟨ρ, σs, S, rl, re, one_go p fun ρ1 H1 S1 d x l1 rl1 rv1 p1 => ?_⟩
  cases q : tupD d with
  | none => simp only [q] at p1; exact p1.elim
  | some ds =>
    simp only [q] at p1
    obtain ⟨a, xs, rfl, hq, hr⟩ := tupD_rel rv1 q
    refine ⟨a, xs, rfl, by rw [cc.k]; exact hq, ?_⟩
    rw [cc.k]
    exact p1 ρ1 H1 _ Le.refl rl1 (jr_enT rv1 q)
theorem si_enL (cc : Cc G X W) (h : SE G X W e m) (hg : Gl X "enumerate") (hm : X.mg "enumerate" = none) (hs : starEach [e] X.env = [(false, eval e X.env)] := by rfl) : SI G X W (.Tuple elts kk tpos) (.Call (.Name "enumerate" p) [e] [] pos) (iEnL m) := by
  refine si_of (pi_enum hg hm (sa_cons h sa_nil hs) hs) fun σ H R ρ σs S rl re p => ?_
  refine ⟨ρ, σs, S, rl, re, one_go p fun ρ1 H1 S1 d x l1 rl1 rv1 p1 => ?_⟩
  cases q : listAt S1 d with
  | none => simp only [q] at p1; exact p1.elim
  | some ds =>
    simp only [q] at p1
    obtain ⟨a, xs, rfl, hq, hr⟩ := listAt_rel rl1 rv1 q
    refine ⟨a, xs, rfl, by rw [cc.k]; exact hq, ?_⟩
    rw [cc.k]
    exact p1 ρ1 H1 _ Le.refl rl1 (jr_enL rv1)
/-- a, b, c = x, y, z -/
def sPar3 (i j l : Nat) (a b c : ME) : MS := fun σ S => match aList [a, b, c] σ S with
  | .ok [x, y, z] S1 => .nx (((σ.set i (some x)).set j (some y)).set l (some z)) S1
  | .exc x S1 => .exc x σ S1
  | _ => .bad
theorem ss_par3 {a b c : Expr} {ma mb mc : ME} {i j l : Nat} {x y z : Str} {px py pz pt : Pos} {kt k2 pt2} (hc : X.calm = true) (hN : X.N.Nodup) (hi : X.N[i]? = some x) (hj : X.N[j]? = some y) (hl : X.N[l]? = some z) (hij : i ≠ j) (hil : i ≠ l) (hjl : j ≠ l)
    (hx : X.env.scope.names.lookup x = some .local) (hy : X.env.scope.names.lookup y = some .local) (hz : X.env.scope.names.lookup z = some .local) (ha : SA G X W [a, b, c] (aList [ma, mb, mc]))
    (hs : swappedStores [.Tuple [.Name x px, .Name y py, .Name z pz] kt pt] (.Tuple [a, b, c] k2 pt2) X.env = pure (some [x, y, z]) := by rfl)
    (hs2 : swapsWithSole [.Tuple [.Name x px, .Name y py, .Name z pz] kt pt] (.Tuple [a, b, c] k2 pt2) pos.line X.env = pure false := by rfl) :
    SS G X W (.Assign [.Tuple [.Name x px, .Name y py, .Name z pz] kt pt] (.Tuple [a, b, c] k2 pt2) pos) (sPar3 i j l ma mb mc) := by
  refine ss_of (ps_par3 hc hN hi hj hl hij hil hjl hx hy hz ha hs hs2) fun σ H Dn ρ σs S rl re p => ?_
  refine ⟨ρ, σs, S, rl, re, ?_⟩
  unfold sPar3 at p
  cases q : aList [ma, mb, mc] σs S with
  | ok ds S1 =>
    rw [q] at p
    have hl : ds.length = 3 := aList_len q
    match ds, hl, p with
    | [d1, d2, d3], _, p =>
      intro ρ1 H1 vs l1 rl1 rv1
      cases rv1 with
      | cons r1 r2 =>
        cases r2 with
        | cons r2 r3 =>
          cases r3 with
          | cons r3 r4 =>
            cases r4
            exact ⟨_, _, _, rfl, p ρ1 H1 _ l1 rl1 ((((re.mono l1).set i r1).set j r2).set l r3)⟩
  | exc x S1 =>
    rw [q] at p
    exact fun ρ1 H1 c dd l1 rl1 rx => p ρ1 H1 σ c dd l1 rl1 (re.mono l1) rx
  | bad => rw [q] at p; exact p
end
end L2.Mi

set_option Elab.async false
set_option linter.all false
set_option maxRecDepth 100000
set_option maxHeartbeats 4000000
/-! Mini, 11: what the top has written, told by one run; defs with defaults; a law's end. -/
namespace L2.Mi
open PySem PySem.Spec PyProof.Rows
abbrev Fg := PySem.W.Frag
theorem ba {a b : Bool} (h : (a && b) = true) : a = true ∧ b = true := Bool.and_eq_true_iff.mp h
/-! ### constants of the top -/
/-- the value u is the constant d: tuples and lists by their items -/
def kvB (K : Fg) : Nat → D → Value → Bool
  | 0, _, _ => false
  | n + 1, d, u => match d, u with
    | .non, .none => true
    | .bl b, .bool c => b == c
    | .int i, .int j _ => decide (i = j)
    | .str x, .str y _ => decide (y.cps.toList = x)
    | .ty t, .type m => decide (t = m)
    | .kt ds, .ref a => (match K.lookup a with
      | some ⟨.type c, _, .seq its _, _⟩ => decide (c = "tuple") && (decide (its.size ≤ sizeLine) && (decide (ds.length = its.toList.length) && (ds.zip its.toList).all fun q => kvB K n q.1 q.2))
      | _ => false)
    | .fl ds, .ref a => (match K.lookup a with
      | some ⟨.type c, none, .seq its _, _⟩ => decide (c = "list") && (decide (its.size ≤ sizeLine) && (decide (ds.length = its.toList.length) && (ds.zip its.toList).all fun q => kvB K n q.1 q.2))
      | _ => false)
    | _, _ => false
section
variable {G : Gx}
theorem kv_all {P : D → Value → Prop} (h : ∀ d u, P d u → ∃ x, RelV x u ∧ ∀ ρ H, RV G ρ H d x) : ∀ {ds : List D} {us : List Value}, ds.length = us.length → (∀ q ∈ ds.zip us, P q.1 q.2) → ∃ xs, Vals xs us ∧ ∀ ρ H, RVs G ρ H ds xs
  | [], [], _, _ => ⟨[], .nil, fun _ _ => .nil⟩
  | [], _ :: _, e, _ => by cases e
  | _ :: _, [], e, _ => by cases e
  | d :: ds, u :: us, e, k => by
    obtain ⟨x, r1, r2⟩ := h d u (k (d, u) (by simp))
    obtain ⟨xs, s1, s2⟩ := kv_all (P := P) h (ds := ds) (us := us) (by simpa using e) fun q hq => k q (by simp [hq])
    exact ⟨x :: xs, .cons r1 s1, fun ρ H => .cons (r2 ρ H) (s2 ρ H)⟩
theorem kvB_ok : ∀ (n : Nat) (d : D) (u : Value), kvB G.K n d u = true → ∃ x, RelV x u ∧ ∀ ρ H, RV G ρ H d x
  | 0, _, _, h => by cases h
  | n + 1, d, u, h => by
    unfold kvB at h
    split at h
    · exact ⟨.non, rfl, fun _ _ => .non⟩
    · rename_i b c
      have e : b = c := eq_of_beq h
      subst e
      exact ⟨.bl b, rfl, fun _ _ => .bl b⟩
    · rename_i i j t
      have e : i = j := of_decide_eq_true h
      subst e
      exact ⟨.int i, ⟨t, rfl⟩, fun _ _ => .int i⟩
    · rename_i x y t
      have e : y.cps.toList = x := of_decide_eq_true h
      subst e
      exact ⟨.str y, ⟨t, rfl⟩, fun _ _ => rv_str y⟩
    · rename_i t m
      have e : t = m := of_decide_eq_true h
      subst e
      exact ⟨.ty t, rfl, fun _ _ => .ty t⟩
    · rename_i ds a
      split at h
      · rename_i c od its m sl q
        obtain ⟨h1, h⟩ := ba h
        obtain ⟨h2, h⟩ := ba h
        obtain ⟨h3, h4⟩ := ba h
        obtain ⟨xs, r1, r2⟩ := kv_all (G := G) (P := fun d u => kvB G.K n d u = true) (kvB_ok n) (of_decide_eq_true h3) fun q hq => List.all_eq_true.mp h4 q hq
        exact ⟨.ref a, rfl, fun ρ H => .kt (.inr ⟨_, its, m, q, congrArg Value.type (of_decide_eq_true h1), rfl, of_decide_eq_true h2, r1⟩) (r2 ρ H)⟩
      · cases h
    · rename_i ds a
      split at h
      · rename_i c its m sl q
        obtain ⟨h1, h⟩ := ba h
        obtain ⟨h2, h⟩ := ba h
        obtain ⟨h3, h4⟩ := ba h
        obtain ⟨xs, r1, r2⟩ := kv_all (G := G) (P := fun d u => kvB G.K n d u = true) (kvB_ok n) (of_decide_eq_true h3) fun q hq => List.all_eq_true.mp h4 q hq
        exact ⟨.ref a, rfl, fun ρ H => .fl (.inr (.inr ⟨_, its, m, q, congrArg Value.type (of_decide_eq_true h1), rfl, rfl, of_decide_eq_true h2, r1⟩)) (r2 ρ H)⟩
      · cases h
    · cases h
end
/-! ### addresses by names -/
def pgA (K : Fg) (C : Str) (f : Str) : Addr := match PySem.W.recIn K (He.ma K (He.ga K C) f) "property" with
  | some (.ref g :: _) => g
  | _ => 0
inductive Pth where
  | g (x : Str) | m (C x : Str) | p (C x : Str)
def Pth.ad (K : Fg) : Pth → Addr
  | .g x => He.ga K x
  | .m C x => He.ma K (He.ga K C) x
  | .p C x => pgA K C x
/-! ### defs -/
structure DefM where
  pth : Pth
  name : Str
  qual : Str
  st : Stmt
  dfl : List D := []
def DefM.val (d : DefM) : He.FnW := some (d.name, d.qual, defArgs d.st, .stmts (defBody d.st), defScope d.st, mainGlobals, [], builtinsNs)
def dfB (K : Fg) (dV : Value) (ds : List D) : Bool := match ds with
  | [] => (match dV with | .none => true | _ => false)
  | ds => (match dV with
    | .ref T => (match K.lookup T with
      | some ⟨_, _, .seq its _, _⟩ => decide (ds.length = its.toList.length) && (ds.zip its.toList).all fun q => kvB K 8 q.1 q.2
      | _ => false)
    | _ => false)
def DefM.ok (K : Fg) (d : DefM) : Bool := PySem.W.keepIn K (.ref (d.pth.ad K)) && (match K.lookup (d.pth.ad K) with
  | some ⟨_, _, .func fd, _⟩ => PySem.W.codeIn K fd.code d.qual && dfB K fd.defaults d.dfl
  | _ => false)
def fnM (K : Fg) (a : Addr) : He.FnW := match K.lookup a with
  | some ⟨_, _, .func fd, _⟩ => some (fd.name, fd.qualname, fd.params, fd.body, fd.scope, fd.globals, fd.closure, fd.builtins)
  | _ => none
theorem dfB_ok {G : Gx} {dV : Value} {ds : List D} (h : dfB G.K dV ds = true) : ∃ dvs, DflV G.K dV dvs ∧ ∀ ρ H, RVs G ρ H ds dvs := by
  unfold dfB at h
  split at h
  · split at h
    · exact ⟨[], .inl ⟨rfl, rfl⟩, fun _ _ => .nil⟩
    · cases h
  · rename_i hne
    split at h
    · rename_i T
      split at h
      · rename_i oc od its m sl q
        obtain ⟨h1, h2⟩ := ba h
        obtain ⟨xs, r1, r2⟩ := kv_all (G := G) (P := fun d u => kvB G.K 8 d u = true) (kvB_ok 8) (of_decide_eq_true h1) fun q hq => List.all_eq_true.mp h2 q hq
        refine ⟨xs, .inr ⟨fun e => ?_, T, _, its.toList, m, rfl, q, by simp, r1⟩, r2⟩
        subst e
        have z := (r2 ⟨[], []⟩ fun _ => none).length
        cases ds with
        | nil => exact hne rfl
        | cons _ _ => cases z
      · cases h
    · cases h
/-- a def as the walk takes it -/
structure FnM (G : Gx) (d : DefM) where
  fd : FuncData
  dvs : List V
  F : FunD G.K d.name d.qual (defArgs d.st) (defBody d.st) (defScope d.st) dvs [] (d.pth.ad G.K) fd
  rd : ∀ ρ H, RVs G ρ H d.dfl dvs
theorem fnM_ok {G : Gx} {d : DefM} (e : fnM G.K (d.pth.ad G.K) = d.val) (c : d.ok G.K = true) : Nonempty (FnM G d) := by
  obtain ⟨kp, c2⟩ := ba c
  unfold fnM at e
  cases q : G.K.lookup (d.pth.ad G.K) with
  | none => rw [q] at c2; cases c2
  | some o =>
    obtain ⟨oc, od, dt, osl⟩ := o
    rw [q] at c2 e
    cases dt with
    | func fd =>
      obtain ⟨n1, n2, n3, n4, n5, n6, n7, n8, n9, n10, n11, n12, n13, n14, n15⟩ := fd
      have e2 : (some (n1, n2, n3, n4, n5, n6, n7, n15) : He.FnW) = some (d.name, d.qual, defArgs d.st, .stmts (defBody d.st), defScope d.st, mainGlobals, [], builtinsNs) := e
      simp only [Option.some.injEq, Prod.mk.injEq] at e2
      obtain ⟨h1, h2, h3, h4, h5, h6, h7, h8⟩ := e2
      subst h1 h2 h3 h4 h5 h6 h7 h8
      obtain ⟨k1, k2⟩ := ba (show (PySem.W.codeIn G.K n13 d.qual && dfB G.K n8 d.dfl) = true from c2)
      obtain ⟨dvs, k3, k4⟩ := dfB_ok k2
      exact ⟨⟨_, dvs, ⟨⟨oc, od, n8, n9, n10, n11, n12, n13, n14, osl, rfl, q, k1, k3, .inl rfl⟩, kp⟩, k4⟩⟩
    | _ => cases c2
/-! ### calls with defaults -/
/-- between n less the defaults and n arguments -/
def callD (n : Nat) (dfl : List D) (m : FN) : FN := fun xs S => if xs.length ≤ n ∧ n ≤ xs.length + dfl.length then m (xs ++ dfl.drop (dfl.length + xs.length - n)) S else .bad
theorem RVs.drop {G : Gx} {ρ : Wd} {H : Hp} : ∀ (n : Nat) {ds : List D} {xs : List V}, RVs G ρ H ds xs → RVs G ρ H (ds.drop n) (xs.drop n)
  | 0, _, _, r => r
  | _ + 1, _, _, .nil => .nil
  | n + 1, _, _, .cons _ t => RVs.drop n t
theorem cal_defD {G : Gx} {P : Program} {w : World} {mg : Str → Option Value} {base : Heap} {k : Nat} {f : Addr} {fd : FuncData} {ps : List Str} {m : FN} {n : Nat} {dvs : List V} {dfl : List D}
    (F : FnOk P w G.K mg base (L2.CX P w) k f fd ps (spF G m n)) (hn : n = ps.length) (hb : ∀ j, j ≤ dvs.length → ∃ ds, Vals (dvs.drop j) ds ∧ Binds G.K fd ps ds) (hdd : ∀ ρ H, RVs G ρ H dfl dvs) : Cal G P w mg base k f (callD n dfl m) := by
  intro A outer s H us vs Q E hr e0 r h
  obtain ⟨ρ, S, es, rl, rv, p⟩ := h
  unfold callD at p
  by_cases hl : es.length ≤ n ∧ n ≤ es.length + dfl.length
  · rw [if_pos hl] at p
    have hle := (hdd ρ H).length
    obtain ⟨ds, hd, hbi⟩ := hb (dfl.length + es.length - n) (by omega)
    have hlen : vs.length + (dvs.drop (dfl.length + es.length - n)).length = n := by rw [← rv.length, List.length_drop]; omega
    have KX : G.K.In s.heap := e0.mod.kin.keeps fun b o e => (e0.bs b o e).1
    refine F.run A outer s H ⟨us, []⟩ (us ++ ds) (vs ++ dvs.drop (dfl.length + es.length - n)) Q E hr e0 (hbi s us KX ?_) (r.append hd) ⟨ρ, S, _, ?_, rl, rv.append ((hdd ρ H).drop _), p⟩
    · rw [List.length_append, ← r.length, ← hd.length, ← hn]; exact hlen
    · rw [List.length_append]; exact hlen
  · rw [if_neg hl] at p
    exact p.elim
/-! ### facts -/
inductive Fm where
  | glo (x : Str) | free (x : Str) | con (x : Str) (d : D)
  | cls (C : Str) | noat (C f : Str) | meth (C m : Str) | mkr (C : Str) | prop (C f : Str)
  | bin (C : Str) (o : Operator) | un (C m : Str) | ne (C : Str) | callo (C : Str)
def clB (K : Fg) (C : Addr) : Bool := PySem.W.plainGet K C Str.empty && (PySem.W.hasDictIn K C && (PySem.W.plainOver K C && (He.eqO (PySem.W.findIn K (.ref C) "__setattr__") (some (some (.builtin "object.__setattr__"))) &&
  (He.eqO (PySem.W.findIn K (.ref C) "__class__") (some (some (.builtin "object.__class__"))) && (He.eqO (PySem.W.specialIn K (.builtin "object.__class__") "__get__") (some (some (.builtin "getset_descriptor.__get__"))) &&
  (decide (PySem.W.takesIn K (.builtin "object.__class__") = some true) && decide (PySem.W.mroIn K C (.type "object") = some true)))))))
theorem clB_ok {K : Fg} {C : Addr} (h : clB K C = true) : CI K C := by
  obtain ⟨h1, h⟩ := ba h
  obtain ⟨h2, h⟩ := ba h
  obtain ⟨h3, h⟩ := ba h
  obtain ⟨h4, h⟩ := ba h
  obtain ⟨h5, h⟩ := ba h
  obtain ⟨h6, h⟩ := ba h
  obtain ⟨h7, h8⟩ := ba h
  exact ⟨⟨h1, h2, h3, He.eqO_ok h4⟩, He.eqO_ok h5, He.eqO_ok h6, of_decide_eq_true h7, of_decide_eq_true h8⟩
def fnAt (K : Fg) (C : Addr) (m : Str) : Bool := He.eqO (PySem.W.findIn K (.ref C) m) (some (some (.ref (He.ma K C m)))) && PySem.W.isFn K (.ref (He.ma K C m))
theorem fnAt_ok {K : Fg} {C : Addr} {m : Str} (h : fnAt K C m = true) : PySem.W.findIn K (.ref C) m = some (some (.ref (He.ma K C m))) ∧ PySem.W.isFn K (.ref (He.ma K C m)) = true := by
  obtain ⟨h1, h2⟩ := ba h
  exact ⟨He.eqO_ok h1, h2⟩
def refNone : Option (Option Value) → Bool
  | some none => true
  | some (some (.ref _)) => true
  | _ => false
theorem refNone_ok {o : Option (Option Value)} (h : refNone o = true) : ∃ rc, o = some rc ∧ (rc = none ∨ ∃ g : Addr, rc = some (.ref g)) := by
  unfold refNone at h
  split at h
  · exact ⟨_, rfl, .inl rfl⟩
  · exact ⟨_, rfl, .inr ⟨_, rfl⟩⟩
  · cases h
def Fm.ok (K : Fg) : Fm → Bool
  | .glo x => He.eqO (PySem.W.nsIn K mainGlobals x) (some (some (.ref (He.ga K x)))) && PySem.W.keepIn K (.ref (He.ga K x))
  | .free x => He.eqO (PySem.W.nsIn K mainGlobals x) (some none)
  | .con x d => (match PySem.W.nsIn K mainGlobals x with | some (some u) => kvB K 8 d u | _ => false)
  | .cls C => clB K (He.ga K C)
  | .noat C f => He.eqO (PySem.W.findIn K (.ref (He.ga K C)) f) (some none)
  | .meth C m => fnAt K (He.ga K C) m && PySem.W.keepIn K (.ref (He.ma K (He.ga K C) m))
  | .mkr C => PySem.W.makesIn K (He.ga K C) && (fnAt K (He.ga K C) "__init__" && PySem.W.keepIn K (.ref (He.ga K C)))
  | .prop C f => He.eqO (PySem.W.findIn K (.ref (He.ga K C)) f) (some (some (.ref (He.ma K (He.ga K C) f)))) && (He.eqO (PySem.W.specialIn K (.ref (He.ma K (He.ga K C) f)) "__get__") (some (some (.builtin "property.__get__"))) &&
    (decide (PySem.W.takesIn K (.ref (He.ma K (He.ga K C) f)) = some true) && (match PySem.W.recIn K (He.ma K (He.ga K C) f) "property" with | some (.ref _ :: _) => true | _ => false)))
  | .bin C o => PySem.W.selfFirst K (He.ga K C) && (fnAt K (He.ga K C) (PySem.dunder o.info.2) && (refNone (PySem.W.findIn K (.ref (He.ga K C)) (dunderR o.info.2)) && ((PySem.W.findIn K (.type "int") (PySem.dunder o.info.2)).isSome &&
    ((PySem.W.findIn K (.type "int") (dunderR o.info.2)).isSome && decide (PySem.W.subIn K (.type "int") (.ref (He.ga K C)) = some false)))))
  | .un C m => fnAt K (He.ga K C) m
  | .ne C => He.eqO (PySem.W.findIn K (.ref (He.ga K C)) "__ne__") (some (some (.builtin "object.__ne__"))) && fnAt K (He.ga K C) "__eq__"
  | .callo C => fnAt K (He.ga K C) "__call__" && PySem.W.fnIn K (He.ma K (He.ga K C) "__call__")
/-! ### a law's program -/
structure Lw where
  cls : List Str
  flds : List Str
  isi : List (Tag × Tag × Bool)
  xcl : List Tag
  defs : List DefM
  fa : List Fm
  fok : (decide flds.Nodup && flds.all fun x => decide (x.cps.size ≠ 1) || x.cps.all fun c => decide (c < 2000000)) = true
def fldOf (l : List Str) (i : Nat) : Str := match l[i]? with | some x => x | none => ⟨#[2000000 + i]⟩
theorem fldOf_inj {l : List Str} (h : (decide l.Nodup && l.all fun x => decide (x.cps.size ≠ 1) || x.cps.all fun c => decide (c < 2000000)) = true) (i j : Nat) (e : fldOf l i = fldOf l j) : i = j := by
  obtain ⟨h1, h2⟩ := ba h
  have nd : l.Nodup := of_decide_eq_true h1
  have odd : ∀ x ∈ l, ∀ k, x ≠ ⟨#[2000000 + k]⟩ := fun x hx k ex => by
    have z := List.all_eq_true.mp h2 x hx
    rw [ex] at z
    simp at z
    omega
  unfold fldOf at e
  cases q : l[i]? with
  | some x =>
    cases q2 : l[j]? with
    | some y =>
      rw [q, q2] at e
      have e' : x = y := e
      subst e'
      obtain ⟨a1, e1⟩ := List.getElem?_eq_some_iff.mp q
      obtain ⟨a2, e2⟩ := List.getElem?_eq_some_iff.mp q2
      have pw := List.pairwise_iff_getElem.mp nd
      rcases Nat.lt_trichotomy i j with h | h | h
      · exact absurd (e1.trans e2.symm) (pw i j a1 a2 h)
      · exact h
      · exact absurd (e2.trans e1.symm) (pw j i a2 a1 h)
    | none =>
      rw [q, q2] at e
      exact absurd e (odd x (List.mem_of_getElem? q) j)
  | none =>
    cases q2 : l[j]? with
    | some y =>
      rw [q, q2] at e
      exact absurd e.symm (odd y (List.mem_of_getElem? q2) i)
    | none =>
      rw [q, q2] at e
      have e' : (⟨#[2000000 + i]⟩ : Str) = ⟨#[2000000 + j]⟩ := e
      simp at e'
      exact e'
def Lw.clsA (L : Lw) (K : Fg) (c : Nat) : Option Addr := (L.cls[c]?).map (He.ga K)
def Lw.isiF (L : Lw) (t u : Tag) : Option Bool := (L.isi.find? fun q => q.1 == t && q.2.1 == u).map (·.2.2)
def Lw.isiB (L : Lw) (K : Fg) : Bool := L.isi.all fun q => match tagVal (L.clsA K) q.1, tagVal (L.clsA K) q.2.1 with
  | some a, some b => decide (PySem.W.kitOne K a b = some q.2.2)
  | _, _ => true
def Lw.ex (L : Lw) (K : Fg) : Bool := (L.fa.all fun f => f.ok K) && (L.isiB K && ((L.cls.all fun x => clB K (He.ga K x)) && L.defs.all fun d => d.ok K))
abbrev AlM : Type := Bool × List He.FnW
def Lw.obs (L : Lw) (K : Fg) : AlM := (L.ex K, L.defs.map fun d => fnM K (d.pth.ad K))
def Lw.vl (L : Lw) : AlM := (true, L.defs.map DefM.val)
def Lw.Says (L : Lw) (K : Fg) : Prop := L.obs K = L.vl
def Lw.obsG (L : Lw) (n : Nat) (g : Addr → Option Obj) : AlM := L.obs (He.frG g (He5.asA g n))
def Lw.hook (L : Lw) (n : Nat) : PySem.W.Hook where
  α := AlM
  obs := fun s => L.obsG n s.heap.get?
  val := fun _ => L.vl
  says := fun _ h => ∃ K : Fg, K.In h ∧ L.Says K
  of := fun _ _ e => ⟨_, He.frG_in, e⟩
  keeps := fun _ _ _ ⟨K, hK, c⟩ k => ⟨K, PySem.W.Frag.In.keeps hK k, c⟩
theorem Lw.obsG_eq {L : Lw} {n : Nat} {g : Addr → Option Obj} {s : Shared} (h : ∀ a, g a = s.heap.get? a) : L.obsG n g = (L.hook n).obs s := by
  have e : g = s.heap.get? := funext h
  rw [e] <;> rfl
section
variable {L : Lw} {K : Fg}
theorem Lw.Says.all (c : L.Says K) : L.ex K = true := congrArg (fun z : AlM => z.1) c
theorem Lw.Says.fact (c : L.Says K) (i : Nat) {f : Fm} (h : L.fa[i]? = some f) : f.ok K = true := List.all_eq_true.mp (ba c.all).1 f (List.mem_of_getElem? h)
theorem Lw.Says.ci (c : L.Says K) (i : Nat) (C : Addr) (h : L.clsA K i = some C) : CI K C := by
  unfold Lw.clsA at h
  cases q : L.cls[i]? with
  | none => rw [q] at h; cases h
  | some x =>
    rw [q] at h
    cases h
    exact clB_ok (List.all_eq_true.mp (ba (ba (ba c.all).2).2).1 x (List.mem_of_getElem? q))
theorem Lw.Says.isi (c : L.Says K) (t u : Tag) (b : Bool) (tv uv : Value) (h : L.isiF t u = some b) (h1 : tagVal (L.clsA K) t = some tv) (h2 : tagVal (L.clsA K) u = some uv) : PySem.W.kitOne K tv uv = some b := by
  unfold Lw.isiF at h
  cases q : L.isi.find? fun q => q.1 == t && q.2.1 == u with
  | none => rw [q] at h; cases h
  | some z =>
    rw [q] at h
    have hb : z.2.2 = b := by simpa using h
    have hz := List.find?_some q
    have hm := List.mem_of_find?_eq_some q
    obtain ⟨e1, e2⟩ := ba hz
    have e1 := eq_of_beq e1
    have e2 := eq_of_beq e2
    have hk := List.all_eq_true.mp (ba (ba c.all).2).1 z hm
    rw [e1, e2, h1, h2] at hk
    rw [of_decide_eq_true hk, hb]
/-- the tables -/
def Lw.gx (L : Lw) (K : Fg) (c : L.Says K) : Gx where
  K := K
  cls := L.clsA K
  fld := fldOf L.flds
  inj := fldOf_inj L.fok
  clsv := fun i => (L.xcl[i]?).bind (tagVal (L.clsA K))
  ci := c.ci
  isi := L.isiF
  isi_ok := c.isi
theorem Lw.Says.fn (c : L.Says K) (i : Nat) {d : DefM} (h : L.defs[i]? = some d) : Nonempty (FnM (L.gx K c) d) := by
  have e : L.defs.map (fun d => fnM K (d.pth.ad K)) = L.defs.map DefM.val := congrArg (fun z : AlM => z.2) c
  have e2 : (L.defs.map fun d => fnM K (d.pth.ad K))[i]? = (L.defs.map DefM.val)[i]? := by rw [e]
  rw [List.getElem?_map, List.getElem?_map, h] at e2
  exact fnM_ok (G := L.gx K c) (Option.some.inj e2) (List.all_eq_true.mp (ba (ba (ba c.all).2).2).2 d (List.mem_of_getElem? h))
end
end L2.Mi

set_option Elab.async false
set_option linter.all false
set_option maxRecDepth 100000
set_option maxHeartbeats 4000000
/-! Mini, 12: the facts as the derivations take them; a law's end. -/
namespace L2.Mi
open PySem PySem.Spec PyProof.Rows
def lv : Nat → Nat
  | 0 => 0
  | n + 1 => lv n + 2
theorem lv_eq : ∀ n, lv n = 2 * n
  | 0 => rfl
  | n + 1 => by unfold lv; rw [lv_eq n]; omega
/-- the module's names -/
def Ns (K : Fg) (mg : Str → Option Value) : Prop := ∃ h : Heap, K.In h ∧ h.Ns mainGlobals mg
section
variable {L : Lw} {K : Fg} {c : L.Says K} {mg : Str → Option Value} {x C f m : Str}
theorem Ns.glo (N : Ns K mg) (c : L.Says K) (i : Nat) (h : L.fa[i]? = some (.glo x) := by rfl) : mg x = some (.ref (He.ga K x)) := by
  obtain ⟨hp, kin, ns⟩ := N
  exact PySem.W.mg_of kin ns (He.eqO_ok (ba (c.fact i h)).1)
theorem keep_of (c : L.Says K) (i : Nat) (h : L.fa[i]? = some (.glo x) := by rfl) : PySem.W.keepIn K (.ref (He.ga K x)) = true := (ba (c.fact i h)).2
theorem Ns.free (N : Ns K mg) (c : L.Says K) (i : Nat) (h : L.fa[i]? = some (.free x) := by rfl) : mg x = none := by
  obtain ⟨hp, kin, ns⟩ := N
  exact PySem.W.mg_none_of kin ns (He.eqO_ok (c.fact i h))
theorem Ns.con (N : Ns K mg) (c : L.Says K) (i : Nat) {d : D} (h : L.fa[i]? = some (.con x d)) : ∃ u v, mg x = some u ∧ RelV v u ∧ ∀ ρ H, RV (L.gx K c) ρ H d v := by
  obtain ⟨hp, kin, ns⟩ := N
  have z := c.fact i h
  have z' : (match PySem.W.nsIn K mainGlobals x with | some (some u) => kvB K 8 d u | _ => false) = true := z
  cases q : PySem.W.nsIn K mainGlobals x with
  | none => rw [q] at z'; cases z'
  | some o =>
    cases o with
    | none => rw [q] at z'; cases z'
    | some u =>
      rw [q] at z'
      obtain ⟨v, r1, r2⟩ := kvB_ok (G := L.gx K c) 8 d u z'
      exact ⟨u, v, PySem.W.mg_of kin ns q, r1, r2⟩
theorem cls_of (c : L.Says K) (ci : Nat) (hc : L.cls[ci]? = some C) : (L.gx K c).cls ci = some (He.ga K C) := by
  show (L.cls[ci]?).map (He.ga K) = _
  rw [hc]
  rfl
theorem ci_of (c : L.Says K) (ci : Nat) (hc : L.cls[ci]? = some C) : CI K (He.ga K C) := c.ci ci _ (cls_of c ci hc)
theorem mk_of (c : L.Says K) (i : Nat) (h : L.fa[i]? = some (.mkr C)) : Mk K (He.ga K C) (He.ma K (He.ga K C) "__init__") := by
  obtain ⟨h1, z⟩ := ba (c.fact i h)
  obtain ⟨h2, h3⟩ := ba z
  obtain ⟨h4, h5⟩ := fnAt_ok h2
  exact ⟨h1, h4, h5, h3⟩
theorem mkeep_of (c : L.Says K) (i : Nat) (h : L.fa[i]? = some (.mkr C) := by rfl) : PySem.W.keepIn K (.ref (He.ga K C)) = true := (mk_of c i h).kp
theorem meth_of (c : L.Says K) (i : Nat) (h : L.fa[i]? = some (.meth C m)) : Meth K (He.ga K C) m (He.ma K (He.ga K C) m) := by
  obtain ⟨h1, h2⟩ := ba (c.fact i h)
  obtain ⟨h4, h5⟩ := fnAt_ok h1
  exact ⟨h4, h5, h2⟩
theorem prop_of (c : L.Says K) (i : Nat) (h : L.fa[i]? = some (.prop C f)) : PropOf K (He.ga K C) f (He.ma K (He.ga K C) f) (pgA K C f) := by
  obtain ⟨h1, z⟩ := ba (c.fact i h)
  obtain ⟨h2, z⟩ := ba z
  obtain ⟨h3, h4⟩ := ba z
  refine ⟨He.eqO_ok h1, He.eqO_ok h2, of_decide_eq_true h3, ?_⟩
  unfold pgA
  split at h4
  · rename_i g r e
    exact ⟨r, by rw [e]⟩
  · cases h4
section
variable {X : Cx} {W : WX} {g : FN} {k : Nat}
theorem fieldS (c : L.Says K) (ci i : Nat) (hc : L.cls[ci]? = some C) (h : L.fa[i]? = some (.noat C f)) (e : X.K = K := by rfl) : FieldS (L.gx K c) X f ci :=
  ⟨_, cls_of c ci hc, by rw [e]; exact (ci_of c ci hc).cl, by rw [e]; exact He.eqO_ok (c.fact i h)⟩
theorem methS (c : L.Says K) (ci i : Nat) (hc : L.cls[ci]? = some C) (h : L.fa[i]? = some (.meth C m)) (F : FnS (L.gx K c) X W (.ref (He.ma K (He.ga K C) m)) g) (e : X.K = K := by rfl) : MethS (L.gx K c) X W m ci g :=
  ⟨_, _, cls_of c ci hc, by rw [e]; exact (ci_of c ci hc).cl, by rw [e]; exact meth_of c i h, F⟩
theorem propS (c : L.Says K) (ci i : Nat) (hc : L.cls[ci]? = some C) (h : L.fa[i]? = some (.prop C f)) (F : Cal (L.gx K c) X.prog X.w X.mg X.base k (pgA K C f) g) (hr : Room (k + 1) X.A) (e : X.K = K := by rfl) : PropS (L.gx K c) X f ci g :=
  ⟨_, _, _, k, cls_of c ci hc, by rw [e]; exact (ci_of c ci hc).cl, by rw [e]; exact prop_of c i h, by rw [e]; exact F, hr⟩
theorem binS {o : Operator} (c : L.Says K) (ci i : Nat) (hc : L.cls[ci]? = some C) (h : L.fa[i]? = some (.bin C o)) (F : FnS (L.gx K c) X W (.ref (He.ma K (He.ga K C) (PySem.dunder o.info.2))) g) (e : X.K = K := by rfl) : OpClsS (L.gx K c) X W o ci g := by
  obtain ⟨h1, z⟩ := ba (c.fact i h)
  obtain ⟨h2, z⟩ := ba z
  obtain ⟨h3, z⟩ := ba z
  obtain ⟨h4, z⟩ := ba z
  obtain ⟨h5, h6⟩ := ba z
  obtain ⟨h7, h8⟩ := fnAt_ok h2
  obtain ⟨rc, h9, h10⟩ := refNone_ok h3
  refine ⟨_, _, rc, cls_of c ci hc, ?_, ?_, ?_, ?_, h10, ?_, ?_, ?_, F⟩
  · rw [e]; exact h1
  · rw [e]; exact h7
  · rw [e]; exact h8
  · rw [e]; exact h9
  · rw [e]; exact Option.isSome_iff_exists.mp h4
  · rw [e]; exact Option.isSome_iff_exists.mp h5
  · rw [e]; exact of_decide_eq_true h6
theorem unS (c : L.Says K) (ci i : Nat) (hc : L.cls[ci]? = some C) (h : L.fa[i]? = some (.un C m)) (F : FnS (L.gx K c) X W (.ref (He.ma K (He.ga K C) m)) g) (e : X.K = K := by rfl) : UnClsS (L.gx K c) X W m ci g := by
  obtain ⟨h1, h2⟩ := fnAt_ok (c.fact i h)
  exact ⟨_, _, cls_of c ci hc, by rw [e]; exact h1, by rw [e]; exact h2, F⟩
theorem neS (c : L.Says K) (ci i : Nat) (hc : L.cls[ci]? = some C) (h : L.fa[i]? = some (.ne C)) (F : Cal (L.gx K c) X.prog X.w X.mg X.base k (He.ma K (He.ga K C) "__eq__") g) (hr : Room (k + 1) X.A) (e : X.K = K := by rfl) : NeClsS (L.gx K c) X ci g := by
  obtain ⟨h1, h2⟩ := ba (c.fact i h)
  obtain ⟨h3, h4⟩ := fnAt_ok h2
  exact ⟨_, _, k, cls_of c ci hc, by rw [e]; exact He.eqO_ok h1, by rw [e]; exact h3, by rw [e]; exact h4, by rw [e]; exact F, hr⟩
theorem callS (c : L.Says K) (ci i : Nat) (hc : L.cls[ci]? = some C) (h : L.fa[i]? = some (.callo C)) (F : Cal (L.gx K c) X.prog X.w X.mg X.base k (He.ma K (He.ga K C) "__call__") g) (hr : Room k X.A) (e : X.K = K := by rfl) : CallOS (L.gx K c) X ci g := by
  obtain ⟨h1, h2⟩ := ba (c.fact i h)
  obtain ⟨h3, h4⟩ := fnAt_ok h1
  exact ⟨_, _, k, cls_of c ci hc, by rw [e]; exact ⟨h3, h4, h2⟩, by rw [e]; exact F, hr⟩
/-- x, a constant of the top -/
theorem se_con {d : D} {pos : Pos} (c : L.Says K) (N : Ns K X.mg) (i : Nat) (h : L.fa[i]? = some (.con x d)) (hg : Gl X x) (hdb : (x == ("__debug__" : Str)) = false := by decide) : SE (L.gx K c) X W (.Name x pos) (eC d) := by
  obtain ⟨u, v, h1, h2, h3⟩ := N.con c i h
  exact se_glob hg h1 h2 h3 hdb
end
end
/-! ### alternatives -/
def orB {α : Type} (a b : Res α) : Res α := match a with | .bad => b | r => r
theorem post_or {α β : Type} {G : Gx} {R : Wd → Hp → α → β → Prop} {ρ : Wd} {H : Hp} {a b : Res α} {Q : β → Hp → Prop} {E : XK} (p : PostR G R ρ H (orB a b) Q E) : PostR G R ρ H a Q E ∨ PostR G R ρ H b Q E := by
  cases a with
  | bad => exact .inr p
  | ok d S => exact .inl p
  | exc x S => exact .inl p
def opOr (f g : D → D → Store → Res D) : D → D → Store → Res D := fun x y S => orB (f x y S) (g x y S)
theorem OpS.or {G : Gx} {X : Cx} {W : WX} {F : Value → Value → Sem Value} {f g : D → D → Store → Res D} (h1 : OpS G X W F f) (h2 : OpS G X W F g) : OpS G X W F (opOr f g) := fun pins s σ H x y v u Q ρ S d1 d2 I rx ry rl r1 r2 p =>
  (post_or p).elim (h1 pins s σ H x y v u Q ρ S d1 d2 I rx ry rl r1 r2) (h2 pins s σ H x y v u Q ρ S d1 d2 I rx ry rl r1 r2)
def fnOr (f g : FN) : FN := fun xs S => orB (f xs S) (g xs S)
theorem FnS.or {G : Gx} {X : Cx} {W : WX} {F : Value} {f g : FN} (h1 : FnS G X W F f) (h2 : FnS G X W F g) : FnS G X W F (fnOr f g) := fun pins s σ H xs us Q ρ S ds I r rl rv p =>
  (post_or p).elim (h1 pins s σ H xs us Q ρ S ds I r rl rv) (h2 pins s σ H xs us Q ρ S ds I r rl rv)
def eOr2 (a b : ME) : ME := fun σ S => orB (a σ S) (b σ S)
theorem se_or2 {G : Gx} {X : Cx} {W : WX} {e : Expr} {a b : ME} (h1 : SE G X W e a) (h2 : SE G X W e b) : SE G X W e (eOr2 a b) := ⟨fun pins s σ H Q I ⟨ρ, σs, S, rl, re, p⟩ =>
  (post_or p).elim (fun p => h1.run pins s σ H Q I ⟨ρ, σs, S, rl, re, p⟩) (fun p => h2.run pins s σ H Q I ⟨ρ, σs, S, rl, re, p⟩)⟩
/-! ### targets of comprehensions -/
theorem tg_one {X : Cx} {i : Nat} {x : Str} {pos : Pos} {K : Fg} (hN : X.N.Nodup) (hi : X.N[i]? = some x) (hx : Loc X.env.scope x) (hf : X.fn x = true ∨ X.env.scope.names.lookup x = some .local) : PG X (.Name x pos) ((TgN.one i).tg K) := pg_name hN hi hx hf
/-! ### the end -/
theorem cal0 {G : Gx} {P : Program} {w : World} {mg : Str → Option Value} {base : Heap} {k : Nat} {f : Addr} : Cal G P w mg base k f (fun _ _ => .bad) := by
  intro A outer s H us vs Q E hr e0 r h
  obtain ⟨ρ, S, es, rl, rv, p⟩ := h
  exact p.elim
def spLaw (G : Gx) (m : FN) : Sp := fun vs H Q E => vs.length = 1 ∧ spG G m vs H Q E
theorem ints_rel {G : Gx} {ρ : Wd} {H : Hp} : ∀ ns : List Int, RVs G ρ H (ns.map D.int) (ns.map V.int)
  | [] => .nil
  | n :: ns => .cons (.int n) (ints_rel ns)
theorem start_ok {G : Gx} {H : Hp} {a : Addr} {ns : List Int} (ho : Only H) (hS : SqL G.K H a (ns.map V.int)) : Rl G ⟨[], []⟩ ⟨[]⟩ H ∧ RV G ⟨[], []⟩ H (.fl (ns.map D.int)) (.ref a) := by
  refine ⟨⟨rfl, List.nodup_nil, fun b h => (List.not_mem_nil h).elim, fun i o h => ?_⟩, .fl ?_ (ints_rel ns)⟩
  · cases h
  · rcases hS with (h | h) | h
    · rcases ho a with z | ⟨o, xs, z⟩
      · rw [h] at z; cases z
      · rw [h] at z; cases z
    · exact .inl h
    · exact .inr (.inr h)
theorem walkM {l : PySem.W.OpenLaw} {n k : Nat} {q : Program} {loose : List Str} {XP : (Str → Option Value) → Heap → Prop} {L : Lw} {N : Nat} {d : DefRec} {x : Str} {run : FN}
    (hn : l.most = some n) (hn2 : n ≤ sizeLine) (hdf : d.params.defaults = []) (hr : Room k callerA)
    (F : ∀ (w : World) (mg : Str → Option Value) (fa : Addr) (K : Fg) (c : L.Says K), Ns K mg → mg d.name = some (.ref fa) →
      ∃ fd : FuncData, (∀ (s : Shared) (u : Value), BindsTo s fd ⟨[u], []⟩ [(x, u)]) ∧ ∀ base : Heap, K.In base → base.Ns mainGlobals mg → FnOk l.prog w K mg base (L2.CX l.prog w) k fa fd [x] (spF (L.gx K c) run 1))
    (good : ∀ ns : List Int, ns.length ≤ n → (∀ z ∈ ns, Builtin.Int.intBits z ≤ 1048576) → ∃ S, run [.fl (ns.map D.int)] ⟨[]⟩ = .ok (.bl true) S) :
    PySem.W.WalkO q loose XP (L.hook N).says l.row.toRowW d [] (fun f vs => PySem.call f vs) := by
  refine Att.attach_callB hn hdf fun w s₀ s₁ mg mb fa o pm cd doc a vs ns G Y ho hd hcd hmg hobj hints hlen hbits hg => ?_
  obtain ⟨K, KX, c⟩ := Y
  obtain ⟨fd, hb, hF⟩ := F w mg fa K c ⟨_, KX, G.T.g⟩ hmg
  refine law_call KX G.T.g G.T.b G.T.builtins G.T.nolimit hg hobj hints (Nat.le_trans hlen hn2) hr hF hb (fun H hO hS => ?_) fun H e s' h => ?_
  · obtain ⟨rl, rv⟩ := start_ok (G := L.gx K c) hO hS
    obtain ⟨S, e⟩ := good ns hlen hbits
    refine ⟨⟨[], []⟩, ⟨[]⟩, _, rfl, rl, .cons rv .nil, ?_⟩
    rw [e]
    intro ρ' H' v _ _ r
    cases r
    rfl
  · obtain ⟨_, _, _, _, _, _, _, _, _, _, _, _, z⟩ := h
    exact z.elim
end L2.Mi

set_option Elab.async false
set_option linter.all false
set_option maxRecDepth 100000
set_option maxHeartbeats 4000000
/-! Mini, 13: tests by chains and by truth, alternatives of iterators, += and -=. -/
namespace L2.Mi
open PySem PySem.Spec PyProof.Rows
section
variable {G : Gx} {X : Cx} {W : WX} {a b c e tg : Expr} {ma mb mc m : ME} {pos : Pos}
theorem cmp_rel {g : Int → Int → Bool} : ∀ ρ S H d1 d2 x y Q E, Rl G ρ S H → RV G ρ H d1 x → RV G ρ H d2 y → Post G ρ H (intOp (fun _ _ => true) (fun i j => .bl (g i j)) d1 d2 S) Q E → rI0 (fun i j => .bl (g i j)) x y H Q := by
  intro ρ S H d1 d2 x y Q E rl r1 r2 p
  obtain ⟨i, j, h1, h2, h3, p⟩ := intOp_go r1 r2 p
  exact ⟨i, j, h1, h2, post_ok p rl (.bl _)⟩
theorem chain_read {f g : D → D → Store → Res D} {r r' : R2}
    (hf : ∀ ρ S H d1 d2 x y Q E, Rl G ρ S H → RV G ρ H d1 x → RV G ρ H d2 y → Post G ρ H (f d1 d2 S) Q E → r x y H Q) (hg : ∀ ρ S H d1 d2 x y Q E, Rl G ρ S H → RV G ρ H d1 x → RV G ρ H d2 y → Post G ρ H (g d1 d2 S) Q E → r' x y H Q)
    {σ : St} {H : Hp} {Q : VK} {ρ : Wd} {σs : En} {S : Store} (rl : Rl G ρ S H) (re : RE G ρ H σs σ) (p : Post G ρ H (eChain f g ma mb mc σs S) Q (EW W σ)) : tChain r r' (tm G W ma) (tm G W mb) (tm G W mc) σ H Q := by
  refine ⟨ρ, σs, S, rl, re, PostR.bind (R := RV G) p fun ρ1 H1 S1 d1 x l1 rl1 rv1 p1 => ?_⟩
  refine ⟨ρ1, σs, S1, rl1, re.mono l1, PostR.bind (R := RV G) p1 fun ρ2 H2 S2 d2 y l2 rl2 rv2 p2 => ?_⟩
  refine hf ρ2 S2 H2 d1 d2 x y _ _ rl2 (rv1.mono l2) rv2 (PostR.bind (R := RV G) p2 fun ρ3 H3 S3 d3 z l3 rl3 rv3 p3 => ?_)
  cases rv3 with
  | bl k =>
    refine ⟨k, rfl, ?_⟩
    cases k with
    | true =>
      show if true = true then _ else _
      rw [if_pos rfl]
      refine ⟨ρ3, σs, S3, rl3, (re.mono l1).mono (l2.trans l3), PostR.bind (R := RV G) p3 fun ρ4 H4 S4 d4 w l4 rl4 rv4 p4 => ?_⟩
      exact hg ρ4 S4 H4 d2 d4 y w _ _ rl4 (rv2.mono (l3.trans l4)) rv4 p4
    | false =>
      show if false = true then _ else _
      rw [if_neg Bool.false_ne_true]
      exact post_ok (S := S3) p3 rl3 (.bl false)
  | _ => exact False.elim p3
theorem st_chain {op op' : CmpOp} {f g : D → D → Store → Res D} {r r' : R2} (ho : OpR X (compareOp op) r) (ho' : OpR X (compareOp op') r')
    (hf : ∀ ρ S H d1 d2 x y Q E, Rl G ρ S H → RV G ρ H d1 x → RV G ρ H d2 y → Post G ρ H (f d1 d2 S) Q E → r x y H Q) (hg : ∀ ρ S H d1 d2 x y Q E, Rl G ρ S H → RV G ρ H d1 x → RV G ρ H d2 y → Post G ρ H (g d1 d2 S) Q E → r' x y H Q)
    (ha : SE G X W a ma) (hb : SE G X W b mb) (hc : SE G X W c mc) (hm : lastMarks [op, op'] [b, c] = false := by with_unfolding_all rfl) : ST G X W (.Compare a [op, op'] [b, c] pos) (tOf (eChain f g ma mb mc)) := by
  refine PT.weak (pt_chain ho ho' ha hb hc hm) fun σ H Q ⟨ρ, σs, S, rl, re, p⟩ => ?_
  exact chain_read hf hg rl re (p.bind (R := RV G) (Q1 := fun v H' => ∃ k, v = .bl k ∧ Q k H') fun ρ3 H3 S3 z w l3 rl3 rv3 p3 => bool_go (pins := []) (σ := σ) p3 rl3 rv3)
/-! truth -/
def truD (S : Store) : D → Option Bool
  | .non => some false
  | .bl b => some b
  | .int i => some (i != 0)
  | .str l => if l.length ≤ lim then some ((l.length : Int) != 0) else none
  | d => (match seqAt S d with | some ds => some (!ds.isEmpty) | none => none)
def tTru (m : ME) : MT := fun σ S => (m σ S).bind fun d S1 => match truD S1 d with | some k => .ok k S1 | none => .bad
theorem rvs_empty {ρ : Wd} {H : Hp} {ds : List D} {xs : List V} (r : RVs G ρ H ds xs) : xs.isEmpty = ds.isEmpty := by cases r <;> rfl
theorem truD_rel {ρ : Wd} {S : Store} {H : Hp} {d : D} {x : V} {k : Bool} (rl : Rl G ρ S H) (rv : RV G ρ H d x) (h : truD S d = some k) : TruV G.K x H k := by
  have sq : ∀ {d : D} {x : V}, RV G ρ H d x → (match seqAt S d with | some ds => some (!ds.isEmpty) | none => none) = some k → TruV G.K x H k := fun {d x} rv h => by
    cases q : seqAt S d with
    | none => rw [q] at h; cases h
    | some ds =>
      rw [q] at h
      obtain ⟨a, xs, rfl, hq, hr⟩ := seqAt_rel rl rv q
      have hk : k = !xs.isEmpty := by rw [rvs_empty hr]; exact (Option.some.inj h).symm
      rcases hq with hq | hq
      · exact .inl ⟨xs, hq, hk⟩
      · exact .inr (.inl ⟨xs, hq, hk⟩)
  cases rv with
  | non => exact (Option.some.inj h).symm
  | bl b => exact (Option.some.inj h).symm
  | int i => exact (Option.some.inj h).symm
  | str l =>
    have h : (if l.length ≤ lim then some ((l.length : Int) != 0) else none) = some k := h
    by_cases hl : l.length ≤ lim
    · rw [if_pos hl] at h
      refine ⟨by rw [str_len]; exact lim_le hl, ?_⟩
      rw [str_len]
      exact (Option.some.inj h).symm
    · rw [if_neg hl] at h; cases h
  | tup ht hr => exact sq (.tup ht hr) h
  | kt ht hr => exact sq (.kt ht hr) h
  | lv n ht hr => exact sq (.lv n ht hr) h
  | fl ht hr => exact sq (.fl ht hr) h
  | ref hi => exact sq (.ref hi) h
  | ty n => cases h
  | cl hc => cases h
  | dvK _ _ _ => cases h
  | dvT _ _ _ => cases h
theorem st_tru (cc : Cc G X W) (h : SE G X W e m) (he : ∀ whole, isTrue e X.env whole = (do let v ← whole; standAt e.pos; holding [v] (truthy v)) := by intro _; rfl) : ST G X W e (tTru m) := by
  refine PT.weak (pt_truth h he) fun σ H Q ⟨ρ, σs, S, rl, re, p⟩ => ?_
  refine ⟨ρ, σs, S, rl, re, p.bind (R := RV G) fun ρ1 H1 S1 d x l1 rl1 rv1 p1 => ?_⟩
  cases q : truD S1 d with
  | none => simp only [q] at p1; exact p1.elim
  | some k =>
    simp only [q] at p1
    exact ⟨k, by rw [cc.k]; exact truD_rel rl1 rv1 q, p1 ρ1 H1 k Le.refl rl1 rfl⟩
/-! iterators -/
def iOr (a b : MI) : MI := fun σ S => orB (a σ S) (b σ S)
theorem si_or {iter : Expr} {m1 m2 : MI} (h1 : SI G X W tg iter m1) (h2 : SI G X W tg iter m2) : SI G X W tg iter (iOr m1 m2) := ⟨fun pins s σ H R I ⟨ρ, σs, S, rl, re, p⟩ =>
  (post_or p).elim (fun p => h1.run pins s σ H R I ⟨ρ, σs, S, rl, re, p⟩) (fun p => h2.run pins s σ H R I ⟨ρ, σs, S, rl, re, p⟩)⟩
/-- a tuple or a list -/
def iSeq (m : ME) : MI := fun σ S => (m σ S).bind fun d S1 => match tupD d with
  | some ds => .ok (fun k _ => some ds[k]?) S1
  | none => (match listAt S1 d with
    | some _ => .ok (fun k S' => (listAt S' d).map fun ds => ds[k]?) S1
    | none => .bad)
theorem iSeq_or (m : ME) (σ : En) (S : Store) : iSeq m σ S = iOr (iTup m) (iList m) σ S := by
  unfold iSeq iOr iTup iList
  cases q : m σ S with
  | ok d S1 => cases d <;> rfl
  | exc x S1 => rfl
  | bad => rfl
theorem si_seq (cc : Cc G X W) (h : SE G X W e m) : SI G X W tg e (iSeq m) := by
  have z : iSeq m = iOr (iTup m) (iList m) := funext fun σ => funext fun S => iSeq_or m σ S
  rw [z]
  exact si_or (si_tup cc h) (si_list cc h)
def iEn (m : ME) : MI := fun σ S => (m σ S).bind fun d S1 => match tupD d with
  | some ds => .ok (enT ds) S1
  | none => (match listAt S1 d with
    | some _ => .ok (enL d) S1
    | none => .bad)
theorem iEn_or (m : ME) (σ : En) (S : Store) : iEn m σ S = iOr (iEnT m) (iEnL m) σ S := by
  unfold iEn iOr iEnT iEnL
  cases q : m σ S with
  | ok d S1 => cases d <;> rfl
  | exc x S1 => rfl
  | bad => rfl
theorem si_en {elts : List Expr} {kk : Nat} {tpos p : Pos} (cc : Cc G X W) (h : SE G X W e m) (hg : Gl X "enumerate") (hm : X.mg "enumerate" = none) (hs : starEach [e] X.env = [(false, eval e X.env)] := by rfl) : SI G X W (.Tuple elts kk tpos) (.Call (.Name "enumerate" p) [e] [] pos) (iEn m) := by
  have z : iEn m = iOr (iEnT m) (iEnL m) := funext fun σ => funext fun S => iEn_or m σ S
  rw [z]
  exact si_or (si_enT cc h hg hm hs) (si_enL cc h hg hm hs)
theorem szl {k : Nat} (h : Nat.ble k 16777216 = true) : k ≤ sizeLine := by rw [sizeLine_eq]; exact Nat.le_of_ble_eq_true h
/-! targets of comprehensions -/
theorem tg_many {es : List Expr} {kk : Nat} {is : List Nat} {K : Fg} (cc : X.calm = true) (h : PGs X es (gNames is)) (hK : X.K = K := by rfl) (hn : (assignEach es X.env).length = is.length := by rfl) (hst : (assignEach es X.env).findIdx? (·.1) = none := by rfl) : PG X (.Tuple es kk pos) ((TgN.many is).tg K) := by
  subst hK
  exact pg_tup cc h hn hst
/-- a comprehension: the block's context comes with each part -/
theorem se_lcc {elt tg iter : Expr} {ifs : List Expr} {scope : Scope} {own : List (Str × Nat)} {mi : MI} {t : TgN} {mt : MT} {me : ME} (n : Nat) (cc : Cc G X W) (hi : SI G X W tg iter mi) (ok : BlkOk X.N X.env.scope scope own) (hv : ∀ i ∈ t.slots, i ∈ own.map (·.2))
    (hg : ∀ (s : Shared) (H : Hp) (C : Addr) (cl : List (Str × Addr)) (fp : List Addr), Cc G (X.blk s H scope (compEnvC scope cl C X.env) fp) W0 → PG (X.blk s H scope (compEnvC scope cl C X.env) fp) tg (t.tg X.K))
    (ht : ∀ (s : Shared) (H : Hp) (C : Addr) (cl : List (Str × Addr)) (fp : List Addr), Cc G (X.blk s H scope (compEnvC scope cl C X.env) fp) W0 → PTs (X.blk s H scope (compEnvC scope cl C X.env) fp) ifs (tmt G W0 mt))
    (he : ∀ (s : Shared) (H : Hp) (C : Addr) (cl : List (Str × Addr)) (fp : List Addr), Cc G (X.blk s H scope (compEnvC scope cl C X.env) fp) W0 → SE G (X.blk s H scope (compEnvC scope cl C X.env) fp) W0 elt me) (hs : ∀ x, foldedSetIterable iter X.env x = pure x := by intro _; rfl) :
    SE G X W (.ListComp elt [⟨tg, iter, ifs, 0⟩] scope pos) (eLcV mi t mt me (own.map (·.2)) n) :=
  se_lcv n cc hi ok hv (fun s H C cl fp => hg s H C cl fp (cc_blk cc)) (fun s H C cl fp => ht s H C cl fp (cc_blk cc)) (fun s H C cl fp => he s H C cl fp (cc_blk cc)) hs
/-! += and -= of ints -/
def addI : D → D → Store → Res D := intOp (fun _ _ => true) fun i j => .int (i + j)
def subI : D → D → Store → Res D := intOp (fun _ _ => true) fun i j => .int (i - j)
theorem ss_augA {i : Nat} {x : Str} {pos' : Pos} (cc : Cc G X W) (hi : X.N[i]? = some x) (hx : Loc X.env.scope x) (he : SE G X W e m) (hf : X.fn x = true ∨ X.env.scope.names.lookup x = some .local := by first | exact .inl rfl | exact .inr rfl | assumption) :
    SS G X W (.AugAssign (.Name x pos') .Add e pos) (sAug i addI m) :=
  ss_aug cc.nd hi hx he ip_add (fun ρ S H d1 d2 x y Q E rl r1 r2 p => by
    obtain ⟨i, j, h1, h2, h3, p⟩ := intOp_go r1 r2 p
    exact ⟨i, j, h1, h2, post_ok p rl (.int _)⟩) hf
theorem ss_augM {i : Nat} {x : Str} {pos' : Pos} (cc : Cc G X W) (hi : X.N[i]? = some x) (hx : Loc X.env.scope x) (he : SE G X W e m) (hf : X.fn x = true ∨ X.env.scope.names.lookup x = some .local := by first | exact .inl rfl | exact .inr rfl | assumption) :
    SS G X W (.AugAssign (.Name x pos') .Sub e pos) (sAug i subI m) :=
  ss_aug cc.nd hi hx he ip_sub (fun ρ S H d1 d2 x y Q E rl r1 r2 p => by
    obtain ⟨i, j, h1, h2, h3, p⟩ := intOp_go r1 r2 p
    exact ⟨i, j, h1, h2, post_ok p rl (.int _)⟩) hf
end
end L2.Mi

set_option Elab.async false
set_option linter.all false
set_option maxRecDepth 100000
set_option maxHeartbeats 4000000
/-! Mini, 14: the runs of Mini by plain laws. -/
namespace L2.Mi
open PySem
/-! ### runs, step by step -/
def fin (r : RS) : Res D := match r with
  | .rt d S1 => .ok d S1
  | .nx _ S1 => .ok .non S1
  | .exc x _ S1 => .exc x S1
  | _ => .bad
section
variable {α β : Type} {σ σ' : En} {S S' : Store} {a b c : ME} {t u : MT} {k l : MS} {ms : List ME} {d e : D} {i j : Nat} {x : Xn} {f g : D → D → Store → Res D} {F : List D → Store → Res D}
@[simp] theorem fin_rt : fin (.rt d S) = .ok d S := (rfl)
@[simp] theorem fin_nx : fin (.nx σ S) = .ok .non S := (rfl)
@[simp] theorem fin_exc : fin (.exc x σ S) = .exc x S := (rfl)
@[simp] theorem bind_ok' {a : α} {f : α → Store → Res β} : (Res.ok a S).bind f = f a S := (rfl)
@[simp] theorem bind_exc' {f : α → Store → Res β} : (Res.exc x S : Res α).bind f = .exc x S := (rfl)
@[simp] theorem bind_bad' {f : α → Store → Res β} : (Res.bad : Res α).bind f = .bad := (rfl)
@[simp] theorem eC_ev : eC d σ S = .ok d S := (rfl)
theorem eVar_ev (h : σ[i]? = some (some d)) : eVar i σ S = .ok d S := by unfold eVar; rw [h]
@[simp] theorem eVar_0 : eVar 0 (some d :: σ) S = .ok d S := (rfl)
@[simp] theorem eVar_s {o : Option D} : eVar (i + 1) (o :: σ) S = eVar i σ S := by unfold eVar; rw [List.getElem?_cons_succ]
@[simp] theorem eBin_ev : eBin f a b σ S = (a σ S).bind fun x S1 => (b σ S1).bind fun y S2 => f x y S2 := (rfl)
@[simp] theorem eUn_ev {f : D → Store → Res D} : eUn f a σ S = (a σ S).bind fun x S1 => f x S1 := (rfl)
@[simp] theorem aList_nil : aList [] σ S = .ok [] S := (rfl)
@[simp] theorem aList_cons : aList (a :: ms) σ S = (a σ S).bind fun x S1 => (aList ms σ S1).bind fun xs S2 => .ok (x :: xs) S2 := (rfl)
@[simp] theorem eTup_ev : eTup ms σ S = (aList ms σ S).bind fun xs S1 => .ok (.tup xs) S1 := (rfl)
@[simp] theorem eLv_ev : eLv ms σ S = (aList ms σ S).bind fun xs S1 => .ok (.lv xs) S1 := (rfl)
@[simp] theorem eLst_ev : eLst ms σ S = (aList ms σ S).bind fun xs S1 => .ok (.ref S1.size) (S1.push (.lst xs)) := (rfl)
@[simp] theorem eFn_ev {m : MA} : eFn F m σ S = (m σ S).bind F := (rfl)
@[simp] theorem tOf_ev : tOf a σ S = (a σ S).bind fun d S1 => match d with | .bl b => .ok b S1 | _ => .bad := (rfl)
@[simp] theorem tTru_ev : tTru a σ S = (a σ S).bind fun d S1 => match truD S1 d with | some k => .ok k S1 | none => .bad := (rfl)
@[simp] theorem tAnd_ev : tAnd t u σ S = (t σ S).bind fun c S1 => if c then u σ S1 else .ok false S1 := (rfl)
@[simp] theorem tOr_ev : tOr t u σ S = (t σ S).bind fun c S1 => if c then .ok true S1 else u σ S1 := (rfl)
@[simp] theorem tNot_ev : tNot t σ S = (t σ S).bind fun c S1 => .ok (!c) S1 := (rfl)
@[simp] theorem eAnd_ev : eAnd a b σ S = (tOf a σ S).bind fun c S1 => if c then b σ S1 else .ok (.bl false) S1 := (rfl)
@[simp] theorem eOr_ev : eOr a b σ S = (tOf a σ S).bind fun c S1 => if c then .ok (.bl true) S1 else b σ S1 := (rfl)
@[simp] theorem eNot_ev : eNot a σ S = (tOf a σ S).bind fun c S1 => .ok (.bl (!c)) S1 := (rfl)
@[simp] theorem eIf_ev : eIf t a b σ S = (t σ S).bind fun c S1 => if c then a σ S1 else b σ S1 := (rfl)
@[simp] theorem eChain_ev : eChain f g a b c σ S = (a σ S).bind fun x S1 => (b σ S1).bind fun y S2 => (f x y S2).bind fun d S3 => match d with | .bl true => (c σ S3).bind fun z S4 => g y z S4 | .bl false => .ok (.bl false) S3 | _ => .bad := (rfl)
@[simp] theorem truD_bl {b : Bool} : truD S (.bl b) = some b := (rfl)
@[simp] theorem sNext_ev : sNext σ S = .nx σ S := (rfl)
@[simp] theorem sSeq_ev : sSeq k l σ S = (match k σ S with | .nx σ1 S1 => l σ1 S1 | r => r) := (rfl)
@[simp] theorem sRet_ev : sRet a σ S = (match a σ S with | .ok d S1 => .rt d S1 | .exc x S1 => .exc x σ S1 | .bad => .bad) := (rfl)
@[simp] theorem sDrop_ev : sDrop a σ S = (match a σ S with | .ok _ S1 => .nx σ S1 | .exc x S1 => .exc x σ S1 | .bad => .bad) := (rfl)
@[simp] theorem sIf_ev : sIf t k l σ S = (match t σ S with | .ok c S1 => (if c then k σ S1 else l σ S1) | .exc x S1 => .exc x σ S1 | .bad => .bad) := (rfl)
@[simp] theorem gName_ev : gName i d σ S = .ok (σ.set i (some d)) S := (rfl)
@[simp] theorem sAsg_ev {g : MG} : sAsg a g σ S = (match a σ S with | .ok d S1 => (match g d σ S1 with | .ok σ2 S2 => .nx σ2 S2 | _ => .bad) | .exc x S1 => .exc x σ S1 | .bad => .bad) := (rfl)
@[simp] theorem addI_ev {i j : Int} : addI (.int i) (.int j) S = .ok (.int (i + j)) S := (rfl)
@[simp] theorem subI_ev {i j : Int} : subI (.int i) (.int j) S = .ok (.int (i - j)) S := (rfl)
@[simp] theorem ltI_ev {i j : Int} : ltI (.int i) (.int j) S = .ok (.bl (decide (i < j))) S := (rfl)
@[simp] theorem leI_ev {i j : Int} : leI (.int i) (.int j) S = .ok (.bl (decide (i ≤ j))) S := (rfl)
@[simp] theorem gtI_ev {i j : Int} : gtI (.int i) (.int j) S = .ok (.bl (decide (j < i))) S := (rfl)
@[simp] theorem geI_ev {i j : Int} : geI (.int i) (.int j) S = .ok (.bl (decide (j ≤ i))) S := (rfl)
@[simp] theorem addF_ev {i j : Int} {o : D → D → Store → Res D} : addF o (.int i) (.int j) S = .ok (.int (i + j)) S := (rfl)
@[simp] theorem subF_ev {i j : Int} {o : D → D → Store → Res D} : subF o (.int i) (.int j) S = .ok (.int (i - j)) S := (rfl)
theorem mulF_ev {i j : Int} {o : D → D → Store → Res D} (h : mulOk i j = true) : mulF o (.int i) (.int j) S = .ok (.int (i * j)) S := by unfold mulF; simp only [h, if_true]
theorem modI_ev {i j : Int} (h : 0 < j) : modI (.int i) (.int j) S = .ok (.int (i % j)) S := by unfold modI intOp; simp [h]
theorem divI_ev {i j : Int} (h : divOk j = true) : divI (.int i) (.int j) S = .ok (.int (i / j)) S := by unfold divI intOp; simp [h]
theorem powI_ev {i j : Int} (h : powOk i j = true) : powI (.int i) (.int j) S = .ok (.int (i ^ j.toNat)) S := by unfold powI intOp; simp [h]
@[simp] theorem negF_ev {i : Int} {ds : Disp} : negF ds (.int i) S = .ok (.int (-i)) S := (rfl)
@[simp] theorem intF_ev {i : Int} : intF [.int i] S = .ok (.int i) S := (rfl)
@[simp] theorem intF_bl {i : Bool} : intF [.bl i] S = .ok (.int (if i then 1 else 0)) S := (rfl)
@[simp] theorem absF_ev {i : Int} : absF [.int i] S = .ok (.int (if i < 0 then -i else i)) S := (rfl)
@[simp] theorem max2F_ev {i j : Int} : max2F [.int i, .int j] S = .ok (.int (if j > i then j else i)) S := (rfl)
end
theorem sAug_ev {σ : En} {S S1 : Store} {m : ME} {f : D → D → Store → Res D} {i : Nat} {x y : D} (h : σ[i]? = some (some x)) (h1 : m σ S = .ok y S1) : sAug i f m σ S = (match f x y S1 with | .ok d S2 => .nx (σ.set i (some d)) S2 | .exc z S2 => .exc z σ S2 | .bad => .bad) := by
  unfold sAug
  simp only [h, h1, bind_ok']
  all_goals (cases f x y S1 <;> rfl)
/-! ### sequences -/
theorem lenF_seq {S : Store} {d : D} {xs : List D} (h : seqAt S d = some xs) : lenF [d] S = .ok (.int xs.length) S := by
  unfold seqAt at h
  cases d with
  | tup ys => cases h; rfl
  | kt ys => cases h; rfl
  | lv ys => cases h; rfl
  | fl ys => cases h; rfl
  | ref i =>
    have h' : listAt S (.ref i) = some xs := h
    show (match listAt S (.ref i) with | some xs => Res.ok (D.int xs.length) S | none => .bad) = _
    rw [h']
  | _ => cases h
theorem itemF_seq {S : Store} {d x : D} {xs : List D} {i : Int} (h : seqAt S d = some xs) (hi : L2.atI xs i = some x) : itemF d (.int i) S = .ok x S := by
  unfold seqAt at h
  unfold itemF
  cases q : tupD d with
  | some ds =>
    rw [q] at h
    cases h
    simp only [hi]
  | none =>
    rw [q] at h
    have h' : listAt S d = some xs := h
    simp only [h', hi]
theorem atI_nat {α : Type} {xs : List α} {k : Nat} {x : α} (h : xs[k]? = some x) : L2.atI xs (k : Int) = some x := by
  have hl := (List.getElem?_eq_some_iff.mp h).1
  unfold L2.atI L2.ixN
  rw [if_pos (by omega), if_pos (by omega)]
  simpa using h
theorem listvF_seq {S : Store} {d : D} {xs : List D} (h : seqAt S d = some xs) : listvF [d] S = .ok (.lv xs) S := by
  unfold listvF
  simp only [h]
theorem listF_seq {S : Store} {d : D} {xs : List D} (h : seqAt S d = some xs) : listF [d] S = .ok (.ref S.size) (S.push (.lst xs)) := by
  unfold listF
  simp only [h]
theorem tupleF_list {S : Store} {d : D} {xs : List D} (h : listAt S d = some xs) : tupleF [d] S = .ok (.tup xs) S := by
  cases d with
  | tup ys => cases h
  | _ => unfold tupleF; simp only [h]
theorem asInts_map : ∀ ns : List Int, asInts (ns.map D.int) = some ns
  | [] => rfl
  | n :: ns => by
    show (asInts (ns.map D.int)).map (n :: ·) = _
    rw [asInts_map ns]
    rfl
theorem sumF_list {S : Store} {d : D} {ns : List Int} (h : listAt S d = some (ns.map D.int)) : sumF [d] S = .ok (.int ns.sum) S := by
  unfold sumF
  simp only [h, Option.bind_some, asInts_map]
theorem seqAt_list {S : Store} {d : D} {xs : List D} (h : listAt S d = some xs) : seqAt S d = some xs := by
  unfold seqAt
  cases d with
  | tup ys => cases h
  | kt ys => cases h
  | _ => exact h
/-! ### loops -/
theorem lc_inv {src : Src} {t : TgN} {mt : MT} {me : ME} {σ : En} (J : Nat → List D → Store → Prop) (m : Nat) (len : ∀ k acc S, J k acc S → acc.length = k)
    (step : ∀ k acc S, k < m → J k acc S → ∃ d σ2 S1 y S2, src k S = some (some d) ∧ t.put d σ = some σ2 ∧ mt σ2 S = .ok true S1 ∧ me σ2 S1 = .ok y S2 ∧ J (k + 1) (acc ++ [y]) S2)
    (stop : ∀ acc S, J m acc S → src m S = some none) (hm : m ≤ lim) :
    ∀ n k acc S, m < n + k → k ≤ m → J k acc S → ∃ acc' S', lcGo src t mt me σ n k acc S = .ok acc' S' ∧ J m acc' S' := by
  intro n
  induction n with
  | zero => intro k acc S h1 h2; omega
  | succ n ih =>
    intro k acc S h1 h2 j
    by_cases hk : k = m
    · subst hk
      exact ⟨acc, S, by unfold lcGo; rw [stop acc S j], j⟩
    · obtain ⟨d, σ2, S1, y, S2, e1, e2, e3, e4, j'⟩ := step k acc S (by omega) j
      obtain ⟨acc', S', e5, j''⟩ := ih (k + 1) (acc ++ [y]) S2 (by omega) (by omega) j'
      refine ⟨acc', S', ?_, j''⟩
      unfold lcGo
      have hl := len k acc S j
      simp only [e1, e2, e3, e4]
      rw [if_pos (by omega)]
      exact e5
/-- a comprehension that leaves the store alone -/
theorem lc_pure {src : Src} {t : TgN} {mt : MT} {me : ME} {σ : En} {S : Store} (ys : List D)
    (step : ∀ k (h : k < ys.length), ∃ d σ2, src k S = some (some d) ∧ t.put d σ = some σ2 ∧ mt σ2 S = .ok true S ∧ me σ2 S = .ok (ys[k]) S) (stop : src ys.length S = some none) (hm : ys.length ≤ lim) {n : Nat} (hn : ys.length < n) :
    lcGo src t mt me σ n 0 [] S = .ok ys S := by
  obtain ⟨acc', S', e, h1, h2⟩ := lc_inv (σ := σ) (src := src) (t := t) (mt := mt) (me := me) (fun k acc S' => S' = S ∧ acc = ys.take k ∧ k ≤ ys.length) ys.length (fun k acc S' h => by rw [h.2.1, List.length_take]; omega)
    (fun k acc S' hk h => by
      obtain ⟨d, σ2, e1, e2, e3, e4⟩ := step k hk
      obtain ⟨rfl, rfl, _⟩ := h
      exact ⟨d, σ2, _, _, _, e1, e2, e3, e4, rfl, by rw [List.take_succ_eq_append_getElem hk], by omega⟩)
    (fun acc S' h => by rw [h.1]; exact stop) hm n 0 [] S (by omega) (by omega) ⟨rfl, by simp, by omega⟩
  rw [e, h1, h2.1, List.take_length]
theorem i62_nat {j : Nat} (h : j < 1000000) : i62 (j : Int) = true := by
  unfold i62
  simp
  omega
theorem le_lim {a : Nat} (h : a < 1000000) : a ≤ lim := Nat.le_of_lt h
theorem lcv_range {a me : ME} {σ : En} {S S1 : Store} {i j n : Nat} {vs : List Nat} (ys : List D) (ha : a σ S = .ok (.int (j : Int)) S1) (hl : ys.length = j) (hj : j < 1000000) (hn : j < n)
    (hb : ∀ k (h : k < ys.length), me ((wipeD σ vs).set i (some (.int (k : Int)))) S1 = .ok ys[k] S1) : eLcV (iRange1 a) (.one i) tYesM me vs n σ S = .ok (.lv ys) S1 := by
  have h1 : iRange1 a σ S = .ok (fun k _ => some (if k < ((j : Nat) : Int).toNat then some (D.int (0 + (k : Int))) else none)) S1 := by
    unfold iRange1
    rw [ha, bind_ok']
    show (if i62 (j : Int) = true then _ else _) = _
    rw [if_pos (i62_nat hj)]
  have h2 : lcGo (fun k _ => some (if k < ((j : Nat) : Int).toNat then some (D.int (0 + (k : Int))) else none)) (.one i) tYesM me (wipeD σ vs) n 0 [] S1 = .ok ys S1 :=
    lc_pure ys (fun k hk => ⟨.int (k : Int), (wipeD σ vs).set i (some (.int (k : Int))), by simp [show k < j by omega], rfl, rfl, hb k hk⟩) (by simp [hl]) (le_lim (by omega)) (by omega)
  unfold eLcV
  rw [h1, bind_ok', h2, bind_ok']
theorem src_tup {S : Store} {d : D} {ds : List D} {a : ME} {σ : En} {S0 : Store} (ha : a σ S0 = .ok d S) (hd : seqAt S d = some ds) : ∃ src, iSeq a σ S0 = .ok src S ∧ ∀ k, src k S = some ds[k]? := by
  unfold iSeq
  simp only [ha, bind_ok']
  unfold seqAt at hd
  cases q : tupD d with
  | some xs => rw [q] at hd; cases hd; exact ⟨_, rfl, fun k => rfl⟩
  | none =>
    rw [q] at hd
    have hd' : listAt S d = some ds := hd
    simp only [hd']
    exact ⟨_, rfl, fun k => by simp only [hd', Option.map_some]⟩
theorem lcv_seq {a me : ME} {σ : En} {S S1 : Store} {d : D} {ds : List D} {i n : Nat} {vs : List Nat} (ys : List D) (ha : a σ S = .ok d S1) (hd : seqAt S1 d = some ds) (hl : ys.length = ds.length) (hj : ds.length < 1000000) (hn : ds.length < n)
    (hb : ∀ k (h : k < ys.length) (h' : k < ds.length), me ((wipeD σ vs).set i (some ds[k])) S1 = .ok ys[k] S1) : eLcV (iSeq a) (.one i) tYesM me vs n σ S = .ok (.lv ys) S1 := by
  obtain ⟨src, e1, e2⟩ := src_tup ha hd
  unfold eLcV
  rw [e1, bind_ok', lc_pure ys (fun k hk => ⟨ds[k]'(by omega), _, by rw [e2 k]; simp [show k < ds.length by omega], rfl, rfl, hb k hk (by omega)⟩) (by rw [e2, hl]; simp) (by unfold lim; omega) (by omega)]
  rfl
theorem lcv_en {a me : ME} {σ : En} {S S1 : Store} {d : D} {ds : List D} {i j n : Nat} {vs : List Nat} (ys : List D) (ha : a σ S = .ok d S1) (hd : tupD d = some ds) (hl : ys.length = ds.length) (hj : ds.length < 1000000) (hn : ds.length < n)
    (hb : ∀ k (h : k < ys.length) (h' : k < ds.length), me (((wipeD σ vs).set i (some (.int (k : Int)))).set j (some ds[k])) S1 = .ok ys[k] S1) : eLcV (iEn a) (.many [i, j]) tYesM me vs n σ S = .ok (.lv ys) S1 := by
  unfold eLcV iEn
  simp only [ha, bind_ok', hd]
  rw [lc_pure ys (fun k hk => ⟨.tup [.int (k : Nat), ds[k]'(by omega)], _, by unfold enT; simp [show k < ds.length by omega], rfl, rfl, hb k hk (by omega)⟩) (by unfold enT; simp [hl]) (by unfold lim; omega) (by omega)]
  rfl
theorem for_inv {src : Src} {g : MG} {b : MS} (J : Nat → En → Store → Prop) (m : Nat)
    (step : ∀ k σ S, k < m → J k σ S → ∃ d σ1 S1 σ2 S2, src k S = some (some d) ∧ g d σ S = .ok σ1 S1 ∧ (b σ1 S1 = .nx σ2 S2 ∨ b σ1 S1 = .ct σ2 S2) ∧ J (k + 1) σ2 S2)
    (stop : ∀ σ S, J m σ S → src m S = some none) :
    ∀ n k σ S, m < n + k → k ≤ m → J k σ S → ∃ σ' S', forGo src g b n k σ S = .nx σ' S' ∧ J m σ' S' := by
  intro n
  induction n with
  | zero => intro k acc S h1 h2; omega
  | succ n ih =>
    intro k σ S h1 h2 j
    by_cases hk : k = m
    · subst hk
      exact ⟨σ, S, by unfold forGo; rw [stop σ S j], j⟩
    · obtain ⟨d, σ1, S1, σ2, S2, e1, e2, e3, j'⟩ := step k σ S (by omega) j
      obtain ⟨acc', S', e5, j''⟩ := ih (k + 1) σ2 S2 (by omega) (by omega) j'
      refine ⟨acc', S', ?_, j''⟩
      unfold forGo
      simp only [e1, e2]
      rcases e3 with e3 | e3 <;> simp only [e3] <;> exact e5
theorem while_inv {t : MT} {b : MS} (J : Nat → En → Store → Prop) (Q : En → Store → Prop)
    (step : ∀ k σ S, J k σ S → (∃ S1, t σ S = .ok false S1 ∧ Q σ S1) ∨ ∃ S1 σ2 S2 k', k' < k ∧ t σ S = .ok true S1 ∧ (b σ S1 = .nx σ2 S2 ∨ b σ S1 = .ct σ2 S2) ∧ J k' σ2 S2) :
    ∀ n k σ S, k < n → J k σ S → ∃ σ' S', sWhile t b n σ S = .nx σ' S' ∧ Q σ' S' := by
  intro n
  induction n with
  | zero => intro k σ S h; omega
  | succ n ih =>
    intro k σ S h j
    rcases step k σ S j with ⟨S1, e, q⟩ | ⟨S1, σ2, S2, k', hk, e, e2, j'⟩
    · exact ⟨σ, S1, by unfold sWhile; simp only [e], q⟩
    · obtain ⟨σ', S', e5, q⟩ := ih k' σ2 S2 (by omega) j'
      refine ⟨σ', S', ?_, q⟩
      unfold sWhile
      simp only [e]
      rcases e2 with e2 | e2 <;> simp only [e2] <;> exact e5
/-! ### equality of data -/
theorem eqF_int {own : D → D → Store → Res D} {i j : Int} {S : Store} : eqF own (.int i) (.int j) S = .ok (.bl (i == j)) S := by
  simp [eqF, dat, SeqAt.shaped, PyData.canLay0, PyData.depth, PyData.eqv]
theorem neF_int {own : D → D → Store → Res D} {i j : Int} {S : Store} : neF own (.int i) (.int j) S = .ok (.bl (!(i == j))) S := by
  simp [neF, dat, SeqAt.shaped, PyData.canLay0, PyData.depth, PyData.eqv]
theorem neF_bl {own : D → D → Store → Res D} {i j : Bool} {S : Store} : neF own (.bl i) (.bl j) S = .ok (.bl (!(i == j))) S := by
  simp [neF, dat, SeqAt.shaped, PyData.canLay0, PyData.depth, PyData.eqv]
theorem dat_ints {n : Nat} {S : Store} : ∀ ps : List Int, mapO (dat n S) (ps.map D.int) = some (ps.map PyData.int)
  | [] => rfl
  | p :: ps => by
    have h : dat n S (.int p) = some (.int p) := by cases n <;> simp [dat]
    simp only [List.map_cons, mapO, h, dat_ints ps]
theorem lay_ints : ∀ ps : List Int, PyData.canLayAll0 (ps.map PyData.int) = true
  | [] => by simp [PyData.canLayAll0]
  | p :: ps => by simp [PyData.canLayAll0, PyData.canLay0, lay_ints ps]
theorem eqv_ints : ∀ ps qs : List Int, PyData.eqvAll (ps.map PyData.int) (qs.map PyData.int) = decide (ps = qs)
  | [], [] => by simp [PyData.eqvAll]
  | [], _ :: _ => by simp [PyData.eqvAll]
  | _ :: _, [] => by simp [PyData.eqvAll]
  | p :: ps, q :: qs => by
    simp only [List.map_cons, PyData.eqvAll, PyData.eqv, eqv_ints ps qs, List.cons.injEq, Bool.decide_and]
    rfl
theorem depth_ints : ∀ ps : List Int, PyData.depthAll (ps.map PyData.int) ≤ 1
  | [] => by simp [PyData.depthAll]
  | p :: ps => by
    have := depth_ints ps
    simp [PyData.depthAll, PyData.depth]
    omega
/-- tuples of ints -/
def tupI (ps : List Int) : D := .tup (ps.map D.int)
/-- d is a tuple of these ints -/
def TI (d : D) (ps : List Int) : Prop := tupD d = some (ps.map D.int)
theorem TI.of (ps : List Int) : TI (tupI ps) ps := rfl
theorem TI.seq {d : D} {ps : List Int} {S : Store} (h : TI d ps) : seqAt S d = some (ps.map D.int) := by
  unfold seqAt
  rw [show tupD d = some (ps.map D.int) from h]
theorem TI.dat {d : D} {ps : List Int} {n : Nat} {S : Store} (h : TI d ps) : dat (n + 1) S d = some (.tuple (ps.map PyData.int)) := by
  cases d with
  | tup xs => cases h; simp [L2.Mi.dat, dat_ints]
  | kt xs => cases h; simp [L2.Mi.dat, dat_ints]
  | _ => cases h
theorem shaped_ints (ps : List Int) : SeqAt.shaped (.tuple (ps.map PyData.int)) = true := by
  have := depth_ints ps
  simp [SeqAt.shaped, PyData.canLay0, lay_ints, PyData.depth]
  omega
theorem eqF_tup {own : D → D → Store → Res D} {d1 d2 : D} {ps qs : List Int} {S : Store} (h1 : TI d1 ps) (h2 : TI d2 qs) : eqF own d1 d2 S = .ok (.bl (decide (ps = qs))) S := by
  unfold eqF
  rw [h1.dat (n := 63), h2.dat (n := 63)]
  simp only [shaped_ints, Bool.and_self, if_true, PyData.eqv, eqv_ints]
theorem neF_tup {own : D → D → Store → Res D} {d1 d2 : D} {ps qs : List Int} {S : Store} (h1 : TI d1 ps) (h2 : TI d2 qs) : neF own d1 d2 S = .ok (.bl (!decide (ps = qs))) S := by
  unfold neF
  rw [h1.dat (n := 63), h2.dat (n := 63)]
  simp only [shaped_ints, Bool.and_self, if_true, PyData.eqv, eqv_ints]
/-! ### stores that grow -/
def Ext (S S' : Store) : Prop := ∀ i o, S.get i = some o → S'.get i = some o
theorem Ext.refl (S : Store) : Ext S S := fun _ _ h => h
theorem Ext.trans {a b c : Store} (h : Ext a b) (k : Ext b c) : Ext a c := fun i o e => k i o (h i o e)
theorem Ext.push {S : Store} {o : Ob} : Ext S (S.push o) := fun _ _ h => Store.get_push_some h
theorem atI_last {α : Type} {xs : List α} {x : α} : L2.atI (xs ++ [x]) (-1) = some x := by
  unfold L2.atI L2.ixN
  rw [if_neg (by omega), if_pos (by simp; omega)]
  have e : (-1 + (((xs ++ [x]).length : Nat) : Int)).toNat = xs.length := by simp; omega
  rw [e]
  simp
theorem Store.push_set {S : Store} {o o' : Ob} : (S.push o).set S.size o' = S.push o' := by
  unfold Store.push Store.set Store.size
  simp
theorem listAt_ref {S : Store} {i : Nat} {ds : List D} (h : S.get i = some (.lst ds)) : listAt S (.ref i) = some ds := by
  unfold listAt
  simp only [h]
/-! ### sizes of ints -/
def Sm (b : Nat) (i : Int) : Prop := i.natAbs < 2 ^ b
theorem log2_le {n b : Nat} (h : n < 2 ^ b) : n.log2 ≤ b := by
  by_cases hn : n = 0
  · subst hn; simp
  · exact Nat.le_of_lt ((Nat.log2_lt hn).mpr h)
theorem mulOk_sm {a b : Nat} {i j : Int} (hi : Sm a i) (hj : Sm b j) (h : a + b < 1000000) : mulOk i j = true := by
  unfold mulOk
  have h1 := log2_le hi
  have h2 := log2_le hj
  rw [Bool.or_eq_true, decide_eq_true_eq]
  right
  omega
theorem Sm.mul {a b : Nat} {i j : Int} (hi : Sm a i) (hj : Sm b j) : Sm (a + b) (i * j) := by
  unfold Sm at *
  rw [Int.natAbs_mul, Nat.pow_add]
  exact Nat.mul_lt_mul_of_lt_of_le hi (Nat.le_of_lt hj) (Nat.pow_pos (by omega))
theorem Sm.mono {a b : Nat} {i : Int} (h : Sm a i) (hab : a ≤ b) : Sm b i := Nat.lt_of_lt_of_le h (Nat.pow_le_pow_right (by omega) hab)
theorem Sm.add {a : Nat} {i j : Int} (hi : Sm a i) (hj : Sm a j) : Sm (a + 1) (i + j) := by
  unfold Sm at *
  have := Int.natAbs_add_le i j
  rw [Nat.pow_succ]
  omega
theorem Sm.neg {a : Nat} {i : Int} (hi : Sm a i) : Sm a (-i) := by
  unfold Sm at *
  rwa [Int.natAbs_neg]
theorem Sm.zero {a : Nat} : Sm a 0 := Nat.pow_pos (by omega)
end L2.Mi

set_option Elab.async false
set_option linter.all false
set_option maxRecDepth 100000
set_option maxHeartbeats 1000000
/-! Mini, 15: the laws' two drawing helpers (the same text in every law). -/
namespace L2.Mi
open PySem
abbrev Op2 := D → D → Store → Res D
def takeM (oA oM : Op2) : MS :=
    sSeq (sIf (tOf (eBin gtI (eBin itemF (eVar 0) (eC (.int 0))) (eC (.int 0)))) (sSeq (sSet 2 (eBin modI (eFn intF (aList [eBin itemF (eVar 0) (eC (.int 0))])) (eVar 1)))
    (sSeq (sAsg (eBin divI (eBin itemF (eVar 0) (eC (.int 0))) (eVar 1)) (gSub (eVar 0) (eC (.int 0)) setL))
    (sRet (eVar 2)))) (sNext))
    (sSeq (sAsg (eBin modI (eFn intF (aList [eBin oA (eBin oM (eBin itemF (eVar 0) (eC (.int 1))) (eC (.int 48271))) (eC (.int 12345))])) (eC (.int 2147483647))) (gSub (eVar 0) (eC (.int 1)) setL))
    (sRet (eBin modI (eBin divI (eBin modI (eFn intF (aList [eBin oM (eBin itemF (eVar 0) (eC (.int 1))) (eBin itemF (eVar 0) (eC (.int 1)))])) (eC (.int 2147483629))) (eC (.int 64))) (eVar 1))))
/-- what is asked of + and * -/
structure OpsI (oA oM : Op2) : Prop where
  a : ∀ i j S, oA (.int i) (.int j) S = .ok (.int (i + j)) S
  m : ∀ i j S, mulOk i j = true → oM (.int i) (.int j) S = .ok (.int (i * j)) S
theorem opsI_of {f g : Op2} : OpsI (addF f) (mulF g) := ⟨fun _ _ _ => rfl, fun _ _ _ h => mulF_ev h⟩
/-- a pool stands at i -/
def Pool (S : Store) (i : Nat) : Prop := ∃ h s : Int, S.get i = some (.lst [.int h, .int s]) ∧ 0 ≤ h ∧ 0 ≤ s ∧ s < 2147483647
theorem at0 {a b : D} : L2.atI [a, b] 0 = some a := rfl
theorem at1 {a b : D} : L2.atI [a, b] 1 = some b := rfl
theorem mulOk_l {i j : Int} (h1 : -(2 ^ 64) < i) (h2 : i < 2 ^ 64) : mulOk i j = true := by
  unfold mulOk
  simp only [Bool.or_eq_true, Bool.and_eq_true, decide_eq_true_eq]
  exact .inl (.inl ⟨h1, h2⟩)
theorem mulOk_r {i j : Int} (h1 : -(2 ^ 64) < j) (h2 : j < 2 ^ 64) : mulOk i j = true := by
  unfold mulOk
  simp only [Bool.or_eq_true, Bool.and_eq_true, decide_eq_true_eq]
  exact .inl (.inr ⟨h1, h2⟩)
theorem divOk_of {w : Int} (h : 0 < w) (h1 : w < 2 ^ 31) : divOk w = true := by
  unfold divOk
  rw [Bool.and_eq_true, decide_eq_true_eq, decide_eq_true_eq]
  refine ⟨h, ?_⟩
  have := log2_le (n := w.natAbs) (b := 31) (by omega)
  omega
theorem take_ok {oA oM : Op2} (O : OpsI oA oM) {S : Store} {i : Nat} {w : Int} (hp : Pool S i) (w0 : 0 < w) (w1 : w < 2 ^ 31) :
    ∃ r o, fin (takeM oA oM [some (.ref i), some (.int w), none] S) = .ok (.int r) (S.set i o) ∧ 0 ≤ r ∧ r < w ∧ Pool (S.set i o) i := by
  obtain ⟨h, s, hg, h0, s0, s1⟩ := hp
  have hi := Store.get_lt hg
  have i0 : itemF (.ref i) (.int 0) S = .ok (.int h) S := itemF_seq (seqAt_list (listAt_ref hg)) at0
  have i1 : itemF (.ref i) (.int 1) S = .ok (.int s) S := itemF_seq (seqAt_list (listAt_ref hg)) at1
  by_cases hh : 0 < h
  · refine ⟨h % w, .lst [.int (h / w), .int s], ?_, Int.emod_nonneg _ (by omega), Int.emod_lt_of_pos _ w0, ⟨h / w, s, Store.get_set_same hi, Int.ediv_nonneg h0 (by omega), s0, s1⟩⟩
    have hs : setL (.ref i) (.int 0) (.int (h / w)) S = some (S.set i (.lst [.int (h / w), .int s])) := by
      unfold setL
      simp only [hg]
      rfl
    unfold takeM
    simp only [sSeq_ev, sIf_ev, tOf_ev, eBin_ev, eVar_0, eVar_s, eC_ev, bind_ok', i0, gtI_ev, decide_eq_true hh, if_true, sAsg_ev, eFn_ev, aList_cons, aList_nil, intF_ev, modI_ev w0, gName_ev, List.set_cons_succ, List.set_cons_zero, divI_ev (divOk_of w0 w1), gSub, hs, sRet_ev, fin_rt]
  · have hs : ∀ z : Int, setL (.ref i) (.int 1) (.int z) S = some (S.set i (.lst [.int h, .int z])) := fun z => by
      unfold setL
      simp only [hg]
      rfl
    have p0 : (0 : Int) ≤ (s * 48271 + 12345) % 2147483647 := Int.emod_nonneg _ (by omega)
    have p1 : (s * 48271 + 12345) % 2147483647 < 2147483647 := Int.emod_lt_of_pos _ (by omega)
    have hg2 : (S.set i (.lst [.int h, .int ((s * 48271 + 12345) % 2147483647)])).get i = some (.lst [.int h, .int ((s * 48271 + 12345) % 2147483647)]) := Store.get_set_same hi
    have j1 : itemF (.ref i) (.int 1) (S.set i (.lst [.int h, .int ((s * 48271 + 12345) % 2147483647)])) = .ok (.int ((s * 48271 + 12345) % 2147483647)) (S.set i (.lst [.int h, .int ((s * 48271 + 12345) % 2147483647)])) := itemF_seq (seqAt_list (listAt_ref hg2)) at1
    refine ⟨(((s * 48271 + 12345) % 2147483647) * ((s * 48271 + 12345) % 2147483647)) % 2147483629 / 64 % w, .lst [.int h, .int ((s * 48271 + 12345) % 2147483647)], ?_, Int.emod_nonneg _ (by omega), Int.emod_lt_of_pos _ w0, ⟨h, _, hg2, h0, p0, p1⟩⟩
    unfold takeM
    have k1 := O.m s 48271 S (mulOk_r (by omega) (by omega))
    have k2 := O.m ((s * 48271 + 12345) % 2147483647) ((s * 48271 + 12345) % 2147483647) (S.set i (.lst [.int h, .int ((s * 48271 + 12345) % 2147483647)])) (mulOk_r (by omega) (by omega))
    simp only [sSeq_ev, sIf_ev, tOf_ev, eBin_ev, eVar_0, eVar_s, eC_ev, bind_ok', i0, i1, gtI_ev, decide_eq_false hh, Bool.false_eq_true, if_false, sNext_ev, sAsg_ev, eFn_ev, aList_cons, aList_nil, intF_ev, k1, O.a, modI_ev (show (0 : Int) < 2147483647 by omega), gSub, hs, sRet_ev, j1, k2, modI_ev (show (0 : Int) < 2147483629 by omega), divI_ev (divOk_of (show (0 : Int) < 64 by omega) (by omega)), modI_ev w0, fin_rt]
def poolM (oA oM : Op2) : MS :=
    sSeq (sSet 2 (eC (.int 0)))
    (sSeq (sIf (tOf (eBin ltI (eVar 1) (eFn lenF (aList [eVar 0])))) (sSet 2 (eBin itemF (eVar 0) (eVar 1))) (sNext))
    (sSeq (sSet 3 (eFn absF (aList [eVar 2])))
    (sSeq (sSet 4 (eBin modI (eBin oM (eFn intF (aList [eBin oA (eBin modI (eFn intF (aList [eVar 2])) (eC (.int 2147483629))) (eBin oM (eC (.int 104729)) (eBin oA (eVar 1) (eC (.int 1))))])) (eBin oA (eVar 1) (eC (.int 7)))) (eC (.int 2147483629))))
    (sSeq (sSet 5 (eBin modI (eBin oM (eBin modI (eFn intF (aList [eBin oM (eVar 4) (eVar 4)])) (eC (.int 2147483629))) (eC (.int 48271))) (eC (.int 2147483647))))
    (sRet (eLst [eBin oM (eVar 3) (eFn intF (aList [eBin geI (eVar 3) (eBin powI (eC (.int 10)) (eC (.int 18)))])), eVar 5]))))))
theorem pool_ok {oA oM : Op2} (O : OpsI oA oM) {S : Store} {ns : List Int} {k : Nat} (hk : k < 1000) (hl : ns.length ≤ 1000) :
    ∃ o, fin (poolM oA oM [some (.fl (ns.map D.int)), some (.int (k : Int)), none, none, none, none] S) = .ok (.ref S.size) (S.push o) ∧ Pool (S.push o) S.size := by
  have hc : ∃ c : Int, sIf (tOf (eBin ltI (eVar 1) (eFn lenF (aList [eVar 0])))) (sSet 2 (eBin itemF (eVar 0) (eVar 1))) sNext [some (.fl (ns.map D.int)), some (.int (k : Int)), some (.int 0), none, none, none] S =
      .nx [some (.fl (ns.map D.int)), some (.int (k : Int)), some (.int c), none, none, none] S := by
    have hlen : lenF [.fl (ns.map D.int)] S = .ok (.int ns.length) S := by
      rw [lenF_seq (xs := ns.map D.int) rfl, List.length_map]
    by_cases h : k < ns.length
    · refine ⟨ns[k], ?_⟩
      have hi : itemF (.fl (ns.map D.int)) (.int (k : Int)) S = .ok (.int ns[k]) S := itemF_seq (xs := ns.map D.int) rfl (atI_nat (by simp [h]))
      simp only [sIf_ev, tOf_ev, eBin_ev, eVar_s, eVar_0, eFn_ev, aList_cons, aList_nil, bind_ok', hlen, ltI_ev, decide_eq_true (show (k : Int) < (ns.length : Int) by omega), if_true, sAsg_ev, hi, gName_ev, List.set_cons_succ, List.set_cons_zero]
    · refine ⟨0, ?_⟩
      simp only [sIf_ev, tOf_ev, eBin_ev, eVar_s, eVar_0, eFn_ev, aList_cons, aList_nil, bind_ok', hlen, ltI_ev, decide_eq_false (show ¬ (k : Int) < (ns.length : Int) by omega), Bool.false_eq_true, if_false, sNext_ev]
  obtain ⟨c, hc⟩ := hc
  have q1 : (0 : Int) < 2147483629 := by omega
  have q2 : (0 : Int) < 2147483647 := by omega
  have r0 := Int.emod_nonneg c (show (2147483629 : Int) ≠ 0 by omega)
  have r1 := Int.emod_lt_of_pos c q1
  have m1 : mulOk 104729 ((k : Int) + 1) = true := mulOk_l (by omega) (by omega)
  have m2 : mulOk (c % 2147483629 + 104729 * ((k : Int) + 1)) ((k : Int) + 7) = true := mulOk_r (by omega) (by omega)
  have b0 := Int.emod_nonneg ((c % 2147483629 + 104729 * ((k : Int) + 1)) * ((k : Int) + 7)) (show (2147483629 : Int) ≠ 0 by omega)
  have b1 := Int.emod_lt_of_pos ((c % 2147483629 + 104729 * ((k : Int) + 1)) * ((k : Int) + 7)) q1
  generalize hb : (c % 2147483629 + 104729 * ((k : Int) + 1)) * ((k : Int) + 7) % 2147483629 = bl at b0 b1
  have m3 : mulOk bl bl = true := mulOk_l (by omega) (by omega)
  have m4 : mulOk (bl * bl % 2147483629) 48271 = true := mulOk_r (by omega) (by omega)
  have s0 := Int.emod_nonneg (bl * bl % 2147483629 * 48271) (show (2147483647 : Int) ≠ 0 by omega)
  have s1 := Int.emod_lt_of_pos (bl * bl % 2147483629 * 48271) q2
  have a0 : (0 : Int) ≤ (if c < 0 then -c else c) := by split <;> omega
  generalize ha : (if c < 0 then -c else c) = hv at a0
  have pw : powOk 10 18 = true := by decide
  have f0 : (0 : Int) ≤ (if decide ((10 : Int) ^ (18 : Int).toNat ≤ hv) = true then 1 else 0) ∧ (if decide ((10 : Int) ^ (18 : Int).toNat ≤ hv) = true then (1 : Int) else 0) ≤ 1 := by split <;> omega
  have m5 : mulOk hv (if decide ((10 : Int) ^ (18 : Int).toNat ≤ hv) = true then 1 else 0) = true := mulOk_r (by omega) (by omega)
  refine ⟨_, ?_, ⟨hv * (if decide ((10 : Int) ^ (18 : Int).toNat ≤ hv) = true then 1 else 0), bl * bl % 2147483629 * 48271 % 2147483647, Store.get_push_same, Int.mul_nonneg a0 f0.1, s0, s1⟩⟩
  unfold poolM
  simp only [sSeq_ev, sAsg_ev, eC_ev, gName_ev, List.set_cons_succ, List.set_cons_zero, hc, eFn_ev, aList_cons, aList_nil, eVar_s, eVar_0, bind_ok', absF_ev, ha, eBin_ev, intF_ev, modI_ev q1, modI_ev q2, O.a, O.m _ _ _ m1, O.m _ _ _ m2, hb, O.m _ _ _ m3, O.m _ _ _ m4, sRet_ev, eLst_ev, powI_ev pw, geI_ev, intF_bl, O.m _ _ _ m5, fin_rt]
end L2.Mi

set_option Elab.async false
set_option linter.all false
set_option maxRecDepth 100000
set_option maxHeartbeats 4000000
/-! The program of law_k40_sums_of_sizes: runs, derivations. Printed by gen.py. -/
namespace L2.Mi.Pg
open PySem PySem.Spec PyProof.Rows
abbrev pw : Program := PySem.Challenge.pw_farmisses_k40_sums_of_sizes
def top (i : Nat) : Stmt := pw.main.body.getD i (.Pass ⟨0, 0, 0, 0⟩)
abbrev s_0 : Stmt := top 1
abbrev s_1 : Stmt := top 2
abbrev s_2 : Stmt := top 3
abbrev s_3 : Stmt := top 4
abbrev s_4 : Stmt := top 5
abbrev s_5 : Stmt := top 6
abbrev s_6 : Stmt := inClass (top 7) 0
abbrev s_7 : Stmt := inClass (top 7) 1
abbrev s_8 : Stmt := inClass (top 7) 2
abbrev s_9 : Stmt := inClass (top 7) 3
abbrev s_10 : Stmt := inClass (top 7) 4
abbrev s_11 : Stmt := inClass (top 7) 5
abbrev s_12 : Stmt := inClass (top 7) 6
abbrev s_13 : Stmt := inClass (top 7) 7
abbrev s_14 : Stmt := inClass (top 7) 8
abbrev s_15 : Stmt := top 9
abbrev s_16 : Stmt := top 10
abbrev s_17 : Stmt := top 11
abbrev s_18 : Stmt := top 12
abbrev s_19 : Stmt := top 13
abbrev s_20 : Stmt := top 14
abbrev s_21 : Stmt := top 15
def dAdd (call : Nat → FN) : Disp := fun c => match c with | 0 => some (call 10) | _ => none
def oAdd (call : Nat → FN) : D → D → Store → Res D := addF (ownB (dAdd call))
def dSub (call : Nat → FN) : Disp := fun c => match c with | 0 => some (call 11) | _ => none
def oSub (call : Nat → FN) : D → D → Store → Res D := subF (ownB (dSub call))
def dMul (call : Nat → FN) : Disp := fun c => match c with | 0 => some (call 12) | _ => none
def oMul (call : Nat → FN) : D → D → Store → Res D := mulF (ownB (dMul call))
def dNeg (call : Nat → FN) : Disp := fun c => match c with | 0 => some (call 13) | _ => none
def oNeg (call : Nat → FN) : D → Store → Res D := negF (dNeg call)
def isiT : List (Tag × Tag × Bool) := [(.b "NoneType", .o 0, false), (.b "bool", .o 0, false), (.b "int", .o 0, false), (.b "str", .o 0, false), (.b "tuple", .o 0, false), (.b "list", .o 0, false), (.b "dict", .o 0, false), (.b "type", .o 0, false), (.o 0, .o 0, true)]
def isiL (t u : Tag) : Option Bool := (isiT.find? fun q => q.1 == t && q.2.1 == u).map (·.2.2)
def dEq (call : Nat → FN) : Disp := fun c => match c with | 0 => some (call 14) | _ => none
def oEq (call : Nat → FN) : D → D → Store → Res D := eqF (eqOwn isiL (dEq call))
def oNe (call : Nat → FN) : D → D → Store → Res D := neF (neOwn isiL (dEq call))
def dCall (call : Nat → FN) : Disp := fun c => match c with | 0 => some (call 9) | _ => none
def at_coefficients (call : Nat → FN) : ADisp := fun c => match c with | 0 => some (some (call 7)) | _ => none
def at_degree (call : Nat → FN) : ADisp := fun c => match c with | 0 => some (some (call 8)) | _ => none
def at_own_parts (call : Nat → FN) : ADisp := fun c => match c with | 0 => some none | _ => none
def st_own_parts (c : Nat) : Bool := match c with | 0 => true | _ => false
def m_0 (call : Nat → FN) : MS :=
  -- cleared
    sSeq (sSet 1 (eFn lenF (aList [eVar 0])))
    (sSeq (sWhile (tAnd (tOf (eBin gtI (eVar 1) (eC (.int 0)))) (tOf (eBin (oEq call) (eBin itemF (eVar 0) (eBin (oSub call) (eVar 1) (eC (.int 1)))) (eC (.int 0))))) (sAug 1 subI (eC (.int 1))) 200)
    (sRet (eFn tupleF (aList [eLcV (iRange1 (eVar 1)) (.one 2) (tYesM) (eBin itemF (eVar 0) (eVar 2)) [2] 200]))))
def m_1 (call : Nat → FN) : MS :=
  -- part_at
    sRet (eIf (tOf (eChain leI ltI (eC (.int 0)) (eVar 1) (eFn lenF (aList [eVar 0])))) (eBin itemF (eVar 0) (eVar 1)) (eC (.int 0)))
def m_2 (call : Nat → FN) : MS :=
  -- plus
    sRet (eFn (call 0) (aList [eLcV (iRange1 (eFn max2F (aList [eFn lenF (aList [eVar 0]), eFn lenF (aList [eVar 1])]))) (.one 2) (tYesM) (eBin (oAdd call) (eFn (call 1) (aList [eVar 0, eVar 2])) (eFn (call 1) (aList [eVar 1, eVar 2]))) [2] 200]))
def m_3 (call : Nat → FN) : MS :=
  -- times
    sSeq (sSet 2 (eLst []))
    (sSeq (sFor (iRange1 (eBin (oAdd call) (eFn lenF (aList [eVar 0])) (eFn lenF (aList [eVar 1])))) (gName 3) (sDrop (eBm isLst appendF (eVar 2) (aList [eFn sumF (aList [eLcV (iEn (eVar 0)) (.many [4, 5]) (tYesM) (eBin (oMul call) (eVar 5) (eFn (call 1) (aList [eVar 1, eBin (oSub call) (eVar 3) (eVar 4)]))) [4, 5] 200])]))) 200)
    (sRet (eFn (call 0) (aList [eVar 2]))))
def m_4 (call : Nat → FN) : MS :=
  -- value
    sSeq (sSet 2 (eBin (oMul call) (eVar 1) (eC (.int 0))))
    (sSeq (sFor (iSeq (eUn revF (eVar 0))) (gName 3) (sSet 2 (eBin (oAdd call) (eBin (oMul call) (eVar 2) (eVar 1)) (eVar 3))) 200)
    (sRet (eVar 2)))
def m_5 (call : Nat → FN) : MS :=
  -- parts_of
    sRet (eIf (tTru (eFn (isiF isiL) (aList [eVar 0, eC (.cl 0)]))) (eUn (attrF (at_own_parts call) 0) (eVar 0)) (eFn (call 0) (aList [eTup [eVar 0]])))
def m_6 (call : Nat → FN) : MS :=
  -- Size.__init__
    sFld st_own_parts 0 (eVar 0) (eFn (call 0) (aList [eVar 1]))
def m_7 (call : Nat → FN) : MS :=
  -- Size.coefficients
    sRet (eUn (attrF (at_own_parts call) 0) (eVar 0))
def m_8 (call : Nat → FN) : MS :=
  -- Size.degree
    sRet (eFn max2F (aList [eBin (oSub call) (eFn lenF (aList [eUn (attrF (at_own_parts call) 0) (eVar 0)])) (eC (.int 1)), eC (.int 0)]))
def m_9 (call : Nat → FN) : MS :=
  -- Size.__call__
    sRet (eFn (call 4) (aList [eUn (attrF (at_own_parts call) 0) (eVar 0), eVar 1]))
def m_10 (call : Nat → FN) : MS :=
  -- Size.__add__
    sRet (eFn (makeW 0 (call 6)) (aList [eFn (call 2) (aList [eUn (attrF (at_own_parts call) 0) (eVar 0), eFn (call 5) (aList [eVar 1])])]))
def m_11 (call : Nat → FN) : MS :=
  -- Size.__sub__
    sRet (eFn (makeW 0 (call 6)) (aList [eFn (call 2) (aList [eUn (attrF (at_own_parts call) 0) (eVar 0), eFn tupleF (aList [eLcV (iSeq (eFn (call 5) (aList [eVar 1]))) (.one 2) (tYesM) (eUn (oNeg call) (eVar 2)) [2] 200])])]))
def m_12 (call : Nat → FN) : MS :=
  -- Size.__mul__
    sRet (eFn (makeW 0 (call 6)) (aList [eFn (call 3) (aList [eUn (attrF (at_own_parts call) 0) (eVar 0), eFn (call 5) (aList [eVar 1])])]))
def m_13 (call : Nat → FN) : MS :=
  -- Size.__neg__
    sRet (eFn (makeW 0 (call 6)) (aList [eFn tupleF (aList [eLcV (iSeq (eUn (attrF (at_own_parts call) 0) (eVar 0))) (.one 1) (tYesM) (eUn (oNeg call) (eVar 1)) [1] 200])]))
def m_14 (call : Nat → FN) : MS :=
  -- Size.__eq__
    sRet (eAnd (eFn (isiF isiL) (aList [eVar 1, eC (.cl 0)])) (eBin (oEq call) (eUn (attrF (at_own_parts call) 0) (eVar 0)) (eUn (attrF (at_own_parts call) 0) (eVar 1))))
def m_15 (call : Nat → FN) : MS :=
  -- _law_pool
    sSeq (sSet 2 (eC (.int 0)))
    (sSeq (sIf (tOf (eBin ltI (eVar 1) (eFn lenF (aList [eVar 0])))) (sSet 2 (eBin itemF (eVar 0) (eVar 1))) (sNext))
    (sSeq (sSet 3 (eFn absF (aList [eVar 2])))
    (sSeq (sSet 4 (eBin modI (eBin (oMul call) (eFn intF (aList [eBin (oAdd call) (eBin modI (eFn intF (aList [eVar 2])) (eC (.int 2147483629))) (eBin (oMul call) (eC (.int 104729)) (eBin (oAdd call) (eVar 1) (eC (.int 1))))])) (eBin (oAdd call) (eVar 1) (eC (.int 7)))) (eC (.int 2147483629))))
    (sSeq (sSet 5 (eBin modI (eBin (oMul call) (eBin modI (eFn intF (aList [eBin (oMul call) (eVar 4) (eVar 4)])) (eC (.int 2147483629))) (eC (.int 48271))) (eC (.int 2147483647))))
    (sRet (eLst [eBin (oMul call) (eVar 3) (eFn intF (aList [eBin geI (eVar 3) (eBin powI (eC (.int 10)) (eC (.int 18)))])), eVar 5]))))))
def m_16 (call : Nat → FN) : MS :=
  -- _law_take
    sSeq (sIf (tOf (eBin gtI (eBin itemF (eVar 0) (eC (.int 0))) (eC (.int 0)))) (sSeq (sSet 2 (eBin modI (eFn intF (aList [eBin itemF (eVar 0) (eC (.int 0))])) (eVar 1)))
    (sSeq (sAsg (eBin divI (eBin itemF (eVar 0) (eC (.int 0))) (eVar 1)) (gSub (eVar 0) (eC (.int 0)) setL))
    (sRet (eVar 2)))) (sNext))
    (sSeq (sAsg (eBin modI (eFn intF (aList [eBin (oAdd call) (eBin (oMul call) (eBin itemF (eVar 0) (eC (.int 1))) (eC (.int 48271))) (eC (.int 12345))])) (eC (.int 2147483647))) (gSub (eVar 0) (eC (.int 1)) setL))
    (sRet (eBin modI (eBin divI (eBin modI (eFn intF (aList [eBin (oMul call) (eBin itemF (eVar 0) (eC (.int 1))) (eBin itemF (eVar 0) (eC (.int 1)))])) (eC (.int 2147483629))) (eC (.int 64))) (eVar 1))))
def m_17 (call : Nat → FN) : MS :=
  -- _law_value
    sSeq (sSet 2 (eC (.int 0)))
    (sSeq (sFor (iSeq (eUn revF (eVar 0))) (gName 3) (sSet 2 (eBin (oAdd call) (eBin (oMul call) (eVar 2) (eVar 1)) (eVar 3))) 200)
    (sRet (eVar 2)))
def m_18 (call : Nat → FN) : MS :=
  -- _law_parts
    sSeq (sSet 1 (eLv [eC (.int 0), eC (.int 0), eC (.int 1), eUn (oNeg call) (eC (.int 1)), eC (.int 2), eC (.int 7), eUn (oNeg call) (eC (.int 30)), eBin powI (eC (.int 10)) (eC (.int 30))]))
    (sRet (eFn tupleF (aList [eLcV (iRange1 (eFn (call 16) (aList [eVar 0, eC (.int 5)]))) (.one 2) (tYesM) (eBin itemF (eVar 1) (eFn (call 16) (aList [eVar 0, eC (.int 8)]))) [2] 200])))
def m_19 (call : Nat → FN) : MS :=
  -- _law_trimmed
    sSeq (sSet 1 (eFn listF (aList [eVar 0])))
    (sSeq (sWhile (tAnd (tOf (eBin (oNe call) (eVar 1) (eLv []))) (tOf (eBin (oEq call) (eBin itemF (eVar 1) (eUn (oNeg call) (eC (.int 1)))) (eC (.int 0))))) (sDrop (eBm isLst popF (eVar 1) (aList []))) 200)
    (sRet (eFn tupleF (aList [eVar 1]))))
def m_20 (call : Nat → FN) : MS :=
  -- _law_right
    sSeq (sPar 4 5 (eFn (call 17) (aList [eUn (attrF (at_coefficients call) 1) (eVar 0), eVar 3])) (eFn (call 17) (aList [eUn (attrF (at_coefficients call) 1) (eVar 1), eVar 3])))
    (sSeq (sSet 6 (eLv [eTup [eBin (oAdd call) (eVar 0) (eVar 1), eBin (oAdd call) (eVar 4) (eVar 5)], eTup [eBin (oSub call) (eVar 0) (eVar 1), eBin (oSub call) (eVar 4) (eVar 5)], eTup [eBin (oMul call) (eVar 0) (eVar 1), eBin (oMul call) (eVar 4) (eVar 5)], eTup [eUn (oNeg call) (eVar 0), eUn (oNeg call) (eVar 4)]]))
    (sSeq (sSet 6 (eBin (oAdd call) (eVar 6) (eLv [eTup [eBin (oAdd call) (eVar 0) (eVar 2), eBin (oAdd call) (eVar 4) (eVar 2)], eTup [eBin (oSub call) (eVar 0) (eVar 2), eBin (oSub call) (eVar 4) (eVar 2)], eTup [eBin (oMul call) (eVar 0) (eVar 2), eBin (oMul call) (eVar 4) (eVar 2)]])))
    (sSeq (sFor (iSeq (eVar 6)) (gTup [gName 7, gName 8]) (sIf (tOr (tOf (eBin (oNe call) (eCallI (dCall call) (eVar 7) (aList [eVar 3])) (eVar 8))) (tOr (tOf (eBin (oNe call) (eUn (attrF (at_coefficients call) 1) (eVar 7)) (eFn (call 19) (aList [eUn (attrF (at_coefficients call) 1) (eVar 7)])))) (tNot (tTru (eFn (isiF isiL) (aList [eVar 7, eC (.cl 0)])))))) (sRet (eC (.bl false))) (sNext)) 200)
    (sRet (eAnd (eBin (oEq call) (eCallI (dCall call) (eVar 0) (aList [eVar 3])) (eVar 4)) (eBin (oEq call) (eCallI (dCall call) (eCallI (dCall call) (eVar 0) (aList [eVar 1])) (aList [eVar 3])) (eFn (call 17) (aList [eUn (attrF (at_coefficients call) 1) (eVar 0), eVar 5]))))))))
def m_21 (call : Nat → FN) : MS :=
  -- law
    sSeq (sFor (iRange1 (eFn max2F (aList [eC (.int 1), eFn min2F (aList [eFn lenF (aList [eVar 0]), eC (.int 8)])]))) (gName 1) (sSeq (sSet 2 (eFn (call 15) (aList [eVar 0, eVar 1])))
    (sSeq (sPar 3 4 (eFn (call 18) (aList [eVar 2])) (eFn (call 18) (aList [eVar 2])))
    (sSeq (sPar3 5 6 7 (eFn (makeW 0 (call 6)) (aList [eVar 3])) (eFn (makeW 0 (call 6)) (aList [eVar 4])) (eBin itemF (eLv [eC (.int 0), eC (.int 1), eUn (oNeg call) (eC (.int 3)), eBin powI (eC (.int 10)) (eC (.int 20))]) (eFn (call 16) (aList [eVar 2, eC (.int 4)]))))
    (sSeq (sIf (tOr (tOf (eBin (oNe call) (eUn (attrF (at_coefficients call) 1) (eVar 5)) (eFn (call 19) (aList [eVar 3])))) (tOf (eBin (oNe call) (eUn (attrF (at_degree call) 2) (eVar 5)) (eFn max2F (aList [eBin (oSub call) (eFn lenF (aList [eFn (call 19) (aList [eVar 3])])) (eC (.int 1)), eC (.int 0)]))))) (sRet (eC (.bl false))) (sNext))
    (sSeq (sIf (tOr (tOf (eBin (oNe call) (eBin (oEq call) (eVar 5) (eVar 6)) (eBin (oEq call) (eFn (call 19) (aList [eVar 3])) (eFn (call 19) (aList [eVar 4]))))) (tOf (eBin (oNe call) (eVar 5) (eFn (makeW 0 (call 6)) (aList [eBin (oAdd call) (eVar 3) (eTup [eC (.int 0)])]))))) (sRet (eC (.bl false))) (sNext))
    (sSeq (sIf (tOr (tOf (eBin (oEq call) (eVar 5) (eVar 7))) (tOr (tOf (eBin (oEq call) (eVar 5) (eVar 3))) (tOf (eBin (oEq call) (eVar 5) (eC (.str [])))))) (sRet (eC (.bl false))) (sNext))
    (sFor (iSeq (eLv [eC (.int 0), eBin (oAdd call) (eC (.int 1)) (eFn (call 16) (aList [eVar 2, eC (.int 9)])), eBin (oAdd call) (eBin powI (eC (.int 10)) (eC (.int 30))) (eC (.int 1))])) (gName 8) (sIf (tNot (tTru (eFn (call 20) (aList [eVar 5, eVar 6, eVar 7, eVar 8])))) (sRet (eC (.bl false))) (sNext)) 200))))))) 200)
    (sRet (eAnd (eBin (oEq call) (eUn (attrF (at_coefficients call) 1) (eFn (makeW 0 (call 6)) (aList []))) (eTup [])) (eBin (oEq call) (eFn (makeW 0 (call 6)) (aList [])) (eFn (makeW 0 (call 6)) (aList [eTup [eC (.int 0), eC (.int 0)]])))))
def bodies : List ((Nat → FN) → FN) := [fun call => callD 1 [] (bodyRun 3 (m_0 call)),
  fun call => callD 2 [] (bodyRun 2 (m_1 call)),
  fun call => callD 2 [] (bodyRun 3 (m_2 call)),
  fun call => callD 2 [] (bodyRun 6 (m_3 call)),
  fun call => callD 2 [] (bodyRun 4 (m_4 call)),
  fun call => callD 1 [] (bodyRun 1 (m_5 call)),
  fun call => callD 2 [(.kt [])] (bodyRun 2 (m_6 call)),
  fun call => callD 1 [] (bodyRun 1 (m_7 call)),
  fun call => callD 1 [] (bodyRun 1 (m_8 call)),
  fun call => callD 2 [] (bodyRun 2 (m_9 call)),
  fun call => callD 2 [] (bodyRun 2 (m_10 call)),
  fun call => callD 2 [] (bodyRun 3 (m_11 call)),
  fun call => callD 2 [] (bodyRun 2 (m_12 call)),
  fun call => callD 1 [] (bodyRun 2 (m_13 call)),
  fun call => callD 2 [] (bodyRun 2 (m_14 call)),
  fun call => callD 2 [] (bodyRun 6 (m_15 call)),
  fun call => callD 2 [] (bodyRun 3 (m_16 call)),
  fun call => callD 2 [] (bodyRun 4 (m_17 call)),
  fun call => callD 1 [] (bodyRun 3 (m_18 call)),
  fun call => callD 1 [] (bodyRun 2 (m_19 call)),
  fun call => callD 4 [] (bodyRun 9 (m_20 call)),
  fun call => callD 1 [] (bodyRun 9 (m_21 call))]
def run : Nat → Nat → FN
  | 0, _ => fun _ _ => .bad
  | n + 1, i => (bodies.getD i fun _ _ _ => .bad) (run n)
theorem run_0 {n : Nat} {S : Store} {a0 : D} : run (n + 1) 0 [a0] S = fin (m_0 (run n) [some a0, none, none] S) := rfl
theorem run_1 {n : Nat} {S : Store} {a0 : D} {a1 : D} : run (n + 1) 1 [a0, a1] S = fin (m_1 (run n) [some a0, some a1] S) := rfl
theorem run_2 {n : Nat} {S : Store} {a0 : D} {a1 : D} : run (n + 1) 2 [a0, a1] S = fin (m_2 (run n) [some a0, some a1, none] S) := rfl
theorem run_3 {n : Nat} {S : Store} {a0 : D} {a1 : D} : run (n + 1) 3 [a0, a1] S = fin (m_3 (run n) [some a0, some a1, none, none, none, none] S) := rfl
theorem run_4 {n : Nat} {S : Store} {a0 : D} {a1 : D} : run (n + 1) 4 [a0, a1] S = fin (m_4 (run n) [some a0, some a1, none, none] S) := rfl
theorem run_5 {n : Nat} {S : Store} {a0 : D} : run (n + 1) 5 [a0] S = fin (m_5 (run n) [some a0] S) := rfl
theorem run_6 {n : Nat} {S : Store} {a0 : D} {a1 : D} : run (n + 1) 6 [a0, a1] S = fin (m_6 (run n) [some a0, some a1] S) := rfl
theorem run_6_ {n : Nat} {S : Store} {a0 : D} : run (n + 1) 6 [a0] S = fin (m_6 (run n) [some a0, some (.kt [])] S) := rfl
theorem run_7 {n : Nat} {S : Store} {a0 : D} : run (n + 1) 7 [a0] S = fin (m_7 (run n) [some a0] S) := rfl
theorem run_8 {n : Nat} {S : Store} {a0 : D} : run (n + 1) 8 [a0] S = fin (m_8 (run n) [some a0] S) := rfl
theorem run_9 {n : Nat} {S : Store} {a0 : D} {a1 : D} : run (n + 1) 9 [a0, a1] S = fin (m_9 (run n) [some a0, some a1] S) := rfl
theorem run_10 {n : Nat} {S : Store} {a0 : D} {a1 : D} : run (n + 1) 10 [a0, a1] S = fin (m_10 (run n) [some a0, some a1] S) := rfl
theorem run_11 {n : Nat} {S : Store} {a0 : D} {a1 : D} : run (n + 1) 11 [a0, a1] S = fin (m_11 (run n) [some a0, some a1, none] S) := rfl
theorem run_12 {n : Nat} {S : Store} {a0 : D} {a1 : D} : run (n + 1) 12 [a0, a1] S = fin (m_12 (run n) [some a0, some a1] S) := rfl
theorem run_13 {n : Nat} {S : Store} {a0 : D} : run (n + 1) 13 [a0] S = fin (m_13 (run n) [some a0, none] S) := rfl
theorem run_14 {n : Nat} {S : Store} {a0 : D} {a1 : D} : run (n + 1) 14 [a0, a1] S = fin (m_14 (run n) [some a0, some a1] S) := rfl
theorem run_15 {n : Nat} {S : Store} {a0 : D} {a1 : D} : run (n + 1) 15 [a0, a1] S = fin (m_15 (run n) [some a0, some a1, none, none, none, none] S) := rfl
theorem run_16 {n : Nat} {S : Store} {a0 : D} {a1 : D} : run (n + 1) 16 [a0, a1] S = fin (m_16 (run n) [some a0, some a1, none] S) := rfl
theorem run_17 {n : Nat} {S : Store} {a0 : D} {a1 : D} : run (n + 1) 17 [a0, a1] S = fin (m_17 (run n) [some a0, some a1, none, none] S) := rfl
theorem run_18 {n : Nat} {S : Store} {a0 : D} : run (n + 1) 18 [a0] S = fin (m_18 (run n) [some a0, none, none] S) := rfl
theorem run_19 {n : Nat} {S : Store} {a0 : D} : run (n + 1) 19 [a0] S = fin (m_19 (run n) [some a0, none] S) := rfl
theorem run_20 {n : Nat} {S : Store} {a0 : D} {a1 : D} {a2 : D} {a3 : D} : run (n + 1) 20 [a0, a1, a2, a3] S = fin (m_20 (run n) [some a0, some a1, some a2, some a3, none, none, none, none, none] S) := rfl
theorem run_21 {n : Nat} {S : Store} {a0 : D} : run (n + 1) 21 [a0] S = fin (m_21 (run n) [some a0, none, none, none, none, none, none, none, none] S) := rfl
end L2.Mi.Pg

set_option Elab.async false
set_option linter.all false
set_option maxRecDepth 100000
set_option maxHeartbeats 4000000
/-! The program of law_k40_sums_of_sizes: runs, derivations. Printed by gen.py. -/
namespace L2.Mi.Pg
open PySem PySem.Spec PyProof.Rows
def defs : List DefM := [⟨.g "cleared", "cleared", "cleared", s_0, []⟩,
  ⟨.g "part_at", "part_at", "part_at", s_1, []⟩,
  ⟨.g "plus", "plus", "plus", s_2, []⟩,
  ⟨.g "times", "times", "times", s_3, []⟩,
  ⟨.g "value", "value", "value", s_4, []⟩,
  ⟨.g "parts_of", "parts_of", "parts_of", s_5, []⟩,
  ⟨.m "Size" "__init__", "__init__", "Size.__init__", s_6, [(.kt [])]⟩,
  ⟨.p "Size" "coefficients", "coefficients", "Size.coefficients", s_7, []⟩,
  ⟨.p "Size" "degree", "degree", "Size.degree", s_8, []⟩,
  ⟨.m "Size" "__call__", "__call__", "Size.__call__", s_9, []⟩,
  ⟨.m "Size" "__add__", "__add__", "Size.__add__", s_10, []⟩,
  ⟨.m "Size" "__sub__", "__sub__", "Size.__sub__", s_11, []⟩,
  ⟨.m "Size" "__mul__", "__mul__", "Size.__mul__", s_12, []⟩,
  ⟨.m "Size" "__neg__", "__neg__", "Size.__neg__", s_13, []⟩,
  ⟨.m "Size" "__eq__", "__eq__", "Size.__eq__", s_14, []⟩,
  ⟨.g "_law_pool", "_law_pool", "_law_pool", s_15, []⟩,
  ⟨.g "_law_take", "_law_take", "_law_take", s_16, []⟩,
  ⟨.g "_law_value", "_law_value", "_law_value", s_17, []⟩,
  ⟨.g "_law_parts", "_law_parts", "_law_parts", s_18, []⟩,
  ⟨.g "_law_trimmed", "_law_trimmed", "_law_trimmed", s_19, []⟩,
  ⟨.g "_law_right", "_law_right", "_law_right", s_20, []⟩,
  ⟨.g "law", "law", "law", s_21, []⟩]
def fa : List Fm := [.glo "law",
  .free "len",
  .free "range",
  .free "tuple",
  .free "max",
  .glo "part_at",
  .glo "cleared",
  .free "enumerate",
  .free "sum",
  .glo "Size",
  .free "isinstance",
  .glo "value",
  .glo "parts_of",
  .glo "plus",
  .mkr "Size",
  .glo "times",
  .free "abs",
  .free "int",
  .glo "_law_take",
  .free "list",
  .glo "_law_value",
  .glo "_law_trimmed",
  .free "min",
  .glo "_law_pool",
  .glo "_law_parts",
  .glo "_law_right",
  .prop "Size" "coefficients",
  .prop "Size" "degree",
  .noat "Size" "own_parts",
  .bin "Size" .Add,
  .bin "Size" .Sub,
  .bin "Size" .Mult,
  .un "Size" "__neg__",
  .un "Size" "__eq__",
  .ne "Size",
  .callo "Size"]
def L : Lw where
  cls := ["Size"]
  flds := ["own_parts", "coefficients", "degree"]
  isi := isiT
  xcl := []
  defs := defs
  fa := fa
  fok := by decide +kernel
section
variable {K : Fg} {c : L.Says K} {X : Cx} {W : WX} {n : Nat}
abbrev IH (c : L.Says K) (P : Program) (w : World) (mg : Str → Option Value) (base : Heap) (n : Nat) : Prop := ∀ (j : Nat) {d : DefM}, defs[j]? = some d → Cal (L.gx K c) P w mg base (lv n) (d.pth.ad K) (run n j)
theorem hu_of {k : Nat} (hr : Room k X.A) : X.A.units + 64 < cLine := by have := hr.un; omega
theorem oAdd_ok (cc : Cc (L.gx K c) X W) (hr : Room (lv n + 1) X.A) (ih : IH c X.prog X.w X.mg X.base n) : OpS (L.gx K c) X W (binaryOp .Add) (oAdd (run n)) := ops_add cc (ops_own (fun ci g h => by
    unfold dAdd at h
    split at h
    · cases h; exact binS c 0 29 rfl rfl (fns_cal cc (ih 10 rfl) (hr.mono (Nat.le_succ _))) cc.k
    · cases h))
theorem oSub_ok (cc : Cc (L.gx K c) X W) (hr : Room (lv n + 1) X.A) (ih : IH c X.prog X.w X.mg X.base n) : OpS (L.gx K c) X W (binaryOp .Sub) (oSub (run n)) := ops_sub (ops_own (fun ci g h => by
    unfold dSub at h
    split at h
    · cases h; exact binS c 0 30 rfl rfl (fns_cal cc (ih 11 rfl) (hr.mono (Nat.le_succ _))) cc.k
    · cases h))
theorem oMul_ok (cc : Cc (L.gx K c) X W) (hr : Room (lv n + 1) X.A) (ih : IH c X.prog X.w X.mg X.base n) : OpS (L.gx K c) X W (binaryOp .Mult) (oMul (run n)) := ops_mul (ops_own (fun ci g h => by
    unfold dMul at h
    split at h
    · cases h; exact binS c 0 31 rfl rfl (fns_cal cc (ih 12 rfl) (hr.mono (Nat.le_succ _))) cc.k
    · cases h))
theorem oNeg_ok (cc : Cc (L.gx K c) X W) (hr : Room (lv n + 1) X.A) (ih : IH c X.prog X.w X.mg X.base n) : UnS (L.gx K c) X W (unaryOp .USub) (oNeg (run n)) := uns_neg (fun ci g h => by
    unfold dNeg at h
    split at h
    · cases h; exact unS c 0 32 rfl rfl (fns_cal cc (ih 13 rfl) (hr.mono (Nat.le_succ _))) cc.k
    · cases h)
theorem oEq_ok (cc : Cc (L.gx K c) X W) (hr : Room (lv n + 1) X.A) (ih : IH c X.prog X.w X.mg X.base n) : OpS (L.gx K c) X W (compareOp .Eq) (oEq (run n)) := ops_eq cc (hu_of hr) (ops_eqOwn cc (hu_of hr) (fun ci g h => by
    unfold dEq at h
    split at h
    · cases h; exact unS c 0 33 rfl rfl (fns_cal cc (ih 14 rfl) (hr.mono (Nat.le_succ _))) cc.k
    · cases h))
theorem oNe_ok (cc : Cc (L.gx K c) X W) (hr : Room (lv n + 1) X.A) (ih : IH c X.prog X.w X.mg X.base n) : OpS (L.gx K c) X W (compareOp .NotEq) (oNe (run n)) := ops_ne cc (hu_of hr) (ops_neOwn cc (hu_of hr) (fun ci g h => by
    unfold dEq at h
    split at h
    · cases h; exact neS c 0 34 rfl rfl (ih 14 rfl) hr cc.k
    · cases h))
theorem dCall_ok (cc : Cc (L.gx K c) X W) (hr : Room (lv n + 1) X.A) (ih : IH c X.prog X.w X.mg X.base n) : ∀ ci g, dCall (run n) ci = some g → CallOS (L.gx K c) X ci g := fun ci g h => by
    unfold dCall at h
    split at h
    · cases h; exact callS c 0 35 rfl rfl (ih 9 rfl) (hr.mono (Nat.le_succ _)) cc.k
    · cases h
theorem at_coefficients_f (cc : Cc (L.gx K c) X W) : ∀ ci, at_coefficients (run n) ci = some none → FieldS (L.gx K c) X "coefficients" ci := fun ci h => by
    unfold at_coefficients at h
    split at h
    · cases h
    · cases h
theorem at_coefficients_p (cc : Cc (L.gx K c) X W) (hr : Room (lv n + 1) X.A) (ih : IH c X.prog X.w X.mg X.base n) : ∀ ci g, at_coefficients (run n) ci = some (some g) → PropS (L.gx K c) X "coefficients" ci g := fun ci g h => by
    unfold at_coefficients at h
    split at h
    · cases h; exact propS c 0 26 rfl rfl (ih 7 rfl) hr cc.k
    · cases h
theorem at_degree_f (cc : Cc (L.gx K c) X W) : ∀ ci, at_degree (run n) ci = some none → FieldS (L.gx K c) X "degree" ci := fun ci h => by
    unfold at_degree at h
    split at h
    · cases h
    · cases h
theorem at_degree_p (cc : Cc (L.gx K c) X W) (hr : Room (lv n + 1) X.A) (ih : IH c X.prog X.w X.mg X.base n) : ∀ ci g, at_degree (run n) ci = some (some g) → PropS (L.gx K c) X "degree" ci g := fun ci g h => by
    unfold at_degree at h
    split at h
    · cases h; exact propS c 0 27 rfl rfl (ih 8 rfl) hr cc.k
    · cases h
theorem at_own_parts_f (cc : Cc (L.gx K c) X W) : ∀ ci, at_own_parts (run n) ci = some none → FieldS (L.gx K c) X "own_parts" ci := fun ci h => by
    unfold at_own_parts at h
    split at h
    · exact fieldS c 0 28 rfl rfl cc.k
    · cases h
theorem at_own_parts_p (cc : Cc (L.gx K c) X W) (hr : Room (lv n + 1) X.A) (ih : IH c X.prog X.w X.mg X.base n) : ∀ ci g, at_own_parts (run n) ci = some (some g) → PropS (L.gx K c) X "own_parts" ci g := fun ci g h => by
    unfold at_own_parts at h
    split at h
    · cases h
    · cases h
theorem st_own_parts_ok (cc : Cc (L.gx K c) X W) : ∀ ci, st_own_parts ci = true → FieldS (L.gx K c) X "own_parts" ci := fun ci h => by
    unfold st_own_parts at h
    split at h
    · exact fieldS c 0 28 rfl rfl cc.k
    · cases h
variable {P : Program} {w : World} {mg : Str → Option Value} {base : Heap}
abbrev N_0 : List Str := ["parts", "many", "at"]
theorem sc_0 : FnScope N_0 ["parts"] (defScope s_0) := ⟨rfl, rfl, rfl, by decide +kernel, rfl, by decide +kernel, by decide +kernel⟩
theorem ok_0 (NS : Ns K mg) (n : Nat) (ih : IH c P w mg base n) (M : FnM (L.gx K c) ⟨.g "cleared", "cleared", "cleared", s_0, []⟩) : FnOk P w (L.gx K c).K mg base (L2.CX P w) (lv n + 1 + 1) ((.g "cleared" : Pth).ad (L.gx K c).K) M.fd ["parts"] (spF (L.gx K c) (bodyRun N_0.length (m_0 (run n))) (["parts"] : List Str).length) := by
  refine fnd_ok (G := L.gx K c) (k := lv n + 1) (ms := m_0 (run n)) M.F sc_0 fun cdv A outer s H E hr cc => ?_
  exact sss_cons (ss_set (i := 1) cc.nd rfl (by first | exact Or.inl rfl | exact Or.inr rfl) (se_callB (fns_len cc) rfl (NS.free c 1) (by decide +kernel) (sa_cons (se_var 0) (sa_nil))))
    (sss_cons (ss_while 200 cc (st_w (sw_and (st_cmp ops_gt (se_var 1) (se_int)) (sw_and1 (st_cmp (oEq_ok cc hr ih) (se_ix (ixs_item cc) (se_var 0) (se_bin (oSub_ok cc hr ih) (se_var 1) (se_int))) (se_int))))) (sss_one (ss_augM (i := 1) cc rfl (by first | exact Or.inl rfl | exact Or.inr rfl) (se_int))))
    (sss_one (ss_ret (se_callTy (fns_tuple cc) rfl (NS.free c 3) (by decide +kernel) (sa_cons (se_lcc (own := [("at", 2)]) (t := (.one 2)) 200 cc (si_range1 (sa_cons (se_var 1) (sa_nil)) rfl (NS.free c 2)) (blkOk_by (N := N_0) (sc := defScope s_0) (by decide +kernel)) (by decide) (fun _ _ _ _ _ cc => pg_name cc.nd rfl (by first | exact Or.inl rfl | exact Or.inr rfl)) (fun _ _ _ _ _ cc => sts_nil) (fun _ _ _ _ _ cc => se_ix (ixs_item cc) (se_var 0) (se_var 2))) (sa_nil))))))
theorem cal_0 (NS : Ns K mg) (n : Nat) (ih : IH c P w mg base n) : Cal (L.gx K c) P w mg base (lv (n + 1)) ((.g "cleared" : Pth).ad K) (run (n + 1) 0) := by
  obtain ⟨M⟩ := c.fn 0 rfl
  have hv : M.dvs = [] := List.eq_nil_of_length_eq_zero (by rw [← (M.rd ⟨[], []⟩ fun _ => none).length]; rfl)
  exact cal_defD (ok_0 NS n ih M) rfl (fun j hj => ⟨[], by rw [hv]; cases j <;> exact .nil, FunD.bindsN (ps := ["parts"]) (hv ▸ M.F) fun _ _ _ _ _ _ us hl => match us, hl with | [_], _ => rfl⟩) M.rd
abbrev N_1 : List Str := ["parts", "at"]
theorem sc_1 : FnScope N_1 ["parts", "at"] (defScope s_1) := ⟨rfl, rfl, rfl, by decide +kernel, rfl, by decide +kernel, by decide +kernel⟩
theorem ok_1 (NS : Ns K mg) (n : Nat) (ih : IH c P w mg base n) (M : FnM (L.gx K c) ⟨.g "part_at", "part_at", "part_at", s_1, []⟩) : FnOk P w (L.gx K c).K mg base (L2.CX P w) (lv n + 1 + 1) ((.g "part_at" : Pth).ad (L.gx K c).K) M.fd ["parts", "at"] (spF (L.gx K c) (bodyRun N_1.length (m_1 (run n))) (["parts", "at"] : List Str).length) := by
  refine fnd_ok (G := L.gx K c) (k := lv n + 1) (ms := m_1 (run n)) M.F sc_1 fun cdv A outer s H E hr cc => ?_
  exact sss_one (ss_ret (se_if (st_chain op_le op_lt cmp_rel cmp_rel (se_int) (se_var 1) (se_callB (fns_len cc) rfl (NS.free c 1) (by decide +kernel) (sa_cons (se_var 0) (sa_nil)))) (se_ix (ixs_item cc) (se_var 0) (se_var 1)) (se_int)))
theorem cal_1 (NS : Ns K mg) (n : Nat) (ih : IH c P w mg base n) : Cal (L.gx K c) P w mg base (lv (n + 1)) ((.g "part_at" : Pth).ad K) (run (n + 1) 1) := by
  obtain ⟨M⟩ := c.fn 1 rfl
  have hv : M.dvs = [] := List.eq_nil_of_length_eq_zero (by rw [← (M.rd ⟨[], []⟩ fun _ => none).length]; rfl)
  exact cal_defD (ok_1 NS n ih M) rfl (fun j hj => ⟨[], by rw [hv]; cases j <;> exact .nil, FunD.bindsN (ps := ["parts", "at"]) (hv ▸ M.F) fun _ _ _ _ _ _ us hl => match us, hl with | [_, _], _ => rfl⟩) M.rd
abbrev N_2 : List Str := ["one", "other", "at"]
theorem sc_2 : FnScope N_2 ["one", "other"] (defScope s_2) := ⟨rfl, rfl, rfl, by decide +kernel, rfl, by decide +kernel, by decide +kernel⟩
theorem ok_2 (NS : Ns K mg) (n : Nat) (ih : IH c P w mg base n) (M : FnM (L.gx K c) ⟨.g "plus", "plus", "plus", s_2, []⟩) : FnOk P w (L.gx K c).K mg base (L2.CX P w) (lv n + 1 + 1) ((.g "plus" : Pth).ad (L.gx K c).K) M.fd ["one", "other"] (spF (L.gx K c) (bodyRun N_2.length (m_2 (run n))) (["one", "other"] : List Str).length) := by
  refine fnd_ok (G := L.gx K c) (k := lv n + 1) (ms := m_2 (run n)) M.F sc_2 fun cdv A outer s H E hr cc => ?_
  exact sss_one (ss_ret (se_call (fns_cal cc (ih 0 rfl) (hr.mono (Nat.le_succ _))) rfl (NS.glo c 6) (keep_of c 6) (sa_cons (se_lcc (own := [("at", 2)]) (t := (.one 2)) 200 cc (si_range1 (sa_cons (se_callB (fns_max2 cc) rfl (NS.free c 4) (by decide +kernel) (sa_cons (se_callB (fns_len cc) rfl (NS.free c 1) (by decide +kernel) (sa_cons (se_var 0) (sa_nil))) (sa_cons (se_callB (fns_len cc) rfl (NS.free c 1) (by decide +kernel) (sa_cons (se_var 1) (sa_nil))) (sa_nil)))) (sa_nil)) rfl (NS.free c 2)) (blkOk_by (N := N_2) (sc := defScope s_2) (by decide +kernel)) (by decide) (fun _ _ _ _ _ cc => pg_name cc.nd rfl (by first | exact Or.inl rfl | exact Or.inr rfl)) (fun _ _ _ _ _ cc => sts_nil) (fun _ _ _ _ _ cc => se_bin (oAdd_ok cc hr ih) (se_call (fns_cal cc (ih 1 rfl) (hr.mono (Nat.le_succ _))) rfl (NS.glo c 5) (keep_of c 5) (sa_cons (se_var 0) (sa_cons (se_var 2) (sa_nil)))) (se_call (fns_cal cc (ih 1 rfl) (hr.mono (Nat.le_succ _))) rfl (NS.glo c 5) (keep_of c 5) (sa_cons (se_var 1) (sa_cons (se_var 2) (sa_nil)))))) (sa_nil))))
theorem cal_2 (NS : Ns K mg) (n : Nat) (ih : IH c P w mg base n) : Cal (L.gx K c) P w mg base (lv (n + 1)) ((.g "plus" : Pth).ad K) (run (n + 1) 2) := by
  obtain ⟨M⟩ := c.fn 2 rfl
  have hv : M.dvs = [] := List.eq_nil_of_length_eq_zero (by rw [← (M.rd ⟨[], []⟩ fun _ => none).length]; rfl)
  exact cal_defD (ok_2 NS n ih M) rfl (fun j hj => ⟨[], by rw [hv]; cases j <;> exact .nil, FunD.bindsN (ps := ["one", "other"]) (hv ▸ M.F) fun _ _ _ _ _ _ us hl => match us, hl with | [_, _], _ => rfl⟩) M.rd
abbrev N_3 : List Str := ["one", "other", "found", "power", "at", "part"]
theorem sc_3 : FnScope N_3 ["one", "other"] (defScope s_3) := ⟨rfl, rfl, rfl, by decide +kernel, rfl, by decide +kernel, by decide +kernel⟩
theorem ok_3 (NS : Ns K mg) (n : Nat) (ih : IH c P w mg base n) (M : FnM (L.gx K c) ⟨.g "times", "times", "times", s_3, []⟩) : FnOk P w (L.gx K c).K mg base (L2.CX P w) (lv n + 1 + 1) ((.g "times" : Pth).ad (L.gx K c).K) M.fd ["one", "other"] (spF (L.gx K c) (bodyRun N_3.length (m_3 (run n))) (["one", "other"] : List Str).length) := by
  refine fnd_ok (G := L.gx K c) (k := lv n + 1) (ms := m_3 (run n)) M.F sc_3 fun cdv A outer s H E hr cc => ?_
  exact sss_cons (ss_set (i := 2) cc.nd rfl (by first | exact Or.inl rfl | exact Or.inr rfl) (se_lst (sa_nil) (szl rfl)))
    (sss_cons (ss_for 200 cc (si_range1 (sa_cons (se_bin (oAdd_ok cc hr ih) (se_callB (fns_len cc) rfl (NS.free c 1) (by decide +kernel) (sa_cons (se_var 0) (sa_nil))) (se_callB (fns_len cc) rfl (NS.free c 1) (by decide +kernel) (sa_cons (se_var 1) (sa_nil)))) (sa_nil)) rfl (NS.free c 2)) (sg_name cc.nd rfl (by first | exact Or.inl rfl | exact Or.inr rfl)) (sss_one (ss_expr (se_bm PySem.F.plainAttrs_list PySem.F.slot_list_append PySem.F.type_list_append mts_append (ck_list cc) (se_var 2) (sa_cons (se_callB (fns_sum cc) rfl (NS.free c 8) (by decide +kernel) (sa_cons (se_lcc (own := [("at", 4), ("part", 5)]) (t := (.many [4, 5])) 200 cc (si_en cc (se_var 0) rfl (NS.free c 7)) (blkOk_by (N := N_3) (sc := defScope s_3) (by decide +kernel)) (by decide) (fun _ _ _ _ _ cc => tg_many cc.calm (pgs_cons (pg_name cc.nd rfl (by first | exact Or.inl rfl | exact Or.inr rfl)) (pgs_cons (pg_name cc.nd rfl (by first | exact Or.inl rfl | exact Or.inr rfl)) (pgs_nil)))) (fun _ _ _ _ _ cc => sts_nil) (fun _ _ _ _ _ cc => se_bin (oMul_ok cc hr ih) (se_var 5) (se_call (fns_cal cc (ih 1 rfl) (hr.mono (Nat.le_succ _))) rfl (NS.glo c 5) (keep_of c 5) (sa_cons (se_var 1) (sa_cons (se_bin (oSub_ok cc hr ih) (se_var 3) (se_var 4)) (sa_nil)))))) (sa_nil))) (sa_nil))))))
    (sss_one (ss_ret (se_call (fns_cal cc (ih 0 rfl) (hr.mono (Nat.le_succ _))) rfl (NS.glo c 6) (keep_of c 6) (sa_cons (se_var 2) (sa_nil))))))
theorem cal_3 (NS : Ns K mg) (n : Nat) (ih : IH c P w mg base n) : Cal (L.gx K c) P w mg base (lv (n + 1)) ((.g "times" : Pth).ad K) (run (n + 1) 3) := by
  obtain ⟨M⟩ := c.fn 3 rfl
  have hv : M.dvs = [] := List.eq_nil_of_length_eq_zero (by rw [← (M.rd ⟨[], []⟩ fun _ => none).length]; rfl)
  exact cal_defD (ok_3 NS n ih M) rfl (fun j hj => ⟨[], by rw [hv]; cases j <;> exact .nil, FunD.bindsN (ps := ["one", "other"]) (hv ▸ M.F) fun _ _ _ _ _ _ us hl => match us, hl with | [_, _], _ => rfl⟩) M.rd
abbrev N_4 : List Str := ["parts", "n", "found", "part"]
theorem sc_4 : FnScope N_4 ["parts", "n"] (defScope s_4) := ⟨rfl, rfl, rfl, by decide +kernel, rfl, by decide +kernel, by decide +kernel⟩
theorem ok_4 (NS : Ns K mg) (n : Nat) (ih : IH c P w mg base n) (M : FnM (L.gx K c) ⟨.g "value", "value", "value", s_4, []⟩) : FnOk P w (L.gx K c).K mg base (L2.CX P w) (lv n + 1 + 1) ((.g "value" : Pth).ad (L.gx K c).K) M.fd ["parts", "n"] (spF (L.gx K c) (bodyRun N_4.length (m_4 (run n))) (["parts", "n"] : List Str).length) := by
  refine fnd_ok (G := L.gx K c) (k := lv n + 1) (ms := m_4 (run n)) M.F sc_4 fun cdv A outer s H E hr cc => ?_
  exact sss_cons (ss_set (i := 2) cc.nd rfl (by first | exact Or.inl rfl | exact Or.inr rfl) (se_bin (oMul_ok cc hr ih) (se_var 1) (se_int)))
    (sss_cons (ss_for 200 cc (si_seq cc (se_rev cc (se_var 0))) (sg_name cc.nd rfl (by first | exact Or.inl rfl | exact Or.inr rfl)) (sss_one (ss_set (i := 2) cc.nd rfl (by first | exact Or.inl rfl | exact Or.inr rfl) (se_bin (oAdd_ok cc hr ih) (se_bin (oMul_ok cc hr ih) (se_var 2) (se_var 1)) (se_var 3)))))
    (sss_one (ss_ret (se_var 2))))
theorem cal_4 (NS : Ns K mg) (n : Nat) (ih : IH c P w mg base n) : Cal (L.gx K c) P w mg base (lv (n + 1)) ((.g "value" : Pth).ad K) (run (n + 1) 4) := by
  obtain ⟨M⟩ := c.fn 4 rfl
  have hv : M.dvs = [] := List.eq_nil_of_length_eq_zero (by rw [← (M.rd ⟨[], []⟩ fun _ => none).length]; rfl)
  exact cal_defD (ok_4 NS n ih M) rfl (fun j hj => ⟨[], by rw [hv]; cases j <;> exact .nil, FunD.bindsN (ps := ["parts", "n"]) (hv ▸ M.F) fun _ _ _ _ _ _ us hl => match us, hl with | [_, _], _ => rfl⟩) M.rd
abbrev N_5 : List Str := ["thing"]
theorem sc_5 : FnScope N_5 ["thing"] (defScope s_5) := ⟨rfl, rfl, rfl, by decide +kernel, rfl, by decide +kernel, by decide +kernel⟩
theorem ok_5 (NS : Ns K mg) (n : Nat) (ih : IH c P w mg base n) (M : FnM (L.gx K c) ⟨.g "parts_of", "parts_of", "parts_of", s_5, []⟩) : FnOk P w (L.gx K c).K mg base (L2.CX P w) (lv n + 1 + 1) ((.g "parts_of" : Pth).ad (L.gx K c).K) M.fd ["thing"] (spF (L.gx K c) (bodyRun N_5.length (m_5 (run n))) (["thing"] : List Str).length) := by
  refine fnd_ok (G := L.gx K c) (k := lv n + 1) (ms := m_5 (run n)) M.F sc_5 fun cdv A outer s H E hr cc => ?_
  exact sss_one (ss_ret (se_if (st_tru cc (se_callB (fns_isi cc) rfl (NS.free c 10) (by decide +kernel) (sa_cons (se_var 0) (sa_cons (se_cls rfl (NS.glo c 9) (cls_of c 0 rfl)) (sa_nil))))) (se_attr cc (se_var 0) rfl (at_own_parts_f cc) (at_own_parts_p cc hr ih)) (se_call (fns_cal cc (ih 0 rfl) (hr.mono (Nat.le_succ _))) rfl (NS.glo c 6) (keep_of c 6) (sa_cons (se_tup (sa_cons (se_var 0) (sa_nil)) (szl rfl)) (sa_nil)))))
theorem cal_5 (NS : Ns K mg) (n : Nat) (ih : IH c P w mg base n) : Cal (L.gx K c) P w mg base (lv (n + 1)) ((.g "parts_of" : Pth).ad K) (run (n + 1) 5) := by
  obtain ⟨M⟩ := c.fn 5 rfl
  have hv : M.dvs = [] := List.eq_nil_of_length_eq_zero (by rw [← (M.rd ⟨[], []⟩ fun _ => none).length]; rfl)
  exact cal_defD (ok_5 NS n ih M) rfl (fun j hj => ⟨[], by rw [hv]; cases j <;> exact .nil, FunD.bindsN (ps := ["thing"]) (hv ▸ M.F) fun _ _ _ _ _ _ us hl => match us, hl with | [_], _ => rfl⟩) M.rd
abbrev N_6 : List Str := ["self", "parts"]
theorem sc_6 : FnScope N_6 ["self", "parts"] (defScope s_6) := ⟨rfl, rfl, rfl, by decide +kernel, rfl, by decide +kernel, by decide +kernel⟩
theorem ok_6 (NS : Ns K mg) (n : Nat) (ih : IH c P w mg base n) (M : FnM (L.gx K c) ⟨.m "Size" "__init__", "__init__", "Size.__init__", s_6, [(.kt [])]⟩) : FnOk P w (L.gx K c).K mg base (L2.CX P w) (lv n + 1 + 1) ((.m "Size" "__init__" : Pth).ad (L.gx K c).K) M.fd ["self", "parts"] (spF (L.gx K c) (bodyRun N_6.length (m_6 (run n))) (["self", "parts"] : List Str).length) := by
  refine fnd_ok (G := L.gx K c) (k := lv n + 1) (ms := m_6 (run n)) M.F sc_6 fun cdv A outer s H E hr cc => ?_
  exact sss_one (ss_fld cc (se_var 0) (se_call (fns_cal cc (ih 0 rfl) (hr.mono (Nat.le_succ _))) rfl (NS.glo c 6) (keep_of c 6) (sa_cons (se_var 1) (sa_nil))) rfl (st_own_parts_ok cc))
theorem cal_6 (NS : Ns K mg) (n : Nat) (ih : IH c P w mg base n) : Cal (L.gx K c) P w mg base (lv (n + 1)) ((.m "Size" "__init__" : Pth).ad K) (run (n + 1) 6) := by
  obtain ⟨M⟩ := c.fn 6 rfl
  have hv : M.dvs.length = 1 := by rw [← (M.rd ⟨[], []⟩ fun _ => none).length]; rfl
  have hne : M.dvs ≠ [] := fun e => by rw [e] at hv; cases hv
  exact cal_defD (ok_6 NS n ih M) rfl (fun j hj => by
    rw [hv] at hj
    match j, hj with
    | 0, _ => exact FunD.binds1 M.F 1 0 hne (by rw [hv]; rfl) fun _ _ _ _ _ _ _ us its hl hi => match us, hl, its, (hi.trans hv) with | [_], _, [_], _ => ⟨_, rfl, rfl⟩
    | 1, _ => exact FunD.binds1 M.F 2 1 hne (by rw [hv]; rfl) fun _ _ _ _ _ _ _ us its hl hi => match us, hl, its, (hi.trans hv) with | [_, _], _, [_], _ => ⟨_, rfl, rfl⟩
    | k + 2, h => exact absurd h (by omega)) M.rd
abbrev N_7 : List Str := ["self"]
theorem sc_7 : FnScope N_7 ["self"] (defScope s_7) := ⟨rfl, rfl, rfl, by decide +kernel, rfl, by decide +kernel, by decide +kernel⟩
theorem ok_7 (NS : Ns K mg) (n : Nat) (ih : IH c P w mg base n) (M : FnM (L.gx K c) ⟨.p "Size" "coefficients", "coefficients", "Size.coefficients", s_7, []⟩) : FnOk P w (L.gx K c).K mg base (L2.CX P w) (lv n + 1 + 1) ((.p "Size" "coefficients" : Pth).ad (L.gx K c).K) M.fd ["self"] (spF (L.gx K c) (bodyRun N_7.length (m_7 (run n))) (["self"] : List Str).length) := by
  refine fnd_ok (G := L.gx K c) (k := lv n + 1) (ms := m_7 (run n)) M.F sc_7 fun cdv A outer s H E hr cc => ?_
  exact sss_one (ss_ret (se_attr cc (se_var 0) rfl (at_own_parts_f cc) (at_own_parts_p cc hr ih)))
theorem cal_7 (NS : Ns K mg) (n : Nat) (ih : IH c P w mg base n) : Cal (L.gx K c) P w mg base (lv (n + 1)) ((.p "Size" "coefficients" : Pth).ad K) (run (n + 1) 7) := by
  obtain ⟨M⟩ := c.fn 7 rfl
  have hv : M.dvs = [] := List.eq_nil_of_length_eq_zero (by rw [← (M.rd ⟨[], []⟩ fun _ => none).length]; rfl)
  exact cal_defD (ok_7 NS n ih M) rfl (fun j hj => ⟨[], by rw [hv]; cases j <;> exact .nil, FunD.bindsN (ps := ["self"]) (hv ▸ M.F) fun _ _ _ _ _ _ us hl => match us, hl with | [_], _ => rfl⟩) M.rd
abbrev N_8 : List Str := ["self"]
theorem sc_8 : FnScope N_8 ["self"] (defScope s_8) := ⟨rfl, rfl, rfl, by decide +kernel, rfl, by decide +kernel, by decide +kernel⟩
theorem ok_8 (NS : Ns K mg) (n : Nat) (ih : IH c P w mg base n) (M : FnM (L.gx K c) ⟨.p "Size" "degree", "degree", "Size.degree", s_8, []⟩) : FnOk P w (L.gx K c).K mg base (L2.CX P w) (lv n + 1 + 1) ((.p "Size" "degree" : Pth).ad (L.gx K c).K) M.fd ["self"] (spF (L.gx K c) (bodyRun N_8.length (m_8 (run n))) (["self"] : List Str).length) := by
  refine fnd_ok (G := L.gx K c) (k := lv n + 1) (ms := m_8 (run n)) M.F sc_8 fun cdv A outer s H E hr cc => ?_
  exact sss_one (ss_ret (se_callB (fns_max2 cc) rfl (NS.free c 4) (by decide +kernel) (sa_cons (se_bin (oSub_ok cc hr ih) (se_callB (fns_len cc) rfl (NS.free c 1) (by decide +kernel) (sa_cons (se_attr cc (se_var 0) rfl (at_own_parts_f cc) (at_own_parts_p cc hr ih)) (sa_nil))) (se_int)) (sa_cons (se_int) (sa_nil)))))
theorem cal_8 (NS : Ns K mg) (n : Nat) (ih : IH c P w mg base n) : Cal (L.gx K c) P w mg base (lv (n + 1)) ((.p "Size" "degree" : Pth).ad K) (run (n + 1) 8) := by
  obtain ⟨M⟩ := c.fn 8 rfl
  have hv : M.dvs = [] := List.eq_nil_of_length_eq_zero (by rw [← (M.rd ⟨[], []⟩ fun _ => none).length]; rfl)
  exact cal_defD (ok_8 NS n ih M) rfl (fun j hj => ⟨[], by rw [hv]; cases j <;> exact .nil, FunD.bindsN (ps := ["self"]) (hv ▸ M.F) fun _ _ _ _ _ _ us hl => match us, hl with | [_], _ => rfl⟩) M.rd
abbrev N_9 : List Str := ["self", "n"]
theorem sc_9 : FnScope N_9 ["self", "n"] (defScope s_9) := ⟨rfl, rfl, rfl, by decide +kernel, rfl, by decide +kernel, by decide +kernel⟩
theorem ok_9 (NS : Ns K mg) (n : Nat) (ih : IH c P w mg base n) (M : FnM (L.gx K c) ⟨.m "Size" "__call__", "__call__", "Size.__call__", s_9, []⟩) : FnOk P w (L.gx K c).K mg base (L2.CX P w) (lv n + 1 + 1) ((.m "Size" "__call__" : Pth).ad (L.gx K c).K) M.fd ["self", "n"] (spF (L.gx K c) (bodyRun N_9.length (m_9 (run n))) (["self", "n"] : List Str).length) := by
  refine fnd_ok (G := L.gx K c) (k := lv n + 1) (ms := m_9 (run n)) M.F sc_9 fun cdv A outer s H E hr cc => ?_
  exact sss_one (ss_ret (se_call (fns_cal cc (ih 4 rfl) (hr.mono (Nat.le_succ _))) rfl (NS.glo c 11) (keep_of c 11) (sa_cons (se_attr cc (se_var 0) rfl (at_own_parts_f cc) (at_own_parts_p cc hr ih)) (sa_cons (se_var 1) (sa_nil)))))
theorem cal_9 (NS : Ns K mg) (n : Nat) (ih : IH c P w mg base n) : Cal (L.gx K c) P w mg base (lv (n + 1)) ((.m "Size" "__call__" : Pth).ad K) (run (n + 1) 9) := by
  obtain ⟨M⟩ := c.fn 9 rfl
  have hv : M.dvs = [] := List.eq_nil_of_length_eq_zero (by rw [← (M.rd ⟨[], []⟩ fun _ => none).length]; rfl)
  exact cal_defD (ok_9 NS n ih M) rfl (fun j hj => ⟨[], by rw [hv]; cases j <;> exact .nil, FunD.bindsN (ps := ["self", "n"]) (hv ▸ M.F) fun _ _ _ _ _ _ us hl => match us, hl with | [_, _], _ => rfl⟩) M.rd
abbrev N_10 : List Str := ["self", "other"]
theorem sc_10 : FnScope N_10 ["self", "other"] (defScope s_10) := ⟨rfl, rfl, rfl, by decide +kernel, rfl, by decide +kernel, by decide +kernel⟩
theorem ok_10 (NS : Ns K mg) (n : Nat) (ih : IH c P w mg base n) (M : FnM (L.gx K c) ⟨.m "Size" "__add__", "__add__", "Size.__add__", s_10, []⟩) : FnOk P w (L.gx K c).K mg base (L2.CX P w) (lv n + 1 + 1) ((.m "Size" "__add__" : Pth).ad (L.gx K c).K) M.fd ["self", "other"] (spF (L.gx K c) (bodyRun N_10.length (m_10 (run n))) (["self", "other"] : List Str).length) := by
  refine fnd_ok (G := L.gx K c) (k := lv n + 1) (ms := m_10 (run n)) M.F sc_10 fun cdv A outer s H E hr cc => ?_
  exact sss_one (ss_ret (se_call (fns_make cc (cls_of c 0 rfl) (mk_of c 14 rfl) (ih 6 rfl) hr) rfl (NS.glo c 9) (keep_of c 9) (sa_cons (se_call (fns_cal cc (ih 2 rfl) (hr.mono (Nat.le_succ _))) rfl (NS.glo c 13) (keep_of c 13) (sa_cons (se_attr cc (se_var 0) rfl (at_own_parts_f cc) (at_own_parts_p cc hr ih)) (sa_cons (se_call (fns_cal cc (ih 5 rfl) (hr.mono (Nat.le_succ _))) rfl (NS.glo c 12) (keep_of c 12) (sa_cons (se_var 1) (sa_nil))) (sa_nil)))) (sa_nil))))
theorem cal_10 (NS : Ns K mg) (n : Nat) (ih : IH c P w mg base n) : Cal (L.gx K c) P w mg base (lv (n + 1)) ((.m "Size" "__add__" : Pth).ad K) (run (n + 1) 10) := by
  obtain ⟨M⟩ := c.fn 10 rfl
  have hv : M.dvs = [] := List.eq_nil_of_length_eq_zero (by rw [← (M.rd ⟨[], []⟩ fun _ => none).length]; rfl)
  exact cal_defD (ok_10 NS n ih M) rfl (fun j hj => ⟨[], by rw [hv]; cases j <;> exact .nil, FunD.bindsN (ps := ["self", "other"]) (hv ▸ M.F) fun _ _ _ _ _ _ us hl => match us, hl with | [_, _], _ => rfl⟩) M.rd
abbrev N_11 : List Str := ["self", "other", "part"]
theorem sc_11 : FnScope N_11 ["self", "other"] (defScope s_11) := ⟨rfl, rfl, rfl, by decide +kernel, rfl, by decide +kernel, by decide +kernel⟩
theorem ok_11 (NS : Ns K mg) (n : Nat) (ih : IH c P w mg base n) (M : FnM (L.gx K c) ⟨.m "Size" "__sub__", "__sub__", "Size.__sub__", s_11, []⟩) : FnOk P w (L.gx K c).K mg base (L2.CX P w) (lv n + 1 + 1) ((.m "Size" "__sub__" : Pth).ad (L.gx K c).K) M.fd ["self", "other"] (spF (L.gx K c) (bodyRun N_11.length (m_11 (run n))) (["self", "other"] : List Str).length) := by
  refine fnd_ok (G := L.gx K c) (k := lv n + 1) (ms := m_11 (run n)) M.F sc_11 fun cdv A outer s H E hr cc => ?_
  exact sss_one (ss_ret (se_call (fns_make cc (cls_of c 0 rfl) (mk_of c 14 rfl) (ih 6 rfl) hr) rfl (NS.glo c 9) (keep_of c 9) (sa_cons (se_call (fns_cal cc (ih 2 rfl) (hr.mono (Nat.le_succ _))) rfl (NS.glo c 13) (keep_of c 13) (sa_cons (se_attr cc (se_var 0) rfl (at_own_parts_f cc) (at_own_parts_p cc hr ih)) (sa_cons (se_callTy (fns_tuple cc) rfl (NS.free c 3) (by decide +kernel) (sa_cons (se_lcc (own := [("part", 2)]) (t := (.one 2)) 200 cc (si_seq cc (se_call (fns_cal cc (ih 5 rfl) (hr.mono (Nat.le_succ _))) rfl (NS.glo c 12) (keep_of c 12) (sa_cons (se_var 1) (sa_nil)))) (blkOk_by (N := N_11) (sc := defScope s_11) (by decide +kernel)) (by decide) (fun _ _ _ _ _ cc => pg_name cc.nd rfl (by first | exact Or.inl rfl | exact Or.inr rfl)) (fun _ _ _ _ _ cc => sts_nil) (fun _ _ _ _ _ cc => se_un (oNeg_ok cc hr ih) (se_var 2))) (sa_nil))) (sa_nil)))) (sa_nil))))
theorem cal_11 (NS : Ns K mg) (n : Nat) (ih : IH c P w mg base n) : Cal (L.gx K c) P w mg base (lv (n + 1)) ((.m "Size" "__sub__" : Pth).ad K) (run (n + 1) 11) := by
  obtain ⟨M⟩ := c.fn 11 rfl
  have hv : M.dvs = [] := List.eq_nil_of_length_eq_zero (by rw [← (M.rd ⟨[], []⟩ fun _ => none).length]; rfl)
  exact cal_defD (ok_11 NS n ih M) rfl (fun j hj => ⟨[], by rw [hv]; cases j <;> exact .nil, FunD.bindsN (ps := ["self", "other"]) (hv ▸ M.F) fun _ _ _ _ _ _ us hl => match us, hl with | [_, _], _ => rfl⟩) M.rd
abbrev N_12 : List Str := ["self", "other"]
theorem sc_12 : FnScope N_12 ["self", "other"] (defScope s_12) := ⟨rfl, rfl, rfl, by decide +kernel, rfl, by decide +kernel, by decide +kernel⟩
theorem ok_12 (NS : Ns K mg) (n : Nat) (ih : IH c P w mg base n) (M : FnM (L.gx K c) ⟨.m "Size" "__mul__", "__mul__", "Size.__mul__", s_12, []⟩) : FnOk P w (L.gx K c).K mg base (L2.CX P w) (lv n + 1 + 1) ((.m "Size" "__mul__" : Pth).ad (L.gx K c).K) M.fd ["self", "other"] (spF (L.gx K c) (bodyRun N_12.length (m_12 (run n))) (["self", "other"] : List Str).length) := by
  refine fnd_ok (G := L.gx K c) (k := lv n + 1) (ms := m_12 (run n)) M.F sc_12 fun cdv A outer s H E hr cc => ?_
  exact sss_one (ss_ret (se_call (fns_make cc (cls_of c 0 rfl) (mk_of c 14 rfl) (ih 6 rfl) hr) rfl (NS.glo c 9) (keep_of c 9) (sa_cons (se_call (fns_cal cc (ih 3 rfl) (hr.mono (Nat.le_succ _))) rfl (NS.glo c 15) (keep_of c 15) (sa_cons (se_attr cc (se_var 0) rfl (at_own_parts_f cc) (at_own_parts_p cc hr ih)) (sa_cons (se_call (fns_cal cc (ih 5 rfl) (hr.mono (Nat.le_succ _))) rfl (NS.glo c 12) (keep_of c 12) (sa_cons (se_var 1) (sa_nil))) (sa_nil)))) (sa_nil))))
theorem cal_12 (NS : Ns K mg) (n : Nat) (ih : IH c P w mg base n) : Cal (L.gx K c) P w mg base (lv (n + 1)) ((.m "Size" "__mul__" : Pth).ad K) (run (n + 1) 12) := by
  obtain ⟨M⟩ := c.fn 12 rfl
  have hv : M.dvs = [] := List.eq_nil_of_length_eq_zero (by rw [← (M.rd ⟨[], []⟩ fun _ => none).length]; rfl)
  exact cal_defD (ok_12 NS n ih M) rfl (fun j hj => ⟨[], by rw [hv]; cases j <;> exact .nil, FunD.bindsN (ps := ["self", "other"]) (hv ▸ M.F) fun _ _ _ _ _ _ us hl => match us, hl with | [_, _], _ => rfl⟩) M.rd
abbrev N_13 : List Str := ["self", "part"]
theorem sc_13 : FnScope N_13 ["self"] (defScope s_13) := ⟨rfl, rfl, rfl, by decide +kernel, rfl, by decide +kernel, by decide +kernel⟩
theorem ok_13 (NS : Ns K mg) (n : Nat) (ih : IH c P w mg base n) (M : FnM (L.gx K c) ⟨.m "Size" "__neg__", "__neg__", "Size.__neg__", s_13, []⟩) : FnOk P w (L.gx K c).K mg base (L2.CX P w) (lv n + 1 + 1) ((.m "Size" "__neg__" : Pth).ad (L.gx K c).K) M.fd ["self"] (spF (L.gx K c) (bodyRun N_13.length (m_13 (run n))) (["self"] : List Str).length) := by
  refine fnd_ok (G := L.gx K c) (k := lv n + 1) (ms := m_13 (run n)) M.F sc_13 fun cdv A outer s H E hr cc => ?_
  exact sss_one (ss_ret (se_call (fns_make cc (cls_of c 0 rfl) (mk_of c 14 rfl) (ih 6 rfl) hr) rfl (NS.glo c 9) (keep_of c 9) (sa_cons (se_callTy (fns_tuple cc) rfl (NS.free c 3) (by decide +kernel) (sa_cons (se_lcc (own := [("part", 1)]) (t := (.one 1)) 200 cc (si_seq cc (se_attr cc (se_var 0) rfl (at_own_parts_f cc) (at_own_parts_p cc hr ih))) (blkOk_by (N := N_13) (sc := defScope s_13) (by decide +kernel)) (by decide) (fun _ _ _ _ _ cc => pg_name cc.nd rfl (by first | exact Or.inl rfl | exact Or.inr rfl)) (fun _ _ _ _ _ cc => sts_nil) (fun _ _ _ _ _ cc => se_un (oNeg_ok cc hr ih) (se_var 1))) (sa_nil))) (sa_nil))))
theorem cal_13 (NS : Ns K mg) (n : Nat) (ih : IH c P w mg base n) : Cal (L.gx K c) P w mg base (lv (n + 1)) ((.m "Size" "__neg__" : Pth).ad K) (run (n + 1) 13) := by
  obtain ⟨M⟩ := c.fn 13 rfl
  have hv : M.dvs = [] := List.eq_nil_of_length_eq_zero (by rw [← (M.rd ⟨[], []⟩ fun _ => none).length]; rfl)
  exact cal_defD (ok_13 NS n ih M) rfl (fun j hj => ⟨[], by rw [hv]; cases j <;> exact .nil, FunD.bindsN (ps := ["self"]) (hv ▸ M.F) fun _ _ _ _ _ _ us hl => match us, hl with | [_], _ => rfl⟩) M.rd
abbrev N_14 : List Str := ["self", "other"]
theorem sc_14 : FnScope N_14 ["self", "other"] (defScope s_14) := ⟨rfl, rfl, rfl, by decide +kernel, rfl, by decide +kernel, by decide +kernel⟩
theorem ok_14 (NS : Ns K mg) (n : Nat) (ih : IH c P w mg base n) (M : FnM (L.gx K c) ⟨.m "Size" "__eq__", "__eq__", "Size.__eq__", s_14, []⟩) : FnOk P w (L.gx K c).K mg base (L2.CX P w) (lv n + 1 + 1) ((.m "Size" "__eq__" : Pth).ad (L.gx K c).K) M.fd ["self", "other"] (spF (L.gx K c) (bodyRun N_14.length (m_14 (run n))) (["self", "other"] : List Str).length) := by
  refine fnd_ok (G := L.gx K c) (k := lv n + 1) (ms := m_14 (run n)) M.F sc_14 fun cdv A outer s H E hr cc => ?_
  exact sss_one (ss_ret (se_and (se_callB (fns_isi cc) rfl (NS.free c 10) (by decide +kernel) (sa_cons (se_var 1) (sa_cons (se_cls rfl (NS.glo c 9) (cls_of c 0 rfl)) (sa_nil)))) (se_one (se_cmp (oEq_ok cc hr ih) (se_attr cc (se_var 0) rfl (at_own_parts_f cc) (at_own_parts_p cc hr ih)) (se_attr cc (se_var 1) rfl (at_own_parts_f cc) (at_own_parts_p cc hr ih))))))
theorem cal_14 (NS : Ns K mg) (n : Nat) (ih : IH c P w mg base n) : Cal (L.gx K c) P w mg base (lv (n + 1)) ((.m "Size" "__eq__" : Pth).ad K) (run (n + 1) 14) := by
  obtain ⟨M⟩ := c.fn 14 rfl
  have hv : M.dvs = [] := List.eq_nil_of_length_eq_zero (by rw [← (M.rd ⟨[], []⟩ fun _ => none).length]; rfl)
  exact cal_defD (ok_14 NS n ih M) rfl (fun j hj => ⟨[], by rw [hv]; cases j <;> exact .nil, FunD.bindsN (ps := ["self", "other"]) (hv ▸ M.F) fun _ _ _ _ _ _ us hl => match us, hl with | [_, _], _ => rfl⟩) M.rd
abbrev N_15 : List Str := ["_law_script", "_law_k", "_law_cell", "_law_heavy", "_law_blend", "_law_seed"]
theorem sc_15 : FnScope N_15 ["_law_script", "_law_k"] (defScope s_15) := ⟨rfl, rfl, rfl, by decide +kernel, rfl, by decide +kernel, by decide +kernel⟩
theorem ok_15 (NS : Ns K mg) (n : Nat) (ih : IH c P w mg base n) (M : FnM (L.gx K c) ⟨.g "_law_pool", "_law_pool", "_law_pool", s_15, []⟩) : FnOk P w (L.gx K c).K mg base (L2.CX P w) (lv n + 1 + 1) ((.g "_law_pool" : Pth).ad (L.gx K c).K) M.fd ["_law_script", "_law_k"] (spF (L.gx K c) (bodyRun N_15.length (m_15 (run n))) (["_law_script", "_law_k"] : List Str).length) := by
  refine fnd_ok (G := L.gx K c) (k := lv n + 1) (ms := m_15 (run n)) M.F sc_15 fun cdv A outer s H E hr cc => ?_
  exact sss_cons (ss_set (i := 2) cc.nd rfl (by first | exact Or.inl rfl | exact Or.inr rfl) (se_int))
    (sss_cons (ss_if (st_cmp ops_lt (se_var 1) (se_callB (fns_len cc) rfl (NS.free c 1) (by decide +kernel) (sa_cons (se_var 0) (sa_nil)))) (sss_one (ss_set (i := 2) cc.nd rfl (by first | exact Or.inl rfl | exact Or.inr rfl) (se_ix (ixs_item cc) (se_var 0) (se_var 1)))) (sss_nil))
    (sss_cons (ss_set (i := 3) cc.nd rfl (by first | exact Or.inl rfl | exact Or.inr rfl) (se_callB (fns_abs) rfl (NS.free c 16) (by decide +kernel) (sa_cons (se_var 2) (sa_nil))))
    (sss_cons (ss_set (i := 4) cc.nd rfl (by first | exact Or.inl rfl | exact Or.inr rfl) (se_bin ops_mod (se_bin (oMul_ok cc hr ih) (se_callTy (fns_int) rfl (NS.free c 17) (by decide +kernel) (sa_cons (se_bin (oAdd_ok cc hr ih) (se_bin ops_mod (se_callTy (fns_int) rfl (NS.free c 17) (by decide +kernel) (sa_cons (se_var 2) (sa_nil))) (se_int)) (se_bin (oMul_ok cc hr ih) (se_int) (se_bin (oAdd_ok cc hr ih) (se_var 1) (se_int)))) (sa_nil))) (se_bin (oAdd_ok cc hr ih) (se_var 1) (se_int))) (se_int)))
    (sss_cons (ss_set (i := 5) cc.nd rfl (by first | exact Or.inl rfl | exact Or.inr rfl) (se_bin ops_mod (se_bin (oMul_ok cc hr ih) (se_bin ops_mod (se_callTy (fns_int) rfl (NS.free c 17) (by decide +kernel) (sa_cons (se_bin (oMul_ok cc hr ih) (se_var 4) (se_var 4)) (sa_nil))) (se_int)) (se_int)) (se_int)))
    (sss_one (ss_ret (se_lst (sa_cons (se_bin (oMul_ok cc hr ih) (se_var 3) (se_callTy (fns_int) rfl (NS.free c 17) (by decide +kernel) (sa_cons (se_cmp ops_ge (se_var 3) (se_bin ops_pow (se_int) (se_int))) (sa_nil)))) (sa_cons (se_var 5) (sa_nil))) (szl rfl))))))))
theorem cal_15 (NS : Ns K mg) (n : Nat) (ih : IH c P w mg base n) : Cal (L.gx K c) P w mg base (lv (n + 1)) ((.g "_law_pool" : Pth).ad K) (run (n + 1) 15) := by
  obtain ⟨M⟩ := c.fn 15 rfl
  have hv : M.dvs = [] := List.eq_nil_of_length_eq_zero (by rw [← (M.rd ⟨[], []⟩ fun _ => none).length]; rfl)
  exact cal_defD (ok_15 NS n ih M) rfl (fun j hj => ⟨[], by rw [hv]; cases j <;> exact .nil, FunD.bindsN (ps := ["_law_script", "_law_k"]) (hv ▸ M.F) fun _ _ _ _ _ _ us hl => match us, hl with | [_, _], _ => rfl⟩) M.rd
abbrev N_16 : List Str := ["_law_pool_here", "_law_wide", "_law_result"]
theorem sc_16 : FnScope N_16 ["_law_pool_here", "_law_wide"] (defScope s_16) := ⟨rfl, rfl, rfl, by decide +kernel, rfl, by decide +kernel, by decide +kernel⟩
theorem ok_16 (NS : Ns K mg) (n : Nat) (ih : IH c P w mg base n) (M : FnM (L.gx K c) ⟨.g "_law_take", "_law_take", "_law_take", s_16, []⟩) : FnOk P w (L.gx K c).K mg base (L2.CX P w) (lv n + 1 + 1) ((.g "_law_take" : Pth).ad (L.gx K c).K) M.fd ["_law_pool_here", "_law_wide"] (spF (L.gx K c) (bodyRun N_16.length (m_16 (run n))) (["_law_pool_here", "_law_wide"] : List Str).length) := by
  refine fnd_ok (G := L.gx K c) (k := lv n + 1) (ms := m_16 (run n)) M.F sc_16 fun cdv A outer s H E hr cc => ?_
  exact sss_cons (ss_if (st_cmp ops_gt (se_ix (ixs_item cc) (se_var 0) (se_int)) (se_int)) (sss_cons (ss_set (i := 2) cc.nd rfl (by first | exact Or.inl rfl | exact Or.inr rfl) (se_bin ops_mod (se_callTy (fns_int) rfl (NS.free c 17) (by decide +kernel) (sa_cons (se_ix (ixs_item cc) (se_var 0) (se_int)) (sa_nil))) (se_var 1)))
    (sss_cons (ss_asg (se_bin ops_div (se_ix (ixs_item cc) (se_var 0) (se_int)) (se_var 1)) (sg_sub (W := WF E) (se_var 0) (se_int) sts_list))
    (sss_one (ss_ret (se_var 2))))) (sss_nil))
    (sss_cons (ss_asg (se_bin ops_mod (se_callTy (fns_int) rfl (NS.free c 17) (by decide +kernel) (sa_cons (se_bin (oAdd_ok cc hr ih) (se_bin (oMul_ok cc hr ih) (se_ix (ixs_item cc) (se_var 0) (se_int)) (se_int)) (se_int)) (sa_nil))) (se_int)) (sg_sub (W := WF E) (se_var 0) (se_int) sts_list))
    (sss_one (ss_ret (se_bin ops_mod (se_bin ops_div (se_bin ops_mod (se_callTy (fns_int) rfl (NS.free c 17) (by decide +kernel) (sa_cons (se_bin (oMul_ok cc hr ih) (se_ix (ixs_item cc) (se_var 0) (se_int)) (se_ix (ixs_item cc) (se_var 0) (se_int))) (sa_nil))) (se_int)) (se_int)) (se_var 1)))))
theorem cal_16 (NS : Ns K mg) (n : Nat) (ih : IH c P w mg base n) : Cal (L.gx K c) P w mg base (lv (n + 1)) ((.g "_law_take" : Pth).ad K) (run (n + 1) 16) := by
  obtain ⟨M⟩ := c.fn 16 rfl
  have hv : M.dvs = [] := List.eq_nil_of_length_eq_zero (by rw [← (M.rd ⟨[], []⟩ fun _ => none).length]; rfl)
  exact cal_defD (ok_16 NS n ih M) rfl (fun j hj => ⟨[], by rw [hv]; cases j <;> exact .nil, FunD.bindsN (ps := ["_law_pool_here", "_law_wide"]) (hv ▸ M.F) fun _ _ _ _ _ _ us hl => match us, hl with | [_, _], _ => rfl⟩) M.rd
abbrev N_17 : List Str := ["_law_parts_here", "_law_n", "_law_found", "_law_part"]
theorem sc_17 : FnScope N_17 ["_law_parts_here", "_law_n"] (defScope s_17) := ⟨rfl, rfl, rfl, by decide +kernel, rfl, by decide +kernel, by decide +kernel⟩
theorem ok_17 (NS : Ns K mg) (n : Nat) (ih : IH c P w mg base n) (M : FnM (L.gx K c) ⟨.g "_law_value", "_law_value", "_law_value", s_17, []⟩) : FnOk P w (L.gx K c).K mg base (L2.CX P w) (lv n + 1 + 1) ((.g "_law_value" : Pth).ad (L.gx K c).K) M.fd ["_law_parts_here", "_law_n"] (spF (L.gx K c) (bodyRun N_17.length (m_17 (run n))) (["_law_parts_here", "_law_n"] : List Str).length) := by
  refine fnd_ok (G := L.gx K c) (k := lv n + 1) (ms := m_17 (run n)) M.F sc_17 fun cdv A outer s H E hr cc => ?_
  exact sss_cons (ss_set (i := 2) cc.nd rfl (by first | exact Or.inl rfl | exact Or.inr rfl) (se_int))
    (sss_cons (ss_for 200 cc (si_seq cc (se_rev cc (se_var 0))) (sg_name cc.nd rfl (by first | exact Or.inl rfl | exact Or.inr rfl)) (sss_one (ss_set (i := 2) cc.nd rfl (by first | exact Or.inl rfl | exact Or.inr rfl) (se_bin (oAdd_ok cc hr ih) (se_bin (oMul_ok cc hr ih) (se_var 2) (se_var 1)) (se_var 3)))))
    (sss_one (ss_ret (se_var 2))))
theorem cal_17 (NS : Ns K mg) (n : Nat) (ih : IH c P w mg base n) : Cal (L.gx K c) P w mg base (lv (n + 1)) ((.g "_law_value" : Pth).ad K) (run (n + 1) 17) := by
  obtain ⟨M⟩ := c.fn 17 rfl
  have hv : M.dvs = [] := List.eq_nil_of_length_eq_zero (by rw [← (M.rd ⟨[], []⟩ fun _ => none).length]; rfl)
  exact cal_defD (ok_17 NS n ih M) rfl (fun j hj => ⟨[], by rw [hv]; cases j <;> exact .nil, FunD.bindsN (ps := ["_law_parts_here", "_law_n"]) (hv ▸ M.F) fun _ _ _ _ _ _ us hl => match us, hl with | [_, _], _ => rfl⟩) M.rd
abbrev N_18 : List Str := ["_law_pool_here", "_law_menu", "_law_turn"]
theorem sc_18 : FnScope N_18 ["_law_pool_here"] (defScope s_18) := ⟨rfl, rfl, rfl, by decide +kernel, rfl, by decide +kernel, by decide +kernel⟩
theorem ok_18 (NS : Ns K mg) (n : Nat) (ih : IH c P w mg base n) (M : FnM (L.gx K c) ⟨.g "_law_parts", "_law_parts", "_law_parts", s_18, []⟩) : FnOk P w (L.gx K c).K mg base (L2.CX P w) (lv n + 1 + 1) ((.g "_law_parts" : Pth).ad (L.gx K c).K) M.fd ["_law_pool_here"] (spF (L.gx K c) (bodyRun N_18.length (m_18 (run n))) (["_law_pool_here"] : List Str).length) := by
  refine fnd_ok (G := L.gx K c) (k := lv n + 1) (ms := m_18 (run n)) M.F sc_18 fun cdv A outer s H E hr cc => ?_
  exact sss_cons (ss_set (i := 1) cc.nd rfl (by first | exact Or.inl rfl | exact Or.inr rfl) (se_lv (sa_cons (se_int) (sa_cons (se_int) (sa_cons (se_int) (sa_cons (se_un (oNeg_ok cc hr ih) (se_int)) (sa_cons (se_int) (sa_cons (se_int) (sa_cons (se_un (oNeg_ok cc hr ih) (se_int)) (sa_cons (se_bin ops_pow (se_int) (se_int)) (sa_nil))))))))) (szl rfl)))
    (sss_one (ss_ret (se_callTy (fns_tuple cc) rfl (NS.free c 3) (by decide +kernel) (sa_cons (se_lcc (own := [("_law_turn", 2)]) (t := (.one 2)) 200 cc (si_range1 (sa_cons (se_call (fns_cal cc (ih 16 rfl) (hr.mono (Nat.le_succ _))) rfl (NS.glo c 18) (keep_of c 18) (sa_cons (se_var 0) (sa_cons (se_int) (sa_nil)))) (sa_nil)) rfl (NS.free c 2)) (blkOk_by (N := N_18) (sc := defScope s_18) (by decide +kernel)) (by decide) (fun _ _ _ _ _ cc => pg_name cc.nd rfl (by first | exact Or.inl rfl | exact Or.inr rfl)) (fun _ _ _ _ _ cc => sts_nil) (fun _ _ _ _ _ cc => se_ix (ixs_item cc) (se_var 1) (se_call (fns_cal cc (ih 16 rfl) (hr.mono (Nat.le_succ _))) rfl (NS.glo c 18) (keep_of c 18) (sa_cons (se_var 0) (sa_cons (se_int) (sa_nil)))))) (sa_nil)))))
theorem cal_18 (NS : Ns K mg) (n : Nat) (ih : IH c P w mg base n) : Cal (L.gx K c) P w mg base (lv (n + 1)) ((.g "_law_parts" : Pth).ad K) (run (n + 1) 18) := by
  obtain ⟨M⟩ := c.fn 18 rfl
  have hv : M.dvs = [] := List.eq_nil_of_length_eq_zero (by rw [← (M.rd ⟨[], []⟩ fun _ => none).length]; rfl)
  exact cal_defD (ok_18 NS n ih M) rfl (fun j hj => ⟨[], by rw [hv]; cases j <;> exact .nil, FunD.bindsN (ps := ["_law_pool_here"]) (hv ▸ M.F) fun _ _ _ _ _ _ us hl => match us, hl with | [_], _ => rfl⟩) M.rd
abbrev N_19 : List Str := ["_law_parts_here", "_law_found"]
theorem sc_19 : FnScope N_19 ["_law_parts_here"] (defScope s_19) := ⟨rfl, rfl, rfl, by decide +kernel, rfl, by decide +kernel, by decide +kernel⟩
theorem ok_19 (NS : Ns K mg) (n : Nat) (ih : IH c P w mg base n) (M : FnM (L.gx K c) ⟨.g "_law_trimmed", "_law_trimmed", "_law_trimmed", s_19, []⟩) : FnOk P w (L.gx K c).K mg base (L2.CX P w) (lv n + 1 + 1) ((.g "_law_trimmed" : Pth).ad (L.gx K c).K) M.fd ["_law_parts_here"] (spF (L.gx K c) (bodyRun N_19.length (m_19 (run n))) (["_law_parts_here"] : List Str).length) := by
  refine fnd_ok (G := L.gx K c) (k := lv n + 1) (ms := m_19 (run n)) M.F sc_19 fun cdv A outer s H E hr cc => ?_
  exact sss_cons (ss_set (i := 1) cc.nd rfl (by first | exact Or.inl rfl | exact Or.inr rfl) (se_callTy (fns_list cc) rfl (NS.free c 19) (by decide +kernel) (sa_cons (se_var 0) (sa_nil))))
    (sss_cons (ss_while 200 cc (st_w (sw_and (st_cmp (oNe_ok cc hr ih) (se_var 1) (se_lv (sa_nil) (szl rfl))) (sw_and1 (st_cmp (oEq_ok cc hr ih) (se_ix (ixs_item cc) (se_var 1) (se_un (oNeg_ok cc hr ih) (se_int))) (se_int))))) (sss_one (ss_expr (se_bm0 PySem.F.plainAttrs_list PySem.F.slot_list_pop PySem.F.type_list_pop mts_pop (ck_list cc) (se_var 1)))))
    (sss_one (ss_ret (se_callTy (fns_tuple cc) rfl (NS.free c 3) (by decide +kernel) (sa_cons (se_var 1) (sa_nil))))))
theorem cal_19 (NS : Ns K mg) (n : Nat) (ih : IH c P w mg base n) : Cal (L.gx K c) P w mg base (lv (n + 1)) ((.g "_law_trimmed" : Pth).ad K) (run (n + 1) 19) := by
  obtain ⟨M⟩ := c.fn 19 rfl
  have hv : M.dvs = [] := List.eq_nil_of_length_eq_zero (by rw [← (M.rd ⟨[], []⟩ fun _ => none).length]; rfl)
  exact cal_defD (ok_19 NS n ih M) rfl (fun j hj => ⟨[], by rw [hv]; cases j <;> exact .nil, FunD.bindsN (ps := ["_law_parts_here"]) (hv ▸ M.F) fun _ _ _ _ _ _ us hl => match us, hl with | [_], _ => rfl⟩) M.rd
abbrev N_20 : List Str := ["_law_one", "_law_other", "_law_amount", "_law_n", "_law_first", "_law_second", "_law_due", "_law_size", "_law_told"]
theorem sc_20 : FnScope N_20 ["_law_one", "_law_other", "_law_amount", "_law_n"] (defScope s_20) := ⟨rfl, rfl, rfl, by decide +kernel, rfl, by decide +kernel, by decide +kernel⟩
theorem ok_20 (NS : Ns K mg) (n : Nat) (ih : IH c P w mg base n) (M : FnM (L.gx K c) ⟨.g "_law_right", "_law_right", "_law_right", s_20, []⟩) : FnOk P w (L.gx K c).K mg base (L2.CX P w) (lv n + 1 + 1) ((.g "_law_right" : Pth).ad (L.gx K c).K) M.fd ["_law_one", "_law_other", "_law_amount", "_law_n"] (spF (L.gx K c) (bodyRun N_20.length (m_20 (run n))) (["_law_one", "_law_other", "_law_amount", "_law_n"] : List Str).length) := by
  refine fnd_ok (G := L.gx K c) (k := lv n + 1) (ms := m_20 (run n)) M.F sc_20 fun cdv A outer s H E hr cc => ?_
  exact sss_cons (ss_par (i := 4) (j := 5) cc.calm cc.nd rfl rfl (by decide) rfl rfl (sa_cons (se_call (fns_cal cc (ih 17 rfl) (hr.mono (Nat.le_succ _))) rfl (NS.glo c 20) (keep_of c 20) (sa_cons (se_attr cc (se_var 0) rfl (at_coefficients_f cc) (at_coefficients_p cc hr ih)) (sa_cons (se_var 3) (sa_nil)))) (sa_cons (se_call (fns_cal cc (ih 17 rfl) (hr.mono (Nat.le_succ _))) rfl (NS.glo c 20) (keep_of c 20) (sa_cons (se_attr cc (se_var 1) rfl (at_coefficients_f cc) (at_coefficients_p cc hr ih)) (sa_cons (se_var 3) (sa_nil)))) (sa_nil))))
    (sss_cons (ss_set (i := 6) cc.nd rfl (by first | exact Or.inl rfl | exact Or.inr rfl) (se_lv (sa_cons (se_tup (sa_cons (se_bin (oAdd_ok cc hr ih) (se_var 0) (se_var 1)) (sa_cons (se_bin (oAdd_ok cc hr ih) (se_var 4) (se_var 5)) (sa_nil))) (szl rfl)) (sa_cons (se_tup (sa_cons (se_bin (oSub_ok cc hr ih) (se_var 0) (se_var 1)) (sa_cons (se_bin (oSub_ok cc hr ih) (se_var 4) (se_var 5)) (sa_nil))) (szl rfl)) (sa_cons (se_tup (sa_cons (se_bin (oMul_ok cc hr ih) (se_var 0) (se_var 1)) (sa_cons (se_bin (oMul_ok cc hr ih) (se_var 4) (se_var 5)) (sa_nil))) (szl rfl)) (sa_cons (se_tup (sa_cons (se_un (oNeg_ok cc hr ih) (se_var 0)) (sa_cons (se_un (oNeg_ok cc hr ih) (se_var 4)) (sa_nil))) (szl rfl)) (sa_nil))))) (szl rfl)))
    (sss_cons (ss_set (i := 6) cc.nd rfl (by first | exact Or.inl rfl | exact Or.inr rfl) (se_bin (oAdd_ok cc hr ih) (se_var 6) (se_lv (sa_cons (se_tup (sa_cons (se_bin (oAdd_ok cc hr ih) (se_var 0) (se_var 2)) (sa_cons (se_bin (oAdd_ok cc hr ih) (se_var 4) (se_var 2)) (sa_nil))) (szl rfl)) (sa_cons (se_tup (sa_cons (se_bin (oSub_ok cc hr ih) (se_var 0) (se_var 2)) (sa_cons (se_bin (oSub_ok cc hr ih) (se_var 4) (se_var 2)) (sa_nil))) (szl rfl)) (sa_cons (se_tup (sa_cons (se_bin (oMul_ok cc hr ih) (se_var 0) (se_var 2)) (sa_cons (se_bin (oMul_ok cc hr ih) (se_var 4) (se_var 2)) (sa_nil))) (szl rfl)) (sa_nil)))) (szl rfl))))
    (sss_cons (ss_for 200 cc (si_seq cc (se_var 6)) (sg_tup cc (sgs_cons (sg_name cc.nd rfl (by first | exact Or.inl rfl | exact Or.inr rfl)) (sgs_cons (sg_name cc.nd rfl (by first | exact Or.inl rfl | exact Or.inr rfl)) (sgs_nil)))) (sss_one (ss_if (st_w (sw_or (st_cmp (oNe_ok cc hr ih) (se_callI cc (se_var 7) (dCall_ok cc hr ih) (sa_cons (se_var 3) (sa_nil))) (se_var 8)) (sw_or (st_cmp (oNe_ok cc hr ih) (se_attr cc (se_var 7) rfl (at_coefficients_f cc) (at_coefficients_p cc hr ih)) (se_call (fns_cal cc (ih 19 rfl) (hr.mono (Nat.le_succ _))) rfl (NS.glo c 21) (keep_of c 21) (sa_cons (se_attr cc (se_var 7) rfl (at_coefficients_f cc) (at_coefficients_p cc hr ih)) (sa_nil)))) (sw_or1 (st_not (st_tru cc (se_callB (fns_isi cc) rfl (NS.free c 10) (by decide +kernel) (sa_cons (se_var 7) (sa_cons (se_cls rfl (NS.glo c 9) (cls_of c 0 rfl)) (sa_nil)))))))))) (sss_one (ss_ret (se_bl))) (sss_nil))))
    (sss_one (ss_ret (se_and (se_cmp (oEq_ok cc hr ih) (se_callI cc (se_var 0) (dCall_ok cc hr ih) (sa_cons (se_var 3) (sa_nil))) (se_var 4)) (se_one (se_cmp (oEq_ok cc hr ih) (se_callI cc (se_callI cc (se_var 0) (dCall_ok cc hr ih) (sa_cons (se_var 1) (sa_nil))) (dCall_ok cc hr ih) (sa_cons (se_var 3) (sa_nil))) (se_call (fns_cal cc (ih 17 rfl) (hr.mono (Nat.le_succ _))) rfl (NS.glo c 20) (keep_of c 20) (sa_cons (se_attr cc (se_var 0) rfl (at_coefficients_f cc) (at_coefficients_p cc hr ih)) (sa_cons (se_var 5) (sa_nil))))))))))))
theorem cal_20 (NS : Ns K mg) (n : Nat) (ih : IH c P w mg base n) : Cal (L.gx K c) P w mg base (lv (n + 1)) ((.g "_law_right" : Pth).ad K) (run (n + 1) 20) := by
  obtain ⟨M⟩ := c.fn 20 rfl
  have hv : M.dvs = [] := List.eq_nil_of_length_eq_zero (by rw [← (M.rd ⟨[], []⟩ fun _ => none).length]; rfl)
  exact cal_defD (ok_20 NS n ih M) rfl (fun j hj => ⟨[], by rw [hv]; cases j <;> exact .nil, FunD.bindsN (ps := ["_law_one", "_law_other", "_law_amount", "_law_n"]) (hv ▸ M.F) fun _ _ _ _ _ _ us hl => match us, hl with | [_, _, _, _], _ => rfl⟩) M.rd
abbrev N_21 : List Str := ["_law_script", "_law_k", "_law_pool_here", "_law_some", "_law_others", "_law_one", "_law_other", "_law_amount", "_law_n"]
theorem sc_21 : FnScope N_21 ["_law_script"] (defScope s_21) := ⟨rfl, rfl, rfl, by decide +kernel, rfl, by decide +kernel, by decide +kernel⟩
theorem ok_21 (NS : Ns K mg) (n : Nat) (ih : IH c P w mg base n) (M : FnM (L.gx K c) ⟨.g "law", "law", "law", s_21, []⟩) : FnOk P w (L.gx K c).K mg base (L2.CX P w) (lv n + 1 + 1) ((.g "law" : Pth).ad (L.gx K c).K) M.fd ["_law_script"] (spF (L.gx K c) (bodyRun N_21.length (m_21 (run n))) (["_law_script"] : List Str).length) := by
  refine fnd_ok (G := L.gx K c) (k := lv n + 1) (ms := m_21 (run n)) M.F sc_21 fun cdv A outer s H E hr cc => ?_
  exact sss_cons (ss_for 200 cc (si_range1 (sa_cons (se_callB (fns_max2 cc) rfl (NS.free c 4) (by decide +kernel) (sa_cons (se_int) (sa_cons (se_callB (fns_min2 cc) rfl (NS.free c 22) (by decide +kernel) (sa_cons (se_callB (fns_len cc) rfl (NS.free c 1) (by decide +kernel) (sa_cons (se_var 0) (sa_nil))) (sa_cons (se_int) (sa_nil)))) (sa_nil)))) (sa_nil)) rfl (NS.free c 2)) (sg_name cc.nd rfl (by first | exact Or.inl rfl | exact Or.inr rfl)) (sss_cons (ss_set (i := 2) cc.nd rfl (by first | exact Or.inl rfl | exact Or.inr rfl) (se_call (fns_cal cc (ih 15 rfl) (hr.mono (Nat.le_succ _))) rfl (NS.glo c 23) (keep_of c 23) (sa_cons (se_var 0) (sa_cons (se_var 1) (sa_nil)))))
    (sss_cons (ss_par (i := 3) (j := 4) cc.calm cc.nd rfl rfl (by decide) rfl rfl (sa_cons (se_call (fns_cal cc (ih 18 rfl) (hr.mono (Nat.le_succ _))) rfl (NS.glo c 24) (keep_of c 24) (sa_cons (se_var 2) (sa_nil))) (sa_cons (se_call (fns_cal cc (ih 18 rfl) (hr.mono (Nat.le_succ _))) rfl (NS.glo c 24) (keep_of c 24) (sa_cons (se_var 2) (sa_nil))) (sa_nil))))
    (sss_cons (ss_par3 (i := 5) (j := 6) (l := 7) cc.calm cc.nd rfl rfl rfl (by decide) (by decide) (by decide) rfl rfl rfl (sa_cons (se_call (fns_make cc (cls_of c 0 rfl) (mk_of c 14 rfl) (ih 6 rfl) hr) rfl (NS.glo c 9) (keep_of c 9) (sa_cons (se_var 3) (sa_nil))) (sa_cons (se_call (fns_make cc (cls_of c 0 rfl) (mk_of c 14 rfl) (ih 6 rfl) hr) rfl (NS.glo c 9) (keep_of c 9) (sa_cons (se_var 4) (sa_nil))) (sa_cons (se_ix (ixs_item cc) (se_lv (sa_cons (se_int) (sa_cons (se_int) (sa_cons (se_un (oNeg_ok cc hr ih) (se_int)) (sa_cons (se_bin ops_pow (se_int) (se_int)) (sa_nil))))) (szl rfl)) (se_call (fns_cal cc (ih 16 rfl) (hr.mono (Nat.le_succ _))) rfl (NS.glo c 18) (keep_of c 18) (sa_cons (se_var 2) (sa_cons (se_int) (sa_nil))))) (sa_nil)))))
    (sss_cons (ss_if (st_w (sw_or (st_cmp (oNe_ok cc hr ih) (se_attr cc (se_var 5) rfl (at_coefficients_f cc) (at_coefficients_p cc hr ih)) (se_call (fns_cal cc (ih 19 rfl) (hr.mono (Nat.le_succ _))) rfl (NS.glo c 21) (keep_of c 21) (sa_cons (se_var 3) (sa_nil)))) (sw_or1 (st_cmp (oNe_ok cc hr ih) (se_attr cc (se_var 5) rfl (at_degree_f cc) (at_degree_p cc hr ih)) (se_callB (fns_max2 cc) rfl (NS.free c 4) (by decide +kernel) (sa_cons (se_bin (oSub_ok cc hr ih) (se_callB (fns_len cc) rfl (NS.free c 1) (by decide +kernel) (sa_cons (se_call (fns_cal cc (ih 19 rfl) (hr.mono (Nat.le_succ _))) rfl (NS.glo c 21) (keep_of c 21) (sa_cons (se_var 3) (sa_nil))) (sa_nil))) (se_int)) (sa_cons (se_int) (sa_nil)))))))) (sss_one (ss_ret (se_bl))) (sss_nil))
    (sss_cons (ss_if (st_w (sw_or (st_cmp (oNe_ok cc hr ih) (se_cmp (oEq_ok cc hr ih) (se_var 5) (se_var 6)) (se_cmp (oEq_ok cc hr ih) (se_call (fns_cal cc (ih 19 rfl) (hr.mono (Nat.le_succ _))) rfl (NS.glo c 21) (keep_of c 21) (sa_cons (se_var 3) (sa_nil))) (se_call (fns_cal cc (ih 19 rfl) (hr.mono (Nat.le_succ _))) rfl (NS.glo c 21) (keep_of c 21) (sa_cons (se_var 4) (sa_nil))))) (sw_or1 (st_cmp (oNe_ok cc hr ih) (se_var 5) (se_call (fns_make cc (cls_of c 0 rfl) (mk_of c 14 rfl) (ih 6 rfl) hr) rfl (NS.glo c 9) (keep_of c 9) (sa_cons (se_bin (oAdd_ok cc hr ih) (se_var 3) (se_tup (sa_cons (se_int) (sa_nil)) (szl rfl))) (sa_nil))))))) (sss_one (ss_ret (se_bl))) (sss_nil))
    (sss_cons (ss_if (st_w (sw_or (st_cmp (oEq_ok cc hr ih) (se_var 5) (se_var 7)) (sw_or (st_cmp (oEq_ok cc hr ih) (se_var 5) (se_var 3)) (sw_or1 (st_cmp (oEq_ok cc hr ih) (se_var 5) (se_str [])))))) (sss_one (ss_ret (se_bl))) (sss_nil))
    (sss_one (ss_for 200 cc (si_seq cc (se_lv (sa_cons (se_int) (sa_cons (se_bin (oAdd_ok cc hr ih) (se_int) (se_call (fns_cal cc (ih 16 rfl) (hr.mono (Nat.le_succ _))) rfl (NS.glo c 18) (keep_of c 18) (sa_cons (se_var 2) (sa_cons (se_int) (sa_nil))))) (sa_cons (se_bin (oAdd_ok cc hr ih) (se_bin ops_pow (se_int) (se_int)) (se_int)) (sa_nil)))) (szl rfl))) (sg_name cc.nd rfl (by first | exact Or.inl rfl | exact Or.inr rfl)) (sss_one (ss_if (st_not (st_tru cc (se_call (fns_cal cc (ih 20 rfl) (hr.mono (Nat.le_succ _))) rfl (NS.glo c 25) (keep_of c 25) (sa_cons (se_var 5) (sa_cons (se_var 6) (sa_cons (se_var 7) (sa_cons (se_var 8) (sa_nil)))))))) (sss_one (ss_ret (se_bl))) (sss_nil))))))))))))
    (sss_one (ss_ret (se_and (se_cmp (oEq_ok cc hr ih) (se_attr cc (se_call0 (fns_make cc (cls_of c 0 rfl) (mk_of c 14 rfl) (ih 6 rfl) hr) rfl (NS.glo c 9) (keep_of c 9)) rfl (at_coefficients_f cc) (at_coefficients_p cc hr ih)) (se_tup (sa_nil) (szl rfl))) (se_one (se_cmp (oEq_ok cc hr ih) (se_call0 (fns_make cc (cls_of c 0 rfl) (mk_of c 14 rfl) (ih 6 rfl) hr) rfl (NS.glo c 9) (keep_of c 9)) (se_call (fns_make cc (cls_of c 0 rfl) (mk_of c 14 rfl) (ih 6 rfl) hr) rfl (NS.glo c 9) (keep_of c 9) (sa_cons (se_tup (sa_cons (se_int) (sa_cons (se_int) (sa_nil))) (szl rfl)) (sa_nil))))))))
theorem cal_21 (NS : Ns K mg) (n : Nat) (ih : IH c P w mg base n) : Cal (L.gx K c) P w mg base (lv (n + 1)) ((.g "law" : Pth).ad K) (run (n + 1) 21) := by
  obtain ⟨M⟩ := c.fn 21 rfl
  have hv : M.dvs = [] := List.eq_nil_of_length_eq_zero (by rw [← (M.rd ⟨[], []⟩ fun _ => none).length]; rfl)
  exact cal_defD (ok_21 NS n ih M) rfl (fun j hj => ⟨[], by rw [hv]; cases j <;> exact .nil, FunD.bindsN (ps := ["_law_script"]) (hv ▸ M.F) fun _ _ _ _ _ _ us hl => match us, hl with | [_], _ => rfl⟩) M.rd
theorem all (NS : Ns K mg) : ∀ n, IH c P w mg base n
  | 0 => fun j _ _ => cal0
  | n + 1 => fun j d h => by
    have ih := all NS n
    match j, h with
    | 0, h => cases h; exact cal_0 NS n ih
    | 1, h => cases h; exact cal_1 NS n ih
    | 2, h => cases h; exact cal_2 NS n ih
    | 3, h => cases h; exact cal_3 NS n ih
    | 4, h => cases h; exact cal_4 NS n ih
    | 5, h => cases h; exact cal_5 NS n ih
    | 6, h => cases h; exact cal_6 NS n ih
    | 7, h => cases h; exact cal_7 NS n ih
    | 8, h => cases h; exact cal_8 NS n ih
    | 9, h => cases h; exact cal_9 NS n ih
    | 10, h => cases h; exact cal_10 NS n ih
    | 11, h => cases h; exact cal_11 NS n ih
    | 12, h => cases h; exact cal_12 NS n ih
    | 13, h => cases h; exact cal_13 NS n ih
    | 14, h => cases h; exact cal_14 NS n ih
    | 15, h => cases h; exact cal_15 NS n ih
    | 16, h => cases h; exact cal_16 NS n ih
    | 17, h => cases h; exact cal_17 NS n ih
    | 18, h => cases h; exact cal_18 NS n ih
    | 19, h => cases h; exact cal_19 NS n ih
    | 20, h => cases h; exact cal_20 NS n ih
    | 21, h => cases h; exact cal_21 NS n ih
    | k + 22, h => exact absurd h (by simp [defs])
end
end L2.Mi.Pg

set_option Elab.async false
set_option linter.all false
set_option maxRecDepth 100000
set_option maxHeartbeats 4000000
/-! The program of law_k40_sums_of_sizes: runs, derivations. Printed by gen.py. -/
namespace L2.Mi.Pg
open PySem PySem.Spec PyProof.Rows
/-! ### the head -/
abbrev R : PySem.W.OpenRow := PySem.W.OpenLaw.row PySem.Challenge.rw_farmisses_k40_sums_of_sizes
abbrev hk : PySem.W.Hook := L.hook 6
def ob (s : PySem.W.SharedT) : AlM := L.obsG 6 (HandSHeadRun.getT s)
theorem ob_eq (s : PySem.W.SharedT) : ob s = hk.obs s.abs := Lw.obsG_eq (HandSHeadRun.getT_eq s)
def loose0 : List Str := ["cleared", "part_at", "plus", "times", "value", "parts_of", "Size", "_law_pool", "_law_take", "_law_value", "_law_parts", "_law_trimmed", "_law_right"]
def loose : List Str := loose0
theorem head (w : World) : HandSHeadRun.RunEq R (PySem.W.view R.prog [15]) hk ob 20000 loose w := by
  intro os
  kernel_rfl
end L2.Mi.Pg

set_option Elab.async false
set_option linter.all false
set_option maxRecDepth 100000
set_option maxHeartbeats 1000000
/-! k40, the mathematics: sizes as lists of coefficients. -/
namespace L2.Mi.Pg
open PySem
/-! ### lists of coefficients -/
def trimN (ps : List Int) : Nat → Nat
  | 0 => 0
  | k + 1 => if ps[k]? = some 0 then trimN ps k else k + 1
def trim (ps : List Int) : List Int := ps.take (trimN ps ps.length)
def pat (ps : List Int) (k : Int) : Int := if 0 ≤ k ∧ k < ps.length then ps[k.toNat]?.getD 0 else 0
theorem trimN_le (ps : List Int) : ∀ k, trimN ps k ≤ k
  | 0 => Nat.le_refl 0
  | k + 1 => by
    unfold trimN
    split
    · exact Nat.le_succ_of_le (trimN_le ps k)
    · exact Nat.le_refl _
theorem get_ints {ps : List Int} {k : Nat} (h : k < ps.length) : (ps.map D.int)[k]? = some (D.int ps[k]) := by simp [h]
theorem c0 {n : Nat} {S : Store} {d : D} {ps : List Int} (h : seqAt S d = some (ps.map D.int)) (hl : ps.length < 150) : run (n + 1) 0 [d] S = .ok (tupI (trim ps)) S := by
  rw [run_0]
  have hw := while_inv (t := tAnd (tOf (eBin gtI (eVar 1) (eC (.int 0)))) (tOf (eBin (oEq (run n)) (eBin itemF (eVar 0) (eBin (oSub (run n)) (eVar 1) (eC (.int 1)))) (eC (.int 0))))) (b := sAug 1 subI (eC (.int 1)))
    (fun k σ S' => S' = S ∧ k ≤ ps.length ∧ σ = [some d, some (.int k), none] ∧ trimN ps k = trimN ps ps.length)
    (fun σ S' => S' = S ∧ σ = [some d, some (.int (trimN ps ps.length)), none]) (fun k σ S' j => by
      obtain ⟨rfl, hk, rfl, ht⟩ := j
      cases k with
      | zero =>
        left
        refine ⟨S', by simp, rfl, ?_⟩
        rw [← ht]
        rfl
      | succ k =>
        have hit : itemF d (.int (((k + 1 : Nat) : Int) - 1)) S' = .ok (.int ps[k]) S' := by
          have e : (((k + 1 : Nat) : Int) - 1) = (k : Nat) := by omega
          rw [e]
          exact itemF_seq h (atI_nat (get_ints (by omega)))
        have ht' : tAnd (tOf (eBin gtI (eVar 1) (eC (.int 0)))) (tOf (eBin (oEq (run n)) (eBin itemF (eVar 0) (eBin (oSub (run n)) (eVar 1) (eC (.int 1)))) (eC (.int 0)))) [some d, some (.int (k + 1 : Nat)), none] S' = .ok (decide (ps[k] = 0)) S' := by
          have e : decide ((0 : Int) < ((k + 1 : Nat) : Int)) = true := decide_eq_true (by omega)
          simp only [tAnd_ev, tOf_ev, eBin_ev, eVar_s, eVar_0, eC_ev, bind_ok', gtI_ev, e, if_true, oSub, subF_ev, hit, oEq, eqF_int]
          rfl
        by_cases hz : ps[k] = 0
        · right
          refine ⟨S', [some d, some (.int k), none], S', k, by omega, by rw [ht', hz]; rfl, .inl ?_, rfl, by omega, rfl, ?_⟩
          · rw [sAug_ev (x := .int (k + 1 : Nat)) (y := .int 1) (S1 := S') rfl rfl]
            simp
          · rw [← ht]
            show _ = if ps[k]? = some 0 then trimN ps k else k + 1
            rw [if_pos (by simp [show k < ps.length by omega, hz])]
        · left
          refine ⟨S', by rw [ht']; simp [hz], rfl, ?_⟩
          rw [← ht]
          show _ = [some d, some (.int (if ps[k]? = some 0 then trimN ps k else k + 1 : Nat)), none]
          rw [if_neg (by simp [show k < ps.length by omega, hz])])
    200 ps.length [some d, some (.int ps.length), none] S (by omega) ⟨rfl, Nat.le_refl _, rfl, rfl⟩
  obtain ⟨σ', S', e1, rfl, rfl⟩ := hw
  have hle := trimN_le ps ps.length
  have hlen : (trim ps).length = trimN ps ps.length := by unfold trim; rw [List.length_take]; omega
  have hc : eLcV (iRange1 (eVar 1)) (.one 2) tYesM (eBin itemF (eVar 0) (eVar 2)) [2] 200 [some d, some (.int (trimN ps ps.length)), none] S' = .ok (.lv ((trim ps).map D.int)) S' := by
    refine lcv_range (j := trimN ps ps.length) _ rfl (by simp [hlen]) (by omega) (by omega) fun k hk => ?_
    rw [List.length_map, hlen] at hk
    have hs : ((wipeD [some d, some (.int (trimN ps ps.length)), none] [2]).set 2 (some (.int (k : Int)))) = [some d, some (.int (trimN ps ps.length)), some (.int k)] := rfl
    rw [hs]
    simp only [eBin_ev, eVar_s, eVar_0, bind_ok']
    rw [itemF_seq h (atI_nat (get_ints (by omega)))]
    simp [trim]
  unfold m_0
  simp only [sSeq_ev, sAsg_ev, eFn_ev, aList_cons, aList_nil, eVar_0, bind_ok', lenF_seq h, gName_ev, List.set_cons_succ, List.set_cons_zero, List.length_map, e1, sRet_ev, hc, fin_rt]
  rw [tupleF_list (xs := (trim ps).map D.int) rfl]
  rfl

theorem c1 {n : Nat} {S : Store} {d : D} {ps : List Int} {k : Int} (h : seqAt S d = some (ps.map D.int)) : run (n + 1) 1 [d, .int k] S = .ok (.int (pat ps k)) S := by
  rw [run_1]
  unfold m_1 pat
  by_cases h0 : 0 ≤ k
  · by_cases h1 : k < ps.length
    · have hk : k.toNat < ps.length := by omega
      have hat : L2.atI (ps.map D.int) k = some (D.int ps[k.toNat]) := by
        have z := atI_nat (get_ints hk)
        rwa [Int.toNat_of_nonneg h0] at z
      have hit : itemF d (.int k) S = .ok (.int ps[k.toNat]) S := itemF_seq h hat
      simp [h0, h1, lenF_seq h, hit, hk]
    · simp [h0, h1, lenF_seq h]
  · simp [h0]
/-! ### the laws of coefficients -/
def evP (x : Int) : List Int → Int
  | [] => 0
  | p :: ps => evP x ps * x + p
def padd (ps qs : List Int) : List Int := (List.range (max ps.length qs.length)).map fun (k : Nat) => pat ps (k : Int) + pat qs (k : Int)
theorem c2 {n : Nat} {S : Store} {d e : D} {ps qs : List Int} (h1 : seqAt S d = some (ps.map D.int)) (h2 : seqAt S e = some (qs.map D.int)) (hl : ps.length < 150) (hm : qs.length < 150) : run (n + 2) 2 [d, e] S = .ok (tupI (trim (padd ps qs))) S := by
  rw [run_2]
  unfold m_2
  have hmx : ∀ a b : Nat, (if (b : Int) > (a : Int) then (b : Int) else (a : Int)) = ((max a b : Nat) : Int) := fun a b => by
    by_cases hb : (b : Int) > (a : Int)
    · rw [if_pos hb]; omega
    · rw [if_neg hb]; omega
  have hc : eLcV (iRange1 (eFn max2F (aList [eFn lenF (aList [eVar 0]), eFn lenF (aList [eVar 1])]))) (.one 2) tYesM (eBin (oAdd (run (n + 1))) (eFn (run (n + 1) 1) (aList [eVar 0, eVar 2])) (eFn (run (n + 1) 1) (aList [eVar 1, eVar 2]))) [2] 200 [some d, some e, none] S = .ok (.lv ((padd ps qs).map D.int)) S := by
    refine lcv_range (j := max ps.length qs.length) _ ?_ (by simp [padd]) (by omega) (by omega) fun k hk => ?_
    · simp only [eFn_ev, aList_cons, aList_nil, eVar_0, eVar_s, bind_ok', lenF_seq h1, lenF_seq h2, max2F_ev, List.length_map, hmx]
    · have hs : ((wipeD [some d, some e, none] [2]).set 2 (some (.int (k : Int)))) = [some d, some e, some (.int k)] := rfl
      rw [hs]
      simp only [eBin_ev, eFn_ev, aList_cons, aList_nil, eVar_0, eVar_s, bind_ok', c1 h1, c1 h2, oAdd, addF_ev]
      simp [padd]
  simp only [sRet_ev, eFn_ev, aList_cons, aList_nil, bind_ok', hc]
  rw [c0 (ps := padd ps qs) (seqAt_list rfl) (by simp [padd]; omega)]
  rfl
/-! times: the sums, one behind another, into a new list -/
def pmulAt (ps qs : List Int) (k : Nat) : Int := ((List.range ps.length).map fun (j : Nat) => (ps[j]?.getD 0) * pat qs ((k : Int) - (j : Int))).sum
def pmul (ps qs : List Int) : List Int := (List.range (ps.length + qs.length)).map (pmulAt ps qs)
theorem pat_sm {b : Nat} {qs : List Int} (h : ∀ q ∈ qs, Sm b q) (k : Int) : Sm b (pat qs k) := by
  unfold pat
  split
  · rename_i hk
    cases q : qs[k.toNat]? with
    | none => exact Sm.zero
    | some x => exact h x (List.mem_of_getElem? q)
  · exact Sm.zero
theorem c3 {n a b : Nat} {S : Store} {d e : D} {ps qs : List Int} (h1 : TI d ps) (h2 : TI e qs) (hl : ps.length < 75) (hm : qs.length < 75) (hp : ∀ p ∈ ps, Sm a p) (hq : ∀ q ∈ qs, Sm b q) (hab : a + b < 1000000) :
    ∃ xs, run (n + 2) 3 [d, e] S = .ok (tupI (trim (pmul ps qs))) (S.push (.lst xs)) := by
  have comp : ∀ (k : Nat) (S' : Store), eLcV (iEn (eVar 0)) (.many [4, 5]) tYesM (eBin (oMul (run (n + 1))) (eVar 5) (eFn (run (n + 1) 1) (aList [eVar 1, eBin (oSub (run (n + 1))) (eVar 3) (eVar 4)]))) [4, 5] 200 [some d, some e, some (.ref S.size), some (.int k), none, none] S' =
      .ok (.lv (((List.range ps.length).map fun (j : Nat) => (ps[j]?.getD 0) * pat qs ((k : Int) - (j : Int))).map D.int)) S' := fun k S' => by
    refine lcv_en (ds := ps.map D.int) _ rfl h1 (by simp) (by simp; omega) (by simp; omega) fun j hj hj' => ?_
    rw [List.length_map] at hj'
    have hs : (((wipeD [some d, some e, some (.ref S.size), some (.int k), none, none] [4, 5]).set 4 (some (.int (j : Int)))).set 5 (some (ps.map D.int)[j])) = [some d, some e, some (.ref S.size), some (.int k), some (.int j), some (.int ps[j])] := by simp [wipeD]
    rw [hs]
    have ok : mulOk ps[j] (pat qs ((k : Int) - (j : Int))) = true := mulOk_sm (hp _ (List.getElem_mem hj')) (pat_sm hq _) hab
    simp only [eBin_ev, eFn_ev, aList_cons, aList_nil, eVar_0, eVar_s, bind_ok', oSub, subF_ev, c1 h2.seq, oMul, mulF_ev ok]
    simp [hj']
  obtain ⟨σ', S', e1, ⟨o3, rfl, rfl⟩⟩ := for_inv (src := fun k _ => some (if k < ((ps.length + qs.length : Nat) : Int).toNat then some (D.int (0 + (k : Int))) else none)) (g := gName 3)
    (b := sDrop (eBm isLst appendF (eVar 2) (aList [eFn sumF (aList [eLcV (iEn (eVar 0)) (.many [4, 5]) tYesM (eBin (oMul (run (n + 1))) (eVar 5) (eFn (run (n + 1) 1) (aList [eVar 1, eBin (oSub (run (n + 1))) (eVar 3) (eVar 4)]))) [4, 5] 200])])))
    (fun k σ S' => ∃ o3, σ = [some d, some e, some (.ref S.size), o3, none, none] ∧ S' = S.push (.lst (((List.range k).map (pmulAt ps qs)).map D.int))) (ps.length + qs.length)
    (fun k σ S' hk j => by
      obtain ⟨o3, rfl, rfl⟩ := j
      refine ⟨.int k, [some d, some e, some (.ref S.size), some (.int k), none, none], _, [some d, some e, some (.ref S.size), some (.int k), none, none], S.push (.lst (((List.range (k + 1)).map (pmulAt ps qs)).map D.int)), ?_, rfl, .inl ?_, ⟨_, rfl, rfl⟩⟩
      · simp only [Int.toNat_natCast, hk, if_true, Int.zero_add]
      · have hg : (S.push (.lst (((List.range k).map (pmulAt ps qs)).map D.int))).get S.size = some (.lst (((List.range k).map (pmulAt ps qs)).map D.int)) := Store.get_push_same
        have hi : isLst (.ref S.size) (S.push (.lst (((List.range k).map (pmulAt ps qs)).map D.int))) = true := by unfold isLst listAt; simp only [hg]; rfl
        rw [sDrop_ev]
        unfold eBm
        simp only [eVar_s, eVar_0, bind_ok', hi, if_true, aList_cons, aList_nil, eFn_ev, comp]
        rw [sumF_list (ns := (List.range ps.length).map fun (j : Nat) => (ps[j]?.getD 0) * pat qs ((k : Int) - (j : Int))) rfl]
        simp only [bind_ok', appendF, hg]
        rw [if_pos (by simp; unfold lim; omega)]
        simp only [Store.push_set]
        congr 3
        rw [List.range_succ]
        simp [pmulAt])
    (fun σ S' j => by simp) 200 0 [some d, some e, some (.ref S.size), none, none, none] (S.push (.lst [])) (by omega) (by omega) ⟨none, rfl, rfl⟩
  refine ⟨(pmul ps qs).map D.int, ?_⟩
  rw [run_3]
  unfold m_3
  have hi : iRange1 (eBin (oAdd (run (n + 1))) (eFn lenF (aList [eVar 0])) (eFn lenF (aList [eVar 1]))) [some d, some e, some (.ref S.size), none, none, none] (S.push (.lst [])) = .ok (fun k _ => some (if k < ((ps.length + qs.length : Nat) : Int).toNat then some (D.int (0 + (k : Int))) else none)) (S.push (.lst [])) := by
    unfold iRange1
    simp only [eBin_ev, eFn_ev, aList_cons, aList_nil, eVar_0, eVar_s, bind_ok', lenF_seq h1.seq, lenF_seq h2.seq, oAdd, addF_ev, List.length_map]
    have e : ((ps.length : Int) + (qs.length : Int)) = ((ps.length + qs.length : Nat) : Int) := by omega
    rw [e]
    rw [if_pos (i62_nat (by omega))]
  simp only [sSeq_ev, sAsg_ev, eLst_ev, aList_nil, bind_ok', gName_ev, List.set_cons_succ, List.set_cons_zero]
  unfold sFor
  simp only [hi, e1, sRet_ev, eFn_ev, aList_cons, aList_nil, eVar_s, eVar_0, bind_ok']
  rw [c0 (ps := pmul ps qs) ?_ (by simp [pmul]; omega)]
  · rfl
  · exact seqAt_list (listAt_ref Store.get_push_same)
/-! ### objects -/
/-- a Size stands at i, its parts ps -/
def Sz (S : Store) (d : D) (ps : List Int) : Prop := ∃ i, d = .ref i ∧ S.get i = some (.ins 0 [(0, tupI ps)])
theorem Sz.ext {S S' : Store} {d : D} {ps : List Int} (h : Sz S d ps) (e : Ext S S') : Sz S' d ps := by
  obtain ⟨i, rfl, h1⟩ := h
  exact ⟨i, rfl, e _ _ h1⟩
theorem attr_own {call : Nat → FN} {S : Store} {d : D} {ps : List Int} (h : Sz S d ps) : attrF (at_own_parts call) 0 d S = .ok (tupI ps) S := by
  obtain ⟨i, rfl, h1⟩ := h
  unfold attrF
  simp [h1, at_own_parts]
/-- Size(parts) -/
theorem make {n : Nat} {S : Store} {d : D} {ps : List Int} (h : TI d ps) (hl : ps.length < 150) : ∃ S', makeW 0 (run (n + 2) 6) [d] S = .ok (.ref S.size) S' ∧ Ext S S' ∧ Sz S' (.ref S.size) (trim ps) ∧ S'.size = S.size + 1 := by
  refine ⟨S.push (.ins 0 [(0, tupI (trim ps))]), ?_, Ext.push, ⟨S.size, rfl, Store.get_push_same⟩, Store.size_push _ _⟩
  unfold makeW
  rw [run_6]
  unfold m_6 sFld
  simp only [eFn_ev, aList_cons, aList_nil, eVar_s, eVar_0, bind_ok', c0 h.seq hl]
  have hg : (S.push (.ins 0 [])).get S.size = some (.ins 0 []) := Store.get_push_same
  simp only [fldSet, hg]
  rw [if_pos (by rfl)]
  simp only [fin_nx, bind_ok', Store.push_set]
  rfl
theorem coeff {n : Nat} {S : Store} {d : D} {ps : List Int} (h : Sz S d ps) : attrF (at_coefficients (run (n + 1))) 1 d S = .ok (tupI ps) S := by
  have e1 := attr_own (call := run n) h
  obtain ⟨i, rfl, h1⟩ := h
  unfold attrF
  simp only [h1, at_coefficients]
  rw [run_7]
  unfold m_7
  simp only [sRet_ev, eUn_ev, eVar_0, bind_ok', e1, fin_rt]
  rfl
/-! ### values -/
def horner (x : Int) (ps : List Int) : Int := ps.reverse.foldl (fun f p => f * x + p) 0
theorem horner_cons (x p : Int) (ps : List Int) : horner x (p :: ps) = horner x ps * x + p := by
  unfold horner
  rw [List.reverse_cons, List.foldl_append]
  rfl
/-- how large a value gets -/
theorem horner_sm {a b : Nat} {x : Int} (hx : Sm b x) : ∀ {ps : List Int}, (∀ p ∈ ps, Sm a p) → Sm (a + ps.length * (b + 1)) (horner x ps)
  | [], _ => Sm.zero
  | p :: ps, h => by
    rw [horner_cons]
    have h1 := horner_sm hx (ps := ps) fun q hq => h q (List.mem_cons_of_mem _ hq)
    have h2 := h1.mul hx
    have h3 := (h p (List.mem_cons_self ..)).mono (b := a + ps.length * (b + 1) + b) (by omega)
    have h4 := h2.add h3
    refine h4.mono ?_
    rw [List.length_cons, Nat.succ_mul]
    omega
theorem revF_ti {ps : List Int} {S : Store} : revF (tupI ps) S = .ok (tupI ps.reverse) S := by simp [revF, tupI]
theorem horner_loop {call : Nat → FN} {a b : Nat} {S : Store} {x : Int} {ps : List Int} (hp : ∀ p ∈ ps, Sm a p) (hx : Sm b x) (hb : a + ps.length * (b + 1) + b < 1000000) (hl : ps.length < 150) :
    ∃ o, sFor (iSeq (eUn revF (eVar 0))) (gName 3) (sSet 2 (eBin (oAdd call) (eBin (oMul call) (eVar 2) (eVar 1)) (eVar 3))) 200 [some (tupI ps), some (.int x), some (.int 0), none] S = .nx [some (tupI ps), some (.int x), some (.int (horner x ps)), o] S := by
  have hr : (eUn revF (eVar 0)) [some (tupI ps), some (.int x), some (.int 0), none] S = .ok (tupI ps.reverse) S := by
    simp only [eUn_ev, eVar_0, bind_ok', revF_ti]
  obtain ⟨src, e1, e2⟩ := src_tup hr (TI.of ps.reverse).seq
  obtain ⟨σ', S', e3, ⟨o, rfl, rfl⟩⟩ := for_inv (src := src) (g := gName 3) (b := sSet 2 (eBin (oAdd call) (eBin (oMul call) (eVar 2) (eVar 1)) (eVar 3)))
    (fun k σ S' => ∃ o, σ = [some (tupI ps), some (.int x), some (.int ((ps.reverse.take k).foldl (fun f p => f * x + p) 0)), o] ∧ S' = S) ps.length
    (fun k σ S' hk j => by
      obtain ⟨o, rfl, rfl⟩ := j
      have hk' : k < ps.reverse.length := by simpa using hk
      have hsm : Sm (a + k * (b + 1)) ((ps.reverse.take k).foldl (fun f p => f * x + p) 0) := by
        have z := horner_sm (a := a) hx (ps := (ps.reverse.take k).reverse) fun p hq => hp p (by
          have := List.mem_of_mem_take (List.mem_reverse.mp hq)
          exact List.mem_reverse.mp this)
        unfold horner at z
        rw [List.reverse_reverse, List.length_reverse, List.length_take] at z
        exact z.mono (by
          have : min k ps.reverse.length = k := by omega
          rw [this]
          exact Nat.le_refl _)
      have hle : k * (b + 1) ≤ ps.length * (b + 1) := Nat.mul_le_mul_right _ (by omega)
      have ok := mulOk_sm hsm hx (by omega)
      refine ⟨.int ps.reverse[k], [some (tupI ps), some (.int x), some (.int ((ps.reverse.take k).foldl (fun f p => f * x + p) 0)), some (.int ps.reverse[k])], S', [some (tupI ps), some (.int x), some (.int ((ps.reverse.take (k + 1)).foldl (fun f p => f * x + p) 0)), some (.int ps.reverse[k])], S', ?_, rfl, .inl ?_, ⟨_, rfl, rfl⟩⟩
      · rw [e2 k, get_ints hk']
      · simp only [sAsg_ev, eBin_ev, eVar_s, eVar_0, bind_ok', oMul, mulF_ev ok, oAdd, addF_ev, gName_ev, List.set_cons_succ, List.set_cons_zero]
        rw [List.take_succ_eq_append_getElem hk', List.foldl_append]
        rfl)
    (fun σ S' j => by
      obtain ⟨o, _, rfl⟩ := j
      rw [e2]
      simp) 200 0 [some (tupI ps), some (.int x), some (.int 0), none] S (by omega) (by omega) ⟨none, rfl, rfl⟩
  refine ⟨o, ?_⟩
  unfold sFor
  simp only [e1, e3]
  unfold horner
  rw [List.take_of_length_le (by simp)]
theorem c17 {n a b : Nat} {S : Store} {x : Int} {ps : List Int} (hp : ∀ p ∈ ps, Sm a p) (hx : Sm b x) (hb : a + ps.length * (b + 1) + b < 1000000) (hl : ps.length < 150) : run (n + 1) 17 [tupI ps, .int x] S = .ok (.int (horner x ps)) S := by
  obtain ⟨o, e⟩ := horner_loop (call := run n) (S := S) hp hx hb hl
  rw [run_17]
  unfold m_17
  simp only [sSeq_ev, sAsg_ev, eC_ev, gName_ev, List.set_cons_succ, List.set_cons_zero, e, sRet_ev, eVar_s, eVar_0, fin_rt]
theorem c4 {n a b : Nat} {S : Store} {x : Int} {ps : List Int} (hp : ∀ p ∈ ps, Sm a p) (hx : Sm b x) (hb : a + ps.length * (b + 1) + b < 1000000) (hl : ps.length < 150) : run (n + 1) 4 [tupI ps, .int x] S = .ok (.int (horner x ps)) S := by
  obtain ⟨o, e⟩ := horner_loop (call := run n) (S := S) hp hx hb hl
  have ok := mulOk_sm hx (Sm.zero (a := 0)) (by omega)
  rw [run_4]
  unfold m_4
  simp only [sSeq_ev, sAsg_ev, eBin_ev, eVar_s, eVar_0, eC_ev, bind_ok', oMul, mulF_ev ok, Int.mul_zero, gName_ev, List.set_cons_succ, List.set_cons_zero]
  simp only [oMul] at e
  simp only [e, sRet_ev, eVar_s, eVar_0, fin_rt]
end L2.Mi.Pg

set_option Elab.async false
set_option linter.all false
set_option maxRecDepth 100000
set_option maxHeartbeats 1000000
/-! k40: the methods of sizes. -/
namespace L2.Mi.Pg
open PySem
theorem tupleF_lv {S : Store} {xs : List D} : tupleF [.lv xs] S = .ok (.tup xs) S := rfl
/-- what stands on the right: an int, a Size -/
def Ot (S : Store) (o : D) (qs : List Int) : Prop := (∃ k, o = .int k ∧ qs = trim [k]) ∨ Sz S o qs
theorem isi_int {S : Store} {k : Int} : isiF isiL [.int k, .cl 0] S = .ok (.bl false) S := rfl
theorem isi_sz {S : Store} {o : D} {qs : List Int} (h : Sz S o qs) : isiF isiL [o, .cl 0] S = .ok (.bl true) S := by
  obtain ⟨i, rfl, h1⟩ := h
  have e : tagOf S (.ref i) = some (.o 0) := by unfold tagOf; simp only [h1]
  unfold isiF
  simp only [e]
  rfl
theorem c5 {n : Nat} {S : Store} {o : D} {qs : List Int} (h : Ot S o qs) : run (n + 2) 5 [o] S = .ok (tupI qs) S := by
  rw [run_5]
  unfold m_5
  rcases h with ⟨k, rfl, rfl⟩ | h
  · simp only [sRet_ev, eIf_ev, tTru_ev, eFn_ev, aList_cons, aList_nil, eVar_0, eC_ev, bind_ok', isi_int, truD_bl, eTup_ev]
    have e := c0 (n := n) (S := S) (d := .tup [.int k]) (ps := [k]) rfl (by simp)
    simp [e]
  · simp only [sRet_ev, eIf_ev, tTru_ev, eFn_ev, aList_cons, aList_nil, eVar_0, eC_ev, bind_ok', isi_sz h, truD_bl, if_true, eUn_ev, attr_own h, fin_rt]
theorem c10 {n : Nat} {S : Store} {d o : D} {ps qs : List Int} (h1 : Sz S d ps) (h2 : Ot S o qs) (hl : ps.length < 75) (hm : qs.length < 75) :
    ∃ S', run (n + 3) 10 [d, o] S = .ok (.ref S.size) S' ∧ Ext S S' ∧ Sz S' (.ref S.size) (trim (trim (padd ps qs))) := by
  have hlen : (trim (padd ps qs)).length ≤ max ps.length qs.length := by
    unfold trim
    rw [List.length_take]
    simp [padd]
    omega
  obtain ⟨S', e, x, z, _⟩ := make (n := n) (S := S) (TI.of (trim (padd ps qs))) (by omega)
  refine ⟨S', ?_, x, z⟩
  rw [run_10]
  unfold m_10
  simp only [sRet_ev, eFn_ev, aList_cons, aList_nil, eVar_0, eVar_s, bind_ok', eUn_ev, attr_own h1, c5 h2, c2 (TI.of ps).seq (TI.of qs).seq (show ps.length < 150 by omega) (show qs.length < 150 by omega), e, fin_rt]
theorem negs {call : Nat → FN} {qs : List Int} {m : ME} {σ : En} {S S1 : Store} {i : Nat} (hm : m σ S = .ok (tupI qs) S1) (hi : i < σ.length) (hl : qs.length < 150) : eLcV (iSeq m) (.one i) tYesM (eUn (oNeg call) (eVar i)) [i] 200 σ S = .ok (.lv ((qs.map fun q => -q).map D.int)) S1 := by
  refine lcv_seq (ds := qs.map D.int) _ hm (TI.of qs).seq (by simp) (by simp; omega) (by simp; omega) fun k hk hk' => ?_
  have hv : eVar i ((wipeD σ [i]).set i (some (qs.map D.int)[k])) S1 = .ok (qs.map D.int)[k] S1 := eVar_ev (by
    rw [List.getElem?_set_self]
    unfold wipeD wipeD
    simpa using hi)
  rw [eUn_ev, hv, bind_ok']
  simp [oNeg]
theorem c11 {n : Nat} {S : Store} {d o : D} {ps qs : List Int} (h1 : Sz S d ps) (h2 : Ot S o qs) (hl : ps.length < 75) (hm : qs.length < 75) :
    ∃ S', run (n + 3) 11 [d, o] S = .ok (.ref S.size) S' ∧ Ext S S' ∧ Sz S' (.ref S.size) (trim (trim (padd ps (qs.map fun q => -q)))) := by
  have hlen : (trim (padd ps (qs.map fun q => -q))).length ≤ max ps.length qs.length := by
    unfold trim
    rw [List.length_take]
    simp [padd]
    omega
  obtain ⟨S', e, x, z, _⟩ := make (n := n) (S := S) (TI.of (trim (padd ps (qs.map fun q => -q)))) (by omega)
  refine ⟨S', ?_, x, z⟩
  have hn := negs (call := run (n + 2)) (m := eFn (run (n + 2) 5) (aList [eVar 1])) (σ := [some d, some o, none]) (S := S) (S1 := S) (qs := qs) (i := 2) (by simp only [eFn_ev, aList_cons, aList_nil, eVar_0, eVar_s, bind_ok', c5 h2]) (by simp) (by omega)
  rw [run_11]
  unfold m_11
  simp only [sRet_ev, eFn_ev, aList_cons, aList_nil, eVar_0, eVar_s, bind_ok', eUn_ev, attr_own h1, hn, tupleF_lv]
  rw [show (D.tup ((qs.map fun q => -q).map D.int)) = tupI (qs.map fun q => -q) from rfl, c2 (TI.of ps).seq (TI.of (qs.map fun q => -q)).seq (show ps.length < 150 by omega) (by simp; omega)]
  simp only [bind_ok', e, fin_rt]
theorem c13 {n : Nat} {S : Store} {d : D} {ps : List Int} (h1 : Sz S d ps) (hl : ps.length < 75) : ∃ S', run (n + 3) 13 [d] S = .ok (.ref S.size) S' ∧ Ext S S' ∧ Sz S' (.ref S.size) (trim (ps.map fun q => -q)) := by
  obtain ⟨S', e, x, z, _⟩ := make (n := n) (S := S) (TI.of (ps.map fun q => -q)) (by simp; omega)
  refine ⟨S', ?_, x, z⟩
  have hn := negs (call := run (n + 2)) (m := eUn (attrF (at_own_parts (run (n + 2))) 0) (eVar 0)) (σ := [some d, none]) (S := S) (S1 := S) (qs := ps) (i := 1) (by simp only [eUn_ev, eVar_0, bind_ok', attr_own h1]) (by simp) (by omega)
  rw [run_13]
  unfold m_13
  simp only [sRet_ev, eFn_ev, aList_cons, aList_nil, hn, bind_ok', tupleF_lv]
  rw [show (D.tup ((ps.map fun q => -q).map D.int)) = tupI (ps.map fun q => -q) from rfl]
  simp only [e, fin_rt]
theorem trim_sm {a : Nat} {ps : List Int} (h : ∀ p ∈ ps, Sm a p) : ∀ p ∈ trim ps, Sm a p := fun p hp => h p (List.mem_of_mem_take hp)
theorem c12 {n a b : Nat} {S : Store} {d o : D} {ps qs : List Int} (h1 : Sz S d ps) (h2 : Ot S o qs) (hl : ps.length < 75) (hm : qs.length < 75) (hp : ∀ p ∈ ps, Sm a p) (hq : ∀ q ∈ qs, Sm b q) (hab : a + b < 1000000) :
    ∃ S', run (n + 3) 12 [d, o] S = .ok (.ref (S.size + 1)) S' ∧ Ext S S' ∧ Sz S' (.ref (S.size + 1)) (trim (trim (pmul ps qs))) := by
  obtain ⟨xs, et⟩ := c3 (n := n) (S := S) (TI.of ps) (TI.of qs) hl hm hp hq hab
  have hlen : (trim (pmul ps qs)).length ≤ ps.length + qs.length := by
    unfold trim
    rw [List.length_take]
    simp [pmul]
    omega
  obtain ⟨S', e, x, z, _⟩ := make (n := n) (S := S.push (.lst xs)) (TI.of (trim (pmul ps qs))) (by omega)
  rw [Store.size_push] at e z
  refine ⟨S', ?_, Ext.push.trans x, z⟩
  rw [run_12]
  unfold m_12
  simp only [sRet_ev, eFn_ev, aList_cons, aList_nil, eVar_0, eVar_s, bind_ok', eUn_ev, attr_own h1, c5 h2, et, e, fin_rt]
theorem c9 {n a b : Nat} {S : Store} {d : D} {x : Int} {ps : List Int} (h : Sz S d ps) (hp : ∀ p ∈ ps, Sm a p) (hx : Sm b x) (hb : a + ps.length * (b + 1) + b < 1000000) (hl : ps.length < 150) : run (n + 2) 9 [d, .int x] S = .ok (.int (horner x ps)) S := by
  rw [run_9]
  unfold m_9
  simp only [sRet_ev, eFn_ev, aList_cons, aList_nil, eVar_0, eVar_s, bind_ok', eUn_ev, attr_own h, c4 hp hx hb hl, fin_rt]
theorem c8 {n : Nat} {S : Store} {d : D} {ps : List Int} (h : Sz S d ps) : run (n + 1) 8 [d] S = .ok (.int (if (0 : Int) > (ps.length : Int) - 1 then 0 else (ps.length : Int) - 1)) S := by
  rw [run_8]
  unfold m_8
  simp only [sRet_ev, eFn_ev, aList_cons, aList_nil, eVar_0, eVar_s, bind_ok', eUn_ev, eBin_ev, eC_ev, attr_own h, lenF_seq (TI.of ps).seq, List.length_map, oSub, subF_ev, max2F_ev, fin_rt]
theorem c14 {n : Nat} {S : Store} {d e : D} {ps qs : List Int} (h : Sz S d ps) (h2 : Sz S e qs) : run (n + 1) 14 [d, e] S = .ok (.bl (decide (ps = qs))) S := by
  rw [run_14]
  unfold m_14
  simp only [sRet_ev, eAnd_ev, tOf_ev, eFn_ev, aList_cons, aList_nil, eVar_0, eVar_s, eC_ev, bind_ok', isi_sz h2, if_true, eBin_ev, eUn_ev, attr_own h, attr_own h2, oEq, eqF_tup (TI.of ps) (TI.of qs), fin_rt]
end L2.Mi.Pg

set_option Elab.async false
set_option linter.all false
set_option maxRecDepth 100000
set_option maxHeartbeats 1000000
/-! k40: the algebra of coefficients. -/
namespace L2.Mi.Pg
open PySem
/-- the first N terms -/
def evN (x : Int) (f : Nat → Int) : Nat → Int
  | 0 => 0
  | n + 1 => evN x f n + f n * x ^ n
theorem evN_add (x : Int) (f g : Nat → Int) : ∀ n, evN x (fun k => f k + g k) n = evN x f n + evN x g n
  | 0 => by simp [evN]
  | n + 1 => by
    simp only [evN, evN_add x f g n, Int.add_mul]
    omega
theorem evN_mul (x c : Int) (f : Nat → Int) : ∀ n, evN x (fun k => c * f k) n = c * evN x f n
  | 0 => by simp [evN]
  | n + 1 => by
    simp only [evN, evN_mul x c f n, Int.mul_add, Int.mul_assoc]
theorem evN_shift (x : Int) (f : Nat → Int) (h0 : f 0 = 0) : ∀ n, evN x f (n + 1) = x * evN x (fun k => f (k + 1)) n
  | 0 => by simp [evN, h0]
  | n + 1 => by
    have e := evN_shift x f h0 n
    rw [evN, e]
    simp only [evN, Int.mul_add, Int.pow_succ]
    congr 1
    rw [← Int.mul_assoc]
    exact Int.mul_comm _ _
theorem evN_cong {x : Int} {f g : Nat → Int} : ∀ {n : Nat}, (∀ k, k < n → f k = g k) → evN x f n = evN x g n
  | 0, _ => rfl
  | n + 1, h => by
    simp only [evN]
    rw [evN_cong (n := n) fun k hk => h k (by omega), h n (by omega)]
theorem evN_zero {x : Int} {f : Nat → Int} (m : Nat) : ∀ n, (∀ k, m ≤ k → f k = 0) → evN x f (m + n) = evN x f m
  | 0, _ => rfl
  | n + 1, h => by
    show evN x f (m + n) + f (m + n) * x ^ (m + n) = _
    rw [h (m + n) (by omega), evN_zero m n h]
    simp
/-- the coefficient of a place -/
def cf (ps : List Int) (k : Nat) : Int := ps[k]?.getD 0
theorem pat_cf (ps : List Int) (k : Nat) : pat ps (k : Int) = cf ps k := by
  unfold pat cf
  by_cases h : k < ps.length
  · simp [h]
  · simp [h]
theorem pat_neg (ps : List Int) {k : Int} (h : k < 0) : pat ps k = 0 := by
  unfold pat
  rw [if_neg (by omega)]
theorem horner_ev (x : Int) : ∀ (ps : List Int), horner x ps = evN x (cf ps) ps.length
  | [] => rfl
  | p :: ps => by
    rw [horner_cons, horner_ev x ps]
    have e1 : evN x (cf (p :: ps)) (ps.length + 1) = evN x (fun k => (if k = 0 then p else 0) + (if k = 0 then 0 else cf (p :: ps) k)) (ps.length + 1) := evN_cong fun k hk => by
      by_cases h : k = 0
      · subst h; simp [cf]
      · simp [h]
    rw [List.length_cons, e1, evN_add, evN_shift x (fun k => if k = 0 then 0 else cf (p :: ps) k) (by simp)]
    have e2 : evN x (fun k => if k = 0 then p else 0) (ps.length + 1) = p := by
      rw [show ps.length + 1 = 1 + ps.length by omega, evN_zero 1 ps.length fun k hk => by rw [if_neg (by omega)]]
      simp [evN]
    rw [e2]
    have e3 : evN x (fun k => (fun k => if k = 0 then 0 else cf (p :: ps) k) (k + 1)) ps.length = evN x (cf ps) ps.length := evN_cong fun k hk => by simp [cf]
    rw [e3, Int.mul_comm x, Int.add_comm]
theorem horner_big {x : Int} {ps : List Int} {n : Nat} (h : ps.length ≤ n) : horner x ps = evN x (cf ps) n := by
  rw [horner_ev, show n = ps.length + (n - ps.length) by omega, evN_zero ps.length _ fun k hk => by simp [cf, hk]]
theorem horner_of {x : Int} {f : Nat → Int} {n : Nat} : horner x ((List.range n).map f) = evN x f n := by
  rw [horner_ev]
  simp only [List.length_map, List.length_range]
  exact evN_cong fun k hk => by simp [cf, hk]
theorem horner_add {x : Int} {ps qs : List Int} : horner x (padd ps qs) = horner x ps + horner x qs := by
  unfold padd
  rw [horner_of, horner_big (show ps.length ≤ max ps.length qs.length by omega), horner_big (ps := qs) (show qs.length ≤ max ps.length qs.length by omega), ← evN_add]
  exact evN_cong fun k hk => by rw [pat_cf, pat_cf]
theorem horner_neg {x : Int} : ∀ {ps : List Int}, horner x (ps.map fun q => -q) = - horner x ps
  | [] => rfl
  | p :: ps => by
    rw [List.map_cons, horner_cons, horner_cons, horner_neg, Int.neg_mul]
    omega
theorem trim_horner_aux {x : Int} {ps : List Int} : ∀ k, k ≤ ps.length → horner x (ps.take (trimN ps k)) = horner x (ps.take k)
  | 0, _ => rfl
  | k + 1, h => by
    unfold trimN
    split
    · rename_i hz
      rw [trim_horner_aux k (by omega)]
      have hk : k < ps.length := by omega
      have e : ps[k] = 0 := by simpa [hk] using hz
      rw [List.take_succ_eq_append_getElem hk, e, horner_big (n := k + 1) (ps := ps.take k ++ [0]) (by simp; omega), horner_big (n := k + 1) (ps := ps.take k) (by simp; omega)]
      refine evN_cong fun j hj => ?_
      unfold cf
      by_cases hjk : j < (ps.take k).length
      · rw [List.getElem?_append_left hjk]
      · rw [List.getElem?_append_right (by omega), List.getElem?_eq_none (by omega)]
        have : j - (ps.take k).length = 0 := by simp at hjk ⊢; omega
        rw [this]
        rfl
    · rfl
theorem horner_trim {x : Int} {ps : List Int} : horner x (trim ps) = horner x ps := by
  unfold trim
  rw [trim_horner_aux ps.length (Nat.le_refl _), List.take_length]
/-! products -/
def mulI : List Int → List Int → Int → Int
  | [], _, _ => 0
  | p :: ps, qs, k => p * pat qs k + mulI ps qs (k - 1)
theorem mulI_neg {qs : List Int} : ∀ {ps : List Int} {k : Int}, k < 0 → mulI ps qs k = 0
  | [], _, _ => rfl
  | p :: ps, k, h => by
    unfold mulI
    rw [pat_neg qs h, mulI_neg (ps := ps) (k := k - 1) (by omega)]
    simp
theorem range_sum_succ (f : Nat → Int) (n : Nat) : ((List.range (n + 1)).map f).sum = f 0 + ((List.range n).map fun j => f (j + 1)).sum := by
  rw [List.range_succ_eq_map]
  simp [Function.comp_def]
theorem pmulAt_mulI {qs : List Int} : ∀ {ps : List Int} {k : Int}, ((List.range ps.length).map fun (j : Nat) => (ps[j]?.getD 0) * pat qs (k - (j : Int))).sum = mulI ps qs k
  | [], _ => rfl
  | p :: ps, k => by
    rw [List.length_cons, range_sum_succ]
    unfold mulI
    congr 1
    · simp
    · rw [← pmulAt_mulI (ps := ps) (k := k - 1)]
      congr 1
      refine List.map_congr_left fun j _ => ?_
      simp only [List.getElem?_cons_succ]
      congr 2
      omega
theorem ev_mulI {x : Int} {qs : List Int} : ∀ {ps : List Int} {n : Nat}, ps.length + qs.length ≤ n → evN x (fun k => mulI ps qs (k : Int)) n = horner x ps * horner x qs
  | [], n, _ => by
    rw [show horner x [] = 0 from rfl, Int.zero_mul]
    have := evN_zero (x := x) (f := fun k => mulI [] qs (k : Int)) 0 n fun k _ => rfl
    simpa [evN] using this
  | p :: ps, 0, h => by simp at h
  | p :: ps, n + 1, h => by
    rw [List.length_cons] at h
    have e1 : evN x (fun k => mulI (p :: ps) qs (k : Int)) (n + 1) = evN x (fun k => p * cf qs k + mulI ps qs ((k : Int) - 1)) (n + 1) := evN_cong fun k _ => by
      show p * pat qs k + _ = _
      rw [pat_cf]
    rw [e1, evN_add, evN_mul, ← horner_big (ps := qs) (by omega), evN_shift x (fun k => mulI ps qs ((k : Int) - 1)) (mulI_neg (by omega))]
    have e2 : evN x (fun k => (fun (k : Nat) => mulI ps qs ((k : Int) - 1)) (k + 1)) n = evN x (fun k => mulI ps qs (k : Int)) n := evN_cong fun k _ => by
      show mulI ps qs (((k + 1 : Nat) : Int) - 1) = _
      congr 1
      omega
    rw [e2, ev_mulI (ps := ps) (by omega), horner_cons, Int.add_mul, Int.add_comm, Int.mul_right_comm]
    congr 1
    rw [Int.mul_comm x, Int.mul_assoc]
theorem horner_mul {x : Int} {ps qs : List Int} : horner x (pmul ps qs) = horner x ps * horner x qs := by
  unfold pmul
  rw [horner_of, ← ev_mulI (ps := ps) (qs := qs) (Nat.le_refl _)]
  exact evN_cong fun k _ => pmulAt_mulI
/-! trimmed lists -/
/-- no nought at the end -/
def Trd (ps : List Int) : Prop := ∀ k, ps.length = k + 1 → ps[k]? ≠ some 0
theorem trimN_trd (ps : List Int) : ∀ k j, trimN ps k = j + 1 → ps[j]? ≠ some 0
  | 0, j, h => by cases h
  | k + 1, j, h => by
    unfold trimN at h
    split at h
    · exact trimN_trd ps k j h
    · rename_i hz
      have : j = k := by omega
      rw [this]
      exact hz
theorem trim_len (ps : List Int) : (trim ps).length = trimN ps ps.length := by
  have := trimN_le ps ps.length
  unfold trim
  rw [List.length_take]
  omega
theorem trim_trd (ps : List Int) : Trd (trim ps) := fun k h => by
  rw [trim_len] at h
  have z := trimN_trd ps ps.length k h
  unfold trim
  rwa [List.getElem?_take_of_lt (by omega)]
theorem trim_of_trd {ps : List Int} (h : Trd ps) : trim ps = ps := by
  unfold trim
  cases q : ps.length with
  | zero => rw [show trimN ps 0 = 0 from rfl, List.take_zero]; exact (List.eq_nil_of_length_eq_zero q).symm
  | succ k =>
    have e : trimN ps (k + 1) = k + 1 := by
      unfold trimN
      rw [if_neg (h k q)]
    rw [e, List.take_of_length_le (by omega)]
theorem trim_trim (ps : List Int) : trim (trim ps) = trim ps := trim_of_trd (trim_trd ps)
theorem trimN_append {ps qs : List Int} : ∀ k, k ≤ ps.length → trimN (ps ++ qs) k = trimN ps k
  | 0, _ => rfl
  | k + 1, h => by
    unfold trimN
    rw [List.getElem?_append_left (by omega), trimN_append k (by omega)]
theorem trim_snoc (ps : List Int) : trim (ps ++ [0]) = trim ps := by
  unfold trim
  have e : trimN (ps ++ [0]) (ps ++ [0]).length = trimN ps ps.length := by
    rw [List.length_append, List.length_singleton]
    show (if (ps ++ [0])[ps.length]? = some 0 then trimN (ps ++ [0]) ps.length else ps.length + 1) = _
    rw [if_pos (by simp), trimN_append _ (Nat.le_refl _)]
  rw [e, List.take_append_of_le_length (trimN_le ps ps.length)]
end L2.Mi.Pg

set_option Elab.async false
set_option linter.all false
set_option maxRecDepth 100000
set_option maxHeartbeats 1000000
/-! k40: the law's own helpers. -/
namespace L2.Mi.Pg
open PySem
theorem dat_list {S : Store} {i : Nat} {ps : List Int} (h : S.get i = some (.lst (ps.map D.int))) {n : Nat} : dat (n + 1) S (.ref i) = some (.list (ps.map PyData.int)) := by
  simp [dat, listAt_ref h, dat_ints]
theorem shaped_list (ps : List Int) : SeqAt.shaped (.list (ps.map PyData.int)) = true := by
  have := depth_ints ps
  simp [SeqAt.shaped, PyData.canLay0, lay_ints, PyData.depth]
  omega
theorem ne_nil {own : D → D → Store → Res D} {S : Store} {i : Nat} {ps : List Int} (h : S.get i = some (.lst (ps.map D.int))) : neF own (.ref i) (.lv []) S = .ok (.bl (!decide (ps = []))) S := by
  have e2 : dat 64 S (.lv []) = some (.list (([] : List Int).map PyData.int)) := by simp [dat, mapO]
  unfold neF
  rw [dat_list h (n := 63), e2]
  simp only [shaped_list, Bool.and_self, if_true, PyData.eqv, eqv_ints]
theorem c19 {n : Nat} {S : Store} {d : D} {ps : List Int} (h : TI d ps) (hl : ps.length < 150) : ∃ xs, run (n + 1) 19 [d] S = .ok (tupI (trim ps)) (S.push (.lst xs)) := by
  have hw := while_inv (t := tAnd (tOf (eBin (oNe (run n)) (eVar 1) (eLv []))) (tOf (eBin (oEq (run n)) (eBin itemF (eVar 1) (eUn (oNeg (run n)) (eC (.int 1)))) (eC (.int 0))))) (b := sDrop (eBm isLst popF (eVar 1) (aList [])))
    (fun k σ S' => k ≤ ps.length ∧ S' = S.push (.lst ((ps.take k).map D.int)) ∧ σ = [some d, some (.ref S.size)] ∧ trimN ps k = trimN ps ps.length)
    (fun σ S' => S' = S.push (.lst ((trim ps).map D.int)) ∧ σ = [some d, some (.ref S.size)]) (fun k σ S' j => by
      obtain ⟨hk, rfl, rfl, ht⟩ := j
      have hg : (S.push (.lst ((ps.take k).map D.int))).get S.size = some (.lst ((ps.take k).map D.int)) := Store.get_push_same
      cases k with
      | zero =>
        left
        refine ⟨S.push (.lst ((ps.take 0).map D.int)), ?_, ?_, rfl⟩
        · simp only [tAnd_ev, tOf_ev, eBin_ev, eVar_s, eVar_0, eLv_ev, aList_nil, bind_ok', oNe, ne_nil hg]
          rfl
        · unfold trim
          rw [← ht]
          rfl
      | succ k =>
        have hk' : k < ps.length := by omega
        have etk : ps.take (k + 1) = ps.take k ++ [ps[k]] := List.take_succ_eq_append_getElem hk'
        have hit : itemF (.ref S.size) (.int (-1)) (S.push (.lst ((ps.take (k + 1)).map D.int))) = .ok (.int ps[k]) (S.push (.lst ((ps.take (k + 1)).map D.int))) := by
          refine itemF_seq (seqAt_list (listAt_ref hg)) ?_
          rw [etk, List.map_append]
          exact atI_last
        have ht' : tAnd (tOf (eBin (oNe (run n)) (eVar 1) (eLv []))) (tOf (eBin (oEq (run n)) (eBin itemF (eVar 1) (eUn (oNeg (run n)) (eC (.int 1)))) (eC (.int 0)))) [some d, some (.ref S.size)] (S.push (.lst ((ps.take (k + 1)).map D.int))) = .ok (decide (ps[k] = 0)) (S.push (.lst ((ps.take (k + 1)).map D.int))) := by
          have hne : ps.take (k + 1) ≠ [] := fun e => by
            have z := congrArg List.length e
            rw [List.length_take, List.length_nil] at z
            omega
          have e0 : (!decide (ps.take (k + 1) = [])) = true := by rw [decide_eq_false hne]; rfl
          simp only [tAnd_ev, tOf_ev, eBin_ev, eVar_s, eVar_0, eLv_ev, aList_nil, bind_ok', oNe, ne_nil hg, e0, if_true, eUn_ev, eC_ev, oNeg, negF_ev, hit, oEq, eqF_int]
          rfl
        by_cases hz : ps[k] = 0
        · right
          refine ⟨S.push (.lst ((ps.take (k + 1)).map D.int)), [some d, some (.ref S.size)], S.push (.lst ((ps.take k).map D.int)), k, by omega, by rw [ht', hz]; rfl, .inl ?_, by omega, rfl, rfl, ?_⟩
          · have hi : isLst (.ref S.size) (S.push (.lst ((ps.take (k + 1)).map D.int))) = true := by unfold isLst; rw [listAt_ref hg]; rfl
            rw [sDrop_ev]
            unfold eBm
            simp only [eVar_s, eVar_0, bind_ok', hi, if_true, aList_nil]
            unfold popF
            simp only [hg]
            have el : (List.map D.int (ps.take (k + 1)))[(List.map D.int (ps.take (k + 1))).length - 1]? = some (.int ps[k]) := by
              have : (List.map D.int (ps.take (k + 1))).length - 1 = k := by simp; omega
              rw [this, List.getElem?_map, List.getElem?_take_of_lt (by omega), List.getElem?_eq_getElem hk']
              rfl
            simp only [el, Store.push_set]
            rw [show (List.map D.int (ps.take (k + 1))).dropLast = List.map D.int (ps.take k) by rw [etk, List.map_append]; exact List.dropLast_concat]
          · rw [← ht]
            show _ = if ps[k]? = some 0 then trimN ps k else k + 1
            rw [if_pos (by simp [hk', hz])]
        · left
          refine ⟨S.push (.lst ((ps.take (k + 1)).map D.int)), by rw [ht', decide_eq_false hz], ?_, rfl⟩
          have : trimN ps (k + 1) = k + 1 := by
            show (if ps[k]? = some 0 then trimN ps k else k + 1) = _
            rw [if_neg (by simp [hk', hz])]
          unfold trim
          rw [← ht, this])
    200 ps.length [some d, some (.ref S.size)] (S.push (.lst (ps.map D.int))) (by omega) ⟨Nat.le_refl _, by rw [List.take_length], rfl, rfl⟩
  obtain ⟨σ', S', e1, rfl, rfl⟩ := hw
  refine ⟨(trim ps).map D.int, ?_⟩
  rw [run_19]
  unfold m_19
  simp only [sSeq_ev, sAsg_ev, eFn_ev, aList_cons, aList_nil, eVar_0, bind_ok', listF_seq h.seq, gName_ev, List.set_cons_succ, List.set_cons_zero, e1, sRet_ev, eVar_s]
  rw [tupleF_list (listAt_ref Store.get_push_same)]
  rfl
end L2.Mi.Pg

set_option Elab.async false
set_option linter.all false
set_option maxRecDepth 100000
set_option maxHeartbeats 1000000
/-! k40: the draws. -/
namespace L2.Mi.Pg
open PySem
/-- the pool at i alone may have changed -/
def Chg (i : Nat) (S S' : Store) : Prop := S'.size = S.size ∧ ∀ j, j ≠ i → S'.get j = S.get j
theorem Chg.refl {i : Nat} {S : Store} : Chg i S S := ⟨rfl, fun _ _ => rfl⟩
theorem Chg.trans {i : Nat} {a b c : Store} (h : Chg i a b) (k : Chg i b c) : Chg i a c := ⟨k.1.trans h.1, fun j hj => (k.2 j hj).trans (h.2 j hj)⟩
theorem Chg.set {i : Nat} {S : Store} {o : Ob} : Chg i S (S.set i o) := ⟨Store.size_set _ _ _, fun j hj => Store.get_set_ne (Ne.symm hj)⟩
theorem c16 {n : Nat} {S : Store} {i : Nat} {w : Int} (hp : Pool S i) (w0 : 0 < w) (w1 : w < 2 ^ 31) : ∃ r S', run (n + 1) 16 [.ref i, .int w] S = .ok (.int r) S' ∧ 0 ≤ r ∧ r < w ∧ Pool S' i ∧ Chg i S S' := by
  obtain ⟨r, o, e, h1, h2, h3⟩ := take_ok (oA := oAdd (run n)) (oM := oMul (run n)) opsI_of hp w0 w1
  exact ⟨r, _, by rw [run_16]; exact e, h1, h2, h3, Chg.set⟩
theorem c15 {n : Nat} {S : Store} {ns : List Int} {k : Nat} (hk : k < 1000) (hl : ns.length ≤ 1000) : ∃ o, run (n + 1) 15 [.fl (ns.map D.int), .int (k : Int)] S = .ok (.ref S.size) (S.push o) ∧ Pool (S.push o) S.size := by
  obtain ⟨o, e, h⟩ := pool_ok (oA := oAdd (run n)) (oM := oMul (run n)) (S := S) (ns := ns) opsI_of hk hl
  exact ⟨o, by rw [run_15]; exact e, h⟩
def menu : List Int := [0, 0, 1, -1, 2, 7, -30, 10 ^ 30]
theorem menu_sm : ∀ p ∈ menu, Sm 100 p := by
  unfold menu Sm
  decide
theorem menu_at {r : Int} (h0 : 0 ≤ r) (h1 : r < 8) : ∃ p, menu[r.toNat]? = some p ∧ p ∈ menu := by
  have hl : r.toNat < menu.length := by
    have : menu.length = 8 := rfl
    omega
  exact ⟨menu[r.toNat], List.getElem?_eq_getElem hl, List.getElem_mem hl⟩
theorem c18 {n : Nat} {S : Store} {i : Nat} (hp : Pool S i) : ∃ ps S', run (n + 2) 18 [.ref i] S = .ok (tupI ps) S' ∧ Pool S' i ∧ Chg i S S' ∧ ps.length ≤ 4 ∧ ∀ p ∈ ps, Sm 100 p := by
  obtain ⟨m, S1, e1, m0, m1, hp1, hc1⟩ := c16 (n := n) (w := 5) hp (by omega) (by omega)
  have pw : powOk 10 30 = true := by decide
  have hmenu : eLv [eC (.int 0), eC (.int 0), eC (.int 1), eUn (oNeg (run (n + 1))) (eC (.int 1)), eC (.int 2), eC (.int 7), eUn (oNeg (run (n + 1))) (eC (.int 30)), eBin powI (eC (.int 10)) (eC (.int 30))] [some (.ref i), none, none] S = .ok (.lv (menu.map D.int)) S := by
    simp only [eLv_ev, aList_cons, aList_nil, eC_ev, eUn_ev, eBin_ev, bind_ok', oNeg, negF_ev, powI_ev pw]
    rfl
  have hM : m = ((m.toNat : Nat) : Int) := by omega
  obtain ⟨acc, S2, e2, hl2, ps, rfl, hps, hp2, hc2⟩ := lc_inv (src := fun k _ => some (if k < m.toNat then some (D.int (0 + (k : Int))) else none)) (t := .one 2) (mt := tYesM) (me := eBin itemF (eVar 1) (eFn (run (n + 1) 16) (aList [eVar 0, eC (.int 8)])))
    (σ := [some (.ref i), some (.lv (menu.map D.int)), none])
    (fun k acc S' => acc.length = k ∧ ∃ ps : List Int, acc = ps.map D.int ∧ (∀ p ∈ ps, Sm 100 p) ∧ Pool S' i ∧ Chg i S S') m.toNat (fun k acc S' h => h.1)
    (fun k acc S' hk j => by
      obtain ⟨hl, ps, rfl, hps, hp', hc'⟩ := j
      obtain ⟨r, S3, e3, r0, r1, hp3, hc3⟩ := c16 (n := n) (w := 8) hp' (by omega) (by omega)
      obtain ⟨p, hm1, hm2⟩ := menu_at r0 r1
      have hat : L2.atI (menu.map D.int) r = some (D.int p) := by
        have z := atI_nat (xs := menu.map D.int) (k := r.toNat) (x := D.int p) (by rw [List.getElem?_map, hm1]; rfl)
        rwa [Int.toNat_of_nonneg r0] at z
      refine ⟨.int (0 + (k : Int)), [some (.ref i), some (.lv (menu.map D.int)), some (.int (0 + (k : Int)))], S', .int p, S3, by simp only [hk, if_true], rfl, rfl, ?_, by simp [← hl], ps ++ [p], by simp, fun q hq => ?_, hp3, hc'.trans hc3⟩
      · simp only [eBin_ev, eVar_s, eVar_0, bind_ok', eFn_ev, aList_cons, aList_nil, eC_ev, e3]
        exact itemF_seq (xs := menu.map D.int) rfl hat
      · rcases List.mem_append.mp hq with h | h
        · exact hps q h
        · rw [List.mem_singleton.mp h]; exact menu_sm p hm2)
    (fun acc S' j => by simp) (by unfold lim; omega) 200 0 [] S1 (by omega) (by omega) ⟨rfl, [], rfl, fun _ h => (List.not_mem_nil h).elim, hp1, hc1⟩
  refine ⟨ps, S2, ?_, hp2, hc2, ?_, hps⟩
  · rw [run_18]
    unfold m_18
    have hlc : eLcV (iRange1 (eFn (run (n + 1) 16) (aList [eVar 0, eC (.int 5)]))) (.one 2) tYesM (eBin itemF (eVar 1) (eFn (run (n + 1) 16) (aList [eVar 0, eC (.int 8)]))) [2] 200 [some (.ref i), some (.lv (menu.map D.int)), none] S = .ok (.lv (ps.map D.int)) S2 := by
      have hi : iRange1 (eFn (run (n + 1) 16) (aList [eVar 0, eC (.int 5)])) [some (.ref i), some (.lv (menu.map D.int)), none] S = .ok (fun k _ => some (if k < m.toNat then some (D.int (0 + (k : Int))) else none)) S1 := by
        unfold iRange1
        simp only [eFn_ev, aList_cons, aList_nil, eVar_0, eC_ev, bind_ok', e1]
        rw [if_pos (by rw [hM]; exact i62_nat (by omega))]
      unfold eLcV
      rw [hi, bind_ok', show wipeD [some (.ref i), some (.lv (menu.map D.int)), none] [2] = [some (.ref i), some (.lv (menu.map D.int)), none] from rfl, e2, bind_ok']
    simp only [sSeq_ev, sAsg_ev, hmenu, gName_ev, List.set_cons_succ, List.set_cons_zero, sRet_ev, eFn_ev, aList_cons, aList_nil, hlc, bind_ok', tupleF_lv, fin_rt]
    rfl
  · rw [List.length_map] at hl2
    omega
end L2.Mi.Pg

set_option Elab.async false
set_option linter.all false
set_option maxRecDepth 100000
set_option maxHeartbeats 1000000
/-! k40: a size at a size. -/
namespace L2.Mi.Pg
open PySem
section
variable {call : Nat → FN} {S : Store} {d o : D} {ps qs : List Int}
theorem own_go {ds : Disp} {g : FN} (hd : ds 0 = some g) (h1 : Sz S d ps) (h2 : Ot S o qs) : ownB ds d o S = g [d, o] S := by
  obtain ⟨i, rfl, hi⟩ := h1
  unfold ownB
  simp only [hi, hd]
  rcases h2 with ⟨k, rfl, _⟩ | ⟨j, rfl, hj⟩
  · rfl
  · simp only [hj, if_true]
theorem own_mul (h1 : Sz S d ps) (h2 : Ot S o qs) : oMul call d o S = call 12 [d, o] S := by
  rw [← own_go (ds := dMul call) (g := call 12) rfl h1 h2]
  obtain ⟨i, rfl, hi⟩ := h1
  rfl
theorem own_add (h1 : Sz S d ps) (h2 : Ot S o qs) : oAdd call d o S = call 10 [d, o] S := by
  rw [← own_go (ds := dAdd call) (g := call 10) rfl h1 h2]
  obtain ⟨i, rfl, hi⟩ := h1
  rfl
theorem own_sub (h1 : Sz S d ps) (h2 : Ot S o qs) : oSub call d o S = call 11 [d, o] S := by
  rw [← own_go (ds := dSub call) (g := call 11) rfl h1 h2]
  obtain ⟨i, rfl, hi⟩ := h1
  rfl
theorem own_neg (h1 : Sz S d ps) : oNeg call d S = call 13 [d] S := by
  obtain ⟨i, rfl, hi⟩ := h1
  unfold oNeg negF
  simp only [hi]
  rfl
end
/-! how large coefficients get -/
theorem sum_sm {c : Nat} : ∀ {l : List Int}, (∀ x ∈ l, Sm c x) → Sm (c + l.length) l.sum
  | [], _ => Sm.zero
  | x :: l, h => by
    rw [List.sum_cons, List.length_cons]
    have z := sum_sm (c := c) (l := l) fun y hy => h y (List.mem_cons_of_mem _ hy)
    have y := (h x (List.mem_cons_self ..)).mono (b := c + l.length) (by omega)
    exact y.add z
theorem pmul_sm {a b : Nat} {ps qs : List Int} (hp : ∀ p ∈ ps, Sm a p) (hq : ∀ q ∈ qs, Sm b q) : ∀ p ∈ pmul ps qs, Sm (a + b + ps.length) p := by
  intro p h
  unfold pmul at h
  obtain ⟨k, _, rfl⟩ := List.mem_map.mp h
  unfold pmulAt
  have z := sum_sm (c := a + b) (l := (List.range ps.length).map fun (j : Nat) => (ps[j]?.getD 0) * pat qs ((k : Int) - (j : Int))) fun x hx => by
    obtain ⟨j, hj, rfl⟩ := List.mem_map.mp hx
    have hj' : j < ps.length := List.mem_range.mp hj
    rw [List.getElem?_eq_getElem hj']
    exact (hp _ (List.getElem_mem hj')).mul (pat_sm hq _)
  rwa [List.length_map, List.length_range] at z
theorem padd_sm {a : Nat} {ps qs : List Int} (hp : ∀ p ∈ ps, Sm a p) (hq : ∀ q ∈ qs, Sm a q) : ∀ p ∈ padd ps qs, Sm (a + 1) p := by
  intro p h
  unfold padd at h
  obtain ⟨k, _, rfl⟩ := List.mem_map.mp h
  exact (pat_sm hp _).add (pat_sm hq _)
theorem trim_le (ps : List Int) : (trim ps).length ≤ ps.length := by rw [trim_len]; exact trimN_le ps ps.length
theorem one_sm {k : Int} {a : Nat} (h : Sm a k) : ∀ p ∈ trim [k], Sm a p := trim_sm fun p hp => by rw [List.mem_singleton.mp hp]; exact h
theorem src_ti {a : ME} {σ : En} {S0 S1 : Store} {ps : List Int} (ha : a σ S0 = .ok (tupI ps) S1) : iSeq a σ S0 = .ok (fun k _ => some (ps.map D.int)[k]?) S1 := by
  unfold iSeq
  rw [ha]
  rfl
/-- a size at a size -/
theorem c4S {n : Nat} {S : Store} {o : D} {ps qs : List Int} (ho : Sz S o qs) (hl : ps.length ≤ 4) (hm : qs.length ≤ 4) (hp : ∀ p ∈ ps, Sm 100 p) (hq : ∀ q ∈ qs, Sm 100 q) :
    ∃ r S' rs, run (n + 4) 4 [tupI ps, o] S = .ok r S' ∧ Ext S S' ∧ Sz S' r rs ∧ (∀ x, horner x rs = horner (horner x qs) ps) ∧ rs.length ≤ 25 ∧ ∀ p ∈ rs, Sm 1000 p := by
  obtain ⟨S1, e1, x1, z1⟩ := c12 (n := n) (o := .int 0) ho (.inl ⟨0, rfl, rfl⟩) (by omega) (by have := trim_le [0]; simp at this; omega) hq (one_sm (a := 0) Sm.zero) (by omega)
  have r0 : trim (trim (pmul qs (trim [0]))) = trim (pmul qs (trim [0])) := trim_trim _
  rw [r0] at z1
  have hr : (eUn revF (eVar 0)) [some (tupI ps), some o, some (.ref (S.size + 1)), none] S1 = .ok (tupI ps.reverse) S1 := by
    simp only [eUn_ev, eVar_0, bind_ok', revF_ti]
  obtain ⟨σ', S', e3, ⟨r, rs, o3, rfl, x3, z3, v3, l3, b3⟩⟩ := for_inv (src := fun k _ => some (ps.reverse.map D.int)[k]?) (g := gName 3) (b := sSet 2 (eBin (oAdd (run (n + 3))) (eBin (oMul (run (n + 3))) (eVar 2) (eVar 1)) (eVar 3)))
    (fun k σ S' => ∃ r rs o3, σ = [some (tupI ps), some o, some r, o3] ∧ Ext S S' ∧ Sz S' r rs ∧ (∀ x, horner x rs = (ps.reverse.take k).foldl (fun f p => f * horner x qs + p) 0) ∧ rs.length ≤ 5 + 4 * k ∧ ∀ p ∈ rs, Sm (150 + 150 * k) p) ps.length
    (fun k σ S' hk j => by
      obtain ⟨r, rs, o3, rfl, x3, z3, v3, l3, b3⟩ := j
      have hk' : k < ps.reverse.length := by simpa using hk
      have ho' : Sz S' o qs := ho.ext x3
      have hpk : Sm 100 ps.reverse[k] := hp _ (List.mem_reverse.mp (List.getElem_mem hk'))
      obtain ⟨S2, e4, x4, z4⟩ := c12 (n := n) z3 (.inr ho') (by omega) (by omega) b3 hq (by omega)
      rw [trim_trim] at z4
      have lm : (trim (pmul rs qs)).length ≤ rs.length + qs.length := Nat.le_trans (trim_le _) (by simp [pmul])
      have bm : ∀ p ∈ trim (pmul rs qs), Sm (150 + 150 * k + 100 + rs.length) p := trim_sm (pmul_sm b3 hq)
      have l1 : (trim [ps.reverse[k]]).length ≤ 1 := trim_le _
      obtain ⟨S3, e5, x5, z5⟩ := c10 (n := n) z4 (.inl ⟨ps.reverse[k], rfl, rfl⟩) (by omega) (by omega)
      rw [trim_trim] at z5
      refine ⟨.int ps.reverse[k], [some (tupI ps), some o, some r, some (.int ps.reverse[k])], S', [some (tupI ps), some o, some (.ref S2.size), some (.int ps.reverse[k])], S3, ?_, rfl, .inl ?_, ⟨_, _, _, rfl, (x3.trans x4).trans x5, z5, fun x => ?_, ?_, ?_⟩⟩
      · show some (ps.reverse.map D.int)[k]? = _
        rw [get_ints hk']
      · simp only [sAsg_ev, eBin_ev, eVar_s, eVar_0, bind_ok', own_mul z3 (.inr ho'), e4, own_add z4 (.inl ⟨ps.reverse[k], rfl, rfl⟩), e5, gName_ev, List.set_cons_succ, List.set_cons_zero]
      · rw [horner_trim, horner_add, horner_trim, horner_mul, v3 x, horner_trim, List.take_succ_eq_append_getElem hk', List.foldl_append]
        simp [horner]
      · refine Nat.le_trans (trim_le _) ?_
        unfold padd
        rw [List.length_map, List.length_range]
        omega
      · refine trim_sm fun p hpp => (padd_sm (a := 150 + 150 * k + 100 + rs.length) bm (fun q hq' => (one_sm hpk q hq').mono (by omega)) p hpp).mono (by omega))
    (fun σ S' j => by simp) 200 0 [some (tupI ps), some o, some (.ref (S.size + 1)), none] S1 (by omega) (by omega)
    ⟨_, _, _, rfl, x1, z1, fun x => by
      rw [horner_trim, horner_mul, horner_trim]
      simp [horner], by
      refine Nat.le_trans (trim_le _) ?_
      have := trim_le [0]
      simp at this
      simp [pmul]
      omega, trim_sm fun p hpp => (pmul_sm hq (one_sm (a := 0) Sm.zero) p hpp).mono (by omega)⟩
  refine ⟨r, S', rs, ?_, x3, z3, fun x => ?_, by omega, fun p hpp => (b3 p hpp).mono (by omega)⟩
  · rw [run_4]
    unfold m_4
    simp only [sSeq_ev, sAsg_ev, eBin_ev, eVar_s, eVar_0, eC_ev, bind_ok', own_mul ho (.inl ⟨0, rfl, rfl⟩), e1, gName_ev, List.set_cons_succ, List.set_cons_zero]
    unfold sFor
    rw [src_ti hr]
    simp only [e3, sRet_ev, eVar_s, eVar_0, fin_rt]
  · rw [v3 x]
    unfold horner
    rw [List.take_of_length_le (by simp)]
end L2.Mi.Pg

set_option Elab.async false
set_option linter.all false
set_option maxRecDepth 100000
set_option maxHeartbeats 1000000
/-! k40: the seven sums, the law. -/
namespace L2.Mi.Pg
open PySem
/-- a pair of the list: a size, what it is due at x -/
def Due (S : Store) (x : Int) (t : D) : Prop := ∃ r rs, t = .tup [r, .int (horner x rs)] ∧ Sz S r rs ∧ Trd rs ∧ rs.length ≤ 20 ∧ ∀ p ∈ rs, Sm 1000 p
theorem Due.ext {S S' : Store} {x : Int} {t : D} (h : Due S x t) (e : Ext S S') : Due S' x t := by
  obtain ⟨r, rs, rfl, z, t1, l, b⟩ := h
  exact ⟨r, rs, rfl, z.ext e, t1, l, b⟩
theorem call9 {n : Nat} {S : Store} {d : D} {ps : List Int} {ma mf : ME} {σ : En} {S0 S1 : Store} {y : D} (hf : mf σ S0 = .ok d S1) (ha : ma σ S1 = .ok y S) (h : Sz S d ps) : eCallI (dCall (run n)) mf (aList [ma]) σ S0 = run n 9 [d, y] S := by
  obtain ⟨i, rfl, hi⟩ := h
  unfold eCallI
  simp only [hf, bind_ok', aList_cons, aList_nil, ha, hi, dCall]
/-- the test of one pair finds nothing -/
theorem due_test {n : Nat} {S : Store} {x : Int} {t : D} (h : Due S x t) (hx : Sm 100 x) {a0 a1 a2 a4 a5 a6 : Option D} : ∃ σ1 S', gTup [gName 7, gName 8] t [a0, a1, a2, some (.int x), a4, a5, a6, none, none] S = .ok σ1 S ∧
    sIf (tOr (tOf (eBin (oNe (run (n + 2))) (eCallI (dCall (run (n + 2))) (eVar 7) (aList [eVar 3])) (eVar 8))) (tOr (tOf (eBin (oNe (run (n + 2))) (eUn (attrF (at_coefficients (run (n + 2))) 1) (eVar 7)) (eFn (run (n + 2) 19) (aList [eUn (attrF (at_coefficients (run (n + 2))) 1) (eVar 7)])))) (tNot (tTru (eFn (isiF isiL) (aList [eVar 7, eC (.cl 0)])))))) (sRet (eC (.bl false))) sNext σ1 S = .nx σ1 S' ∧ Ext S S' := by
  obtain ⟨r, rs, rfl, z, t1, l, b⟩ := h
  obtain ⟨xs, e19⟩ := c19 (n := n + 1) (S := S) (TI.of rs) (by omega)
  have e9 := c9 (n := n) z b hx (by have : rs.length * 101 ≤ 20 * 101 := Nat.mul_le_mul_right _ l; omega) (by omega)
  refine ⟨[a0, a1, a2, some (.int x), a4, a5, a6, some r, some (.int (horner x rs))], S.push (.lst xs), rfl, ?_, Ext.push⟩
  have hc : eCallI (dCall (run (n + 2))) (eVar 7) (aList [eVar 3]) [a0, a1, a2, some (.int x), a4, a5, a6, some r, some (.int (horner x rs))] S = .ok (.int (horner x rs)) S := by
    rw [call9 (S1 := S) (S := S) (y := .int x) (by simp only [eVar_s, eVar_0]) (by simp only [eVar_s, eVar_0]) z, e9]
  have z' : Sz (S.push (.lst xs)) r rs := z.ext Ext.push
  have hco : attrF (at_coefficients (run (n + 2))) 1 r S = .ok (tupI rs) S := coeff z
  rw [trim_of_trd t1] at e19
  simp only [sIf_ev, tOr_ev, tOf_ev, eBin_ev, hc, bind_ok', eVar_s, eVar_0, oNe, neF_int, beq_self_eq_true, Bool.not_true, Bool.false_eq_true, if_false, eUn_ev, hco, eFn_ev, aList_cons, aList_nil, e19, neF_tup (TI.of rs) (TI.of rs), decide_true, tNot_ev, tTru_ev, eC_ev, isi_sz z', truD_bl, sNext_ev]
end L2.Mi.Pg

set_option Elab.async false
set_option linter.all false
set_option maxRecDepth 100000
set_option maxHeartbeats 1000000
/-! k40: _law_right. -/
namespace L2.Mi.Pg
open PySem
section
variable {n : Nat} {S : Store} {σ : En} {d o : D} {ps qs : List Int} {x k : Int} {i j a b : Nat}
theorem Ot.ext {S' : Store} (h : Ot S o qs) (e : Ext S S') : Ot S' o qs := h.elim .inl fun h => .inr (h.ext e)
theorem padd_len : (padd ps qs).length = max ps.length qs.length := by simp [padd]
theorem pmul_len : (pmul ps qs).length = ps.length + qs.length := by simp [pmul]
theorem ev_var {i : Nat} {d : D} {S : Store} (h : σ[i]? = some (some d)) : eVar i σ S = .ok d S := eVar_ev h
/-- what the pairs rest on -/
structure Pr (S : Store) (x : Int) (d : D) (ps : List Int) (o : D) (qs : List Int) : Prop where
  z : Sz S d ps
  t : Ot S o qs
  lp : ps.length ≤ 4
  lq : qs.length ≤ 4
  bp : ∀ p ∈ ps, Sm 100 p
  bq : ∀ p ∈ qs, Sm 100 p
  bx : Sm 100 x
theorem Pr.ext {S' : Store} (h : Pr S x d ps o qs) (e : Ext S S') : Pr S' x d ps o qs := ⟨h.z.ext e, h.t.ext e, h.lp, h.lq, h.bp, h.bq, h.bx⟩
variable (hi : σ[i]? = some (some d)) (hj : σ[j]? = some (some o)) (ha : σ[a]? = some (some (.int (horner x ps)))) (hb : σ[b]? = some (some (.int (horner x qs))))
include hi hj ha hb
theorem pr_add (h : Pr S x d ps o qs) : ∃ t S', eTup [eBin (oAdd (run (n + 3))) (eVar i) (eVar j), eBin (oAdd (run (n + 3))) (eVar a) (eVar b)] σ S = .ok t S' ∧ Ext S S' ∧ Due S' x t := by
  have := h.lp; have := h.lq
  obtain ⟨S', e, xt, z⟩ := c10 (n := n) h.z h.t (by omega) (by omega)
  rw [trim_trim] at z
  refine ⟨_, S', ?_, xt, .ref S.size, trim (padd ps qs), rfl, z, trim_trd _, Nat.le_trans (trim_le _) (by rw [padd_len]; omega), fun p hp => (trim_sm (padd_sm h.bp h.bq) p hp).mono (by omega)⟩
  simp only [eTup_ev, aList_cons, aList_nil, eBin_ev, ev_var hi, ev_var hj, ev_var ha, ev_var hb, bind_ok', own_add h.z h.t, e, horner_trim, horner_add]
  rfl
theorem pr_sub (h : Pr S x d ps o qs) : ∃ t S', eTup [eBin (oSub (run (n + 3))) (eVar i) (eVar j), eBin (oSub (run (n + 3))) (eVar a) (eVar b)] σ S = .ok t S' ∧ Ext S S' ∧ Due S' x t := by
  have := h.lp; have := h.lq
  obtain ⟨S', e, xt, z⟩ := c11 (n := n) h.z h.t (by omega) (by omega)
  rw [trim_trim] at z
  have bn : ∀ p ∈ qs.map (fun q => -q), Sm 100 p := fun p hp => by
    obtain ⟨q, hq, rfl⟩ := List.mem_map.mp hp
    exact (h.bq q hq).neg
  refine ⟨_, S', ?_, xt, .ref S.size, trim (padd ps (qs.map fun q => -q)), rfl, z, trim_trd _, Nat.le_trans (trim_le _) (by rw [padd_len, List.length_map]; omega), fun p hp => (trim_sm (padd_sm h.bp bn) p hp).mono (by omega)⟩
  simp only [eTup_ev, aList_cons, aList_nil, eBin_ev, ev_var hi, ev_var hj, ev_var ha, ev_var hb, bind_ok', own_sub h.z h.t, e, horner_trim, horner_add, horner_neg]
  simp only [oSub, subF_ev, bind_ok', Int.sub_eq_add_neg]
theorem pr_mul (h : Pr S x d ps o qs) : ∃ t S', eTup [eBin (oMul (run (n + 3))) (eVar i) (eVar j), eBin (oMul (run (n + 3))) (eVar a) (eVar b)] σ S = .ok t S' ∧ Ext S S' ∧ Due S' x t := by
  have := h.lp; have := h.lq
  obtain ⟨S', e, xt, z⟩ := c12 (n := n) h.z h.t (by omega) (by omega) h.bp h.bq (by omega)
  rw [trim_trim] at z
  have ok : mulOk (horner x ps) (horner x qs) = true := mulOk_sm ((horner_sm h.bx h.bp).mono (b := 1000) (by have := Nat.mul_le_mul_right 101 h.lp; omega)) ((horner_sm h.bx h.bq).mono (b := 1000) (by have := Nat.mul_le_mul_right 101 h.lq; omega)) (by omega)
  refine ⟨_, S', ?_, xt, .ref (S.size + 1), trim (pmul ps qs), rfl, z, trim_trd _, Nat.le_trans (trim_le _) (by rw [pmul_len]; omega), fun p hp => (trim_sm (pmul_sm h.bp h.bq) p hp).mono (by omega)⟩
  simp only [eTup_ev, aList_cons, aList_nil, eBin_ev, ev_var hi, ev_var hj, ev_var ha, ev_var hb, bind_ok', own_mul h.z h.t, e, horner_trim, horner_mul]
  simp only [oMul, mulF_ev ok, bind_ok']
omit hj hb in
theorem pr_neg (h : Pr S x d ps o qs) : ∃ t S', eTup [eUn (oNeg (run (n + 3))) (eVar i), eUn (oNeg (run (n + 3))) (eVar a)] σ S = .ok t S' ∧ Ext S S' ∧ Due S' x t := by
  have := h.lp
  obtain ⟨S', e, xt, z⟩ := c13 (n := n) h.z (by omega)
  have bn : ∀ p ∈ ps.map (fun q => -q), Sm 100 p := fun p hp => by
    obtain ⟨q, hq, rfl⟩ := List.mem_map.mp hp
    exact (h.bp q hq).neg
  refine ⟨_, S', ?_, xt, .ref S.size, trim (ps.map fun q => -q), rfl, z, trim_trd _, Nat.le_trans (trim_le _) (by rw [List.length_map]; omega), fun p hp => (trim_sm bn p hp).mono (by omega)⟩
  simp only [eTup_ev, aList_cons, aList_nil, eUn_ev, ev_var hi, ev_var ha, bind_ok', own_neg h.z, e, horner_trim, horner_neg]
  simp only [oNeg, negF_ev, bind_ok']
end
/-- the list of the pairs is gone through -/
theorem due_loop {n : Nat} {x : Int} (hx : Sm 100 x) {a0 a1 a2 a4 a5 : Option D} {ts : List D} (hl : ts.length ≤ 10) {S : Store} (h : ∀ t ∈ ts, Due S x t) {m : ME} (hm : ∀ S', m [a0, a1, a2, some (.int x), a4, a5, some (.lv ts), none, none] S' = .ok (.lv ts) S') :
    ∃ b7 b8 S', sFor (iSeq m) (gTup [gName 7, gName 8]) (sIf (tOr (tOf (eBin (oNe (run (n + 2))) (eCallI (dCall (run (n + 2))) (eVar 7) (aList [eVar 3])) (eVar 8))) (tOr (tOf (eBin (oNe (run (n + 2))) (eUn (attrF (at_coefficients (run (n + 2))) 1) (eVar 7)) (eFn (run (n + 2) 19) (aList [eUn (attrF (at_coefficients (run (n + 2))) 1) (eVar 7)])))) (tNot (tTru (eFn (isiF isiL) (aList [eVar 7, eC (.cl 0)])))))) (sRet (eC (.bl false))) (sNext)) 200
      [a0, a1, a2, some (.int x), a4, a5, some (.lv ts), none, none] S = .nx [a0, a1, a2, some (.int x), a4, a5, some (.lv ts), b7, b8] S' ∧ Ext S S' := by
  obtain ⟨src, e1, e2⟩ : ∃ src, iSeq m [a0, a1, a2, some (.int x), a4, a5, some (.lv ts), none, none] S = .ok src S ∧ ∀ k S', src k S' = some ts[k]? := by
    refine ⟨fun k S' => (listAt S' (.lv ts)).map fun ds => ds[k]?, ?_, fun k S' => rfl⟩
    unfold iSeq
    rw [hm, bind_ok']
    rfl
  obtain ⟨σ', S', e3, ⟨b7, b8, rfl, x3⟩⟩ := for_inv (src := src) (g := gTup [gName 7, gName 8]) (b := sIf (tOr (tOf (eBin (oNe (run (n + 2))) (eCallI (dCall (run (n + 2))) (eVar 7) (aList [eVar 3])) (eVar 8))) (tOr (tOf (eBin (oNe (run (n + 2))) (eUn (attrF (at_coefficients (run (n + 2))) 1) (eVar 7)) (eFn (run (n + 2) 19) (aList [eUn (attrF (at_coefficients (run (n + 2))) 1) (eVar 7)])))) (tNot (tTru (eFn (isiF isiL) (aList [eVar 7, eC (.cl 0)])))))) (sRet (eC (.bl false))) (sNext))
    (fun k σ S' => ∃ b7 b8, σ = [a0, a1, a2, some (.int x), a4, a5, some (.lv ts), b7, b8] ∧ Ext S S') ts.length
    (fun k σ S' hk j => by
      obtain ⟨b7, b8, rfl, x3⟩ := j
      have hd := (h ts[k] (List.getElem_mem hk)).ext x3
      obtain ⟨r, rs, et, _⟩ := id hd
      obtain ⟨σ1, S1, e4, e5, x5⟩ := due_test (n := n) hd hx (a0 := a0) (a1 := a1) (a2 := a2) (a4 := a4) (a5 := a5) (a6 := some (.lv ts))
      rw [et] at e4
      have q : σ1 = [a0, a1, a2, some (.int x), a4, a5, some (.lv ts), some r, some (.int (horner x rs))] := by
        simp [gTup, gAll, gName] at e4
        exact e4.symm
      subst q
      refine ⟨ts[k], _, S', _, S1, by rw [e2, List.getElem?_eq_getElem hk], ?_, .inl e5, _, _, rfl, x3.trans x5⟩
      rw [et]
      rfl)
    (fun σ S' j => by rw [e2]; simp) 200 0 [a0, a1, a2, some (.int x), a4, a5, some (.lv ts), none, none] S (by omega) (by omega) ⟨none, none, rfl, Ext.refl S⟩
  refine ⟨b7, b8, S', ?_, x3⟩
  unfold sFor
  rw [e1]
  exact e3
end L2.Mi.Pg

set_option Elab.async false
set_option linter.all false
set_option maxRecDepth 100000
set_option maxHeartbeats 1000000
/-! k40: _law_right, the law. -/
namespace L2.Mi.Pg
open PySem
theorem c9S {n : Nat} {S : Store} {d o : D} {ps qs : List Int} (h : Sz S d ps) (ho : Sz S o qs) (hl : ps.length ≤ 4) (hm : qs.length ≤ 4) (hp : ∀ p ∈ ps, Sm 100 p) (hq : ∀ q ∈ qs, Sm 100 q) :
    ∃ r S' rs, run (n + 5) 9 [d, o] S = .ok r S' ∧ Ext S S' ∧ Sz S' r rs ∧ (∀ x, horner x rs = horner (horner x qs) ps) ∧ rs.length ≤ 25 ∧ ∀ p ∈ rs, Sm 1000 p := by
  obtain ⟨r, S', rs, e, h2⟩ := c4S (n := n) ho hl hm hp hq
  refine ⟨r, S', rs, ?_, h2⟩
  rw [run_9]
  unfold m_9
  simp only [sRet_ev, eFn_ev, aList_cons, aList_nil, eVar_0, eVar_s, bind_ok', eUn_ev, attr_own h, e, fin_rt]
theorem sPar_ev {a b : ME} {σ : En} {S S1 S2 : Store} {x y : D} {i j : Nat} (h1 : a σ S = .ok x S1) (h2 : b σ S1 = .ok y S2) : sPar i j a b σ S = .nx ((σ.set i (some x)).set j (some y)) S2 := by
  unfold sPar
  simp only [aList_cons, aList_nil, h1, h2, bind_ok']
theorem sPar3_ev {a b c : ME} {σ : En} {S S1 S2 S3 : Store} {x y z : D} {i j l : Nat} (h1 : a σ S = .ok x S1) (h2 : b σ S1 = .ok y S2) (h3 : c σ S2 = .ok z S3) : sPar3 i j l a b c σ S = .nx (((σ.set i (some x)).set j (some y)).set l (some z)) S3 := by
  unfold sPar3
  simp only [aList_cons, aList_nil, h1, h2, h3, bind_ok']
theorem sSet_ev {m : ME} {σ : En} {S S1 : Store} {d : D} {i : Nat} (h : m σ S = .ok d S1) : sSet i m σ S = .nx (σ.set i (some d)) S1 := by
  simp only [sAsg_ev, h, gName_ev]
theorem horner_one (x k : Int) : horner x (trim [k]) = k := by
  rw [horner_trim]
  simp [horner]
theorem c20 {n : Nat} {S : Store} {d e : D} {ps qs : List Int} {k x : Int} (h : Sz S d ps) (h2 : Sz S e qs) (lp : ps.length ≤ 4) (lq : qs.length ≤ 4) (bp : ∀ p ∈ ps, Sm 100 p) (bq : ∀ p ∈ qs, Sm 100 p) (bk : Sm 100 k) (bx : Sm 100 x) :
    ∃ S', run (n + 6) 20 [d, e, .int k, .int x] S = .ok (.bl true) S' ∧ Ext S S' := by
  have lp' := Nat.mul_le_mul_right 101 lp
  have lq' := Nat.mul_le_mul_right 101 lq
  have v1 := c17 (n := n + 4) (S := S) (a := 100) (b := 100) bp bx (by omega) (by omega)
  have v2 := c17 (n := n + 4) (S := S) (a := 100) (b := 100) bq bx (by omega) (by omega)
  have lk : (trim [k]).length ≤ 4 := Nat.le_trans (trim_le _) (by simp)
  have P : Pr S x d ps e qs := ⟨h, .inr h2, lp, lq, bp, bq, bx⟩
  have Q : Pr S x d ps (.int k) (trim [k]) := ⟨h, .inl ⟨k, rfl, rfl⟩, lp, lk, bp, one_sm bk, bx⟩
  have hk : horner x (trim [k]) = k := horner_one x k
  -- the four
  obtain ⟨t1, S1, e1, x1, d1⟩ := pr_add (n := n + 2) (σ := [some d, some e, some (.int k), some (.int x), some (.int (horner x ps)), some (.int (horner x qs)), none, none, none]) (i := 0) (j := 1) (a := 4) (b := 5) rfl rfl rfl rfl P
  obtain ⟨t2, S2, e2, x2, d2⟩ := pr_sub (n := n + 2) (σ := [some d, some e, some (.int k), some (.int x), some (.int (horner x ps)), some (.int (horner x qs)), none, none, none]) (i := 0) (j := 1) (a := 4) (b := 5) rfl rfl rfl rfl (P.ext x1)
  obtain ⟨t3, S3, e3, x3, d3⟩ := pr_mul (n := n + 2) (σ := [some d, some e, some (.int k), some (.int x), some (.int (horner x ps)), some (.int (horner x qs)), none, none, none]) (i := 0) (j := 1) (a := 4) (b := 5) rfl rfl rfl rfl (P.ext (x1.trans x2))
  obtain ⟨t4, S4, e4, x4, d4⟩ := pr_neg (n := n + 2) (σ := [some d, some e, some (.int k), some (.int x), some (.int (horner x ps)), some (.int (horner x qs)), none, none, none]) (i := 0) (a := 4) rfl rfl (P.ext ((x1.trans x2).trans x3))
  have y4 : Ext S S4 := ((x1.trans x2).trans x3).trans x4
  -- the three
  obtain ⟨t5, S5, e5, x5, d5⟩ := pr_add (n := n + 2) (σ := [some d, some e, some (.int k), some (.int x), some (.int (horner x ps)), some (.int (horner x qs)), some (.lv [t1, t2, t3, t4]), none, none]) (i := 0) (j := 2) (a := 4) (b := 2) rfl rfl rfl (by rw [hk]; rfl) (Q.ext y4)
  obtain ⟨t6, S6, e6, x6, d6⟩ := pr_sub (n := n + 2) (σ := [some d, some e, some (.int k), some (.int x), some (.int (horner x ps)), some (.int (horner x qs)), some (.lv [t1, t2, t3, t4]), none, none]) (i := 0) (j := 2) (a := 4) (b := 2) rfl rfl rfl (by rw [hk]; rfl) (Q.ext (y4.trans x5))
  obtain ⟨t7, S7, e7, x7, d7⟩ := pr_mul (n := n + 2) (σ := [some d, some e, some (.int k), some (.int x), some (.int (horner x ps)), some (.int (horner x qs)), some (.lv [t1, t2, t3, t4]), none, none]) (i := 0) (j := 2) (a := 4) (b := 2) rfl rfl rfl (by rw [hk]; rfl) (Q.ext ((y4.trans x5).trans x6))
  have y7 : Ext S4 S7 := (x5.trans x6).trans x7
  have all : ∀ t ∈ [t1, t2, t3, t4, t5, t6, t7], Due S7 x t := by
    intro t ht
    simp only [List.mem_cons, List.not_mem_nil, or_false] at ht
    rcases ht with rfl | rfl | rfl | rfl | rfl | rfl | rfl
    · exact d1.ext (((x2.trans x3).trans x4).trans y7)
    · exact d2.ext ((x3.trans x4).trans y7)
    · exact d3.ext (x4.trans y7)
    · exact d4.ext y7
    · exact d5.ext (x6.trans x7)
    · exact d6.ext x7
    · exact d7
  obtain ⟨b7, b8, S8, e8, x8⟩ := due_loop (n := n + 3) bx (a0 := some d) (a1 := some e) (a2 := some (.int k)) (a4 := some (.int (horner x ps))) (a5 := some (.int (horner x qs))) (ts := [t1, t2, t3, t4, t5, t6, t7]) (by simp) all (m := eVar 6) (fun S' => rfl)
  have y8 : Ext S S8 := (y4.trans y7).trans x8
  have h8 := h.ext y8
  have g8 := h2.ext y8
  have e9 := c9 (n := n + 3) h8 bp bx (by omega) (by omega)
  obtain ⟨r, S9, rs, e10, x10, z10, v10, l10, b10⟩ := c9S (n := n) h8 g8 lp lq bp bq
  have l10' := Nat.mul_le_mul_right 101 l10
  have e11 := c9 (n := n + 3) z10 b10 bx (by omega) (by omega)
  have e12 := c17 (n := n + 4) (S := S9) (a := 100) (b := 504) (x := horner x qs) bp ((horner_sm bx bq).mono (by omega)) (by have := Nat.mul_le_mul_right 505 lp; omega) (by omega)
  have c1 := coeff (n := n + 4) h
  have c2 := coeff (n := n + 4) h2
  have c3 := coeff (n := n + 4) (h8.ext x10)
  refine ⟨S9, ?_, y8.trans x10⟩
  rw [run_20]
  unfold m_20
  rw [sSeq_ev, sPar_ev (S1 := S) (S2 := S) (x := .int (horner x ps)) (y := .int (horner x qs)) (by simp only [eFn_ev, aList_cons, aList_nil, eUn_ev, eVar_0, eVar_s, bind_ok', c1, v1]) (by simp only [eFn_ev, aList_cons, aList_nil, eUn_ev, eVar_0, eVar_s, bind_ok', c2, v2])]
  simp only [List.set_cons_succ, List.set_cons_zero]
  have q1 : eLv [eTup [eBin (oAdd (run (n + 5))) (eVar 0) (eVar 1), eBin (oAdd (run (n + 5))) (eVar 4) (eVar 5)], eTup [eBin (oSub (run (n + 5))) (eVar 0) (eVar 1), eBin (oSub (run (n + 5))) (eVar 4) (eVar 5)], eTup [eBin (oMul (run (n + 5))) (eVar 0) (eVar 1), eBin (oMul (run (n + 5))) (eVar 4) (eVar 5)], eTup [eUn (oNeg (run (n + 5))) (eVar 0), eUn (oNeg (run (n + 5))) (eVar 4)]] [some d, some e, some (.int k), some (.int x), some (.int (horner x ps)), some (.int (horner x qs)), none, none, none] S = .ok (.lv [t1, t2, t3, t4]) S4 := by
    rw [eLv_ev, aList_cons, e1, bind_ok', aList_cons, e2, bind_ok', aList_cons, e3, bind_ok', aList_cons, e4, bind_ok', aList_nil]
    rfl
  have q2 : eBin (oAdd (run (n + 5))) (eVar 6) (eLv [eTup [eBin (oAdd (run (n + 5))) (eVar 0) (eVar 2), eBin (oAdd (run (n + 5))) (eVar 4) (eVar 2)], eTup [eBin (oSub (run (n + 5))) (eVar 0) (eVar 2), eBin (oSub (run (n + 5))) (eVar 4) (eVar 2)], eTup [eBin (oMul (run (n + 5))) (eVar 0) (eVar 2), eBin (oMul (run (n + 5))) (eVar 4) (eVar 2)]]) [some d, some e, some (.int k), some (.int x), some (.int (horner x ps)), some (.int (horner x qs)), some (.lv [t1, t2, t3, t4]), none, none] S4 = .ok (.lv [t1, t2, t3, t4, t5, t6, t7]) S7 := by
    rw [eBin_ev]
    simp only [eVar_s, eVar_0, bind_ok']
    rw [eLv_ev, aList_cons, e5, bind_ok', aList_cons, e6, bind_ok', aList_cons, e7, bind_ok', aList_nil]
    rfl
  rw [sSeq_ev, sSet_ev q1]
  simp only [List.set_cons_succ, List.set_cons_zero]
  rw [sSeq_ev, sSet_ev q2]
  simp only [List.set_cons_succ, List.set_cons_zero]
  rw [sSeq_ev, e8]
  have k1 : eCallI (dCall (run (n + 5))) (eVar 0) (aList [eVar 3]) [some d, some e, some (.int k), some (.int x), some (.int (horner x ps)), some (.int (horner x qs)), some (.lv [t1, t2, t3, t4, t5, t6, t7]), b7, b8] S8 = .ok (.int (horner x ps)) S8 := by
    rw [call9 (S1 := S8) (S := S8) (y := .int x) (by simp only [eVar_s, eVar_0]) (by simp only [eVar_s, eVar_0]) h8, e9]
  have k2 : eCallI (dCall (run (n + 5))) (eVar 0) (aList [eVar 1]) [some d, some e, some (.int k), some (.int x), some (.int (horner x ps)), some (.int (horner x qs)), some (.lv [t1, t2, t3, t4, t5, t6, t7]), b7, b8] S8 = .ok r S9 := by
    rw [call9 (S1 := S8) (S := S8) (y := e) (by simp only [eVar_s, eVar_0]) (by simp only [eVar_s, eVar_0]) h8, e10]
  have k3 : eCallI (dCall (run (n + 5))) (eCallI (dCall (run (n + 5))) (eVar 0) (aList [eVar 1])) (aList [eVar 3]) [some d, some e, some (.int k), some (.int x), some (.int (horner x ps)), some (.int (horner x qs)), some (.lv [t1, t2, t3, t4, t5, t6, t7]), b7, b8] S8 = .ok (.int (horner x rs)) S9 := by
    rw [call9 (S1 := S9) (S := S9) (y := .int x) k2 (by simp only [eVar_s, eVar_0]) z10, e11]
  simp only [sRet_ev, eAnd_ev, tOf_ev, eBin_ev, k1, k3, bind_ok', eVar_s, eVar_0, oEq, eqF_int, beq_self_eq_true, if_true, eFn_ev, aList_cons, aList_nil, eUn_ev, c3, e12, v10, fin_rt]
end L2.Mi.Pg

set_option Elab.async false
set_option linter.all false
set_option maxRecDepth 100000
set_option maxHeartbeats 1000000
/-! k40: the law. -/
namespace L2.Mi.Pg
open PySem
section
variable {n : Nat} {S S' : Store} {d e y : D} {ps qs : List Int} {i : Nat}
theorem Sz.chg (h : Sz S d ps) (hp : Pool S i) (c : Chg i S S') : Sz S' d ps := by
  obtain ⟨j, rfl, hj⟩ := h
  obtain ⟨a, b, hg, _⟩ := hp
  refine ⟨j, rfl, ?_⟩
  rw [c.2 j (fun z => by rw [z, hg] at hj; cases hj)]
  exact hj
theorem pool_ext (h : Pool S i) (e : Ext S S') : Pool S' i := by
  obtain ⟨a, b, hg, r⟩ := h
  exact ⟨a, b, e _ _ hg, r⟩
theorem dat_sz (h : Sz S d ps) : dat 64 S d = none := by
  obtain ⟨j, rfl, hj⟩ := h
  simp [dat, listAt, hj]
theorem tag_sz (h : Sz S d ps) : tagOf S d = some (.o 0) := by
  obtain ⟨j, rfl, hj⟩ := h
  simp [tagOf, hj]
theorem eq_sz (h : Sz S d ps) (h2 : Sz S e qs) : oEq (run (n + 1)) d e S = .ok (.bl (decide (ps = qs))) S := by
  have e1 := c14 (n := n) h h2
  have t2 := tag_sz h2
  have z := dat_sz h
  obtain ⟨j, rfl, hj⟩ := h
  unfold oEq eqF
  simp only [z]
  unfold eqOwn
  simp only [hj, t2, dEq]
  rw [if_pos (by simp)]
  exact e1
theorem ne_sz (h : Sz S d ps) (h2 : Sz S e qs) : oNe (run (n + 1)) d e S = .ok (.bl (!decide (ps = qs))) S := by
  have e1 := c14 (n := n) h h2
  have t2 := tag_sz h2
  have z := dat_sz h
  obtain ⟨j, rfl, hj⟩ := h
  unfold oNe neF
  simp only [z]
  unfold neOwn
  simp only [hj, t2, dEq]
  rw [if_pos (by simp), e1]
theorem eq_other {t : Tag} (h : Sz S d ps) (ht : tagOf S y = some t) (hi : isiL t (.o 0) = some false) (hf : isiF isiL [y, .cl 0] S = .ok (.bl false) S) : oEq (run (n + 1)) d y S = .ok (.bl false) S := by
  have z := dat_sz h
  obtain ⟨j, rfl, hj⟩ := h
  unfold oEq eqF
  simp only [z]
  unfold eqOwn
  simp only [hj, ht, dEq]
  rw [if_pos (by rw [hi]; simp)]
  rw [run_14]
  unfold m_14
  simp only [sRet_ev, eAnd_ev, tOf_ev, eFn_ev, aList_cons, aList_nil, eVar_0, eVar_s, eC_ev, bind_ok', hf, Bool.false_eq_true, if_false, fin_rt]
theorem degree (h : Sz S d ps) : attrF (at_degree (run (n + 1))) 2 d S = .ok (.int (if (0 : Int) > (ps.length : Int) - 1 then 0 else (ps.length : Int) - 1)) S := by
  have e1 := c8 (n := n) h
  obtain ⟨j, rfl, hj⟩ := h
  unfold attrF
  simp only [hj, at_degree]
  rw [e1]
  rfl
theorem make0 : ∃ S', makeW 0 (run (n + 2) 6) [] S = .ok (.ref S.size) S' ∧ Ext S S' ∧ Sz S' (.ref S.size) [] := by
  obtain ⟨S', e, x, z, _⟩ := make (n := n) (S := S) (d := .kt []) (ps := []) rfl (by simp)
  exact ⟨S', e, x, z⟩
end
def rb (call : Nat → FN) : MS := sSeq (sSet 2 (eFn (call 15) (aList [eVar 0, eVar 1])))
    (sSeq (sPar 3 4 (eFn (call 18) (aList [eVar 2])) (eFn (call 18) (aList [eVar 2])))
    (sSeq (sPar3 5 6 7 (eFn (makeW 0 (call 6)) (aList [eVar 3])) (eFn (makeW 0 (call 6)) (aList [eVar 4])) (eBin itemF (eLv [eC (.int 0), eC (.int 1), eUn (oNeg call) (eC (.int 3)), eBin powI (eC (.int 10)) (eC (.int 20))]) (eFn (call 16) (aList [eVar 2, eC (.int 4)]))))
    (sSeq (sIf (tOr (tOf (eBin (oNe call) (eUn (attrF (at_coefficients call) 1) (eVar 5)) (eFn (call 19) (aList [eVar 3])))) (tOf (eBin (oNe call) (eUn (attrF (at_degree call) 2) (eVar 5)) (eFn max2F (aList [eBin (oSub call) (eFn lenF (aList [eFn (call 19) (aList [eVar 3])])) (eC (.int 1)), eC (.int 0)]))))) (sRet (eC (.bl false))) (sNext))
    (sSeq (sIf (tOr (tOf (eBin (oNe call) (eBin (oEq call) (eVar 5) (eVar 6)) (eBin (oEq call) (eFn (call 19) (aList [eVar 3])) (eFn (call 19) (aList [eVar 4]))))) (tOf (eBin (oNe call) (eVar 5) (eFn (makeW 0 (call 6)) (aList [eBin (oAdd call) (eVar 3) (eTup [eC (.int 0)])]))))) (sRet (eC (.bl false))) (sNext))
    (sSeq (sIf (tOr (tOf (eBin (oEq call) (eVar 5) (eVar 7))) (tOr (tOf (eBin (oEq call) (eVar 5) (eVar 3))) (tOf (eBin (oEq call) (eVar 5) (eC (.str [])))))) (sRet (eC (.bl false))) (sNext))
    (sFor (iSeq (eLv [eC (.int 0), eBin (oAdd call) (eC (.int 1)) (eFn (call 16) (aList [eVar 2, eC (.int 9)])), eBin (oAdd call) (eBin powI (eC (.int 10)) (eC (.int 30))) (eC (.int 1))])) (gName 8) (sIf (tNot (tTru (eFn (call 20) (aList [eVar 5, eVar 6, eVar 7, eVar 8])))) (sRet (eC (.bl false))) (sNext)) 200))))))
theorem m21 (call : Nat → FN) : m_21 call = sSeq (sFor (iRange1 (eFn max2F (aList [eC (.int 1), eFn min2F (aList [eFn lenF (aList [eVar 0]), eC (.int 8)])]))) (gName 1) (rb call) 200) (sRet (eAnd (eBin (oEq call) (eUn (attrF (at_coefficients call) 1) (eFn (makeW 0 (call 6)) (aList []))) (eTup [])) (eBin (oEq call) (eFn (makeW 0 (call 6)) (aList [])) (eFn (makeW 0 (call 6)) (aList [eTup [eC (.int 0), eC (.int 0)]]))))) := rfl
section
variable {S : Store} {σ : En}
theorem seq_nx {a b : MS} {σ' : En} {S' : Store} (h : a σ S = .nx σ' S') : sSeq a b σ S = b σ' S' := by rw [sSeq_ev, h]
theorem if_no {t : MT} {a : MS} {S' : Store} (h : t σ S = .ok false S') : sIf t a sNext σ S = .nx σ S' := by
  simp only [sIf_ev, h, Bool.false_eq_true, if_false, sNext_ev]
end
def amounts : List Int := [0, 1, -3, 10 ^ 20]
theorem amounts_sm : ∀ p ∈ amounts, Sm 100 p := by
  unfold amounts Sm
  decide
theorem amounts_at {r : Int} (h0 : 0 ≤ r) (h1 : r < 4) : ∃ p, amounts[r.toNat]? = some p ∧ p ∈ amounts := by
  have hl : r.toNat < amounts.length := by
    have : amounts.length = 4 := rfl
    omega
  exact ⟨amounts[r.toNat], List.getElem?_eq_getElem hl, List.getElem_mem hl⟩
theorem round {ns : List Int} {k : Nat} (hk : k < 8) (hl : ns.length ≤ 63) {o2 o3 o4 o5 o6 o7 o8 : Option D} {S : Store} :
    ∃ p2 p3 p4 p5 p6 p7 p8 S', rb (run 30) [some (.fl (ns.map D.int)), some (.int (k : Int)), o2, o3, o4, o5, o6, o7, o8] S = .nx [some (.fl (ns.map D.int)), some (.int (k : Int)), p2, p3, p4, p5, p6, p7, p8] S' := by
  obtain ⟨ob, e1, hp1⟩ := c15 (n := 29) (S := S) (ns := ns) (k := k) (by omega) (by omega)
  obtain ⟨ps, S2, e2, hp2, x2, lp, bp⟩ := c18 (n := 28) hp1
  obtain ⟨qs, S3, e3, hp3, x3, lq, bq⟩ := c18 (n := 28) hp2
  obtain ⟨S4, e4, x4, z4, _⟩ := make (n := 28) (S := S3) (TI.of ps) (by omega)
  obtain ⟨S5, e5, x5, z5, _⟩ := make (n := 28) (S := S4) (TI.of qs) (by omega)
  have hp5 := pool_ext (pool_ext hp3 x4) x5
  obtain ⟨r, S6, e6, r0, r1, hp6, x6⟩ := c16 (n := 29) (w := 4) hp5 (by omega) (by omega)
  obtain ⟨am, ha, ham⟩ := amounts_at r0 r1
  have bam := amounts_sm am ham
  have za : Sz S6 (.ref S3.size) (trim ps) := (z4.ext x5).chg hp5 x6
  have zb : Sz S6 (.ref S4.size) (trim qs) := z5.chg hp5 x6
  have hat : L2.atI (amounts.map D.int) r = some (D.int am) := by
    have z := atI_nat (xs := amounts.map D.int) (k := r.toNat) (x := D.int am) (by rw [List.getElem?_map, ha]; rfl)
    rwa [Int.toNat_of_nonneg r0] at z
  have pw : powOk 10 20 = true := by decide
  -- the first test
  obtain ⟨xs7, e7⟩ := c19 (n := 29) (S := S6) (TI.of ps) (by omega)
  obtain ⟨xs8, e8⟩ := c19 (n := 29) (S := S6.push (.lst xs7)) (TI.of ps) (by omega)
  have za7 := za.ext (Ext.push (o := .lst xs7))
  have za8 := za7.ext (Ext.push (o := .lst xs8))
  have zb8 := (zb.ext (Ext.push (o := .lst xs7))).ext (Ext.push (o := .lst xs8))
  have hp8 := pool_ext (pool_ext hp6 (Ext.push (o := .lst xs7))) (Ext.push (o := .lst xs8))
  generalize hS8 : (S6.push (.lst xs7)).push (.lst xs8) = S8 at e8 za8 zb8 hp8
  have T1 : tOr (tOf (eBin (oNe (run 30)) (eUn (attrF (at_coefficients (run 30)) 1) (eVar 5)) (eFn (run 30 19) (aList [eVar 3])))) (tOf (eBin (oNe (run 30)) (eUn (attrF (at_degree (run 30)) 2) (eVar 5)) (eFn max2F (aList [eBin (oSub (run 30)) (eFn lenF (aList [eFn (run 30 19) (aList [eVar 3])])) (eC (.int 1)), eC (.int 0)]))))
      [some (.fl (ns.map D.int)), some (.int (k : Int)), some (.ref S.size), some (tupI ps), some (tupI qs), some (.ref S3.size), some (.ref S4.size), some (.int am), o8] S6 = .ok false S8 := by
    have c := coeff (n := 29) za
    have dg := degree (n := 29) za7
    simp only [tOr_ev, tOf_ev, eBin_ev, eUn_ev, eVar_s, eVar_0, bind_ok', c, eFn_ev, aList_cons, aList_nil, e7, oNe, neF_tup (TI.of (trim ps)) (TI.of (trim ps)), decide_true, Bool.not_true, Bool.false_eq_true, if_false, dg, e8, lenF_seq (TI.of (trim ps)).seq, List.length_map, oSub, subF_ev, eC_ev, max2F_ev, neF_int, beq_self_eq_true]
  -- the second
  obtain ⟨xs9, e9⟩ := c19 (n := 29) (S := S8) (TI.of ps) (by omega)
  obtain ⟨xs10, e10⟩ := c19 (n := 29) (S := S8.push (.lst xs9)) (TI.of qs) (by omega)
  have za10 := (za8.ext (Ext.push (o := .lst xs9))).ext (Ext.push (o := .lst xs10))
  have zb10 := (zb8.ext (Ext.push (o := .lst xs9))).ext (Ext.push (o := .lst xs10))
  have hp10 := pool_ext (pool_ext hp8 (Ext.push (o := .lst xs9))) (Ext.push (o := .lst xs10))
  generalize hS10 : (S8.push (.lst xs9)).push (.lst xs10) = S10 at e10 za10 zb10 hp10
  obtain ⟨S11, e11, x11, z11, _⟩ := make (n := 28) (S := S10) (TI.of (ps ++ [0])) (by simp; omega)
  rw [trim_snoc] at z11
  have za11 := za10.ext x11
  have zb11 := zb10.ext x11
  have hp11 := pool_ext hp10 x11
  have ea : ∀ S', oAdd (run 30) (tupI ps) (.tup [.int 0]) S' = .ok (tupI (ps ++ [0])) S' := fun S' => by
    show (if (ps.map D.int).length + [D.int 0].length ≤ lim then Res.ok (D.tup (ps.map D.int ++ [D.int 0])) S' else .bad) = _
    rw [if_pos (by simp; unfold lim; omega)]
    simp [tupI]
  have T2 : tOr (tOf (eBin (oNe (run 30)) (eBin (oEq (run 30)) (eVar 5) (eVar 6)) (eBin (oEq (run 30)) (eFn (run 30 19) (aList [eVar 3])) (eFn (run 30 19) (aList [eVar 4]))))) (tOf (eBin (oNe (run 30)) (eVar 5) (eFn (makeW 0 (run 30 6)) (aList [eBin (oAdd (run 30)) (eVar 3) (eTup [eC (.int 0)])]))))
      [some (.fl (ns.map D.int)), some (.int (k : Int)), some (.ref S.size), some (tupI ps), some (tupI qs), some (.ref S3.size), some (.ref S4.size), some (.int am), o8] S8 = .ok false S11 := by
    have q1 := eq_sz (n := 29) za8 zb8
    have q2 := ne_sz (n := 29) za11 z11
    have q3 : oEq (run 30) (tupI (trim ps)) (tupI (trim qs)) S10 = .ok (.bl (decide (trim ps = trim qs))) S10 := eqF_tup (TI.of _) (TI.of _)
    have q4 : ∀ b : Bool, oNe (run 30) (.bl b) (.bl b) S10 = .ok (.bl false) S10 := fun b => by
      show neF _ _ _ _ = _
      rw [neF_bl]
      simp
    simp only [tOr_ev, tOf_ev, eBin_ev, eVar_s, eVar_0, bind_ok', q1, eFn_ev, aList_cons, aList_nil, e9, e10, q3, q4, Bool.false_eq_true, if_false, eTup_ev, eC_ev, ea, e11, q2, decide_true, Bool.not_true]
  -- the third
  have T3 : tOr (tOf (eBin (oEq (run 30)) (eVar 5) (eVar 7))) (tOr (tOf (eBin (oEq (run 30)) (eVar 5) (eVar 3))) (tOf (eBin (oEq (run 30)) (eVar 5) (eC (.str [])))))
      [some (.fl (ns.map D.int)), some (.int (k : Int)), some (.ref S.size), some (tupI ps), some (tupI qs), some (.ref S3.size), some (.ref S4.size), some (.int am), o8] S11 = .ok false S11 := by
    have q1 := eq_other (n := 29) (y := .int am) za11 (t := .b "int") rfl rfl rfl
    have q2 := eq_other (n := 29) (y := tupI ps) za11 (t := .b "tuple") rfl rfl rfl
    have q3 := eq_other (n := 29) (y := .str []) za11 (t := .b "str") rfl rfl rfl
    simp only [tOr_ev, tOf_ev, eBin_ev, eVar_s, eVar_0, bind_ok', q1, q2, q3, eC_ev, Bool.false_eq_true, if_false]
  -- the three numbers
  obtain ⟨r9, S12, e12, s0, s1, hp12, x12⟩ := c16 (n := 29) (w := 9) hp11 (by omega) (by omega)
  have za12 := za11.chg hp11 x12
  have zb12 := zb11.chg hp11 x12
  have pw2 : powOk 10 30 = true := by decide
  have L3 : eLv [eC (.int 0), eBin (oAdd (run 30)) (eC (.int 1)) (eFn (run 30 16) (aList [eVar 2, eC (.int 9)])), eBin (oAdd (run 30)) (eBin powI (eC (.int 10)) (eC (.int 30))) (eC (.int 1))]
      [some (.fl (ns.map D.int)), some (.int (k : Int)), some (.ref S.size), some (tupI ps), some (tupI qs), some (.ref S3.size), some (.ref S4.size), some (.int am), o8] S11 = .ok (.lv ([0, 1 + r9, 10 ^ 30 + 1].map D.int)) S12 := by
    simp only [eLv_ev, aList_cons, aList_nil, eC_ev, eBin_ev, bind_ok', eFn_ev, eVar_s, eVar_0, e12, oAdd, addF_ev, powI_ev pw2]
    rfl
  have bns : ∀ x ∈ [0, 1 + r9, (10 : Int) ^ 30 + 1], Sm 100 x := by
    intro x hx
    simp only [List.mem_cons, List.not_mem_nil, or_false] at hx
    rcases hx with rfl | rfl | rfl
    · exact Sm.zero
    · unfold Sm
      have : (1 + r9).natAbs < 2 ^ 10 := by omega
      exact Nat.lt_of_lt_of_le this (Nat.pow_le_pow_right (by omega) (by omega))
    · unfold Sm
      decide
  have lp' : (trim ps).length ≤ 4 := Nat.le_trans (trim_le _) lp
  have lq' : (trim qs).length ≤ 4 := Nat.le_trans (trim_le _) lq
  obtain ⟨σ', S13, e13, ⟨b8, rfl, x13⟩⟩ := for_inv (src := fun j S' => (listAt S' (.lv ([0, 1 + r9, 10 ^ 30 + 1].map D.int))).map fun ds => ds[j]?) (g := gName 8) (b := sIf (tNot (tTru (eFn (run 30 20) (aList [eVar 5, eVar 6, eVar 7, eVar 8])))) (sRet (eC (.bl false))) (sNext))
    (fun j σ S' => ∃ b8, σ = [some (.fl (ns.map D.int)), some (.int (k : Int)), some (.ref S.size), some (tupI ps), some (tupI qs), some (.ref S3.size), some (.ref S4.size), some (.int am), b8] ∧ Ext S12 S') 3
    (fun j σ S' hj q => by
      obtain ⟨b8, rfl, x13⟩ := q
      obtain ⟨x, hx1, hx2⟩ : ∃ x, [0, 1 + r9, (10 : Int) ^ 30 + 1][j]? = some x ∧ x ∈ [0, 1 + r9, (10 : Int) ^ 30 + 1] := ⟨_, List.getElem?_eq_getElem (by simpa using hj), List.getElem_mem _⟩
      obtain ⟨S14, e14, x14⟩ := c20 (n := 24) (za12.ext x13) (zb12.ext x13) lp' lq' (trim_sm bp) (trim_sm bq) bam (bns x hx2)
      refine ⟨.int x, [some (.fl (ns.map D.int)), some (.int (k : Int)), some (.ref S.size), some (tupI ps), some (tupI qs), some (.ref S3.size), some (.ref S4.size), some (.int am), some (.int x)], S', _, S14, ?_, rfl, .inl (if_no ?_), ⟨_, rfl, x13.trans x14⟩⟩
      · show some ([0, 1 + r9, (10 : Int) ^ 30 + 1].map D.int)[j]? = _
        rw [List.getElem?_map, hx1]
        rfl
      · simp only [tNot_ev, tTru_ev, eFn_ev, aList_cons, aList_nil, eVar_s, eVar_0, bind_ok', e14, truD_bl, Bool.not_true])
    (fun σ S' q => by rfl) 200 0 [some (.fl (ns.map D.int)), some (.int (k : Int)), some (.ref S.size), some (tupI ps), some (tupI qs), some (.ref S3.size), some (.ref S4.size), some (.int am), o8] S12 (by omega) (by omega) ⟨_, rfl, Ext.refl _⟩
  refine ⟨some (.ref S.size), some (tupI ps), some (tupI qs), some (.ref S3.size), some (.ref S4.size), some (.int am), b8, S13, ?_⟩
  unfold rb
  rw [seq_nx (sSet_ev (d := .ref S.size) (S1 := S.push ob) (by simp only [eFn_ev, aList_cons, aList_nil, eVar_s, eVar_0, bind_ok', e1]))]
  simp only [List.set_cons_succ, List.set_cons_zero]
  rw [seq_nx (sPar_ev (x := tupI ps) (y := tupI qs) (S1 := S2) (S2 := S3) (by simp only [eFn_ev, aList_cons, aList_nil, eVar_s, eVar_0, bind_ok', e2]) (by simp only [eFn_ev, aList_cons, aList_nil, eVar_s, eVar_0, bind_ok', e3]))]
  simp only [List.set_cons_succ, List.set_cons_zero]
  rw [seq_nx (sPar3_ev (x := .ref S3.size) (y := .ref S4.size) (z := .int am) (S1 := S4) (S2 := S5) (S3 := S6) (by simp only [eFn_ev, aList_cons, aList_nil, eVar_s, eVar_0, bind_ok', e4]) (by simp only [eFn_ev, aList_cons, aList_nil, eVar_s, eVar_0, bind_ok', e5]) (by
    simp only [eBin_ev, eLv_ev, aList_cons, aList_nil, eC_ev, eUn_ev, eFn_ev, eVar_s, eVar_0, bind_ok', oNeg, negF_ev, powI_ev pw, e6]
    exact itemF_seq (xs := amounts.map D.int) rfl hat))]
  simp only [List.set_cons_succ, List.set_cons_zero]
  rw [seq_nx (if_no T1), seq_nx (if_no T2), seq_nx (if_no T3)]
  unfold sFor iSeq
  rw [L3, bind_ok']
  exact e13
end L2.Mi.Pg
namespace Law
open L2.Mi L2.Mi.Pg PySem
theorem good : ∀ ns : List Int, ns.length ≤ 63 → (∀ z ∈ ns, Builtin.Int.intBits z ≤ 1048576) → ∃ S, bodyRun 9 (m_21 (L2.Mi.Pg.run 30)) [.fl (ns.map D.int)] ⟨[]⟩ = .ok (.bl true) S := by
  intro ns hl _
  have hlen : lenF [.fl (ns.map D.int)] ⟨[]⟩ = .ok (.int ns.length) ⟨[]⟩ := by
    rw [lenF_seq (xs := ns.map D.int) rfl, List.length_map]
  obtain ⟨m, hm, hm8⟩ : ∃ m : Nat, (if (if (8 : Int) < (ns.length : Int) then (8 : Int) else (ns.length : Int)) > 1 then (if (8 : Int) < (ns.length : Int) then (8 : Int) else (ns.length : Int)) else 1) = (m : Int) ∧ m ≤ 8 := by
    split <;> split <;> first | exact ⟨8, by omega, by omega⟩ | exact ⟨ns.length, by omega, by omega⟩ | exact ⟨1, by omega, by omega⟩
  obtain ⟨σ', S1, e1, ⟨o1, o2, o3, o4, o5, o6, o7, o8, rfl⟩⟩ := for_inv (src := fun k _ => some (if k < (m : Int).toNat then some (D.int (0 + (k : Int))) else none)) (g := gName 1) (b := rb (L2.Mi.Pg.run 30))
    (fun k σ S' => ∃ o1 o2 o3 o4 o5 o6 o7 o8, σ = [some (.fl (ns.map D.int)), o1, o2, o3, o4, o5, o6, o7, o8]) m
    (fun k σ S' hk j => by
      obtain ⟨o1, o2, o3, o4, o5, o6, o7, o8, rfl⟩ := j
      obtain ⟨p2, p3, p4, p5, p6, p7, p8, S2, e2⟩ := round (ns := ns) (k := k) (by omega) hl (o2 := o2) (o3 := o3) (o4 := o4) (o5 := o5) (o6 := o6) (o7 := o7) (o8 := o8) (S := S')
      refine ⟨.int (k : Int), _, S', _, S2, by simp only [Int.toNat_natCast, hk, if_true, Int.zero_add], rfl, .inl e2, ⟨_, _, _, _, _, _, _, _, rfl⟩⟩)
    (fun σ S' j => by simp) 200 0 [some (.fl (ns.map D.int)), none, none, none, none, none, none, none, none] ⟨[]⟩ (by omega) (by omega) ⟨_, _, _, _, _, _, _, _, rfl⟩
  obtain ⟨S2, e2, x2, z2⟩ := make0 (n := 28) (S := S1)
  obtain ⟨S3, e3, x3, z3⟩ := make0 (n := 28) (S := S2)
  obtain ⟨S4, e4, x4, z4, _⟩ := make (n := 28) (S := S3) (d := .tup [.int 0, .int 0]) (ps := [0, 0]) rfl (by simp)
  refine ⟨S4, ?_⟩
  have z4' : Sz S4 (.ref S3.size) [] := z4
  have c := coeff (n := 29) z2
  have q1 : oEq (L2.Mi.Pg.run 30) (tupI []) (.tup []) S2 = .ok (.bl true) S2 := by
    exact eqF_tup (d1 := tupI []) (d2 := tupI []) (ps := []) (qs := []) (TI.of []) (TI.of [])
  have q2 := eq_sz (n := 29) (z3.ext x4) z4'
  have ri : iRange1 (eFn max2F (aList [eC (.int 1), eFn min2F (aList [eFn lenF (aList [eVar 0]), eC (.int 8)])])) [some (.fl (ns.map D.int)), none, none, none, none, none, none, none, none] ⟨[]⟩ = .ok (fun k _ => some (if k < (m : Int).toNat then some (D.int (0 + (k : Int))) else none)) ⟨[]⟩ := by
    unfold iRange1
    simp only [eFn_ev, aList_cons, aList_nil, eC_ev, eVar_0, bind_ok', hlen, min2F, max2F_ev, hm]
    rw [if_pos (i62_nat (by omega))]
  have hb : m_21 (L2.Mi.Pg.run 30) [some (.fl (ns.map D.int)), none, none, none, none, none, none, none, none] ⟨[]⟩ = .rt (.bl true) S4 := by
    have hf : sFor (iRange1 (eFn max2F (aList [eC (.int 1), eFn min2F (aList [eFn lenF (aList [eVar 0]), eC (.int 8)])]))) (gName 1) (rb (L2.Mi.Pg.run 30)) 200 [some (.fl (ns.map D.int)), none, none, none, none, none, none, none, none] ⟨[]⟩ = .nx [some (.fl (ns.map D.int)), o1, o2, o3, o4, o5, o6, o7, o8] S1 := by
      unfold sFor
      rw [ri]
      exact e1
    rw [m21, seq_nx hf]
    simp only [sRet_ev, eAnd_ev, tOf_ev, eBin_ev, eUn_ev, eFn_ev, aList_cons, aList_nil, eTup_ev, eC_ev, bind_ok', e2, c, q1, if_true, e3, e4, q2, decide_true]
  show (match m_21 (L2.Mi.Pg.run 30) [some (.fl (ns.map D.int)), none, none, none, none, none, none, none, none] ⟨[]⟩ with
    | .rt d S1 => Res.ok d S1
    | .nx _ S1 => .ok .non S1
    | .exc x _ S1 => .exc x S1
    | _ => .bad) = _
  rw [hb]
end Law

open PySem PySem.W PySem.Calls PyProof.Rows L2.Mi
set_option maxRecDepth 100000 in
set_option maxHeartbeats 0 in
theorem PySem.Challenge.cw_farmisses_k40_sums_of_sizes_holds : PySem.Challenge.rw_farmisses_k40_sums_of_sizes.Holds := by
  w_on; o_law
  refine HandSHeadRun.head_any (r := OpenLaw.row PySem.Challenge.rw_farmisses_k40_sums_of_sizes) (q := view (OpenLaw.row PySem.Challenge.rw_farmisses_k40_sums_of_sizes).prog [15]) (H := L2.Mi.Pg.hk) (ob := L2.Mi.Pg.ob) (M := 20000) (loose := L2.Mi.Pg.loose) (d := HandSHeadRun.topDef (OpenLaw.row PySem.Challenge.rw_farmisses_k40_sums_of_sizes).prog 15) (kwd := []) L2.Mi.Pg.ob_eq
    (by kernel_rfl) (fun s => by kernel_rfl) L2.Mi.Pg.head (by kernel_rfl) (by kernel_rfl) (by kernel_rfl) (by rfl) (by first | assumption | decide +kernel) (by decide +kernel) ⟨rfl, rfl, rfl, rfl, rfl, by decide +kernel⟩ ?hw ?hc
  case hw => w_witness2
  case hc =>
    refine walkM (l := PySem.Challenge.rw_farmisses_k40_sums_of_sizes) (n := 63) (k := lv 30 + 2) (x := "_law_script") (L := L2.Mi.Pg.L) (run := bodyRun 9 (L2.Mi.Pg.m_21 (L2.Mi.Pg.run 30))) rfl (by decide) (by kernel_rfl) ⟨rfl, by decide, by decide⟩ ?F Law.good
    intro w mg fa K c NS hmg0
    have hmg : mg ("law" : PySem.Str) = some (.ref fa) := by
      have e : (HandSHeadRun.topDef (OpenLaw.row PySem.Challenge.rw_farmisses_k40_sums_of_sizes).prog 15).name = ("law" : PySem.Str) := by kernel_rfl
      rw [← e]
      exact hmg0
    obtain ⟨M⟩ := c.fn 21 rfl
    have hv : M.dvs = [] := List.eq_nil_of_length_eq_zero (by rw [← (M.rd ⟨[], []⟩ fun _ => none).length]; rfl)
    have e := hmg.symm.trans (NS.glo c 0)
    cases e
    have b := L2.FunD.bindsA (ps := ["_law_script"]) (hv ▸ M.F) fun _ _ _ _ _ _ us hl => match us, hl with | [_], _ => rfl
    exact ⟨M.fd, fun s v => b s [v] rfl, fun base _ _ => L2.Mi.Pg.ok_21 NS 30 (L2.Mi.Pg.all NS 30) M⟩
