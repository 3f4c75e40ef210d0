import PyProof.Rows.All
import Wide.All
import OpenK.AllK
import Wide.FinOn
import HandS.ForMost
import HandS.Star
import HandS.Walk
import HandS.Zip
import HandS.IsInst
import KE.KDictKeyed
import KE.KDictDisplayH
import KE.SortData
import HandS.Lambda
import HandS.TupAny
import HandS.TupLe
import HandS.Dict
import PyProof.Rows.TupTab
import HandS.TupMul
import HandS.Deep
import HandS.CallSlots
import HandS.HotCalls
import HandS.HeadHook1
import HandS.ExcInit
import KE.KExcSuper
import KE.KSuper
import HandS.ExcIs
import HandS.ExcField
import HandS.ExcOwn
import KE.KExcIs
import PyProof.Rows.CountFlat
import HandS.Iter
import KE.GoesMore
import KE.GoesEnum
import HandS.Conv
import HandS.SetFor
import HandS.Style
import HandS.Strs
import HandS.TupSets
import KE.KeyNested
import HandS.TryMany
import HandS.TryOnly
import HandS.Words
import HandS.Defaults
import HandS.HeadHook2
import HandS.HeadHook4
import HandS.Ends
import HandS.Head0
import HandS.Head1
import HandS.Head2
import HandS.HeadEnd
import HandS.EndTab
import PySem.Challenge.RW_restartable_k26_shortest_scripts_made
set_option Elab.async false
set_option linter.all false
set_option maxRecDepth 100000
set_option maxHeartbeats 4000000
namespace Rs
open PySem PySem.Spec PyProof.Rows L2

/-! ### data, things that change, the store -/
inductive D where
  | non | bl (b : Bool) | int (i : Int) | str (s : Str)
  | tup (l : List D) | lst (l : List D) | scr (l : List D) | obj (i : Nat)
  /-- a dict (0), an instance of a class (c + 1), that nobody writes -/
  | box (k : Nat) (l : List D)
  /-- the exception that is handled -/
  | exn (c : Nat) (l : List D)
  deriving Inhabited
inductive MO where
  | lst (l : List D)
  /-- a dict whose keys are tuples -/
  | dct (kvs : List (D × D))
  /-- a dict, an instance -/
  | box (k : Nat) (l : List D)
  deriving Inhabited
abbrev Store := List MO
structure Ex where
  cls : Nat
  fs : List D
abbrev Env := List (Option D)

mutual
def D.lo (n : Nat) : D → Bool
  | .obj i => decide (i < n)
  | .tup l => loL n l
  | .lst l => loL n l
  | .scr l => loL n l
  | .box _ l => loL n l
  | .exn _ l => loL n l
  | .non => true
  | .bl _ => true
  | .int _ => true
  | .str _ => true
def loL (n : Nat) : List D → Bool
  | [] => true
  | d :: ds => d.lo n && loL n ds
end
/-- a dict's keys and values in one row -/
def flatK : List (D × D) → List D
  | [] => []
  | p :: r => p.1 :: p.2 :: flatK r
def MO.ds : MO → List D
  | .lst l => l
  | .dct kvs => flatK kvs
  | .box _ l => l
mutual
/-- nothing of the exception that is handled -/
def D.noX : D → Bool
  | .exn _ _ => false
  | .tup l => noXL l
  | .lst l => noXL l
  | .scr l => noXL l
  | .box _ l => noXL l
  | .non => true
  | .bl _ => true
  | .int _ => true
  | .str _ => true
  | .obj _ => true
def noXL : List D → Bool
  | [] => true
  | d :: l => d.noX && noXL l
end
def MO.lo (n : Nat) (mo : MO) : Bool := loL n mo.ds

inductive Out (α : Type) where
  | ok (a : α) (S : Store)
  | exc (x : Ex) (S : Store)
  | bad
def Out.bind {α β : Type} (o : Out α) (f : α → Store → Out β) : Out β := match o with
  | .ok a S => f a S
  | .exc x S => .exc x S
  | .bad => .bad

mutual
def keyD : D → NestedKey
  | .non => .none
  | .bl b => .num (if b = true then 1 else 0)
  | .int i => .num i
  | .str s => .text s
  | .tup l => .tup (keyL l)
  | .lst _ => .none
  | .scr _ => .none
  | .obj _ => .none
  | .box _ _ => .none
  | .exn _ _ => .none
def keyL : List D → List NestedKey
  | [] => []
  | d :: l => keyD d :: keyL l
end
mutual
/-- ints, texts, None, tuples of such, k levels deep -/
def keyOk : D → Nat → Bool
  | .non, _ => true
  | .int _, _ => true
  | .str _, _ => true
  | .tup l, k + 1 => keyOkL l k
  | _, _ => false
def keyOkL : List D → Nat → Bool
  | [], _ => true
  | d :: l, k => keyOk d k && keyOkL l k
end
/-- an entry, by the hash of its key -/
def rawEntry (hf : NestedKey → Int) (x : NestedKey × Addr × Value) : DictEntry := ⟨hf x.1, .ref x.2.1, x.2.2⟩
/-- the object at a is the dict with these keys, each with where it stands, and these values -/
def DRaw (hf : NestedKey → Int) (a : Addr) (fs : List (NestedKey × Addr × V)) (h : Heap) : Prop := ∃ es : List (NestedKey × Addr × Value),
  Paired (fun p q => p.1 = q.1 ∧ p.2.1 = q.2.1 ∧ RelV p.2.2 q.2.2) fs es ∧ ∃ o es' ep, h.get? a = some o ∧ o.ExactDict ∧ o.data = .dict es' ep ∧ es'.toList = es.map (rawEntry hf)
/-- the pairs, the row of things that stand for them, the keys and values -/
def DRow : List (D × D) → List V → List (NestedKey × Addr × V) → Prop
  | [], xs, fs => xs = [] ∧ fs = []
  | p :: r, xs, fs => ∃ b vv ys gs, xs = .ref b :: vv :: ys ∧ fs = (keyD p.1, b, vv) :: gs ∧ keyOk p.1 8 = true ∧ DRow r ys gs
/-! the program's classes: Script, Run, Marked, Counted, CountedMarked, Trying -/
def nmC : Nat → List Str
  | 0 => ["own_fields", "own_steps"]
  | 1 => ["own_script", "kept", "past"]
  | 2 => ["own_script", "kept", "past", "own_marks"]
  | 3 => ["own_script", "kept", "past"]
  | 4 => ["own_script", "kept", "past", "own_marks"]
  | 5 => ["run", "kept", "before"]
  | _ => []
/-- the fields of the exceptions: NotSafe is 14, LimitError 15 -/
def nmX : Nat → List Str
  | 14 => ["field"]
  | 15 => ["amount", "limit"]
  | _ => []
/-- what stands for a dict, for an instance -/
def BoxO (cl : Nat → Addr) : Nat → List V → HO → Prop
  | 0, xs, o => ∃ kvs : List (Key × V), o = .dK kvs ∧ xs = kvs.flatMap fun p => [kV p.1, p.2]
  | c + 1, xs, o => ∃ dx, o = .ins (cl c) dx ((nmC c).zip xs) ∧ xs.length ≤ (nmC c).length
def MO.ho (hf : NestedKey → Int) (cl : Nat → Addr) (a : Addr) : MO → List V → HO → Prop
  | .lst _, xs, o => o = .lst xs
  | .box k _, xs, o => BoxO cl k xs o
  | .dct kvs, xs, o => (a == sysModules) = false ∧ kvs.length ≤ sizeLine ∧ ∃ fs, o = .ext (DRaw hf a fs) ∧ (fs.map (·.1)).Nodup ∧ DRow kvs xs fs
/-! ### what stands for what -/
/-- what is handed in or handled: where it is, its class (99: a function), its dict or code object, the code's name, the values that it holds -/
structure XN where
  a : Addr
  c : Nat
  d : Option Addr
  q : Str := ""
  xs : List V := []
  ds : List D := []
def ExO (z : XN) (d : Addr) (ds : List D) (xs : List V) (o : HO) : Prop := if z.c = 99 then o = LamX.CodeO d z.q ∧ xs = z.xs ∧ ds = z.ds else o = .xd ((nmX z.c).zip xs)
/-- the written part, and what nothing here speaks of (lists in the making) -/
structure KX where
  K : PySem.W.Frag
  ex : List Addr
  /-- the hash of a key -/
  hf : NestedKey → Int
  /-- the classes -/
  cl : Nat → Addr := fun _ => 0
  /-- the exception that is handled, or the function that was handed in -/
  xn : Option XN := none
  /-- the tables of code objects -/
  tb : List (Addr × Str) := []
def Free (K : KX) (L : List Addr) (a : Addr) : Prop := a ∉ L ∧ a ∉ K.ex
section
variable (K : KX)
/-- a list that is read alone: the script -/
def SqF (L : List Addr) (H : Hp) (a : Addr) (xs : List V) : Prop :=
  (Free K L a ∧ ∃ o, H a = some (.frz o (.lst xs))) ∨
    ∃ (o : Obj) (its : Array Value) (n : Nat), K.K.lookup a = some o ∧ o.cls = .type "list" ∧ o.dict = none ∧ o.data = .seq its n ∧ its.size ≤ sizeLine ∧ Vals xs its.toList
mutual
def Den (L : List Addr) (H : Hp) : D → V → Prop
  | .non, v => v = .non
  | .bl b, v => v = .bl b
  | .int i, v => v = .int i
  | .str s, v => v = .str s
  | .tup ds, v => ∃ a xs, v = .ref a ∧ H a = some (.tup xs) ∧ Free K L a ∧ DenL L H ds xs
  | .lst ds, v => ∃ a xs, v = .ref a ∧ H a = some (.lst xs) ∧ Free K L a ∧ DenL L H ds xs
  | .scr ds, v => ∃ a xs, v = .ref a ∧ SqF K L H a xs ∧ DenL L H ds xs
  | .obj i, v => ∃ a, v = .ref a ∧ L[i]? = some a
  | .box k ds, v => ∃ a xs o, v = .ref a ∧ H a = some o ∧ BoxO K.cl k xs o ∧ Free K L a ∧ DenL L H ds xs
  | .exn c ds, v => ∃ z xs, v = .ref z.a ∧ (K.xn = some z ∧ z.c = c) ∧ DenL L H ds xs ∧ ((z.d = none ∧ ds = []) ∨ ∃ d o, z.d = some d ∧ H d = some o ∧ ExO z d ds xs o ∧ Free K L d)
def DenL (L : List Addr) (H : Hp) : List D → List V → Prop
  | [], xs => xs = []
  | d :: ds, xs => ∃ y ys, xs = y :: ys ∧ Den L H d y ∧ DenL L H ds ys
end
def MOk (L : List Addr) (H : Hp) (i : Nat) (a : Addr) (mo : MO) : Prop := loL i mo.ds = true ∧ ∃ xs o, H a = some o ∧ mo.ho K.hf K.cl a xs o ∧ DenL K L H mo.ds xs
/-- no code object -/
def NoCode (o : HO) : Prop := ∀ c q, o ≠ LamX.CodeO c q
def NoCT (o : HO) : Prop := NoCode o ∧ ∀ ps, o ≠ .tbl ps
/-- the tables of code objects -/
def TbOk (L : List Addr) (H : Hp) : Prop := ∀ (i : Nat) (P : Addr) (q : Str), K.tb[i]? = some (P, q) → P ∉ L ∧ ∃ ps, H P = some (.tbl ps) ∧ TriplesOk ps.toList ∧ ∀ pos cv, codeAmong pos ps.toList = some cv → ∃ c, cv = .ref c ∧ H c = some (LamX.CodeO c q)
structure Rel (L : List Addr) (H : Hp) (S : Store) : Prop where
  len : L.length = S.length
  nd : L.Nodup
  at_ : ∀ i mo, S[i]? = some mo → ∃ a, L[i]? = some a ∧ MOk K L H i a mo
  ex : ∀ a ∈ K.ex, (∃ o, H a = some o) ∧ a ∉ L
  nc : ∀ a ∈ K.ex, ∀ o, H a = some o → NoCT o
  nx : ∀ (i : Nat) (mo : MO), S[i]? = some mo → noXL mo.ds = true
  tb : TbOk K L H
structure ERel (L : List Addr) (H : Hp) (σd : Env) (σ : L2.St) : Prop where
  len : σd.length = σ.length
  at_ : ∀ (i : Nat) (d : D), σd[i]? = some (some d) → ∃ v, σ[i]? = some (some v) ∧ Den K L H d v
end
structure Gr (L : List Addr) (H : Hp) (L' : List Addr) (H' : Hp) : Prop where
  pre : L <+: L'
  fr : ∀ a o, a ∉ L → (∀ ps, o ≠ .tbl ps) → H a = some o → H' a = some o
  new : ∀ a, a ∈ L' → a ∉ L → ∀ o, H a = some o → ∃ ps, o = .tbl ps

section
variable {K : KX} {L L' L1 L2' : List Addr} {H H' H1 H2 : Hp} {S S' : Store} {σd : Env} {σ : L2.St}
theorem new_none {a : Addr} (h : H a = none) : ∀ o, H a = some o → ∃ ps, o = HO.tbl ps := fun o e => by
  rw [h] at e
  cases e
theorem Gr.to (g : Gr L H L' H') {a : Addr} {o : HO} (n : a ∉ L) (e : H a = some o) (nt : ∀ ps, o ≠ .tbl ps := by intro ps z; cases z) : H' a = some o := g.fr a o n nt e
theorem Gr.no (g : Gr L H L' H') {a : Addr} {o : HO} (n : a ∉ L) (e : H a = some o) (nt : ∀ ps, o ≠ .tbl ps := by intro ps z; cases z) : a ∉ L' := fun h => by
  obtain ⟨ps, q⟩ := g.new a h n o e
  exact nt ps q
theorem box_nt {cl : Nat → Addr} {k : Nat} {xs : List V} {o : HO} (h : BoxO cl k xs o) : ∀ ps, o ≠ .tbl ps := fun ps e => by
  subst e
  cases k with
  | zero =>
    obtain ⟨_, z, _⟩ := h
    cases z
  | succ k =>
    obtain ⟨_, z, _⟩ := h
    cases z
theorem ex_nt {z : XN} {d : Addr} {ds : List D} {xs : List V} {o : HO} (h : ExO z d ds xs o) : ∀ ps, o ≠ .tbl ps := fun ps e => by
  subst e
  unfold ExO at h
  split at h
  · have h1 := h.1
    unfold LamX.CodeO at h1
    cases h1
  · cases h
theorem Gr.refl : Gr L H L H := ⟨List.prefix_refl _, fun _ _ _ _ e => e, fun a h n => absurd h n⟩
theorem Gr.trans (g : Gr L H L1 H1) (k : Gr L1 H1 L2' H2) : Gr L H L2' H2 := by
  refine ⟨g.pre.trans k.pre, fun a o n nt e => k.fr a o (g.no n e nt) nt (g.to n e nt), fun a h n o e => ?_⟩
  by_cases h1 : a ∈ L1
  · exact g.new a h1 n o e
  · refine Classical.byContradiction fun c => ?_
    exact c (k.new a h h1 o (g.to n e fun ps z => c ⟨ps, z⟩))
theorem Gr.upd {p : Addr} {o : HO} (n : H p = none) : Gr L H L (upd H p o) := ⟨List.prefix_refl _, fun a u _ _ e => by
  rw [upd_ne (ne_of_none e n)]
  exact e, fun a h k => absurd h k⟩
theorem Gr.push {p : Addr} {o : HO} (n : H p = none) : Gr L H (L ++ [p]) (L2.upd H p o) := ⟨List.prefix_append _ _, fun a u _ _ e => by
  rw [upd_ne (ne_of_none e n)]
  exact e, fun a h k => by
    rcases List.mem_append.mp h with h | h
    · exact absurd h k
    · rw [List.mem_singleton.mp h]
      exact new_none n⟩
/-- a thing of the store is written -/
theorem Gr.write {p : Addr} {o : HO} (m : p ∈ L) : Gr L H L (L2.upd H p o) := ⟨List.prefix_refl _, fun a u k _ e => by
  rw [upd_ne (fun z => k (by rw [z]; exact m))]
  exact e, fun a h k => absurd h k⟩
theorem Gr.cut (g : Gr L H L1 H1) : Gr L H L H1 := ⟨List.prefix_refl _, g.fr, fun a h n => absurd h n⟩
theorem get_pre {i : Nat} {a : Addr} (p : L <+: L') (e : L[i]? = some a) : L'[i]? = some a := by
  obtain ⟨t, rfl⟩ := p
  obtain ⟨h, e'⟩ := List.getElem?_eq_some_iff.mp e
  rw [List.getElem?_append_left h]
  exact e
mutual
theorem Den.grow (g : Gr L H L' H') : ∀ (d : D) (v : V), Den K L H d v → Den K L' H' d v
  | .non, v, h => h
  | .bl _, v, h => h
  | .int _, v, h => h
  | .str _, v, h => h
  | .tup ds, v, h => by
    rw [Den] at h ⊢
    obtain ⟨a, xs, e, ha, n, r⟩ := h
    refine ⟨a, xs, e, g.to n.1 ha, ⟨g.no n.1 ha, n.2⟩, DenL.grow g ds xs r⟩
  | .lst ds, v, h => by
    rw [Den] at h ⊢
    obtain ⟨a, xs, e, ha, n, r⟩ := h
    refine ⟨a, xs, e, g.to n.1 ha, ⟨g.no n.1 ha, n.2⟩, DenL.grow g ds xs r⟩
  | .scr ds, v, h => by
    rw [Den] at h ⊢
    obtain ⟨a, xs, e, ha, r⟩ := h
    refine ⟨a, xs, e, ?_, DenL.grow g ds xs r⟩
    rcases ha with ⟨n, o, ha⟩ | ha
    · exact .inl ⟨⟨g.no n.1 ha, n.2⟩, o, g.to n.1 ha⟩
    · exact .inr ha
  | .obj i, v, h => by
    rw [Den] at h ⊢
    obtain ⟨a, e, ha⟩ := h
    exact ⟨a, e, get_pre g.pre ha⟩
  | .box k ds, v, h => by
    rw [Den] at h ⊢
    obtain ⟨a, xs, o, e, ha, hb, n, r⟩ := h
    refine ⟨a, xs, o, e, g.to n.1 ha (box_nt hb), hb, ⟨g.no n.1 ha (box_nt hb), n.2⟩, DenL.grow g ds xs r⟩
  | .exn c ds, v, h => by
    rw [Den] at h ⊢
    obtain ⟨a, xs, e, hx, r, z⟩ := h
    refine ⟨a, xs, e, hx, DenL.grow g ds xs r, z.imp_right fun ⟨d, o, e1, e2, eo, n⟩ => ⟨d, o, e1, ?_, eo, ?_⟩⟩
    · exact g.to n.1 e2 (ex_nt eo)
    · exact ⟨g.no n.1 e2 (ex_nt eo), n.2⟩
theorem DenL.grow (g : Gr L H L' H') : ∀ (ds : List D) (xs : List V), DenL K L H ds xs → DenL K L' H' ds xs
  | [], xs, h => h
  | d :: ds, xs, h => by
    rw [DenL] at h ⊢
    obtain ⟨y, ys, e, r, rs⟩ := h
    exact ⟨y, ys, e, Den.grow g d y r, DenL.grow g ds ys rs⟩
end
mutual
theorem Den.noX_ (hx : K.xn = none) : ∀ (d : D) (v : V), Den K L H d v → d.noX = true
  | .non, v, h => rfl
  | .bl _, v, h => rfl
  | .int _, v, h => rfl
  | .str _, v, h => rfl
  | .tup ds, v, h => by
    rw [Den] at h
    obtain ⟨a, xs, _, _, _, r⟩ := h
    rw [D.noX]
    exact DenL.noX_ hx ds xs r
  | .lst ds, v, h => by
    rw [Den] at h
    obtain ⟨a, xs, _, _, _, r⟩ := h
    rw [D.noX]
    exact DenL.noX_ hx ds xs r
  | .scr ds, v, h => by
    rw [Den] at h
    obtain ⟨a, xs, _, _, r⟩ := h
    rw [D.noX]
    exact DenL.noX_ hx ds xs r
  | .obj _, v, h => rfl
  | .box _ ds, v, h => by
    rw [Den] at h
    obtain ⟨a, xs, o, _, _, _, _, r⟩ := h
    rw [D.noX]
    exact DenL.noX_ hx ds xs r
  | .exn _ _, v, h => by
    rw [Den] at h
    obtain ⟨a, xs, _, ⟨e, _⟩, _⟩ := h
    rw [hx] at e
    cases e
theorem DenL.noX_ (hx : K.xn = none) : ∀ (ds : List D) (xs : List V), DenL K L H ds xs → noXL ds = true
  | [], xs, h => rfl
  | d :: ds, xs, h => by
    rw [DenL] at h
    obtain ⟨y, ys, _, r, rs⟩ := h
    rw [noXL, Den.noX_ hx d y r, DenL.noX_ hx ds ys rs]
    rfl
end
mutual
/-- what is not of the exception stands whichever is handled -/
theorem Den.sw {xn : Option XN} : ∀ (d : D) (v : V), d.noX = true → Den K L H d v → Den { K with xn := xn } L H d v
  | .non, v, _, h => h
  | .bl _, v, _, h => h
  | .int _, v, _, h => h
  | .str _, v, _, h => h
  | .tup ds, v, n, h => by
    rw [D.noX] at n
    rw [Den] at h ⊢
    obtain ⟨a, xs, e, ha, f, r⟩ := h
    exact ⟨a, xs, e, ha, f, DenL.sw ds xs n r⟩
  | .lst ds, v, n, h => by
    rw [D.noX] at n
    rw [Den] at h ⊢
    obtain ⟨a, xs, e, ha, f, r⟩ := h
    exact ⟨a, xs, e, ha, f, DenL.sw ds xs n r⟩
  | .scr ds, v, n, h => by
    rw [D.noX] at n
    rw [Den] at h ⊢
    obtain ⟨a, xs, e, ha, r⟩ := h
    exact ⟨a, xs, e, ha, DenL.sw ds xs n r⟩
  | .obj _, v, _, h => by
    rw [Den] at h ⊢
    exact h
  | .box _ ds, v, n, h => by
    rw [D.noX] at n
    rw [Den] at h ⊢
    obtain ⟨a, xs, o, e, ha, hb, f, r⟩ := h
    exact ⟨a, xs, o, e, ha, hb, f, DenL.sw ds xs n r⟩
  | .exn _ _, v, n, h => by rw [D.noX] at n; cases n
theorem DenL.sw {xn : Option XN} : ∀ (ds : List D) (xs : List V), noXL ds = true → DenL K L H ds xs → DenL { K with xn := xn } L H ds xs
  | [], xs, _, h => h
  | d :: ds, xs, n, h => by
    rw [noXL, Bool.and_eq_true] at n
    rw [DenL] at h ⊢
    obtain ⟨y, ys, e, r, rs⟩ := h
    exact ⟨y, ys, e, Den.sw d y n.1 r, DenL.sw ds ys n.2 rs⟩
end
theorem ERel.grow (g : Gr L H L' H') (r : ERel K L H σd σ) : ERel K L' H' σd σ := ⟨r.len, fun i d e => by
  obtain ⟨v, e1, h⟩ := r.at_ i d e
  exact ⟨v, e1, h.grow g⟩⟩
theorem ERel.set (r : ERel K L H σd σ) {d : D} {v : V} (i : Nat) (h : Den K L H d v) : ERel K L H (σd.set i (some d)) (σ.set i (some v)) := by
  refine ⟨by rw [List.length_set, List.length_set, r.len], fun j e hj => ?_⟩
  by_cases hij : i = j
  · subst hij
    by_cases hl : i < σd.length
    · rw [List.getElem?_set_self hl] at hj
      cases hj
      exact ⟨v, List.getElem?_set_self (r.len ▸ hl), h⟩
    · rw [List.getElem?_eq_none (by rw [List.length_set]; omega)] at hj
      cases hj
  · rw [List.getElem?_set_ne hij] at hj ⊢
    exact r.at_ j e hj
theorem ERel.wipe1 (r : ERel K L H σd σ) (i : Nat) : ERel K L H (σd.set i none) σ := by
  refine ⟨by rw [List.length_set, r.len], fun j e hj => ?_⟩
  by_cases hij : i = j
  · subst hij
    by_cases hl : i < σd.length
    · rw [List.getElem?_set_self hl] at hj
      cases hj
    · rw [List.getElem?_eq_none (by rw [List.length_set]; omega)] at hj
      cases hj
  · rw [List.getElem?_set_ne hij] at hj
    exact r.at_ j e hj
theorem DenL.length : ∀ {ds : List D} {xs : List V}, DenL K L H ds xs → ds.length = xs.length
  | [], xs, h => by
    rw [DenL] at h
    rw [h]
    rfl
  | d :: ds, xs, h => by
    rw [DenL] at h
    obtain ⟨y, ys, rfl, _, rs⟩ := h
    rw [List.length_cons, List.length_cons, DenL.length rs]
theorem DenL.get : ∀ {ds : List D} {xs : List V} {i : Nat} {d : D}, DenL K L H ds xs → ds[i]? = some d → ∃ v, xs[i]? = some v ∧ Den K L H d v
  | [], xs, i, d, h, e => by simp at e
  | d :: ds, xs, i, e', h, e => by
    rw [DenL] at h
    obtain ⟨y, ys, rfl, r, rs⟩ := h
    cases i with
    | zero =>
      simp at e
      subst e
      exact ⟨y, rfl, r⟩
    | succ i =>
      simp at e
      obtain ⟨v, e1, hv⟩ := DenL.get rs e
      exact ⟨v, by simpa using e1, hv⟩
theorem DenL.append : ∀ {ds es : List D} {xs ys : List V}, DenL K L H ds xs → DenL K L H es ys → DenL K L H (ds ++ es) (xs ++ ys)
  | [], es, xs, ys, h, k => by
    rw [DenL] at h
    subst h
    exact k
  | d :: ds, es, xs, ys, h, k => by
    rw [DenL] at h
    obtain ⟨y, zs, rfl, r, rs⟩ := h
    rw [List.cons_append, DenL]
    exact ⟨y, zs ++ ys, rfl, r, DenL.append rs k⟩
theorem DenL.one {d : D} {v : V} (h : Den K L H d v) : DenL K L H [d] [v] := by
  rw [DenL]
  exact ⟨v, [], rfl, h, by rw [DenL]⟩
theorem DenL.nil : DenL K L H [] [] := by rw [DenL]
theorem DenL.cons {d : D} {v : V} {ds : List D} {vs : List V} (h : Den K L H d v) (r : DenL K L H ds vs) : DenL K L H (d :: ds) (v :: vs) := by
  rw [DenL]
  exact ⟨v, vs, rfl, h, r⟩
theorem DenL.take : ∀ {ds : List D} {xs : List V} (n : Nat), DenL K L H ds xs → DenL K L H (ds.take n) (xs.take n)
  | ds, xs, 0, h => by
    rw [List.take_zero, List.take_zero]
    exact DenL.nil
  | [], xs, n + 1, h => by
    rw [DenL] at h
    subst h
    exact DenL.nil
  | d :: ds, xs, n + 1, h => by
    rw [DenL] at h
    obtain ⟨y, ys, rfl, r, rs⟩ := h
    exact DenL.cons r (DenL.take n rs)
theorem DenL.drop : ∀ {ds : List D} {xs : List V} (n : Nat), DenL K L H ds xs → DenL K L H (ds.drop n) (xs.drop n)
  | ds, xs, 0, h => h
  | [], xs, n + 1, h => by
    rw [DenL] at h
    subst h
    exact DenL.nil
  | d :: ds, xs, n + 1, h => by
    rw [DenL] at h
    obtain ⟨y, ys, rfl, r, rs⟩ := h
    exact DenL.drop n rs
theorem DenL.set : ∀ {ds : List D} {xs : List V} (n : Nat) {d : D} {v : V}, DenL K L H ds xs → Den K L H d v → DenL K L H (ds.set n d) (xs.set n v)
  | [], xs, n, d, v, h, k => by
    rw [DenL] at h
    subst h
    exact DenL.nil
  | e :: ds, xs, n, d, v, h, k => by
    rw [DenL] at h
    obtain ⟨y, ys, rfl, r, rs⟩ := h
    cases n with
    | zero => exact DenL.cons k rs
    | succ n => exact DenL.cons r (DenL.set n rs k)
theorem DenL.reverse : ∀ {ds : List D} {xs : List V}, DenL K L H ds xs → DenL K L H ds.reverse xs.reverse
  | [], xs, h => by
    rw [DenL] at h
    subst h
    exact DenL.nil
  | d :: ds, xs, h => by
    rw [DenL] at h
    obtain ⟨y, ys, rfl, r, rs⟩ := h
    rw [List.reverse_cons, List.reverse_cons]
    exact DenL.append (DenL.reverse rs) (DenL.one r)

/-! ### what is no code object -/
theorem noCode_raw {hf : NestedKey → Int} {a : Addr} {fs : List (NestedKey × Addr × V)} : NoCode (.ext (DRaw hf a fs)) := fun c q e => by
  unfold LamX.CodeO at e
  have e1 : DRaw hf a fs = fun h => ∃ (oc : Obj) (vs : Array Value) (t : Tok), h.get? c = some oc ∧ oc.data = .fields vs ∧ vs[1]? = some (.str q t) := HO.ext.inj e
  have e2 := congrFun e1 (⟨Array.replicate (c + 1) ({ cls := .none, data := .fields #[.none, .str q 0] } : Obj), {}⟩ : Heap)
  have at_ : ∀ b (o : Obj), (⟨Array.replicate (c + 1) ({ cls := .none, data := .fields #[.none, .str q 0] } : Obj), {}⟩ : Heap).get? b = some o → o.data = .fields #[.none, .str q 0] := fun b o h => by
    unfold Heap.get? at h
    dsimp only at h
    by_cases hb : b < c + 1
    · rw [Array.getElem?_replicate, if_pos hb] at h
      cases h
      rfl
    · rw [Array.getElem?_replicate, if_neg hb] at h
      cases h
  have here : (⟨Array.replicate (c + 1) ({ cls := .none, data := .fields #[.none, .str q 0] } : Obj), {}⟩ : Heap).get? c = some { cls := .none, data := .fields #[.none, .str q 0] } := by
    unfold Heap.get?
    dsimp only
    rw [Array.getElem?_replicate, if_pos (Nat.lt_succ_self c)]
  have e3 : DRaw hf a fs (⟨Array.replicate (c + 1) ({ cls := .none, data := .fields #[.none, .str q 0] } : Obj), {}⟩ : Heap) := by
    rw [e2]
    exact ⟨_, _, 0, here, rfl, rfl⟩
  obtain ⟨es, _, o, es', ep, ho, _, hd, _⟩ := e3
  rw [at_ a o ho] at hd
  cases hd
theorem noCode_lst {xs : List V} : NoCode (.lst xs) := fun c q e => by
  unfold LamX.CodeO at e
  cases e
theorem noCT_lst {xs : List V} : NoCT (.lst xs) := ⟨noCode_lst, fun ps z => by cases z⟩
theorem noCT_raw {hf : NestedKey → Int} {a : Addr} {fs : List (NestedKey × Addr × V)} : NoCT (.ext (DRaw hf a fs)) := ⟨noCode_raw, fun ps z => by cases z⟩
theorem noCode_box {cl : Nat → Addr} {k : Nat} {xs : List V} {o : HO} (h : BoxO cl k xs o) : NoCode o := fun c q e => by
  unfold LamX.CodeO at e
  subst e
  cases k with
  | zero =>
    obtain ⟨_, z, _⟩ := h
    cases z
  | succ k =>
    obtain ⟨_, z, _⟩ := h
    cases z
theorem noCode_ho {hf : NestedKey → Int} {cl : Nat → Addr} {a : Addr} {mo : MO} {xs : List V} {o : HO} (h : mo.ho hf cl a xs o) : NoCode o := by
  cases mo with
  | lst l =>
    cases (show o = HO.lst xs from h)
    exact noCode_lst
  | dct kvs =>
    obtain ⟨_, _, fs, e, _⟩ := h
    subst e
    exact noCode_raw
  | box k l => exact noCode_box h
/-! ### the store's relation -/
theorem Rel.there (r : Rel K L H S) {a : Addr} (h : a ∈ L) : ∃ o, H a = some o ∧ (∀ xs, o ≠ .tup xs) := by
  obtain ⟨i, hi, e⟩ := List.mem_iff_getElem.mp h
  have hS : i < S.length := r.len ▸ hi
  obtain ⟨b, e1, m⟩ := r.at_ i S[i] (List.getElem?_eq_getElem hS)
  have e2 : L[i]? = some a := by rw [List.getElem?_eq_getElem hi, e]
  rw [e2] at e1
  cases e1
  generalize S[i] = mo at m
  obtain ⟨_, xs, o, h1, h0, _⟩ := m
  refine ⟨_, h1, fun ys z => ?_⟩
  subst z
  cases mo with
  | lst ds => cases h0
  | dct kvs =>
    obtain ⟨_, _, es, z, _⟩ := h0
    cases z
  | box k l =>
    cases k with
    | zero =>
      obtain ⟨_, z, _⟩ := h0
      cases z
    | succ c =>
      obtain ⟨_, z, _⟩ := h0
      cases z
theorem Rel.notIn (r : Rel K L H S) {p : Addr} (h : H p = none) : p ∉ L := fun z => by
  obtain ⟨o, e, _⟩ := r.there z
  rw [h] at e
  cases e
theorem Rel.free (r : Rel K L H S) {p : Addr} (h : H p = none) : Free K L p := ⟨r.notIn h, fun z => by
  obtain ⟨o, e⟩ := (r.ex p z).1
  rw [h] at e
  cases e⟩
/-- more is there, nothing of the store changed -/
theorem Rel.keep (r : Rel K L H S) (h : ∀ a o, H a = some o → H' a = some o) : Rel K L H' S := by
  have g : Gr L H L H' := ⟨List.prefix_refl _, fun a o _ _ e => h a o e, fun a x k => absurd x k⟩
  refine ⟨r.len, r.nd, fun i mo e => ?_, fun a z => ⟨let ⟨o, q⟩ := (r.ex a z).1; ⟨o, h a o q⟩, (r.ex a z).2⟩, fun a z o e => ?_, r.nx, fun i P q e => ?_⟩
  rotate_left
  · obtain ⟨⟨o', q⟩, _⟩ := r.ex a z
    have e' := h a o' q
    rw [e] at e'
    cases e'
    exact r.nc a z o q
  · obtain ⟨e1, ps, e2, e3, e4⟩ := r.tb i P q e
    exact ⟨e1, ps, h P _ e2, e3, fun pos cv hc => let ⟨c, a1, a2⟩ := e4 pos cv hc; ⟨c, a1, h c _ a2⟩⟩
  obtain ⟨a, e1, m⟩ := r.at_ i mo e
  refine ⟨a, e1, ?_⟩
  obtain ⟨b, xs, o, h1, h0, h2⟩ := m
  exact ⟨b, xs, o, h a _ h1, h0, h2.grow g⟩
theorem Rel.sw {xn : Option XN} (r : Rel K L H S) : Rel { K with xn := xn } L H S := ⟨r.len, r.nd, fun i mo e => by
  obtain ⟨a, e1, b, xs, o, h1, h0, h2⟩ := r.at_ i mo e
  exact ⟨a, e1, b, xs, o, h1, h0, h2.sw _ xs (r.nx i mo e)⟩, r.ex, r.nc, r.nx, r.tb⟩
theorem Rel.upd (r : Rel K L H S) {p : Addr} {o : HO} (n : H p = none) : Rel K L (upd H p o) S := r.keep fun a u e => by
  rw [upd_ne (ne_of_none e n)]
  exact e
/-- a new thing of the store -/
theorem Rel.push (r : Rel K L H S) {p : Addr} {o : HO} {mo : MO} (n : H p = none) (m : MOk K (L ++ [p]) (L2.upd H p o) S.length p mo) (nx : noXL mo.ds = true) : Rel K (L ++ [p]) (L2.upd H p o) (S ++ [mo]) := by
  have g : Gr L H (L ++ [p]) (L2.upd H p o) := Gr.push n
  refine ⟨by rw [List.length_append, List.length_append, r.len]; rfl, ?_, fun i mo' e => ?_, fun a z => ?_, fun a z o' e => ?_, fun i mo' e => ?nx, fun i P q e => ?_⟩
  case nx =>
    by_cases hi : i < S.length
    · rw [List.getElem?_append_left hi] at e
      exact r.nx i mo' e
    · have e' : i = S.length := by
        have := (List.getElem?_eq_some_iff.mp e).1
        rw [List.length_append, List.length_singleton] at this
        omega
      subst e'
      rw [List.getElem?_append_right (Nat.le_refl _), Nat.sub_self] at e
      cases e
      exact nx
  rotate_left 3
  · obtain ⟨⟨o2, q⟩, _⟩ := r.ex a z
    rw [upd_ne (ne_of_none q n)] at e
    exact r.nc a z o' e
  · obtain ⟨e1, ps, e2, e3, e4⟩ := r.tb i P q e
    refine ⟨fun y => ?_, ps, by rw [upd_ne (ne_of_none e2 n)]; exact e2, e3, fun pos cv hc => let ⟨c, a1, a2⟩ := e4 pos cv hc; ⟨c, a1, by rw [upd_ne (ne_of_none a2 n)]; exact a2⟩⟩
    rcases List.mem_append.mp y with y | y
    · exact e1 y
    · rw [List.mem_singleton.mp y, n] at e2
      cases e2
  rotate_left 2
  · obtain ⟨⟨o', q⟩, k⟩ := r.ex a z
    refine ⟨⟨o', by rw [upd_ne (ne_of_none q n)]; exact q⟩, fun y => ?_⟩
    rcases List.mem_append.mp y with y | y
    · exact k y
    · rw [List.mem_singleton.mp y, n] at q
      cases q
  · exact List.nodup_append.mpr ⟨r.nd, by simp, fun a ha b hb z => r.notIn n (by rw [← List.mem_singleton.mp hb, ← z]; exact ha)⟩
  · by_cases hi : i < S.length
    · rw [List.getElem?_append_left hi] at e
      obtain ⟨a, e1, m'⟩ := r.at_ i mo' e
      refine ⟨a, get_pre g.pre e1, ?_⟩
      obtain ⟨b, xs, o, h1, h0, h2⟩ := m'
      refine ⟨b, xs, o, ?_, h0, h2.grow g⟩
      rw [upd_ne (ne_of_none h1 n)]
      exact h1
    · have e' : i = S.length := by
        have := (List.getElem?_eq_some_iff.mp e).1
        rw [List.length_append, List.length_singleton] at this
        omega
      subst e'
      rw [List.getElem?_append_right (Nat.le_refl _), Nat.sub_self] at e
      cases e
      refine ⟨p, ?_, m⟩
      rw [← r.len, List.getElem?_append_right (Nat.le_refl _), Nat.sub_self]
      rfl
theorem nodup_at {i j : Nat} {a : Addr} (nd : L.Nodup) (hi : L[i]? = some a) (hj : L[j]? = some a) : i = j := by
  obtain ⟨h1, e1⟩ := List.getElem?_eq_some_iff.mp hi
  obtain ⟨h2, e2⟩ := List.getElem?_eq_some_iff.mp hj
  exact (List.getElem_inj nd).mp (e1.trans e2.symm)
/-- a thing of the store is written -/
theorem Rel.noCode_at (r : Rel K L H S) {p : Addr} (hp : p ∈ L) : ∀ {o : HO}, H p = some o → NoCode o := fun {o} e => by
  obtain ⟨i, hi, ei⟩ := List.mem_iff_getElem.mp hp
  have hS : i < S.length := r.len ▸ hi
  obtain ⟨b, e1, m⟩ := r.at_ i S[i] (List.getElem?_eq_getElem hS)
  have e2 : L[i]? = some p := by rw [List.getElem?_eq_getElem hi, ei]
  rw [e2] at e1
  cases e1
  obtain ⟨_, xs, o', h1, h0, _⟩ := m
  rw [e] at h1
  cases h1
  exact noCode_ho h0
theorem Rel.write (r : Rel K L H S) {p : Addr} {o : HO} {mo : MO} {j : Nat} (hp : L[j]? = some p) (m : MOk K L (L2.upd H p o) j p mo) (nx : noXL mo.ds = true) : Rel K L (L2.upd H p o) (S.set j mo) := by
  have g : Gr L H L (L2.upd H p o) := Gr.write (List.mem_of_getElem? hp)
  have pL : p ∈ L := List.mem_of_getElem? hp
  refine ⟨by rw [List.length_set, r.len], r.nd, fun i mo' e => ?_, fun a z => ?_, fun a z o' e => ?_, fun i mo' e => ?nx, fun i P q e => ?_⟩
  case nx =>
    by_cases hij : j = i
    · subst hij
      by_cases hl : j < S.length
      · rw [List.getElem?_set_self hl] at e
        cases e
        exact nx
      · rw [List.getElem?_eq_none (by rw [List.length_set]; omega)] at e
        cases e
    · rw [List.getElem?_set_ne hij] at e
      exact r.nx i mo' e
  rotate_left 2
  · have ne : a ≠ p := fun y => (r.ex a z).2 (by rw [y]; exact pL)
    rw [upd_ne ne] at e
    exact r.nc a z o' e
  · obtain ⟨e1, ps, e2, e3, e4⟩ := r.tb i P q e
    have hne : P ≠ p := fun z => e1 (by rw [z]; exact pL)
    refine ⟨e1, ps, by rw [upd_ne hne]; exact e2, e3, fun pos cv hc => ?_⟩
    obtain ⟨c, a1, a2⟩ := e4 pos cv hc
    refine ⟨c, a1, ?_⟩
    rw [upd_ne (fun z => r.noCode_at (p := c) (by rw [z]; exact pL) a2 c q rfl)]
    exact a2
  rotate_left
  · obtain ⟨⟨o', q⟩, k⟩ := r.ex a z
    exact ⟨⟨o', by rw [upd_ne (fun y => k (by rw [y]; exact List.mem_of_getElem? hp))]; exact q⟩, k⟩
  by_cases hij : j = i
  · subst hij
    by_cases hl : j < S.length
    · rw [List.getElem?_set_self hl] at e
      cases e
      exact ⟨p, hp, m⟩
    · rw [List.getElem?_eq_none (by rw [List.length_set]; omega)] at e
      cases e
  · rw [List.getElem?_set_ne hij] at e
    obtain ⟨a, e1, m'⟩ := r.at_ i mo' e
    refine ⟨a, e1, ?_⟩
    have hne : a ≠ p := fun z => by
      subst z
      exact hij (nodup_at r.nd hp e1)
    obtain ⟨b, xs, o, h1, h0, h2⟩ := m'
    refine ⟨b, xs, o, ?_, h0, h2.grow g⟩
    rw [upd_ne hne]
    exact h1
/-! ### forgetting what is above -/
mutual
theorem Den.cut {n : Nat} : ∀ (d : D) (v : V), d.lo n = true → Den K L H d v → Den K (L.take n) H d v
  | .non, v, _, h => h
  | .bl _, v, _, h => h
  | .int _, v, _, h => h
  | .str _, v, _, h => h
  | .tup ds, v, b, h => by
    rw [D.lo] at b
    rw [Den] at h ⊢
    obtain ⟨a, xs, e, ha, k, r⟩ := h
    exact ⟨a, xs, e, ha, ⟨fun z => k.1 (List.mem_of_mem_take z), k.2⟩, DenL.cut ds xs b r⟩
  | .lst ds, v, b, h => by
    rw [D.lo] at b
    rw [Den] at h ⊢
    obtain ⟨a, xs, e, ha, k, r⟩ := h
    exact ⟨a, xs, e, ha, ⟨fun z => k.1 (List.mem_of_mem_take z), k.2⟩, DenL.cut ds xs b r⟩
  | .scr ds, v, b, h => by
    rw [D.lo] at b
    rw [Den] at h ⊢
    obtain ⟨a, xs, e, ha, r⟩ := h
    refine ⟨a, xs, e, ?_, DenL.cut ds xs b r⟩
    rcases ha with ⟨k, o, ha⟩ | ha
    · exact .inl ⟨⟨fun z => k.1 (List.mem_of_mem_take z), k.2⟩, o, ha⟩
    · exact .inr ha
  | .obj i, v, b, h => by
    rw [D.lo] at b
    rw [Den] at h ⊢
    obtain ⟨a, e, ha⟩ := h
    have b := of_decide_eq_true b
    exact ⟨a, e, by rw [List.getElem?_take_of_lt b]; exact ha⟩
  | .box k ds, v, b, h => by
    rw [D.lo] at b
    rw [Den] at h ⊢
    obtain ⟨a, xs, o, e, ha, hb, k, r⟩ := h
    exact ⟨a, xs, o, e, ha, hb, ⟨fun z => k.1 (List.mem_of_mem_take z), k.2⟩, DenL.cut ds xs b r⟩
  | .exn c ds, v, b, h => by
    rw [D.lo] at b
    rw [Den] at h ⊢
    obtain ⟨a, xs, e, hx, r, z⟩ := h
    exact ⟨a, xs, e, hx, DenL.cut ds xs b r, z.imp_right fun ⟨d, o, e1, e2, eo, n⟩ => ⟨d, o, e1, e2, eo, fun z => n.1 (List.mem_of_mem_take z), n.2⟩⟩
theorem DenL.cut {n : Nat} : ∀ (ds : List D) (xs : List V), loL n ds = true → DenL K L H ds xs → DenL K (L.take n) H ds xs
  | [], xs, _, h => h
  | d :: ds, xs, b, h => by
    rw [loL] at b
    rw [DenL] at h ⊢
    obtain ⟨b1, b2⟩ := Bool.and_eq_true_iff.mp b
    obtain ⟨y, ys, e, r, rs⟩ := h
    exact ⟨y, ys, e, Den.cut d y b1 r, DenL.cut ds ys b2 rs⟩
end
mutual
theorem lo_le {n m : Nat} (h : n ≤ m) : ∀ (d : D), d.lo n = true → d.lo m = true
  | .non, _ => rfl
  | .bl _, _ => rfl
  | .int _, _ => rfl
  | .str _, _ => rfl
  | .tup ds, b => by
    rw [D.lo] at b ⊢
    exact loL_le h ds b
  | .lst ds, b => by
    rw [D.lo] at b ⊢
    exact loL_le h ds b
  | .scr ds, b => by
    rw [D.lo] at b ⊢
    exact loL_le h ds b
  | .obj i, b => by
    rw [D.lo] at b ⊢
    exact decide_eq_true (Nat.lt_of_lt_of_le (of_decide_eq_true b) h)
  | .box _ ds, b => by
    rw [D.lo] at b ⊢
    exact loL_le h ds b
  | .exn _ ds, b => by
    rw [D.lo] at b ⊢
    exact loL_le h ds b
theorem loL_le {n m : Nat} (h : n ≤ m) : ∀ (ds : List D), loL n ds = true → loL m ds = true
  | [], _ => rfl
  | d :: ds, b => by
    rw [loL] at b ⊢
    obtain ⟨b1, b2⟩ := Bool.and_eq_true_iff.mp b
    rw [lo_le h d b1, loL_le h ds b2]
    rfl
end
theorem Rel.cut (r : Rel K L H S) (n : Nat) : Rel K (L.take n) H (S.take n) := by
  refine ⟨by rw [List.length_take, List.length_take, r.len], r.nd.sublist (List.take_sublist _ _), fun i mo e => ?_, fun a z => ⟨(r.ex a z).1, fun y => (r.ex a z).2 (List.mem_of_mem_take y)⟩, r.nc, fun i mo e => ?nx, fun i P q e => ?_⟩
  case nx =>
    have hi : i < n := by
      have := (List.getElem?_eq_some_iff.mp e).1
      rw [List.length_take] at this
      omega
    rw [List.getElem?_take_of_lt hi] at e
    exact r.nx i mo e
  rotate_left
  · obtain ⟨e1, e2⟩ := r.tb i P q e
    exact ⟨fun y => e1 (List.mem_of_mem_take y), e2⟩
  have hi : i < n := by
    have := (List.getElem?_eq_some_iff.mp e).1
    rw [List.length_take] at this
    omega
  rw [List.getElem?_take_of_lt hi] at e
  obtain ⟨a, e1, m⟩ := r.at_ i mo e
  refine ⟨a, by rw [List.getElem?_take_of_lt hi]; exact e1, ?_⟩
  obtain ⟨b, xs, o, h1, h0, h2⟩ := m
  exact ⟨b, xs, o, h1, h0, h2.cut _ xs (loL_le (Nat.le_of_lt hi) _ b)⟩
/-! ### a list in the making -/
mutual
/-- what is not there is spoken of by nothing -/
theorem Den.sub {ex : List Addr} (m_ : ∀ p ∈ ex, p ∈ K.ex ∨ H p = none) : ∀ (d : D) (v : V), Den K L H d v → Den { K with ex := ex } L H d v
  | .non, v, h => h
  | .bl _, v, h => h
  | .int _, v, h => h
  | .str _, v, h => h
  | .tup ds, v, h => by
    rw [Den] at h ⊢
    obtain ⟨a, xs, e, ha, k, r⟩ := h
    exact ⟨a, xs, e, ha, ⟨k.1, fun z => (m_ a z).elim k.2 fun y => by rw [y] at ha; cases ha⟩, DenL.sub m_ ds xs r⟩
  | .lst ds, v, h => by
    rw [Den] at h ⊢
    obtain ⟨a, xs, e, ha, k, r⟩ := h
    exact ⟨a, xs, e, ha, ⟨k.1, fun z => (m_ a z).elim k.2 fun y => by rw [y] at ha; cases ha⟩, DenL.sub m_ ds xs r⟩
  | .scr ds, v, h => by
    rw [Den] at h ⊢
    obtain ⟨a, xs, e, ha, r⟩ := h
    refine ⟨a, xs, e, ?_, DenL.sub m_ ds xs r⟩
    rcases ha with ⟨k, o, ha⟩ | ha
    · exact .inl ⟨⟨k.1, fun z => (m_ a z).elim k.2 fun y => by rw [y] at ha; cases ha⟩, o, ha⟩
    · exact .inr ha
  | .obj i, v, h => by
    rw [Den] at h ⊢
    exact h
  | .box k ds, v, h => by
    rw [Den] at h ⊢
    obtain ⟨a, xs, o, e, ha, hb, n, r⟩ := h
    exact ⟨a, xs, o, e, ha, hb, ⟨n.1, fun z => (m_ a z).elim n.2 fun y => by rw [y] at ha; cases ha⟩, DenL.sub m_ ds xs r⟩
  | .exn c ds, v, h => by
    rw [Den] at h ⊢
    obtain ⟨a, xs, e, hx, r, z⟩ := h
    refine ⟨a, xs, e, hx, DenL.sub m_ ds xs r, z.imp_right fun ⟨d, o, e1, e2, eo, n⟩ => ⟨d, o, e1, ?_, eo, ?_⟩⟩
    · exact e2
    · exact ⟨n.1, fun z => (m_ d z).elim n.2 fun y => by rw [y] at e2; cases e2⟩
theorem DenL.sub {ex : List Addr} (m_ : ∀ p ∈ ex, p ∈ K.ex ∨ H p = none) : ∀ (ds : List D) (xs : List V), DenL K L H ds xs → DenL { K with ex := ex } L H ds xs
  | [], xs, h => h
  | d :: ds, xs, h => by
    rw [DenL] at h ⊢
    obtain ⟨y, ys, e, r, rs⟩ := h
    exact ⟨y, ys, e, Den.sub m_ d y r, DenL.sub m_ ds ys rs⟩
end
theorem Den.in_ {p : Addr} (n : H p = none) (d : D) (v : V) (h : Den K L H d v) : Den { K with ex := p :: K.ex } L H d v := h.sub fun q z => (List.mem_cons.mp z).elim (fun y => .inr (by rw [y]; exact n)) .inl
theorem DenL.in_ {p : Addr} (n : H p = none) (ds : List D) (xs : List V) (h : DenL K L H ds xs) : DenL { K with ex := p :: K.ex } L H ds xs := h.sub fun q z => (List.mem_cons.mp z).elim (fun y => .inr (by rw [y]; exact n)) .inl
mutual
theorem Den.out {p : Addr} : ∀ (d : D) (v : V), Den { K with ex := p :: K.ex } L H d v → Den K L H d v
  | .non, v, h => h
  | .bl _, v, h => h
  | .int _, v, h => h
  | .str _, v, h => h
  | .tup ds, v, h => by
    rw [Den] at h ⊢
    obtain ⟨a, xs, e, ha, k, r⟩ := h
    exact ⟨a, xs, e, ha, ⟨k.1, fun z => k.2 (List.mem_cons_of_mem _ z)⟩, DenL.out ds xs r⟩
  | .lst ds, v, h => by
    rw [Den] at h ⊢
    obtain ⟨a, xs, e, ha, k, r⟩ := h
    exact ⟨a, xs, e, ha, ⟨k.1, fun z => k.2 (List.mem_cons_of_mem _ z)⟩, DenL.out ds xs r⟩
  | .scr ds, v, h => by
    rw [Den] at h ⊢
    obtain ⟨a, xs, e, ha, r⟩ := h
    refine ⟨a, xs, e, ?_, DenL.out ds xs r⟩
    rcases ha with ⟨k, o, ha⟩ | ha
    · exact .inl ⟨⟨k.1, fun z => k.2 (List.mem_cons_of_mem _ z)⟩, o, ha⟩
    · exact .inr ha
  | .obj i, v, h => by
    rw [Den] at h ⊢
    exact h
  | .box k ds, v, h => by
    rw [Den] at h ⊢
    obtain ⟨a, xs, o, e, ha, hb, n, r⟩ := h
    exact ⟨a, xs, o, e, ha, hb, ⟨n.1, fun z => n.2 (List.mem_cons_of_mem _ z)⟩, DenL.out ds xs r⟩
  | .exn c ds, v, h => by
    rw [Den] at h ⊢
    obtain ⟨a, xs, e, hx, r, z⟩ := h
    refine ⟨a, xs, e, hx, DenL.out ds xs r, z.imp_right fun ⟨d, o, e1, e2, eo, n⟩ => ⟨d, o, e1, ?_, eo, ?_⟩⟩
    · exact e2
    · exact ⟨n.1, fun z => n.2 (List.mem_cons_of_mem _ z)⟩
theorem DenL.out {p : Addr} : ∀ (ds : List D) (xs : List V), DenL { K with ex := p :: K.ex } L H ds xs → DenL K L H ds xs
  | [], xs, h => h
  | d :: ds, xs, h => by
    rw [DenL] at h ⊢
    obtain ⟨y, ys, e, r, rs⟩ := h
    exact ⟨y, ys, e, Den.out d y r, DenL.out ds ys rs⟩
end
mutual
/-- what is in the making may change -/
theorem Den.mk {p : Addr} (hp : p ∈ K.ex) {o : HO} : ∀ (d : D) (v : V), Den K L H d v → Den K L (L2.upd H p o) d v
  | .non, v, h => h
  | .bl _, v, h => h
  | .int _, v, h => h
  | .str _, v, h => h
  | .tup ds, v, h => by
    rw [Den] at h ⊢
    obtain ⟨a, xs, e, ha, k, r⟩ := h
    exact ⟨a, xs, e, by rw [upd_ne (fun z => k.2 (by rw [z]; exact hp))]; exact ha, k, DenL.mk hp ds xs r⟩
  | .lst ds, v, h => by
    rw [Den] at h ⊢
    obtain ⟨a, xs, e, ha, k, r⟩ := h
    exact ⟨a, xs, e, by rw [upd_ne (fun z => k.2 (by rw [z]; exact hp))]; exact ha, k, DenL.mk hp ds xs r⟩
  | .scr ds, v, h => by
    rw [Den] at h ⊢
    obtain ⟨a, xs, e, ha, r⟩ := h
    refine ⟨a, xs, e, ?_, DenL.mk hp ds xs r⟩
    rcases ha with ⟨k, o, ha⟩ | ha
    · exact .inl ⟨k, o, by rw [upd_ne (fun z => k.2 (by rw [z]; exact hp))]; exact ha⟩
    · exact .inr ha
  | .obj i, v, h => by
    rw [Den] at h ⊢
    exact h
  | .box k ds, v, h => by
    rw [Den] at h ⊢
    obtain ⟨a, xs, o, e, ha, hb, n, r⟩ := h
    exact ⟨a, xs, _, e, by rw [upd_ne (fun z => n.2 (by rw [z]; exact hp))]; exact ha, hb, n, DenL.mk hp ds xs r⟩
  | .exn c ds, v, h => by
    rw [Den] at h ⊢
    obtain ⟨a, xs, e, hx, r, z⟩ := h
    refine ⟨a, xs, e, hx, DenL.mk hp ds xs r, z.imp_right fun ⟨d, o, e1, e2, eo, n⟩ => ⟨d, o, e1, ?_, eo, ?_⟩⟩
    · rw [upd_ne (fun z => n.2 (by rw [z]; exact hp))]
      exact e2
    · exact n
theorem DenL.mk {p : Addr} (hp : p ∈ K.ex) {o : HO} : ∀ (ds : List D) (xs : List V), DenL K L H ds xs → DenL K L (L2.upd H p o) ds xs
  | [], xs, h => h
  | d :: ds, xs, h => by
    rw [DenL] at h ⊢
    obtain ⟨y, ys, e, r, rs⟩ := h
    exact ⟨y, ys, e, Den.mk hp d y r, DenL.mk hp ds ys rs⟩
end
theorem free_adopt {p a : Addr} (k : Free { K with ex := p :: K.ex } L a) : Free K (L ++ [p]) a := by
  refine ⟨fun z => ?_, fun z => k.2 (List.mem_cons_of_mem _ z)⟩
  rcases List.mem_append.mp z with z | z
  · exact k.1 z
  · exact k.2 (by rw [List.mem_singleton.mp z]; exact List.mem_cons_self)
theorem ERel.in_ {p : Addr} (n : H p = none) (r : ERel K L H σd σ) : ERel { K with ex := p :: K.ex } L H σd σ := ⟨r.len, fun i d e => let ⟨v, a, b⟩ := r.at_ i d e; ⟨v, a, b.in_ n⟩⟩
theorem ERel.mk_ {p : Addr} (hp : p ∈ K.ex) {o : HO} (r : ERel K L H σd σ) : ERel K L (L2.upd H p o) σd σ := ⟨r.len, fun i d e => let ⟨v, a, b⟩ := r.at_ i d e; ⟨v, a, b.mk hp⟩⟩
theorem MOk.imp {K' : KX} {L' : List Addr} {H' : Hp} {i : Nat} {a : Addr} {mo : MO} (h : MOk K L H i a mo) (ha : ∀ o, H a = some o → H' a = some o) (hd : ∀ ds xs, DenL K L H ds xs → DenL K' L' H' ds xs) (hf : K'.hf = K.hf := by rfl) (hc : K'.cl = K.cl := by rfl) : MOk K' L' H' i a mo := by
  obtain ⟨b, xs, o, h1, h0, h2⟩ := h
  exact ⟨b, xs, o, ha _ h1, by rw [hf, hc]; exact h0, hd _ _ h2⟩
theorem MOk.lst {i : Nat} {a : Addr} {l : List D} (h : MOk K L H i a (.lst l)) : loL i l = true ∧ ∃ xs, H a = some (.lst xs) ∧ DenL K L H l xs := by
  obtain ⟨b, xs, o, h1, h0, h2⟩ := h
  cases (show o = HO.lst xs from h0)
  exact ⟨b, xs, h1, h2⟩
theorem MOk.of_lst {i : Nat} {a : Addr} {l : List D} (h : loL i l = true ∧ ∃ xs, H a = some (.lst xs) ∧ DenL K L H l xs) : MOk K L H i a (.lst l) := by
  obtain ⟨b, xs, h1, h2⟩ := h
  exact ⟨b, xs, _, h1, rfl, h2⟩
/-- p begins to be made -/
theorem Rel.in_ {p : Addr} {o : HO} (n : H p = none) (r : Rel K L H S) (nc : NoCT o := by first | exact noCT_lst | exact noCT_raw) : Rel { K with ex := p :: K.ex } L (L2.upd H p o) S := by
  refine ⟨r.len, r.nd, fun i mo e => ?_, fun a z => ?_, fun a z o' e => ?_, r.nx, fun i P q e => ?_⟩
  rotate_left 2
  · rcases List.mem_cons.mp z with rfl | z
    · rw [upd_same] at e
      cases e
      exact nc
    · obtain ⟨⟨o2, q⟩, _⟩ := r.ex a z
      rw [upd_ne (ne_of_none q n)] at e
      exact r.nc a z o' e
  · obtain ⟨e1, ps, e2, e3, e4⟩ := r.tb i P q e
    exact ⟨e1, ps, by rw [upd_ne (ne_of_none e2 n)]; exact e2, e3, fun pos cv hc => let ⟨c, a1, a2⟩ := e4 pos cv hc; ⟨c, a1, by rw [upd_ne (ne_of_none a2 n)]; exact a2⟩⟩
  · obtain ⟨a, e1, m⟩ := r.at_ i mo e
    refine ⟨a, e1, m.imp (fun o q => by rw [upd_ne (ne_of_none q n)]; exact q) fun ds xs q => ?_⟩
    exact DenL.mk (K := { K with ex := p :: K.ex }) List.mem_cons_self _ _ (q.in_ n)
  · rcases List.mem_cons.mp z with rfl | z
    · exact ⟨⟨o, upd_same⟩, r.notIn n⟩
    · obtain ⟨⟨o', q⟩, k⟩ := r.ex a z
      exact ⟨⟨o', by rw [upd_ne (ne_of_none q n)]; exact q⟩, k⟩
theorem Rel.mk_ {p : Addr} (hp : p ∈ K.ex) {o : HO} (r : Rel K L H S) (nc : NoCT o := by first | exact noCT_lst | exact noCT_raw) : Rel K L (L2.upd H p o) S := by
  refine ⟨r.len, r.nd, fun i mo e => ?_, fun a z => ?_, fun a z o' e => ?_, r.nx, fun i P q e => ?_⟩
  rotate_left 2
  · by_cases h : a = p
    · rw [h, upd_same] at e
      cases e
      exact nc
    · rw [upd_ne h] at e
      exact r.nc a z o' e
  · obtain ⟨e1, ps, e2, e3, e4⟩ := r.tb i P q e
    refine ⟨e1, ps, by rw [upd_ne (fun z => by subst z; exact (r.nc _ hp _ e2).2 ps rfl)]; exact e2, e3, fun pos cv hc => ?_⟩
    obtain ⟨c, a1, a2⟩ := e4 pos cv hc
    refine ⟨c, a1, ?_⟩
    rw [upd_ne (fun z => by subst z; exact (r.nc _ hp _ a2).1 _ q rfl)]
    exact a2
  · obtain ⟨a, e1, m⟩ := r.at_ i mo e
    refine ⟨a, e1, m.imp (fun o q => ?_) fun ds xs q => q.mk hp⟩
    rw [upd_ne (fun z => (r.ex p hp).2 (by rw [← z]; exact List.mem_of_getElem? e1))]
    exact q
  · obtain ⟨⟨o', q⟩, k⟩ := r.ex a z
    by_cases h : a = p
    · exact ⟨⟨o, by rw [h]; exact upd_same⟩, k⟩
    · exact ⟨⟨o', by rw [upd_ne h]; exact q⟩, k⟩
theorem Rel.out {p : Addr} (r : Rel { K with ex := p :: K.ex } L H S) : Rel K L H S :=
  ⟨r.len, r.nd, fun i mo e => let ⟨a, e1, m⟩ := r.at_ i mo e; ⟨a, e1, m.imp (fun _ q => q) fun ds xs q => q.out⟩, fun a z => r.ex a (List.mem_cons_of_mem _ z), fun a z => r.nc a (List.mem_cons_of_mem _ z), r.nx, r.tb⟩
mutual
/-- what was in the making is one of the things -/
theorem Den.adopt {p : Addr} : ∀ (d : D) (v : V), Den { K with ex := p :: K.ex } L H d v → Den K (L ++ [p]) H d v
  | .non, v, h => h
  | .bl _, v, h => h
  | .int _, v, h => h
  | .str _, v, h => h
  | .tup ds, v, h => by
    rw [Den] at h ⊢
    obtain ⟨a, xs, e, ha, k, r⟩ := h
    exact ⟨a, xs, e, ha, free_adopt k, DenL.adopt ds xs r⟩
  | .lst ds, v, h => by
    rw [Den] at h ⊢
    obtain ⟨a, xs, e, ha, k, r⟩ := h
    exact ⟨a, xs, e, ha, free_adopt k, DenL.adopt ds xs r⟩
  | .scr ds, v, h => by
    rw [Den] at h ⊢
    obtain ⟨a, xs, e, ha, r⟩ := h
    refine ⟨a, xs, e, ?_, DenL.adopt ds xs r⟩
    rcases ha with ⟨k, o, ha⟩ | ha
    · exact .inl ⟨free_adopt k, o, ha⟩
    · exact .inr ha
  | .obj i, v, h => by
    rw [Den] at h ⊢
    obtain ⟨a, e, ha⟩ := h
    exact ⟨a, e, get_pre (List.prefix_append _ _) ha⟩
  | .box k ds, v, h => by
    rw [Den] at h ⊢
    obtain ⟨a, xs, o, e, ha, hb, n, r⟩ := h
    exact ⟨a, xs, o, e, ha, hb, free_adopt n, DenL.adopt ds xs r⟩
  | .exn c ds, v, h => by
    rw [Den] at h ⊢
    obtain ⟨a, xs, e, hx, r, z⟩ := h
    refine ⟨a, xs, e, hx, DenL.adopt ds xs r, z.imp_right fun ⟨d, o, e1, e2, eo, n⟩ => ⟨d, o, e1, ?_, eo, ?_⟩⟩
    · exact e2
    · exact free_adopt n
theorem DenL.adopt {p : Addr} : ∀ (ds : List D) (xs : List V), DenL { K with ex := p :: K.ex } L H ds xs → DenL K (L ++ [p]) H ds xs
  | [], xs, h => h
  | d :: ds, xs, h => by
    rw [DenL] at h ⊢
    obtain ⟨y, ys, e, r, rs⟩ := h
    exact ⟨y, ys, e, Den.adopt d y r, DenL.adopt ds ys rs⟩
end
theorem Rel.adopt {p : Addr} {ds : List D} {vs : List V} (r : Rel { K with ex := p :: K.ex } L H S) (hp : H p = some (.lst vs)) (lo : loL S.length ds = true) (d : DenL { K with ex := p :: K.ex } L H ds vs) (ne : p ∉ K.ex) (nx : noXL ds = true) : Rel K (L ++ [p]) H (S ++ [.lst ds]) := by
  have nL : p ∉ L := (r.ex p List.mem_cons_self).2
  refine ⟨by rw [List.length_append, List.length_append, r.len]; rfl, ?_, fun i mo e => ?_, fun a z => ⟨(r.ex a (List.mem_cons_of_mem _ z)).1, fun y => ?_⟩, fun a z => r.nc a (List.mem_cons_of_mem _ z), fun i mo' e => ?nx, fun i P q e => ?_⟩
  case nx =>
    by_cases hi : i < S.length
    · rw [List.getElem?_append_left hi] at e
      exact r.nx i mo' e
    · have e' : i = S.length := by
        have := (List.getElem?_eq_some_iff.mp e).1
        rw [List.length_append, List.length_singleton] at this
        omega
      subst e'
      rw [List.getElem?_append_right (Nat.le_refl _), Nat.sub_self] at e
      cases e
      exact nx
  rotate_left 3
  · obtain ⟨e1, ps, e2, e3⟩ := r.tb i P q e
    refine ⟨fun y => ?_, ps, e2, e3⟩
    rcases List.mem_append.mp y with y | y
    · exact e1 y
    · rw [List.mem_singleton.mp y, hp] at e2
      cases e2
  · exact List.nodup_append.mpr ⟨r.nd, by simp, fun a ha b hb z => nL (by rw [← List.mem_singleton.mp hb, ← z]; exact ha)⟩
  · by_cases hi : i < S.length
    · rw [List.getElem?_append_left hi] at e
      obtain ⟨a, e1, m⟩ := r.at_ i mo e
      exact ⟨a, get_pre (List.prefix_append _ _) e1, m.imp (fun _ q => q) fun ds xs q => q.adopt⟩
    · have e' : i = S.length := by
        have := (List.getElem?_eq_some_iff.mp e).1
        rw [List.length_append, List.length_singleton] at this
        omega
      subst e'
      rw [List.getElem?_append_right (Nat.le_refl _), Nat.sub_self] at e
      cases e
      refine ⟨p, ?_, lo, vs, _, hp, rfl, d.adopt⟩
      rw [← r.len, List.getElem?_append_right (Nat.le_refl _), Nat.sub_self]
      rfl
  · rcases List.mem_append.mp y with y | y
    · exact (r.ex a (List.mem_cons_of_mem _ z)).2 y
    · exact ne (by rw [← List.mem_singleton.mp y]; exact z)
theorem ERel.forget (r : ERel K L H σd σ) {f : Option D → Option D} (hf : ∀ o d, f o = some d → o = some d) : ERel K L H (σd.map f) σ := by
  refine ⟨by rw [List.length_map, r.len], fun i d e => ?_⟩
  rw [List.getElem?_map] at e
  cases q : σd[i]? with
  | none => rw [q] at e; cases e
  | some o =>
    rw [q] at e
    simp only [Option.map_some, Option.some.injEq] at e
    exact r.at_ i d (by rw [q, hf o d e])
end
end Rs

namespace Rs
open PySem PySem.Spec PyProof.Rows L2

/-! ### the forms -/
inductive Op2 where
  | add | sub | mul | fdiv | mod | pow
inductive Cm where
  | eq | ne | lt | le | gt | ge | is | isn | mem | nmem
inductive Bi where
  | len | tuple | list | all | int | max2 | min2 | maxl | repr | str | sorted
inductive Mt where
  | append | extend | pop | popAt | index | count | get
inductive Ty where
  | int | bool | str | tuple | list
inductive QT where
  | nm (i : Nat)
  | tp (ts : List QT)
mutual
inductive QE where
  | var (i : Nat)
  | con (d : D)
  | neg (a : QE)
  | not (a : QE)
  | bin (o : Op2) (a b : QE)
  | cmp (o : Cm) (a b : QE)
  | chn (o p : Cm) (a b c : QE)
  | and (a b : QE)
  | or (a b : QE)
  | ife (c a b : QE)
  | idx (a b : QE)
  | slc (a lo hi : QE)
  | rev (a : QE)
  | odd (a : QE)
  | tup (es : QEs)
  | lst (es : QEs)
  | call (k : Nat) (es : QEs)
  | bi (b : Bi) (es : QEs)
  | mth (m : Mt) (o : QE) (es : QEs)
  | isi (a : QE) (t : Ty)
  | comp (t : QT) (it : QI) (cond : QE) (elt : QE)
  | compO (t : QT) (a : QE) (cond : QE) (elt : QE)
  | srt (a : QE)
  | lrg (t : Bool) (it : QI)
  /-- isinstance of the exception that is handled -/
  | isx (a : QE) (c : Nat)
  /-- its field, an instance's own field -/
  | fld (a : QE) (f : Str)
  /-- x.count(True), x.index(True) -/
  | tru (ix : Bool) (a : QE)
  /-- the call of the function that was handed in -/
  | thk
  /-- f(lambda: e) -/
  | said (ti k : Nat) (e : QE)
  /-- a call within an except suite -/
  | hc (k : Nat) (es : QEs)
  | no
inductive QEs where
  | nil
  | cons (e : QE) (es : QEs)
  | star (e : QE) (es : QEs)
inductive QI where
  | val (e : QE)
  | rng1 (a : QE)
  | rng2 (a b : QE)
  | rng3 (a b : QE) (c : Int)
  | enm (a : QE)
  | zip (a b : QE)
end
inductive QP where
  | val (d : D)
  | alt (ps : List QP)
  | seq (ps : List QP)
/-- what makes a thing of the store, or a value -/
inductive QN where
  | val (e : QE)
  | lst (e : QE)
  | dct (k v : QE)
mutual
inductive QS where
  | set (t : QT) (e : QE)
  | setN (i : Nat) (q : QN)
  | parN (ts : List Nat) (qs : List QN)
  | setM (i : Nat) (e : QE)
  | par (ts : List Nat) (es : QEs)
  | aug (i : Nat) (o : Op2) (e : QE)
  | sub (a i e : QE)
  | expr (e : QE)
  | ret (e : QE)
  | retM (e : QE)
  | ife (c : QE) (a b : List QS)
  | for_ (t : QT) (it : QI) (w : List Nat) (b : List QS)
  | whl (c : QE) (w : List Nat) (b : List QS)
  | pass
  | brk
  | cnt
  | never
  | mtch (e : QE) (cs : QCs)
  | raise (c : Nat) (es : QEs)
  | try_ (b : List QS) (hs : QHs)
inductive QCs where
  | nil
  | cons (p : QP) (b : List QS) (cs : QCs)
/-- except class c as slot i -/
inductive QHs where
  | nil
  | cons (c i : Nat) (b : List QS) (hs : QHs)
end

/-! ### values -/
mutual
/-- data as such -/
def D.toPy : D → PyData
  | .non => .none
  | .bl b => .bool b
  | .int i => .int i
  | .str s => .str s
  | .tup l => .tuple (toPyL l)
  | .lst l => .list (toPyL l)
  | .scr l => .list (toPyL l)
  | .obj _ => .none
  | .box _ _ => .none
  | .exn _ _ => .none
def toPyL : List D → List PyData
  | [] => []
  | d :: ds => d.toPy :: toPyL ds
end
mutual
/-- plain data of a depth below k, its texts of real signs -/
def D.fit : D → Nat → Bool
  | .non, _ => true
  | .bl _, _ => true
  | .int _, _ => true
  | .str s, _ => PyData.strOk s
  | .tup l, k => match k with
    | 0 => false
    | k + 1 => fitL l k
  | .lst l, k => match k with
    | 0 => false
    | k + 1 => fitL l k
  | .scr _, _ => false
  | .obj _, _ => false
  | .box _ _, _ => false
  | .exn _ _, _ => false
def fitL : List D → Nat → Bool
  | [], _ => true
  | d :: ds, k => d.fit k && fitL ds k
end
mutual
def eqT : D → D → Bool
  | .non, .non => true
  | .bl a, .bl b => a == b
  | .bl a, .int j => (if a = true then 1 else 0) == j
  | .int i, .bl b => i == (if b = true then 1 else 0)
  | .int a, .int b => a == b
  | .str a, .str b => a == b
  | .tup a, .tup b => eqLT a b
  | .lst a, .lst b => eqLT a b
  | _, _ => false
def eqLT : List D → List D → Bool
  | [], [] => true
  | x :: xs, y :: ys => eqT x y && eqLT xs ys
  | _, _ => false
end
/-- == ; none: not served -/
def eqD : D → D → Option Bool
  | .str a, .str b => some (decide (a = b))
  | a, b => if a.fit 60 = true ∧ b.fit 60 = true then some (eqT a b) else none
/-- a list of the store, as it is now -/
def thaw (S : Store) : D → D
  | .obj i => match S[i]? with
    | some (.lst l) => .lst l
    | _ => .obj i
  | .non => .non
  | .bl b => .bl b
  | .int i => .int i
  | .str s => .str s
  | .tup l => .tup l
  | .lst l => .lst l
  | .scr l => .scr l
  | .box k l => .box k l
  | .exn k l => .exn k l
def flatD : D → Bool
  | .non => true
  | .bl _ => true
  | .int _ => true
  | .str _ => true
  | _ => false
def binD (o : Op2) (a b : D) : Option D := match o, a, b with
  | .add, .int i, .int j => some (.int (i + j))
  | .add, .str i, .str j => if i.length + j.length ≤ sizeLine then some (.str (i ++ j)) else none
  | .add, .tup i, .tup j => if i.length + j.length ≤ sizeLine then some (.tup (i ++ j)) else none
  | .add, .lst i, .lst j => if i.length + j.length ≤ sizeLine then some (.lst (i ++ j)) else none
  | .sub, .int i, .int j => some (.int (i - j))
  | .mul, .int i, .int j => if (-(2 ^ 64) < i ∧ i < 2 ^ 64) ∨ (-(2 ^ 64) < j ∧ j < 2 ^ 64) then some (.int (i * j)) else none
  | .mul, .tup l, .int k => if 0 < l.length ∧ l.length ≤ 1000 ∧ -1000 ≤ k ∧ k ≤ 1000 then some (.tup (List.replicate k.toNat l).flatten) else none
  | .mul, .lst l, .int k => if l.length ≤ 1000 ∧ -1000 ≤ k ∧ k ≤ 1000 then some (.lst (List.replicate k.toNat l).flatten) else none
  | .fdiv, .int i, .int j => if j ≠ 0 ∧ j.natAbs < 1073741824 then some (.int (i.fdiv j)) else none
  | .mod, .int i, .int j => if j ≠ 0 then some (.int (i.fmod j)) else none
  | .pow, .int i, .int j => if 0 ≤ j ∧ j ≤ 1000000 ∧ i.natAbs < 2 ^ 64 then some (.int (i ^ j.toNat)) else none
  | _, _, _ => none
/-- what is walked, what has items -/
def itemsD (S : Store) : D → Option (List D)
  | .tup l => some l
  | .lst l => some l
  | .scr l => some l
  | .obj i => match S[i]? with
    | some (.lst l) => some l
    | _ => none
  | _ => none
/-- y = x of flat things -/
def eqF : D → D → Bool
  | .non, .non => true
  | .bl a, .bl b => a == b
  | .bl a, .int j => (if a = true then 1 else 0) == j
  | .int i, .bl b => i == (if b = true then 1 else 0)
  | .int a, .int b => a == b
  | .str a, .str b => a == b
  | _, _ => false
mutual
/-- the same thing, by its parts -/
def same : D → D → Bool
  | .non, .non => true
  | .bl a, .bl b => a == b
  | .int a, .int b => decide (a = b)
  | .str a, .str b => decide (a = b)
  | .tup l, .tup m => sameL l m
  | .lst l, .lst m => sameL l m
  | .scr l, .scr m => sameL l m
  | .obj i, .obj j => decide (i = j)
  | .box k l, .box j m => decide (k = j) && sameL l m
  | .exn k l, .exn j m => decide (k = j) && sameL l m
  | _, _ => false
def sameL : List D → List D → Bool
  | [], [] => true
  | a :: l, b :: m => same a b && sameL l m
  | _, _ => false
end
mutual
theorem same_eq : ∀ {a b : D}, same a b = true → a = b
  | a, b, h => by
    cases a <;> cases b <;> simp only [same, Bool.false_eq_true, beq_iff_eq, decide_eq_true_eq, Bool.and_eq_true] at h <;> first
      | rfl
      | rw [h]
      | rw [sameL_eq h]
      | rw [h.1, sameL_eq h.2]
theorem sameL_eq : ∀ {l m : List D}, sameL l m = true → l = m
  | [], [], _ => rfl
  | a :: l, b :: m, h => by
    rw [sameL, Bool.and_eq_true] at h
    rw [same_eq h.1, sameL_eq h.2]
  | [], b :: m, h => by simp [sameL] at h
  | a :: l, [], h => by simp [sameL] at h
end
mutual
theorem same_refl : ∀ a : D, same a a = true
  | .non => by rw [same]
  | .bl b => by simp [same]
  | .int i => by simp [same]
  | .str s => by simp [same]
  | .tup l => by rw [same, sameL_refl]
  | .lst l => by rw [same, sameL_refl]
  | .scr l => by rw [same, sameL_refl]
  | .obj i => by simp [same]
  | .box k l => by rw [same, sameL_refl]; simp
  | .exn k l => by rw [same, sameL_refl]; simp
theorem sameL_refl : ∀ l : List D, sameL l l = true
  | [] => by rw [sameL]
  | a :: l => by rw [sameL, same_refl, sameL_refl] <;> rfl
end
/-- the pairs of a dict as they are looked up -/
def getK (kvs : List (D × D)) (k : D) : Option D := (kvs.find? fun p => same p.1 k).map (·.2)
def isT : D → Bool
  | .tup _ => true
  | _ => false
/-- the dict that stands for it -/
def dctD (S : Store) : D → Option (List (D × D))
  | .obj i => match S[i]? with
    | some (.dct kvs) => some kvs
    | _ => none
  | _ => none
def memD (S : Store) (x c : D) : Option Bool := (itemsD S c).bind fun l =>
  if flatD x = true ∧ l.all flatD = true then some (l.any fun y => eqF y x) else match c with
    | .lst _ => if x.fit 60 = true ∧ fitL l 59 = true then some (l.any fun y => eqT y x) else none
    | .tup _ => if x.fit 60 = true ∧ fitL l 59 = true then some (l.any fun y => eqT y x) else none
    | _ => none
def memQ (S : Store) (x c : D) : Option Bool := match dctD S c with
  | some kvs => if isT x = true ∧ keyOk x 8 = true then some (getK kvs x).isSome else none
  | none => memD S x c
def isD (a b : D) : Option Bool := match a, b with
  | .bl x, .bl y => some (x == y)
  | .non, .non => some true
  | .bl _, .non => some false
  | .int _, .non => some false
  | .str _, .non => some false
  | .tup _, .non => some false
  | .lst _, .non => some false
  | .obj _, .non => some false
  | .box _ _, .non => some false
  | _, _ => none
def intsD : List D → Option (List Int)
  | [] => some []
  | .int i :: ds => (intsD ds).map (i :: ·)
  | _ :: _ => none
/-- from the first pair that differs on -/
def ltI : List Int → List Int → Bool
  | [], [] => false
  | [], _ :: _ => true
  | _ :: _, [] => false
  | x :: xs, y :: ys => if x = y then ltI xs ys else decide (x < y)
def cmpD (o : Cm) (a b : D) (S : Store) : Option Bool := match o with
  | .eq => eqD (thaw S a) (thaw S b)
  | .ne => (eqD (thaw S a) (thaw S b)).map (!·)
  | .lt => match a, b with
    | .int i, .int j => some (decide (i < j))
    | .tup l, .tup m => match intsD l, intsD m with
      | some ns, some ms => some (ltI ns ms)
      | _, _ => none
    | _, _ => none
  | .le => match a, b with
    | .int i, .int j => some (decide (i ≤ j))
    | _, _ => none
  | .gt => match a, b with
    | .int i, .int j => some (decide (j < i))
    | _, _ => none
  | .ge => match a, b with
    | .int i, .int j => some (decide (j ≤ i))
    | _, _ => none
  | .is => isD a b
  | .isn => (isD a b).map (!·)
  | .mem => memQ S a b
  | .nmem => (memQ S a b).map (!·)
def idxD (a b : D) (S : Store) : Option D := match b with
  | .int i => (itemsD S a).bind fun l => L2.atI l i
  | .tup m => match dctD S a with
    | some kvs => if keyOk (.tup m) 8 = true then getK kvs (.tup m) else none
    | none => none
  | _ => none
def cutL (l : List D) (lo hi : Option Int) : List D := (l.drop (HT.sIx l.length 0 lo)).take (HT.sIx l.length l.length hi - HT.sIx l.length 0 lo)
def slcD (a : D) (lo hi : Option Int) : Option D := match a with
  | .tup l => some (.tup (cutL l lo hi))
  | .lst l => some (.lst (cutL l lo hi))
  | _ => none
def revD (a : D) : Option D := match a with
  | .lst l => some (.lst l.reverse)
  | .tup l => some (.tup l.reverse)
  | _ => none
def allB : List D → Option Bool
  | [] => some true
  | .bl b :: ds => (allB ds).map (b && ·)
  | _ :: _ => none
/-- what sorted sorts: tuples of the same form -/
def hdT : D → Bool
  | .tup (_ :: _) => true
  | _ => false
def sortOk (l : List D) : Bool := l.all hdT && l.all (fun a => l.all fun b => PySem.W.alike a.toPy b.toPy) && fitL l 59 && decide (l.length ≤ sizeLine)
def sortD (l : List D) : List D := l.mergeSort (PySem.W.dataLe false D.toPy)
/-- x[1::2] of twelve -/
def oddD (d : D) : Option D := match d with
  | .tup [_, a, _, b, _, c, _, d, _, e, _, f] => some (.tup [a, b, c, d, e, f])
  | _ => none
def reprOk (d : D) : Bool := d.fit 60 && d.toPy.showable && decide (d.toPy.shown.length ≤ sizeLine)
def biD (b : Bi) (args : List D) (S : Store) : Option D := match b, args with
  | .len, [x] => (itemsD S x).map fun l => .int l.length
  | .tuple, [x] => (itemsD S x).map .tup
  | .list, [x] => (itemsD S x).map .lst
  | .all, [.lst l] => (allB l).map .bl
  | .int, [.int i] => some (.int i)
  | .int, [.bl b] => some (.int (if b then 1 else 0))
  | .max2, [.int i, .int j] => some (.int (if j > i then j else i))
  | .min2, [.int i, .int j] => some (.int (if j < i then j else i))
  | .maxl, [.lst l] => match intsD l with
    | some (n :: ns) => some (.int (ns.foldl max n))
    | _ => none
  | .sorted, [.lst l] => if sortOk l = true then some (.lst (sortD l)) else none
  | .repr, [x] => if reprOk (thaw S x) = true then some (.str (thaw S x).toPy.shown) else none
  | _, _ => none
def tyD (d : D) : Option Ty := match d with
  | .bl _ => some .bool
  | .int _ => some .int
  | .str _ => some .str
  | .tup _ => some .tuple
  | .lst _ => some .list
  | _ => none
/-- isinstance(d, t) -/
def isiD (d : D) (t : Ty) : Option Bool := match d, t with
  | .bl _, .bool => some true
  | .bl _, .int => some true
  | .bl _, _ => some false
  | .int _, .int => some true
  | .int _, _ => some false
  | .str _, .str => some true
  | .str _, _ => some false
  | .tup _, .tuple => some true
  | .tup _, _ => some false
  | .lst _, .list => some true
  | .lst _, _ => some false
  | .non, _ => some false
  | _, _ => none
def mtD (m : Mt) (o : D) (args : List D) (S : Store) : Option (D × Store) := match m, o, args with
  | .append, .obj i, [x] => match S[i]? with
    | some (.lst l) => if x.lo i = true ∧ l.length < sizeLine then some (.non, S.set i (.lst (l ++ [x]))) else none
    | _ => none
  | .extend, .obj i, [.lst m] => match S[i]? with
    | some (.lst l) => if loL i m = true ∧ l.length + m.length ≤ sizeLine then some (.non, S.set i (.lst (l ++ m))) else none
    | _ => none
  | .popAt, .obj i, [.int k] => match S[i]? with
    | some (.lst l) => match seqIndex? k l.length with
      | some j => match l[j]? with
        | some y => if -(2 ^ 63) ≤ k ∧ k < 2 ^ 63 then some (y, S.set i (.lst (l.eraseIdx j))) else none
        | none => none
      | none => none
    | _ => none
  | _, _, _ => none
/-- what a method may be asked of -/
def mtOk (m : Mt) (o : D) (S : Store) : Bool := match m, o with
  | .get, _ => false
  | _, .obj i => match S[i]? with
    | some (.lst _) => true
    | _ => false
  | .index, .lst _ => true
  | .count, .lst _ => true
  | _, _ => false
def subD (o i v : D) (S : Store) : Option Store := match o, i with
  | .obj j, .int k => match S[j]? with
    | some (.lst l) => match L2.ixN l.length k with
      | some n => if v.lo j = true then some (S.set j (.lst (l.set n v))) else none
      | none => none
    | _ => none
  | .obj j, .tup m => match S[j]? with
    | some (.dct kvs) => if keyOk (.tup m) 8 = true ∧ (getK kvs (.tup m)).isNone = true ∧ kvs.length < sizeLine ∧ v.lo j = true then some (S.set j (.dct (kvs ++ [(.tup m, v)]))) else none
    | _ => none
  | _, _ => none

/-! ### targets -/
mutual
def assignT : QT → D → Env → Option Env
  | .nm i, d, σ => some (σ.set i (some d))
  | .tp ts, .tup l, σ => assignTs ts l σ
  | .tp _, _, _ => none
def assignTs : List QT → List D → Env → Option Env
  | [], [], σ => some σ
  | t :: ts, d :: ds, σ => (assignT t d σ).bind (assignTs ts ds)
  | _, _, _ => none
end
mutual
def QT.slots : QT → List Nat
  | .nm i => [i]
  | .tp ts => slotsL ts
def slotsL : List QT → List Nat
  | [] => []
  | t :: ts => t.slots ++ slotsL ts
end
def wipeD (σ : Env) : List Nat → Env
  | [] => σ
  | v :: vs => (wipeD σ vs).set v none

/-! ### the interpreter -/
structure CallT where
  call : Nat → List D → Store → Out D
  said : Nat → List D → (Store → Out D) → Store → Out D
  thk : Store → Out D
  /-- within an except suite -/
  hot : Nat → List D → Store → Option D
  /-- the room that the calls want -/
  lv : Nat
instance : CoeFun CallT fun _ => Nat → List D → Store → Out D := ⟨CallT.call⟩
/-- the class k is the class c or below it: 0 is RestartError, 16 ValueError -/
def subX (k c : Nat) : Bool := c == 0 || k == c || c == 16
def fldD (ns : List Str) (l : List D) (f : Str) : Option D := (ns.zip l).lookup f
def isBl : D → Bool
  | .bl _ => true
  | _ => false
def isTr : D → Bool
  | .bl b => b
  | _ => false
def truD (ix : Bool) (d : D) : Option D := match d with
  | .lst l => if l.all isBl = true ∧ l.length ≤ 1000 then (if ix = true then (if l.any isTr = true then some (.int (l.findIdx isTr)) else none) else some (.int (l.countP isTr))) else none
  | _ => none
def ofO {α : Type} (o : Option α) (S : Store) : Out α := match o with
  | some a => .ok a S
  | none => .bad
/-- the items of a comprehension -/
def compL (f : D → Store → Out (Option D)) : List D → Store → Out (List D)
  | [], S => .ok [] S
  | x :: xs, S => match f x S with
    | .ok o S1 => match compL f xs S1 with
      | .ok ys S2 => .ok (match o with
        | some y => y :: ys
        | none => ys) S2
      | _ => .bad
    | _ => .bad
/-- the i-th thing of the store is the list l (still) -/
def keptQ (i : Nat) (l : List D) (S : Store) : Bool := match S[i]? with
  | some (.lst m) => sameL m l
  | _ => false
def grd {α : Type} (i : Nat) (l : List D) (o : Out α) : Out α := match o with
  | .ok a S => if keptQ i l S = true then .ok a S else .bad
  | _ => .bad
theorem kept_iff {i : Nat} {l : List D} {S : Store} : keptQ i l S = true ↔ S[i]? = some (.lst l) := by
  unfold keptQ
  cases q : S[i]? with
  | none => simp
  | some mo =>
    cases mo with
    | lst m =>
      dsimp only
      constructor
      · intro h
        rw [sameL_eq h]
      · intro h
        cases h
        exact sameL_refl _
    | dct m => simp
    | box k m => simp
theorem grd_ok {α : Type} {i : Nat} {l : List D} {o : Out α} {a : α} {S : Store} (h : grd i l o = .ok a S) : o = .ok a S ∧ S[i]? = some (.lst l) := by
  cases o with
  | ok b S' =>
    unfold grd at h
    dsimp only at h
    split at h
    · rename_i k
      cases h
      exact ⟨rfl, kept_iff.mp k⟩
    · cases h
  | exc x S' => cases h
  | bad => cases h
def okB (o : Out D) : Out Bool := match o with
  | .ok (.bl b) S => .ok b S
  | .exc x S => .exc x S
  | _ => .bad
def okI (o : Out D) : Out (Option Int) := match o with
  | .ok (.int i) S => .ok (some i) S
  | .exc x S => .exc x S
  | _ => .bad
def rngL (lo c : Int) : Nat → List D
  | 0 => []
  | n + 1 => .int lo :: rngL (lo + c) c n
def enmL (i : Int) : List D → List D
  | [] => []
  | d :: ds => .tup [.int i, d] :: enmL (i + 1) ds
def zipL : List D → List D → List D
  | x :: xs, y :: ys => .tup [x, y] :: zipL xs ys
  | _, _ => []
def small (i : Int) : Bool := decide (-(2 ^ 62) ≤ i) && decide (i < 2 ^ 62)
def QE.isNo : QE → Bool
  | .no => true
  | _ => false
/-- the rising list of the members -/
def insU (k : Int) : List Int → List Int
  | [] => [k]
  | x :: xs => if k < x then k :: x :: xs else if k = x then x :: xs else x :: insU k xs
def sortU (l : List Int) : List Int := l.foldr insU []
/-- the first of each -/
def dedD : List D → List D
  | [] => []
  | d :: l => d :: (dedD l).filter fun e => !same d e
def strB : List D → Bool
  | [] => true
  | a :: l => l.all (fun b => PySem.W.dataLt a.toPy b.toPy) && strB l
/-- sorted(set(l)), l of nested tuples of one form -/
def srtN (l : List D) : Option (List D) :=
  if l.all hdT = true ∧ keyOkL l 8 = true ∧ fitL l 59 = true ∧ ((dedD l).all fun a => (dedD l).all fun b => PySem.W.alike a.toPy b.toPy) = true ∧ (dedD l).length + 1 < 1200 ∧ strB (sortD (dedD l)) = true then some (sortD (dedD l)) else none
def srtQ (d : D) (S : Store) : Out D := match d with
  | .lst l => match intsD l with
    | some ns => if ns.length < 64 then .ok (.lst ((sortU ns).map .int)) S else .bad
    | none => match srtN l with
      | some m => .ok (.lst m) S
      | none => .bad
  | _ => .bad
mutual
def ev (C : CallT) : QE → Env → Store → Out D
  | .var i, σ, S => match σ[i]? with
    | some (some d) => .ok d S
    | _ => .bad
  | .con d, _, S => .ok d S
  | .neg a, σ, S => (ev C a σ S).bind fun d S => match d with
    | .int i => .ok (.int (-i)) S
    | _ => .bad
  | .not a, σ, S => (okB (ev C a σ S)).bind fun b S => .ok (.bl (!b)) S
  | .bin o a b, σ, S => (ev C a σ S).bind fun x S => (ev C b σ S).bind fun y S => ofO (binD o x y) S
  | .cmp o a b, σ, S => (ev C a σ S).bind fun x S => (ev C b σ S).bind fun y S => ofO ((cmpD o x y S).map .bl) S
  | .chn o p a b c, σ, S => (ev C a σ S).bind fun x S => (ev C b σ S).bind fun y S => (ofO (cmpD o x y S) S).bind fun k S =>
      if k = true then (ev C c σ S).bind fun z S => ofO ((cmpD p y z S).map .bl) S else .ok (.bl false) S
  | .and a b, σ, S => (okB (ev C a σ S)).bind fun k S => if k = true then ev C b σ S else .ok (.bl false) S
  | .or a b, σ, S => (okB (ev C a σ S)).bind fun k S => if k = true then .ok (.bl true) S else ev C b σ S
  | .ife c a b, σ, S => (okB (ev C c σ S)).bind fun k S => if k = true then ev C a σ S else ev C b σ S
  | .idx a b, σ, S => (ev C a σ S).bind fun x S => (ev C b σ S).bind fun y S => ofO (idxD x y S) S
  | .slc a lo hi, σ, S => (ev C a σ S).bind fun x S => (if lo.isNo = true then Out.ok none S else okI (ev C lo σ S)).bind fun l S => (if hi.isNo = true then Out.ok none S else okI (ev C hi σ S)).bind fun h S => ofO (slcD x l h) S
  | .rev a, σ, S => (ev C a σ S).bind fun x S => ofO (revD x) S
  | .odd a, σ, S => (ev C a σ S).bind fun x S => ofO (oddD x) S
  | .tup es, σ, S => (evs C es σ S).bind fun xs S => if xs.length ≤ sizeLine then .ok (.tup xs) S else .bad
  | .lst es, σ, S => (evs C es σ S).bind fun xs S => if xs.length ≤ sizeLine then .ok (.lst xs) S else .bad
  | .call k es, σ, S => (evs C es σ S).bind fun xs S => C k xs S
  | .bi b es, σ, S => (evs C es σ S).bind fun xs S => ofO (biD b xs S) S
  | .mth m o es, σ, S => (ev C o σ S).bind fun x S => if mtOk m x S = true then (evs C es σ S).bind fun xs S => match mtD m x xs S with
    | some (d, S) => .ok d S
    | none => .bad else .bad
  | .isi a t, σ, S => (ev C a σ S).bind fun x S => ofO ((isiD x t).map .bl) S
  | .comp t it cond elt, σ, S => (evI C it σ S).bind fun xs S =>
      (compL (fun x S => match assignT t x (wipeD σ t.slots) with
        | none => .bad
        | some σ1 => (if cond.isNo = true then Out.ok true S else okB (ev C cond σ1 S)).bind fun k S => if k = true then (ev C elt σ1 S).bind fun y S => .ok (some y) S else .ok none S) xs S).bind fun ys S =>
      if ys.length < sizeLine then .ok (.lst ys) S else .bad
  | .compO t a cond elt, σ, S => (ev C a σ S).bind fun x S => match x with
    | .obj i => match S[i]? with
      | some (.lst l) => (compL (fun x S => grd i l (match assignT t x (wipeD σ t.slots) with
        | none => .bad
        | some σ1 => (if cond.isNo = true then Out.ok true S else okB (ev C cond σ1 S)).bind fun k S => if k = true then (ev C elt σ1 S).bind fun y S => .ok (some y) S else .ok none S)) l S).bind fun ys S =>
          if ys.length < sizeLine then .ok (.lst ys) S else .bad
      | _ => .bad
    | _ => .bad
  | .srt a, σ, S => (ev C a σ S).bind srtQ
  | .lrg t it, σ, S => (evI C it σ S).bind fun xs S => if xs.length ≤ 16777216 then .ok (if t = true then .tup xs else .lst xs) S else .bad
  | .isx a c, σ, S => (ev C a σ S).bind fun x S => match x with
    | .exn k _ => .ok (.bl (subX k c)) S
    | _ => .bad
  | .fld a f, σ, S => (ev C a σ S).bind fun x S => match x with
    | .exn k l => ofO (fldD (nmX k) l f) S
    | _ => .bad
  | .tru ix a, σ, S => (ev C a σ S).bind fun x S => ofO (truD ix x) S
  | .thk, σ, S => match σ[0]? with
    | some (some (D.exn 99 _)) => C.thk S
    | _ => .bad
  | .said _ k e, σ, S => C.said k (σ.map fun o => o.getD .non) (fun S => ev C e σ S) S
  | .hc k es, σ, S => (evs C es σ S).bind fun xs S => ofO (C.hot k xs S) S
  | .no, _, _ => .bad
def evs (C : CallT) : QEs → Env → Store → Out (List D)
  | .nil, _, S => .ok [] S
  | .cons e es, σ, S => (ev C e σ S).bind fun x S => (evs C es σ S).bind fun xs S => .ok (x :: xs) S
  | .star e es, σ, S => (ev C e σ S).bind fun x S => match x with
    | .tup l => (evs C es σ S).bind fun xs S => .ok (l ++ xs) S
    | .lst l => (evs C es σ S).bind fun xs S => .ok (l ++ xs) S
    | _ => .bad
def evI (C : CallT) : QI → Env → Store → Out (List D)
  | .val e, σ, S => (ev C e σ S).bind fun x S => match x with
    | .tup l => .ok l S
    | .lst l => .ok l S
    | _ => .bad
  | .rng1 a, σ, S => (ev C a σ S).bind fun x S => match x with
    | .int j => if small j = true then .ok (rngL 0 1 j.toNat) S else .bad
    | _ => .bad
  | .rng2 a b, σ, S => (ev C a σ S).bind fun x S => (ev C b σ S).bind fun y S => match x, y with
    | .int i, .int j => if small i = true ∧ small j = true then .ok (rngL i 1 (j - i).toNat) S else .bad
    | _, _ => .bad
  | .rng3 a b c, σ, S => (ev C a σ S).bind fun x S => (ev C b σ S).bind fun y S => match x, y with
    | .int i, .int j => if small i = true ∧ small j = true ∧ c = -1 then .ok (rngL i (-1) (i - j).toNat) S else .bad
    | _, _ => .bad
  | .enm a, σ, S => (ev C a σ S).bind fun x S => match x with
    | .lst l => .ok (enmL 0 l) S
    | .tup l => .ok (enmL 0 l) S
    | _ => .bad
  | .zip a b, σ, S => (ev C a σ S).bind fun x S => (ev C b σ S).bind fun y S => match x, y with
    | .tup l, .tup m => .ok (zipL l m) S
    | .lst l, .lst m => .ok (zipL l m) S
    | _, _ => .bad
end

def evO (C : CallT) (q : QE) (σ : Env) (S : Store) : Out (Option Int) := if q.isNo = true then .ok none S else okI (ev C q σ S)
def evC (C : CallT) (q : QE) (σ : Env) (S : Store) : Out Bool := if q.isNo = true then .ok true S else okB (ev C q σ S)
/-- a new dict of one pair -/
def dctQ (a b : D) (S : Store) : Out D := if isT a = true ∧ keyOk a 8 = true then .ok (.obj S.length) (S ++ [.dct [(a, b)]]) else .bad
def newQ (d : D) (S : Store) : Out D := match d with
  | .lst l => .ok (.obj S.length) (S ++ [.lst l])
  | _ => .bad
def evM (C : CallT) : QN → Env → Store → Out D
  | .val e, σ, S => ev C e σ S
  | .lst e, σ, S => (ev C e σ S).bind newQ
  | .dct k v, σ, S => (ev C k σ S).bind fun a S => (ev C v σ S).bind fun b S => dctQ a b S
def evMs (C : CallT) : List QN → Env → Store → Out (List D)
  | [], _, S => .ok [] S
  | q :: qs, σ, S => (evM C q σ S).bind fun x S => (evMs C qs σ S).bind fun xs S => .ok (x :: xs) S
inductive Flow where
  | nx (σ : Env) (S : Store)
  | rt (d : D) (S : Store)
  | bk (σ : Env) (S : Store)
  | ct (σ : Env) (S : Store)
  | exc (x : Ex) (σ : Env) (S : Store)
  | bad
def Out.go {α : Type} (o : Out α) (σ : Env) (f : α → Store → Flow) : Flow := match o with
  | .ok a S => f a S
  | .exc x S => .exc x σ S
  | .bad => .bad
/-- a list of the store that is written no more -/
def frz (n : Nat) (S : Store) : Option D → Option D
  | some (.obj i) => if n ≤ i then match S[i]? with
      | some (.lst l) => if loL n l = true then some (.lst l) else some (.obj i)
      | _ => some (.obj i)
    else some (.obj i)
  | o => o
def allLo (n : Nat) (σ : Env) : Bool := σ.all fun o => match o with
    | some d => d.lo n
    | none => true
def turnEnd (n : Nat) (w : List Nat) (σ : Env) (S : Store) : Env × Store :=
  let σ := wipeD σ w
  if σ.all (fun o => match o with
    | some d => d.lo n
    | none => true) = true then (σ, S.take n) else if allLo n (σ.map (frz n S)) = true then (σ.map (frz n S), S.take n) else (σ, S)
def forL (w : List Nat) (n : Nat) (f : D → Env → Store → Flow) : List D → Env → Store → Flow
  | [], σ, S => .nx σ S
  | x :: xs, σ, S => match f x σ S with
    | .nx σ S => let p := turnEnd n w σ S; forL w n f xs p.1 p.2
    | .ct σ S => let p := turnEnd n w σ S; forL w n f xs p.1 p.2
    | .bk σ S => .nx σ S
    | r => r
def whlL (w : List Nat) (n : Nat) (c : Env → Store → Out Bool) (f : Env → Store → Flow) : Nat → Env → Store → Flow
  | 0, _, _ => .bad
  | m + 1, σ, S => (c σ S).go σ fun k S => if k = true then match f σ S with
    | .nx σ S => let p := turnEnd n w σ S; whlL w n c f m p.1 p.2
    | .ct σ S => let p := turnEnd n w σ S; whlL w n c f m p.1 p.2
    | .bk σ S => .nx σ S
    | r => r else .nx σ S
def many : Nat := 1000000000
mutual
def matchP : QP → D → Option Bool
  | .val v, d => eqD d v
  | .alt ps, d => matchA ps d
  | .seq ps, .tup l => if ps.length = l.length then matchS ps l else none
  | .seq _, _ => none
def matchA : List QP → D → Option Bool
  | [], _ => some false
  | p :: ps, d => match matchP p d with
    | some true => some true
    | some false => matchA ps d
    | none => none
def matchS : List QP → List D → Option Bool
  | [], [] => some true
  | p :: ps, d :: ds => match matchP p d with
    | some true => matchS ps ds
    | some false => some false
    | none => none
  | _, _ => none
end
/-- several names at once -/
def setAll (σ : Env) : List Nat → List D → Env
  | i :: is, d :: ds => setAll (σ.set i (some d)) is ds
  | _, _ => σ
def clrX : Option D → Option D
  | some d => if d.noX = true then some d else none
  | none => none
mutual
def ex (C : CallT) : QS → Env → Store → Flow
  | .set t e, σ, S => (ev C e σ S).go σ fun d S => match assignT t d σ with
    | some σ => .nx σ S
    | none => .bad
  | .setN i q, σ, S => (evM C q σ S).go σ fun d S => .nx (σ.set i (some d)) S
  | .parN ts qs, σ, S => (evMs C qs σ S).go σ fun xs S => if xs.length = ts.length then .nx (setAll σ ts xs) S else .bad
  | .setM i e, σ, S => (ev C e σ S).go σ fun d S => match d with
    | .lst l => .nx (σ.set i (some (.obj S.length))) (S ++ [.lst l])
    | _ => .bad
  | .par ts es, σ, S => (evs C es σ S).go σ fun xs S => if xs.length = ts.length then .nx (setAll σ ts xs) S else .bad
  | .aug i o e, σ, S => match σ[i]? with
    | some (some x) => (ev C e σ S).go σ fun y S => match x, y, o with
      | .int a, .int b, .add => .nx (σ.set i (some (.int (a + b)))) S
      | .int a, .int b, .sub => .nx (σ.set i (some (.int (a - b)))) S
      | _, _, _ => .bad
    | _ => .bad
  | .sub a i e, σ, S => (ev C e σ S).go σ fun v S => (ev C a σ S).go σ fun x S => (ev C i σ S).go σ fun k S => match subD x k v S with
    | some S => .nx σ S
    | none => .bad
  | .expr e, σ, S => (ev C e σ S).go σ fun _ S => .nx σ S
  | .ret e, σ, S => (ev C e σ S).go σ fun d S => .rt d S
  | .retM e, σ, S => (ev C e σ S).go σ fun d S => match d with
    | .lst l => .rt (.obj S.length) (S ++ [.lst l])
    | _ => .bad
  | .ife c a b, σ, S => (okB (ev C c σ S)).go σ fun k S => if k = true then exs C a σ S else exs C b σ S
  | .for_ t it w b, σ, S => (evI C it σ S).go σ fun xs S => forL w S.length (fun x σ S => match assignT t x σ with
    | some σ => exs C b σ S
    | none => .bad) xs σ S
  | .whl c w b, σ, S => whlL w S.length (fun σ S => okB (ev C c σ S)) (fun σ S => exs C b σ S) many σ S
  | .pass, σ, S => .nx σ S
  | .brk, σ, S => .bk σ S
  | .cnt, σ, S => .ct σ S
  | .never, _, _ => .bad
  | .mtch e cs, σ, S => (ev C e σ S).go σ fun d S => exc C cs d σ S
  | .raise c es, σ, S => (evs C es σ S).go σ fun xs S => if xs.length = (nmX c).length ∧ c < 16 then .exc ⟨c, xs⟩ σ S else .bad
  | .try_ b hs, σ, S => match exs C b σ S with
    | .exc x σ S => exh C hs x σ S
    | r => r
def exc (C : CallT) : QCs → D → Env → Store → Flow
  | .nil, _, σ, S => .nx σ S
  | .cons p b cs, d, σ, S => match matchP p d with
    | some true => exs C b σ S
    | some false => exc C cs d σ S
    | none => .bad
def exh (C : CallT) : QHs → Ex → Env → Store → Flow
  | .nil, x, σ, S => .exc x σ S
  | .cons c i b hs, x, σ, S => if subX x.cls c = true then (match exs C b (if i < 1000 then (σ.map clrX).set i (some (.exn x.cls x.fs)) else σ.map clrX) S with
    | .rt d _ => if d.noX = true then .rt d S else .bad
    | _ => .bad) else exh C hs x σ S
def exs (C : CallT) : List QS → Env → Store → Flow
  | [], σ, S => .nx σ S
  | s :: ss, σ, S => match ex C s σ S with
    | .nx σ S => exs C ss σ S
    | r => r
end

/-! ### functions -/
structure QFn where
  name : Str
  N : List Str
  np : Nat
  keep : Bool
  body : List QS
  /-- 1: it is called with a function alone, 2: within an except suite alone -/
  kd : Nat
  /-- where its table of code objects stands -/
  ti : Option Nat
/-- a call's end: what is above n is dropped -/
def fin (keep : Bool) (n : Nat) (d : D) (S : Store) : Out D := match d with
  | .obj i => if n ≤ i then match S[i]? with
      | some (.lst l) => if loL n l = true then (if keep = true then .ok (.obj n) (S.take n ++ [.lst l]) else .ok (.lst l) (S.take n)) else .bad
      | _ => .bad
    else .ok (.obj i) (S.take n)
  | d => if d.lo n = true then .ok d (S.take n) else .bad
def runF (C : CallT) (f : QFn) (args : List D) (S : Store) : Out D :=
  if (args.length = f.np ∧ f.np ≤ f.N.length) ∧ f.kd = 0 then
    match exs C f.body (args.map some ++ List.replicate (f.N.length - args.length) none) S with
    | .rt d S' => fin f.keep S.length d S'
    | .nx _ S' => .ok .non (S'.take S.length)
    | .exc x _ S' => if loL S.length x.fs = true then .exc x (S'.take S.length) else .bad
    | _ => .bad
  else .bad
def runL (C : CallT) (f : QFn) (cap : List D) (S : Store) : Out D :=
  if (f.np = 1 ∧ f.np ≤ f.N.length) ∧ f.kd = 1 then
    match exs C f.body (some (D.exn 99 cap) :: List.replicate (f.N.length - 1) none) S with
    | .rt d S' => if d.noX = true then fin f.keep S.length d S' else .bad
    | .nx _ S' => .ok .non (S'.take S.length)
    | .exc x _ S' => if loL S.length x.fs = true ∧ noXL x.fs = true then .exc x (S'.take S.length) else .bad
    | _ => .bad
  else .bad
def runH (C : CallT) (f : QFn) (args : List D) (S : Store) : Option D :=
  if (args.length = f.np ∧ f.np ≤ f.N.length) ∧ f.kd = 2 then
    match exs C f.body (args.map some ++ List.replicate (f.N.length - args.length) none) S with
    | .rt d _ => if d.noX = true then some d else none
    | _ => none
  else none
def callF (T : List QFn) : Nat → CallT
  | 0 => ⟨fun _ _ _ => .bad, fun _ _ _ _ => .bad, fun _ => .bad, fun _ _ _ => none, 0⟩
  | n + 1 => ⟨fun k args S => match T[k]? with
      | some f => runF (callF T n) f args S
      | none => .bad, fun k cap th S => match T[k]? with
      | some f => runL { callF T n with thk := th } f cap S
      | none => .bad, fun _ => .bad, fun k args S => match T[k]? with
      | some f => runH (callF T n) f args S
      | none => none, 3 * (n + 1)⟩
end Rs

namespace Rs
open PySem PySem.Spec PyProof.Rows L2

/-- what is fixed for a whole run: the written part, the classes of exceptions, the names of their fields -/
structure Xd where
  K : KX
  xc : Nat → Value
section
variable (w : Xd)
def XO (L : List Addr) (H : Hp) (x : Ex) (cls : Value) (oe : Option Addr) : Prop :=
  (x.cls < 16 ∧ cls = w.xc x.cls ∧ noXL x.fs = true) ∧ ((x.fs = [] ∧ oe = none) ∨ ∃ d vs, oe = some d ∧ H d = some (.xd ((nmX x.cls).zip vs)) ∧ Free w.K L d ∧ DenL w.K L H x.fs vs)
/-- what is wanted behind a piece whose outcome the interpreter gives -/
def EndR {α β : Type} (R : List Addr → Hp → α → β → Prop) (W : WX) (σ : L2.St) (L : List Addr) (H : Hp) (Q : β → Hp → Prop) : Out α → Prop
  | .ok a S' => ∀ y L' H', Gr L H L' H' → Rel w.K L' H' S' → R L' H' a y → Q y H'
  | .exc x S' => ∀ cls oe L' H', Gr L H L' H' → Rel w.K L' H' S' → XO w L' H' x cls oe → W cls oe σ H'
  | .bad => False
def TX {α β : Type} (R : List Addr → Hp → α → β → Prop) (W : WX) (f : Env → Store → Out α) : L2.St → Hp → (β → Hp → Prop) → Prop := fun σ H Q =>
  ∃ σd S L, ERel w.K L H σd σ ∧ Rel w.K L H S ∧ EndR w R W σ L H Q (f σd S)
abbrev rD : List Addr → Hp → D → V → Prop := fun L H d v => Den w.K L H d v
abbrev rDs : List Addr → Hp → List D → List V → Prop := fun L H d v => DenL w.K L H d v
abbrev rEq' {α : Type} : List Addr → Hp → α → α → Prop := fun _ _ a b => b = a
end
section
variable {w : Xd} {α β γ δ : Type} {R : List Addr → Hp → α → β → Prop} {R1 : List Addr → Hp → γ → δ → Prop} {W : WX} {σ : L2.St} {σd : Env} {L L' L1 : List Addr} {H H' H1 : Hp} {S S' S1 : Store} {Q Q' : β → Hp → Prop}
theorem EndR.imp {o : Out α} (h : EndR w R W σ L H Q o) (i : ∀ y H', Q y H' → Q' y H') : EndR w R W σ L H Q' o := by
  cases o with
  | ok a S' => exact fun y L' H' g r d => i y H' (h y L' H' g r d)
  | exc x S' => exact h
  | bad => exact h
theorem EndR.grow {o : Out α} (h : EndR w R W σ L H Q o) (g : Gr L H L1 H1) : EndR w R W σ L1 H1 Q o := by
  cases o with
  | ok a S' => exact fun y L' H' g' r d => h y L' H' (g.trans g') r d
  | exc x S' => exact fun cls oe L' H' g' r d => h cls oe L' H' (g.trans g') r d
  | bad => exact h
theorem EndR.bind {o : Out γ} {f : γ → Store → Out α} (h : EndR w R W σ L H Q (o.bind f)) :
    EndR w R1 W σ L H (fun y H1 => ∃ a S1 L1, Gr L H L1 H1 ∧ Rel w.K L1 H1 S1 ∧ R1 L1 H1 a y ∧ EndR w R W σ L1 H1 Q (f a S1)) o := by
  cases o with
  | ok a S' => exact fun y L' H' g r d => ⟨a, S', L', g, r, d, EndR.grow h g⟩
  | exc x S' => exact h
  | bad => exact h
theorem EndR.here {a : α} {y : β} (h : EndR w R W σ L H Q (.ok a S)) (r : Rel w.K L H S) (d : R L H a y) : Q y H := h y L H Gr.refl r d
theorem EndR.ofO {a : Option α} (h : EndR w R W σ L H Q (ofO a S)) : ∃ x, a = some x ∧ EndR w R W σ L H Q (.ok x S) := by
  cases a with
  | none => exact h.elim
  | some x => exact ⟨x, rfl, h⟩
end
theorem PE_imp {X : Cx} {e : Expr} {t t' : TE} (h : PE X e t) (i : ∀ σ H Q, t' σ H Q → t σ H Q) : PE X e t' := ⟨fun pins s σ H Q I q => h.run pins s σ H Q I (i σ H Q q)⟩
theorem PT_imp {X : Cx} {e : Expr} {t t' : TT} (h : PT X e t) (i : ∀ σ H Q, t' σ H Q → t σ H Q) : PT X e t' := ⟨fun pins s σ H Q I q => h.run pins s σ H Q I (i σ H Q q)⟩
theorem PW_imp {X : Cx} {e : Expr} {t t' : TT} (h : PW X e t) (i : ∀ σ H Q, t' σ H Q → t σ H Q) : PW X e t' := ⟨fun wh pins s σ H Q I q => h.run wh pins s σ H Q I (i σ H Q q)⟩
theorem PA_imp {X : Cx} {e : List Expr} {t t' : TA} (h : PA X e t) (i : ∀ σ H Q, t' σ H Q → t σ H Q) : PA X e t' := ⟨fun pos pins s σ H Q I q => h.run pos pins s σ H Q I (i σ H Q q)⟩
theorem PS_imp {X : Cx} {e : Stmt} {t t' : TS} (h : PS X e t) (i : ∀ D σ H, t' D σ H → t D σ H) : PS X e t' := ⟨fun pins s σ H D I q => h.run pins s σ H D I (i D σ H q)⟩
theorem PSs_imp {X : Cx} {e : List Stmt} {t t' : TS} (h : PSs X e t) (i : ∀ D σ H, t' D σ H → t D σ H) : PSs X e t' := ⟨fun pins s σ H D I q => h.run pins s σ H D I (i D σ H q)⟩
theorem PO_imp {X : Cx} {e : Option Expr} {t t' : TO} (h : PO X e t) (i : ∀ σ H Q, t' σ H Q → t σ H Q) : PO X e t' := ⟨fun pins s σ H Q I q => h.run pins s σ H Q I (i σ H Q q)⟩
theorem PI_imp {X : Cx} {tg e : Expr} {t t' : TI} (h : PI X tg e t) (i : ∀ σ H R, t' σ H R → t σ H R) : PI X tg e t' := ⟨fun pins s σ H R I q => h.run pins s σ H R I (i σ H R q)⟩

/-! ### shapes of values -/
section
variable {K : KX} {L : List Addr} {H : Hp} {v : V}
theorem den_tup {l : List D} (h : Den K L H (.tup l) v) : ∃ a xs, v = .ref a ∧ H a = some (.tup xs) ∧ Free K L a ∧ DenL K L H l xs := by rwa [Den] at h
theorem den_lst {l : List D} (h : Den K L H (.lst l) v) : ∃ a xs, v = .ref a ∧ H a = some (.lst xs) ∧ Free K L a ∧ DenL K L H l xs := by rwa [Den] at h
theorem den_scr {l : List D} (h : Den K L H (.scr l) v) : ∃ a xs, v = .ref a ∧ SqF K L H a xs ∧ DenL K L H l xs := by rwa [Den] at h
theorem den_obj {i : Nat} (h : Den K L H (.obj i) v) : ∃ a, v = .ref a ∧ L[i]? = some a := by rwa [Den] at h
theorem den_box {k : Nat} {l : List D} (h : Den K L H (.box k l) v) : ∃ a xs o, v = .ref a ∧ H a = some o ∧ BoxO K.cl k xs o ∧ Free K L a ∧ DenL K L H l xs := by rwa [Den] at h
theorem den_exn {c : Nat} {l : List D} (h : Den K L H (.exn c l) v) : ∃ z xs, v = .ref z.a ∧ (K.xn = some z ∧ z.c = c) ∧ DenL K L H l xs ∧ ((z.d = none ∧ l = []) ∨ ∃ d o, z.d = some d ∧ H d = some o ∧ ExO z d l xs o ∧ Free K L d) := by rwa [Den] at h
theorem SqF.sq {a : Addr} {xs : List V} (h : SqF K L H a xs) : SqL K.K H a xs := by
  rcases h with ⟨_, o, h⟩ | h
  · exact .inl (.inr ⟨o, h⟩)
  · exact .inr h
theorem Rel.obj {S : Store} (r : Rel K L H S) {i : Nat} {l : List D} (h : Den K L H (.obj i) v) (e : S[i]? = some (.lst l)) : ∃ a xs, v = .ref a ∧ L[i]? = some a ∧ H a = some (.lst xs) ∧ DenL K L H l xs ∧ loL i l = true := by
  obtain ⟨a, rfl, ha⟩ := den_obj h
  obtain ⟨b, hb, m⟩ := r.at_ i _ e
  obtain ⟨lo, xs, h1, h2⟩ := m.lst
  rw [ha] at hb
  cases hb
  exact ⟨a, xs, rfl, ha, h1, h2, lo⟩
/-- what has items: a list or a tuple -/
theorem items_sq {S : Store} (r : Rel K L H S) {d : D} {l : List D} (h : Den K L H d v) (e : itemsD S d = some l) : ∃ a xs, v = .ref a ∧ (SqL K.K H a xs ∨ SqT K.K H a xs) ∧ DenL K L H l xs := by
  cases d with
  | tup m =>
    cases e
    obtain ⟨a, xs, e1, h1, _, h2⟩ := den_tup h
    exact ⟨a, xs, e1, .inr (.of h1), h2⟩
  | lst m =>
    cases e
    obtain ⟨a, xs, e1, h1, _, h2⟩ := den_lst h
    exact ⟨a, xs, e1, .inl (.of h1), h2⟩
  | scr m =>
    cases e
    obtain ⟨a, xs, e1, h1, h2⟩ := den_scr h
    exact ⟨a, xs, e1, .inl h1.sq, h2⟩
  | obj i =>
    rw [itemsD] at e
    split at e
    · rename_i l' q
      cases e
      obtain ⟨a, xs, e1, _, h1, h2, _⟩ := r.obj h q
      exact ⟨a, xs, e1, .inl (.of h1), h2⟩
    · cases e
  | non => cases e
  | bl b => cases e
  | int i => cases e
  | str s => cases e
  | box k l => cases e
  | exn k l => cases e
end
section
variable {w : Xd} {W : WX} {σ : L2.St} {L : List Addr} {H : Hp} {S : Store} {Q : VK}
/-- a new tuple, a new list that nobody writes -/
theorem end_tup {l : List D} {xs : List V} {p : Addr} (h : EndR w (rD w) W σ L H Q (.ok (.tup l) S)) (r : Rel w.K L H S) (d : DenL w.K L H l xs) (n : H p = none) : Q (.ref p) (upd H p (.tup xs)) := by
  have g : Gr L H L (upd H p (.tup xs)) := Gr.upd n
  refine h (.ref p) L _ g (r.upd n) ?_
  show Den _ _ _ _ _
  rw [Den]
  exact ⟨p, xs, rfl, upd_same, r.free n, d.grow g⟩
theorem end_lst {l : List D} {xs : List V} {p : Addr} (h : EndR w (rD w) W σ L H Q (.ok (.lst l) S)) (r : Rel w.K L H S) (d : DenL w.K L H l xs) (n : H p = none) : Q (.ref p) (upd H p (.lst xs)) := by
  have g : Gr L H L (upd H p (.lst xs)) := Gr.upd n
  refine h (.ref p) L _ g (r.upd n) ?_
  show Den _ _ _ _ _
  rw [Den]
  exact ⟨p, xs, rfl, upd_same, r.free n, d.grow g⟩
end

/-! ### two operands -/
section
variable {X : Cx} {w : Xd} {W : WX}
def rB (w : Xd) (W : WX) (f : D → D → Store → Option D) : R2 := fun x y H Q => ∃ σ L S a b, Rel w.K L H S ∧ Den w.K L H a x ∧ Den w.K L H b y ∧ EndR w (rD w) W σ L H Q (ofO (f a b S) S)
theorem tx_bin {fa fb : Env → Store → Out D} {f : D → D → Store → Option D} {σ : L2.St} {H : Hp} {Q : VK}
    (h : TX w (rD w) W (fun σ S => (fa σ S).bind fun x S => (fb σ S).bind fun y S => ofO (f x y S) S) σ H Q) : tOp (rB w W f) (TX w (rD w) W fa) (TX w (rD w) W fb) σ H Q := by
  obtain ⟨σd, S, L, er, r, h⟩ := h
  refine ⟨σd, S, L, er, r, (EndR.bind h).imp fun x H1 ⟨a, S1, L1, g1, r1, d1, h1⟩ => ?_⟩
  refine ⟨σd, S1, L1, er.grow g1, r1, (EndR.bind h1).imp fun y H2 ⟨b, S2, L2, g2, r2, d2, h2⟩ => ?_⟩
  exact ⟨σ, L2, S2, a, b, r2, d1.grow g2, d2, h2⟩
theorem pe_bin {op : Operator} {a b : Expr} {pos : Pos} {fa fb : Env → Store → Out D} {f : D → D → Store → Option D} (ho : OpR X (binaryOp op) (rB w W f)) (ha : PE X a (TX w (rD w) W fa)) (hb : PE X b (TX w (rD w) W fb)) :
    PE X (.BinOp a op b pos) (TX w (rD w) W fun σ S => (fa σ S).bind fun x S => (fb σ S).bind fun y S => ofO (f x y S) S) :=
  PE_imp (pe_op ho ha hb) fun _ _ _ h => tx_bin h
variable (hK : X.K = w.K.K)
include hK
theorem op_binD_add : OpR X (binaryOp .Add) (rB w W fun a b _ => binD .add a b) := by
  intro pins s σ H x y v u Q I rx ry ⟨σ', L, S, a, b, r, da, db, h⟩
  obtain ⟨z, e, h⟩ := h.ofO
  cases a <;> cases b <;> simp only [binD, reduceCtorEq] at e
  · rw [Den] at da db
    subst da; subst db
    cases e
    exact op_add pins s σ H _ _ v u Q I rx ry ⟨_, _, rfl, rfl, h.here r (by show Den _ _ _ _ _; rw [Den])⟩
  · rename_i i j
    rw [Den] at da db
    subst da; subst db
    split at e
    · rename_i hl
      cases e
      exact op_add_str pins s σ H _ _ v u Q I rx ry ⟨_, _, rfl, rfl, hl, h.here r (by show Den _ _ _ _ _; rw [Den])⟩
    · cases e
  · rename_i i j
    obtain ⟨p, xs, rfl, h1, n1, d1⟩ := den_tup da
    obtain ⟨q, ys, rfl, h2, n2, d2⟩ := den_tup db
    split at e
    · rename_i hl
      cases e
      rw [d1.length, d2.length] at hl
      refine op_catA pins s σ H _ _ v u Q I rx ry ⟨p, q, xs, ys, rfl, rfl, .of h1, .of h2, hl, ?_⟩
      refine ⟨fun e => ?_, fun e k => ?_, fun e k t n => end_tup h r (d1.append d2) n⟩
      · subst e
        have e' : i = [] := List.length_eq_zero_iff.mp d1.length
        subst e'
        exact h.here r db
      · subst k
        have e' : j = [] := List.length_eq_zero_iff.mp d2.length
        subst e'
        exact h.here r (by simpa using da)
    · cases e
  · rename_i i j
    obtain ⟨p, xs, rfl, h1, n1, d1⟩ := den_lst da
    obtain ⟨q, ys, rfl, h2, n2, d2⟩ := den_lst db
    split at e
    · rename_i hl
      cases e
      rw [d1.length, d2.length] at hl
      exact op_cat pins s σ H _ _ v u Q I rx ry ⟨p, q, xs, ys, rfl, rfl, h1, h2, hl, fun t n => end_lst h r (d1.append d2) n⟩
    · cases e
end
end Rs

namespace Rs
open PySem PySem.Spec PyProof.Rows L2
/-! ### keys -/
mutual
theorem keyD_inj : ∀ {a b : D} {k m : Nat}, keyOk a k = true → keyOk b m = true → keyD a = keyD b → a = b
  | a, b, k, m, ha, hb, e => by
    cases a <;> first
      | (simp [keyOk] at ha; done)
      | (cases b <;> first
        | (simp [keyOk] at hb; done)
        | rfl
        | (simp only [keyD, NestedKey.num.injEq, NestedKey.text.injEq, reduceCtorEq] at e; done)
        | (simp only [keyD, NestedKey.num.injEq, NestedKey.text.injEq] at e; rw [e]; done)
        | (cases k with
          | zero => simp [keyOk] at ha
          | succ k =>
            cases m with
            | zero => simp [keyOk] at hb
            | succ m =>
              rw [keyOk] at ha hb
              simp only [keyD, NestedKey.tup.injEq] at e
              rw [keyL_inj ha hb e]))
theorem keyL_inj : ∀ {l m : List D} {k j : Nat}, keyOkL l k = true → keyOkL m j = true → keyL l = keyL m → l = m
  | [], [], _, _, _, _, _ => rfl
  | [], b :: m, _, _, _, _, e => by simp [keyL] at e
  | a :: l, [], _, _, _, _, e => by simp [keyL] at e
  | a :: l, b :: m, k, j, hl, hm, e => by
    rw [keyOkL, Bool.and_eq_true] at hl hm
    simp only [keyL, List.cons.injEq] at e
    rw [keyD_inj hl.1 hm.1 e.1, keyL_inj hl.2 hm.2 e.2]
end
section
variable {X : Cx} {pins : List (Addr × Obj)} {σ : L2.St} {H : Hp} {s : Shared} {K : KX} {L : List Addr}
mutual
theorem key_is (I : Inv X pins σ H s) : ∀ {d : D} {k : Nat} {v : V} {u : Value}, keyOk d k = true → Den K L H d v → RelV v u → NestedIs s.heap (keyD d) u ∧ (keyD d).depth ≤ k
  | .non, k, v, u, h, dv, r => by
    rw [Den] at dv
    subst dv
    cases (show u = Value.none from r)
    exact ⟨.none, Nat.zero_le _⟩
  | .int i, k, v, u, h, dv, r => by
    rw [Den] at dv
    subst dv
    obtain ⟨t, rfl⟩ := r
    exact ⟨.int i t, Nat.zero_le _⟩
  | .str x, k, v, u, h, dv, r => by
    rw [Den] at dv
    subst dv
    obtain ⟨t, rfl⟩ := r
    exact ⟨.text x t, Nat.zero_le _⟩
  | .tup l, 0, v, u, h, dv, r => by simp [keyOk] at h
  | .tup l, k + 1, v, u, h, dv, r => by
    rw [keyOk] at h
    rw [Den] at dv
    obtain ⟨a, xs, rfl, ha, _, dl⟩ := dv
    cases (show u = Value.ref a from r)
    obtain ⟨its, rv, ⟨o, e, hc, n, hd⟩, _⟩ := I.tuple (.of ha)
    have ⟨h1, h2⟩ := keys_are I h dl rv
    rw [keyD]
    exact ⟨.tup e hc hd (by simpa using h1), by rw [NestedKey.depth]; omega⟩
  | .bl b, k, v, u, h, dv, r => by simp [keyOk] at h
  | .lst _, k, v, u, h, dv, r => by simp [keyOk] at h
  | .scr _, k, v, u, h, dv, r => by simp [keyOk] at h
  | .obj _, k, v, u, h, dv, r => by simp [keyOk] at h
  | .box _ _, k, v, u, h, dv, r => by simp [keyOk] at h
  | .exn _ _, k, v, u, h, dv, r => by simp [keyOk] at h
theorem keys_are (I : Inv X pins σ H s) : ∀ {l : List D} {k : Nat} {vs : List V} {us : List Value}, keyOkL l k = true → DenL K L H l vs → Vals vs us → NestedAll s.heap (keyL l) us ∧ NestedKey.depthAll (keyL l) ≤ k
  | [], k, vs, us, h, dl, r => by
    rw [DenL] at dl
    subst dl
    cases r
    exact ⟨.nil, Nat.zero_le _⟩
  | d :: l, k, vs, us, h, dl, r => by
    rw [keyOkL, Bool.and_eq_true] at h
    rw [DenL] at dl
    obtain ⟨y, ys, rfl, dy, dl⟩ := dl
    cases r with
    | cons r1 r2 =>
      have ⟨a1, a2⟩ := key_is I h.1 dy r1
      have ⟨b1, b2⟩ := keys_are I h.2 dl r2
      rw [keyL]
      exact ⟨.cons a1 b1, by rw [NestedKey.depthAll]; omega⟩
end
end
/-! ### dicts at the heap's level -/
abbrev EntR : List (NestedKey × Addr × V) → List (NestedKey × Addr × Value) → Prop := Paired fun p q => p.1 = q.1 ∧ p.2.1 = q.2.1 ∧ RelV p.2.2 q.2.2
def atF (fs : List (NestedKey × Addr × V)) (k : NestedKey) : Option V := (fs.find? fun x => decide (x.1 = k)).map (·.2.2)
/-- d[k] = v for a key that is not there yet -/
theorem EntR.at {fs : List (NestedKey × Addr × V)} {es : List (NestedKey × Addr × Value)} (r : EntR fs es) (k : NestedKey) : RelO (atF fs k) ((atKey es k).map (·.2)) := by
  induction r with
  | nil => exact True.intro
  | @cons p q ps qs h t ih =>
    by_cases e : p.1 = k
    · have e' : q.1 = k := h.1 ▸ e
      simp only [atF, atKey, List.find?_cons, e, e', decide_true, Option.map_some]
      exact h.2.2
    · have e' : ¬ q.1 = k := fun z => e (h.1.trans z)
      simp only [atF, atKey, List.find?_cons, e, e', decide_false]
      exact ih
theorem EntR.keys {fs : List (NestedKey × Addr × V)} {es : List (NestedKey × Addr × Value)} (r : EntR fs es) : fs.map (·.1) = es.map (·.1) := by
  induction r with
  | nil => rfl
  | cons h t ih => rw [List.map_cons, List.map_cons, ih, h.1]
theorem EntR.snoc {fs : List (NestedKey × Addr × V)} {es : List (NestedKey × Addr × Value)} {k : NestedKey} {b : Addr} {v : V} {u : Value} (r : EntR fs es) (h : RelV v u) : EntR (fs ++ [(k, b, v)]) (es ++ [(k, b, u)]) := by
  induction r with
  | nil => exact .cons ⟨rfl, rfl, h⟩ .nil
  | cons q t ih => exact .cons q ih
section
variable {X : Cx} {pins : List (Addr × Obj)} {σ : L2.St} {H : Hp} {s : Shared} {K : KX} {L : List Addr}
theorem row_keys (I : Inv X pins σ H s) : ∀ {kvs : List (D × D)} {xs : List V} {fs : List (NestedKey × Addr × V)}, DRow kvs xs fs → DenL K L H (flatK kvs) xs → ∀ x ∈ fs, NestedIs s.heap x.1 (.ref x.2.1) ∧ x.1.depth ≤ 8
  | [], xs, fs, h, d, x, hx => by
    obtain ⟨_, rfl⟩ := h
    cases hx
  | p :: r, xs, fs, h, d, x, hx => by
    obtain ⟨b, vv, ys, gs, rfl, rfl, ok, hr⟩ := h
    rw [flatK, DenL] at d
    obtain ⟨y1, ys1, e1, d1, d⟩ := d
    cases e1
    rw [DenL] at d
    obtain ⟨y2, ys2, e2, d2, d⟩ := d
    cases e2
    rcases List.mem_cons.mp hx with rfl | hx
    · exact key_is I ok d1 rfl
    · exact row_keys I hr d x hx
theorem row_get : ∀ {kvs : List (D × D)} {xs : List V} {fs : List (NestedKey × Addr × V)} {k : D}, keyOk k 8 = true → DRow kvs xs fs → DenL K L H (flatK kvs) xs → (match getK kvs k with
    | some d => ∃ v, atF fs (keyD k) = some v ∧ Den K L H d v
    | none => atF fs (keyD k) = none)
  | [], xs, fs, k, hk, h, d => by
    obtain ⟨_, rfl⟩ := h
    exact rfl
  | p :: r, xs, fs, k, hk, h, d => by
    obtain ⟨b, vv, ys, gs, rfl, rfl, ok, hr⟩ := h
    rw [flatK, DenL] at d
    obtain ⟨y1, ys1, e1, d1, d⟩ := d
    cases e1
    rw [DenL] at d
    obtain ⟨y2, ys2, e2, d2, d⟩ := d
    cases e2
    have ih := row_get hk hr d
    by_cases e : p.1 = k
    · subst e
      simp only [getK, atF, List.find?_cons, same_refl, decide_true, Option.map_some]
      exact ⟨_, rfl, d2⟩
    · have e1 : same p.1 k = false := by
        cases q : same p.1 k with
        | false => rfl
        | true => exact absurd (same_eq q) e
      have e2 : ¬ keyD p.1 = keyD k := fun z => e (keyD_inj ok hk z)
      simp only [getK, atF, List.find?_cons, e1, e2, decide_false]
      exact ih
theorem raw_dict (I : Inv X pins σ H s) {a : Addr} {fs : List (NestedKey × Addr × V)} (e : H a = some (.ext (DRaw (fun k => k.hash X.w) a fs))) (nd : (fs.map (·.1)).Nodup) (ks : ∀ x ∈ fs, NestedIs s.heap x.1 (.ref x.2.1) ∧ x.1.depth ≤ 8) :
    ∃ es, EntR fs es ∧ s.heap.DictOfH (nestedKind X.prog X.w) a es := by
  obtain ⟨⟨es, r, o, es', ep, ho, hc, hd, he⟩, _⟩ := I.hok a _ e
  have r : EntR fs es := r
  refine ⟨es, r, o, es', ep, ho, hc, hd, he, fun x hx => ?_, by rw [← EntR.keys r]; exact nd⟩
  have key : ∀ {fs : List (NestedKey × Addr × V)} {es : List (NestedKey × Addr × Value)}, EntR fs es → (∀ x ∈ fs, NestedIs s.heap x.1 (.ref x.2.1) ∧ x.1.depth ≤ 8) → ∀ x ∈ es, NestedIs s.heap x.1 (.ref x.2.1) ∧ x.1.depth ≤ 8 := by
    intro fs es r
    induction r with
    | nil => intro _ x hx; cases hx
    | @cons p q ps qs h t ih =>
      intro ks x hx
      rcases List.mem_cons.mp hx with rfl | hx
      · have := ks p List.mem_cons_self
        rw [h.1, h.2.1] at this
        exact this
      · exact ih (fun y hy => ks y (List.mem_cons_of_mem _ hy)) x hx
  exact key r ks x hx
end
section
variable {X : Cx} {pins : List (Addr × Obj)} {σ : L2.St} {H : Hp} {s : Shared} {A : Around} {E : Value → Shared → Prop} {a b : Addr} {fs : List (NestedKey × Addr × V)} {nk : NestedKey}
theorem nest_room (hu : A.units + 9 < cLine) : (nestedKind X.prog X.w).room A.in1 := by
  show A.in1.units + 8 < cLine
  have : A.in1.units = A.units + 1 := rfl
  omega
theorem n_in {Q : Value → Shared → Prop} (hu : A.units + 9 < cLine) (I : Inv X pins σ H s) (hd : (a == sysModules) = false) (e : H a = some (.ext (DRaw (fun k => k.hash X.w) a fs))) (nd : (fs.map (·.1)).Nodup) (ks : ∀ x ∈ fs, NestedIs s.heap x.1 (.ref x.2.1) ∧ x.1.depth ≤ 8)
    (hk : NestedIs s.heap nk (.ref b) ∧ nk.depth ≤ 8) (h : ∀ s', Inv X pins σ H s' → Q (.bool (atF fs nk).isSome) s') : wpAny (model X.prog X.w) A (compareOp .In (.ref b) (.ref a)) Q E s := by
  obtain ⟨es, r, dd⟩ := raw_dict I e nd ks
  refine PySem.wpAny_in_heap (nest_room hu) hk hd dd ?_
  have q := (r.at nk).isSome_eq
  rw [Option.isSome_map] at q
  rw [← q]
  exact h _ (I.tok _)
theorem n_notIn {Q : Value → Shared → Prop} (hu : A.units + 9 < cLine) (I : Inv X pins σ H s) (hd : (a == sysModules) = false) (e : H a = some (.ext (DRaw (fun k => k.hash X.w) a fs))) (nd : (fs.map (·.1)).Nodup) (ks : ∀ x ∈ fs, NestedIs s.heap x.1 (.ref x.2.1) ∧ x.1.depth ≤ 8)
    (hk : NestedIs s.heap nk (.ref b) ∧ nk.depth ≤ 8) (h : ∀ s', Inv X pins σ H s' → Q (.bool (!(atF fs nk).isSome)) s') : wpAny (model X.prog X.w) A (compareOp .NotIn (.ref b) (.ref a)) Q E s := by
  obtain ⟨es, r, dd⟩ := raw_dict I e nd ks
  refine wpAny_notIn_heap (nest_room hu) hk hd dd ?_
  have q := (r.at nk).isSome_eq
  rw [Option.isSome_map] at q
  rw [← q]
  exact h _ (I.tok _)
theorem n_getItem {v : V} {Q : Value → Shared → Prop} (hu : A.units + 9 < cLine) (I : Inv X pins σ H s) (e : H a = some (.ext (DRaw (fun k => k.hash X.w) a fs))) (nd : (fs.map (·.1)).Nodup) (ks : ∀ x ∈ fs, NestedIs s.heap x.1 (.ref x.2.1) ∧ x.1.depth ≤ 8)
    (hk : NestedIs s.heap nk (.ref b) ∧ nk.depth ≤ 8) (hv : atF fs nk = some v) (h : ∀ w' s', Inv X pins σ H s' → RelV v w' → Q w' s') : wpAny (model X.prog X.w) A (getItem (.ref a) (.ref b)) Q E s := by
  obtain ⟨es, r, dd⟩ := raw_dict I e nd ks
  obtain ⟨w', hw, rw'⟩ := RelO.some_of (v := v) (o := (atKey es nk).map (·.2)) (by rw [← hv]; exact r.at nk)
  obtain ⟨p, hp, hp2⟩ := Option.map_eq_some_iff.mp hw
  refine PySem.wpAny_getItem_heap (nest_room hu) hk dd hp ?_
  rw [hp2]
  exact h w' _ (I.tok _) rw'
/-- d[k] = v, k not there yet -/
theorem n_setNew {v : V} {u : Value} {Q : Unit → Shared → Prop} (hu : A.units + 9 < cLine) (I : Inv X pins σ H s) (e : H a = some (.ext (DRaw (fun k => k.hash X.w) a fs))) (nd : (fs.map (·.1)).Nodup) (ks : ∀ x ∈ fs, NestedIs s.heap x.1 (.ref x.2.1) ∧ x.1.depth ≤ 8)
    (hk : NestedIs s.heap nk (.ref b) ∧ nk.depth ≤ 8) (hv : atF fs nk = none) (hl : fs.length ≤ sizeLine) (rv : RelV v u) (h : ∀ s', Inv X pins σ (upd H a (.ext (DRaw (fun k => k.hash X.w) a (fs ++ [(nk, b, v)])))) s' → Q () s') :
    wpAny (model X.prog X.w) A (setItem (.ref a) (.ref b) u) Q E s := by
  obtain ⟨es, r, dd⟩ := raw_dict I e nd ks
  have none_ : atKey es nk = none := by
    have q := (r.at nk).isSome_eq
    rw [Option.isSome_map, hv] at q
    cases z : atKey es nk with
    | none => rfl
    | some p => rw [z] at q; cases q
  refine PySem.wpAny_setItem_heap (hsz := by rw [← Paired.length r]; exact hl) (nest_room hu) hk dd fun h' dd' hs => h _ ?_
  rw [storedH_new none_] at dd'
  obtain ⟨q, es', ep, hq, h2, h3, h4, _, h5⟩ := dd'
  refine d_write I (by rw [e]; exact True.intro) hs ⟨q, hq⟩ ⟨⟨_, EntR.snoc r rv, q, es', ep, hq, h2, h3, h4⟩, ⟨q, hq⟩, fun h1 h2 ⟨es, r, o, es', ep, ho, k⟩ hx => ⟨es, r, o, es', ep, hx o ho, k⟩⟩
end
section
variable {X : Cx} {pos : Pos} {k v : Expr} {tk tv : TE}
/-- {k: v}: the new dict stands empty while the pair is made -/
def tDispN (w : World) (tk tv : TE) : TE := fun σ H Q => ∀ p, H p = none → (p == sysModules) = false → tk σ (upd H p (.ext (DRaw (fun k => k.hash w) p []))) fun x H1 => tv σ H1 fun y H2 => H2 p = some (.ext (DRaw (fun k => k.hash w) p [])) ∧
  ∃ K L d b, x = .ref b ∧ keyOk d 8 = true ∧ Den K L H2 d x ∧ Q (.ref p) (upd H2 p (.ext (DRaw (fun k => k.hash w) p [(keyD d, b, y)])))
theorem raw_stay {hf : NestedKey → Int} {a : Addr} {fs : List (NestedKey × Addr × V)} {h1 h2 : Heap} : DRaw hf a fs h1 → (∀ o, h1.get? a = some o → h2.get? a = some o) → DRaw hf a fs h2 := fun ⟨es, r, o, es', ep, ho, k⟩ hx => ⟨es, r, o, es', ep, hx o ho, k⟩
theorem pe_dispN (hu : X.A.units + 10 < cLine) (hk : PE X k tk) (hv : PE X v tv) : PE X (.Dict [some k] [v] pos) (tDispN X.w tk tv) := by
  refine ⟨fun pins s σ H Q I q => ?_⟩
  have hn := I.hok.fresh (Nat.le_refl s.heap.objs.size)
  have hb := I.big
  have hs0 : (s.heap.objs.size == sysModules) = false := beq_eq_false_iff_ne.mpr (Ne.symm (Nat.ne_of_lt hb))
  have I1 := I.laid (a := s.heap.objs.size) (o := .ext (DRaw (fun k => k.hash X.w) s.heap.objs.size [])) (h' := s.heap.push { cls := .type "dict", data := .dict #[] }) (t' := s.toks) (fun _ _ q => Heap.get?_push_of_some _ q) (Nat.le_refl _)
    ⟨⟨[], .nil, _, #[], 0, Heap.get?_push_size _ rfl, ⟨rfl, rfl, rfl⟩, rfl, rfl⟩, ⟨_, Heap.get?_push_size _ rfl⟩, fun h1 h2 a b => raw_stay a b⟩
  have hroom : (nestedKind X.prog X.w).room X.A := by
    show X.A.units + 8 < cLine
    omega
  rw [arm_eval_Dict, zip_pairTrees [some k] [v] X.env pos rfl rfl, dictDisplay_pairs (pairTrees [some k] [v] X.env pos) (by intro z; cases z) (show 1 < 17 by decide)]
  refine wpAny_bind (wpAny_standAt (wpAny_bind (wpAny_subDictH (knd := nestedKind X.prog X.w) (Q := fun d s' => wpAny (model X.prog X.w) X.A (pure (Value.ref d)) _ X.xe s') hroom (show 1 ≤ 15 by decide) ?_)))
  refine pairTrees_cons_walk (thn (hk.run pins _ σ _ _ I1 (q _ hn hs0)) fun u s1 ⟨x, H1, I1, rx, q1⟩ => thn (hv.run pins s1 σ H1 _ I1 q1) fun w2 s2 ⟨y, H2, I2, ry, e2, K, L, d, b, ex, ok, dn, q2⟩ => pairTrees_nil_walk ?_)
  subst ex
  cases rx
  have ki := key_is I2 ok dn rfl
  obtain ⟨es, r0, dd⟩ := raw_dict I2 e2 List.nodup_nil (fun x hx => by cases hx)
  cases r0
  refine ⟨[(keyD d, b, w2)], ⟨rfl, rfl, ki, trivial⟩, dd, fun h' tk dd' hs => wpAny_pure ?_⟩
  obtain ⟨o, es', ep, hq, h2, h3, h4, _, h5⟩ := dd'
  refine ⟨.ref s.heap.objs.size, _, d_write (ob := .ext (DRaw (fun k => k.hash X.w) s.heap.objs.size [(keyD d, b, y)])) I2 (by rw [e2]; exact True.intro) hs ⟨o, hq⟩ ⟨⟨[(keyD d, b, w2)], .cons ⟨rfl, rfl, ry⟩ .nil, o, es', ep, hq, h2, h3, h4⟩, ⟨o, hq⟩, fun h1 h2 a b => raw_stay a b⟩, rfl, q2⟩
end
theorem Rel.dct {K : KX} {L : List Addr} {H : Hp} {S : Store} {v : V} {i : Nat} {kvs : List (D × D)} (r : Rel K L H S) (h : Den K L H (.obj i) v) (e : S[i]? = some (.dct kvs)) : ∃ a xs fs, v = .ref a ∧ L[i]? = some a ∧ H a = some (.ext (DRaw K.hf a fs)) ∧
    (a == sysModules) = false ∧ kvs.length ≤ sizeLine ∧ (fs.map (·.1)).Nodup ∧ DRow kvs xs fs ∧ DenL K L H (flatK kvs) xs ∧ loL i (flatK kvs) = true := by
  obtain ⟨a, rfl, ha⟩ := den_obj h
  obtain ⟨b, hb, lo, xs, o, h1, ⟨h2, h3, fs, rfl, h4, h5⟩, h6⟩ := r.at_ i _ e
  rw [ha] at hb
  cases hb
  exact ⟨a, xs, fs, rfl, ha, h1, h2, h3, h4, h5, h6, lo⟩
theorem dctD_obj {S : Store} {d : D} {kvs : List (D × D)} (h : dctD S d = some kvs) : ∃ i, d = .obj i ∧ S[i]? = some (.dct kvs) := by
  cases d <;> try (cases h; done)
  rename_i i
  unfold dctD at h
  dsimp only at h
  split at h
  · rename_i kvs' e
    cases h
    exact ⟨i, rfl, e⟩
  · cases h
theorem isT_tup {d : D} (h : isT d = true) : ∃ l, d = .tup l := by
  cases d <;> first
    | exact ⟨_, rfl⟩
    | cases h
end Rs

namespace Rs
open PySem PySem.Spec PyProof.Rows L2
/-! ### a tuple once, or not at all -/
theorem tuple_once (l : Addr) (items : Array Value) (n : Nat) (dd : Option Addr) (sl : Array (Option Value)) (u : Tok) :
    Meets (Builtin.«tuple.__mul__» ⟨[.ref l, .int 1 u], []⟩) (fun _ R s => s.heap.get? l = some { cls := .type "tuple", dict := dd, data := .seq items n, slots := sl } ∧ R (.ok (.ret (Value.ref l))) s) :=
  .of_wp fun prog w A R s h => by
    obtain ⟨hp, g, d, tk, os⟩ := s
    obtain ⟨hl, h⟩ := h
    have f1 := AutoSeq1.idx_int
    have c1 : (items.isEmpty || (1 : Int) == 1) = true := by simp
    wp_walk using wpAny_loadPart' hl
    exact ⟨_, rfl, h⟩
theorem tuple_never (l : Addr) (items : Array Value) (n : Nat) (dd : Option Addr) (sl : Array (Option Value)) (u : Tok) (k : Int) (hk : k ≤ 0) (hk2 : -1000 ≤ k) (hne : items.isEmpty = false) :
    Meets (Builtin.«tuple.__mul__» ⟨[.ref l, .int k u], []⟩) (fun _ R s => s.heap.get? l = some { cls := .type "tuple", dict := dd, data := .seq items n, slots := sl } ∧
      R (.ok (.ret (Value.ref s.heap.objs.size))) { s with heap := s.heap.push { cls := Value.type "tuple", data := Data.seq #[] }, toks := s.toks }) :=
  .of_wp fun prog w A R s h => by
    obtain ⟨hp, g, d, tk, os⟩ := s
    obtain ⟨hl, h⟩ := h
    have f1 := AutoSeq1.idx_int
    have c0 : (decide (k < -(2 ^ 63)) || decide (k ≥ 2 ^ 63)) = false := by
      rw [decide_eq_false (by omega), decide_eq_false (by omega)] <;> rfl
    have c1 : (items.isEmpty || k == 1) = false := by
      rw [hne, Bool.false_or]
      exact beq_eq_false_iff_ne.mpr (by omega)
    have c2 : (decide (k ≤ 0) || items.isEmpty) = true := by
      rw [hne, Bool.or_false]
      exact decide_eq_true hk
    wp_walk using wpAny_loadPart' hl
    refine wpAny_ite_false (decide_eq_false (by rw [c0]; exact Bool.false_ne_true)) ?_
    wp_walk using wpAny_loadPart' hl
    refine wpAny_ite_false (decide_eq_false (by rw [c1]; exact Bool.false_ne_true)) ?_
    wp_walk using wpAny_loadPart' hl
    exact ⟨_, rfl, h⟩
/-- a tuple times a number -/
def rRepA (K : PySem.W.Frag) : R2 := fun x y H Q => ∃ l k xs, x = .ref l ∧ y = .int k ∧ SqT K H l xs ∧ xs ≠ [] ∧ -1000 ≤ k ∧ k ≤ 1000 ∧ xs.length ≤ 1000 ∧ (k = 1 → Q x H) ∧ (k ≠ 1 → ∀ p, H p = none → Q (.ref p) (upd H p (.tup (List.replicate k.toNat xs).flatten)))
theorem op_repA {X : Cx} : OpR X (binaryOp .Mult) (rRepA X.K) := by
  intro pins s σ H x y v u Q I rx ry ⟨l, k, xs, e1, e2, hT, ne, lo, hi, hz, q1, q2⟩
  by_cases hk : 2 ≤ k
  · exact op_repT pins s σ H x y v u Q I rx ry ⟨l, k, xs, e1, e2, hT, ne, hk, hi, hz, q2 (by omega)⟩
  subst e1
  subst e2
  cases rx
  have ⟨t, eu⟩ := ry
  subst eu
  have ⟨its, r, ⟨⟨cls, dd, data, sl⟩, ho, hc, n, hd⟩, hs⟩ := I.tuple hT
  simp only at hc hd
  subst hc hd
  have len : its.length = xs.length := r.length.symm
  have some_ : its.toArray.isEmpty = false := by
    cases its with
    | nil => exact absurd (List.eq_nil_of_length_eq_zero len.symm) ne
    | cons a b => rfl
  by_cases h1 : k = 1
  · subst h1
    refine wpAny_binaryOp_repeat_ref (T := "tuple") (U := "int") (by decide) ⟨_, ho, rfl⟩ (fun s' => typeIs_int s' 1 t) noFill_tuple_mul F.fills_int_mul F.slot_int_rmul repeat_tuple F.slot_int_index.lookup
      (call_meets F.slot_int_rmul (typeIs_int s 1 t) F.entry_int_rmul (F.args_int_rmul_2 _ _) (int_rmul_tuple 1 t l its.toArray n dd sl)
        ⟨ho, rfl, ⟨_, ho, rfl⟩, call_meets F.slot_tuple_mul ⟨_, ho, rfl⟩ F.entry_tuple_mul (F.args_tuple_mul_2 _ _) (tuple_once l its.toArray n dd sl t) ⟨ho, ?_⟩⟩)
    exact ⟨.ref l, H, I, rfl, q1 rfl⟩
  · have z : k ≤ 0 := by omega
    refine wpAny_binaryOp_repeat_ref (T := "tuple") (U := "int") (by decide) ⟨_, ho, rfl⟩ (fun s' => typeIs_int s' k t) noFill_tuple_mul F.fills_int_mul F.slot_int_rmul repeat_tuple F.slot_int_index.lookup
      (call_meets F.slot_int_rmul (typeIs_int s k t) F.entry_int_rmul (F.args_int_rmul_2 _ _) (int_rmul_tuple k t l its.toArray n dd sl)
        ⟨ho, rfl, ⟨_, ho, rfl⟩, call_meets F.slot_tuple_mul ⟨_, ho, rfl⟩ F.entry_tuple_mul (F.args_tuple_mul_2 _ _) (tuple_never l its.toArray n dd sl t k z lo some_) ⟨ho, ?_⟩⟩)
    have e0 : (List.replicate k.toNat xs).flatten = [] := by
      rw [show k.toNat = 0 by omega]
      rfl
    refine ⟨.ref s.heap.objs.size, _, I.laid (t' := s.toks) (o := .tup []) (fun b ob q => Heap.get?_push_of_some _ q) (Nat.le_refl _) ?_, rfl, e0 ▸ q2 h1 _ (I.hok.fresh (Nat.le_refl _))⟩
    exact ⟨by rw [sizeLine_eq]; decide, _, (by first | exact .nil | trivial | constructor | simp [Vals]), IsTup.new _ _⟩
end Rs

namespace Rs
open PySem PySem.Spec PyProof.Rows L2
section
variable {X : Cx} {w : Xd} {W : WX}
theorem den_i {K : KX} {L : List Addr} {H : Hp} {i : Int} : Den K L H (.int i) (.int i) := by rw [Den]
theorem den_b {K : KX} {L : List Addr} {H : Hp} {i : Bool} : Den K L H (.bl i) (.bl i) := by rw [Den]
theorem den_s {K : KX} {L : List Addr} {H : Hp} {i : Str} : Den K L H (.str i) (.str i) := by rw [Den]
theorem den_n {K : KX} {L : List Addr} {H : Hp} : Den K L H .non .non := by rw [Den]
theorem of_i {K : KX} {L : List Addr} {H : Hp} {i : Int} {v : V} (h : Den K L H (.int i) v) : v = .int i := by rwa [Den] at h
theorem of_b {K : KX} {L : List Addr} {H : Hp} {i : Bool} {v : V} (h : Den K L H (.bl i) v) : v = .bl i := by rwa [Den] at h
theorem of_s {K : KX} {L : List Addr} {H : Hp} {i : Str} {v : V} (h : Den K L H (.str i) v) : v = .str i := by rwa [Den] at h
theorem of_n {K : KX} {L : List Addr} {H : Hp} {v : V} (h : Den K L H .non v) : v = .non := by rwa [Den] at h
theorem op_binD_sub : OpR X (binaryOp .Sub) (rB w W fun a b _ => binD .sub a b) := by
  intro pins s σ H x y v u Q I rx ry ⟨σ', L, S, a, b, r, da, db, h⟩
  obtain ⟨z, e, h⟩ := h.ofO
  cases a <;> cases b <;> simp only [binD, reduceCtorEq] at e
  cases of_i da; cases of_i db
  cases e
  exact op_sub pins s σ H _ _ v u Q I rx ry ⟨_, _, rfl, rfl, h.here r den_i⟩
theorem denL_rep {K : KX} {L : List Addr} {H : Hp} {l : List D} {xs : List V} (d : DenL K L H l xs) : ∀ n : Nat, DenL K L H (List.replicate n l).flatten (List.replicate n xs).flatten
  | 0 => DenL.nil
  | n + 1 => by
    rw [List.replicate_succ, List.replicate_succ, List.flatten_cons, List.flatten_cons]
    exact DenL.append d (denL_rep d n)
theorem op_binD_mul : OpR X (binaryOp .Mult) (rB w W fun a b _ => binD .mul a b) := by
  intro pins s σ H x y v u Q I rx ry ⟨σ', L, S, a, b, r, da, db, h⟩
  obtain ⟨z, e, h⟩ := h.ofO
  cases a <;> cases b <;> simp only [binD, reduceCtorEq] at e
  · cases of_i da; cases of_i db
    split at e
    · rename_i hl
      cases e
      exact op_mul pins s σ H _ _ v u Q I rx ry ⟨_, _, rfl, rfl, hl, h.here r den_i⟩
    · cases e
  · cases of_i db
    obtain ⟨t, xs, rfl, h1, _, h2⟩ := den_tup da
    split at e
    · rename_i hl
      cases e
      have len := h2.length
      have ne : xs ≠ [] := fun q => by
        rw [q] at len
        rw [List.length_nil] at len
        omega
      refine op_repA pins s σ H _ _ v u Q I rx ry ⟨t, _, xs, rfl, rfl, .of h1, ne, hl.2.2.1, hl.2.2.2, by omega, fun k1 => ?_, fun _ p np => end_tup h r (denL_rep h2 _) np⟩
      subst k1
      refine h.here r ?_
      rw [show (List.replicate (1 : Int).toNat _).flatten = _ from List.append_nil _]
      exact da
    · cases e
  · cases of_i db
    obtain ⟨t, xs, rfl, h1, _, h2⟩ := den_lst da
    split at e
    · rename_i hl
      cases e
      have len := h2.length
      refine op_rep pins s σ H _ _ v u Q I rx ry ⟨t, _, xs, rfl, rfl, h1, by omega, by omega, ?_, fun p np => end_lst h r (denL_rep h2 _) np⟩
      rw [sizeLine_eq, ← len]
      exact Nat.le_trans (Nat.mul_le_mul hl.1 (show _ ≤ 1000 by omega)) (by decide)
    · cases e
theorem op_binD_fdiv : OpR X (binaryOp .FloorDiv) (rB w W fun a b _ => binD .fdiv a b) := by
  intro pins s σ H x y v u Q I rx ry ⟨σ', L, S, a, b, r, da, db, h⟩
  obtain ⟨z, e, h⟩ := h.ofO
  cases a <;> cases b <;> simp only [binD, reduceCtorEq] at e
  cases of_i da; cases of_i db
  split at e
  · rename_i hl
    cases e
    exact op_fdivN pins s σ H _ _ v u Q I rx ry ⟨_, _, rfl, rfl, hl, h.here r den_i⟩
  · cases e
theorem op_binD_mod : OpR X (binaryOp .Mod) (rB w W fun a b _ => binD .mod a b) := by
  intro pins s σ H x y v u Q I rx ry ⟨σ', L, S, a, b, r, da, db, h⟩
  obtain ⟨z, e, h⟩ := h.ofO
  cases a <;> cases b <;> simp only [binD, reduceCtorEq] at e
  cases of_i da; cases of_i db
  split at e
  · rename_i hl
    cases e
    exact op_modN pins s σ H _ _ v u Q I rx ry ⟨_, _, rfl, rfl, hl, h.here r den_i⟩
  · cases e
theorem op_binD_pow : OpR X (binaryOp .Pow) (rB w W fun a b _ => binD .pow a b) := by
  intro pins s σ H x y v u Q I rx ry ⟨σ', L, S, a, b, r, da, db, h⟩
  obtain ⟨z, e, h⟩ := h.ofO
  cases a <;> cases b <;> simp only [binD, reduceCtorEq] at e
  cases of_i da; cases of_i db
  split at e
  · rename_i hl
    cases e
    exact op_pow pins s σ H _ _ v u Q I rx ry ⟨_, _, rfl, rfl, hl, h.here r den_i⟩
  · cases e
def opOf : Op2 → Operator
  | .add => .Add | .sub => .Sub | .mul => .Mult | .fdiv => .FloorDiv | .mod => .Mod | .pow => .Pow
theorem op_binD (hK : X.K = w.K.K) (o : Op2) : OpR X (binaryOp (opOf o)) (rB w W fun a b _ => binD o a b) := by
  cases o with
  | add => exact op_binD_add hK
  | sub => exact op_binD_sub
  | mul => exact op_binD_mul
  | fdiv => exact op_binD_fdiv
  | mod => exact op_binD_mod
  | pow => exact op_binD_pow

/-! ### comparisons -/
section
variable {K : KX} {L : List Addr} {H : Hp}
mutual
theorem den_dp : ∀ (d : D) (v : V) (k : Nat), d.fit k = true → Den K L H d v → Dp K.K H v d.toPy
  | .non, v, k, f, h => by
    rw [of_n h]
    exact .non
  | .bl b, v, k, f, h => by
    rw [of_b h]
    exact .bl b
  | .int b, v, k, f, h => by
    rw [of_i h]
    exact .int b
  | .str b, v, k, f, h => by
    rw [of_s h]
    exact .str b
  | .tup l, v, 0, f, h => by simp [D.fit] at f
  | .tup l, v, k + 1, f, h => by
    rw [D.fit] at f
    obtain ⟨a, xs, rfl, h1, _, h2⟩ := den_tup h
    exact .tup (.of h1) (den_dpL l xs k f h2)
  | .lst l, v, 0, f, h => by simp [D.fit] at f
  | .lst l, v, k + 1, f, h => by
    rw [D.fit] at f
    obtain ⟨a, xs, rfl, h1, _, h2⟩ := den_lst h
    exact .lst (.of h1) (den_dpL l xs k f h2)
  | .scr _, v, k, f, h => by simp [D.fit] at f
  | .obj _, v, k, f, h => by simp [D.fit] at f
  | .box _ _, v, k, f, h => by simp [D.fit] at f
  | .exn _ _, v, k, f, h => by simp [D.fit] at f
theorem den_dpL : ∀ (l : List D) (vs : List V) (k : Nat), fitL l k = true → DenL K L H l vs → DpAll K.K H vs (toPyL l)
  | [], vs, k, f, h => by
    rw [DenL] at h
    subst h
    exact .nil
  | d :: ds, vs, k, f, h => by
    rw [DenL] at h
    obtain ⟨y, ys, rfl, r, rs⟩ := h
    rw [fitL] at f
    obtain ⟨f1, f2⟩ := Bool.and_eq_true_iff.mp f
    exact .cons (den_dp d y k f1 r) (den_dpL ds ys k f2 rs)
end
mutual
theorem fit_lay : ∀ (d : D) (k : Nat), d.fit k = true → d.toPy.canLay0 = true ∧ d.toPy.depth ≤ k
  | .non, k, f => by simp [D.toPy, PyData.canLay0, PyData.depth]
  | .bl b, k, f => by simp [D.toPy, PyData.canLay0, PyData.depth]
  | .int b, k, f => by simp [D.toPy, PyData.canLay0, PyData.depth]
  | .str b, k, f => by
    rw [D.fit] at f
    simp [D.toPy, PyData.canLay0, PyData.depth, f]
  | .tup l, 0, f => by simp [D.fit] at f
  | .tup l, k + 1, f => by
    rw [D.fit] at f
    have := fit_layL l k f
    simp [D.toPy, PyData.canLay0, PyData.depth, this]
  | .lst l, 0, f => by simp [D.fit] at f
  | .lst l, k + 1, f => by
    rw [D.fit] at f
    have := fit_layL l k f
    simp [D.toPy, PyData.canLay0, PyData.depth, this]
  | .scr _, k, f => by simp [D.fit] at f
  | .obj _, k, f => by simp [D.fit] at f
  | .box _ _, k, f => by simp [D.fit] at f
  | .exn _ _, k, f => by simp [D.fit] at f
theorem fit_layL : ∀ (l : List D) (k : Nat), fitL l k = true → PyData.canLayAll0 (toPyL l) = true ∧ PyData.depthAll (toPyL l) ≤ k
  | [], k, f => by simp [toPyL, PyData.canLayAll0, PyData.depthAll]
  | d :: ds, k, f => by
    rw [fitL] at f
    obtain ⟨f1, f2⟩ := Bool.and_eq_true_iff.mp f
    obtain ⟨a1, a2⟩ := fit_lay d k f1
    obtain ⟨b1, b2⟩ := fit_layL ds k f2
    simp only [toPyL, PyData.canLayAll0, PyData.depthAll, a1, b1]
    exact ⟨rfl, by omega⟩
end
theorem fit_shaped {d : D} {k : Nat} (f : d.fit k = true) (h : k ≤ 64) : SeqAt.shaped d.toPy = true := by
  obtain ⟨a, b⟩ := fit_lay d k f
  unfold SeqAt.shaped
  rw [a, decide_eq_true (Nat.le_trans b h)]
  rfl
mutual
theorem eqv_eqT : ∀ (a b : D) (j k : Nat), a.fit j = true → b.fit k = true → PyData.eqv a.toPy b.toPy = eqT a b
  | .non, b, j, k, f, g => by cases b <;> first | rfl | simp [D.fit] at g
  | .bl a, b, j, k, f, g => by cases b <;> first | rfl | simp [D.fit] at g
  | .int a, b, j, k, f, g => by cases b <;> first | rfl | simp [D.fit] at g
  | .str a, b, j, k, f, g => by cases b <;> first | rfl | simp [D.fit] at g
  | .tup l, b, 0, k, f, g => by simp [D.fit] at f
  | .tup l, b, j + 1, k, f, g => by
    rw [D.fit] at f
    cases b with
    | tup m =>
      cases k with
      | zero => simp [D.fit] at g
      | succ k =>
        rw [D.fit] at g
        rw [D.toPy, D.toPy, PyData.eqv, eqT]
        exact eqv_eqLT l m j k f g
    | scr m => simp [D.fit] at g
    | obj m => simp [D.fit] at g
    | box k m => simp [D.fit] at g
    | exn k m => simp [D.fit] at g
    | _ => rfl
  | .lst l, b, 0, k, f, g => by simp [D.fit] at f
  | .lst l, b, j + 1, k, f, g => by
    rw [D.fit] at f
    cases b with
    | lst m =>
      cases k with
      | zero => simp [D.fit] at g
      | succ k =>
        rw [D.fit] at g
        rw [D.toPy, D.toPy, PyData.eqv, eqT]
        exact eqv_eqLT l m j k f g
    | scr m => simp [D.fit] at g
    | obj m => simp [D.fit] at g
    | box k m => simp [D.fit] at g
    | exn k m => simp [D.fit] at g
    | _ => rfl
  | .scr _, b, j, k, f, g => by simp [D.fit] at f
  | .obj _, b, j, k, f, g => by simp [D.fit] at f
  | .box _ _, b, j, k, f, g => by simp [D.fit] at f
  | .exn _ _, b, j, k, f, g => by simp [D.fit] at f
theorem eqv_eqLT : ∀ (a b : List D) (j k : Nat), fitL a j = true → fitL b k = true → PyData.eqvAll (toPyL a) (toPyL b) = eqLT a b
  | [], [], j, k, f, g => by simp [toPyL, PyData.eqvAll, eqLT]
  | [], _ :: _, j, k, f, g => by simp [toPyL, PyData.eqvAll, eqLT]
  | _ :: _, [], j, k, f, g => by simp [toPyL, PyData.eqvAll, eqLT]
  | x :: xs, y :: ys, j, k, f, g => by
    rw [fitL] at f g
    obtain ⟨f1, f2⟩ := Bool.and_eq_true_iff.mp f
    obtain ⟨g1, g2⟩ := Bool.and_eq_true_iff.mp g
    rw [toPyL, toPyL, PyData.eqvAll, eqLT, eqv_eqT x y j k f1 g1, eqv_eqLT xs ys j k f2 g2]
end
end
def rC (w : Xd) (W : WX) (f : D → D → Store → Option Bool) : R2 := rB w W fun a b S => (f a b S).map .bl
theorem eqD_cases {a b : D} {z : Bool} (h : eqD a b = some z) : (∃ x y, a = .str x ∧ b = .str y ∧ z = decide (x = y)) ∨ (a.fit 60 = true ∧ b.fit 60 = true ∧ z = eqT a b) := by
  unfold eqD at h
  split at h
  · cases h
    exact .inl ⟨_, _, rfl, rfl, rfl⟩
  · split at h
    · rename_i q
      cases h
      exact .inr ⟨q.1, q.2, rfl⟩
    · cases h
theorem ofC {f : Option Bool} {z : D} (h : f.map D.bl = some z) : ∃ k, f = some k ∧ z = .bl k := by
  cases f with
  | none => cases h
  | some k =>
    cases h
    exact ⟨k, rfl, rfl⟩
theorem thaw_str {S : Store} {d : D} {s : Str} (h : thaw S d = .str s) : d = .str s := by
  cases d <;> simp only [thaw] at h <;> first
    | exact h
    | (split at h <;> cases h)
    | cases h
theorem thaw_dp {K : KX} {L : List Addr} {H : Hp} {S : Store} {d : D} {v : V} (r : Rel K L H S) (h : Den K L H d v) (f : (thaw S d).fit 60 = true) : Dp K.K H v (thaw S d).toPy := by
  cases d with
  | obj i =>
    unfold thaw at f ⊢
    dsimp only at f ⊢
    split at f
    · rename_i l q
      obtain ⟨a, xs, rfl, _, h1, h2, _⟩ := r.obj h q
      rw [D.fit] at f
      exact .lst (.of h1) (den_dpL l xs 59 f h2)
    · cases f
  | _ => exact den_dp _ v 60 f h
theorem thaw_fit {S : Store} {d : D} (h : d.fit 60 = true) : thaw S d = d := by
  cases d <;> first | rfl | cases h
theorem eqD_thaw {S : Store} {a b : D} {k : Bool} (h : eqD a b = some k) : cmpD .eq a b S = some k := by
  show eqD (thaw S a) (thaw S b) = _
  rcases eqD_cases h with ⟨p, q, rfl, rfl, rfl⟩ | ⟨f1, f2, rfl⟩
  · exact h
  · rw [thaw_fit f1, thaw_fit f2]
    exact h
theorem op_cmp_eq (hK : X.K = w.K.K) (hu : X.A.units + 64 < cLine) : OpR X (compareOp .Eq) (rC w W (cmpD .eq)) := by
  intro pins s σ H x y v u Q I rx ry ⟨σ', L, S, a, b, r, da, db, h⟩
  obtain ⟨z, e0, h⟩ := h.ofO
  obtain ⟨k, e, rfl⟩ := ofC e0
  clear e0
  rcases eqD_cases e with ⟨p, q, ea, eb, rfl⟩ | ⟨f1, f2, rfl⟩
  · cases thaw_str ea
    cases thaw_str eb
    cases of_s da; cases of_s db
    refine op_eq pins s σ H _ _ v u Q I rx ry ⟨rfl, ?_⟩
    have := h.here r den_b
    rwa [show decide (V.str p = V.str q) = decide (p = q) by rw [Bool.eq_iff_iff]; simp]
  · refine op_eqD hu pins s σ H _ _ v u Q I rx ry ⟨(thaw S a).toPy, (thaw S b).toPy, ?_, ?_, fit_shaped f1 (by decide), fit_shaped f2 (by decide), ?_⟩
    · rw [hK]
      exact thaw_dp r da f1
    · rw [hK]
      exact thaw_dp r db f2
    · rw [eqv_eqT (thaw S a) (thaw S b) 60 60 f1 f2]
      exact h.here r den_b
theorem op_cmp_ne (hK : X.K = w.K.K) (hu : X.A.units + 64 < cLine) : OpR X (compareOp .NotEq) (rC w W (cmpD .ne)) := by
  intro pins s σ H x y v u Q I rx ry ⟨σ', L, S, a, b, r, da, db, h⟩
  obtain ⟨z, e0, h⟩ := h.ofO
  obtain ⟨k, e, rfl⟩ := ofC e0
  clear e0
  obtain ⟨k', e', e2⟩ := Option.map_eq_some_iff.mp (show (eqD (thaw S a) (thaw S b)).map (!·) = some k from e)
  subst e2
  rcases eqD_cases e' with ⟨p, q, ea, eb, rfl⟩ | ⟨f1, f2, rfl⟩
  · cases thaw_str ea
    cases thaw_str eb
    cases of_s da; cases of_s db
    refine op_ne pins s σ H _ _ v u Q I rx ry ⟨rfl, ?_⟩
    have := h.here r den_b
    rwa [show decide (V.str p = V.str q) = decide (p = q) by rw [Bool.eq_iff_iff]; simp]
  · refine op_neD hu pins s σ H _ _ v u Q I rx ry ⟨(thaw S a).toPy, (thaw S b).toPy, ?_, ?_, fit_shaped f1 (by decide), fit_shaped f2 (by decide), ?_⟩
    · rw [hK]
      exact thaw_dp r da f1
    · rw [hK]
      exact thaw_dp r db f2
    · rw [eqv_eqT (thaw S a) (thaw S b) 60 60 f1 f2]
      exact h.here r den_b
theorem intsD_denT {K : KX} {L : List Addr} {H : Hp} : ∀ {l : List D} {vs : List V} {ns : List Int}, DenL K L H l vs → intsD l = some ns → vs = ns.map V.int
  | [], vs, b, h, e => by
    rw [DenL] at h
    subst h
    cases e
    rfl
  | d :: ds, vs, b, h, e => by
    rw [DenL] at h
    obtain ⟨y, ys, rfl, r, rs⟩ := h
    cases d <;> simp only [intsD, reduceCtorEq] at e
    obtain ⟨b', e1, rfl⟩ := Option.map_eq_some_iff.mp e
    rw [of_i r, intsD_denT rs e1]
    rfl
theorem lexAt_shift {e r : Nat → Bool} {z : Bool} : ∀ (k i : Nat), Ob.lexAt e r z (i + 1) k = Ob.lexAt (fun j => e (j + 1)) (fun j => r (j + 1)) z i k
  | 0, i => rfl
  | k + 1, i => by
    rw [Ob.lexAt_succ, Ob.lexAt_succ, lexAt_shift k (i + 1)]
theorem ltI_lex : ∀ (ns ms : List Int), ltI ns ms = Ob.lexAt (fun j => decide (ns.getD j 0 = ms.getD j 0)) (fun j => decide (ns.getD j 0 < ms.getD j 0)) (decide (ns.length < ms.length)) 0 (min ns.length ms.length)
  | [], [] => rfl
  | [], y :: ys => by
    rw [List.length_nil, Nat.zero_min, Ob.lexAt_zero, List.length_cons, decide_eq_true (Nat.succ_pos _)]
    rfl
  | x :: xs, [] => by
    rw [List.length_nil, Nat.min_zero, Ob.lexAt_zero, decide_eq_false (Nat.not_lt_zero _)]
    rfl
  | x :: xs, y :: ys => by
    rw [ltI, List.length_cons, List.length_cons, Nat.succ_min_succ, Ob.lexAt_succ, lexAt_shift, ltI_lex xs ys]
    simp only [List.getD_cons_zero, List.getD_cons_succ, Nat.add_lt_add_iff_right, decide_eq_true_eq, Nat.zero_add]
theorem op_ltT (hu : X.A.units < cLine) : OpR X (compareOp .Lt) (fun x y H Q => ∃ (a b : Addr) (ns ms : List Int), x = .ref a ∧ y = .ref b ∧ SqT X.K H a (ns.map V.int) ∧ SqT X.K H b (ms.map V.int) ∧ Q (.bl (ltI ns ms)) H) := by
  intro pins s σ H x y v u Q I rx ry h
  obtain ⟨a, b, ns, ms, rfl, rfl, ha, hb, q⟩ := h
  cases rx
  cases ry
  obtain ⟨its, r1, p1, _⟩ := I.tuple ha
  obtain ⟨its2, r2, p2, _⟩ := I.tuple hb
  have i1 : IntsAre its ns := Vals.ints r1
  have i2 : IntsAre its2 ms := Vals.ints r2
  have e1 : its.toArray.size = ns.length := by rw [List.size_toArray]; exact i1.length
  have e2 : its2.toArray.size = ms.length := by rw [List.size_toArray]; exact i2.length
  have at1 : ∀ j (h1 : j < its.toArray.size), ∃ t, its.toArray[j] = .int (ns.getD j 0) t := fun j h1 => PyProof.Rows.IntsAre.int_at i1 _ _ (by simp at h1; simp [h1])
  have at2 : ∀ j (h1 : j < its2.toArray.size), ∃ t, its2.toArray[j] = .int (ms.getD j 0) t := fun j h1 => PyProof.Rows.IntsAre.int_at i2 _ _ (by simp at h1; simp [h1])
  have R := Ob.RcOp.tuples_lt (A := X.A) (s := s) (e := fun j => decide (ns.getD j 0 = ms.getD j 0)) (r := fun j => decide (ns.getD j 0 < ms.getD j 0)) p1 p2 hu (fun j h1 h2 => by
    obtain ⟨t, et⟩ := at1 j h1
    obtain ⟨t', et'⟩ := at2 j h2
    rw [et, et']
    have z : (ns.getD j 0 == ms.getD j 0) = decide (ns.getD j 0 = ms.getD j 0) := by
      by_cases q : ns.getD j 0 = ms.getD j 0
      · rw [decide_eq_true q]; exact beq_iff_eq.mpr q
      · rw [decide_eq_false q]; exact beq_eq_false_iff_ne.mpr q
    rw [← z]
    exact SeqAt.EqAt.int_int _ _ _ _) (fun j h1 h2 _ => by
    obtain ⟨t, et⟩ := at1 j h1
    obtain ⟨t', et'⟩ := at2 j h2
    rw [et, et']
    exact Ob.RcOp.lt_int _ _ _ _)
  rw [e1, e2] at R
  rw [ltI_lex] at q
  have z : wpAny (model X.prog X.w) X.A (compareOp .Lt (.ref a) (.ref b)) (EP X pins σ Q) X.xe s := R X.prog X.w X.xe (EP X pins σ Q) ⟨.bl _, H, I, rfl, q⟩
  exact z
theorem op_cmp_lt (hu : X.A.units + 64 < cLine) : OpR X (compareOp .Lt) (rC w W (cmpD .lt)) := by
  intro pins s σ H x y v u Q I rx ry ⟨σ', L, S, a, b, r, da, db, h⟩
  obtain ⟨z, e0, h⟩ := h.ofO
  obtain ⟨k, e, rfl⟩ := ofC e0
  clear e0
  cases a <;> cases b <;> simp only [cmpD, reduceCtorEq] at e
  · cases of_i da; cases of_i db
    cases e
    exact op_lt pins s σ H _ _ v u Q I rx ry ⟨_, _, rfl, rfl, h.here r den_b⟩
  · split at e
    · rename_i ns ms q1 q2
      cases e
      obtain ⟨a, xs, rfl, ha, _, d1⟩ := den_tup da
      obtain ⟨b, ys, rfl, hb, _, d2⟩ := den_tup db
      have e1 := intsD_denT d1 q1
      have e2 := intsD_denT d2 q2
      subst e1
      subst e2
      exact op_ltT (by omega) pins s σ H _ _ v u Q I rx ry ⟨_, _, _, _, rfl, rfl, .of ha, .of hb, h.here r den_b⟩
    · cases e
theorem op_cmp_le : OpR X (compareOp .LtE) (rC w W (cmpD .le)) := by
  intro pins s σ H x y v u Q I rx ry ⟨σ', L, S, a, b, r, da, db, h⟩
  obtain ⟨z, e0, h⟩ := h.ofO
  obtain ⟨k, e, rfl⟩ := ofC e0
  clear e0
  cases a <;> cases b <;> simp only [cmpD, reduceCtorEq] at e
  cases of_i da; cases of_i db
  cases e
  exact op_le pins s σ H _ _ v u Q I rx ry ⟨_, _, rfl, rfl, h.here r den_b⟩
theorem op_cmp_gt : OpR X (compareOp .Gt) (rC w W (cmpD .gt)) := by
  intro pins s σ H x y v u Q I rx ry ⟨σ', L, S, a, b, r, da, db, h⟩
  obtain ⟨z, e0, h⟩ := h.ofO
  obtain ⟨k, e, rfl⟩ := ofC e0
  clear e0
  cases a <;> cases b <;> simp only [cmpD, reduceCtorEq] at e
  cases of_i da; cases of_i db
  cases e
  exact op_gt pins s σ H _ _ v u Q I rx ry ⟨_, _, rfl, rfl, h.here r den_b⟩
theorem op_cmp_ge : OpR X (compareOp .GtE) (rC w W (cmpD .ge)) := by
  intro pins s σ H x y v u Q I rx ry ⟨σ', L, S, a, b, r, da, db, h⟩
  obtain ⟨z, e0, h⟩ := h.ofO
  obtain ⟨k, e, rfl⟩ := ofC e0
  clear e0
  cases a <;> cases b <;> simp only [cmpD, reduceCtorEq] at e
  cases of_i da; cases of_i db
  cases e
  exact op_ge pins s σ H _ _ v u Q I rx ry ⟨_, _, rfl, rfl, h.here r den_b⟩
theorem non_of {K : KX} {L : List Addr} {H : Hp} {d : D} {v : V} (h : Den K L H d v) (n : d ≠ .non) : decide (v = V.non) = false := by
  refine decide_eq_false fun e => ?_
  subst e
  cases d with
  | non => exact n rfl
  | bl b => cases of_b h
  | int b => cases of_i h
  | str b => cases of_s h
  | tup l => obtain ⟨_, _, e, _⟩ := den_tup h; cases e
  | lst l => obtain ⟨_, _, e, _⟩ := den_lst h; cases e
  | scr l => obtain ⟨_, _, e, _⟩ := den_scr h; cases e
  | obj l => obtain ⟨_, e, _⟩ := den_obj h; cases e
  | box k l => obtain ⟨_, _, _, e, _⟩ := den_box h; cases e
  | exn k l => obtain ⟨_, _, e, _⟩ := den_exn h; cases e
theorem isD_cases {a b : D} {k : Bool} (h : isD a b = some k) : (∃ x y, a = .bl x ∧ b = .bl y ∧ k = (x == y)) ∨ (b = .non ∧ a = .non ∧ k = true) ∨ (b = .non ∧ a ≠ .non ∧ k = false) := by
  unfold isD at h
  split at h <;> first
    | (cases h; done)
    | (cases h; exact .inl ⟨_, _, rfl, rfl, rfl⟩)
    | (cases h; exact .inr (.inl ⟨rfl, rfl, rfl⟩))
    | (cases h; exact .inr (.inr ⟨rfl, (fun z => nomatch z), rfl⟩))
theorem op_cmp_is : OpR X (compareOp .Is) (rC w W (cmpD .is)) := by
  intro pins s σ H x y v u Q I rx ry ⟨σ', L, S, a, b, r, da, db, h⟩
  obtain ⟨z, e0, h⟩ := h.ofO
  obtain ⟨k, e, rfl⟩ := ofC e0
  clear e0
  have q := h.here r den_b
  rcases isD_cases e with ⟨p, q', rfl, rfl, rfl⟩ | ⟨rfl, rfl, rfl⟩ | ⟨rfl, n, rfl⟩
  · cases of_b da; cases of_b db
    exact op_is_bl pins s σ H _ _ v u Q I rx ry ⟨_, _, rfl, rfl, by rw [show decide (p = q') = (p == q') by rw [Bool.eq_iff_iff]; simp]; exact q⟩
  · cases of_n da; cases of_n db
    exact op_isN pins s σ H _ _ v u Q I rx ry ⟨rfl, q⟩
  · cases of_n db
    exact op_isN pins s σ H _ _ v u Q I rx ry ⟨rfl, by rw [non_of da n]; exact q⟩
theorem op_cmp_isn : OpR X (compareOp .IsNot) (rC w W (cmpD .isn)) := by
  intro pins s σ H x y v u Q I rx ry ⟨σ', L, S, a, b, r, da, db, h⟩
  obtain ⟨z, e0, h⟩ := h.ofO
  obtain ⟨k, e, rfl⟩ := ofC e0
  clear e0
  obtain ⟨k', e', e2⟩ := Option.map_eq_some_iff.mp (show (isD a b).map (!·) = some k from e)
  subst e2
  have q := h.here r den_b
  rcases isD_cases e' with ⟨p, q', rfl, rfl, rfl⟩ | ⟨rfl, rfl, rfl⟩ | ⟨rfl, n, rfl⟩
  · cases of_b da; cases of_b db
    exact op_isnot_bl pins s σ H _ _ v u Q I rx ry ⟨_, _, rfl, rfl, by rw [show decide (p = q') = (p == q') by rw [Bool.eq_iff_iff]; simp]; exact q⟩
  · cases of_n da; cases of_n db
    exact op_notN pins s σ H _ _ v u Q I rx ry ⟨rfl, q⟩
  · cases of_n db
    exact op_notN pins s σ H _ _ v u Q I rx ry ⟨rfl, by rw [non_of da n]; exact q⟩
end
end Rs

namespace Rs
open PySem PySem.Spec PyProof.Rows L2
section
variable {X : Cx} {w : Xd} {W : WX}
/-! ### in -/
theorem flat_den {K : KX} {L : List Addr} {H : Hp} {d : D} {v : V} (h : Den K L H d v) (f : flatD d = true) : flatV v = true := by
  cases d with
  | non => rw [of_n h]; rfl
  | bl b => rw [of_b h]; rfl
  | int b => rw [of_i h]; rfl
  | str b => rw [of_s h]; rfl
  | tup l => cases f
  | lst l => cases f
  | scr l => cases f
  | obj l => cases f
  | box k l => cases f
  | exn k l => cases f
theorem flat_denL {K : KX} {L : List Addr} {H : Hp} : ∀ {l : List D} {vs : List V}, DenL K L H l vs → l.all flatD = true → vs.all flatV = true
  | [], vs, h, f => by
    rw [DenL] at h
    subst h
    rfl
  | d :: ds, vs, h, f => by
    rw [DenL] at h
    obtain ⟨y, ys, rfl, r, rs⟩ := h
    rw [List.all_cons, Bool.and_eq_true_iff] at f
    rw [List.all_cons, flat_den r f.1, flat_denL rs f.2]
    rfl
theorem eqF_den {K : KX} {L : List Addr} {H : Hp} {a b : D} {x y : V} (ha : Den K L H a x) (hb : Den K L H b y) (fa : flatD a = true) (fb : flatD b = true) : eqV x y = eqF a b := by
  cases a <;> first
    | (cases fa; done)
    | (cases b <;> first
        | (cases fb; done)
        | (first | rw [of_n ha] | rw [of_b ha] | rw [of_i ha] | rw [of_s ha]) <;> (first | rw [of_n hb] | rw [of_b hb] | rw [of_i hb] | rw [of_s hb]) <;> rfl)
theorem any_den {K : KX} {L : List Addr} {H : Hp} {b : D} {y : V} (hb : Den K L H b y) (fb : flatD b = true) : ∀ {l : List D} {vs : List V}, DenL K L H l vs → l.all flatD = true → (vs.any fun z => eqV z y) = l.any fun z => eqF z b
  | [], vs, h, f => by
    rw [DenL] at h
    subst h
    rfl
  | d :: ds, vs, h, f => by
    rw [DenL] at h
    obtain ⟨z, zs, rfl, r, rs⟩ := h
    rw [List.all_cons, Bool.and_eq_true_iff] at f
    rw [List.any_cons, List.any_cons, eqF_den r hb f.1 fb, any_den hb fb rs f.2]
theorem any_deep {b : D} (fb : b.fit 60 = true) : ∀ {l : List D}, fitL l 59 = true → ((toPyL l).any fun z => PyData.eqv z b.toPy) = l.any fun z => eqT z b
  | [], f => rfl
  | d :: ds, f => by
    rw [fitL, Bool.and_eq_true_iff] at f
    rw [toPyL, List.any_cons, List.any_cons, eqv_eqT d b 59 60 f.1 fb, any_deep fb f.2]
def rInT (K : PySem.W.Frag) (neg : Bool) : R2 := fun x y H Q => ∃ d ds, Dp K H x d ∧ Dp K H y (.tuple ds) ∧ SeqAt.shaped d = true ∧ SeqAt.shaped (.tuple ds) = true ∧ Q (.bl (if neg then !(ds.any fun z => PyData.eqv z d) else ds.any fun z => PyData.eqv z d)) H
theorem op_inT (hu : X.A.units + 65 < cLine) : OpR X (compareOp .In) (rInT X.K false) := by
  intro pins s σ H x y v u Q I rx ry ⟨d, ds, hd, he, sd, se, q⟩
  have ⟨as, r1⟩ := Dp.reads I d x v hd rx
  have ⟨bs, r2⟩ := Dp.reads I (.tuple ds) y u he ry
  exact SeqAt.in_tuple_reads r2 r1 (SeqAt.canLay_of_shaped se) (SeqAt.canLay_of_shaped sd) (room_in_shaped sd hu) ⟨.bl _, H, I, rfl, q⟩
theorem op_notInT (hu : X.A.units + 65 < cLine) : OpR X (compareOp .NotIn) (rInT X.K true) := by
  intro pins s σ H x y v u Q I rx ry ⟨d, ds, hd, he, sd, se, q⟩
  have ⟨as, r1⟩ := Dp.reads I d x v hd rx
  have ⟨bs, r2⟩ := Dp.reads I (.tuple ds) y u he ry
  exact SeqAt.notIn_tuple_reads r2 r1 (SeqAt.canLay_of_shaped se) (SeqAt.canLay_of_shaped sd) (room_in_shaped sd hu) ⟨.bl _, H, I, rfl, q⟩
theorem mem_cases {S : Store} {x c : D} {k : Bool} (h : memD S x c = some k) : ∃ l, itemsD S c = some l ∧
    ((flatD x = true ∧ l.all flatD = true ∧ k = l.any fun y => eqF y x) ∨ ((c = .lst l ∨ c = .tup l) ∧ x.fit 60 = true ∧ fitL l 59 = true ∧ k = l.any fun y => eqT y x)) := by
  unfold memD at h
  obtain ⟨l, e, h⟩ := Option.bind_eq_some_iff.mp h
  refine ⟨l, e, ?_⟩
  split at h
  · rename_i q
    cases h
    exact .inl ⟨q.1, q.2, rfl⟩
  · split at h
    · split at h
      · rename_i q
        cases h
        cases e
        exact .inr ⟨.inl rfl, q.1, q.2, rfl⟩
      · cases h
    · split at h
      · rename_i q
        cases h
        cases e
        exact .inr ⟨.inr rfl, q.1, q.2, rfl⟩
      · cases h
    · cases h
theorem op_cmp_mem (hK : X.K = w.K.K) (hF : w.K.hf = fun k => k.hash X.w) (hu : X.A.units + 65 < cLine) : OpR X (compareOp .In) (rC w W (cmpD .mem)) := by
  intro pins s σ H x y v u Q I rx ry ⟨σ', L, S, a, b, r, da, db, h⟩
  obtain ⟨z, e0, h0⟩ := h.ofO
  clear h
  obtain ⟨k, e, rfl⟩ := ofC e0
  clear e0
  have q := h0.here r den_b
  have e : memQ S a b = some k := e
  unfold memQ at e
  split at e
  · rename_i kvs ed
    split at e
    · rename_i c
      cases e
      obtain ⟨i, rfl, eS⟩ := dctD_obj ed
      obtain ⟨l, rfl⟩ := isT_tup c.1
      obtain ⟨p, xs, fs, rfl, _, e1, hd, _, nd, row, dr, _⟩ := r.dct db eS
      obtain ⟨pb, ys, rfl, _, _, _⟩ := den_tup da
      cases rx
      cases ry
      rw [hF] at e1
      have g := row_get c.2 row dr
      refine n_in (by omega) I hd e1 nd (row_keys I row dr) (key_is I c.2 da rfl) fun s' I' => ⟨.bl _, H, I', rfl, ?_⟩
      cases z : getK kvs (.tup l) with
      | none =>
        rw [z] at g q
        rw [show atF fs (keyD (.tup l)) = none from g]
        exact q
      | some d =>
        rw [z] at g q
        obtain ⟨v, g, _⟩ := g
        rw [g]
        exact q
    · cases e
  obtain ⟨l, el, hc⟩ := mem_cases e
  obtain ⟨p, xs, rfl, hs, dl⟩ := items_sq r db el
  rcases hc with ⟨f1, f2, rfl⟩ | ⟨rfl | rfl, f1, f2, rfl⟩
  rotate_right
  · refine op_inT hu pins s σ H _ _ v u Q I rx ry ⟨a.toPy, toPyL l, by rw [hK]; exact den_dp a _ 60 f1 da, by rw [hK]; exact den_dp (.tup l) _ 60 (by rw [D.fit]; exact f2) db, fit_shaped f1 (by decide), ?_, ?_⟩
    · exact fit_shaped (d := .tup l) (k := 60) (by rw [D.fit]; exact f2) (by decide)
    · rw [any_deep f1 f2]
      exact q
  · refine op_in_seq pins s σ H _ _ v u Q I rx ry ⟨p, xs, rfl, by rw [hK]; exact hs, flat_den da f1, flat_denL dl f2, ?_⟩
    unfold inV
    rw [any_den da f1 dl f2]
    exact q
  · obtain ⟨p', xs', e', h1, _, h2⟩ := den_lst db
    cases e'
    refine op_inD hu pins s σ H _ _ v u Q I rx ry ⟨a.toPy, toPyL l, by rw [hK]; exact den_dp a _ 60 f1 da, by rw [hK]; exact .lst (.of h1) (den_dpL l xs' 59 f2 h2), fit_shaped f1 (by decide), ?_, ?_⟩
    · exact fit_shaped (d := .lst l) (k := 60) (by rw [D.fit]; exact f2) (by decide)
    · rw [any_deep f1 f2]
      exact q
theorem op_cmp_nmem (hK : X.K = w.K.K) (hF : w.K.hf = fun k => k.hash X.w) (hu : X.A.units + 65 < cLine) : OpR X (compareOp .NotIn) (rC w W (cmpD .nmem)) := by
  intro pins s σ H x y v u Q I rx ry ⟨σ', L, S, a, b, r, da, db, h⟩
  obtain ⟨z, e0, h0⟩ := h.ofO
  clear h
  obtain ⟨k, e, rfl⟩ := ofC e0
  clear e0
  have q := h0.here r den_b
  obtain ⟨k', e', e2⟩ := Option.map_eq_some_iff.mp (show (memQ S a b).map (!·) = some k from e)
  subst e2
  unfold memQ at e'
  split at e'
  · rename_i kvs ed
    split at e'
    · rename_i c
      cases e'
      obtain ⟨i, rfl, eS⟩ := dctD_obj ed
      obtain ⟨l, rfl⟩ := isT_tup c.1
      obtain ⟨p, xs, fs, rfl, _, e1, hd, _, nd, row, dr, _⟩ := r.dct db eS
      obtain ⟨pb, ys, rfl, _, _, _⟩ := den_tup da
      cases rx
      cases ry
      rw [hF] at e1
      have g := row_get c.2 row dr
      refine n_notIn (by omega) I hd e1 nd (row_keys I row dr) (key_is I c.2 da rfl) fun s' I' => ⟨.bl _, H, I', rfl, ?_⟩
      cases z : getK kvs (.tup l) with
      | none =>
        rw [z] at g q
        rw [show atF fs (keyD (.tup l)) = none from g]
        exact q
      | some d =>
        rw [z] at g q
        obtain ⟨v, g, _⟩ := g
        rw [g]
        exact q
    · cases e'
  obtain ⟨l, el, hc⟩ := mem_cases e'
  obtain ⟨p, xs, rfl, hs, dl⟩ := items_sq r db el
  rcases hc with ⟨f1, f2, rfl⟩ | ⟨rfl | rfl, f1, f2, rfl⟩
  rotate_right
  · refine op_notInT hu pins s σ H _ _ v u Q I rx ry ⟨a.toPy, toPyL l, by rw [hK]; exact den_dp a _ 60 f1 da, by rw [hK]; exact den_dp (.tup l) _ 60 (by rw [D.fit]; exact f2) db, fit_shaped f1 (by decide), ?_, ?_⟩
    · exact fit_shaped (d := .tup l) (k := 60) (by rw [D.fit]; exact f2) (by decide)
    · rw [any_deep f1 f2]
      exact q
  · refine op_notIn_seq pins s σ H _ _ v u Q I rx ry ⟨p, xs, rfl, by rw [hK]; exact hs, flat_den da f1, flat_denL dl f2, ?_⟩
    unfold inV
    rw [any_den da f1 dl f2]
    exact q
  · obtain ⟨p', xs', e', h1, _, h2⟩ := den_lst db
    cases e'
    refine op_notInD hu pins s σ H _ _ v u Q I rx ry ⟨a.toPy, toPyL l, by rw [hK]; exact den_dp a _ 60 f1 da, by rw [hK]; exact .lst (.of h1) (den_dpL l xs' 59 f2 h2), fit_shaped f1 (by decide), ?_, ?_⟩
    · exact fit_shaped (d := .lst l) (k := 60) (by rw [D.fit]; exact f2) (by decide)
    · rw [any_deep f1 f2]
      exact q
def cmOf : Cm → CmpOp
  | .eq => .Eq | .ne => .NotEq | .lt => .Lt | .le => .LtE | .gt => .Gt | .ge => .GtE | .is => .Is | .isn => .IsNot | .mem => .In | .nmem => .NotIn
theorem op_cmp (hK : X.K = w.K.K) (hF : w.K.hf = fun k => k.hash X.w) (hu : X.A.units + 65 < cLine) (o : Cm) : OpR X (compareOp (cmOf o)) (rC w W (cmpD o)) := by
  cases o with
  | eq => exact op_cmp_eq hK (by omega)
  | ne => exact op_cmp_ne hK (by omega)
  | lt => exact op_cmp_lt (by omega)
  | le => exact op_cmp_le
  | gt => exact op_cmp_gt
  | ge => exact op_cmp_ge
  | is => exact op_cmp_is
  | isn => exact op_cmp_isn
  | mem => exact op_cmp_mem hK hF hu
  | nmem => exact op_cmp_nmem hK hF hu

/-! ### items, slices -/
theorem ixN_len {K : KX} {L : List Addr} {H : Hp} {l : List D} {vs : List V} {i : Int} {d : D} (h : DenL K L H l vs) (e : L2.atI l i = some d) : ∃ v, L2.atI vs i = some v ∧ Den K L H d v := by
  unfold L2.atI at e ⊢
  rw [← h.length]
  obtain ⟨j, e1, e2⟩ := Option.bind_eq_some_iff.mp e
  obtain ⟨v, e3, hv⟩ := h.get e2
  exact ⟨v, by rw [e1]; exact e3, hv⟩
theorem ix_idxD (hK : X.K = w.K.K) (hF : w.K.hf = fun k => k.hash X.w) (hu : X.A.units + 65 < cLine) : IxR X (rB w W idxD) := by
  intro value slice pins s σ H x y v u Q I rx ry ⟨σ', L, S, a, b, r, da, db, h⟩ hs
  obtain ⟨z, e0, h0⟩ := h.ofO
  clear h
  cases b <;> simp only [idxD, reduceCtorEq] at e0
  rotate_left
  · rename_i m
    split at e0
    · rename_i kvs ed
      split at e0
      · rename_i c
        obtain ⟨i, rfl, eS⟩ := dctD_obj ed
        obtain ⟨p, xs, fs, rfl, _, e1, hd, _, nd, row, dr, _⟩ := r.dct da eS
        obtain ⟨pb, ys, rfl, _, _, _⟩ := den_tup db
        cases rx
        cases ry
        rw [hF] at e1
        have g := row_get c row dr
        rw [e0] at g
        obtain ⟨v, g, dv⟩ := g
        obtain ⟨es, _, dd⟩ := raw_dict I e1 nd (row_keys I row dr)
        exact tail_any dd.typeIs PySem.F.slot_dict_getitem.lookup (n_getItem (by omega) I e1 nd (row_keys I row dr) (key_is I c db rfl) g fun w' s' I' rv => ⟨v, H, I', rv, h0.here r dv⟩) hs
      · cases e0
    · cases e0
  rename_i i
  cases of_i db
  obtain ⟨l, el, e⟩ := Option.bind_eq_some_iff.mp e0
  obtain ⟨p, xs, rfl, hq, dl⟩ := items_sq r da el
  obtain ⟨v', e2, dv⟩ := ixN_len dl e
  have q := h0.here r dv
  rcases hq with hq | hq
  · exact ix_list value slice pins s σ H _ _ v u Q I rx ry ⟨p, xs, i, v', rfl, rfl, by rw [hK]; exact hq, e2, q⟩ hs
  · exact ix_tup value slice pins s σ H _ _ v u Q I rx ry ⟨p, xs, i, v', rfl, rfl, by rw [hK]; exact hq, e2, q⟩ hs
theorem cutL_den {K : KX} {L : List Addr} {H : Hp} {l : List D} {vs : List V} (h : DenL K L H l vs) (lo hi : Option Int) : DenL K L H (cutL l lo hi) (L2.cutV vs lo hi) := by
  unfold cutL L2.cutV
  rw [h.length]
  exact (h.drop _).take _
def rS (w : Xd) (W : WX) : V → Option Int → Option Int → Hp → VK → Prop := fun x lo hi H Q => ∃ σ L S a, Rel w.K L H S ∧ Den w.K L H a x ∧ EndR w (rD w) W σ L H Q (ofO (slcD a lo hi) S)
theorem sl_slcD (hK : X.K = w.K.K) : SlR X (rS w W) := by
  intro pins s σ H x v vl vu lo hi sl Q I rx hs pl pu ⟨σ', L, S, a, r, da, h⟩
  obtain ⟨z, e, h0⟩ := h.ofO
  clear h
  cases a <;> simp only [slcD, reduceCtorEq] at e
  · rename_i l
    cases e
    obtain ⟨p, xs, rfl, h1, n1, d1⟩ := den_tup da
    refine sl_tupA pins s σ H _ v vl vu lo hi sl Q I rx hs pl pu ⟨p, xs, rfl, .of h1, fun q => ?_, fun q t n => end_tup h0 r (cutL_den d1 lo hi) n⟩
    have e : cutL l lo hi = l := by
      unfold cutL
      rw [← d1.length] at q
      rw [q.1, q.2]
      simp
    rw [e] at h0
    exact h0.here r da
  · rename_i l
    cases e
    obtain ⟨p, xs, rfl, h1, n1, d1⟩ := den_lst da
    exact sl_list pins s σ H _ v vl vu lo hi sl Q I rx hs pl pu ⟨p, xs, rfl, .of h1, fun t n => end_lst h0 r (cutL_den d1 lo hi) n⟩

/-! ### built-ins -/
def rCl (w : Xd) (W : WX) (f : List D → Store → Option D) : List V → Hp → VK → Prop := fun vs H Q => ∃ σ L S ds, Rel w.K L H S ∧ DenL w.K L H ds vs ∧ EndR w (rD w) W σ L H Q (ofO (f ds S) S)
theorem denL1 {K : KX} {L : List Addr} {H : Hp} {d : D} {vs : List V} (h : DenL K L H [d] vs) : ∃ v, vs = [v] ∧ Den K L H d v := by
  rw [DenL] at h
  obtain ⟨y, ys, rfl, r, rs⟩ := h
  rw [DenL] at rs
  subst rs
  exact ⟨y, rfl, r⟩
theorem denL2 {K : KX} {L : List Addr} {H : Hp} {d e : D} {vs : List V} (h : DenL K L H [d, e] vs) : ∃ v u, vs = [v, u] ∧ Den K L H d v ∧ Den K L H e u := by
  rw [DenL] at h
  obtain ⟨y, ys, rfl, r, rs⟩ := h
  obtain ⟨u, rfl, r2⟩ := denL1 rs
  exact ⟨y, u, rfl, r, r2⟩
theorem allB_den {K : KX} {L : List Addr} {H : Hp} : ∀ {l : List D} {vs : List V} {b : Bool}, DenL K L H l vs → allB l = some b → ∃ bs : List Bool, vs = bs.map V.bl ∧ bs.all id = b
  | [], vs, b, h, e => by
    rw [DenL] at h
    subst h
    cases e
    exact ⟨[], rfl, rfl⟩
  | d :: ds, vs, b, h, e => by
    rw [DenL] at h
    obtain ⟨y, ys, rfl, r, rs⟩ := h
    cases d <;> simp only [allB, reduceCtorEq] at e
    rename_i c
    obtain ⟨b', e1, rfl⟩ := Option.map_eq_some_iff.mp e
    obtain ⟨bs, rfl, rfl⟩ := allB_den rs e1
    exact ⟨c :: bs, by rw [of_b r]; rfl, rfl⟩
theorem intsD_den {K : KX} {L : List Addr} {H : Hp} : ∀ {l : List D} {vs : List V} {ns : List Int}, DenL K L H l vs → intsD l = some ns → vs = ns.map V.int
  | [], vs, b, h, e => by
    rw [DenL] at h
    subst h
    cases e
    rfl
  | d :: ds, vs, b, h, e => by
    rw [DenL] at h
    obtain ⟨y, ys, rfl, r, rs⟩ := h
    cases d <;> simp only [intsD, reduceCtorEq] at e
    obtain ⟨b', e1, rfl⟩ := Option.map_eq_some_iff.mp e
    rw [of_i r, intsD_den rs e1]
    rfl
theorem cl_len (hK : X.K = w.K.K) : CallR X (.builtin "len") (rCl w W (biD .len)) := by
  intro pins s σ H xs us Q I r0 ⟨σ', L, S, ds, r, dl, h⟩
  obtain ⟨z, e, h0⟩ := h.ofO
  clear h
  match ds, e, dl with
  | [d], e, dl =>
    obtain ⟨l, el, e⟩ := Option.map_eq_some_iff.mp (show (itemsD S d).map (fun l => D.int l.length) = some z from e)
    subst e
    obtain ⟨v, rfl, dv⟩ := denL1 dl
    obtain ⟨p, ys, rfl, hq, d2⟩ := items_sq r dv el
    exact call_len_seq pins s σ H _ us Q I r0 ⟨p, ys, rfl, by rw [hK]; exact hq, by rw [← d2.length]; exact h0.here r den_i⟩
theorem cl_tuple (hK : X.K = w.K.K) : CallR X (.type "tuple") (rCl w W (biD .tuple)) := by
  intro pins s σ H xs us Q I r0 ⟨σ', L, S, ds, r, dl, h⟩
  obtain ⟨z, e, h0⟩ := h.ofO
  clear h
  match ds, e, dl with
  | [d], e, dl =>
    obtain ⟨l, el, e⟩ := Option.map_eq_some_iff.mp (show (itemsD S d).map D.tup = some z from e)
    subst e
    obtain ⟨v, rfl, dv⟩ := denL1 dl
    cases d with
    | tup m =>
      cases el
      obtain ⟨p, ys, rfl, h1, _, h2⟩ := den_tup dv
      exact call_tuple_of pins s σ H _ us Q I r0 ⟨p, ys, rfl, .inr ⟨.of h1, h0.here r dv⟩⟩
    | lst m =>
      cases el
      obtain ⟨p, ys, rfl, h1, _, h2⟩ := den_lst dv
      exact call_tuple_of pins s σ H _ us Q I r0 ⟨p, ys, rfl, .inl ⟨.of h1, fun t n => end_tup h0 r h2 n⟩⟩
    | scr m =>
      cases el
      obtain ⟨p, ys, rfl, h1, h2⟩ := den_scr dv
      exact call_tuple_of pins s σ H _ us Q I r0 ⟨p, ys, rfl, .inl ⟨by rw [hK]; exact h1.sq, fun t n => end_tup h0 r h2 n⟩⟩
    | obj m =>
      rw [itemsD] at el
      split at el
      · rename_i l' q
        cases el
        obtain ⟨p, ys, rfl, _, h1, h2, _⟩ := r.obj dv q
        exact call_tuple_of pins s σ H _ us Q I r0 ⟨p, ys, rfl, .inl ⟨.of h1, fun t n => end_tup h0 r h2 n⟩⟩
      · cases el
    | _ => cases el
theorem cl_list (hK : X.K = w.K.K) : CallR X (.type "list") (rCl w W (biD .list)) := by
  intro pins s σ H xs us Q I r0 ⟨σ', L, S, ds, r, dl, h⟩
  obtain ⟨z, e, h0⟩ := h.ofO
  clear h
  match ds, e, dl with
  | [d], e, dl =>
    obtain ⟨l, el, e⟩ := Option.map_eq_some_iff.mp (show (itemsD S d).map D.lst = some z from e)
    subst e
    obtain ⟨v, rfl, dv⟩ := denL1 dl
    obtain ⟨p, ys, rfl, hq, d2⟩ := items_sq r dv el
    exact call_list_of pins s σ H _ us Q I r0 ⟨p, ys, rfl, by rw [hK]; exact hq, fun t n => end_lst h0 r d2 n⟩
theorem cl_all (hc : X.calm = true) : CallR X (.builtin "all") (rCl w W (biD .all)) := by
  intro pins s σ H xs us Q I r0 ⟨σ', L, S, ds, r, dl, h⟩
  obtain ⟨z, e, h0⟩ := h.ofO
  clear h
  match ds, e, dl with
  | [.lst m], e, dl =>
    obtain ⟨b, eb, e⟩ := Option.map_eq_some_iff.mp (show (allB m).map D.bl = some z from e)
    subst e
    obtain ⟨v, rfl, dv⟩ := denL1 dl
    obtain ⟨p, ys, rfl, h1, _, h2⟩ := den_lst dv
    obtain ⟨bs, rfl, rfl⟩ := allB_den h2 eb
    exact cr_all hc pins s σ H _ us Q I r0 ⟨p, bs, rfl, .of h1, h0.here r den_b⟩
theorem cl_int : CallR X (.type "int") (rCl w W (biD .int)) := by
  intro pins s σ H xs us Q I r0 ⟨σ', L, S, ds, r, dl, h⟩
  obtain ⟨z, e, h0⟩ := h.ofO
  clear h
  match ds, e, dl with
  | [.int i], e, dl =>
    cases e
    obtain ⟨v, rfl, dv⟩ := denL1 dl
    cases of_i dv
    exact call_int1 pins s σ H _ us Q I r0 (.inl ⟨_, rfl, h0.here r den_i⟩)
  | [.bl i], e, dl =>
    cases e
    obtain ⟨v, rfl, dv⟩ := denL1 dl
    cases of_b dv
    exact call_int1 pins s σ H _ us Q I r0 (.inr ⟨_, rfl, h0.here r den_i⟩)
theorem cl_max2 (hc : X.calm = true) : CallR X (.builtin "max") (rCl w W (biD .max2)) := by
  intro pins s σ H xs us Q I r0 ⟨σ', L, S, ds, r, dl, h⟩
  obtain ⟨z, e, h0⟩ := h.ofO
  clear h
  match ds, e, dl with
  | [.int i, .int j], e, dl =>
    cases e
    obtain ⟨v, u, rfl, dv, du⟩ := denL2 dl
    cases of_i dv
    cases of_i du
    exact call_max2 hc pins s σ H _ us Q I r0 ⟨_, _, rfl, h0.here r den_i⟩
theorem cl_min2 (hc : X.calm = true) : CallR X (.builtin "min") (rCl w W (biD .min2)) := by
  intro pins s σ H xs us Q I r0 ⟨σ', L, S, ds, r, dl, h⟩
  obtain ⟨z, e, h0⟩ := h.ofO
  clear h
  match ds, e, dl with
  | [.int i, .int j], e, dl =>
    cases e
    obtain ⟨v, u, rfl, dv, du⟩ := denL2 dl
    cases of_i dv
    cases of_i du
    exact call_min2 hc pins s σ H _ us Q I r0 ⟨_, _, rfl, h0.here r den_i⟩
theorem foldl_max_le : ∀ (ns : List Int) (m : Int), m ≤ ns.foldl max m ∧ ∀ n ∈ ns, n ≤ ns.foldl max m
  | [], m => ⟨Int.le_refl _, fun _ h => nomatch h⟩
  | k :: ns, m => by
    obtain ⟨h1, h2⟩ := foldl_max_le ns (max m k)
    rw [List.foldl_cons]
    refine ⟨by omega, fun n hn => ?_⟩
    rcases List.mem_cons.mp hn with rfl | hn
    · omega
    · exact h2 n hn
theorem foldl_max_mem : ∀ (ns : List Int) (m : Int), ns.foldl max m ∈ m :: ns
  | [], m => List.mem_singleton.mpr rfl
  | k :: ns, m => by
    rw [List.foldl_cons]
    rcases List.mem_cons.mp (foldl_max_mem ns (max m k)) with h | h
    · rw [h]
      rcases Int.le_total m k with q | q
      · rw [Int.max_eq_right q]
        simp
      · rw [Int.max_eq_left q]
        simp
    · simp [h]
theorem cl_maxl (hc : X.calm = true) : CallR X (.builtin "max") (rCl w W (biD .maxl)) := by
  intro pins s σ H xs us Q I r0 ⟨σ', L, S, ds, r, dl, h⟩
  obtain ⟨z, e, h0⟩ := h.ofO
  clear h
  match ds, e, dl with
  | [.lst m], e, dl =>
    obtain ⟨v, rfl, dv⟩ := denL1 dl
    have e : (match intsD m with
      | some (n :: ns) => some (D.int (ns.foldl max n))
      | _ => none) = some z := e
    split at e
    · rename_i n ns q
      cases e
      obtain ⟨p, ys, rfl, h1, _, h2⟩ := den_lst dv
      have e2 := intsD_den h2 q
      subst e2
      refine cr_max hc pins s σ H _ us Q I r0 ⟨p, n :: ns, rfl, .of h1, by simp, fun m hm hle => ?_⟩
      have : m = ns.foldl max n := by
        have a1 := hle _ (foldl_max_mem ns n)
        have a2 : m ≤ ns.foldl max n := by
          obtain ⟨b1, b2⟩ := foldl_max_le ns n
          rcases List.mem_cons.mp hm with rfl | hm
          · exact b1
          · exact b2 m hm
        omega
      rw [this]
      exact h0.here r den_i
    · cases e

/-! ### isinstance -/
def tyN : Ty → String
  | .int => "int" | .bool => "bool" | .str => "str" | .tuple => "tuple" | .list => "list"
theorem isi_den {K : KX} {L : List Addr} {H : Hp} {d : D} {t : Ty} {v : V} {b : Bool} (h : Den K L H d v) (e : isiD d t = some b) : ∃ T, TyX K.K H v (.type T) ∧ PySem.W.kitOne K.K (.type T) (.type (tyN t)) = some b := by
  cases d with
  | non =>
    rw [of_n h]
    refine ⟨_, .base .non, kit_ty ?_⟩
    cases t <;> (cases e; decide +kernel)
  | bl x =>
    rw [of_b h]
    refine ⟨_, .base (.bl x), kit_ty ?_⟩
    cases t <;> (cases e; decide +kernel)
  | int x =>
    rw [of_i h]
    refine ⟨_, .base (.int x), kit_ty ?_⟩
    cases t <;> (cases e; decide +kernel)
  | str x =>
    rw [of_s h]
    refine ⟨_, .base (.str x), kit_ty ?_⟩
    cases t <;> (cases e; decide +kernel)
  | tup l =>
    obtain ⟨a, xs, rfl, h1, _⟩ := den_tup h
    refine ⟨_, .base (.tup h1), kit_ty ?_⟩
    cases t <;> (cases e; decide +kernel)
  | lst l =>
    obtain ⟨a, xs, rfl, h1, _⟩ := den_lst h
    refine ⟨_, .base (.lst h1), kit_ty ?_⟩
    cases t <;> (cases e; decide +kernel)
  | scr l => cases t <;> cases e
  | obj l => cases t <;> cases e
  | box k l => cases t <;> cases e
  | exn k l => cases t <;> cases e
end
end Rs

namespace Rs
open PySem PySem.Spec PyProof.Rows L2
/-! ### a promise that may use that no repr is under way -/
structure FnG (P : Program) (w : World) (K : PySem.W.Frag) (mg : Str → Option Value) (base : Heap) (CX : CXT) (k : Nat) (f : Addr) (fd : FuncData) (ps : List Str) (sp : Sp) : Prop where
  len : ∀ vs H Q E, sp vs H Q E → vs.length = ps.length
  run : ∀ (A : Around) (outer : List PySem.Env) (s : Shared) (H : Hp) (args : Args) (us : List Value) (vs : List V) (Q : VK) (E : XK), A.guards = some [] → Room k A → Env0 P w K mg base A outer s H → BindsTo s fd args (ps.zip us) →
    Vals vs us → sp vs H Q E → codeAny (model P w) A (.call (.ref f) args) (CR CX outer P w H s Q E) s
section
variable {X : Cx} {CX : CXT} {k : Nat} {f : Addr} {fd : FuncData} {ps : List Str} {sp : Sp} {E : L2.St → XK} {x : Str} {p pos : Pos} {e : Expr} {es : List Expr} {t : TA}
theorem run_g {pins : List (Addr × Obj)} {σ : L2.St} {H : Hp} {s : Shared} {Q : VK} {us : List Value} {vs : List V} (F : FnG X.prog X.w X.K X.mg X.base CX k f fd ps sp) (gd : X.A.guards = some []) (hr : Room k X.A) (hb : Binds X.K fd ps []) (hx : PassesAt CX X σ (E σ))
    (I : Inv X pins σ H s) (r : Vals vs us) (h : sp vs H Q (E σ)) : wpAny (model X.prog X.w) X.A (call (.ref f) us) (EP X pins σ Q) X.xe s := by
  have hlen : (us ++ []).length = ps.length := by
    rw [List.append_nil, ← r.length]
    exact F.len _ _ _ _ h
  have hbd := hb s us I.kIn hlen
  rw [List.append_nil] at hbd
  have go := F.run X.A X.stack s H ⟨us, []⟩ us vs Q (E σ) gd hr I.env0 hbd r h
  refine wpAny_call (codeAny_mono go fun res s2 hres => ?_)
  match res, hres with
  | .error er, hres => exact hx pins H s er s2 I hres
  | .ok (.ret u), hres => exact I.after hres
  | .ok .next, hres => exact hres.elim
  | .ok .brk, hres => exact hres.elim
  | .ok .cont, hres => exact hres.elim
theorem pe_callG (F : FnG X.prog X.w X.K X.mg X.base CX k f fd ps sp) (gd : X.A.guards = some []) (hr : Room k X.A) (hg : Gl X x) (hm : X.mg x = some (.ref f)) (hk : PySem.W.keepIn X.K (.ref f) = true) (hb : Binds X.K fd ps []) (hx : ∀ σ, PassesAt CX X σ (E σ))
    (ha : PA X (e :: es) t) (hdb : (x == ("__debug__" : Str)) = false) (he : starEach (e :: es) X.env = (false, eval e X.env) :: starEach es X.env) (hpl : (backTo pos (starEach es X.env)).any (·.1) = false) :
    PE X (.Call (.Name x p) (e :: es) [] pos) (fun σ H Q => t σ H fun vs H1 => sp vs H1 Q (E σ)) :=
  ⟨fun pins s σ H Q I h => wpAny_Call_Name_kw (ld_glob I hg hm (PySem.W.callWith_K (h₀ := X.base) I.ok.mod.kin hk (thn (ha.run pos pins s σ H _ I h) fun us s1 ⟨vs, H1, I1, r, q⟩ => ⟨I1.kIn, run_g F gd hr hb (hx σ) I1 r q⟩) he hpl) hdb)⟩
theorem pe_callG0 (F : FnG X.prog X.w X.K X.mg X.base CX k f fd ps sp) (gd : X.A.guards = some []) (hr : Room k X.A) (hg : Gl X x) (hm : X.mg x = some (.ref f)) (hk : PySem.W.keepIn X.K (.ref f) = true) (hb : Binds X.K fd ps []) (hx : ∀ σ, PassesAt CX X σ (E σ))
    (hdb : (x == ("__debug__" : Str)) = false) : PE X (.Call (.Name x p) [] [] pos) (fun σ H Q => sp [] H Q (E σ)) :=
  ⟨fun pins s σ H Q I h => wpAny_Call_Name_kw (ld_glob I hg hm (PySem.W.callWith_K0 I.kIn hk (run_g (us := []) F gd hr hb (hx σ) I .nil h)) hdb)⟩
end
theorem deeper_guards {A : Around} {env : PySem.Env} (h : A.guards = some []) : (A.deeper env).guards = some [] := by
  first
    | exact h
    | simpa [Around.deeper] using h
theorem fn_g {CX : CXT} {P : Program} {w : World} {K : PySem.W.Frag} {mg : Str → Option Value} {base : Heap} {k : Nat} {f : Addr} {name qual : Str} {params : Arguments} {body : List Stmt} {scope : Scope} {dV kV doc pm cdv ct oc : Value} {an od : Option Addr}
    {osl : Array (Option Value)} {N ps : List Str} {sp : Sp} (lk : K.lookup f = some ⟨oc, od, .func (PySem.W.fnOf name qual params body scope dV kV doc pm an cdv ct), osl⟩) (hcd : PySem.W.codeIn K cdv qual = true) (S : FnScope N ps scope)
    (len : ∀ vs H Q E, sp vs H Q E → vs.length = ps.length)
    (hbody : ∀ (A : Around) (outer : List PySem.Env) (s : Shared) (H : Hp) (vs : List V) (Q : VK) (E : XK), A.guards = some [] → Room k (A.deeper (envOfC qual scope s.heap.objs.size f cdv)) → sp vs H Q E →
      ∃ t, PSs (cxOf CX P w K mg base N qual scope f cdv A outer s H E) body t ∧ t { nx := fun _ H' => Q .non H', rt := Q } (start N vs) H) :
    FnG P w K mg base CX (k + 1) f (PySem.W.fnOf name qual params body scope dV kV doc pm an cdv ct) ps sp where
  len := len
  run := by
    intro A outer s H args us vs Q E gd hr e0 hb r hsp
    have nvs := len _ _ _ _ hsp
    have inK : K.In s.heap := e0.mod.kin.keeps fun b o e => (e0.bs b o e).1
    have noLim : s.heap.NoLimit := e0.mod.nolimit.keeps fun b o e => (e0.bs b o e).1
    have kinds : ∀ z ∈ ps.zip us, scope.names.lookup z.1 = some .local ∨ (scope.names.lookup z.1 = some .cell ∧ ((cellsFrom (s.heap.objs.size + 1) scope.names []).lookup z.1).isSome = true) := by
      rintro ⟨n, v⟩ hz
      rcases S.par n (List.of_mem_zip hz).1 with q | q
      · exact Or.inl q
      · exact Or.inr ⟨q, PySem.W.cellsFrom_some _ _ _ (Or.inl q)⟩
    refine codeAny_call_function hr.depth (inK _ _ lk) rfl S.co S.gen rfl (PySem.W.codeRec_of inK hcd) (hb _ _ _ _ (wpAny_newFunctionEnv_cells S.kind kinds ?_))
    rintro env rfl s1 x
    refine ⟨noLim.keeps x.toInCall.keep, codeAny_func ?_⟩
    obtain ⟨t, ht, hq⟩ := hbody A outer s H vs Q E gd (hr.deeper _) hsp
    have I := inv_start (CX := CX) (E := E) S hr.hd e0 nvs r x
    refine wpAny_mono (ht.run [] s1 _ H _ I hq) (fun fl s2 h2 => ?_) fun e s2 h2 => h2
    match fl, h2 with
    | .ret u, ⟨v, σ2, H2, J, rv, q⟩ => exact ⟨v, H2, J.os, J.bare, J.base, J.hok, rv, q⟩
    | .next, ⟨σ2, H2, J, q⟩ => exact ⟨V.non, H2, J.os, J.bare, J.base, J.hok, rfl, q⟩
    | .brk, ⟨_, _, _, q⟩ => exact q.elim
    | .cont, ⟨_, _, _, q⟩ => exact q.elim
/-! ### a promise within an except suite, for the exception at p -/
structure FnHp (P : Program) (w : World) (K : PySem.W.Frag) (mg : Str → Option Value) (base : Heap) (CX : CXT) (k : Nat) (f : Addr) (fd : FuncData) (ps : List Str) (sp : Addr × Obj → Sp) : Prop where
  len : ∀ p vs H Q E, sp p vs H Q E → vs.length = ps.length
  run : ∀ (A : Around) (outer : List PySem.Env) (s : Shared) (H : Hp) (args : Args) (us : List Value) (vs : List V) (Q : VK) (E : XK) (p : Addr × Obj), A.guards = some [] → L2H.RoomH k A → L2H.PinOk outer H s p → Env0 P w K mg base A outer s H →
    BindsTo s fd args (ps.zip us) → Vals vs us → sp p vs H Q E → codeAny (model P w) A (.call (.ref f) args) (CR CX outer P w H s Q E) s
theorem fn_hp {CX : CXT} {P : Program} {w : World} {K : PySem.W.Frag} {mg : Str → Option Value} {base : Heap} {k : Nat} {f : Addr} {name qual : Str} {params : Arguments} {body : List Stmt} {scope : Scope} {dV kV doc pm cdv ct oc : Value} {an od : Option Addr}
    {osl : Array (Option Value)} {N ps : List Str} {sp : Addr × Obj → Sp} (lk : K.lookup f = some ⟨oc, od, .func (PySem.W.fnOf name qual params body scope dV kV doc pm an cdv ct), osl⟩) (hcd : PySem.W.codeIn K cdv qual = true) (S : FnScope N ps scope)
    (len : ∀ p vs H Q E, sp p vs H Q E → vs.length = ps.length)
    (hbody : ∀ (A : Around) (outer : List PySem.Env) (s : Shared) (H : Hp) (vs : List V) (Q : VK) (E : XK) (p : Addr × Obj), A.guards = some [] → L2H.RoomH k (A.deeper (envOfC qual scope s.heap.objs.size f cdv)) → sp p vs H Q E →
      ∃ t, PSs (L2H.cxH CX P w K mg base N qual scope f cdv A outer s H E p) body t ∧ t { nx := fun _ H' => Q .non H', rt := Q } (start N vs) H) :
    FnHp P w K mg base CX (k + 1) f (PySem.W.fnOf name qual params body scope dV kV doc pm an cdv ct) ps sp where
  len := len
  run := by
    intro A outer s H args us vs Q E p gd hr pin e0 hb r hsp
    have nvs := len _ _ _ _ _ hsp
    have inK : K.In s.heap := e0.mod.kin.keeps fun b o e => (e0.bs b o e).1
    have noLim : s.heap.NoLimit := e0.mod.nolimit.keeps fun b o e => (e0.bs b o e).1
    have kinds : ∀ z ∈ ps.zip us, scope.names.lookup z.1 = some .local ∨ (scope.names.lookup z.1 = some .cell ∧ ((cellsFrom (s.heap.objs.size + 1) scope.names []).lookup z.1).isSome = true) := by
      rintro ⟨n, v⟩ hz
      rcases S.par n (List.of_mem_zip hz).1 with q | q
      · exact Or.inl q
      · exact Or.inr ⟨q, PySem.W.cellsFrom_some _ _ _ (Or.inl q)⟩
    refine codeAny_call_function hr.depth (inK _ _ lk) rfl S.co S.gen rfl (PySem.W.codeRec_of inK hcd) (hb _ _ _ _ (wpAny_newFunctionEnv_cells S.kind kinds ?_))
    rintro env rfl s1 x
    refine ⟨noLim.keeps x.toInCall.keep, codeAny_func ?_⟩
    obtain ⟨t, ht, hq⟩ := hbody A outer s H vs Q E p gd (hr.deeper _) hsp
    have I := L2H.inv_startH (CX := CX) (E := E) S pin e0 nvs r x
    refine wpAny_mono (ht.run [] s1 _ H _ I hq) (fun fl s2 h2 => ?_) fun e s2 h2 => h2
    match fl, h2 with
    | .ret u, ⟨v, σ2, H2, J, rv, q⟩ => exact ⟨v, H2, J.os, J.bare, J.base, J.hok, rv, q⟩
    | .next, ⟨σ2, H2, J, q⟩ => exact ⟨V.non, H2, J.os, J.bare, J.base, J.hok, rfl, q⟩
    | .brk, ⟨_, _, _, q⟩ => exact q.elim
    | .cont, ⟨_, _, _, q⟩ => exact q.elim
section
variable {X : Cx} {CX : CXT} {k : Nat} {f : Addr} {fd : FuncData} {ps : List Str} {sp : Addr × Obj → Sp} {E : L2.St → XK} {x : Str} {p pos : Pos} {e : Expr} {es : List Expr} {t : TA} {z : Addr × Obj}
theorem run_hp {pins : List (Addr × Obj)} {σ : L2.St} {H : Hp} {s : Shared} {Q : VK} {us : List Value} {vs : List V} (F : FnHp X.prog X.w X.K X.mg X.base CX k f fd ps sp) (gd : X.A.guards = some []) (hr : L2H.RoomH k X.A) (hz : z ∈ X.pn) (hb : Binds X.K fd ps []) (hx : PassesAt CX X σ (E σ))
    (I : Inv X pins σ H s) (r : Vals vs us) (h : sp z vs H Q (E σ)) : wpAny (model X.prog X.w) X.A (call (.ref f) us) (EP X pins σ Q) X.xe s := by
  have hlen : (us ++ []).length = ps.length := by
    rw [List.append_nil, ← r.length]
    exact F.len _ _ _ _ _ h
  have hbd := hb s us I.kIn hlen
  rw [List.append_nil] at hbd
  obtain ⟨g1, g2, g3, g4, g5⟩ := I.pin z (List.mem_append_left _ hz)
  have pin : L2H.PinOk X.stack H s z := ⟨g1, g2, fun hm => (List.mem_cons.mp (I.stkSub z.1 hm)).elim g3 g4, g5⟩
  refine wpAny_call (codeAny_mono (F.run X.A X.stack s H ⟨us, []⟩ us vs Q (E σ) z gd hr pin I.env0 hbd r h) fun res s2 hres => ?_)
  match res, hres with
  | .error er, hres => exact hx pins H s er s2 I hres
  | .ok (.ret u), hres => exact I.after hres
  | .ok .next, hres => exact hres.elim
  | .ok .brk, hres => exact hres.elim
  | .ok .cont, hres => exact hres.elim
theorem pe_callHp (F : FnHp X.prog X.w X.K X.mg X.base CX k f fd ps sp) (gd : X.A.guards = some []) (hr : L2H.RoomH k X.A) (hz : z ∈ X.pn) (hg : Gl X x) (hm : X.mg x = some (.ref f)) (hk : PySem.W.keepIn X.K (.ref f) = true) (hb : Binds X.K fd ps []) (hx : ∀ σ, PassesAt CX X σ (E σ))
    (ha : PA X (e :: es) t) (hdb : (x == ("__debug__" : Str)) = false) (he : starEach (e :: es) X.env = (false, eval e X.env) :: starEach es X.env) (hpl : (backTo pos (starEach es X.env)).any (·.1) = false) :
    PE X (.Call (.Name x p) (e :: es) [] pos) (fun σ H Q => t σ H fun vs H1 => sp z vs H1 Q (E σ)) :=
  ⟨fun pins s σ H Q I h => wpAny_Call_Name_kw (ld_glob I hg hm (PySem.W.callWith_K (h₀ := X.base) I.ok.mod.kin hk (thn (ha.run pos pins s σ H _ I h) fun us s1 ⟨vs, H1, I1, r, q⟩ => ⟨I1.kIn, run_hp F gd hr hz hb (hx σ) I1 r q⟩) he hpl) hdb)⟩
end
end Rs

namespace Rs
open PySem PySem.Spec PyProof.Rows L2 PySem.W
/-! ### an own exception whose __init__ says super().__init__(..) and keeps a field -/
def spI1 (C : Addr) (f : Str) : Sp := fun vs H Q _ => ∃ a y, vs = [.ref a, y] ∧ H a = some (exo a C none) ∧ ∀ d, H d = none → d ≠ a → Q .non (L2.upd (L2.upd H d (exd d [(f, y)])) a (exo a C (some d)))
section
variable {P : Program} {w : World} {K : PySem.W.Frag} {mg : Str → Option Value} {base : Heap} {CX : CXT} {A : Around} {s : Shared} {H : Hp} {C fI cc cda D : Addr} {fd : FuncData} {E : Value → Shared → Prop}
/-- super().__init__(text): the exception gets its tuple, all else stays -/
theorem sup_call {Q : Value → Shared → Prop} {u a t1 : Addr} {rest : List Value} (inK : K.In s.heap) (q : excInitIn K C He.veBase "ValueError.__new__" = true) (hu : s.heap.get? u = some (kxs_mw "ValueError.__init__" a)) (ha : s.heap.get? a = some (excObj C t1 none .none)) (hz : rest.length ≤ sizeLine)
    (h : ∀ t' h', (∀ b o, b ≠ a → s.heap.get? b = some o → h'.get? b = some o) → h'.get? a = some (excObj C t' none .none) → Q .none { s with heap := h' }) : wpAny (model P w) A (call (.ref u) rest) Q E s := by
  obtain ⟨nm, N', qn, bs, bm, hdct, sn, sub, ab, col, dd, k0, k1, k2, k3, k5, hC, hT⟩ := excInit_of inK q
  obtain ⟨hh, g, d, tk, os⟩ := s
  refine wpAny_call (codeAny_of_tree ?_)
  show wpAny _ A.in1 (callAny (.ref u) ⟨rest, []⟩) _ _ _
  unfold callAny
  refine wpAny_bind (wpAny_load hu ?_)
  have FB := PySem.F.excBase_ValueError
  have ty : (Value.type "method-wrapper" == Value.type "method" || Value.type "method-wrapper" == Value.type "builtin_function_or_method" || Value.type "method-wrapper" == Value.type "method-wrapper") = true := by decide
  simp only [kxs_mw, ty, if_true]
  refine KFB.if_so (by decide) (wpAny_bind (check_bound_init FB.toExcCallFacts hC ha rfl ?_))
  refine wpAny_bind (wpAny_pure (wpAny_pure ⟨plainId_quiet FB.init.plain _, codeAny_builtin FB.initEntry ?_⟩))
  exact exc_init_tree (cls := .ref C) (t0 := t1) (dv := none) (c2 := .none) (c3 := .none) (b4 := .bool false) ha hz fun h' k e _ => h _ h' k e
/-- what is known of such a class, of its __init__ -/
structure SupF (P : Program) (K : PySem.W.Frag) (mg : Str → Option Value) (C fI cc cda D : Addr) (fd : FuncData) (se : Str) : Prop where
  lk : ∃ oc od osl, K.lookup fI = some ⟨oc, od, .func fd, osl⟩
  exI : excInitIn K C He.veBase "ValueError.__new__" = true
  head : ∃ ar, (fd.params.posonlyargs ++ fd.params.args).head? = some ar ∧ ar.arg = se
  code : ∃ (ccl : Value) (cdd : Option Addr) (vs : Array Value) (ccs : Array (Option Value)) (file : Str) (tf : Tok), K.lookup cda = some ⟨ccl, cdd, .fields vs, ccs⟩ ∧ vs[2]? = some (.str file tf) ∧ ((P.main.file : Str) == file) = true
  cell : ∃ (cl : Value) (cld : Option Addr) (csl : Array (Option Value)), K.lookup cc = some ⟨cl, cld, .cell (some (.ref D)), csl⟩
  hD : ∃ cdD, clsIn K D = some cdD
  sub : mroIn K C (.ref D) = some true
  subVE : subIn K (.ref C) (.type "ValueError") = some true
  sup : ks_superIn K C D "__init__" = some (some (.builtin "ValueError.__init__"))
  opq : nsIn K cStatics "thirdparty.any" = some none
  noS : mg "super" = none
  top : (P.main.scope.names.lookup ("super" : Str)).isSome = false
  ks : fd.scope.names.lookup ("super" : Str) = some .globalImplicit
  kc : fd.scope.names.lookup ("__class__" : Str) = some .free
  ka : fd.scope.names.lookup se = some .local
  kind : fd.scope.kind = .function
theorem sup_eval {env : PySem.Env} {p0 p1 ap p pm2 : Pos} {msg : Str} {j : Nat} (hl : (ap.endLine == p.line) = true) : eval (.Call (.Attribute (.Call (.Name "super" p0) [] [] p1) "__init__" ap) [.Constant (.str msg) j pm2] [] p) env = (do
      let ov ← attributeBase (.Call (.Name "super" p0) [] [] p1) "__init__" env (eval (.Call (.Name "super" p0) [] [] p1) env)
      standAt ap.atName
      let (f, first) ← holding [ov] (getMethod ov "__init__" (do return (← importBound (.Call (.Name "super" p0) [] [] p1) env).getD true))
      callWith p f first (backTo p (starEach [.Constant (.str msg) j pm2] env)) []) := by
  show (do
      let ov ← attributeBase (.Call (.Name "super" p0) [] [] p1) "__init__" env (eval (.Call (.Name "super" p0) [] [] p1) env)
      standAt ap.atName
      methodCall (.Call (.Name "super" p0) [] [] p1) "__init__" ap p env ov 1 (backTo p (starEach [.Constant (.str msg) j pm2] env)) []) = _
  congr
  funext ov
  congr
  funext _
  unfold methodCall methodCallPos
  rw [hl, Bool.or_true]
  simp only [if_true, pure_bind]
  rfl
theorem sup_first {body : List Stmt} {qual se : Str} {L a t1 : Addr} {m : Str → Option Value} {me : Expr} {p0 p1 ap p ep : Pos} {Q : PySem.Flow → Shared → Prop} (F : SupF P K mg C fI cc cda D fd se) (inK : K.In s.heap) (hg : s.heap.Ns mainGlobals mg) (hb : ∃ mb, s.heap.Ns builtinsNs mb ∧ ∀ x : Str, x ≠ "__name__" → mb x = bootBuiltins x)
    (hns : s.heap.Ns L m) (hm : m se = some (.ref a)) (ha : s.heap.get? a = some (excObj C t1 none .none)) (naL : L ≠ a)
    (hme : ∀ (s1 : Shared) (Q : Value → Shared → Prop) (E : Value → Shared → Prop), s1.heap.Ns L m → (∀ z tk t', Q (.str z tk) { s1 with toks := t' }) → wpAny (model P w) A (eval me (ksEnv qual fd.scope L fI (.ref cda) cc)) Q E s1)
    {pl : Sem Bool} (he : eval (.Call (.Attribute (.Call (.Name "super" p0) [] [] p1) "__init__" ap) [me] [] p) (ksEnv qual fd.scope L fI (.ref cda) cc) = (do
      let ov ← attributeBase (.Call (.Name "super" p0) [] [] p1) "__init__" (ksEnv qual fd.scope L fI (.ref cda) cc) (eval (.Call (.Name "super" p0) [] [] p1) (ksEnv qual fd.scope L fI (.ref cda) cc))
      standAt ap.atName
      let (f, first) ← holding [ov] (getMethod ov "__init__" pl)
      callWith p f first (backTo p (starEach [me] (ksEnv qual fd.scope L fI (.ref cda) cc))) []))
    (hst : starEach [me] (ksEnv qual fd.scope L fI (.ref cda) cc) = [(false, eval me (ksEnv qual fd.scope L fI (.ref cda) cc))])
    (h : ∀ t' h' tk, (∀ b o, b ≠ a → s.heap.get? b = some o → h'.get? b = some o) → h'.get? a = some (excObj C t' none .none) → Q .next { s with heap := h', toks := tk }) :
    _root_.PySem.wpAt (model P w) A (.func body (ksEnv qual fd.scope L fI (.ref cda) cc)) (exec (.Expr (.Call (.Attribute (.Call (.Name "super" p0) [] [] p1) "__init__" ap) [me] [] p) ep) (ksEnv qual fd.scope L fI (.ref cda) cc)) Q E s := by
  obtain ⟨oc, od, osl, lk⟩ := F.lk
  obtain ⟨ar, hp, rfl⟩ := F.head
  obtain ⟨ccl, cdd, vs, ccs, file, tf, hcode, hvs, hfile⟩ := F.code
  obtain ⟨cl, cld, csl, hcell⟩ := F.cell
  obtain ⟨cdD, hD⟩ := F.hD
  obtain ⟨mb, hbn, boot⟩ := hb
  obtain ⟨hh, g, d, t, os⟩ := s
  obtain ⟨oD, hD1, hD2⟩ : ∃ oD, hh.get? D = some oD ∧ oD.data = .cls cdD := by
    unfold clsIn at hD
    split at hD
    · rename_i ho
      cases hD
      exact ⟨_, inK _ _ ho, rfl⟩
    · cases hD
  have inst : InstAt hh a (excObj C t1 none .none) C none := ⟨ha, rfl, rfl, trivial⟩
  refine ks_wpAt_Expr_any (ks_wpAt_MethodCall (o := .Call (.Name "super" p0) [] [] p1) (name := "__init__") (apos := ap) (pos := p) (args := [me]) (pl := pl) ?_ he) (by unfold interactive; rw [show (ksEnv qual fd.scope L fI (.ref cda) cc).scope.kind = .function from F.kind]; rfl)
  refine ks_wpAt_super_base (env := ksEnv qual fd.scope L fI (.ref cda) cc) F.ks F.kc (by decide) rfl (inK _ _ lk) rfl hp rfl (inK _ _ hcode) rfl hvs hfile F.top ?_
  refine ks_loadName_global F.kind F.ks (Calls.loadGlobal_builtin (env := ksEnv qual fd.scope L fI (.ref cda) cc) hg F.noS hbn ((boot _ (by decide +kernel)).trans PyProof.Rows.Boot.«super») ⟨rfl, ?_⟩)
  refine wpAny_loadName_free F.kind F.kc rfl ⟨_, inK _ _ hcell, rfl⟩ ?_
  refine wpAny_loadName_local F.kind F.ka hns hm ?_
  refine ks_wpAny_isType_cls hD1 hD2 ⟨rfl, ?_⟩
  refine ks_wpAny_call_super hD1 hD2 ha rfl (fun c e => by cases e) (looks_mroIn inK F.sub) (fun h2 e2 k2 => ?_)
  have inK2 : K.In h2 := inK.keeps k2
  have inst2 : InstAt h2 a (excObj C t1 none .none) C none := ⟨k2 _ _ ha, rfl, rfl, trivial⟩
  obtain ⟨cd, hcd⟩ : ∃ cd, clsIn K C = some cd := by
    have z := F.sup
    unfold ks_superIn at z
    cases q : clsIn K C with
    | none => rw [q] at z; cases z
    | some cd => exact ⟨cd, rfl⟩
  have hal : alongIn K "__init__" ((cd.mro.dropWhile (· != .ref D)).drop 1) = some (some (.builtin "ValueError.__init__")) := by
    have z := F.sup
    unfold ks_superIn at z
    rw [hcd] at z
    exact z
  refine kxs_getMethod kxs_ValueError e2 (looks_opaque inK2 F.opq) (l₀ := cd.mro) (fun A Q E s k q => wpAny_bind ((looks_clsIn inK2 hcd) A _ E s k (wpAny_pure q))) rfl inK2 hal (inst2.type.andThen (looks_subIn inK2 F.subVE)) (ks_ne inK2 inst2 hcd) (by decide) ?_
  rw [hst]
  refine kxs_callWith (i := "ValueError.__init__") (x := a) rfl ?_
  refine Calls.evalArgs_plain (Calls.spliced_cons ?_)
  have hk3 : ∀ b o, h2.get? b = some o → (h2.push (kxs_mw "ValueError.__init__" a)).get? b = some o := fun b o e => Heap.get?_push_of_some _ e
  have hmw : (h2.push (kxs_mw "ValueError.__init__" a)).get? h2.objs.size = some (kxs_mw "ValueError.__init__" a) := Heap.get?_push_at rfl rfl
  obtain ⟨oL, es, ep, hL, rL⟩ := hns
  refine hme _ _ _ ⟨oL, es, ep, hk3 _ _ (k2 _ _ hL), rL⟩ fun z tk t' => Calls.spliced_nil ?_
  refine ⟨hmw, ?_⟩
  refine sup_call (inK2.keeps hk3) F.exI hmw (hk3 _ _ (k2 _ _ ha)) (by show 1 ≤ sizeLine; rw [sizeLine_eq]; omega) fun t2 h3 k3 e3 => ?_
  exact h t2 h3 _ (fun b o hb e => k3 b o hb (hk3 b o (k2 b o e))) e3
/-- what is tracked behind the making: the exception has its dict -/
theorem ini_end {outer : List PySem.Env} {h4 : Heap} {a dx : Addr} {f : Str} {y : V} {u : Value} (ok : HOk P w H s.heap) (ea : H a = some (exo a C none)) (ry : RelV y u) (kT : ∀ b o, b ≠ a → s.heap.get? b = some o → h4.get? b = some o)
    (hx : ∃ t1 : Addr, h4.get? a = some ({ cls := .ref C, dict := some dx, data := .fields #[.ref t1, .none, .none, .none, .bool false, .none] } : Obj)) (hn : h4.Ns1 dx (fun z => if z = f then some u else none)) (hd : H dx = none) (nda : dx ≠ a) (nds : ∀ o, s.heap.get? dx ≠ some o) :
    Un (frs outer) [] H (L2.upd (L2.upd H dx (exd dx [(f, y)])) a (exo a C (some dx))) s.heap h4 ∧ HOk P w (L2.upd (L2.upd H dx (exd dx [(f, y)])) a (exo a C (some dx))) h4 := by
  obtain ⟨t1, hx⟩ := hx
  have na : ∀ {b : Addr}, H b = none → b ≠ a := fun {b} n z => by
    rw [z, ea] at n
    cases n
  have nd : ∀ {b : Addr} {o : Obj}, s.heap.get? b = some o → b ≠ dx := fun {b o} q z => nds o (by rw [← z]; exact q)
  refine ⟨⟨fun b o q n _ _ => kT b o (na n) q, fun b o q n _ _ => ⟨_, kT b o (na n) q⟩, fun b o q n _ => ?_, fun b o q _ => ?_, fun b xs q => ?_, fun b o v q => ?_, fun b ps q => ⟨#[], ?_⟩⟩, fun b o q => ?_⟩
  · rw [upd_ne (na n), upd_ne (nd q)]
    exact n
  · by_cases hb : b = a
    · rw [hb]
      exact ⟨_, hx⟩
    · exact ⟨_, kT b o hb q⟩
  · rw [upd_ne (at_ne ea q exo_tup), upd_ne (ne_of_none q hd)]
    exact q
  · rw [upd_ne (at_ne ea q exo_frz), upd_ne (ne_of_none q hd)]
    exact q
  · rw [upd_ne (at_ne ea q exo_tbl), upd_ne (ne_of_none q hd), q]
    simp
  · by_cases hb : b = a
    · subst hb
      rw [upd_same] at q
      cases q
      exact exo_ok hx
    · rw [upd_ne hb] at q
      by_cases hdb : b = dx
      · subst hdb
        rw [upd_same] at q
        cases q
        exact exd_ok hn (relO_put (fs := []) ry fun g => True.intro)
      · rw [upd_ne hdb] at q
        refine (ok b o q).stay (fun c v hc z => kT c v ?_ z) (fun c hc => ?_) fun c xs hc => ?_
        · rcases hc with hc | hc
          · rw [hc]
            exact hb
          · exact at_ne ea hc exo_own
        · rw [upd_ne (at_ne ea hc exo_own), upd_ne (ne_of_none hc hd)]
          exact hc
        · rw [upd_ne (at_ne ea hc exo_tup), upd_ne (ne_of_none hc hd)]
          exact hc
theorem init1 {k : Nat} {nm qual se yn f1 msg : Str} {sc : Scope} {kV doc pm ct : Value} {an : Option Addr} {a1 a2 : Arg} {j : Nat} {p0 p1 ap p ep pm2 q1 q2 q3 q4 : Pos} {body : List Stmt}
    (eb : body = [.Expr (.Call (.Attribute (.Call (.Name "super" p0) [] [] p1) "__init__" ap) [.Constant (.str msg) j pm2] [] p) ep, .Assign [.Attribute (.Name se q1) f1 q2] (.Name yn q3) q4])
    (F : SupF P K mg C fI cc cda D (ksFn nm qual ⟨[], [a1, a2], none, [], [], none, []⟩ body sc .none kV doc pm an (.ref cda) ct cc) se) (T : OexC K C) (hno : findIn K (.ref C) f1 = some none) (e1 : a1.arg = se) (e2 : a2.arg = yn) (hne : se ≠ yn)
    (d1 : (se == ("__debug__" : Str)) = false) (d2 : (yn == ("__debug__" : Str)) = false) (hky : sc.names.lookup yn = some .local) (hcd : codeIn K (.ref cda) qual = true) (hcells : ∀ x ∈ sc.names, x.2 ≠ .cell) (hln : (ap.endLine == p.line) = true) (hco : sc.isCoroutine = false) (hge : sc.isGenerator = false) :
    FnOk P w K mg base CX (k + 1) fI (ksFn nm qual ⟨[], [a1, a2], none, [], [], none, []⟩ body sc .none kV doc pm an (.ref cda) ct cc) [se, yn] (spI1 C f1) := by
  refine ⟨fun vs H Q E h => ?_, fun A outer s H args us vs Q E hr e0 hb r h => ?_⟩
  · obtain ⟨_, _, rfl, _⟩ := h
    rfl
  obtain ⟨a, y, rfl, ea, hq⟩ := h
  obtain ⟨u, rfl, ru⟩ : ∃ u, us = [.ref a, u] ∧ RelV y u := by
    cases r with
    | @cons _ u0 _ ur ra rb =>
      obtain rfl : u0 = Value.ref a := ra
      cases rb with
      | @cons _ u1 _ ur2 rc rd =>
        cases rd
        exact ⟨u1, rfl, rc⟩
  obtain ⟨t1, hobj⟩ := exo_at e0.hok ea
  have kb : ∀ b o, base.get? b = some o → s.heap.get? b = some o := fun b o e => (e0.bs b o e).1
  have inK : K.In s.heap := e0.mod.kin.keeps kb
  obtain ⟨oc, od, osl, lk⟩ := F.lk
  have kind := F.kind
  refine ks_codeAny_call_defAt (body := body) hr.depth (inK _ _ lk) rfl (e0.mod.nolimit.keeps kb) (codeRec_of inK hcd) rfl hb hcells (fun x hx => ?_) (fun h1 hns hk => ?_) hco hge kind
  · rcases List.mem_cons.mp hx with rfl | hx
    · exact F.ka
    · rcases List.mem_cons.mp hx with rfl | hx
      · exact hky
      · cases hx
  subst eb
  have ms : (([se, yn].zip [Value.ref a, u]).reverse.lookup se) = some (.ref a) := by
    have : (se == yn) = false := by simpa using hne
    simp [List.lookup, this]
  have my : (([se, yn].zip [Value.ref a, u]).reverse.lookup yn) = some u := by simp [List.lookup]
  obtain ⟨mb, hmb, boot⟩ := e0.mod.blt
  have keepNs : ∀ {L : Addr} {m : Str → Option Value}, base.Ns L m → h1.Ns L m := fun {L m} ⟨o, es, ep, e, rr⟩ => ⟨o, es, ep, hk _ _ (kb _ _ e), rr⟩
  have naL : s.heap.objs.size ≠ a := fun z => by
    have := Heap.lt_size hobj
    rw [← z] at this
    exact absurd this (Nat.lt_irrefl _)
  refine ks_wpAt_execs_cons (sup_first (fd := ksFn nm qual ⟨[], [a1, a2], none, [], [], none, []⟩ _ sc .none kV doc pm an (.ref cda) ct cc) (qual := qual) (L := s.heap.objs.size) (a := a) (t1 := t1) (m := fun x => ([se, yn].zip [Value.ref a, u]).reverse.lookup x) (pl := _)
    F (inK.keeps hk) (keepNs e0.mod.glob) ⟨mb, keepNs hmb, boot⟩ hns ms (hk _ _ hobj) naL (fun s1 Q E _ hq => Calls.Constant_str (hq _ _ _)) (sup_eval hln) (by rfl) fun t2 h2 tk k2 e2 => ?_)
  show _root_.PySem.wpAt _ _ _ (execs [_] _) _ _ _
  have hns2 : h2.Ns s.heap.objs.size (fun x => ([se, yn].zip [Value.ref a, u]).reverse.lookup x) := by
    obtain ⟨o, es, ep, e, rr⟩ := hns
    exact ⟨o, es, ep, k2 _ _ naL e, rr⟩
  have inK2 : K.In h2 := fun b o e => k2 b o (fun z => by
    have q := kb b o (e0.mod.kin b o e)
    rw [z, hobj] at q
    cases q
    have q2 := (e0.bs b _ (e0.mod.kin b _ e)).2
    rw [z, ea] at q2
    cases q2) (hk _ _ (inK b o e))
  refine ks_wpAt_execs_cons (ks_wpAt_Assign_Attr (wpAt_of_any (wpAny_Name (wpAny_loadName_local kind hky hns2 my (wpAny_Name (wpAny_loadName_local kind F.ka hns2 ms ?_) d1)) d2)) (by rfl))
  obtain ⟨nm', q', N, bs, bm, sn, sub, ab, col, dd, k0, k1, kk2, k3, k5, hC, hbm⟩ := T.cls
  have hcl : clsIn K C = some { name := nm', bases := bs, mro := .ref C :: bm, ns := N, qualname := q', hasDict := true, slotNames := sn, subclasses := sub, abstract := ab, collection := col, hasDel := false } := by
    unfold clsIn
    rw [hC]
  refine PySem.W.set_plain inK2 (ox := excObj C t2 none .none) (od := none) ⟨e2, rfl, rfl, trivial⟩ T.sa ?_
  refine PySem.HandSPX.exc_osa inK2 e2 hcl (show PySem.HandSPX.refsVE (.ref C :: bm) = true from hbm) rfl hno (fun h4 tk4 dx k4 dn dne hx hn => ?_)
  have k24 : ∀ b o, b ≠ a → s.heap.get? b = some o → h4.get? b = some o := fun b o n e => k4 b o n (k2 b o n (hk b o e))
  have nds : ∀ o, s.heap.get? dx ≠ some o := fun o z => absurd (Heap.lt_size (k2 dx o dne (hk dx o z))) (Nat.not_lt.mpr dn)
  have hd : H dx = none := e0.hok.gone (by
    cases z : s.heap.get? dx with
    | none => rfl
    | some o => exact absurd z (nds o))
  obtain ⟨un, ok⟩ := ini_end (C := C) (f := f1) (outer := outer) e0.hok ea ru k24 ⟨t2, hx⟩ hn hd dne nds
  show _root_.PySem.wpAt _ _ _ (execs [] _) _ _ _
  refine wpAt_of_any (wpAny_execs_nil ?_)
  exact ⟨.non, _, rfl, e0.bare, un, ok, rfl, hq dx hd dne⟩
end
/-- such a class, its __init__ kept -/
structure NsOk (P : Program) (K : PySem.W.Frag) (mg : Str → Option Value) (C : Addr) : Prop where
  ok : ∃ fI fd ps, OexC K C ∧ findIn K (.ref C) "__init__" = some (some (.ref fI)) ∧ typeIn K (.ref fI) = some (.type "function") ∧ Binds K fd ps [] ∧ ∀ (w : World) (base : Heap) (CX : CXT) (k : Nat), FnOk P w K mg base CX (k + 1) fI fd ps (spI1 C "field")
end Rs

namespace Rs
open PySem PySem.Spec PyProof.Rows L2

/-! ### the checker: is this text of mine that piece of the text -/
structure Cc where
  N : List Str
  sc : Scope
  fns : List Str
  con : List (Str × D)
  asg : Option Scope
  /-- where the function's table of code objects stands -/
  ti : Option Nat := none
  /-- the exceptions are known -/
  xs : Bool := false
  /-- within an except suite -/
  hot : Bool := false
  /-- the function got a function without parameters -/
  th : Bool := false
  /-- within a lambda -/
  lm : Bool := false
  /-- the exceptions that are raised -/
  rs : List Nat := []
def isVis (sc : Scope) (x : Str) : Bool := match sc.names.lookup x with
  | some .local => true
  | some .cell => true
  | some .free => true
  | _ => false
def isLoc (sc : Scope) (x : Str) : Bool := match sc.names.lookup x with
  | some .local => true
  | some .cell => true
  | _ => false
def isPlainLoc (sc : Scope) (x : Str) : Bool := match sc.names.lookup x with
  | some .local => true
  | _ => false
def isGl (sc : Scope) (x : Str) : Bool := match sc.names.lookup x with
  | some .globalImplicit => true
  | _ => false
def notSet : Expr → Bool
  | .Set _ _ _ => false
  | _ => true
def isStar : Expr → Bool
  | .Starred _ _ => true
  | _ => false
def eqOp : Op2 → Operator → Bool
  | .add, .Add => true | .sub, .Sub => true | .mul, .Mult => true | .fdiv, .FloorDiv => true | .mod, .Mod => true | .pow, .Pow => true
  | _, _ => false
def eqCm : Cm → CmpOp → Bool
  | .eq, .Eq => true | .ne, .NotEq => true | .lt, .Lt => true | .le, .LtE => true | .gt, .Gt => true | .ge, .GtE => true | .is, .Is => true | .isn, .IsNot => true | .mem, .In => true | .nmem, .NotIn => true
  | _, _ => false
def okName (x : Str) : Bool := !(x == ("__debug__" : Str)) && !(x == ("__classdict__" : Str)) && !(x == ("__name__" : Str))
def constD : D → Const → Bool
  | .non, .none => true
  | .bl a, .bool b => a == b
  | .int a, .int b => a == b
  | .str a, .str b => decide (a = b)
  | _, _ => false
def sameD : D → D → Bool
  | .int a, .int b => a == b
  | .str a, .str b => decide (a = b)
  | _, _ => false
def biS : Bi → Str
  | .len => "len" | .tuple => "tuple" | .list => "list" | .all => "all" | .int => "int" | .max2 => "max" | .min2 => "min" | .maxl => "max" | .repr => "repr" | .str => "str" | .sorted => "sorted"
def tyS : Ty → Str
  | .int => "int" | .bool => "bool" | .str => "str" | .tuple => "tuple" | .list => "list"
def mtS : Mt → Str
  | .append => "append" | .extend => "extend" | .pop => "pop" | .popAt => "pop" | .index => "index" | .count => "count" | .get => "get"
def mtIn : Mt → Bool
  | .append => true | .extend => true | .popAt => true | _ => false
/-- the names of built-ins, as the layer takes them -/
def bNames : List Str := ["len", "tuple", "list", "all", "int", "max", "min", "repr", "str", "isinstance", "bool", "range", "enumerate", "zip", "sorted", "set"]
def QI.isR : QI → Bool
  | .rng1 _ => true
  | .rng2 _ _ => true
  | _ => false
/-- built-ins that raise nothing within -/
def Bi.hot : Bi → Bool
  | .len => true
  | .repr => true
  | _ => false
def excS : Nat → Str
  | 0 => "RestartError" | 1 => "ScriptError" | 2 => "FieldsError" | 3 => "StepError" | 4 => "RecordError" | 5 => "NumberError" | 6 => "StopsError" | 7 => "EffectError" | 8 => "MarksError"
  | 9 => "MatchError" | 10 => "PlaceError" | 11 => "TextError" | 12 => "Ended" | 13 => "NothingDone" | 14 => "NotSafe" | 15 => "LimitError" | _ => "ValueError"
def xfN (f : Str) : Bool := decide (f = ("field" : Str)) || decide (f = ("amount" : Str)) || decide (f = ("limit" : Str))
def noParams : Arguments → Bool
  | ⟨[], [], none, [], [], none, []⟩ => true
  | _ => false
def noIn (op : CmpOp) (e : Expr) : Bool := !behindInMarks op e
def QE.tst : QE → Bool
  | .ife _ _ _ => false
  | _ => true
/-- a comprehension's own names by their slots -/
def ownOf (N : List Str) (is : List Nat) : List (Str × Nat) := is.map fun i => (N.getD i "", i)
mutual
def chkT (c : Cc) : QT → Expr → Bool
  | .nm i, e => match e with
    | .Name x _ => decide (c.N[i]? = some x) && isLoc c.sc x && (match c.asg with
      | none => true
      | some s => isLoc s x)
    | _ => false
  | .tp ts, e => match e with
    | .Tuple es _ _ => !c.hot && chkTs c ts es
    | _ => false
def chkTs (c : Cc) : List QT → List Expr → Bool
  | [], es => match es with
    | [] => true
    | _ => false
  | t :: ts, es => match es with
    | e :: es => !isStar e && chkT c t e && chkTs c ts es
    | _ => false
end
mutual
def chkE (c : Cc) : QE → Expr → Bool
  | .var i, e => match e with
    | .Name x _ => decide (c.N[i]? = some x) && isVis c.sc x && okName x
    | _ => false
  | .con d, e => match e with
    | .Constant k _ _ => constD d k
    | .Name x _ => isGl c.sc x && okName x && (match c.con.lookup x with
      | some d' => sameD d d'
      | none => false)
    | _ => false
  | .neg a, e => match e with
    | .UnaryOp .USub x _ => chkE c a x
    | _ => false
  | .not a, e => match e with
    | .UnaryOp .Not x _ => a.tst && chkE c a x
    | _ => false
  | .bin o a b, e => match e with
    | .BinOp x op y _ => eqOp o op && chkE c a x && chkE c b y
    | _ => false
  | .cmp o a b, e => match e with
    | .Compare x [op] [y] _ => eqCm o op && noIn op y && chkE c a x && chkE c b y
    | _ => false
  | .chn o p a b d, e => match e with
    | .Compare x [op, op'] [y, z] _ => eqCm o op && eqCm p op' && noIn op y && noIn op' z && chkE c a x && chkE c b y && chkE c d z
    | _ => false
  | .and a b, e => match e with
    | .BoolOp .And (x :: y :: r) pos => a.tst && chkE c a x && b.tst && (match r with
      | [] => chkE c b y
      | _ => (match b with
        | .and _ _ => true
        | _ => false) && chkE c b (.BoolOp .And (y :: r) pos))
    | _ => false
  | .or a b, e => match e with
    | .BoolOp .Or (x :: y :: r) pos => a.tst && chkE c a x && b.tst && (match r with
      | [] => chkE c b y
      | _ => (match b with
        | .or _ _ => true
        | _ => false) && chkE c b (.BoolOp .Or (y :: r) pos))
    | _ => false
  | .ife t a b, e => match e with
    | .IfExp z x y _ => t.tst && chkE c t z && chkE c a x && chkE c b y
    | _ => false
  | .idx a b, e => match e with
    | .Subscript x y _ => (match y with
      | .Slice _ _ _ _ => false
      | _ => true) && chkE c a x && chkE c b y
    | _ => false
  | .slc a lo hi, e => match e with
    | .Subscript x (.Slice l h none _) _ => chkE c a x && (match l with
      | none => lo.isNo
      | some e => chkE c lo e) && (match h with
      | none => hi.isNo
      | some e => chkE c hi e)
    | _ => false
  | .rev a, e => match e with
    | .Subscript x (.Slice none none (some (.UnaryOp .USub (.Constant (.int i) _ _) _)) _) _ => decide (i = 1) && chkE c a x
    | _ => false
  | .odd a, e => match e with
    | .Subscript x (.Slice (some (.Constant (.int i) _ _)) none (some (.Constant (.int j) _ _)) _) _ => decide (i = 1) && decide (j = 2) && chkE c a x
    | _ => false
  | .tup es, e => match e with
    | .Tuple xs _ _ => chkEs c es xs
    | _ => false
  | .lst es, e => match e with
    | .List xs _ => chkEs c es xs
    | _ => false
  | .call k es, e => match e with
    | .Call (.Name x _) xs [] _ => !c.hot && (isGl c.sc x && okName x && decide (c.fns[k]? = some x) && chkEs c es xs && xs.all (fun z => !isStar z))
    | _ => false
  | .bi b es, e => match e with
    | .Call (.Name x _) (y :: ys) [] _ => (!c.hot || b.hot) && (isGl c.sc x && decide (x = biS b) && chkEs c es (y :: ys) && (y :: ys).all (fun z => !isStar z))
    | _ => false
  | .mth m o es, e => match e with
    | .Call (.Attribute x nm apos) (y :: ys) [] cpos => !c.hot && (match o with
      | .var _ => true
      | _ => false) && mtIn m && decide (nm = mtS m) && decide (apos.endLine = cpos.line) && decide (ys.length < 20) && chkE c o x && chkEs c es (y :: ys) && (y :: ys).all (fun z => !isStar z)
    | _ => false
  | .isi a t, e => match e with
    | .Call (.Name f _) [x, .Name y _] [] _ => isGl c.sc f && decide (f = ("isinstance" : Str)) && isGl c.sc y && decide (y = tyS t) && !isStar x && chkE c a x
    | _ => false
  | .comp t it cond elt, e => match e with
    | .ListComp x [⟨tg, itx, ifs, 0⟩] scope _ =>
      let own := ownOf c.N t.slots
      let c' : Cc := { c with sc := relS scope c.sc, asg := some scope, th := false }
      !c.hot && (chkI c it tg itx && L2.blkC c.N c.sc scope own && chkT c' t tg && (match ifs with
        | [] => (match cond with
          | .no => true
          | _ => false)
        | [y] => cond.tst && chkE c' cond y
        | _ => false) && chkE c' elt x)
    | _ => false
  | .compO t a cond elt, e => match e with
    | .ListComp x [⟨tg, itx, ifs, 0⟩] scope _ =>
      let own := ownOf c.N t.slots
      let c' : Cc := { c with sc := relS scope c.sc, asg := some scope, th := false }
      !c.hot && (notSet itx && chkE c a itx && L2.blkC c.N c.sc scope own && chkT c' t tg && (match ifs with
        | [] => (match cond with
          | .no => true
          | _ => false)
        | [y] => cond.tst && chkE c' cond y
        | _ => false) && chkE c' elt x)
    | _ => false
  | .srt a, e => match e with
    | .Call (.Name x _) [.Call (.Name y _) [z] [] _] [] _ => !c.hot && (isGl c.sc x && decide (x = ("sorted" : Str)) && isGl c.sc y && decide (y = ("set" : Str)) && !isStar z && chkE c a z)
    | _ => false
  | .lrg t it, e => match e with
    | .Call (.Name x _) [y] [] _ => !c.hot && (isGl c.sc x && decide (x = if t = true then ("tuple" : Str) else ("list" : Str)) && it.isR && !isStar y && chkI c it e y)
    | _ => false
  | .isx a k, e => match e with
    | .Call (.Name f _) [x, .Name y _] [] _ => c.hot && !c.th && c.xs && isGl c.sc f && decide (f = ("isinstance" : Str)) && isGl c.sc y && decide (k < 17) && decide (y = excS k) && (match a with
      | .var _ => true
      | _ => false) && !isStar x && chkE c a x
    | _ => false
  | .fld a f, e => match e with
    | .Attribute x n _ => c.hot && !c.th && c.xs && decide (n = f) && xfN f && (match a with
      | .var _ => true
      | _ => false) && chkE c a x
    | _ => false
  | .tru ix a, e => match e with
    | .Call (.Attribute x nm apos) [.Constant (.bool true) _ _] [] cpos => (match a with
      | .var _ => true
      | _ => false) && decide (nm = if ix = true then ("index" : Str) else ("count" : Str)) && decide (apos.endLine = cpos.line) && chkE c a x
    | _ => false
  | .thk, e => match e with
    | .Call (.Name x _) [] [] _ => c.th && decide (c.N[0]? = some x) && isVis c.sc x && okName x
    | _ => false
  | .said ti k q, e => match e with
    | .Call (.Name x _) [.Lambda params body scope _] [] _ => !c.hot && isGl c.sc x && okName x && decide (c.fns[k]? = some x) && c.ti.isSome && noParams params && LamX.lamSB c.sc scope && chkE { c with sc := scope, asg := some scope, ti := none, th := false, lm := true } q body
    | _ => false
  | .hc k es, e => match e with
    | .Call (.Name x _) (e :: es2) [] _ => c.hot && !c.th && c.xs && isGl c.sc x && okName x && decide (c.fns[k]? = some x) && chkEs c es (e :: es2) && ((e :: es2).all fun z => !isStar z)
    | _ => false
  | .no, _ => false
def chkEs (c : Cc) : QEs → List Expr → Bool
  | .nil, es => match es with
    | [] => true
    | _ => false
  | .cons q qs, es => match es with
    | e :: es => !isStar e && chkE c q e && chkEs c qs es
    | [] => false
  | .star q qs, es => match es with
    | .Starred e _ :: es => chkE c q e && chkEs c qs es
    | _ => false
def chkI (c : Cc) : QI → Expr → Expr → Bool
  | .val q, _, e => notSet e && chkE c q e
  | .rng1 a, _, e => match e with
    | .Call (.Name x _) [y] [] _ => isGl c.sc x && decide (x = ("range" : Str)) && !isStar y && chkE c a y
    | _ => false
  | .rng2 a b, _, e => match e with
    | .Call (.Name x _) [y, z] [] _ => isGl c.sc x && decide (x = ("range" : Str)) && !isStar y && !isStar z && chkE c a y && chkE c b z
    | _ => false
  | .rng3 a b k, _, e => match e with
    | .Call (.Name x _) [y, z, .UnaryOp .USub (.Constant (.int 1) _ _) _] [] _ => isGl c.sc x && decide (x = ("range" : Str)) && decide (k = -1) && !isStar y && !isStar z && chkE c a y && chkE c b z
    | _ => false
  | .enm a, tg, e => match e with
    | .Call (.Name x _) [y] [] _ => (match tg with
      | .Tuple _ _ _ => true
      | _ => false) && isGl c.sc x && decide (x = ("enumerate" : Str)) && !isStar y && chkE c a y
    | _ => false
  | .zip a b, tg, e => match e with
    | .Call (.Name x _) [y, z] [] _ => (match tg with
      | .Tuple _ _ _ => true
      | _ => false) && isGl c.sc x && decide (x = ("zip" : Str)) && !isStar y && !isStar z && chkE c a y && chkE c b z
    | _ => false
end

def chkO (c : Cc) (q : QE) (o : Option Expr) : Bool := match o with
  | none => q.isNo
  | some e => chkE c q e
/-! ### what the context must bear -/
/-- a function of the program, called -/
def spF (w : Xd) (n : Nat) (g : List D → Store → Out D) : Sp := fun vs H Q E => vs.length = n ∧ ∃ ex L S ds, let w : Xd := { w with K := { w.K with ex := ex } }; Rel w.K L H S ∧ DenL w.K L H ds vs ∧ EndR w (rD w) (fun cls oe _ H' => E cls oe H') [] L H Q (g ds S)
structure CallOk (w : Xd) (C : CallT) (X : Cx) (k : Nat) (x : Str) : Prop where
  ok : ∃ f fd ps, X.mg x = some (.ref f) ∧ PySem.W.keepIn X.K (.ref f) = true ∧ Binds X.K fd ps [] ∧ FnG X.prog X.w X.K X.mg X.base (L2.CX X.prog X.w) C.lv f fd ps (spF w ps.length (C k)) ∧ ∀ ds S, C k ds S ≠ .bad → ds.length = ps.length
/-- what is known of an exception's class that is raised -/
structure RzF (K : PySem.W.Frag) (mg : Str → Option Value) (xc : Nat → Value) (k : Nat) : Prop where
  ok : ∃ C, xc k = .ref C ∧ mg (excS k) = some (.ref C) ∧ PySem.W.excIn K C He.veBase "ValueError.__new__" = true ∧ PySem.W.keepIn K (.ref C) = true ∧ PySem.W.subIn K (.ref C) (.type "BaseException") = some true ∧ PySem.W.typeIn K (.ref C) = some (.type "type")
/-- what is known of the exceptions' classes -/
structure XF (P : Program) (K : PySem.W.Frag) (mg : Str → Option Value) (xc : Nat → Value) : Prop where
  ns : ∃ C, xc 14 = .ref C ∧ NsOk P K mg C
  own : ∀ k, k < 16 → ∃ C, xc k = .ref C ∧ mg (excS k) = some (.ref C) ∧ (ExcC K C ∧ XfC K C) ∧ ∀ f, xfN f = true → PySem.W.findIn K (.ref C) f = some none
  ve : mg "ValueError" = none
  exm : ∀ j k, j < 16 → k < 16 → PySem.W.exmOne K (xc j) (xc k) = some (subX j k)
  exv : ∀ j, j < 16 → PySem.W.exmOne K (xc j) (.type "ValueError") = some true
/-- the exception that is handled -/
structure HotX (w : Xd) (X : Cx) : Prop where
  at_ : ∃ z oe, w.K.xn = some z ∧ (z.a, oe) ∈ X.pn ∧ Zc (w.xc z.c) z.d oe ∧ (∃ vs, oe.data = .fields vs) ∧ z.c < 16
/-- with the function that is handed in -/
def Xd.lam (w : Xd) (fl cc : Addr) (q : Str) (xs : List V) (ds : List D) : Xd := { w with K := { w.K with xn := some { a := fl, c := 99, d := some cc, q := q, xs := xs, ds := ds } } }
/-- what the body of a def does that is called with a function -/
def SaidBody (w : Xd) (C : CallT) (X : Cx) (k : Nat) (x : Str) (g : Addr) (cdv : Value) (sg : Scope) (Ng : List Str) (bg : List Stmt) (a : Str) (n : Nat) : Prop :=
  ∀ (ex : List Addr) (A : Around) (outer : List PySem.Env) (fl cc : Addr) (q : Str) (xs : List V) (s : Shared) (H : Hp) (Q : VK) (E : XK) (th : Store → Out D) (cap : List D) (L : List Addr) (S : Store),
    let w : Xd := { w with K := { w.K with ex := ex } }
    let cx : Cx := cxOf (L2.CX X.prog X.w) X.prog X.w X.K X.mg X.base Ng x sg g cdv A outer s H E
    A.guards = some [] → Room n (A.deeper (envOfC x sg s.heap.objs.size g cdv)) → w.K.xn = none →
    (∀ (pn : List (Addr × Obj)) (xe : Value → Shared → Prop) (W' : WX) (p1 p2 : Pos), Takes (cx.tr pn xe) W' → PE (cx.tr pn xe) (.Call (.Name a p1) [] [] p2) (TX (w.lam fl cc q xs cap) (rD (w.lam fl cc q xs cap)) W' fun σ S => match σ[0]? with
      | some (some (D.exn 99 _)) => th S
      | _ => .bad)) →
    Rel w.K L H S → DenL w.K L H cap xs → H cc = some (LamX.CodeO cc q) → EndR w (rD w) (fun cls oe _ H' => E cls oe H') [] L H Q (C.said k cap th S) →
    ∃ t, PSs cx bg t ∧ t { nx := fun _ H' => Q .non H', rt := Q } (L2.start Ng [.ref fl]) H
structure SaidOk (w : Xd) (C : CallT) (X : Cx) (k : Nat) (x : Str) : Prop where
  ok : ∃ (g : Addr) (a : Str) (pg : Arguments) (bg : List Stmt) (sg : Scope) (Ng : List Str) (dV kV doc pm cdv ct oc : Value) (an od : Option Addr) (osl : Array (Option Value)),
    X.mg x = some (.ref g) ∧ PySem.W.keepIn X.K (.ref g) = true ∧ X.K.lookup g = some ⟨oc, od, .func (PySem.W.fnOf x x pg bg sg dV kV doc pm an cdv ct), osl⟩ ∧ PySem.W.codeIn X.K cdv x = true ∧ Binds X.K (PySem.W.fnOf x x pg bg sg dV kV doc pm an cdv ct) [a] [] ∧
      FnScope Ng [a] sg ∧ Ng[0]? = some a ∧ Vis sg a ∧ okName a = true ∧ SaidBody w C X k x g cdv sg Ng bg a (C.lv + 1)
/-- what a def does within an except suite -/
def spH (w : Xd) (n : Nat) (g : List D → Store → Option D) (p : Addr × Obj) : Sp := fun vs H Q E => vs.length = n ∧ ∃ ex xn L S ds d, let w : Xd := { w with K := { w.K with ex := ex, xn := xn } }
  (∃ z, xn = some z ∧ p.1 = z.a ∧ Zc (w.xc z.c) z.d p.2 ∧ (∃ vs, p.2.data = .fields vs) ∧ z.c < 16) ∧ Rel w.K L H S ∧ DenL w.K L H ds vs ∧ g ds S = some d ∧ ∀ v L' H', Gr L H L' H' → Rel w.K L' H' S → Den w.K L' H' d v → Q v H'
structure HotFn (w : Xd) (C : CallT) (X : Cx) (k : Nat) (x : Str) : Prop where
  ok : ∃ f fd ps, X.mg x = some (.ref f) ∧ PySem.W.keepIn X.K (.ref f) = true ∧ Binds X.K fd ps [] ∧ FnHp X.prog X.w X.K X.mg X.base (L2.CX X.prog X.w) C.lv f fd ps (spH w ps.length (C.hot k)) ∧ ∀ ds S d, C.hot k ds S = some d → ds.length = ps.length
structure COk (w : Xd) (C : CallT) (W : WX) (c : Cc) (X : Cx) : Prop where
  sc : X.env.scope = c.sc
  N : X.N = c.N
  nd : X.N.Nodup
  calm : c.hot = false → X.calm = true
  K : X.K = w.K.K
  hf : w.K.hf = fun k => k.hash X.w
  un : X.A.units + 65 < cLine
  gd : X.A.guards = some []
  tk : L2.Takes X W
  bl : ∀ x ∈ bNames, X.mg x = none
  con : ∀ x d, c.con.lookup x = some d → ∃ v u, X.mg x = some u ∧ RelV v u ∧ ∀ K L H, Den K L H d v
  rm : c.hot = false → Room C.lv X.A
  rh : L2H.RoomH C.lv X.A
  rf : ∀ k, c.rs.contains k = true → RzF X.K X.mg w.xc k
  r2 : c.hot = false → c.lm = false → Room (C.lv + 2) X.A
  fh : c.xs = true → ∀ k x, c.fns[k]? = some x → HotFn w C X k x
  sd : c.ti.isSome = true → Room (C.lv + 2) X.A ∧ ∀ k x, c.fns[k]? = some x → ∀ cap th S, C.said k cap th S ≠ .bad → SaidOk w C X k x
  fn : c.hot = false → ∀ k x, c.fns[k]? = some x → CallOk w C X k x
  xf : c.xs = true → XF X.prog X.K X.mg w.xc
  hx : c.hot = true → c.th = false → HotX w X
  thh : c.th = true → c.hot = true
  th : c.th = true → ∀ (pn : List (Addr × Obj)) (xe : Value → Shared → Prop) (W' : WX) (x : Str) (p1 p2 : Pos), Takes (X.tr pn xe) W' → c.N[0]? = some x → isVis c.sc x = true → okName x = true →
    PE (X.tr pn xe) (.Call (.Name x p1) [] [] p2) (TX w (rD w) W' fun σ S => match σ[0]? with
      | some (some (D.exn 99 _)) => C.thk S
      | _ => .bad)
  xn : c.hot = false → w.K.xn = none
  tb : ∀ ti, c.ti = some ti → ∃ P cc, w.K.tb[ti]? = some (P, X.env.qual ++ "<lambda>") ∧ (∀ y ∈ w.K.tb, y.1 = P → y.2 = X.env.qual ++ "<lambda>") ∧ X.env.code = .ref cc ∧ LamX.TabB X.base X.mg cc P
  as : ∀ x, isLoc c.sc x = true → (match c.asg with
      | none => true
      | some s => isLoc s x) = true → X.fn x = true ∨ X.env.scope.names.lookup x = some .local
section
variable {w : Xd} {C : CallT} {W : WX} {c : Cc} {X : Cx}
theorem COk.vis (O : COk w C W c X) {x : Str} (h : isVis c.sc x = true) : Vis X.env.scope x := by
  unfold isVis at h
  rw [O.sc]
  split at h
  · exact .inl (by assumption)
  · exact .inr (.inl (by assumption))
  · exact .inr (.inr (by assumption))
  · cases h
theorem COk.loc (O : COk w C W c X) {x : Str} (h : isLoc c.sc x = true) : Loc X.env.scope x := by
  unfold isLoc at h
  rw [O.sc]
  split at h
  · exact .inl (by assumption)
  · exact .inr (by assumption)
  · cases h
theorem COk.gl (O : COk w C W c X) {x : Str} (h : isGl c.sc x = true) : Gl X x := by
  unfold isGl at h
  show X.env.scope.names.lookup x = _
  rw [O.sc]
  split at h
  · assumption
  · cases h
theorem okName_1 {x : Str} (h : okName x = true) : (x == ("__debug__" : Str)) = false ∧ (x == ("__classdict__" : Str)) = false ∧ x ≠ "__name__" := by
  unfold okName at h
  simp only [Bool.and_eq_true, Bool.not_eq_true'] at h
  exact ⟨h.1.1, h.1.2, fun e => by rw [e] at h; exact absurd h.2 (by decide)⟩
theorem star_plain {e : Expr} {es : List Expr} {env : PySem.Env} (h : isStar e = false) : starEach (e :: es) env = (false, eval e env) :: starEach es env := by
  cases e <;> first
    | rfl
    | cases h
theorem plain_all : ∀ {es : List Expr} {env : PySem.Env} {pos : Pos}, (es.all fun z => !isStar z) = true → (backTo pos (starEach es env)).any (·.1) = false
  | [], _, _, _ => rfl
  | e :: es, env, pos, h => by
    rw [List.all_cons, Bool.and_eq_true_iff] at h
    have h1 : isStar e = false := by simpa using h.1
    rw [star_plain h1]
    show (false || (backTo pos (starEach es env)).any (·.1)) = false
    rw [plain_all h.2]
    rfl
theorem bi_mem (b : Bi) : biS b ∈ bNames := by cases b <;> decide +kernel
theorem ty_mem (b : Ty) : tyS b ∈ bNames := by cases b <;> decide +kernel
theorem eqOp_of {o : Op2} {op : Operator} (h : eqOp o op = true) : op = opOf o := by cases o <;> cases op <;> first | rfl | cases h
theorem eqCm_of {o : Cm} {op : CmpOp} (h : eqCm o op = true) : op = cmOf o := by cases o <;> cases op <;> first | rfl | cases h
theorem okB_bind {o : Out D} {Q : Bool → Hp → Prop} {σ : L2.St} {L : List Addr} {H : Hp} (h : EndR w (rEq' (α := Bool)) W σ L H Q (okB o)) : EndR w (rD w) W σ L H (fun v H1 => ∃ k, v = V.bl k ∧ Q k H1) o := by
  cases o with
  | ok a S =>
    cases a with
    | bl b => exact fun y L' H' g r d => ⟨b, of_b d, h b L' H' g r rfl⟩
    | _ => exact h.elim
  | exc x S => exact h
  | bad => exact h
end
end Rs

namespace Rs
open PySem PySem.Spec PyProof.Rows L2
section
variable {w : Xd} {C : CallT} {W : WX} {c : Cc} {X : Cx} {fa fb fc : Env → Store → Out D}
abbrev ED (w : Xd) (W : WX) (f : Env → Store → Out D) : TE := TX w (rD w) W f
abbrev EB (w : Xd) (W : WX) (f : Env → Store → Out D) : TT := TX w (rEq' (α := Bool)) W fun σ S => okB (f σ S)
abbrev ELs (w : Xd) (W : WX) (f : Env → Store → Out (List D)) : TA := TX w (rDs w) W f
theorem tx_test {f : Env → Store → Out D} {σ : L2.St} {H : Hp} {Q : Bool → Hp → Prop} (h : EB w W f σ H Q) : ED w W f σ H fun x H1 => ∃ k, x = V.bl k ∧ Q k H1 := by
  obtain ⟨σd, S, L, er, r, h⟩ := h
  exact ⟨σd, S, L, er, r, okB_bind h⟩
theorem pt_of {e : Expr} (h : PE X e (ED w W fa)) (he : ∀ whole, isTrue e X.env whole = (do let v ← whole; standAt e.pos; holding [v] (truthy v))) : PT X e (EB w W fa) :=
  PT_imp (pt_val h he) fun _ _ _ h => tx_test h
theorem g_var (O : COk w C W c X) {i : Nat} {x : Str} {pos : Pos} (h1 : c.N[i]? = some x) (h2 : isVis c.sc x = true) (h3 : okName x = true) : PE X (.Name x pos) (ED w W (ev C (.var i))) := by
  obtain ⟨a, b, _⟩ := okName_1 h3
  refine PE_imp (pe_var (i := i) (by rw [O.N]; exact h1) (O.vis h2) a b) fun σ H Q ⟨σd, S, L, er, r, h⟩ => ?_
  rw [ev] at h
  split at h
  · rename_i d q
    obtain ⟨v, e, hv⟩ := er.at_ i d q
    exact ⟨v, e, h.here r hv⟩
  · exact h.elim
theorem g_con {d : D} {k : Const} {j : Nat} {pos : Pos} (h : constD d k = true) : PE X (.Constant k j pos) (ED w W (ev C (.con d))) := by
  cases d <;> cases k <;> simp only [constD, Bool.false_eq_true, beq_iff_eq, decide_eq_true_eq] at h
  · exact PE_imp pe_non fun σ H Q ⟨σd, S, L, er, r, h⟩ => (by rw [ev] at h; exact h.here r den_n)
  · subst h
    exact PE_imp pe_bl fun σ H Q ⟨σd, S, L, er, r, h⟩ => (by rw [ev] at h; exact h.here r den_b)
  · subst h
    exact PE_imp pe_int fun σ H Q ⟨σd, S, L, er, r, h⟩ => (by rw [ev] at h; exact h.here r den_i)
  · subst h
    exact PE_imp pe_str fun σ H Q ⟨σd, S, L, er, r, h⟩ => (by rw [ev] at h; exact h.here r den_s)
theorem sameD_of {a b : D} (h : sameD a b = true) : a = b := by
  cases a <;> cases b <;> simp only [sameD, Bool.false_eq_true, beq_iff_eq, decide_eq_true_eq] at h <;> rw [h]
theorem g_glob (O : COk w C W c X) {d d' : D} {x : Str} {pos : Pos} (h1 : isGl c.sc x = true) (h2 : okName x = true) (h3 : c.con.lookup x = some d') (h4 : sameD d d' = true) : PE X (.Name x pos) (ED w W (ev C (.con d))) := by
  obtain ⟨v, u, hm, r, hd⟩ := O.con x d' h3
  obtain ⟨a, _, _⟩ := okName_1 h2
  rw [sameD_of h4]
  exact PE_imp (pe_glob (O.gl h1) hm r a) fun σ H Q ⟨σd, S, L, er, r, h⟩ => (by rw [ev] at h; exact h.here r (hd _ _ _))
theorem g_neg {a : Expr} {pos : Pos} (ha : PE X a (ED w W fa)) : PE X (.UnaryOp .USub a pos) (ED w W fun σ S => (fa σ S).bind fun d S => match d with
    | .int i => .ok (.int (-i)) S
    | _ => .bad) := by
  refine PE_imp (pe_un un_neg ha) fun σ H Q ⟨σd, S, L, er, r, h⟩ => ?_
  refine ⟨σd, S, L, er, r, (EndR.bind h).imp fun x H1 ⟨a, S1, L1, g1, r1, d1, h1⟩ => ?_⟩
  cases a with
  | int i =>
    cases of_i d1
    exact ⟨_, rfl, h1.here r1 den_i⟩
  | _ => exact h1.elim
theorem g_not {a : Expr} {pos : Pos} (ha : PT X a (EB w W fa)) (hp : PE X a (ED w W fa)) :
    PE X (.UnaryOp .Not a pos) (ED w W fun σ S => (okB (fa σ S)).bind fun b S => .ok (.bl (!b)) S) ∧ PT X (.UnaryOp .Not a pos) (EB w W fun σ S => (okB (fa σ S)).bind fun b S => .ok (.bl (!b)) S) := by
  constructor
  · refine PE_imp (pe_not hp) fun σ H Q ⟨σd, S, L, er, r, h⟩ => ?_
    refine ⟨σd, S, L, er, r, (okB_bind (Q := fun k H1 => Q (.bl (!k)) H1) ?_)⟩
    exact (EndR.bind h).imp fun k H1 ⟨a, S1, L1, g1, r1, d1, h1⟩ => by
      subst d1
      exact h1.here r1 den_b
  · refine PT_imp (pt_not ha) fun σ H Q ⟨σd, S, L, er, r, h⟩ => ?_
    refine ⟨σd, S, L, er, r, ?_⟩
    have h : EndR w (rEq' (α := Bool)) W σ L H Q (okB ((okB (fa σd S)).bind fun b S => .ok (.bl (!b)) S)) := h
    show EndR w (rEq' (α := Bool)) W σ L H (fun c H1 => Q (!c) H1) (okB (fa σd S))
    cases q : fa σd S with
    | ok d S' =>
      rw [q] at h
      cases d with
      | bl b => exact fun y L' H' g r' e => by rw [show y = b from e]; exact h (!b) L' H' g r' rfl
      | _ => exact h.elim
    | exc x S' => rw [q] at h; exact h
    | bad => rw [q] at h; exact h.elim
theorem g_cmp (O : COk w C W c X) {o : Cm} {op : CmpOp} {a b : Expr} {pos : Pos} (h1 : eqCm o op = true) (h2 : noIn op b = true) (ha : PE X a (ED w W fa)) (hb : PE X b (ED w W fb)) :
    PE X (.Compare a [op] [b] pos) (ED w W fun σ S => (fa σ S).bind fun x S => (fb σ S).bind fun y S => ofO ((cmpD o x y S).map .bl) S) ∧
    PT X (.Compare a [op] [b] pos) (EB w W fun σ S => (fa σ S).bind fun x S => (fb σ S).bind fun y S => ofO ((cmpD o x y S).map .bl) S) := by
  have e := eqCm_of h1
  subst e
  have hm : behindInMarks (cmOf o) b = false := by simpa [noIn] using h2
  have hop : OpR X (compareOp (cmOf o)) (rC w W (cmpD o)) := op_cmp O.K O.hf O.un o
  constructor
  · exact PE_imp (pe_cmpR hop ha hb hm) fun _ _ _ h => tx_bin h
  · exact PT_imp (pt_cmpR hop ha hb hm) fun σ H Q h => by
      have h2 := tx_test h
      exact tx_bin (f := fun x y S => (cmpD o x y S).map .bl) h2
theorem tx_chn {o p : Cm} {σ : L2.St} {H : Hp} {Q : VK} (h : ED w W (fun σ S => (fa σ S).bind fun x S => (fb σ S).bind fun y S => (ofO (cmpD o x y S) S).bind fun k S =>
      if k = true then (fc σ S).bind fun z S => ofO ((cmpD p y z S).map .bl) S else .ok (.bl false) S) σ H Q) :
    tChain (rC w W (cmpD o)) (rC w W (cmpD p)) (ED w W fa) (ED w W fb) (ED w W fc) σ H Q := by
  obtain ⟨σd, S, L, er, r, h⟩ := h
  refine ⟨σd, S, L, er, r, (EndR.bind h).imp fun x H1 ⟨a, S1, L1, g1, r1, d1, h1⟩ => ?_⟩
  refine ⟨σd, S1, L1, er.grow g1, r1, (EndR.bind h1).imp fun y H2 ⟨b, S2, L2, g2, r2, d2, h2⟩ => ?_⟩
  refine ⟨σ, L2, S2, a, b, r2, d1.grow g2, d2, ?_⟩
  show EndR w (rD w) W σ L2 H2 _ (ofO ((cmpD o a b S2).map .bl) S2)
  cases q : cmpD o a b S2 with
  | none =>
    rw [q] at h2
    exact h2.elim
  | some k =>
    rw [q] at h2
    intro z L3 H3 g3 r3 dz
    refine ⟨k, of_b dz, ?_⟩
    have h3 : EndR w (rD w) W σ L2 H2 Q (if k = true then (fc σd S2).bind fun z S => ofO ((cmpD p b z S).map .bl) S else .ok (.bl false) S2) := h2
    cases k with
    | false => exact h3 _ L3 H3 g3 r3 den_b
    | true =>
      rw [if_pos rfl] at h3 ⊢
      refine ⟨σd, S2, L3, ((er.grow g1).grow g2).grow g3, r3, (EndR.bind (h3.grow g3)).imp fun z H4 ⟨a4, S4, L4, g4, r4, d4, h4⟩ => ?_⟩
      exact ⟨σ, L4, S4, b, a4, r4, (d2.grow g3).grow g4, d4, h4⟩
theorem g_chn (O : COk w C W c X) {o p : Cm} {op op' : CmpOp} {a b d : Expr} {pos : Pos} (h1 : eqCm o op = true) (h1' : eqCm p op' = true) (h2 : noIn op b = true) (h2' : noIn op' d = true) (ha : PE X a (ED w W fa)) (hb : PE X b (ED w W fb)) (hc : PE X d (ED w W fc)) :
    PE X (.Compare a [op, op'] [b, d] pos) (ED w W fun σ S => (fa σ S).bind fun x S => (fb σ S).bind fun y S => (ofO (cmpD o x y S) S).bind fun k S =>
      if k = true then (fc σ S).bind fun z S => ofO ((cmpD p y z S).map .bl) S else .ok (.bl false) S) ∧
    PT X (.Compare a [op, op'] [b, d] pos) (EB w W fun σ S => (fa σ S).bind fun x S => (fb σ S).bind fun y S => (ofO (cmpD o x y S) S).bind fun k S =>
      if k = true then (fc σ S).bind fun z S => ofO ((cmpD p y z S).map .bl) S else .ok (.bl false) S) := by
  have e := eqCm_of h1
  subst e
  have e := eqCm_of h1'
  subst e
  have hm' : behindInMarks (cmOf p) d = false := by simpa [noIn] using h2'
  have hm : lastMarks [cmOf o, cmOf p] [b, d] = false := by
    rw [show lastMarks [cmOf o, cmOf p] [b, d] = lastMarks [cmOf p] [d] by cases o <;> rfl]
    exact hm'
  constructor
  · exact PE_imp (pe_chain (op_cmp O.K O.hf O.un o) (op_cmp O.K O.hf O.un p) ha hb hc hm) fun _ _ _ h => tx_chn h
  · exact PT_imp (pt_chain (op_cmp O.K O.hf O.un o) (op_cmp O.K O.hf O.un p) ha hb hc hm) fun σ H Q h => tx_chn (tx_test h)
/-! and, or -/
theorem tx_and {σ : L2.St} {H : Hp} {Q : VK} (h : ED w W (fun σ S => (okB (fa σ S)).bind fun k S => if k = true then fb σ S else .ok (.bl false) S) σ H Q) : tAndV (ED w W fa) (ED w W fb) σ H Q := by
  obtain ⟨σd, S, L, er, r, h⟩ := h
  refine ⟨σd, S, L, er, r, okB_bind (Q := fun k H1 => if k = true then ED w W fb σ H1 Q else Q (.bl false) H1) ((EndR.bind h).imp fun k H1 ⟨a, S1, L1, g1, r1, d1, h1⟩ => ?_)⟩
  subst d1
  cases k with
  | true => exact ⟨σd, S1, L1, er.grow g1, r1, h1⟩
  | false => exact h1.here r1 den_b
theorem tx_or {σ : L2.St} {H : Hp} {Q : VK} (h : ED w W (fun σ S => (okB (fa σ S)).bind fun k S => if k = true then .ok (.bl true) S else fb σ S) σ H Q) : tOrV (ED w W fa) (ED w W fb) σ H Q := by
  obtain ⟨σd, S, L, er, r, h⟩ := h
  refine ⟨σd, S, L, er, r, okB_bind (Q := fun k H1 => if k = true then Q (.bl true) H1 else ED w W fb σ H1 Q) ((EndR.bind h).imp fun k H1 ⟨a, S1, L1, g1, r1, d1, h1⟩ => ?_)⟩
  subst d1
  cases k with
  | false => exact ⟨σd, S1, L1, er.grow g1, r1, h1⟩
  | true => exact h1.here r1 den_b
theorem okB_bind2 {o : Out Bool} {f : Bool → Store → Out D} : okB (o.bind f) = o.bind fun k S => okB (f k S) := by
  cases o <;> rfl
theorem tx_andT {σ : L2.St} {H : Hp} {Q : Bool → Hp → Prop} (h : EB w W (fun σ S => (okB (fa σ S)).bind fun k S => if k = true then fb σ S else .ok (.bl false) S) σ H Q) : tAnd (EB w W fa) (EB w W fb) σ H Q := by
  obtain ⟨σd, S, L, er, r, h⟩ := h
  dsimp only at h
  rw [okB_bind2] at h
  refine ⟨σd, S, L, er, r, (EndR.bind h).imp fun k H1 ⟨a, S1, L1, g1, r1, d1, h1⟩ => ?_⟩
  subst d1
  cases k with
  | true => exact ⟨σd, S1, L1, er.grow g1, r1, h1⟩
  | false => exact h1.here r1 rfl
theorem tx_orT {σ : L2.St} {H : Hp} {Q : Bool → Hp → Prop} (h : EB w W (fun σ S => (okB (fa σ S)).bind fun k S => if k = true then .ok (.bl true) S else fb σ S) σ H Q) : tOr (EB w W fa) (EB w W fb) σ H Q := by
  obtain ⟨σd, S, L, er, r, h⟩ := h
  dsimp only at h
  rw [okB_bind2] at h
  refine ⟨σd, S, L, er, r, (EndR.bind h).imp fun k H1 ⟨a, S1, L1, g1, r1, d1, h1⟩ => ?_⟩
  subst d1
  cases k with
  | false => exact ⟨σd, S1, L1, er.grow g1, r1, h1⟩
  | true => exact h1.here r1 rfl
theorem g_ife {t a b : Expr} {pos : Pos} (ht : PT X t (EB w W fc)) (ha : PE X a (ED w W fa)) (hb : PE X b (ED w W fb)) : PE X (.IfExp t a b pos) (ED w W fun σ S => (okB (fc σ S)).bind fun k S => if k = true then fa σ S else fb σ S) := by
  refine PE_imp (pe_ifExp ht ha hb) fun σ H Q ⟨σd, S, L, er, r, h⟩ => ?_
  refine ⟨σd, S, L, er, r, (EndR.bind h).imp fun k H1 ⟨a, S1, L1, g1, r1, d1, h1⟩ => ?_⟩
  subst d1
  cases k with
  | true => exact ⟨σd, S1, L1, er.grow g1, r1, h1⟩
  | false => exact ⟨σd, S1, L1, er.grow g1, r1, h1⟩
theorem g_idx (O : COk w C W c X) {a b : Expr} {pos : Pos} (hs : PlainIx b) (ha : PE X a (ED w W fa)) (hb : PE X b (ED w W fb)) : PE X (.Subscript a b pos) (ED w W fun σ S => (fa σ S).bind fun x S => (fb σ S).bind fun y S => ofO (idxD x y S) S) :=
  PE_imp (pe_ix (ix_idxD (W := W) O.K O.hf O.un) ha hb hs) fun _ _ _ h => tx_bin h
abbrev EO (w : Xd) (W : WX) (f : Env → Store → Out (Option Int)) : TO := TX w (rEq' (α := Option Int)) W f
theorem g_slc (O : COk w C W c X) {a : Expr} {lo hi : Option Expr} {p2 pos : Pos} {fl fh : Env → Store → Out (Option Int)} (ha : PE X a (ED w W fa)) (hl : PO X lo (EO w W fl)) (hh : PO X hi (EO w W fh)) :
    PE X (.Subscript a (.Slice lo hi none p2) pos) (ED w W fun σ S => (fa σ S).bind fun x S => (fl σ S).bind fun l S => (fh σ S).bind fun h S => ofO (slcD x l h) S) := by
  refine PE_imp (pe_slice (sl_slcD (W := W) O.K) ha hl hh) fun σ H Q ⟨σd, S, L, er, r, h⟩ => ?_
  refine ⟨σd, S, L, er, r, (EndR.bind h).imp fun x H1 ⟨a, S1, L1, g1, r1, d1, h1⟩ => ?_⟩
  refine ⟨σd, S1, L1, er.grow g1, r1, (EndR.bind h1).imp fun l H2 ⟨a2, S2, L2, g2, r2, d2, h2⟩ => ?_⟩
  subst d2
  refine ⟨σd, S2, L2, (er.grow g1).grow g2, r2, (EndR.bind h2).imp fun u H3 ⟨a3, S3, L3, g3, r3, d3, h3⟩ => ?_⟩
  subst d3
  exact ⟨σ, L3, S3, a, r3, (d1.grow g2).grow g3, h3⟩
theorem g_po {e : Expr} (h : PE X e (ED w W fa)) : PO X (some e) (EO w W fun σ S => okI (fa σ S)) := by
  refine PO_imp (po_some h) fun σ H Q ⟨σd, S, L, er, r, h⟩ => ⟨σd, S, L, er, r, ?_⟩
  have h : EndR w (rEq' (α := Option Int)) W σ L H Q (okI (fa σd S)) := h
  cases q : fa σd S with
  | ok d S' =>
    rw [q] at h
    cases d with
    | int i => exact fun y L' H' g r' e => ⟨i, of_i e, h (some i) L' H' g r' rfl⟩
    | _ => exact h.elim
  | exc x S' => rw [q] at h; exact h
  | bad => rw [q] at h; exact h.elim
theorem g_poN : PO X none (EO w W fun _ S => .ok none S) := PO_imp po_none fun σ H Q ⟨σd, S, L, er, r, h⟩ => EndR.here h r rfl
/-! displays -/
variable {fs : Env → Store → Out (List D)}
theorem g_tup {es : List Expr} {k : Nat} {pos : Pos} (h : PA X es (ELs w W fs)) : PE X (.Tuple es k pos) (ED w W fun σ S => (fs σ S).bind fun xs S => if xs.length ≤ sizeLine then .ok (.tup xs) S else .bad) := by
  refine PE_imp (pe_tup h) fun σ H Q ⟨σd, S, L, er, r, h⟩ => ?_
  refine ⟨σd, S, L, er, r, (EndR.bind h).imp fun x H1 ⟨a, S1, L1, g1, r1, d1, h1⟩ => ?_⟩
  split at h1
  · rename_i hl
    have d1 : DenL w.K L1 H1 a x := d1
    exact ⟨by rw [← d1.length]; exact hl, fun p n => end_tup h1 r1 d1 n⟩
  · exact h1.elim
/-! the values that are new: a list that may be written -/
/-- what is wanted behind an expression that makes a new list -/
def EndF (w : Xd) (W : WX) (σ : L2.St) (L : List Addr) (H : Hp) (Q : VK) : Out D → Prop
  | .ok (.lst l) S' => ∀ p L' H', Gr L H (L' ++ [p]) H' → Rel w.K (L' ++ [p]) H' (S' ++ [.lst l]) → L <+: L' → Q (.ref p) H'
  | .ok _ _ => False
  | .exc x S' => ∀ cls oe L' H', Gr L H L' H' → Rel w.K L' H' S' → XO w L' H' x cls oe → W cls oe σ H'
  | .bad => False
def EF (w : Xd) (W : WX) (f : Env → Store → Out D) : TE := fun σ H Q => ∃ σd S L, ERel w.K L H σd σ ∧ Rel w.K L H S ∧ EndF w W σ L H Q (f σd S)
/-- kept as a list that nobody writes -/
theorem frozen {l : List D} {p : Addr} {L L' : List Addr} {H H' : Hp} {S : Store} (g : Gr L H (L' ++ [p]) H') (r : Rel w.K (L' ++ [p]) H' (S ++ [.lst l])) (pre : L <+: L') : Gr L H L' H' ∧ Rel w.K L' H' S ∧ Den w.K L' H' (.lst l) (.ref p) := by
  have hl : L'.length = S.length := by
    have := r.len
    rw [List.length_append, List.length_append] at this
    simpa using this
  have r' := r.cut L'.length
  rw [List.take_left' rfl, hl, List.take_left' rfl] at r'
  obtain ⟨a, e, m⟩ := r.at_ S.length (.lst l) (by rw [List.getElem?_append_right (Nat.le_refl _), Nat.sub_self]; rfl)
  obtain ⟨lo, xs, h1, h2⟩ := m.lst
  rw [← hl, List.getElem?_append_right (Nat.le_refl _), Nat.sub_self] at e
  cases e
  refine ⟨⟨pre, g.fr, fun a ha n => g.new a (List.mem_append_left _ ha) n⟩, r', ?_⟩
  rw [Den]
  have h3 := h2.cut l xs lo
  rw [← hl, List.take_left' rfl] at h3
  refine ⟨p, xs, rfl, h1, ⟨fun z => ?_, fun z => (r.ex p z).2 (List.mem_append_right _ (List.mem_singleton.mpr rfl))⟩, h3⟩
  exact (List.nodup_append.mp r.nd).2.2 p z p (List.mem_singleton.mpr rfl) rfl
theorem ED_of_EF {e : Expr} (h : PE X e (EF w W fa)) (hl : ∀ σ S d S', fa σ S = .ok d S' → ∃ l, d = .lst l) : PE X e (ED w W fa) := by
  refine PE_imp h fun σ H Q ⟨σd, S, L, er, r, h⟩ => ⟨σd, S, L, er, r, ?_⟩
  have h : EndR w (rD w) W σ L H Q (fa σd S) := h
  cases q : fa σd S with
  | ok d S' =>
    obtain ⟨l, rfl⟩ := hl _ _ _ _ q
    rw [q] at h
    intro p L' H' g r' pre
    obtain ⟨a, b, c⟩ := frozen g r' pre
    exact h _ L' H' a b c
  | exc x S' => rw [q] at h; exact h
  | bad => rw [q] at h; exact h.elim
theorem den_lo {K : KX} {L : List Addr} {H : Hp} {n : Nat} (hn : L.length = n) : (∀ (d : D) (v : V), Den K L H d v → d.lo n = true) ∧ ∀ (ds : List D) (vs : List V), DenL K L H ds vs → loL n ds = true := by
  have key : ∀ (m : Nat), (∀ (d : D) (v : V), sizeOf d < m → Den K L H d v → d.lo n = true) ∧ ∀ (ds : List D) (vs : List V), sizeOf ds < m → DenL K L H ds vs → loL n ds = true := by
    intro m
    induction m with
    | zero => exact ⟨fun d v h => absurd h (Nat.not_lt_zero _), fun d v h => absurd h (Nat.not_lt_zero _)⟩
    | succ m ih =>
      refine ⟨fun d v hs h => ?_, fun ds vs hs h => ?_⟩
      · cases d with
        | non => rfl
        | bl b => rfl
        | int b => rfl
        | str b => rfl
        | tup l =>
          obtain ⟨a, xs, _, _, _, h2⟩ := den_tup h
          rw [D.lo]
          exact ih.2 l xs (by simp at hs; omega) h2
        | lst l =>
          obtain ⟨a, xs, _, _, _, h2⟩ := den_lst h
          rw [D.lo]
          exact ih.2 l xs (by simp at hs; omega) h2
        | scr l =>
          obtain ⟨a, xs, _, _, h2⟩ := den_scr h
          rw [D.lo]
          exact ih.2 l xs (by simp at hs; omega) h2
        | box k l =>
          obtain ⟨a, xs, o, _, _, _, _, h2⟩ := den_box h
          rw [D.lo]
          exact ih.2 l xs (by simp at hs; omega) h2
        | exn k l =>
          obtain ⟨a, xs, _, _, h2, _⟩ := den_exn h
          rw [D.lo]
          exact ih.2 l xs (by simp at hs; omega) h2
        | obj i =>
          obtain ⟨a, _, h2⟩ := den_obj h
          rw [D.lo]
          exact decide_eq_true (by rw [← hn]; exact (List.getElem?_eq_some_iff.mp h2).1)
      · cases ds with
        | nil => rfl
        | cons d ds =>
          rw [DenL] at h
          obtain ⟨y, ys, rfl, r, rs⟩ := h
          rw [loL, ih.1 d y (by simp at hs; omega) r, ih.2 ds ys (by simp at hs; omega) rs]
          rfl
  exact ⟨fun d v h => (key _).1 d v (Nat.lt_succ_self _) h, fun d v h => (key _).2 d v (Nat.lt_succ_self _) h⟩
/-- a list is laid: what stands behind it -/
theorem end_new (hx : w.K.xn = none) {l : List D} {xs : List V} {p : Addr} {σ : L2.St} {L : List Addr} {H : Hp} {S : Store} {Q : VK} (h : EndF w W σ L H Q (.ok (.lst l) S)) (r : Rel w.K L H S) (d : DenL w.K L H l xs) (n : H p = none) : Q (.ref p) (upd H p (.lst xs)) := by
  have g : Gr L H (L ++ [p]) (upd H p (.lst xs)) := Gr.push n
  exact h p L _ g (r.push n (MOk.of_lst ⟨by rw [← r.len]; exact (den_lo rfl).2 _ _ d, xs, upd_same, d.grow g⟩) (d.noX_ hx l xs)) (List.prefix_refl _)
theorem EndF.bind {β : Type} {o : Out β} {γ : Type} {R1 : List Addr → Hp → β → γ → Prop} {f : β → Store → Out D} {σ : L2.St} {L : List Addr} {H : Hp} {Q : VK} (h : EndF w W σ L H Q (o.bind f)) :
    EndR w R1 W σ L H (fun y H1 => ∃ a S1 L1, Gr L H L1 H1 ∧ Rel w.K L1 H1 S1 ∧ R1 L1 H1 a y ∧ EndF w W σ L1 H1 Q (f a S1)) o := by
  cases o with
  | ok a S' =>
    intro y L' H' g r d
    refine ⟨a, S', L', g, r, d, ?_⟩
    have h : EndF w W σ L H Q (f a S') := h
    cases q : f a S' with
    | ok b S2 =>
      rw [q] at h
      cases b with
      | lst l => exact fun p L2 H2 g2 r2 pre => h p L2 H2 (g.trans g2) r2 (g.pre.trans pre)
      | _ => exact h.elim
    | exc x S2 =>
      rw [q] at h
      exact fun cls oe L2 H2 g2 r2 x => h cls oe L2 H2 (g.trans g2) r2 x
    | bad =>
      rw [q] at h
      exact h.elim
  | exc x S' => exact h
  | bad => exact h.elim
theorem g_lstF (hx : w.K.xn = none) {es : List Expr} {pos : Pos} (h : PA X es (ELs w W fs)) : PE X (.List es pos) (EF w W fun σ S => (fs σ S).bind fun xs S => if xs.length ≤ sizeLine then .ok (.lst xs) S else .bad) := by
  refine PE_imp (pe_lst h) fun σ H Q ⟨σd, S, L, er, r, h⟩ => ?_
  refine ⟨σd, S, L, er, r, (EndF.bind h).imp fun x H1 ⟨a, S1, L1, g1, r1, d1, h1⟩ => ?_⟩
  split at h1
  · rename_i hl
    have d1 : DenL w.K L1 H1 a x := d1
    exact ⟨by rw [← d1.length]; exact hl, fun p n => end_new hx h1 r1 d1 n⟩
  · exact h1.elim
/-- list(x): the items anew -/
theorem g_listF (O : COk w C W c X) (hx : w.K.xn = none) {x : Str} {e : Expr} {es : List Expr} {p pos : Pos} (h1 : x = ("list" : Str)) (h2 : isGl c.sc x = true) (h4 : ((e :: es).all fun z => !isStar z) = true) (hs : PA X (e :: es) (ELs w W fs)) :
    PE X (.Call (.Name x p) (e :: es) [] pos) (EF w W fun σ S => (fs σ S).bind fun xs S => ofO (biD .list xs S) S) := by
  subst h1
  have hm := O.bl "list" (by decide +kernel)
  rw [List.all_cons, Bool.and_eq_true_iff] at h4
  have he : isStar e = false := by simpa using h4.1
  refine PE_imp (pe_callTy call_list_of (O.gl h2) hm (by decide +kernel) hs (by decide) (by decide) (star_plain he) (plain_all h4.2)) fun σ H Q ⟨σd, S, L, er, r, h⟩ => ?_
  refine ⟨σd, S, L, er, r, (EndF.bind h).imp fun xs H1 ⟨ds, S1, L1, g1, r1, dl, h1⟩ => ?_⟩
  have dl : DenL w.K L1 H1 ds xs := dl
  match ds, h1, dl with
  | [], h1, dl => exact h1.elim
  | _ :: _ :: _, h1, dl => exact h1.elim
  | [d], h1, dl =>
    have h1 : EndF w W σ L1 H1 Q (ofO ((itemsD S1 d).map D.lst) S1) := h1
    obtain ⟨v, rfl, dv⟩ := denL1 dl
    cases el : itemsD S1 d with
    | none => rw [el] at h1; exact h1.elim
    | some l =>
      rw [el] at h1
      obtain ⟨q, ys, rfl, hq, d2⟩ := items_sq r1 dv el
      exact ⟨q, ys, rfl, by rw [O.K]; exact hq, fun t n => end_new hx h1 r1 d2 n⟩
theorem g_lst {es : List Expr} {pos : Pos} (h : PA X es (ELs w W fs)) : PE X (.List es pos) (ED w W fun σ S => (fs σ S).bind fun xs S => if xs.length ≤ sizeLine then .ok (.lst xs) S else .bad) := by
  refine PE_imp (pe_lst h) fun σ H Q ⟨σd, S, L, er, r, h⟩ => ?_
  refine ⟨σd, S, L, er, r, (EndR.bind h).imp fun x H1 ⟨a, S1, L1, g1, r1, d1, h1⟩ => ?_⟩
  split at h1
  · rename_i hl
    have d1 : DenL w.K L1 H1 a x := d1
    exact ⟨by rw [← d1.length]; exact hl, fun p n => end_lst h1 r1 d1 n⟩
  · exact h1.elim
theorem g_nil : PA X [] (ELs w W fun _ S => .ok [] S) := PA_imp pa_nil fun σ H Q ⟨σd, S, L, er, r, h⟩ => EndR.here h r DenL.nil
theorem g_cons {e : Expr} {es : List Expr} (h1 : isStar e = false) (h : PE X e (ED w W fa)) (hs : PA X es (ELs w W fs)) : PA X (e :: es) (ELs w W fun σ S => (fa σ S).bind fun x S => (fs σ S).bind fun xs S => .ok (x :: xs) S) := by
  refine PA_imp (pa_cons h hs (star_plain h1)) fun σ H Q ⟨σd, S, L, er, r, h⟩ => ?_
  refine ⟨σd, S, L, er, r, (EndR.bind h).imp fun x H1 ⟨a, S1, L1, g1, r1, d1, h1⟩ => ?_⟩
  refine ⟨σd, S1, L1, er.grow g1, r1, (EndR.bind h1).imp fun xs H2 ⟨as, S2, L2, g2, r2, d2, h2⟩ => ?_⟩
  exact h2.here r2 (DenL.cons (Den.grow g2 _ _ d1) d2)
theorem g_star (O : COk w C W c X) {e : Expr} {es : List Expr} {p : Pos} (h : PE X e (ED w W fa)) (hs : PA X es (ELs w W fs)) : PA X (.Starred e p :: es) (ELs w W fun σ S => (fa σ S).bind fun x S => match x with
    | .tup l => (fs σ S).bind fun xs S => .ok (l ++ xs) S
    | .lst l => (fs σ S).bind fun xs S => .ok (l ++ xs) S
    | _ => .bad) := by
  refine PA_imp (StX.pa_star h hs) fun σ H Q ⟨σd, S, L, er, r, h⟩ => ?_
  refine ⟨σd, S, L, er, r, (EndR.bind h).imp fun x H1 ⟨a, S1, L1, g1, r1, d1, h1⟩ => ?_⟩
  cases a with
  | tup l =>
    obtain ⟨p, xs, rfl, e1, _, e2⟩ := den_tup d1
    refine ⟨p, xs, rfl, .inl (.of e1), ⟨σd, S1, L1, er.grow g1, r1, (EndR.bind h1).imp fun ys H2 ⟨as, S2, L2, g2, r2, d2, h2⟩ => ?_⟩⟩
    exact h2.here r2 ((e2.grow g2).append d2)
  | lst l =>
    obtain ⟨p, xs, rfl, e1, _, e2⟩ := den_lst d1
    refine ⟨p, xs, rfl, .inr (.of e1), ⟨σd, S1, L1, er.grow g1, r1, (EndR.bind h1).imp fun ys H2 ⟨as, S2, L2, g2, r2, d2, h2⟩ => ?_⟩⟩
    exact h2.here r2 ((e2.grow g2).append d2)
  | _ => exact h1.elim
/-! calls -/
theorem call_end {n : Nat} {g : List D → Store → Out D} {σ : L2.St} {H : Hp} {Q : VK} {vs : List V} {L : List Addr} {S : Store} {ds : List D} (r : Rel w.K L H S) (d : DenL w.K L H ds vs) (hn : ds.length = n) (h : EndR w (rD w) W σ L H Q (g ds S)) : spF w n g vs H Q (L2.WE W σ) := by
  refine ⟨by rw [← d.length, hn], w.K.ex, L, S, ds, r, d, ?_⟩
  cases q : g ds S with
  | ok a S' => rw [q] at h; exact h
  | exc x S' => rw [q] at h; exact h
  | bad => rw [q] at h; exact h.elim
/-! ### the interpreter's equations, as functions -/
theorem ev_neg_f {a : QE} : ev C (.neg a) = fun σ S => (ev C a σ S).bind fun d S => match d with
    | .int i => .ok (.int (-i)) S
    | _ => .bad := by
  funext σ S
  first | (rw [ev]; done) | (rw [ev]; rfl)
theorem ev_not_f {a : QE} : ev C (.not a) = fun σ S => (okB (ev C a σ S)).bind fun b S => .ok (.bl (!b)) S := by
  funext σ S
  first | (rw [ev]; done) | (rw [ev]; rfl)
theorem ev_bin_f {o : Op2} {a b : QE} : ev C (.bin o a b) = fun σ S => (ev C a σ S).bind fun x S => (ev C b σ S).bind fun y S => ofO (binD o x y) S := by
  funext σ S
  first | (rw [ev]; done) | (rw [ev]; rfl)
theorem ev_cmp_f {o : Cm} {a b : QE} : ev C (.cmp o a b) = fun σ S => (ev C a σ S).bind fun x S => (ev C b σ S).bind fun y S => ofO ((cmpD o x y S).map .bl) S := by
  funext σ S
  first | (rw [ev]; done) | (rw [ev]; rfl)
theorem ev_chn_f {o p : Cm} {a b c : QE} : ev C (.chn o p a b c) = fun σ S => (ev C a σ S).bind fun x S => (ev C b σ S).bind fun y S => (ofO (cmpD o x y S) S).bind fun k S =>
      if k = true then (ev C c σ S).bind fun z S => ofO ((cmpD p y z S).map .bl) S else .ok (.bl false) S := by
  funext σ S
  first | (rw [ev]; done) | (rw [ev]; rfl)
theorem ev_and_f {a b : QE} : ev C (.and a b) = fun σ S => (okB (ev C a σ S)).bind fun k S => if k = true then ev C b σ S else .ok (.bl false) S := by
  funext σ S
  first | (rw [ev]; done) | (rw [ev]; rfl)
theorem ev_or_f {a b : QE} : ev C (.or a b) = fun σ S => (okB (ev C a σ S)).bind fun k S => if k = true then .ok (.bl true) S else ev C b σ S := by
  funext σ S
  first | (rw [ev]; done) | (rw [ev]; rfl)
theorem ev_ife_f {c a b : QE} : ev C (.ife c a b) = fun σ S => (okB (ev C c σ S)).bind fun k S => if k = true then ev C a σ S else ev C b σ S := by
  funext σ S
  first | (rw [ev]; done) | (rw [ev]; rfl)
theorem ev_idx_f {a b : QE} : ev C (.idx a b) = fun σ S => (ev C a σ S).bind fun x S => (ev C b σ S).bind fun y S => ofO (idxD x y S) S := by
  funext σ S
  first | (rw [ev]; done) | (rw [ev]; rfl)
theorem ev_slc_f {a lo hi : QE} : ev C (.slc a lo hi) = fun σ S => (ev C a σ S).bind fun x S => (evO C lo σ S).bind fun l S => (evO C hi σ S).bind fun h S => ofO (slcD x l h) S := by
  funext σ S
  first | (rw [ev]; done) | (rw [ev]; rfl)
theorem ev_rev_f {a : QE} : ev C (.rev a) = fun σ S => (ev C a σ S).bind fun x S => ofO (revD x) S := by
  funext σ S
  first | (rw [ev]; done) | (rw [ev]; rfl)
theorem ev_odd_f {a : QE} : ev C (.odd a) = fun σ S => (ev C a σ S).bind fun x S => ofO (oddD x) S := by
  funext σ S
  first | (rw [ev]; done) | (rw [ev]; rfl)
theorem ev_tup_f {es : QEs} : ev C (.tup es) = fun σ S => (evs C es σ S).bind fun xs S => if xs.length ≤ sizeLine then .ok (.tup xs) S else .bad := by
  funext σ S
  first | (rw [ev]; done) | (rw [ev]; rfl)
theorem ev_lst_f {es : QEs} : ev C (.lst es) = fun σ S => (evs C es σ S).bind fun xs S => if xs.length ≤ sizeLine then .ok (.lst xs) S else .bad := by
  funext σ S
  first | (rw [ev]; done) | (rw [ev]; rfl)
theorem ev_call_f {k : Nat} {es : QEs} : ev C (.call k es) = fun σ S => (evs C es σ S).bind fun xs S => C k xs S := by
  funext σ S
  first | (rw [ev]; done) | (rw [ev]; rfl)
theorem ev_bi_f {b : Bi} {es : QEs} : ev C (.bi b es) = fun σ S => (evs C es σ S).bind fun xs S => ofO (biD b xs S) S := by
  funext σ S
  first | (rw [ev]; done) | (rw [ev]; rfl)
theorem ev_mth_f {m : Mt} {o : QE} {es : QEs} : ev C (.mth m o es) = fun σ S => (ev C o σ S).bind fun x S => if mtOk m x S = true then (evs C es σ S).bind fun xs S => match mtD m x xs S with
    | some (d, S) => .ok d S
    | none => .bad else .bad := by
  funext σ S
  first | (rw [ev]; done) | (rw [ev]; rfl)
theorem ev_isi_f {a : QE} {t : Ty} : ev C (.isi a t) = fun σ S => (ev C a σ S).bind fun x S => ofO ((isiD x t).map .bl) S := by
  funext σ S
  first | (rw [ev]; done) | (rw [ev]; rfl)
theorem ev_comp_f {t : QT} {it : QI} {cond elt : QE} : ev C (.comp t it cond elt) = fun σ S => (evI C it σ S).bind fun xs S =>
      (compL (fun x S => match assignT t x (wipeD σ t.slots) with
        | none => .bad
        | some σ1 => (evC C cond σ1 S).bind fun k S => if k = true then (ev C elt σ1 S).bind fun y S => .ok (some y) S else .ok none S) xs S).bind fun ys S =>
      if ys.length < sizeLine then .ok (.lst ys) S else .bad := by
  funext σ S
  first | (rw [ev]; done) | (rw [ev]; rfl)
theorem ev_compO_f {t : QT} {a cond elt : QE} : ev C (.compO t a cond elt) = fun σ S => (ev C a σ S).bind fun x S => match x with
    | .obj i => match S[i]? with
      | some (.lst l) => (compL (fun x S => grd i l (match assignT t x (wipeD σ t.slots) with
        | none => .bad
        | some σ1 => (evC C cond σ1 S).bind fun k S => if k = true then (ev C elt σ1 S).bind fun y S => .ok (some y) S else .ok none S)) l S).bind fun ys S =>
          if ys.length < sizeLine then .ok (.lst ys) S else .bad
      | _ => .bad
    | _ => .bad := by
  funext σ S
  first | (rw [ev]; done) | (rw [ev]; rfl)
theorem ev_lrg_f {t : Bool} {it : QI} : ev C (.lrg t it) = fun σ S => (evI C it σ S).bind fun xs S => if xs.length ≤ 16777216 then .ok (if t = true then .tup xs else .lst xs) S else .bad := by
  funext σ S
  first | (rw [ev]; done) | (rw [ev]; rfl)
theorem evI_val_f {e : QE} : evI C (.val e) = fun σ S => (ev C e σ S).bind fun x S => match x with
    | .tup l => .ok l S
    | .lst l => .ok l S
    | _ => .bad := by
  funext σ S
  first | (rw [evI]; done) | (rw [evI]; rfl)
theorem evI_rng1_f {a : QE} : evI C (.rng1 a) = fun σ S => (ev C a σ S).bind fun x S => match x with
    | .int j => if small j = true then .ok (rngL 0 1 j.toNat) S else .bad
    | _ => .bad := by
  funext σ S
  first | (rw [evI]; done) | (rw [evI]; rfl)
theorem evI_rng2_f {a b : QE} : evI C (.rng2 a b) = fun σ S => (ev C a σ S).bind fun x S => (ev C b σ S).bind fun y S => match x, y with
    | .int i, .int j => if small i = true ∧ small j = true then .ok (rngL i 1 (j - i).toNat) S else .bad
    | _, _ => .bad := by
  funext σ S
  first | (rw [evI]; done) | (rw [evI]; rfl)
theorem evI_rng3_f {a b : QE} {c : Int} : evI C (.rng3 a b c) = fun σ S => (ev C a σ S).bind fun x S => (ev C b σ S).bind fun y S => match x, y with
    | .int i, .int j => if small i = true ∧ small j = true ∧ c = -1 then .ok (rngL i (-1) (i - j).toNat) S else .bad
    | _, _ => .bad := by
  funext σ S
  first | (rw [evI]; done) | (rw [evI]; rfl)
theorem evI_enm_f {a : QE} : evI C (.enm a) = fun σ S => (ev C a σ S).bind fun x S => match x with
    | .lst l => .ok (enmL 0 l) S
    | .tup l => .ok (enmL 0 l) S
    | _ => .bad := by
  funext σ S
  first | (rw [evI]; done) | (rw [evI]; rfl)
theorem evI_zip_f {a b : QE} : evI C (.zip a b) = fun σ S => (ev C a σ S).bind fun x S => (ev C b σ S).bind fun y S => match x, y with
    | .tup l, .tup m => .ok (zipL l m) S
    | .lst l, .lst m => .ok (zipL l m) S
    | _, _ => .bad := by
  funext σ S
  first | (rw [evI]; done) | (rw [evI]; rfl)
end
end Rs

namespace Rs
open PySem PySem.Spec PyProof.Rows L2
section
variable {w : Xd} {C : CallT} {W : WX} {c : Cc} {X : Cx} {fa fb fc : Env → Store → Out D} {fs : Env → Store → Out (List D)}
/-! ### calls -/
theorem EndR_ne {α β : Type} {R : List Addr → Hp → α → β → Prop} {σ : L2.St} {L : List Addr} {H : Hp} {Q : β → Hp → Prop} {o : Out α} (h : EndR w R W σ L H Q o) : o ≠ .bad := fun e => by
  rw [e] at h
  exact h
theorem g_call0 (O : COk w C W c X) (hh : c.hot = false) {k : Nat} {x : Str} {p pos : Pos} (h1 : c.fns[k]? = some x) (h2 : isGl c.sc x = true) (h3 : okName x = true) :
    PE X (.Call (.Name x p) [] [] pos) (ED w W fun σ S => (Out.ok [] S).bind fun xs S => C k xs S) := by
  obtain ⟨⟨f, fd, ps, hm, hk, hb, F, hlen⟩⟩ := O.fn hh k x h1
  obtain ⟨hd, _, _⟩ := okName_1 h3
  refine PE_imp (pe_callG0 F O.gd (O.rm hh) (O.gl h2) hm hk hb (fun σ => L2.passAt O.tk σ) hd) fun σ H Q ⟨σd, S, L, er, r, h⟩ => ?_
  have h : EndR w (rD w) W σ L H Q (C k [] S) := h
  exact call_end r DenL.nil (hlen [] S (EndR_ne h)) h
theorem g_call (O : COk w C W c X) (hh : c.hot = false) {k : Nat} {x : Str} {e : Expr} {es : List Expr} {p pos : Pos} (h1 : c.fns[k]? = some x) (h2 : isGl c.sc x = true) (h3 : okName x = true) (h4 : ((e :: es).all fun z => !isStar z) = true) (hs : PA X (e :: es) (ELs w W fs)) :
    PE X (.Call (.Name x p) (e :: es) [] pos) (ED w W fun σ S => (fs σ S).bind fun xs S => C k xs S) := by
  obtain ⟨⟨f, fd, ps, hm, hk, hb, F, hlen⟩⟩ := O.fn hh k x h1
  obtain ⟨hd, _, _⟩ := okName_1 h3
  rw [List.all_cons, Bool.and_eq_true_iff] at h4
  have he : isStar e = false := by simpa using h4.1
  refine PE_imp (pe_callG F O.gd (O.rm hh) (O.gl h2) hm hk hb (fun σ => L2.passAt O.tk σ) hs hd (star_plain he) (plain_all h4.2)) fun σ H Q ⟨σd, S, L, er, r, h⟩ => ?_
  refine ⟨σd, S, L, er, r, (EndR.bind h).imp fun xs H1 ⟨a, S1, L1, g1, r1, d1, h1⟩ => ?_⟩
  exact call_end r1 d1 (hlen a S1 (EndR_ne h1)) h1
theorem g_hcall (O : COk w C W c X) (hh : c.hot = true) (ht : c.th = false) (hs2 : c.xs = true) {k : Nat} {x : Str} {e : Expr} {es : List Expr} {p pos : Pos} (h1 : c.fns[k]? = some x) (h2 : isGl c.sc x = true) (h3 : okName x = true) (h4 : ((e :: es).all fun z => !isStar z) = true)
    (hs : PA X (e :: es) (ELs w W fs)) : PE X (.Call (.Name x p) (e :: es) [] pos) (ED w W fun σ S => (fs σ S).bind fun xs S => ofO (C.hot k xs S) S) := by
  obtain ⟨z, oe, z1, z2, z3, z4, z5⟩ := (O.hx hh ht).at_
  obtain ⟨hd, _, _⟩ := okName_1 h3
  rw [List.all_cons, Bool.and_eq_true_iff] at h4
  have he : isStar e = false := by simpa using h4.1
  obtain ⟨f, fd, ps, hm, hk, hb, F, hl⟩ := (O.fh hs2 k x h1).ok
  refine PE_imp (pe_callHp (E := fun _ _ _ _ => False) F O.gd O.rh z2 (O.gl h2) hm hk hb (fun σ pins H s e s' I h => ?_) hs hd (star_plain he) (plain_all h4.2)) fun σ H Q ⟨σd, S, L, er, r, h⟩ => ?_
  · obtain ⟨_, _, _, _, _, _, _, _, _, _, _, _, z⟩ := h
    exact z.elim
  · refine ⟨σd, S, L, er, r, (EndR.bind h).imp fun xs H1 ⟨a, S1, L1, g1, r1, d1, h1'⟩ => ?_⟩
    obtain ⟨y, e1, h2'⟩ := h1'.ofO
    refine ⟨by rw [← d1.length]; exact hl a S1 y e1, w.K.ex, w.K.xn, L1, S1, a, y, ⟨z, z1, rfl, z3, z4, z5⟩, r1, d1, e1, fun v L' H' g' r' dv => ?_⟩
    exact h2' v L' H' g' r' dv
/-! ### built-ins -/
def biV : Bi → Value
  | .len => .builtin "len" | .tuple => .type "tuple" | .list => .type "list" | .all => .builtin "all" | .int => .type "int" | .max2 => .builtin "max" | .min2 => .builtin "min" | .maxl => .builtin "max" | .repr => .builtin "repr" | .str => .type "str" | .sorted => .builtin "sorted"
theorem cl_none {f : Value} {g : List D → Store → Option D} (h : ∀ ds S, g ds S = none) : CallR X f (rCl w W g) := by
  intro pins s σ H xs us Q I r0 ⟨σ', L, S, ds, r, dl, h1⟩
  rw [h] at h1
  exact h1.elim
theorem cl_repr (O : COk w C W c X) : CallR X (.builtin "repr") (rCl w W (biD .repr)) := by
  intro pins s σ H xs us Q I r0 ⟨σ', L, S, ds, r, dl, h1⟩
  obtain ⟨z, e, h⟩ := h1.ofO
  match ds, e, dl with
  | [], e, dl => cases e
  | _ :: _ :: _, e, dl => cases e
  | [d], e, dl =>
    have e : (if reprOk (thaw S d) = true then some (D.str (thaw S d).toPy.shown) else none) = some z := e
    split at e
    · rename_i hk
      cases e
      unfold reprOk at hk
      simp only [Bool.and_eq_true, decide_eq_true_eq] at hk
      obtain ⟨⟨f, sh⟩, sz⟩ := hk
      obtain ⟨v, rfl, dv⟩ := denL1 dl
      obtain ⟨u, rfl, rv⟩ := vals1 r0
      have dp := thaw_dp r dv f
      rw [← O.K] at dp
      obtain ⟨as, rd⟩ := Dp.reads I (thaw S d).toPy v u dp rv
      obtain ⟨cl, dep⟩ := fit_lay (thaw S d) 60 f
      have hd : (thaw S d).toPy.hasDict = false := PyData.hasDict_of_canLay (thaw S d).toPy cl
      have un := O.un
      have q : Q (.str (thaw S d).toPy.shown) H := h.here r den_s
      generalize (thaw S d).toPy = p at rd sh sz dep hd q
      have rd' := rd
      have fin : ∀ h' u tk, (∀ b o, s.heap.get? b = some o → h'.get? b = some o) → EP X pins σ Q (.str p.shown u) { s with heap := h', toks := tk } := fun h' u tk hk => ⟨.str _, H, I.kept (h' := h') (t' := tk) hk, ⟨_, rfl⟩, q⟩
      cases rd' with
      | none => exact PySem.P.repr_of_none ⟨.str _, H, I.tok _, ⟨_, rfl⟩, q⟩
      | bool b => exact PySem.P.repr_of_bool ⟨.str _, H, I.tok _, ⟨_, rfl⟩, q⟩
      | int i t => exact PySem.P.repr_of_int (by simpa [PyData.showable] using sh) ⟨.str _, H, I.tok _, ⟨_, rfl⟩, q⟩
      | str x t => exact PySem.P.repr_of_str ⟨.str _, H, I.tok _, ⟨_, rfl⟩, q⟩ sz
      | _ => exact repr_of_reads' rd sh (fun z => by rw [hd] at z; cases z) O.gd (by omega) (fun _ _ e => e) fin sz
    · cases e
/-! sorted of tuples of one form -/
theorem fitL_mem {k : Nat} : ∀ {l : List D} {d : D}, fitL l k = true → d ∈ l → d.fit k = true
  | e :: l, d, h, m => by
    rw [fitL] at h
    obtain ⟨h1, h2⟩ := Bool.and_eq_true_iff.mp h
    rcases List.mem_cons.mp m with rfl | m
    · exact h1
    · exact fitL_mem h2 m
theorem zip_each {K : KX} {L : List Addr} {H : Hp} : ∀ {l : List D} {ys : List V} {its : List Value}, DenL K L H l ys → Vals ys its → PySem.W.EachIs (fun u (b : D × V) => RelV b.2 u ∧ Den K L H b.1 b.2) its (l.zip ys)
  | [], ys, its, d, v => by
    rw [DenL] at d
    subst d
    cases v
    exact .nil
  | d :: l, ys, its, h, v => by
    rw [DenL] at h
    obtain ⟨y, zs, rfl, h1, h2⟩ := h
    cases v with
    | cons r rs => exact .cons ⟨r, h1⟩ (zip_each h2 rs)
theorem each_vals {K : KX} {L : List Addr} {H : Hp} : ∀ {bs : List (D × V)} {out : List Value}, PySem.W.EachIs (fun u (b : D × V) => RelV b.2 u ∧ Den K L H b.1 b.2) out bs → Vals (bs.map Prod.snd) out ∧ DenL K L H (bs.map Prod.fst) (bs.map Prod.snd)
  | [], _, .nil => ⟨.nil, by rw [List.map_nil, List.map_nil, DenL]⟩
  | b :: bs, _, .cons h t => by
    obtain ⟨h1, h2⟩ := each_vals t
    refine ⟨.cons h.1 h1, ?_⟩
    rw [List.map_cons, List.map_cons, DenL]
    exact ⟨_, _, rfl, h.2, h2⟩
theorem zip_fst : ∀ {l : List D} {ys : List V}, l.length = ys.length → (l.zip ys).map Prod.fst = l
  | [], [], _ => rfl
  | d :: l, y :: ys, h => by
    rw [List.zip_cons_cons, List.map_cons, zip_fst (Nat.succ.inj h)]
theorem cl_sorted (O : COk w C W c X) : CallR X (.builtin "sorted") (rCl w W (biD .sorted)) := by
  intro pins s σ H xs us Q I r0 ⟨σ', L, S, ds, r, dl, h⟩
  obtain ⟨z, e, h0⟩ := h.ofO
  clear h
  match ds, e, dl with
  | [.lst l], e, dl =>
    have e : (if sortOk l = true then some (D.lst (sortD l)) else none) = some z := e
    split at e
    · rename_i hk
      cases e
      unfold sortOk at hk
      simp only [Bool.and_eq_true, decide_eq_true_eq] at hk
      obtain ⟨⟨⟨ht, hal⟩, f⟩, hL⟩ := hk
      obtain ⟨v, rfl, dv⟩ := denL1 dl
      obtain ⟨a, ys, rfl, h1, _, h2⟩ := den_lst dv
      have hs : SqL X.K H a ys := .of h1
      obtain ⟨its, rv, hl, hz⟩ := I.list hs
      rw [Vals.ref1 r0]
      have hlen : l.length = ys.length := h2.length
      have e0 := zip_each h2 rv
      have hf : ∀ b : D × V, b ∈ l.zip ys → b.1 ∈ l := fun b hb => (List.of_mem_zip (a := b.1) (b := b.2) hb).1
      have bl : (l.zip ys).length = l.length := by rw [List.length_zip, hlen, Nat.min_self]
      have er : PySem.W.EachIs (fun v (b : D × V) => ∃ as, Reads s.heap v ((fun b : D × V => b.1.toPy) b) as) its (l.zip ys) := (PySem.W.each_mem e0).mono fun v b ⟨⟨q1, q2⟩, q3⟩ => by
        have dp := den_dp b.1 b.2 59 (fitL_mem f (hf b q3)) q2
        rw [← O.K] at dp
        exact Dp.reads I _ _ _ dp q1
      have al : PySem.W.AllAlike ((l.zip ys).map fun b : D × V => b.1.toPy) := by
        intro d hd d' hd'
        obtain ⟨b, hb, rfl⟩ := List.mem_map.mp hd
        obtain ⟨b', hb', rfl⟩ := List.mem_map.mp hd'
        exact List.all_eq_true.mp (List.all_eq_true.mp hal b.1 (hf b hb)) b'.1 (hf b' hb')
      have so : PySem.W.Sortable ((l.zip ys).map fun b : D × V => b.1.toPy) := .inl fun d hd => by
        obtain ⟨b, hb, rfl⟩ := List.mem_map.mp hd
        have q := List.all_eq_true.mp ht b.1 (hf b hb)
        cases hb1 : b.1 <;> rw [hb1] at q <;> try (cases q; done)
        rename_i m
        cases m with
        | nil => cases q
        | cons x m => exact ⟨x.toPy, toPyL m, by rw [D.toPy, toPyL]⟩
      have un := O.un
      refine PySem.W.sorted_data hl.isList e0 er al so (by rw [bl]; exact hL) (fun b hb => ?_) fun out ho eo => ?_
      · have := (fit_lay b.1 59 (fitL_mem f (hf b hb))).2
        show X.A.units + 2 + b.1.toPy.depth < cLine
        omega
      · obtain ⟨k1, k2⟩ := each_vals eo
        obtain ⟨ep, he'⟩ := PyProof.Rows.sortedAll_at s.heap its out.toArray
        have ef : ((l.zip ys).mergeSort (PySem.W.dataLe false fun b : D × V => b.1.toPy)).map Prod.fst = sortD l := by
          unfold sortD
          have q := PySem.W.sort_maps (r := PySem.W.dataLe false fun b : D × V => b.1.toPy) (s := PySem.W.dataLe false D.toPy) Prod.fst (l := l.zip ys) fun _ _ _ _ => rfl
          rw [q, zip_fst hlen]
        rw [ef] at k2
        have hlen2 : (((l.zip ys).mergeSort (PySem.W.dataLe false fun b : D × V => b.1.toPy)).map Prod.snd).length ≤ sizeLine := by
          rw [List.length_map, List.length_mergeSort, bl]
          exact hL
        exact ⟨.ref _, upd H (s.heap.objs.size + 1) (.lst (((l.zip ys).mergeSort (PySem.W.dataLe false fun b : D × V => b.1.toPy)).map Prod.snd)), I.laid (t' := s.toks) (fun _ _ => PyProof.Rows.sortedAll_old) (Nat.le_succ _) ⟨hlen2, out, ep, k1, he'⟩, rfl, end_lst h0 r k2 (I.hok.fresh (Nat.le_succ _))⟩
    · cases e
theorem calm_of {h b : Bool} (hb : (!h || b) = true) (e : b = false) : h = false := by
  subst e
  cases h
  · rfl
  · cases hb
theorem cl_bi (O : COk w C W c X) (b : Bi) (hb : (!c.hot || b.hot) = true) : CallR X (biV b) (rCl w W (biD b)) := by
  cases b with
  | len => exact cl_len O.K
  | tuple => exact cl_tuple O.K
  | list => exact cl_list O.K
  | all => exact cl_all (O.calm (calm_of hb rfl))
  | int => exact cl_int
  | max2 => exact cl_max2 (O.calm (calm_of hb rfl))
  | min2 => exact cl_min2 (O.calm (calm_of hb rfl))
  | maxl => exact cl_maxl (O.calm (calm_of hb rfl))
  | repr => exact cl_repr O
  | str => exact cl_none fun ds S => by unfold biD; rfl
  | sorted => exact cl_sorted O
theorem tx_cl {g : List D → Store → Option D} {σ : L2.St} {H : Hp} {Q : VK} (h : ED w W (fun σ S => (fs σ S).bind fun xs S => ofO (g xs S) S) σ H Q) : tCB (rCl w W g) (ELs w W fs) σ H Q := by
  obtain ⟨σd, S, L, er, r, h⟩ := h
  refine ⟨σd, S, L, er, r, (EndR.bind h).imp fun xs H1 ⟨a, S1, L1, g1, r1, d1, h1⟩ => ?_⟩
  exact ⟨σ, L1, S1, a, r1, d1, h1⟩
theorem bNames_1 : ∀ x ∈ bNames, x ≠ "__name__" ∧ (x == ("__debug__" : Str)) = false := by decide +kernel
theorem biS_boot (b : Bi) : bootBuiltins (biS b) = some (biV b) := by cases b <;> decide +kernel
theorem g_bi (O : COk w C W c X) {b : Bi} (hb : (!c.hot || b.hot) = true) {x : Str} {e : Expr} {es : List Expr} {p pos : Pos} (h1 : x = biS b) (h2 : isGl c.sc x = true) (h4 : ((e :: es).all fun z => !isStar z) = true) (hs : PA X (e :: es) (ELs w W fs)) :
    PE X (.Call (.Name x p) (e :: es) [] pos) (ED w W fun σ S => (fs σ S).bind fun xs S => ofO (biD b xs S) S) := by
  have hm := O.bl x (h1 ▸ bi_mem b)
  obtain ⟨n1, n2⟩ := bNames_1 x (h1 ▸ bi_mem b)
  have hv := biS_boot b
  rw [← h1] at hv
  rw [List.all_cons, Bool.and_eq_true_iff] at h4
  have he : isStar e = false := by simpa using h4.1
  have hc := cl_bi O b hb
  cases b <;> first
    | exact PE_imp (pe_callB hc (O.gl h2) hm hv hs n1 n2 (star_plain he) (plain_all h4.2)) fun _ _ _ h => tx_cl h
    | exact PE_imp (pe_callTy hc (O.gl h2) hm hv hs n1 n2 (star_plain he) (plain_all h4.2)) fun _ _ _ h => tx_cl h
/-! ### isinstance -/
theorem tyS_boot (t : Ty) : bootBuiltins (tyS t) = some (.type (tyN t)) := by cases t <;> decide +kernel
theorem isi_boot : bootBuiltins "isinstance" = some (.builtin "isinstance") := by decide +kernel
theorem g_isi (O : COk w C W c X) {t : Ty} {f y : Str} {e : Expr} {p p2 pos : Pos} (h1 : f = ("isinstance" : Str)) (h2 : isGl c.sc f = true) (h3 : y = tyS t) (h4 : isGl c.sc y = true) (he : isStar e = false) (ha : PE X e (ED w W fa)) :
    PE X (.Call (.Name f p) [e, .Name y p2] [] pos) (ED w W fun σ S => (fa σ S).bind fun x S => ofO ((isiD x t).map .bl) S) := by
  subst h1
  have hm := O.bl "isinstance" (by decide +kernel)
  have hy := O.bl y (h3 ▸ ty_mem t)
  obtain ⟨n1, n2⟩ := bNames_1 y (h3 ▸ ty_mem t)
  have hb := tyS_boot t
  rw [← h3] at hb
  have hT : PE X (.Name y p2) (tC (.ty (tyN t))) := pe_bltn (O.gl h4) hy hb rfl n1 n2
  refine PE_imp (pe_callB call_isi (O.gl h2) hm isi_boot (pa_cons ha (pa_cons hT pa_nil (by rfl)) (star_plain he)) (by decide) (by decide) (star_plain he) (by rfl)) fun σ H Q ⟨σd, S, L, er, r, h⟩ => ?_
  refine ⟨σd, S, L, er, r, (EndR.bind h).imp fun x H1 ⟨a, S1, L1, g1, r1, d1, h1⟩ => ?_⟩
  obtain ⟨z, e0, h0⟩ := h1.ofO
  obtain ⟨k, e1, rfl⟩ := ofC e0
  obtain ⟨T, ty, kk⟩ := isi_den d1 e1
  exact ⟨x, .ty (tyN t), .type T, .type (tyN t), k, rfl, .ty _, by rw [O.K]; exact ty, by rw [O.K]; exact kk, h0.here r1 den_b⟩
/-! ### methods of lists -/
def rMt (w : Xd) (W : WX) (m : Mt) : V → List V → Hp → VK → Prop := fun x vs H Q => ∃ σ L S d ds, Rel w.K L H S ∧ Den w.K L H d x ∧ DenL w.K L H ds vs ∧ EndR w (rD w) W σ L H Q (match mtD m d ds S with
    | some (r, S') => Out.ok r S'
    | none => .bad)
theorem end_write (hx : w.K.xn = none) {σ : L2.St} {L : List Addr} {H : Hp} {S : Store} {Q : VK} {i : Nat} {p : Addr} {l : List D} {xs : List V} {d : D} {v : V} (h : EndR w (rD w) W σ L H Q (.ok d (S.set i (.lst l)))) (r : Rel w.K L H S) (hp : L[i]? = some p) (lo : loL i l = true) (dl : DenL w.K L H l xs) (dv : Den w.K L H d v) : Q v (upd H p (.lst xs)) := by
  have g : Gr L H L (upd H p (.lst xs)) := Gr.write (List.mem_of_getElem? hp)
  exact h v L _ g (r.write hp (MOk.of_lst ⟨lo, xs, upd_same, dl.grow g⟩) (dl.noX_ hx l xs)) (Den.grow g _ _ dv)
theorem loL_append {n : Nat} : ∀ {l m : List D}, loL n l = true → loL n m = true → loL n (l ++ m) = true
  | [], m, _, h => h
  | d :: l, m, h, k => by
    rw [loL, Bool.and_eq_true_iff] at h
    rw [List.cons_append, loL, h.1, loL_append h.2 k]
    rfl
theorem loL_erase {n : Nat} : ∀ {l : List D} (i : Nat), loL n l = true → loL n (l.eraseIdx i) = true
  | [], i, h => h
  | d :: l, 0, h => by
    rw [loL, Bool.and_eq_true_iff] at h
    exact h.2
  | d :: l, i + 1, h => by
    rw [loL, Bool.and_eq_true_iff] at h
    rw [List.eraseIdx_cons_succ, loL, h.1, loL_erase i h.2]
    rfl
theorem loL_set {n : Nat} {e : D} (he : e.lo n = true) : ∀ {l : List D} (i : Nat), loL n l = true → loL n (l.set i e) = true
  | [], i, h => h
  | d :: l, 0, h => by
    rw [loL, Bool.and_eq_true_iff] at h
    rw [List.set_cons_zero, loL, he, h.2]
    rfl
  | d :: l, i + 1, h => by
    rw [loL, Bool.and_eq_true_iff] at h
    rw [List.set_cons_succ, loL, h.1, loL_set he i h.2]
    rfl
theorem DenL.erase {K : KX} {L : List Addr} {H : Hp} : ∀ {ds : List D} {xs : List V} (n : Nat), DenL K L H ds xs → DenL K L H (ds.eraseIdx n) (xs.eraseIdx n)
  | [], xs, n, h => by
    rw [DenL] at h
    subst h
    exact DenL.nil
  | d :: ds, xs, 0, h => by
    rw [DenL] at h
    obtain ⟨y, ys, rfl, r, rs⟩ := h
    exact rs
  | d :: ds, xs, n + 1, h => by
    rw [DenL] at h
    obtain ⟨y, ys, rfl, r, rs⟩ := h
    exact DenL.cons r (DenL.erase n rs)
theorem mt_d_append (hx : w.K.xn = none) : MtM X "list.append" (rMt w W .append) := by
  intro pins s σ H x xs v us Q I rx r0 ⟨σ', L, S, d, ds, r, dd, dl, h⟩
  match d, ds, h, dd, dl with
  | .obj i, [y], h, dd, dl =>
    obtain ⟨z, rfl, dz⟩ := denL1 dl
    cases q : S[i]? with
    | none => simp only [mtD, q] at h; exact h.elim
    | some mo =>
      cases mo with
      | dct l => simp only [mtD, q] at h; exact h.elim
      | box k l => simp only [mtD, q] at h; exact h.elim
      | lst l =>
        simp only [mtD, q] at h
        split at h
        · rename_i e
          split at e
          · rename_i hc
            cases e
            obtain ⟨p, ys, rfl, hp, h1, h2, lo⟩ := r.obj dd q
            exact mt_append pins s σ H _ _ v us Q I rx r0 ⟨p, ys, z, rfl, rfl, h1, by rw [← h2.length]; exact hc.2, end_write hx h r hp (loL_append lo (by rw [loL, hc.1]; rfl)) (h2.append (DenL.one dz)) den_n⟩
          · cases e
        · exact h.elim
theorem mt_d_extend (hx : w.K.xn = none) : MtM X "list.extend" (rMt w W .extend) := by
  intro pins s σ H x xs v us Q I rx r0 ⟨σ', L, S, d, ds, r, dd, dl, h⟩
  match d, ds, h, dd, dl with
  | .obj i, [.lst m], h, dd, dl =>
    obtain ⟨z, rfl, dz⟩ := denL1 dl
    obtain ⟨pz, zs, rfl, hz1, _, hz2⟩ := den_lst dz
    cases q : S[i]? with
    | none => simp only [mtD, q] at h; exact h.elim
    | some mo =>
      cases mo with
      | dct l => simp only [mtD, q] at h; exact h.elim
      | box k l => simp only [mtD, q] at h; exact h.elim
      | lst l =>
        simp only [mtD, q] at h
        split at h
        · rename_i e
          split at e
          · rename_i hc
            cases e
            obtain ⟨p, ys, rfl, hp, h1, h2, lo⟩ := r.obj dd q
            exact mt_extend pins s σ H _ _ v us Q I rx r0 ⟨p, pz, ys, zs, rfl, rfl, h1, hz1, by rw [← h2.length, ← hz2.length]; exact hc.2, end_write hx h r hp (loL_append lo hc.1) (h2.append hz2) den_n⟩
          · cases e
        · exact h.elim
theorem mt_d_popAt (hx : w.K.xn = none) : MtM X "list.pop" (rMt w W .popAt) := by
  intro pins s σ H x xs v us Q I rx r0 ⟨σ', L, S, d, ds, r, dd, dl, h⟩
  match d, ds, h, dd, dl with
  | .obj i, [.int k], h, dd, dl =>
    obtain ⟨z, rfl, dz⟩ := denL1 dl
    cases of_i dz
    cases q : S[i]? with
    | none => simp only [mtD, q] at h; exact h.elim
    | some mo =>
      cases mo with
      | dct l => simp only [mtD, q] at h; exact h.elim
      | box k l => simp only [mtD, q] at h; exact h.elim
      | lst l =>
        simp only [mtD, q] at h
        cases q2 : seqIndex? k l.length with
        | none => simp only [q2] at h; exact h.elim
        | some j =>
          simp only [q2] at h
          cases q3 : l[j]? with
          | none => simp only [q3] at h; exact h.elim
          | some y =>
            simp only [q3] at h
            split at h
            · rename_i e
              split at e
              · rename_i hc
                cases e
                obtain ⟨p, ys, rfl, hp, h1, h2, lo⟩ := r.obj dd q
                obtain ⟨yv, hy, dy⟩ := h2.get q3
                exact mt_popAt pins s σ H _ _ v us Q I rx r0 ⟨p, ys, k, j, yv, rfl, rfl, h1, hc.1, hc.2, by rw [← h2.length]; exact q2, hy, end_write hx h r hp (loL_erase j lo) (h2.erase j) dy⟩
              · cases e
            · exact h.elim
end
end Rs

namespace Rs
open PySem PySem.Spec PyProof.Rows L2
/-! ### isinstance of the exception that is handled -/
theorem kit_of_exm {K : PySem.W.Frag} {t c : Value} {b : Bool} (h : PySem.W.exmOne K t c = some b) (e : t = c → b = true) : PySem.W.kitOne K t c = some b := by
  unfold PySem.W.exmOne at h
  split at h
  · unfold PySem.W.kitOne
    by_cases q : (t == c) = true
    · rw [if_pos q, e (eq_of_beq q)]
    · rw [if_neg q]
      exact h
  · cases h
/-- an exception and its dict, if it has one -/
theorem exc_inst {P : Program} {w : World} {H : Hp} {h : Heap} {a C : Addr} {od : Option Addr} {oe : Obj} {vs : Array Value} {fs : List (Str × V)} (ok : HOk P w H h) (ha : h.get? a = some oe) (z : Zc (.ref C) od oe) (hv : oe.data = .fields vs) (hd : ∀ d, od = some d → H d = some (.xd fs)) :
    ∃ o, PySem.W.InstAt h a oe C o := by
  have n : PySem.W.notCls oe = true := by
    unfold PySem.W.notCls
    rw [hv]
  cases od with
  | none => exact ⟨none, ha, z.1, n, by rw [z.2]; trivial⟩
  | some d =>
    obtain ⟨mA, hns, _⟩ := (ok d _ (hd d rfl) : ObjOk P w H h d (.xd fs))
    obtain ⟨o, ho, _⟩ := lookIn_ns hns
    exact ⟨some o, ha, z.1, n, by rw [z.2]; exact ho⟩
section
variable {w : Xd} {C : CallT} {W : WX} {c : Cc} {X : Cx} {fa : Env → Store → Out D}
theorem call_isX (O : COk w C W c X) (hh : c.hot = true) (ht : c.th = false) (hs : c.xs = true) : CallR X (.builtin "isinstance") (fun xs H Q => ∃ (x cv : V) (u : Value) (L : List Addr) (j : Nat) (l : List D) (b : Bool), xs = [x, cv] ∧ Den w.K L H (.exn j l) x ∧ (∀ z, RelV cv z → z = u) ∧
    PySem.W.kitOne X.K (w.xc j) u = some b ∧ Q (.bl b) H) := by
  intro pins s σ H xs us Q I r ⟨x, cv, u, L, j, l, b, e1, dx, hu, hk, q⟩
  subst e1
  obtain ⟨z0, oe, hxn, hp, hz, ⟨vs, hv⟩, hk16⟩ := (O.hx hh ht).at_
  obtain ⟨z1, ys, rfl, ⟨hx2, e2⟩, dl, hd⟩ := den_exn dx
  rw [hxn] at hx2
  have e3 := Option.some.inj hx2
  subst e3
  subst e2
  cases r with
  | cons rx r =>
    cases r with
    | cons rc r =>
      cases r
      cases rx
      have eu := hu _ rc
      subst eu
      obtain ⟨D0, eD, _, ⟨K1, K2⟩, _⟩ := (O.xf hs).own z0.c hk16
      rw [eD] at hz hk
      have hget := (I.pin (z0.a, oe) (List.mem_append_left _ hp)).1
      obtain ⟨o, J⟩ := exc_inst (fs := (nmX z0.c).zip ys) I.hok hget hz hv (fun d e => by
        rcases hd with ⟨z, _⟩ | ⟨d', o', z, h, eo, _⟩
        · rw [e] at z; cases z
        · rw [e] at z
          cases z
          unfold ExO at eo
          rw [if_neg (by omega)] at eo
          rw [← eo]
          exact h)
      obtain ⟨cdD, hcD, _⟩ := PySem.W.any_some K1.hd
      exact PySem.W.kia_one (PySem.W.kitx_exc (by rw [hcD]; rfl) K1.hg K1.hk K1.hs K1.ha K1.hn K1.ht K1.hm) I.kIn J hk (fun z => nomatch z) fun tk => ⟨.bl b, H, I.kept (t' := tk) fun _ _ z => z, rfl, q⟩
theorem g_isx (O : COk w C W c X) (hh : c.hot = true) (ht : c.th = false) (hs : c.xs = true) {k : Nat} {f y : Str} {e : Expr} {p p2 pos : Pos} (h1 : f = ("isinstance" : Str)) (h2 : isGl c.sc f = true) (hk : k < 17) (h3 : y = excS k) (h4 : isGl c.sc y = true) (he : isStar e = false) (ha : PE X e (ED w W fa)) :
    PE X (.Call (.Name f p) [e, .Name y p2] [] pos) (ED w W fun σ S => (fa σ S).bind fun x S => match x with
      | .exn j _ => .ok (.bl (subX j k)) S
      | _ => .bad) := by
  subst h1
  have hm := O.bl "isinstance" (by decide +kernel)
  have F := O.xf hs
  -- the class
  obtain ⟨cv, u, hT, hu, hk2⟩ : ∃ (cv : V) (u : Value), PE X (.Name y p2) (tC cv) ∧ (∀ z, RelV cv z → z = u) ∧ ∀ j, j < 16 → PySem.W.kitOne X.K (w.xc j) u = some (subX j k) := by
    by_cases h16 : k = 16
    · subst h16
      subst h3
      refine ⟨.ty "ValueError", .type "ValueError", pe_bltn (O.gl h4) F.ve (show bootBuiltins "ValueError" = some (.type "ValueError") by decide +kernel) rfl (by decide) (by decide), fun z hz => hz, fun j hj => ?_⟩
      have : subX j 16 = true := by simp [subX]
      rw [this]
      exact kit_of_exm (F.exv j hj) fun _ => rfl
    · have hk16 : k < 16 := by omega
      obtain ⟨Ck, e1, e2, _, _⟩ := F.own k hk16
      have dbg : (y == ("__debug__" : Str)) = false := by
        rw [h3]
        have : ∀ k, k < 16 → (excS k == ("__debug__" : Str)) = false := by decide +kernel
        exact this k hk16
      refine ⟨.ref Ck, .ref Ck, pe_glob (O.gl h4) (by rw [h3]; exact e2) rfl dbg, fun z hz => hz, fun j hj => ?_⟩
      have q := F.exm j k hj hk16
      rw [e1] at q
      refine kit_of_exm q fun z => ?_
      have q2 := F.exm j j hj hj
      rw [z] at q2 q
      rw [q] at q2
      have := Option.some.inj q2
      rw [this]
      simp [subX]
  refine PE_imp (pe_callB (call_isX O hh ht hs) (O.gl h2) hm isi_boot (pa_cons ha (pa_cons hT pa_nil (by rfl)) (star_plain he)) (by decide) (by decide) (star_plain he) (by rfl)) fun σ H Q ⟨σd, S, L, er, r, h⟩ => ?_
  refine ⟨σd, S, L, er, r, (EndR.bind h).imp fun x H1 ⟨a, S1, L1, g1, r1, d1, h1⟩ => ?_⟩
  cases a with
  | exn j l =>
    have d1 : Den w.K L1 H1 (.exn j l) x := d1
    obtain ⟨z0, oe, hxn, hp, hz, _, hk16⟩ := (O.hx hh ht).at_
    obtain ⟨z1, _, _, ⟨hx2, e2⟩, _⟩ := den_exn d1
    rw [hxn] at hx2
    have e3 := Option.some.inj hx2
    subst e3
    subst e2
    exact ⟨x, cv, u, L1, z0.c, l, subX z0.c k, rfl, d1, hu, hk2 z0.c hk16, h1.here r1 den_b⟩
  | _ => exact h1.elim
/-- a field of it -/
theorem zip_look {K : KX} {L : List Addr} {H : Hp} {f : Str} {z : D} : ∀ {ns : List Str} {l : List D} {xs : List V}, DenL K L H l xs → (ns.zip l).lookup f = some z → ∃ v, (ns.zip xs).lookup f = some v ∧ Den K L H z v
  | [], l, xs, d, h => by simp at h
  | n :: ns, [], xs, d, h => by simp at h
  | n :: ns, y :: l, xs, d, h => by
    rw [DenL] at d
    obtain ⟨v, ys, rfl, d1, d2⟩ := d
    rw [List.zip_cons_cons, List.lookup_cons] at h ⊢
    split at h
    · cases h
      exact ⟨v, rfl, d1⟩
    · exact zip_look d2 h
theorem g_xfld (O : COk w C W c X) (hh : c.hot = true) (ht : c.th = false) (hs : c.xs = true) {f : Str} {x : Str} {p pos : Pos} (hf : xfN f = true) (ha : PE X (.Name x p) (ED w W fa)) :
    PE X (.Attribute (.Name x p) f pos) (ED w W fun σ S => (fa σ S).bind fun x S => match x with
      | .exn k l => ofO (fldD (nmX k) l f) S
      | _ => .bad) := by
  refine ⟨fun pins s σ H Q I ⟨σd, S, L, er, r, h⟩ => ?_⟩
  refine attr_of (by rfl) (thn (ha.run pins s σ H (fun x H1 => ∃ L1 S1 k l z, Rel w.K L1 H1 S1 ∧ Den w.K L1 H1 (.exn k l) x ∧ fldD (nmX k) l f = some z ∧ EndR w (rD w) W σ L1 H1 Q (.ok z S1)) I ⟨σd, S, L, er, r, (EndR.bind h).imp fun x H1 ⟨a, S1, L1, g1, r1, d1, h1⟩ => ?_⟩) fun u s1 ⟨x1, H1, I1, rx, L1, S1, k, l, z, r1, d1, hz0, h1⟩ => ?_)
  · cases a with
    | exn k l =>
      obtain ⟨z, e0, h0⟩ := h1.ofO
      exact ⟨L1, S1, k, l, z, r1, d1, e0, h0⟩
    | _ => exact h1.elim
  obtain ⟨z0, oe, hxn, hp, hz, ⟨vs, hv⟩, hk16⟩ := (O.hx hh ht).at_
  obtain ⟨z1, ys, rfl, ⟨hx2, e2⟩, dl, hd⟩ := den_exn d1
  rw [hxn] at hx2
  have e3 := Option.some.inj hx2
  subst e3
  subst e2
  cases rx
  obtain ⟨D0, eD, _, ⟨K1, K2⟩, K3⟩ := (O.xf hs).own z0.c hk16
  rw [eD] at hz
  have hget := (I1.pin (z0.a, oe) (List.mem_append_left _ hp)).1
  unfold fldD at hz0
  obtain ⟨v, hv2, dv⟩ := zip_look dl hz0
  rcases hd with ⟨_, z⟩ | ⟨d, o', e1, e2, eo, _⟩
  · subst z
    simp at hz0
  · unfold ExO at eo
    rw [if_neg (by omega)] at eo
    subst eo
    rw [e1] at hz
    obtain ⟨mA, hns, hr⟩ := (I1.hok d _ e2 : ObjOk X.prog X.w H1 s1.heap d (.xd _))
    obtain ⟨o, ho, hl⟩ := lookIn_ns hns
    obtain ⟨u, hu, ru⟩ := RelO.some_of (v := v) (o := mA f) (by rw [← hv2]; exact hr f)
    have J : PySem.W.InstAt s1.heap z0.a oe D0 (some o) := ⟨hget, hz.1, by unfold PySem.W.notCls; rw [hv], by rw [hz.2]; exact ho⟩
    exact HandSPX.exc_get I1.kIn J K2.ga K2.gg K2.exC (PySem.W.findObj_own K2.hdC (K3 f hf) rfl (by rw [hl, hu])) (handed_of ru) ⟨v, H1, I1.tok _, ru, h1.here r1 dv⟩
/-! ### count and index of True -/
theorem den_bls {K : KX} {L : List Addr} {H : Hp} : ∀ {l : List D} {xs : List V}, DenL K L H l xs → l.all isBl = true → xs = l.map fun d => V.bl (isTr d)
  | [], xs, d, h => by
    rw [DenL] at d
    exact d
  | y :: l, xs, d, h => by
    rw [DenL] at d
    obtain ⟨v, ys, rfl, d1, d2⟩ := d
    rw [List.all_cons, Bool.and_eq_true] at h
    cases y with
    | bl b =>
      rw [of_b d1, den_bls d2 h.2]
      rfl
    | _ => simp [isBl] at h
theorem vals_bls {h : Heap} : ∀ {l : List D} {us : List Value}, Vals (l.map fun d => V.bl (isTr d)) us → us = l.map fun d => Value.bool (isTr d)
  | [], us, r => by cases r; rfl
  | d :: l, us, r => by
    cases r with
    | cons r1 r2 =>
      cases r1
      rw [vals_bls (h := h) r2]
      rfl
theorem reads_bls {h : Heap} : ∀ l : List D, ∃ as, ReadsAll h (l.map fun d => Value.bool (isTr d)) (l.map fun d => PyData.bool (isTr d)) as
  | [] => ⟨_, .nil⟩
  | d :: l => by
    obtain ⟨as, r⟩ := reads_bls (h := h) l
    exact ⟨_, .cons (.bool _) r⟩
theorem count_bls : ∀ l : List D, PySem.Spec.countIn (.bool true) (l.map fun d => PyData.bool (isTr d)) = (l.countP isTr : Nat)
  | [] => rfl
  | d :: l => by
    rw [List.map_cons, PySem.Spec.countIn, count_bls l, List.countP_cons]
    cases h : isTr d <;> simp [PySem.Spec.same] <;> omega
theorem mt_countT : MtR X "list.count" (fun x xs H Q => ∃ (p : Addr) (l : List D), x = .ref p ∧ xs = [.bl true] ∧ SqL X.K H p (l.map fun d => V.bl (isTr d)) ∧ Q (.int (l.countP isTr : Nat)) H) := by
  intro pins s σ H x xs v us Q I rx rxs ⟨p, l, e1, e2, hs, q⟩
  subst e1
  subst e2
  cases rx
  obtain ⟨u, e3, ru⟩ := rxs.one
  subst e3
  cases ru
  obtain ⟨its, rv, hl, _⟩ := I.list hs
  have e := vals_bls (h := s.heap) rv
  subst e
  obtain ⟨o, n, ho, hc, _, hd⟩ := hl
  obtain ⟨as, ra⟩ := reads_bls (h := s.heap) l
  refine count_list_bools (k := true) ⟨o, ho, hc, n, hd⟩ ra (by simp [List.all_eq_true, Shape.has]) ?_
  rw [count_bls]
  exact ⟨.int (l.countP isTr : Nat), H, I.tok _, ⟨_, rfl⟩, q⟩
theorem findIdx_spec : ∀ {l : List D} {j : Nat}, l.any isTr = true → l.findIdx isTr = j → (∃ d, l[j]? = some d ∧ isTr d = true) ∧ ∀ m d, m < j → l[m]? = some d → isTr d = false
  | [], j, h, e => by cases h
  | a :: l, j, h, e => by
    rw [List.findIdx_cons] at e
    cases q : isTr a with
    | true =>
      rw [q] at e
      simp at e
      subst e
      exact ⟨⟨a, rfl, q⟩, fun m d hm => absurd hm (Nat.not_lt_zero _)⟩
    | false =>
      rw [q] at e
      simp at e
      rw [List.any_cons, q, Bool.false_or] at h
      obtain ⟨⟨d, h1, h2⟩, h3⟩ := findIdx_spec (j := l.findIdx isTr) h rfl
      subst e
      refine ⟨⟨d, by simpa using h1, h2⟩, fun m d' hm hd => ?_⟩
      cases m with
      | zero =>
        simp at hd
        rw [← hd]
        exact q
      | succ m => exact h3 m d' (by omega) (by simpa using hd)
theorem g_tru (O : COk w C W c X) {ix : Bool} {nm o : Str} {apos cpos opos p1 : Pos} {i1 : Nat} (h1 : nm = if ix = true then ("index" : Str) else ("count" : Str)) (h2 : apos.endLine = cpos.line) (ho : PE X (.Name o opos) (ED w W fa)) :
    PE X (.Call (.Attribute (.Name o opos) nm apos) [.Constant (.bool true) i1 p1] [] cpos) (ED w W fun σ S => (fa σ S).bind fun x S => ofO (truD ix x) S) := by
  have hl : (apos.endLine == cpos.line) = true := by rw [h2]; simp
  have go : ∀ (r : V → List V → Hp → VK → Prop) σ H Q, (∀ x p (l : List D) L H1 S1 (z : D), x = V.ref p → l.all isBl = true → Rel w.K L H1 S1 → SqL X.K H1 p (l.map fun d => V.bl (isTr d)) → truD ix (.lst l) = some z → EndR w (rD w) W σ L H1 Q (.ok z S1) → r x [.bl true] H1 Q) →
      ED w W (fun σ S => (fa σ S).bind fun x S => ofO (truD ix x) S) σ H Q → tBM X.K "list" r (ED w W fa) (tCons (tC (.bl true)) tNil) σ H Q := by
    intro r σ H Q hr ⟨σd, S, L, er, r0, h⟩
    refine ⟨σd, S, L, er, r0, (EndR.bind h).imp fun x H1 ⟨a, S1, L1, g1, r1, d1, h1⟩ => ?_⟩
    obtain ⟨z, e0, h0⟩ := h1.ofO
    cases a with
    | lst l =>
      obtain ⟨p, xs, e, e1, _, e2⟩ := den_lst d1
      subst e
      have hb : l.all isBl = true := by
        unfold truD at e0
        dsimp only at e0
        split at e0
        · rename_i q
          exact q.1
        · cases e0
      have ex := den_bls e2 hb
      rw [ex] at e1
      have hs : SqL X.K H1 p (l.map fun d => V.bl (isTr d)) := .of e1
      exact ⟨.inl ⟨rfl, _, hs⟩, hr _ p l L1 H1 S1 z rfl hb r1 hs e0 h0⟩
    | _ => cases e0
  subst h1
  cases ix with
  | true =>
    refine PE_imp (pe_bm PySem.F.plainAttrs_list PySem.F.slot_list_index PySem.F.type_list_index mt_index ho (pa_cons pe_bl pa_nil) rfl rfl hl) fun σ H Q h => go _ σ H Q (fun x p l L H1 S1 z ex hb r1 hs e0 h0 => ?_) h
    unfold truD at e0
    dsimp only at e0
    split at e0
    · rw [if_pos rfl] at e0
      split at e0
      · rename_i ha
        cases e0
        obtain ⟨⟨d, k1, k2⟩, k3⟩ := findIdx_spec (j := l.findIdx isTr) ha rfl
        refine ⟨p, _, .bl true, l.findIdx isTr, .bl true, ex, rfl, hs, rfl, ?_, ?_, rfl, ?_, h0.here r1 den_i⟩
        · simp [List.all_eq_true, flatV]
        · rw [List.getElem?_map, k1, Option.map_some, k2]
        · intro m z' hm hz
          rw [List.getElem?_map] at hz
          cases q : l[m]? with
          | none => rw [q] at hz; cases hz
          | some d' =>
            rw [q] at hz
            cases hz
            dsimp only
            rw [k3 m d' hm q]
            rfl
      · cases e0
    · cases e0
  | false =>
    refine PE_imp (pe_bm PySem.F.plainAttrs_list PySem.F.slot_list_count PySem.F.type_list_count mt_countT ho (pa_cons pe_bl pa_nil) rfl rfl hl) fun σ H Q h => go _ σ H Q (fun x p l L H1 S1 z ex hb r1 hs e0 h0 => ?_) h
    unfold truD at e0
    dsimp only at e0
    split at e0
    · rw [if_neg Bool.false_ne_true] at e0
      cases e0
      exact ⟨p, l, ex, rfl, hs, h0.here r1 den_i⟩
    · cases e0
theorem ev_isx_f {a : QE} {k : Nat} : ev C (.isx a k) = fun σ S => (ev C a σ S).bind fun x S => match x with
      | .exn j _ => .ok (.bl (subX j k)) S
      | _ => .bad := by
  funext σ S
  first | (rw [ev]; done) | (rw [ev]; rfl)
theorem ev_fld_f {a : QE} {f : Str} : ev C (.fld a f) = fun σ S => (ev C a σ S).bind fun x S => match x with
      | .exn k l => ofO (fldD (nmX k) l f) S
      | _ => .bad := by
  funext σ S
  first | (rw [ev]; done) | (rw [ev]; rfl)
theorem ev_tru_f {a : QE} {ix : Bool} : ev C (.tru ix a) = fun σ S => (ev C a σ S).bind fun x S => ofO (truD ix x) S := by
  funext σ S
  first | (rw [ev]; done) | (rw [ev]; rfl)
end
end Rs

namespace Rs
open PySem PySem.Spec PyProof.Rows L2
section
variable {w : Xd} {C : CallT} {W : WX} {c : Cc} {X : Cx} {fa fb fc : Env → Store → Out D} {fs : Env → Store → Out (List D)}
theorem mtOk_ty {m : Mt} (hm : mtIn m = true) {L : List Addr} {H : Hp} {S : Store} {d : D} {v : V} (r : Rel w.K L H S) (h : mtOk m d S = true) (hd : Den w.K L H d v) : tyV w.K.K "list" v H := by
  cases d with
  | obj i =>
    have h' : (match S[i]? with
      | some (.lst _) => true
      | _ => false) = true := by cases m <;> first | exact h | cases hm
    split at h'
    · rename_i l q
      obtain ⟨p, xs, rfl, _, h1, _⟩ := r.obj hd q
      exact .inl ⟨rfl, xs, .of h1⟩
    · cases h'
  | _ => cases m <;> first | (cases h; done) | cases hm
theorem g_mth (O : COk w C W c X) (hh : c.hot = false) {m : Mt} {nm : Str} {i : Nat} {o : Str} {e : Expr} {es : List Expr} {apos cpos opos : Pos} (hm : mtIn m = true) (h1 : nm = mtS m) (h2 : apos.endLine = cpos.line) (h3 : es.length < 20) (h4 : ((e :: es).all fun z => !isStar z) = true)
    (ho : PE X (.Name o opos) (ED w W fa)) (hs : PA X (e :: es) (ELs w W fs)) :
    PE X (.Call (.Attribute (.Name o opos) nm apos) (e :: es) [] cpos) (ED w W fun σ S => (fa σ S).bind fun x S => if mtOk m x S = true then (fs σ S).bind fun xs S => match mtD m x xs S with
    | some (d, S) => .ok d S
    | none => .bad else .bad) := by
  have hall : (backTo cpos (starEach (e :: es) X.env)).all (fun x => !x.1) = true := by
    rw [List.all_eq_not_any_not]
    have := plain_all (env := X.env) (pos := cpos) h4
    simp only [Bool.not_not]
    rw [this]
    rfl
  have hlen : decide ((e :: es).length + ([] : List Keyword).length + (if ([] : List Keyword).isEmpty then 0 else 1) < 30) = true := decide_eq_true (by
    show es.length + 1 + 0 + 0 < 30
    omega)
  have hfew : ((backTo cpos (starEach (e :: es) X.env)).all (fun x => !x.1) && (backToKw cpos (keywordEach [] X.env)).all (fun x => x.1.isSome)
      && decide ((e :: es).length + ([] : List Keyword).length + (if ([] : List Keyword).isEmpty then 0 else 1) < 30)) = true := by
    rw [hall, hlen]
    rfl
  have h4' := h4
  rw [List.all_cons, Bool.and_eq_true_iff] at h4'
  have he : isStar e = false := by simpa using h4'.1
  have hl : (apos.endLine == cpos.line) = true := by rw [h2]; simp
  have main : ∀ σ H Q, ED w W (fun σ S => (fa σ S).bind fun x S => if mtOk m x S = true then (fs σ S).bind fun xs S => match mtD m x xs S with
    | some (d, S) => .ok d S
    | none => .bad else .bad) σ H Q → tBM X.K "list" (rMt w W m) (ED w W fa) (ELs w W fs) σ H Q := by
    intro σ H Q ⟨σd, S, L, er, r, h⟩
    refine ⟨σd, S, L, er, r, (EndR.bind h).imp fun x H1 ⟨a, S1, L1, g1, r1, d1, h1⟩ => ?_⟩
    split at h1
    · rename_i hk
      refine ⟨by rw [O.K]; exact mtOk_ty hm r1 hk d1, σd, S1, L1, er.grow g1, r1, (EndR.bind h1).imp fun xs H2 ⟨as, S2, L2, g2, r2, d2, h2⟩ => ?_⟩
      exact ⟨σ, L2, S2, a, as, r2, Den.grow g2 _ _ d1, d2, h2⟩
    · exact h1.elim
  subst h1
  cases m with
  | append => exact PE_imp (pe_bm PySem.F.plainAttrs_list PySem.F.slot_list_append PySem.F.type_list_append (mt_d_append (O.xn hh)) ho hs rfl hfew hl (star_plain he) (plain_all h4'.2)) main
  | extend => exact PE_imp (pe_bm PySem.F.plainAttrs_list PySem.F.slot_list_extend PySem.F.type_list_extend (mt_d_extend (O.xn hh)) ho hs rfl hfew hl (star_plain he) (plain_all h4'.2)) main
  | popAt => exact PE_imp (pe_bm PySem.F.plainAttrs_list PySem.F.slot_list_pop PySem.F.type_list_pop (mt_d_popAt (O.xn hh)) ho hs rfl hfew hl (star_plain he) (plain_all h4'.2)) main
  | _ => cases hm
/-! ### what is walked -/
/-- J gives xs, one after another, while what stood stands -/
structure Wk (K : KX) (J : It) (xs : List D) (L0 : List Addr) (H0 : Hp) : Prop where
  goes : ∀ i L H, i < xs.length → Gr L0 H0 L H → J.go i H
  stops : ∀ L H, Gr L0 H0 L H → J.stop xs.length H
  yields : ∀ i d L H S x H' ex, (∀ p ∈ ex, p ∈ K.ex ∨ H0 p = none) → xs[i]? = some d → Gr L0 H0 L H → Rel { K with ex := ex } L H S → J.yld i H x H' → (∀ a o, H a = some o → H' a = some o) ∧ Gr L H L H' ∧ Rel { K with ex := ex } L H' S ∧ Den { K with ex := ex } L H' d x
abbrev rW (w : Xd) : List Addr → Hp → List D → It → Prop := fun L H xs J => Wk w.K J xs L H
abbrev EI (w : Xd) (W : WX) (f : Env → Store → Out (List D)) : TI := TX w (rW w) W f
theorem wk_list {K : KX} {a : Addr} {xs : List V} {l : List D} {L : List Addr} {H : Hp} (h : H a = some (.lst xs)) (n : Free K L a) (d : DenL K L H l xs) : Wk K (Itl K.K a) l L H := by
  have key : ∀ L' H', Gr L H L' H' → SqL K.K H' a xs := fun L' H' g => .of (g.to n.1 h)
  refine ⟨fun i L' H' hi g => ?_, fun L' H' g => ⟨xs, key L' H' g, by rw [d.length]; exact Nat.le_refl _⟩, fun i e L' H' S x H2 ex hx hi g r y => ?_⟩
  · have hi' : i < xs.length := by rw [← d.length]; exact hi
    exact ⟨xs, xs[i], key L' H' g, by simp [hi']⟩
  · obtain ⟨rfl, y⟩ := y
    obtain ⟨v, e1, dv⟩ := d.get hi
    have := y xs (key _ _ g)
    rw [e1] at this
    cases this
    exact ⟨fun _ _ e => e, Gr.refl, r, Den.grow g _ _ (dv.sub hx)⟩
theorem wk_tup {K : KX} {a : Addr} {xs : List V} {l : List D} {L : List Addr} {H : Hp} (h : H a = some (.tup xs)) (n : Free K L a) (d : DenL K L H l xs) : Wk K (Itt K.K a) l L H := by
  have key : ∀ L' H', Gr L H L' H' → SqT K.K H' a xs := fun L' H' g => .of (g.to n.1 h)
  refine ⟨fun i L' H' hi g => ?_, fun L' H' g => ⟨xs, key L' H' g, by rw [d.length]; exact Nat.le_refl _⟩, fun i e L' H' S x H2 ex hx hi g r y => ?_⟩
  · have hi' : i < xs.length := by rw [← d.length]; exact hi
    exact ⟨xs, xs[i], key L' H' g, by simp [hi']⟩
  · obtain ⟨rfl, y⟩ := y
    obtain ⟨v, e1, dv⟩ := d.get hi
    have := y xs (key _ _ g)
    rw [e1] at this
    cases this
    exact ⟨fun _ _ e => e, Gr.refl, r, Den.grow g _ _ (dv.sub hx)⟩
theorem rngL_length (c : Int) : ∀ (n : Nat) (lo : Int), (rngL lo c n).length = n
  | 0, _ => rfl
  | n + 1, lo => by rw [rngL, List.length_cons, rngL_length c n]
theorem rngL_get (c : Int) : ∀ (n : Nat) (lo : Int) (i : Nat), i < n → (rngL lo c n)[i]? = some (.int (lo + (i : Nat) * c))
  | 0, _, i, h => absurd h (Nat.not_lt_zero _)
  | n + 1, lo, 0, h => by
    rw [rngL]
    simp
  | n + 1, lo, i + 1, h => by
    rw [rngL, List.getElem?_cons_succ, rngL_get c n (lo + c) i (by omega)]
    have : lo + c + (i : Nat) * c = lo + ((i + 1 : Nat) : Int) * c := by
      rw [show ((i + 1 : Nat) : Int) = (i : Int) + 1 by omega, Int.add_mul]
      omega
    rw [this]
theorem wk_range {K : KX} {lo : Int} {n : Nat} {L : List Addr} {H : Hp} : Wk K (Itr lo n) (rngL lo 1 n) L H := by
  refine ⟨fun i L' H' hi g => by rw [rngL_length] at hi; exact hi, fun L' H' g => by rw [rngL_length]; exact Nat.le_refl _, fun i e L' H' S x H2 ex hx hi g r y => ?_⟩
  have hl : i < n := by
    have := (List.getElem?_eq_some_iff.mp hi).1
    rwa [rngL_length] at this
  rw [rngL_get 1 n lo i hl] at hi
  cases hi
  obtain ⟨rfl, rfl⟩ := y
  refine ⟨fun _ _ e => e, Gr.refl, r, ?_⟩
  rw [Int.mul_one]
  exact den_i
theorem wk_rangeC {K : KX} {lo c : Int} {n : Nat} {L : List Addr} {H : Hp} : Wk K (Itc lo c n) (rngL lo c n) L H := by
  refine ⟨fun i L' H' hi g => by rw [rngL_length] at hi; exact hi, fun L' H' g => by rw [rngL_length]; exact Nat.le_refl _, fun i e L' H' S x H2 ex hx hi g r y => ?_⟩
  have hl : i < n := by
    have := (List.getElem?_eq_some_iff.mp hi).1
    rwa [rngL_length] at this
  rw [rngL_get c n lo i hl] at hi
  cases hi
  obtain ⟨rfl, rfl⟩ := y
  exact ⟨fun _ _ e => e, Gr.refl, r, den_i⟩
theorem enmL_length : ∀ (l : List D) (i : Int), (enmL i l).length = l.length
  | [], _ => rfl
  | d :: l, i => by rw [enmL, List.length_cons, List.length_cons, enmL_length l]
theorem enmL_get : ∀ (l : List D) (k : Int) (i : Nat) (d : D), (enmL k l)[i]? = some d → ∃ e, l[i]? = some e ∧ d = .tup [.int (k + (i : Nat)), e]
  | [], k, i, d, h => by simp [enmL] at h
  | e :: l, k, 0, d, h => by
    simp [enmL] at h
    exact ⟨e, rfl, by rw [← h]; simp⟩
  | e :: l, k, i + 1, d, h => by
    rw [enmL, List.getElem?_cons_succ] at h
    obtain ⟨e', h1, h2⟩ := enmL_get l (k + 1) i d h
    refine ⟨e', by simpa using h1, ?_⟩
    rw [h2, show k + 1 + (i : Nat) = k + ((i + 1 : Nat) : Int) by omega]
theorem den_tup2 {K : KX} {L : List Addr} {H : Hp} {S : Store} {T : Addr} {d e : D} {x y : V} (r : Rel K L H S) (n : H T = none) (hd : Den K L H d x) (he : Den K L H e y) :
    (∀ a o, H a = some o → upd H T (.tup [x, y]) a = some o) ∧ Gr L H L (upd H T (.tup [x, y])) ∧ Rel K L (upd H T (.tup [x, y])) S ∧ Den K L (upd H T (.tup [x, y])) (.tup [d, e]) (.ref T) := by
  have g : Gr L H L (upd H T (.tup [x, y])) := Gr.upd n
  refine ⟨fun a o q => by rw [upd_ne (ne_of_none q n)]; exact q, g, r.upd n, ?_⟩
  rw [Den]
  exact ⟨T, _, rfl, upd_same, r.free n, DenL.cons (Den.grow g _ _ hd) (DenL.one (Den.grow g _ _ he))⟩
theorem wk_enum {K : KX} {a : Addr} {xs : List V} {l : List D} {L : List Addr} {H : Hp} (h : H a = some (.lst xs)) (n : Free K L a) (d : DenL K L H l xs) : Wk K (Ite K.K a) (enmL 0 l) L H := by
  have key : ∀ L' H', Gr L H L' H' → SqL K.K H' a xs := fun L' H' g => .of (g.to n.1 h)
  refine ⟨fun i L' H' hi g => ?_, fun L' H' g => ⟨xs, key L' H' g, by rw [enmL_length, d.length]; exact Nat.le_refl _⟩, fun i e L' H' S x H2 ex hx hi g r y => ?_⟩
  · rw [enmL_length] at hi
    have hi' : i < xs.length := by rw [← d.length]; exact hi
    exact ⟨xs, xs[i], key L' H' g, by simp [hi']⟩
  · obtain ⟨T, x', rfl, nT, rfl, y⟩ := y
    obtain ⟨e', h1, rfl⟩ := enmL_get l 0 i e hi
    obtain ⟨v, e1, dv⟩ := d.get h1
    have := y xs (key _ _ g)
    rw [e1] at this
    cases this
    rw [show (0 : Int) + (i : Nat) = (i : Nat) by omega]
    exact den_tup2 r nT den_i (Den.grow g _ _ (dv.sub hx))
theorem zipL_length : ∀ (l m : List D), (zipL l m).length = min l.length m.length
  | [], m => by simp [zipL]
  | d :: l, [] => by simp [zipL]
  | d :: l, e :: m => by rw [zipL, List.length_cons, zipL_length l m, List.length_cons, List.length_cons]; omega
theorem zipL_get : ∀ (l m : List D) (i : Nat) (d : D), (zipL l m)[i]? = some d → ∃ e f, l[i]? = some e ∧ m[i]? = some f ∧ d = .tup [e, f]
  | [], m, i, d, h => by simp [zipL] at h
  | e :: l, [], i, d, h => by simp [zipL] at h
  | e :: l, f :: m, 0, d, h => by
    simp [zipL] at h
    exact ⟨e, f, rfl, rfl, h.symm⟩
  | e :: l, f :: m, i + 1, d, h => by
    rw [zipL, List.getElem?_cons_succ] at h
    obtain ⟨e', f', h1, h2, h3⟩ := zipL_get l m i d h
    exact ⟨e', f', by simpa using h1, by simpa using h2, h3⟩
theorem wk_zip {K : KX} {a b : Addr} {xs ys : List V} {l m : List D} {L : List Addr} {H : Hp} (h : H a = some (.lst xs)) (n : Free K L a) (d : DenL K L H l xs) (h' : H b = some (.lst ys)) (n' : Free K L b) (d' : DenL K L H m ys) : Wk K (Itz K.K a b) (zipL l m) L H := by
  have key : ∀ L' H', Gr L H L' H' → SqL K.K H' a xs := fun L' H' g => .of (g.to n.1 h)
  have key' : ∀ L' H', Gr L H L' H' → SqL K.K H' b ys := fun L' H' g => .of (g.to n'.1 h')
  refine ⟨fun i L' H' hi g => ?_, fun L' H' g => ⟨xs, ys, key L' H' g, key' L' H' g, by rw [zipL_length, d.length, d'.length]; omega⟩, fun i e L' H' S x H2 ex hx hi g r y => ?_⟩
  · rw [zipL_length, d.length, d'.length] at hi
    have h1 : i < xs.length := by omega
    have h2 : i < ys.length := by omega
    exact ⟨xs, ys, xs[i], ys[i], key L' H' g, key' L' H' g, by simp [h1], by simp [h2]⟩
  · obtain ⟨T, x', y', rfl, nT, rfl, y1, y2⟩ := y
    obtain ⟨e1, f1, q1, q2, rfl⟩ := zipL_get l m i e hi
    obtain ⟨v, e2, dv⟩ := d.get q1
    obtain ⟨u, e3, du⟩ := d'.get q2
    have z1 := y1 xs (key _ _ g)
    rw [e2] at z1
    cases z1
    have z2 := y2 ys (key' _ _ g)
    rw [e3] at z2
    cases z2
    exact den_tup2 r nT (Den.grow g _ _ (dv.sub hx)) (Den.grow g _ _ (du.sub hx))
theorem wk_zipT {K : KX} {a b : Addr} {xs ys : List V} {l m : List D} {L : List Addr} {H : Hp} (h : H a = some (.tup xs)) (n : Free K L a) (d : DenL K L H l xs) (h' : H b = some (.tup ys)) (n' : Free K L b) (d' : DenL K L H m ys) : Wk K (RZ.ItzT K.K a b) (zipL l m) L H := by
  have key : ∀ L' H', Gr L H L' H' → SqT K.K H' a xs := fun L' H' g => .of (g.to n.1 h)
  have key' : ∀ L' H', Gr L H L' H' → SqT K.K H' b ys := fun L' H' g => .of (g.to n'.1 h')
  refine ⟨fun i L' H' hi g => ?_, fun L' H' g => ⟨xs, ys, key L' H' g, key' L' H' g, by rw [zipL_length, d.length, d'.length]; omega⟩, fun i e L' H' S x H2 ex hx hi g r y => ?_⟩
  · rw [zipL_length, d.length, d'.length] at hi
    have h1 : i < xs.length := by omega
    have h2 : i < ys.length := by omega
    exact ⟨xs, ys, xs[i], ys[i], key L' H' g, key' L' H' g, by simp [h1], by simp [h2]⟩
  · obtain ⟨T, x', y', rfl, nT, rfl, y1, y2⟩ := y
    obtain ⟨e1, f1, q1, q2, rfl⟩ := zipL_get l m i e hi
    obtain ⟨v, e2, dv⟩ := d.get q1
    obtain ⟨u, e3, du⟩ := d'.get q2
    have z1 := y1 xs (key _ _ g)
    rw [e2] at z1
    cases z1
    have z2 := y2 ys (key' _ _ g)
    rw [e3] at z2
    cases z2
    exact den_tup2 r nT (Den.grow g _ _ (dv.sub hx)) (Den.grow g _ _ (du.sub hx))
end
end Rs

namespace Rs
open PySem PySem.Spec PyProof.Rows L2
/-! ### enumerate(x), x a list or a tuple -/
theorem enum_new1 {v : Value} {o : Obj} {H : Heap → Prop} (B : Begins v o H) :
    Meets (Builtin.«enumerate.__new__» ⟨[.type "enumerate", v], []⟩) (fun _ R s => H s.heap ∧
      R (.ok (.ret (.ref (s.heap.push o).objs.size))) { s with heap := (s.heap.push o).push { cls := .type "enumerate", data := .fields #[.none, .bool false, .ref s.heap.objs.size, rawInt 0, .none, .none] } }) :=
  .of_wp fun prog w A R s h => by
    obtain ⟨hp, g, d, tk, os⟩ := s
    obtain ⟨h1, h⟩ := h
    have sub := sub_enumerate
    have begun : ∀ {A' : Around} {E : Value → Shared → Prop} {Q : Value → Shared → Prop}, Q (.ref hp.objs.size) ⟨hp.push o, g, d, tk, os⟩ → wpAny (model prog w) A' (pyIter v) Q E ⟨hp, g, d, tk, os⟩ :=
      fun q => B.iter prog w _ _ ⟨hp, g, d, tk, os⟩ _ h1 q
    wp_walk using begun
    refine wpAny_stack_any fun st => wpAny_pure ?_
    split
    · rename_i c _ _ _ _ _
      cases (c == Value.type "enumerate") <;> (wp_walk using begun; exact ⟨_, rfl, h⟩)
    · wp_walk using begun
      exact ⟨_, rfl, h⟩
section
variable {prog : Program} {w : World} {A : Around} {E : Value → Shared → Prop} {s : Shared}
theorem call_enum1 {v : Value} {o : Obj} {H : Heap → Prop} {Q : Value → Shared → Prop} (B : Begins v o H) (h1 : H s.heap)
    (h : ∀ h', IsEnum h' (s.heap.objs.size + 1) s.heap.objs.size 0 .none → h'.get? s.heap.objs.size = some o → h'.objs.size = s.heap.objs.size + 2 → (∀ b o, s.heap.get? b = some o → h'.get? b = some o) → Q (.ref (s.heap.objs.size + 1)) { s with heap := h' }) :
    wpAny (model prog w) A (call (.type "enumerate") [v]) Q E s := by
  refine callType_new F.called_enumerate (by decide) (F.typeCall_enumerate_1 _) (F.newCall_enumerate_1 _) (fun obj => F.args_object_init_2 obj _) F.entry_enumerate_new (enum_new1 B) ⟨h1, ?_⟩
  have size : (s.heap.push o).objs.size = s.heap.objs.size + 1 := Heap.size_push ..
  change _ ∧ _
  rw [size]
  have en : IsEnum ((s.heap.push o).push { cls := .type "enumerate", data := .fields #[.none, .bool false, .ref s.heap.objs.size, rawInt 0, .none, .none] }) (s.heap.objs.size + 1) s.heap.objs.size 0 .none := by
    have q := Heap.get?_push_size (s.heap.push o) (o := { cls := .type "enumerate", data := .fields #[.none, .bool false, .ref s.heap.objs.size, rawInt 0, .none, .none] }) rfl
    rwa [size] at q
  exact ⟨⟨_, en, rfl⟩, h _ en (Heap.get?_push_of_some _ (Heap.get?_push_size _ B.free)) (by rw [Heap.size_push, size]) fun b o x => Heap.get?_push_of_some _ (Heap.get?_push_of_some _ x)⟩
end
def IteT (K : PySem.W.Frag) (a : Addr) : It :=
  ⟨fun i H => ∃ (xs : List V) (x : V), SqT K H a xs ∧ xs[i]? = some x, fun i H v H' => ∃ T x, v = .ref T ∧ H T = none ∧ H' = upd H T (.tup [.int (i : Nat), x]) ∧ ∀ xs, SqT K H a xs → xs[i]? = some x, fun i H => ∃ xs : List V, SqT K H a xs ∧ xs.length ≤ i⟩
theorem turn_enumT {P : Program} {w : World} {K : PySem.W.Frag} {elts : List Expr} {kk : Nat} {tpos : Pos} (a e it : Addr) (ea : e ≠ a) (ai : a ≠ it) (ei : e ≠ it) :
    Turn P w K (.Tuple elts kk tpos) (IteT K a) [e, it] e (fun i h => (∃ old, IsEnum h e it ((i : Nat) : Int) old) ∧ h.IsTupleIter it a i) where
  mem := by simp
  obj := fun i h st b hb => by
    obtain ⟨⟨old, he⟩, ⟨o, ho, hc, hd⟩⟩ := st
    rcases List.mem_cons.mp hb with z | z
    · rw [z]
      exact ⟨_, he, fun v q => nomatch q⟩
    · rw [List.mem_singleton.mp z]
      exact ⟨o, ho, fun v q => by rw [hd] at q; cases q⟩
  keep := fun i h h' st k => let ⟨⟨old, he⟩, hi⟩ := st; ⟨⟨old, k e (by simp) _ he⟩, hi.at fun o q => k it (by simp) o q⟩
  item := by
    intro X hP hw hK hc i pins s σ H E I hf st hg
    subst hP hw hK
    obtain ⟨⟨old, he⟩, hit⟩ := st
    obtain ⟨xs, x, hq, hx⟩ := hg
    obtain ⟨its, rv, p, hz⟩ := I.tuple hq
    obtain ⟨u, hu, ru⟩ := rv.get hx
    have hlt : i < its.toArray.size := by
      rw [List.size_toArray]
      exact (List.getElem?_eq_some_iff.mp hu).1
    have hel : e < s.heap.objs.size := Heap.lt_size he
    have hil : it < s.heap.objs.size := by
      obtain ⟨_, q, _⟩ := hit
      exact Heap.lt_size q
    have pt : s.heap.IsTuple a its.toArray := p
    have D := Draws.tuple (prog := X.prog) (w := X.w) (A := X.A.in1) (by simp [I.ok.hd hc]) it a ai its.toArray
    refine wpAny_pyNext_enum_itemD D he ⟨hit, pt⟩ hlt ei (by simp only [List.mem_cons, List.not_mem_nil, or_false, not_or]; exact ⟨ei, ea⟩) fun y h' tk hy ho st' hT hsz hk => ?_
    have ey : y = u := by
      have : its.toArray[i]? = some y := hy
      rw [List.getElem?_toArray, hu] at this
      exact (Option.some.inj this).symm
    subst ey
    refine ⟨_, rfl, wpAny_letOwnedTupleGo_enum (s := { s with heap := h', toks := tk + 1 }) ho fun h'' he' sb => ?_⟩
    have hT2 : h''.get? s.heap.objs.size = some { cls := .type "tuple", data := .seq #[.int i tk, y] } := (sb.2 _ (Nat.ne_of_gt hel)).trans hT
    have new : ObjOk X.prog X.w (upd H s.heap.objs.size (.tup [.int (i : Nat), x])) h'' s.heap.objs.size (.tup [.int (i : Nat), x]) :=
      ⟨by show 2 ≤ sizeLine; decide, [.int i tk, y], .cons ⟨_, rfl⟩ (.cons ru .nil), ⟨_, hT2, rfl, _, rfl⟩⟩
    have I1 : Inv X pins σ (upd H s.heap.objs.size (.tup [.int (i : Nat), x])) { s with heap := h'', toks := tk + 1 } :=
      I.turnedNew (ch := [e, it]) (fun b ob hb q => (sb.2 b (fun z => hb (by simp [z]))).trans (hk b ob (fun z => hb (by simp [z])) (fun z => hb (by simp [z])) q)) hf (Nat.le_refl _) new
    refine ⟨.ref s.heap.objs.size, _, I1, rfl, ⟨_, x, rfl, I.hok.fresh (Nat.le_refl _), rfl, fun ys hy => by rw [I.tuple_inj hy hq]; exact hx⟩, ⟨⟨y, ?_⟩, st'.1.at fun o q => (sb.2 it (Ne.symm ei)).trans q⟩, fun b hb => ?_⟩
    · rw [show ((i + 1 : Nat) : Int) = (i : Int) + 1 by omega]
      exact he'
    · have hb' : b < s.heap.objs.size := by
        rcases List.mem_cons.mp hb with z | z
        · rw [z]; exact hel
        · rw [List.mem_singleton.mp z]; exact hil
      rw [upd_ne (Nat.ne_of_lt hb')]
      exact (hf b hb).1
  done := by
    intro X hP hw hK hc i pins s σ H E I hf st hg
    subst hP hw hK
    obtain ⟨⟨old, he⟩, hit⟩ := st
    obtain ⟨xs, hq, hx⟩ := hg
    obtain ⟨its, rv, p, hz⟩ := I.tuple hq
    obtain ⟨f0, f1, f2, f3, f4, f5⟩ := hf it (by simp)
    have hl := rv.length
    have pt : s.heap.IsTuple a its.toArray := p
    have none_ : its.toArray[i]? = none := by simp; omega
    refine wpAny_pyNext_enum_endD (n := i) (P := fun _ _ => False) (St := fun j h => j = i ∧ h.IsTupleIter it a i ∧ h.IsTuple a its.toArray) (fp := [it, a]) ?_ he ⟨rfl, hit, pt⟩ fun h' eb => ⟨rfl, I.turned (t' := s.toks) (fun b o hb q => eb b o hb q) f0 f1 f3 f4 f5⟩
    exact {
      live := fun _ _ st => let ⟨o, ho, _⟩ := st.2.1; ⟨o, ho⟩
      frame := fun _ _ _ st hk => ⟨st.1, st.2.1.at fun o e => hk it (by simp) o e, st.2.2.at fun o e => hk a (by simp) o e⟩
      item := fun j s Q E hj st _ => absurd st.1 (Nat.ne_of_lt hj)
      done := fun s Q E st hE => wpAny_nextOf_tuple_end (by simp [I.ok.hd hc]) st.2.1 st.2.2 none_ hE }
  self := fun A i s Q E st h => let ⟨⟨_, he⟩, _⟩ := st; wpAny_pyIter_enum he h
def iEnumA (K : PySem.W.Frag) (ta : TA) : TI := fun σ H R => ta σ H fun vs H1 => ∃ a xs, vs = [.ref a] ∧ ((SqL K H1 a xs ∧ R (Ite K a) H1) ∨ (SqT K H1 a xs ∧ R (IteT K a) H1))
theorem pi_enumA {X : Cx} {e : Expr} {ta : TA} {p pos tpos : Pos} {elts : List Expr} {kk : Nat} (hg : Gl X "enumerate") (hm : X.mg "enumerate" = none) (ha : PA X [e] ta) (hs : starEach [e] X.env = [(false, eval e X.env)] := by rfl) :
    PI X (.Tuple elts kk tpos) (.Call (.Name "enumerate" p) [e] [] pos) (iEnumA X.K ta) := by
  constructor
  intro pins s σ H R I h
  refine Call_ (ld_blt I hg hm boot_enumerate (PyProof.Rows.callWith_type1 (thn (ha.run pos pins s σ H _ I h) fun us s1 ⟨vs, H1, I1, r1, a, xs, ex, alt⟩ => ?_) hs rfl))
  subst ex
  cases r1 with
  | cons r rr =>
    cases rr
    cases r
    have ok : ∀ b ∈ [s1.heap.objs.size + 1, s1.heap.objs.size], s1.heap.objs.size ≤ b := fun b hb => by
      rcases List.mem_cons.mp hb with z | z
      · rw [z]; exact Nat.le_add_right _ _
      · rw [List.mem_singleton.mp z]; exact Nat.le_refl _
    rcases alt with ⟨hq, q⟩ | ⟨hq, q⟩
    · obtain ⟨its, rv, p', hz⟩ := I1.list hq
      refine call_enumerate_list p'.isList fun h' he hit hsz hk => wpAny_pyIter_enum he ?_
      have I2 : Inv X pins σ H1 { s1 with heap := h' } := I1.kept (t' := s1.toks) hk
      exact ⟨s1.heap.objs.size + 1, [s1.heap.objs.size + 1, s1.heap.objs.size], _, _, H1, rfl, I2, turn_enum a (s1.heap.objs.size + 1) s1.heap.objs.size, ⟨⟨.none, he⟩, hit, Nat.succ_ne_self _⟩, fun b hb => I1.fpOk (ok b hb) (I1.hok.fresh (ok b hb)), q⟩
    · obtain ⟨its, rv, p', hz⟩ := I1.tuple hq
      have pt : s1.heap.IsTuple a its.toArray := p'
      have al : a < s1.heap.objs.size := by
        obtain ⟨o, ho, _⟩ := p'
        exact Heap.lt_size ho
      refine call_enum1 (begins_tuple a its.toArray) pt fun h' he hit hsz hk => wpAny_pyIter_enum he ?_
      have I2 : Inv X pins σ H1 { s1 with heap := h' } := I1.kept (t' := s1.toks) hk
      exact ⟨s1.heap.objs.size + 1, [s1.heap.objs.size + 1, s1.heap.objs.size], _, _, H1, rfl, I2, turn_enumT a (s1.heap.objs.size + 1) s1.heap.objs.size (Nat.ne_of_gt (Nat.lt_succ_of_lt al)) (Nat.ne_of_lt al) (Nat.succ_ne_self _), ⟨⟨.none, he⟩, ⟨_, hit, rfl, rfl⟩⟩, fun b hb => I1.fpOk (ok b hb) (I1.hok.fresh (ok b hb)), q⟩
theorem wk_enumT {K : KX} {a : Addr} {xs : List V} {l : List D} {L : List Addr} {H : Hp} (h : H a = some (.tup xs)) (n : Free K L a) (d : DenL K L H l xs) : Wk K (IteT K.K a) (enmL 0 l) L H := by
  have key : ∀ L' H', Gr L H L' H' → SqT K.K H' a xs := fun L' H' g => .of (g.to n.1 h)
  refine ⟨fun i L' H' hi g => ?_, fun L' H' g => ⟨xs, key L' H' g, by rw [enmL_length, d.length]; exact Nat.le_refl _⟩, fun i e L' H' S x H2 ex hx hi g r y => ?_⟩
  · rw [enmL_length] at hi
    have hi' : i < xs.length := by rw [← d.length]; exact hi
    exact ⟨xs, xs[i], key L' H' g, by simp [hi']⟩
  · obtain ⟨T, x', rfl, nT, rfl, y⟩ := y
    obtain ⟨e', h1, rfl⟩ := enmL_get l 0 i e hi
    obtain ⟨v, e1, dv⟩ := d.get h1
    have := y xs (key _ _ g)
    rw [e1] at this
    cases this
    rw [show (0 : Int) + (i : Nat) = (i : Nat) by omega]
    exact den_tup2 r nT den_i (Den.grow g _ _ (dv.sub hx))
end Rs

namespace Rs
open PySem PySem.Spec PyProof.Rows L2
section
variable {w : Xd} {C : CallT} {W : WX} {c : Cc} {X : Cx} {fa fb fc : Env → Store → Out D} {fs : Env → Store → Out (List D)}
/-! ### walks of values -/
/-- a list or a tuple, whichever comes -/
def iSeq (K : PySem.W.Frag) (tl : TE) : TI := fun σ H R => tl σ H fun x H1 => ∃ a, x = .ref a ∧ (((∃ xs, SqL K H1 a xs) ∧ R (Itl K a) H1) ∨ ((∃ xs, SqT K H1 a xs) ∧ R (Itt K a) H1))
theorem pi_seq {tg l : Expr} {tl : TE} (hl : PE X l tl) : PI X tg l (iSeq X.K tl) := by
  constructor
  intro pins s σ H R I h
  refine thn (hl.run pins s σ H _ I h) ?_
  rintro v s1 ⟨x, H1, I1, r1, a, rfl, q1⟩
  cases r1
  have cst : PE X (.Name "zz" ⟨0, 0, 0, 0⟩) (tC (.ref a)) → True := fun _ => trivial
  have new : s1.heap.objs.size ≤ s1.heap.objs.size := Nat.le_refl _
  rcases q1 with ⟨⟨xs, hq⟩, q⟩ | ⟨⟨xs, hq⟩, q⟩
  · obtain ⟨its, rv, p, hz⟩ := I1.list hq
    refine wpAny_pyIter_list p.isList ⟨s1.heap.objs.size, [s1.heap.objs.size], _, Itl X.K a, H1, rfl, ?_, turn_list a _, ?_, ?_, q⟩
    · exact I1.kept (t' := s1.toks) fun b o e => Heap.get?_push_of_some _ e
    · exact ⟨_, Heap.get?_push_size _ rfl, rfl, rfl⟩
    · intro b hb
      rw [List.mem_singleton.mp hb]
      exact I1.fpOk new (I1.hok.fresh new)
  · obtain ⟨its, rv, p, hz⟩ := I1.tuple hq
    refine wpAny_pyIter_tuple (show s1.heap.IsTuple a its.toArray from p) ⟨s1.heap.objs.size, [s1.heap.objs.size], _, Itt X.K a, H1, rfl, ?_, turn_tuple a _, ?_, ?_, q⟩
    · exact I1.kept (t' := s1.toks) fun b o e => Heap.get?_push_of_some _ e
    · exact ⟨_, Heap.get?_push_size _ rfl, rfl, rfl⟩
    · intro b hb
      rw [List.mem_singleton.mp hb]
      exact I1.fpOk new (I1.hok.fresh new)
theorem g_val (O : COk w C W c X) {tg e : Expr} (ha : PE X e (ED w W fa)) : PI X tg e (EI w W fun σ S => (fa σ S).bind fun x S => match x with
    | .tup l => .ok l S
    | .lst l => .ok l S
    | _ => .bad) := by
  refine PI_imp (pi_seq ha) fun σ H R ⟨σd, S, L, er, r, h⟩ => ?_
  refine ⟨σd, S, L, er, r, (EndR.bind h).imp fun x H1 ⟨a, S1, L1, g1, r1, d1, h1⟩ => ?_⟩
  cases a with
  | tup l =>
    obtain ⟨p, xs, rfl, e1, n1, e2⟩ := den_tup d1
    exact ⟨p, rfl, .inr ⟨⟨xs, .of e1⟩, h1.here r1 (by rw [O.K]; exact wk_tup e1 n1 e2)⟩⟩
  | lst l =>
    obtain ⟨p, xs, rfl, e1, n1, e2⟩ := den_lst d1
    exact ⟨p, rfl, .inl ⟨⟨xs, .of e1⟩, h1.here r1 (by rw [O.K]; exact wk_list e1 n1 e2)⟩⟩
  | _ => exact h1.elim
theorem small_of {i : Int} (h : small i = true) : -(2 ^ 62) ≤ i ∧ i < 2 ^ 62 := by
  unfold small at h
  rw [Bool.and_eq_true_iff] at h
  exact ⟨of_decide_eq_true h.1, of_decide_eq_true h.2⟩
theorem g_rng1 (O : COk w C W c X) {tg e : Expr} {x : Str} {p pos : Pos} (h1 : x = ("range" : Str)) (h2 : isGl c.sc x = true) (he : isStar e = false) (ha : PE X e (ED w W fa)) : PI X tg (.Call (.Name x p) [e] [] pos) (EI w W fun σ S => (fa σ S).bind fun x S => match x with
    | .int j => if small j = true then .ok (rngL 0 1 j.toNat) S else .bad
    | _ => .bad) := by
  subst h1
  have hm := O.bl "range" (by decide +kernel)
  refine PI_imp (pi_range1 (O.gl h2) hm (pa_cons ha pa_nil (star_plain he)) (star_plain he)) fun σ H R ⟨σd, S, L, er, r, h⟩ => ?_
  refine ⟨σd, S, L, er, r, (EndR.bind h).imp fun x H1 ⟨a, S1, L1, g1, r1, d1, h1⟩ => ?_⟩
  cases a with
  | int j =>
    cases of_i d1
    dsimp only at h1
    split at h1
    · rename_i q
      obtain ⟨q1, q2⟩ := small_of q
      exact ⟨j, rfl, q1, q2, h1.here r1 wk_range⟩
    · exact h1.elim
  | _ => exact h1.elim
theorem pa2 {e f : Expr} (he : isStar e = false) (hf : isStar f = false) (ha : PE X e (ED w W fa)) (hb : PE X f (ED w W fb)) : PA X [e, f] (tCons (ED w W fa) (tCons (ED w W fb) tNil)) := pa_cons ha (pa_cons hb pa_nil (star_plain hf)) (star_plain he)
theorem star2 {e f : Expr} {env : PySem.Env} (he : isStar e = false) (hf : isStar f = false) : starEach [e, f] env = [(false, eval e env), (false, eval f env)] := by
  rw [star_plain he, star_plain hf]
  rfl
theorem g_rng2 (O : COk w C W c X) {tg e f : Expr} {x : Str} {p pos : Pos} (h1 : x = ("range" : Str)) (h2 : isGl c.sc x = true) (he : isStar e = false) (hf : isStar f = false) (ha : PE X e (ED w W fa)) (hb : PE X f (ED w W fb)) : PI X tg (.Call (.Name x p) [e, f] [] pos) (EI w W fun σ S => (fa σ S).bind fun x S => (fb σ S).bind fun y S => match x, y with
    | .int i, .int j => if small i = true ∧ small j = true then .ok (rngL i 1 (j - i).toNat) S else .bad
    | _, _ => .bad) := by
  subst h1
  have hm := O.bl "range" (by decide +kernel)
  refine PI_imp (pi_range2 (O.gl h2) hm (pa2 he hf ha hb) (star2 he hf) (star_plain hf)) fun σ H R ⟨σd, S, L, er, r, h⟩ => ?_
  refine ⟨σd, S, L, er, r, (EndR.bind h).imp fun x H1 ⟨a, S1, L1, g1, r1, d1, h1⟩ => ?_⟩
  refine ⟨σd, S1, L1, er.grow g1, r1, (EndR.bind h1).imp fun y H2 ⟨b, S2, L2, g2, r2, d2, h2⟩ => ?_⟩
  split at h2
  · cases of_i d1
    cases of_i d2
    split at h2
    · rename_i q
      obtain ⟨q1, q2⟩ := small_of q.1
      obtain ⟨q3, q4⟩ := small_of q.2
      exact ⟨_, _, rfl, ⟨q1, q2, q3, q4⟩, h2.here r2 wk_range⟩
    · exact h2.elim
  · exact h2.elim
theorem g_rng3 (O : COk w C W c X) {tg e f : Expr} {x : Str} {k : Int} {j : Nat} {p p1 p2 pos : Pos} (h1 : x = ("range" : Str)) (h2 : isGl c.sc x = true) (hk : k = -1) (he : isStar e = false) (hf : isStar f = false) (ha : PE X e (ED w W fa)) (hb : PE X f (ED w W fb)) :
    PI X tg (.Call (.Name x p) [e, f, .UnaryOp .USub (.Constant (.int 1) j p1) p2] [] pos) (EI w W fun σ S => (fa σ S).bind fun x S => (fb σ S).bind fun y S => match x, y with
    | .int i, .int j => if small i = true ∧ small j = true ∧ k = -1 then .ok (rngL i (-1) (i - j).toNat) S else .bad
    | _, _ => .bad) := by
  subst h1
  have hm := O.bl "range" (by decide +kernel)
  have h3 : PE X (.UnaryOp .USub (.Constant (.int 1) j p1) p2) (tUn (rU fun i => .int (-i)) (tC (.int 1))) := pe_un un_neg pe_int
  refine PI_imp (pi_range3 (O.gl h2) hm (pa_cons ha (pa_cons hb (pa_cons h3 pa_nil (by rfl)) (star_plain hf)) (star_plain he)) (by rw [star_plain he, star_plain hf] <;> rfl) (by rw [star_plain hf] <;> rfl)) fun σ H R ⟨σd, S, L, er, r, h⟩ => ?_
  refine ⟨σd, S, L, er, r, (EndR.bind h).imp fun x H1 ⟨a, S1, L1, g1, r1, d1, h1⟩ => ?_⟩
  refine ⟨σd, S1, L1, er.grow g1, r1, (EndR.bind h1).imp fun y H2 ⟨b, S2, L2, g2, r2, d2, h2⟩ => ?_⟩
  split at h2
  · cases of_i d1
    cases of_i d2
    split at h2
    · rename_i q
      obtain ⟨q1, q2⟩ := small_of q.1
      obtain ⟨q3, q4⟩ := small_of q.2.1
      exact ⟨1, rfl, _, _, -1, _, rfl, RgC.neg q1 q2 q3 q4, h2.here r2 wk_rangeC⟩
    · exact h2.elim
  · exact h2.elim
theorem g_enm (O : COk w C W c X) {elts : List Expr} {kk : Nat} {tpos : Pos} {e : Expr} {x : Str} {p pos : Pos} (h1 : x = ("enumerate" : Str)) (h2 : isGl c.sc x = true) (he : isStar e = false) (ha : PE X e (ED w W fa)) : PI X (.Tuple elts kk tpos) (.Call (.Name x p) [e] [] pos) (EI w W fun σ S => (fa σ S).bind fun x S => match x with
    | .lst l => .ok (enmL 0 l) S
    | .tup l => .ok (enmL 0 l) S
    | _ => .bad) := by
  subst h1
  have hm := O.bl "enumerate" (by decide +kernel)
  refine PI_imp (pi_enumA (O.gl h2) hm (pa_cons ha pa_nil (star_plain he)) (star_plain he)) fun σ H R ⟨σd, S, L, er, r, h⟩ => ?_
  refine ⟨σd, S, L, er, r, (EndR.bind h).imp fun x H1 ⟨a, S1, L1, g1, r1, d1, h1⟩ => ?_⟩
  cases a with
  | lst l =>
    obtain ⟨p, xs, rfl, e1, n1, e2⟩ := den_lst d1
    exact ⟨p, xs, rfl, .inl ⟨.of e1, h1.here r1 (by rw [O.K]; exact wk_enum e1 n1 e2)⟩⟩
  | tup l =>
    obtain ⟨p, xs, rfl, e1, n1, e2⟩ := den_tup d1
    exact ⟨p, xs, rfl, .inr ⟨.of e1, h1.here r1 (by rw [O.K]; exact wk_enumT e1 n1 e2)⟩⟩
  | _ => exact h1.elim
theorem g_zip (O : COk w C W c X) {elts : List Expr} {kk : Nat} {tpos : Pos} {e f : Expr} {x : Str} {p pos : Pos} (h1 : x = ("zip" : Str)) (h2 : isGl c.sc x = true) (he : isStar e = false) (hf : isStar f = false) (ha : PE X e (ED w W fa)) (hb : PE X f (ED w W fb)) : PI X (.Tuple elts kk tpos) (.Call (.Name x p) [e, f] [] pos) (EI w W fun σ S => (fa σ S).bind fun x S => (fb σ S).bind fun y S => match x, y with
    | .tup l, .tup m => .ok (zipL l m) S
    | .lst l, .lst m => .ok (zipL l m) S
    | _, _ => .bad) := by
  subst h1
  have hm := O.bl "zip" (by decide +kernel)
  refine PI_imp (RZ.pi_zipA (O.gl h2) hm (pa2 he hf ha hb) (star_plain he) (by rw [star_plain hf]; rfl)) fun σ H R ⟨σd, S, L, er, r, h⟩ => ?_
  refine ⟨σd, S, L, er, r, (EndR.bind h).imp fun x H1 ⟨a, S1, L1, g1, r1, d1, h1⟩ => ?_⟩
  refine ⟨σd, S1, L1, er.grow g1, r1, (EndR.bind h1).imp fun y H2 ⟨b, S2, L2, g2, r2, d2, h2⟩ => ?_⟩
  have d1 := Den.grow g2 _ _ d1
  split at h2
  · obtain ⟨p, xs, rfl, e1, n1, e2⟩ := den_tup d1
    obtain ⟨q, ys, rfl, e1', n1', e2'⟩ := den_tup d2
    exact ⟨p, q, xs, ys, rfl, .inr ⟨.of e1, .of e1', h2.here r2 (by rw [O.K]; exact wk_zipT e1 n1 e2 e1' n1' e2')⟩⟩
  · obtain ⟨p, xs, rfl, e1, n1, e2⟩ := den_lst d1
    obtain ⟨q, ys, rfl, e1', n1', e2'⟩ := den_lst d2
    exact ⟨p, q, xs, ys, rfl, .inl ⟨.of e1, .of e1', h2.here r2 (by rw [O.K]; exact wk_zip e1 n1 e2 e1' n1' e2')⟩⟩
  · exact h2.elim
/-! ### list(range(..)), tuple(range(..)) -/
theorem Out.bind_assoc {α β γ : Type} (o : Out α) (f : α → Store → Out β) (g : β → Store → Out γ) : (o.bind f).bind g = o.bind fun a S => (f a S).bind g := by
  cases o <;> rfl
theorem den_rg {K : KX} {L : List Addr} {H : Hp} : ∀ (n : Nat) (a : Int), DenL K L H (rngL a 1 n) ((List.range n).map fun i => V.int (a + (i : Nat)))
  | 0, a => DenL.nil
  | n + 1, a => by
    rw [rngL, List.range_succ_eq_map, List.map_cons, List.map_map]
    refine DenL.cons (by rw [show a + ((0 : Nat) : Int) = a by omega]; exact den_i) ?_
    have := den_rg (K := K) (L := L) (H := H) n (a + 1)
    have e : ((List.range n).map ((fun i : Nat => V.int (a + (i : Nat))) ∘ Nat.succ)) = (List.range n).map fun i => V.int (a + 1 + (i : Nat)) := by
      apply List.map_congr_left
      intro i _
      show V.int _ = V.int _
      rw [show a + ((Nat.succ i : Nat) : Int) = a + 1 + (i : Nat) by rw [Nat.succ_eq_add_one]; omega]
    rw [e]
    exact this
/-- both ends known -/
theorem rg_ok {i j : Int} (hi : small i = true) (hj : small j = true) (hl : (rngL i 1 (j - i).toNat).length ≤ 16777216) : RgOk i j := by
  rw [rngL_length] at hl
  exact ⟨(small_of hi).1, (small_of hi).2, (small_of hj).1, (small_of hj).2, hl⟩
/-- what lies behind a range whose ends are i, j -/
def gRg (t : Bool) (i j : Int) : Store → Out D := fun S => if (rngL i 1 (j - i).toNat).length ≤ 16777216 then .ok (if t = true then .tup (rngL i 1 (j - i).toNat) else .lst (rngL i 1 (j - i).toNat)) S else .bad
theorem end_rgL (hx : w.K.xn = none) {i j : Int} {σ : L2.St} {L : List Addr} {H : Hp} {S : Store} {Q : VK} (hi : small i = true) (hj : small j = true) (r : Rel w.K L H S) (h : EndF w W σ L H Q (gRg false i j S)) : RgOk i j ∧ ∀ q, H q = none → Q (.ref q) (upd H q (.lst (rgV i j))) := by
  unfold gRg at h
  split at h
  · rename_i hl
    exact ⟨rg_ok hi hj hl, fun q n => end_new hx h r (den_rg _ _) n⟩
  · exact h.elim
theorem end_rgT {i j : Int} {σ : L2.St} {L : List Addr} {H : Hp} {S : Store} {Q : VK} (hi : small i = true) (hj : small j = true) (r : Rel w.K L H S) (h : EndR w (rD w) W σ L H Q (gRg true i j S)) : RgOk i j ∧ ∀ q, H q = none → Q (.ref q) (upd H q (.tup (rgV i j))) := by
  unfold gRg at h
  split at h
  · rename_i hl
    exact ⟨rg_ok hi hj hl, fun q n => end_tup h r (den_rg _ _) n⟩
  · exact h.elim
abbrev fR1 (fa : Env → Store → Out D) : Env → Store → Out (List D) := fun σ S => (fa σ S).bind fun x S => match x with
    | .int j => if small j = true then .ok (rngL 0 1 j.toNat) S else .bad
    | _ => .bad
abbrev fR2 (fa fb : Env → Store → Out D) : Env → Store → Out (List D) := fun σ S => (fa σ S).bind fun x S => (fb σ S).bind fun y S => match x, y with
    | .int i, .int j => if small i = true ∧ small j = true then .ok (rngL i 1 (j - i).toNat) S else .bad
    | _, _ => .bad
abbrev fLR (t : Bool) (f : Env → Store → Out (List D)) : Env → Store → Out D := fun σ S => (f σ S).bind fun xs S => if xs.length ≤ 16777216 then .ok (if t = true then .tup xs else .lst xs) S else .bad
theorem fLR1 {t : Bool} {σ : Env} {S : Store} : fLR t (fR1 fa) σ S = (fa σ S).bind fun x S => match x with
    | .int j => if small j = true then gRg t 0 j S else .bad
    | _ => .bad := by
  show ((fa σ S).bind _).bind _ = _
  rw [Out.bind_assoc]
  cases fa σ S with
  | ok a S1 =>
    show Out.bind _ _ = _
    cases a <;> try rfl
    rename_i j
    show (Out.bind (if small j = true then _ else _) _) = (if small j = true then _ else _)
    split
    · show (if _ then _ else _) = _
      unfold gRg
      rw [show j - 0 = j by omega]
    · rfl
  | exc x S1 => rfl
  | bad => rfl
theorem fLR2 {t : Bool} {σ : Env} {S : Store} : fLR t (fR2 fa fb) σ S = (fa σ S).bind fun x S => (fb σ S).bind fun y S => match x, y with
    | .int i, .int j => if small i = true ∧ small j = true then gRg t i j S else .bad
    | _, _ => .bad := by
  show ((fa σ S).bind _).bind _ = _
  rw [Out.bind_assoc]
  cases fa σ S with
  | ok a S1 =>
    show ((fb σ S1).bind _).bind _ = (fb σ S1).bind _
    rw [Out.bind_assoc]
    cases fb σ S1 with
    | ok b S2 =>
      show Out.bind _ _ = _
      cases a <;> cases b <;> try rfl
      rename_i i j
      show (Out.bind (if small i = true ∧ small j = true then _ else _) _) = (if small i = true ∧ small j = true then _ else _)
      split
      · rfl
      · rfl
    | exc x S2 => rfl
    | bad => rfl
  | exc x S1 => rfl
  | bad => rfl
theorem prg1 (O : COk w C W c X) {x : Str} {a : Expr} {p pos : Pos} (h1 : x = ("range" : Str)) (h2 : isGl c.sc x = true) (h3 : isStar a = false) (ha : PE X a (ED w W fa)) : PRg X (.Call (.Name x p) [a] [] pos) (tRg1 (ED w W fa)) := by
  subst h1
  exact prg_1 (O.gl h2) (O.bl "range" (by decide +kernel)) ha (star_plain h3)
theorem prg2 (O : COk w C W c X) {x : Str} {a b : Expr} {p pos : Pos} (h1 : x = ("range" : Str)) (h2 : isGl c.sc x = true) (h3 : isStar a = false) (h4 : isStar b = false) (ha : PE X a (ED w W fa)) (hb : PE X b (ED w W fb)) : PRg X (.Call (.Name x p) [a, b] [] pos) (tRg2 (ED w W fa) (ED w W fb)) := by
  subst h1
  exact prg_2 (O.gl h2) (O.bl "range" (by decide +kernel)) ha hb (star_plain h3) (star_plain h4) (plain_all (by simp [h4]))
theorem g_lrgF1 (O : COk w C W c X) (hh : c.hot = false) {x y : Str} {a : Expr} {p pos p2 pos2 : Pos} (h0 : y = ("list" : Str)) (h0' : isGl c.sc y = true) (h1 : x = ("range" : Str)) (h2 : isGl c.sc x = true) (h3 : isStar a = false) (ha : PE X a (ED w W fa)) :
    PE X (.Call (.Name y p2) [.Call (.Name x p) [a] [] pos] [] pos2) (EF w W (fLR false (fR1 fa))) := by
  subst h0
  refine PE_imp (pe_listRg (O.calm hh) (O.gl h0') (O.bl "list" (by decide +kernel)) (prg1 O h1 h2 h3 ha) (star_plain rfl)) fun σ H Q ⟨σd, S, L, er, r, h⟩ => ?_
  rw [fLR1] at h
  refine ⟨σd, S, L, er, r, (EndF.bind h).imp fun x H1 ⟨d, S1, L1, g1, r1, d1, h1⟩ => ?_⟩
  cases d <;> try exact h1.elim
  rename_i j
  cases of_i d1
  have h1 : EndF w W σ L1 H1 Q (if small j = true then gRg false 0 j S1 else .bad) := h1
  split at h1
  · rename_i hj
    exact ⟨j, rfl, end_rgL (O.xn hh) (by decide) hj r1 h1⟩
  · exact h1.elim
theorem g_lrgF2 (O : COk w C W c X) (hh : c.hot = false) {x y : Str} {a b : Expr} {p pos p2 pos2 : Pos} (h0 : y = ("list" : Str)) (h0' : isGl c.sc y = true) (h1 : x = ("range" : Str)) (h2 : isGl c.sc x = true) (h3 : isStar a = false) (h4 : isStar b = false) (ha : PE X a (ED w W fa)) (hb : PE X b (ED w W fb)) :
    PE X (.Call (.Name y p2) [.Call (.Name x p) [a, b] [] pos] [] pos2) (EF w W (fLR false (fR2 fa fb))) := by
  subst h0
  refine PE_imp (pe_listRg (O.calm hh) (O.gl h0') (O.bl "list" (by decide +kernel)) (prg2 O h1 h2 h3 h4 ha hb) (star_plain rfl)) fun σ H Q ⟨σd, S, L, er, r, h⟩ => ?_
  rw [fLR2] at h
  refine ⟨σd, S, L, er, r, (EndF.bind h).imp fun x H1 ⟨d, S1, L1, g1, r1, d1, h1⟩ => ?_⟩
  refine ⟨σd, S1, L1, er.grow g1, r1, (EndF.bind h1).imp fun y H2 ⟨e, S2, L2, g2, r2, d2, h2⟩ => ?_⟩
  cases d with
  | int i =>
    cases e with
    | int j =>
      cases of_i d1
      cases of_i d2
      have h2 : EndF w W σ L2 H2 Q (if small i = true ∧ small j = true then gRg false i j S2 else .bad) := h2
      split at h2
      · rename_i hj
        exact ⟨i, j, rfl, rfl, end_rgL (O.xn hh) hj.1 hj.2 r2 h2⟩
      · exact h2.elim
    | _ => exact h2.elim
  | _ => exact h2.elim
theorem g_lrgT1 (O : COk w C W c X) (hh : c.hot = false) {x y : Str} {a : Expr} {p pos p2 pos2 : Pos} (h0 : y = ("tuple" : Str)) (h0' : isGl c.sc y = true) (h1 : x = ("range" : Str)) (h2 : isGl c.sc x = true) (h3 : isStar a = false) (ha : PE X a (ED w W fa)) :
    PE X (.Call (.Name y p2) [.Call (.Name x p) [a] [] pos] [] pos2) (ED w W (fLR true (fR1 fa))) := by
  subst h0
  refine PE_imp (pe_tupRg (O.calm hh) (O.gl h0') (O.bl "tuple" (by decide +kernel)) (prg1 O h1 h2 h3 ha) (star_plain rfl)) fun σ H Q ⟨σd, S, L, er, r, h⟩ => ?_
  rw [fLR1] at h
  refine ⟨σd, S, L, er, r, (EndR.bind h).imp fun x H1 ⟨d, S1, L1, g1, r1, d1, h1⟩ => ?_⟩
  cases d <;> try exact h1.elim
  rename_i j
  cases of_i d1
  have h1 : EndR w (rD w) W σ L1 H1 Q (if small j = true then gRg true 0 j S1 else .bad) := h1
  split at h1
  · rename_i hj
    exact ⟨j, rfl, end_rgT (by decide) hj r1 h1⟩
  · exact h1.elim
theorem g_lrgT2 (O : COk w C W c X) (hh : c.hot = false) {x y : Str} {a b : Expr} {p pos p2 pos2 : Pos} (h0 : y = ("tuple" : Str)) (h0' : isGl c.sc y = true) (h1 : x = ("range" : Str)) (h2 : isGl c.sc x = true) (h3 : isStar a = false) (h4 : isStar b = false) (ha : PE X a (ED w W fa)) (hb : PE X b (ED w W fb)) :
    PE X (.Call (.Name y p2) [.Call (.Name x p) [a, b] [] pos] [] pos2) (ED w W (fLR true (fR2 fa fb))) := by
  subst h0
  refine PE_imp (pe_tupRg (O.calm hh) (O.gl h0') (O.bl "tuple" (by decide +kernel)) (prg2 O h1 h2 h3 h4 ha hb) (star_plain rfl)) fun σ H Q ⟨σd, S, L, er, r, h⟩ => ?_
  rw [fLR2] at h
  refine ⟨σd, S, L, er, r, (EndR.bind h).imp fun x H1 ⟨d, S1, L1, g1, r1, d1, h1⟩ => ?_⟩
  refine ⟨σd, S1, L1, er.grow g1, r1, (EndR.bind h1).imp fun y H2 ⟨e, S2, L2, g2, r2, d2, h2⟩ => ?_⟩
  cases d with
  | int i =>
    cases e with
    | int j =>
      cases of_i d1
      cases of_i d2
      have h2 : EndR w (rD w) W σ L2 H2 Q (if small i = true ∧ small j = true then gRg true i j S2 else .bad) := h2
      split at h2
      · rename_i hj
        exact ⟨i, j, rfl, rfl, end_rgT hj.1 hj.2 r2 h2⟩
      · exact h2.elim
    | _ => exact h2.elim
  | _ => exact h2.elim
end
end Rs

namespace Rs
open PySem PySem.Spec PyProof.Rows L2
/-! ### set(xs), xs a list of ints -/
def voidSet (w : World) : Obj := { cls := .type "set", dict := none, data := .set #[] 0 (.fresh 0 0 (!w.params.followText "set-order")) }
section
variable {P : Program} {w : World} {A : Around} {E : Value → Shared → Prop} {s : Shared}
theorem set_of_list {l : Addr} {items : Array Value} (ns : List Int) {Q : Value → Shared → Prop} (calm : A.handled = none) (hl : s.heap.IsList l items) (hi : IntsAre items.toList ns) (few : ns.length + 1 < scanBound)
    (k : ∀ (h' : Heap) (tk c : Nat), SetR w h' s.heap.objs.size (fun j => decide (j ∈ ns)) c → c ≤ ns.length → (∀ b o, s.heap.get? b = some o → h'.get? b = some o) → Q (.ref s.heap.objs.size) { s with heap := h', toks := tk }) :
    wpAny (model P w) A (call (.type "set") [.ref l]) Q E s := by
  have size : items.size = ns.length := by
    have := hi.length
    rwa [Array.length_toList] at this
  have ⟨c, tl, hmro⟩ := F.called_set.mro
  have made := F.called_set.made
  have sub := F.called_set.sub
  have nt := F.called_set.notType
  have cc := F.called_set.canCreate
  have tc := F.typeCall_set_1 (.ref l)
  have lk := F.called_set.init.lookup
  refine wpAny_call (codeAny_of_tree ?_)
  change wpAny _ _ (callAny (.type "set") _) _ _ _
  refine wpAny_pure ⟨Code.quiet_builtin _ (by decide +kernel), codeAny_builtin F.entry_type_call ?_⟩
  rw [Around.under_plain (weight_type_call_type "set" [.ref l] []) rfl]
  repeat (any_goals (first | assumption | wp_step))
  refine codeAny_mono (code_set_led1 (.ref l) (E := E) (Q₁ := fun obj s1 => obj = .ref s.heap.objs.size ∧ s1 = { s with heap := s.heap.push (voidSet w) }) ⟨rfl, rfl⟩) fun r s1 hr => ?_
  match r, hr with
  | .error e, hr => exact hr
  | .ok .next, hr => exact hr.elim
  | .ok .brk, hr => exact hr.elim
  | .ok .cont, hr => exact hr.elim
  | .ok (.ret obj), hr =>
    have ⟨e1, e2⟩ : obj = .ref s.heap.objs.size ∧ s1 = { s with heap := s.heap.push (voidSet w) } := hr
    clear hr
    subst e1
    subst e2
    have here : (s.heap.push (voidSet w)).get? s.heap.objs.size = some (voidSet w) := Heap.get?_push_size _ rfl
    have ty : Shared.TypeIs { s with heap := s.heap.push (voidSet w) } (.ref s.heap.objs.size) "set" := ⟨_, here, rfl⟩
    have ib := F.called_set.init.bind (.ref s.heap.objs.size)
    repeat (any_goals (first | assumption | wp_step))
    refine codeAny_mono (codeAny_call_builtin (R := wants (fun r s2 => r = .none ∧ ∃ h' tk c, s2 = { s with heap := h', toks := tk } ∧ SetR w h' s.heap.objs.size (fun j => decide (j ∈ ns)) c ∧ c ≤ ns.length ∧
      ∀ b o, s.heap.get? b = some o → h'.get? b = some o) E) F.called_set.init.plain F.entry_set_init (check_set_init_1 ty ?_)) fun r2 s2 hr2 => ?_
    · have ⟨ol, hol, hcl, nl, hdl⟩ := hl
      have hl1 : (s.heap.push (voidSet w)).IsList l items := hl.push _
      have hol1 : (s.heap.push (voidSet w)).get? l = some ol := Heap.get?_push_of_some _ hol
      have sls := F.sub_list_set
      have slf := F.sub_list_frozenset
      have ne : (Value.type "list" == Value.type "dict") = false := by decide
      cases ol
      cases hcl
      cases hdl
      unfold Builtin.«set.__init__» noKeywords Builtin.Frozenset.updateFrom
      generalize hPI : pyIter = PI
      wp_walk
      subst hPI
      refine wpAny_pyIter_list hl1 ?_
      refine wpAny_bind (wpAny_runValue ?_)
      have calm3 : A.in1.in1.in1.handled = none := by simp [calm]
      have lt : l < s.heap.objs.size := Heap.lt_size hol
      have sz : (s.heap.push (voidSet w)).objs.size = s.heap.objs.size + 1 := Heap.size_push ..
      have apart : l ≠ (s.heap.push (voidSet w)).objs.size := Nat.ne_of_lt (by rw [sz]; exact Nat.lt_succ_of_lt lt)
      have away : s.heap.objs.size ∉ [(s.heap.push (voidSet w)).objs.size, l] := by
        rw [sz]
        simp only [List.mem_cons, List.not_mem_nil, or_false, not_or]
        exact ⟨Nat.ne_of_lt (Nat.lt_succ_self _), Nat.ne_of_gt lt⟩
      have val : ∀ (i : Nat) (v : Value), items[i]? = some v → ∃ k t, ns[i]? = some k ∧ v = .int k t := fun i v hv => by
        have hlt : i < ns.length := by
          rw [← size]
          exact (Array.getElem?_eq_some_iff.mp hv).1
        have ⟨t, e⟩ := hi.int_at i v (by rw [Array.getElem?_toList]; exact hv)
        exact ⟨ns[i], t, List.getElem?_eq_getElem hlt, by rw [e, List.getD_eq_getElem?_getD, List.getElem?_eq_getElem hlt] <;> rfl⟩
      refine set_update_ints ((Walks.list calm3 _ l apart items).toS) s.heap.objs.size away ns size few val (items.size - 0) 0 _ (by omega) (Nat.zero_le _) ⟨⟨_, Heap.get?_push_size _ rfl, rfl, rfl⟩, hl1.push _⟩ ⟨0, Nat.le_refl 0, setR_new_at (Heap.get?_push_of_some _ here)⟩ fun s' c' mv le R => ?_
      have ⟨h', g', d', tk', os'⟩ := s'
      have eg : g' = s.gens := mv.gens
      have ed : d' = s.drawn := mv.drawn
      have eo : os' = s.os := mv.os
      subst eg
      subst ed
      subst eo
      change wpAny _ _ _ _ _ _
      refine wpAny_pure ?_
      change wpAny _ _ (ret Value.none) _ _ _
      refine wpAny_pure ⟨rfl, h', tk', c', rfl, R, by omega, fun b o e => ?_⟩
      have hb := Heap.lt_size e
      refine mv.heap b o ?_ (Heap.get?_push_of_some _ (Heap.get?_push_of_some _ e))
      simp only [List.mem_cons, List.not_mem_nil, or_false, not_or]
      exact ⟨Nat.ne_of_lt hb, Nat.ne_of_lt (show b < (s.heap.push (voidSet w)).objs.size by rw [sz]; exact Nat.lt_succ_of_lt hb)⟩
    · match r2, hr2 with
      | .error e, hr2 => exact hr2
      | .ok .next, hr2 => exact hr2.elim
      | .ok .brk, hr2 => exact hr2.elim
      | .ok .cont, hr2 => exact hr2.elim
      | .ok (.ret r), hr2 =>
        have ⟨e1, h', tk, c, e2, R, le, keep⟩ := hr2
        subst e1
        subst e2
        repeat (any_goals (first | assumption | wp_step))
        exact k _ _ _ R le keep
end
section
variable {X : Cx}
def rSetI (K : PySem.W.Frag) (w : World) : List V → Hp → VK → Prop := fun xs H Q => ∃ (l : Addr) (ns : List Int), xs = [V.ref l] ∧ SqL K H l (ns.map V.int) ∧ ns.length < 64 ∧
  ∀ (p : Addr) (c : Nat), H p = none → c ≤ ns.length → Q (.ref p) (upd H p (SetO w p (fun j => decide (j ∈ ns)) c))
theorem cr_setI (hc : X.calm = true) : CallR X (.type "set") (rSetI X.K X.w) := by
  intro pins s σ H xs us Q I r ⟨l, ns, e, hl, few, q⟩
  subst e
  rw [Vals.ref1 r]
  have ⟨its, rv, pl, hz⟩ := I.list hl
  have new : H s.heap.objs.size = none := I.hok.fresh (Nat.le_refl _)
  have sb : ns.length + 1 < scanBound := Nat.lt_of_le_of_lt (show ns.length + 1 ≤ 64 by omega) (by decide)
  refine set_of_list (P := X.prog) (w := X.w) ns (I.ok.hd hc) pl.isList (by simpa using intsAre_of rv) sb fun h' tk c R le keep => ?_
  exact ⟨.ref s.heap.objs.size, upd H s.heap.objs.size (SetO X.w s.heap.objs.size _ c), I.laid (t' := tk) keep (Nat.le_refl _) (setO_new R), rfl, q _ c new le⟩
end
/-! ### sorted(set(xs)) -/
theorem mem_insU {k j : Int} : ∀ {l : List Int}, j ∈ insU k l ↔ j = k ∨ j ∈ l
  | [] => by simp [insU]
  | x :: xs => by
    unfold insU
    split
    · simp
    · split
      · rename_i h
        subst h
        simp
      · rw [List.mem_cons, mem_insU, List.mem_cons]
        constructor
        · rintro (h | h | h)
          · exact .inr (.inl h)
          · exact .inl h
          · exact .inr (.inr h)
        · rintro (h | h | h)
          · exact .inr (.inl h)
          · exact .inl h
          · exact .inr (.inr h)
theorem rise_insU {k : Int} : ∀ {l : List Int}, l.Pairwise (· < ·) → (insU k l).Pairwise (· < ·)
  | [], _ => by simp [insU]
  | x :: xs, h => by
    have ⟨h1, h2⟩ := List.pairwise_cons.mp h
    unfold insU
    split
    · rename_i hk
      refine List.pairwise_cons.mpr ⟨fun y hy => ?_, h⟩
      rcases List.mem_cons.mp hy with rfl | hy
      · exact hk
      · exact Int.lt_trans hk (h1 y hy)
    · split
      · exact h
      · rename_i hk hn
        refine List.pairwise_cons.mpr ⟨fun y hy => ?_, rise_insU h2⟩
        rcases mem_insU.mp hy with rfl | hy
        · omega
        · exact h1 y hy
theorem mem_sortU {j : Int} : ∀ {l : List Int}, j ∈ sortU l ↔ j ∈ l
  | [] => by simp [sortU]
  | x :: xs => by
    show j ∈ insU x (sortU xs) ↔ _
    rw [mem_insU, mem_sortU, List.mem_cons]
theorem rise_sortU : ∀ {l : List Int}, (sortU l).Pairwise (· < ·)
  | [] => List.Pairwise.nil
  | x :: xs => rise_insU (rise_sortU (l := xs))
theorem rise_one : ∀ {a b : List Int}, a.Pairwise (· < ·) → b.Pairwise (· < ·) → (∀ k, k ∈ a ↔ k ∈ b) → a = b
  | [], [], _, _, _ => rfl
  | [], y :: b, _, _, h => by simpa using (h y).mpr List.mem_cons_self
  | x :: a, [], _, _, h => by simpa using (h x).mp List.mem_cons_self
  | x :: a, y :: b, ha, hb, h => by
    have ⟨a1, a2⟩ := List.pairwise_cons.mp ha
    have ⟨b1, b2⟩ := List.pairwise_cons.mp hb
    have e : x = y := by
      rcases List.mem_cons.mp ((h x).mp List.mem_cons_self) with e | e
      · exact e
      · rcases List.mem_cons.mp ((h y).mpr List.mem_cons_self) with e' | e'
        · exact e'.symm
        · have := a1 y e'
          have := b1 x e
          omega
    subst e
    rw [rise_one a2 b2 fun k => ?_]
    constructor
    · intro hk
      rcases List.mem_cons.mp ((h k).mp (List.mem_cons_of_mem _ hk)) with e | e
      · have := a1 k hk
        omega
      · exact e
    · intro hk
      rcases List.mem_cons.mp ((h k).mpr (List.mem_cons_of_mem _ hk)) with e | e
      · have := b1 k hk
        omega
      · exact e
theorem denL_ofInts {K : KX} {L : List Addr} {H : Hp} : ∀ ns : List Int, DenL K L H (ns.map D.int) (ns.map V.int)
  | [] => DenL.nil
  | n :: ns => DenL.cons (by rw [Den]) (denL_ofInts ns)
theorem set_boot : bootBuiltins "set" = some (.type "set") := by decide +kernel
theorem sorted_boot : bootBuiltins "sorted" = some (.builtin "sorted") := by decide +kernel
section
variable {w : Xd} {C : CallT} {W : WX} {c : Cc} {X : Cx} {fa : Env → Store → Out D}
theorem ev_srt_f {a : QE} : ev C (.srt a) = fun σ S => (ev C a σ S).bind srtQ := by
  funext σ S
  first | (rw [ev]; done) | (rw [ev]; rfl)
end
section
open HT
/-! ### xs[::-1], xs a tuple -/
theorem places_rev (n : Nat) : Builtin.Slice.slicePlaces ((n : Int) - 1) (-1) (-1) = n := by
  unfold Builtin.Slice.slicePlaces
  rw [if_neg (by decide)]
  by_cases h : (n : Int) - 1 > -1
  · rw [if_pos h]
    have : ((n : Int) - 1 - -1 - 1) / (- -1) + 1 = n := by
      rw [Int.neg_neg, Int.ediv_one]
      omega
    rw [this] <;> rfl
  · rw [if_neg h]
    omega
theorem fmap_cong {α β : Type} {f g : α → Option β} : ∀ l : List α, (∀ x, x ∈ l → f x = g x) → l.filterMap f = l.filterMap g
  | [], _ => rfl
  | x :: l, h => by
    rw [List.filterMap_cons, List.filterMap_cons, h x (List.mem_cons_self ..), fmap_cong l fun y m => h y (List.mem_cons_of_mem _ m)]
theorem pick_all {α : Type} (ys : List α) : (List.range ys.length).filterMap (fun m => ys[m]?) = ys := by
  have e : (List.range ys.length).filterMap (fun m => ys[m]?) = ((List.range ys.length).map (fun m => ys[m]?)).filterMap id := by
    rw [List.filterMap_map] <;> rfl
  have e2 : (List.range ys.length).map (fun m => ys[m]?) = ys.map some := by
    apply List.ext_getElem?
    intro i
    rw [List.getElem?_map, List.getElem?_map]
    by_cases h : i < ys.length
    · rw [List.getElem?_range h, List.getElem?_eq_getElem h] <;> simp
    · rw [List.getElem?_eq_none (by rw [List.length_range]; omega), List.getElem?_eq_none (by omega)] <;> rfl
  rw [e, e2, List.filterMap_map]
  show ys.filterMap some = ys
  exact List.filterMap_some
theorem pick_rev {α : Type} (xs : List α) : (List.range xs.length).filterMap (fun (m : Nat) => xs.toArray[(((xs.length : Int) - 1) + (m : Int) * -1).toNat]?) = xs.reverse := by
  have : (List.range xs.length).filterMap (fun (m : Nat) => xs.toArray[(((xs.length : Int) - 1) + (m : Int) * -1).toNat]?) = (List.range xs.length).filterMap fun m => xs.reverse[m]? := by
    refine fmap_cong _ fun m hm => ?_
    have hm := List.mem_range.mp hm
    rw [List.getElem?_reverse hm, List.getElem?_toArray]
    congr 1
    omega
  rw [this]
  have e : xs.length = xs.reverse.length := by rw [List.length_reverse]
  rw [e]
  exact pick_all _
section
variable {prog : Program} {w : World} {A : Around} {E : Value → Shared → Prop} {s : Shared}
theorem sliceApplied_rev {sl : Addr} {vl vu vs : Value} {n : Nat} {Q : Int × Int × Nat → Shared → Prop} (hs : s.heap.IsSliceOf sl vl vu vs) (pl : IsPart vl none) (pu : IsPart vu none) (ps : IsPart vs (some (-1)))
    (h : Q ((n : Int) - 1, -1, n) s) : wpAny (model prog w) A (Builtin.Slice.sliceApplied (.ref sl) (pure (n : Int))) Q E s := by
  obtain ⟨os, hos, hcs, hds⟩ := id hs
  unfold Builtin.Slice.sliceApplied Builtin.Slice.sliceFields
  refine wpAny_bind (wpAny_bind (wpAny_field hos hds (x := vl) rfl (wpAny_bind (wpAny_field hos hds (x := vu) rfl (wpAny_bind (wpAny_field hos hds (x := vs) rfl (wpAny_pure ?_)))))))
  refine wpAny_bind (slicePart_ ps ?_)
  show wpAny _ _ (if ((-1 : Int) == 0) = true then _ else _) _ _ s
  rw [if_neg (by decide)]
  refine wpAny_bind (slicePart_ pl (wpAny_bind (slicePart_ pu (wpAny_bind (wpAny_pure ?_)))))
  show wpAny _ _ (pure ((n : Int) - 1, (-1 : Int), Builtin.Slice.slicePlaces ((n : Int) - 1) (-1) (-1))) _ _ s
  rw [places_rev]
  exact wpAny_pure h
theorem getItem_tuple_rev {t sl : Addr} {its : List Value} {vl vu vs : Value} {Q : Value → Shared → Prop} (ht : IsTup s.heap t its.toArray) (hs : s.heap.IsSliceOf sl vl vu vs) (pl : IsPart vl none) (pu : IsPart vu none) (ps : IsPart vs (some (-1)))
    (h : Q (.ref s.heap.objs.size) { s with heap := s.heap.push { cls := .type "tuple", data := .seq its.reverse.toArray } })
    (hsz : its.length ≤ sizeLine) : wpAny (model prog w) A (getItem (.ref t) (.ref sl)) Q E s := by
  have htake : sizeOk (.seq its.reverse.toArray) := by
    show its.reverse.toArray.size ≤ sizeLine
    rw [List.size_toArray, List.length_reverse]
    exact hsz
  obtain ⟨os, hos, hcs, hds⟩ := id hs
  have hTs : s.TypeIs (.ref sl) "slice" := ⟨os, hos, hcs⟩
  unfold getItem
  try with_reducible refine wpAny_holding ?_
  first | refine wpAny_bind (wpAny_pure ?_) | skip
  refine wpAny_bind (wpAny_sequenceKey ht.typeIs (by decide) ?_)
  refine wpAny_bind (wpAny_callSpecial?_slot (name := Str.ofString "__getitem__") ht.typeIs PyProof.Rows.slot_tuple_getitem
    (wpAny_call_entry PyProof.Rows.slot_tuple_getitem ht.typeIs entry_tuple_getitem ?_ (args_tuple_getitem _ _)))
  show wpAny _ _ (Builtin.Tuple.tupleItemsOf (.ref t) >>= _) _ _ s
  refine wpAny_bind (tupleItemsOf_ ht ?_)
  refine wpAny_bind (wpAny_typeOf hTs ?_)
  rw [if_pos (by decide)]
  refine wpAny_bind (sliceApplied_rev hs pl pu ps ?_)
  have hno : ¬ ((((its.toArray.size : Nat) : Int) - 1 == 0 && (-1 : Int) == 1 && its.toArray.size == its.toArray.size) = true) := by
    intro q
    rw [Bool.and_eq_true, Bool.and_eq_true] at q
    exact absurd q.1.2 (by decide)
  show wpAny _ _ (if (((its.toArray.size : Nat) : Int) - 1 == 0 && (-1 : Int) == 1 && its.toArray.size == its.toArray.size) = true then _ else _) _ _ s
  rw [if_neg hno, List.size_toArray, pick_rev]
  first
    | exact wpAny_bind (m := Builtin.Tuple.tupleExact _) (wpAny_newObj_type (wpAny_pure ⟨_, rfl, wpAny_pure h⟩) htake)
    | exact wpAny_bind (m := Builtin.Tuple.tupleExact _) (wpAny_newObj_type (wpAny_bind (wpAny_pure (wpAny_pure ⟨_, rfl, wpAny_pure h⟩))) htake)
    | exact wpAny_bind (wpAny_bind (m := Builtin.Tuple.tupleExact _) (wpAny_newObj_type (wpAny_pure (wpAny_pure ⟨_, rfl, wpAny_pure h⟩)) htake))
    | exact wpAny_bind (wpAny_bind (m := Builtin.Tuple.tupleExact _) (wpAny_newObj_type (wpAny_pure ⟨_, rfl, wpAny_pure h⟩) htake))
end
section
variable {X : Cx}
/-- backwards, a list or a tuple -/
def tRevB (K : PySem.W.Frag) (te : TE) : TE := fun σ H Q => te σ H fun x H1 => ∃ a xs, x = .ref a ∧ ((SqL K H1 a xs ∧ ∀ p, H1 p = none → Q (.ref p) (upd H1 p (.lst xs.reverse))) ∨ (SqT K H1 a xs ∧ ∀ p, H1 p = none → Q (.ref p) (upd H1 p (.tup xs.reverse))))
theorem pe_revB {e : Expr} {te : TE} {k : Nat} {p1 p2 p3 pos : Pos} (he : PE X e te) : PE X (.Subscript e (.Slice none none (some (.UnaryOp .USub (.Constant (.int 1) k p1) p2)) p3) pos) (tRevB X.K te) := by
  refine ⟨fun pins s σ H Q I h => ?_⟩
  refine Subscript_ (thn (he.run pins s σ H _ I h) fun v s1 ⟨x, H1, I1, r1, q1⟩ => ?_)
  obtain ⟨a, xs, ex, q1⟩ := q1
  subst ex
  cases r1
  have hst : PO X (some (.UnaryOp .USub (.Constant (.int 1) k p1) p2)) (tPart (tUn (rU fun i => .int (-i)) (tC (.int 1)))) := po_some (pe_un un_neg pe_int)
  refine wpAny_Slice (thn (po_none.run pins s1 σ H1 (fun o H2 => o = none ∧ H2 = H1) I1 ⟨rfl, rfl⟩) fun vl s2 ⟨l, H2, I2, pl, el, e2⟩ => ?_)
  subst el e2
  refine thn (po_none.run pins s2 σ H2 (fun o H3 => o = none ∧ H3 = H2) I2 ⟨rfl, rfl⟩) fun vu s3 ⟨u, H3, I3, pu, eu, e3⟩ => ?_
  subst eu e3
  refine thn (hst.run pins s3 σ H3 (fun o H4 => o = some (-1) ∧ H4 = H3) I3 ⟨1, rfl, -1, rfl, rfl, rfl⟩) fun vs s4 ⟨o, H4, I4, ps, eo, e4⟩ => ?_
  subst eo e4
  have I5 : Inv X pins σ H4 { s4 with heap := s4.heap.push { cls := .type "slice", data := .fields #[vl, vu, vs] } } := I4.kept (t' := s4.toks) fun b ob q => Heap.get?_push_of_some _ q
  obtain ⟨hx, q⟩ | ⟨hx, q⟩ := q1
  · obtain ⟨its, r, ht, hz⟩ := I5.list hx
    have hlen := r.length
    show wpAny (model X.prog X.w) X.A (subscriptTail e (.Slice none none (some (.UnaryOp .USub (.Constant (.int 1) k p1) p2)) p3) (.ref a) (.ref s4.heap.objs.size)) (EP X pins σ Q) X.xe { s4 with heap := s4.heap.push { cls := .type "slice", data := .fields #[vl, vu, vs] } }
    refine tail_any (ops := [.ref a, .ref s4.heap.objs.size]) ht.isList.typeIs (PySem.slot_list_getitem.lookup) ?_ (by with_unfolding_all rfl)
    refine wpAny_getItem_list_slice ht.isList (Heap.IsSliceOf.new _ vl vu vs) pl pu ps (by decide) ?_ (by rw [List.size_toArray]; omega)
    rw [PySem.W.krv_pick]
    refine ⟨.ref _, _, I5.laid (t' := s4.toks) (o := .lst xs.reverse) (fun b ob q => Heap.get?_push_of_some _ q) (Nat.le_refl _) ?_, rfl, q _ (I5.hok.fresh (Nat.le_refl _))⟩
    exact ⟨by rw [List.length_reverse]; exact hz, _, 0, r.reverse, Heap.get?_push_size _ rfl⟩
  · obtain ⟨its, r, ht, hz⟩ := I5.tuple hx
    have hlen := r.length
    show wpAny (model X.prog X.w) X.A (subscriptTail e (.Slice none none (some (.UnaryOp .USub (.Constant (.int 1) k p1) p2)) p3) (.ref a) (.ref s4.heap.objs.size)) (EP X pins σ Q) X.xe { s4 with heap := s4.heap.push { cls := .type "slice", data := .fields #[vl, vu, vs] } }
    refine tail_any (ops := [.ref a, .ref s4.heap.objs.size]) ht.typeIs (PyProof.Rows.slot_tuple_getitem.lookup) ?_ (by with_unfolding_all rfl)
    refine getItem_tuple_rev ht (Heap.IsSliceOf.new _ vl vu vs) pl pu ps ?_ (by omega)
    refine ⟨.ref _, _, I5.laid (t' := s4.toks) (o := .tup xs.reverse) (fun b ob q => Heap.get?_push_of_some _ q) (Nat.le_refl _) ?_, rfl, q _ (I5.hok.fresh (Nat.le_refl _))⟩
    exact ⟨by rw [List.length_reverse]; exact hz, _, r.reverse, IsTup.new _ _⟩
end
end
/-! ### backwards -/
section
variable {w : Xd} {C : CallT} {W : WX} {c : Cc} {X : Cx} {fa : Env → Store → Out D}
theorem g_rev (O : COk w C W c X) {e : Expr} {k : Nat} {p1 p2 p3 pos : Pos} (ha : PE X e (ED w W fa)) : PE X (.Subscript e (.Slice none none (some (.UnaryOp .USub (.Constant (.int 1) k p1) p2)) p3) pos) (ED w W fun σ S => (fa σ S).bind fun x S => ofO (revD x) S) := by
  refine PE_imp (pe_revB ha) fun σ H Q ⟨σd, S, L, er, r, h⟩ => ?_
  refine ⟨σd, S, L, er, r, (EndR.bind h).imp fun x H1 ⟨d, S1, L1, g1, r1, d1, h1⟩ => ?_⟩
  have ⟨z, e1, h2⟩ := h1.ofO
  cases d <;> try (cases e1; done)
  · cases e1
    have ⟨a, xs, e2, e3, _, e4⟩ := den_tup d1
    exact ⟨a, xs, e2, .inr ⟨.of e3, fun p np => end_tup h2 r1 (DenL.reverse e4) np⟩⟩
  · cases e1
    have ⟨a, xs, e2, e3, _, e4⟩ := den_lst d1
    exact ⟨a, xs, e2, .inl ⟨.of e3, fun p np => end_lst h2 r1 (DenL.reverse e4) np⟩⟩
end
/-! ### x[1::2], x a tuple of twelve -/
section
open HT
variable {prog : Program} {w : World} {A : Around} {E : Value → Shared → Prop} {s : Shared}
theorem sliceApplied_odd {sl : Addr} {vl vu vs : Value} {Q : Int × Int × Nat → Shared → Prop} (hs : s.heap.IsSliceOf sl vl vu vs) (pl : IsPart vl (some 1)) (pu : IsPart vu none) (ps : IsPart vs (some 2))
    (h : Q (1, 2, 6) s) : wpAny (model prog w) A (Builtin.Slice.sliceApplied (.ref sl) (pure ((12 : Nat) : Int))) Q E s := by
  obtain ⟨os, hos, hcs, hds⟩ := id hs
  unfold Builtin.Slice.sliceApplied Builtin.Slice.sliceFields
  refine wpAny_bind (wpAny_bind (wpAny_field hos hds (x := vl) rfl (wpAny_bind (wpAny_field hos hds (x := vu) rfl (wpAny_bind (wpAny_field hos hds (x := vs) rfl (wpAny_pure ?_)))))))
  refine wpAny_bind (slicePart_ ps ?_)
  show wpAny _ _ (if ((2 : Int) == 0) = true then _ else _) _ _ s
  rw [if_neg (by decide)]
  exact wpAny_bind (slicePart_ pl (wpAny_bind (slicePart_ pu (wpAny_bind (wpAny_pure (wpAny_pure h))))))
theorem getItem_tuple_odd {t sl : Addr} {its : List Value} {vl vu vs : Value} {Q : Value → Shared → Prop} (ht : IsTup s.heap t its.toArray) (hs : s.heap.IsSliceOf sl vl vu vs) (pl : IsPart vl (some 1)) (pu : IsPart vu none) (ps : IsPart vs (some 2)) (h12 : its.length = 12)
    (h : Q (.ref s.heap.objs.size) { s with heap := s.heap.push { cls := .type "tuple", data := .seq ((List.range 6).filterMap fun (m : Nat) => its.toArray[((1 : Int) + (m : Int) * 2).toNat]?).toArray } }) : wpAny (model prog w) A (getItem (.ref t) (.ref sl)) Q E s := by
  have htake : sizeOk (.seq ((List.range 6).filterMap fun (m : Nat) => its.toArray[((1 : Int) + (m : Int) * 2).toNat]?).toArray) := by
    show ((List.range 6).filterMap fun (m : Nat) => its.toArray[((1 : Int) + (m : Int) * 2).toNat]?).toArray.size ≤ sizeLine
    rw [List.size_toArray]
    have := List.length_filterMap_le (fun (m : Nat) => its.toArray[((1 : Int) + (m : Int) * 2).toNat]?) (List.range 6)
    rw [List.length_range] at this
    rw [sizeLine_eq]
    omega
  obtain ⟨os, hos, hcs, hds⟩ := id hs
  have hTs : s.TypeIs (.ref sl) "slice" := ⟨os, hos, hcs⟩
  unfold getItem
  try with_reducible refine wpAny_holding ?_
  first | refine wpAny_bind (wpAny_pure ?_) | skip
  refine wpAny_bind (wpAny_sequenceKey ht.typeIs (by decide) ?_)
  refine wpAny_bind (wpAny_callSpecial?_slot (name := Str.ofString "__getitem__") ht.typeIs PyProof.Rows.slot_tuple_getitem
    (wpAny_call_entry PyProof.Rows.slot_tuple_getitem ht.typeIs entry_tuple_getitem ?_ (args_tuple_getitem _ _)))
  show wpAny _ _ (Builtin.Tuple.tupleItemsOf (.ref t) >>= _) _ _ s
  refine wpAny_bind (tupleItemsOf_ ht ?_)
  refine wpAny_bind (wpAny_typeOf hTs ?_)
  rw [if_pos (by decide)]
  have hz : its.toArray.size = 12 := by rw [List.size_toArray, h12]
  rw [hz]
  refine wpAny_bind (sliceApplied_odd hs pl pu ps ?_)
  show wpAny _ _ (if (((1 : Int) == 0 && (2 : Int) == 1 && (6 : Nat) == 12) = true) then _ else _) _ _ s
  rw [if_neg (by decide)]
  first
    | exact wpAny_bind (m := Builtin.Tuple.tupleExact _) (wpAny_newObj_type (wpAny_pure ⟨_, rfl, wpAny_pure h⟩) htake)
    | exact wpAny_bind (m := Builtin.Tuple.tupleExact _) (wpAny_newObj_type (wpAny_bind (wpAny_pure (wpAny_pure ⟨_, rfl, wpAny_pure h⟩))) htake)
    | exact wpAny_bind (wpAny_bind (m := Builtin.Tuple.tupleExact _) (wpAny_newObj_type (wpAny_pure (wpAny_pure ⟨_, rfl, wpAny_pure h⟩)) htake))
    | exact wpAny_bind (wpAny_bind (m := Builtin.Tuple.tupleExact _) (wpAny_newObj_type (wpAny_pure ⟨_, rfl, wpAny_pure h⟩) htake))
end
section
variable {X : Cx}
def oddV (xs : List V) : Option (List V) := match xs with
  | [_, a, _, b, _, c, _, d, _, e, _, f] => some [a, b, c, d, e, f]
  | _ => none
def tOdd (K : PySem.W.Frag) (te : TE) : TE := fun σ H Q => te σ H fun x H1 => ∃ a xs ys, x = .ref a ∧ oddV xs = some ys ∧ SqT K H1 a xs ∧ ∀ p, H1 p = none → Q (.ref p) (upd H1 p (.tup ys))
theorem oddV_at {xs ys : List V} {its : List Value} (h : oddV xs = some ys) (r : Vals xs its) : its.length = 12 ∧ Vals ys ((List.range 6).filterMap fun (m : Nat) => its.toArray[((1 : Int) + (m : Int) * 2).toNat]?) := by
  unfold oddV at h
  split at h
  · cases h
    cases r with | cons a1 r => cases r with | cons a2 r => cases r with | cons a3 r => cases r with | cons a4 r => cases r with | cons a5 r => cases r with | cons a6 r =>
    cases r with | cons a7 r => cases r with | cons a8 r => cases r with | cons a9 r => cases r with | cons b1 r => cases r with | cons b2 r => cases r with | cons b3 r =>
    cases r
    exact ⟨rfl, .cons a2 (.cons a4 (.cons a6 (.cons a8 (.cons b1 (.cons b3 .nil)))))⟩
  · cases h
theorem pe_odd {e : Expr} {te : TE} {k1 k2 : Nat} {p1 p2 p3 pos : Pos} (he : PE X e te) : PE X (.Subscript e (.Slice (some (.Constant (.int 1) k1 p1)) none (some (.Constant (.int 2) k2 p2)) p3) pos) (tOdd X.K te) := by
  refine ⟨fun pins s σ H Q I h => ?_⟩
  refine Subscript_ (thn (he.run pins s σ H _ I h) fun v s1 ⟨x, H1, I1, r1, q1⟩ => ?_)
  obtain ⟨a, xs, ys, ex, eo, hx, q⟩ := q1
  subst ex
  cases r1
  have hlo : PO X (some (.Constant (.int 1) k1 p1)) (tPart (tC (.int 1))) := po_some pe_int
  have hst : PO X (some (.Constant (.int 2) k2 p2)) (tPart (tC (.int 2))) := po_some pe_int
  refine wpAny_Slice (thn (hlo.run pins s1 σ H1 (fun o H2 => o = some 1 ∧ H2 = H1) I1 ⟨1, rfl, rfl, rfl⟩) fun vl s2 ⟨l, H2, I2, pl, el, e2⟩ => ?_)
  subst el e2
  refine thn (po_none.run pins s2 σ H2 (fun o H3 => o = none ∧ H3 = H2) I2 ⟨rfl, rfl⟩) fun vu s3 ⟨u, H3, I3, pu, eu, e3⟩ => ?_
  subst eu e3
  refine thn (hst.run pins s3 σ H3 (fun o H4 => o = some 2 ∧ H4 = H3) I3 ⟨2, rfl, rfl, rfl⟩) fun vs s4 ⟨o, H4, I4, ps, eo2, e4⟩ => ?_
  subst eo2 e4
  have I5 : Inv X pins σ H4 { s4 with heap := s4.heap.push { cls := .type "slice", data := .fields #[vl, vu, vs] } } := I4.kept (t' := s4.toks) fun b ob q => Heap.get?_push_of_some _ q
  obtain ⟨its, r, ht, hz⟩ := I5.tuple hx
  obtain ⟨z1, z2⟩ := oddV_at eo r
  show wpAny (model X.prog X.w) X.A (subscriptTail e (.Slice (some (.Constant (.int 1) k1 p1)) none (some (.Constant (.int 2) k2 p2)) p3) (.ref a) (.ref s4.heap.objs.size)) (EP X pins σ Q) X.xe { s4 with heap := s4.heap.push { cls := .type "slice", data := .fields #[vl, vu, vs] } }
  refine tail_any (ops := [.ref a, .ref s4.heap.objs.size]) ht.typeIs (PyProof.Rows.slot_tuple_getitem.lookup) ?_ (by with_unfolding_all rfl)
  refine getItem_tuple_odd ht (Heap.IsSliceOf.new _ vl vu vs) pl pu ps z1 ?_
  refine ⟨.ref _, _, I5.laid (t' := s4.toks) (o := .tup ys) (fun b ob q => Heap.get?_push_of_some _ q) (Nat.le_refl _) ?_, rfl, q _ (I5.hok.fresh (Nat.le_refl _))⟩
  refine ⟨?_, _, z2, IsTup.new _ _⟩
  unfold oddV at eo
  split at eo
  · cases eo
    rw [sizeLine_eq]
    show 6 ≤ _
    omega
  · cases eo
end
section
variable {w : Xd} {C : CallT} {W : WX} {c : Cc} {X : Cx} {fa : Env → Store → Out D}
theorem oddD_den {K : KX} {L : List Addr} {H : Hp} {l m : List D} {xs : List V} (h : oddD (.tup l) = some (.tup m)) (d : DenL K L H l xs) : ∃ ys, oddV xs = some ys ∧ DenL K L H m ys := by
  unfold oddD at h
  split at h
  · rename_i q
    cases q
    cases h
    simp only [DenL] at d ⊢
    obtain ⟨x1, l1, rfl, d1, x2, l2, rfl, d2, x3, l3, rfl, d3, x4, l4, rfl, d4, x5, l5, rfl, d5, x6, l6, rfl, d6, x7, l7, rfl, d7, x8, l8, rfl, d8, x9, l9, rfl, d9, y1, m1, rfl, e1, y2, m2, rfl, e2, y3, m3, rfl, e3, rfl⟩ := d
    exact ⟨[x2, x4, x6, x8, y1, y3], rfl, _, _, rfl, d2, _, _, rfl, d4, _, _, rfl, d6, _, _, rfl, d8, _, _, rfl, e1, _, _, rfl, e3, rfl⟩
  · cases h
theorem g_odd (O : COk w C W c X) {e : Expr} {k1 k2 : Nat} {p1 p2 p3 pos : Pos} (ha : PE X e (ED w W fa)) : PE X (.Subscript e (.Slice (some (.Constant (.int 1) k1 p1)) none (some (.Constant (.int 2) k2 p2)) p3) pos) (ED w W fun σ S => (fa σ S).bind fun x S => ofO (oddD x) S) := by
  refine PE_imp (pe_odd ha) fun σ H Q ⟨σd, S, L, er, r, h⟩ => ?_
  refine ⟨σd, S, L, er, r, (EndR.bind h).imp fun x H1 ⟨d, S1, L1, g1, r1, d1, h1⟩ => ?_⟩
  have ⟨z, e1, h2⟩ := h1.ofO
  have hz : ∃ l m, d = .tup l ∧ z = .tup m := by
    unfold oddD at e1
    split at e1
    · cases e1
      exact ⟨_, _, rfl, rfl⟩
    · cases e1
  obtain ⟨l, m, rfl, rfl⟩ := hz
  have ⟨a, xs, e2, e3, _, e4⟩ := den_tup d1
  obtain ⟨ys, e5, e6⟩ := oddD_den e1 e4
  exact ⟨a, xs, ys, e2, e5, .of e3, fun p np => end_tup h2 r1 e6 np⟩
end
end Rs

/-! Tables of sets of any size: the probe meets every place; what is put in is found again. -/
namespace TA
open PySem L2
/-! ### the round of i -> 5 i + 1 by any power of two -/
def MaskP (m : Nat) : Prop := ∃ k, 3 ≤ k ∧ m + 1 = 2 ^ k
def sm : Nat → Nat
  | 0 => 0
  | n + 1 => 5 * sm n + 1
theorem sm_add (a : Nat) : ∀ d, sm (a + d) = (4 * sm a + 1) * sm d + sm a
  | 0 => by simp [sm]
  | d + 1 => by
    show 5 * sm (a + d) + 1 = (4 * sm a + 1) * (5 * sm d + 1) + sm a
    rw [sm_add a d, Nat.mul_add, Nat.mul_add]
    have : (4 * sm a + 1) * (5 * sm d) = 5 * ((4 * sm a + 1) * sm d) := by
      rw [← Nat.mul_assoc, Nat.mul_comm _ 5, Nat.mul_assoc]
    rw [this]
    omega
theorem sm_par : ∀ d, sm d % 2 = d % 2
  | 0 => rfl
  | d + 1 => by
    have := sm_par d
    show (5 * sm d + 1) % 2 = _
    omega
theorem two_odd : ∀ (k x y : Nat), y % 2 = 1 → 2 ^ k ∣ x * y → 2 ^ k ∣ x
  | 0, x, y, _, _ => by simp
  | k + 1, x, y, hy, h => by
    have e2 : 2 ∣ x * y := Nat.dvd_trans (by rw [Nat.pow_succ]; exact Nat.dvd_mul_left _ _) h
    have ex : x % 2 = 0 := by
      have h1 := Nat.mod_eq_zero_of_dvd e2
      rw [Nat.mul_mod, hy] at h1
      have : x % 2 < 2 := Nat.mod_lt _ (by decide)
      omega
    obtain ⟨z, hz⟩ : ∃ z, x = 2 * z := ⟨x / 2, by omega⟩
    subst hz
    rw [Nat.pow_succ, Nat.mul_comm _ 2] at h ⊢
    rw [Nat.mul_assoc] at h
    exact Nat.mul_dvd_mul_left 2 (two_odd k z y hy (Nat.dvd_of_mul_dvd_mul_left (by decide) h))
theorem two_sm : ∀ (k d : Nat), 2 ^ k ∣ sm d → 2 ^ k ∣ d
  | 0, d, _ => by simp
  | k + 1, d, h => by
    have e2 : 2 ∣ sm d := Nat.dvd_trans (by rw [Nat.pow_succ]; exact Nat.dvd_mul_left _ _) h
    have hd : d % 2 = 0 := by
      rw [← sm_par]
      exact Nat.mod_eq_zero_of_dvd e2
    obtain ⟨e, he⟩ : ∃ e, d = e + e := ⟨d / 2, by omega⟩
    subst he
    rw [sm_add] at h
    have hs : (4 * sm e + 1) * sm e + sm e = 2 * (sm e * (2 * sm e + 1)) := by
      rw [Nat.add_mul, Nat.mul_add, Nat.one_mul, Nat.mul_one]
      have : 4 * sm e * sm e = 2 * (sm e * (2 * sm e)) := by
        rw [Nat.mul_comm (sm e) (2 * sm e), ← Nat.mul_assoc, ← Nat.mul_assoc]
      rw [this]
      omega
    rw [hs, Nat.pow_succ, Nat.mul_comm _ 2] at h
    have h := two_odd k (sm e) (2 * sm e + 1) (by omega) (Nat.dvd_of_mul_dvd_mul_left (by decide) h)
    have := two_sm k e h
    rw [Nat.pow_succ, Nat.mul_comm _ 2, show e + e = 2 * e by omega]
    exact Nat.mul_dvd_mul_left 2 this
theorem lcg_eq {m i : Nat} (hi : i ≤ m) : ∀ n, lcgI m i n = ((4 * sm n + 1) * i + sm n) % (m + 1)
  | 0 => by
    show i = ((4 * 0 + 1) * i + 0) % (m + 1)
    rw [Nat.mul_zero, Nat.zero_add, Nat.one_mul, Nat.add_zero, Nat.mod_eq_of_lt (by omega)]
  | n + 1 => by
    show (lcgI m i n * 5 + 1) % (m + 1) = ((4 * (5 * sm n + 1) + 1) * i + (5 * sm n + 1)) % (m + 1)
    rw [lcg_eq hi n]
    have e : (4 * (5 * sm n + 1) + 1) * i + (5 * sm n + 1) = ((4 * sm n + 1) * i + sm n) * 5 + 1 := by
      have : (4 * (5 * sm n + 1) + 1) * i = (4 * sm n + 1) * i * 5 := by
        rw [Nat.mul_assoc, Nat.mul_comm i 5, ← Nat.mul_assoc]
        congr 1
        omega
      rw [this]
      omega
    rw [e, Nat.add_mod, Nat.mod_mul_mod, ← Nat.add_mod]
theorem lcg_inj {m i : Nat} (hm : MaskP m) (hi : i ≤ m) {a d : Nat} (h : lcgI m i a = lcgI m i (a + d)) : (m + 1) ∣ d := by
  obtain ⟨k, _, hk⟩ := hm
  rw [lcg_eq hi, lcg_eq hi, sm_add] at h
  have e : (4 * ((4 * sm a + 1) * sm d + sm a) + 1) * i + ((4 * sm a + 1) * sm d + sm a) = ((4 * sm a + 1) * i + sm a) + sm d * ((4 * sm a + 1) * (4 * i + 1)) := by
    generalize sm a = x
    generalize sm d = y
    have e1 : (4 * ((4 * x + 1) * y + x) + 1) * i = (4 * x + 1) * i + 4 * ((4 * x + 1) * y) * i := by
      rw [Nat.mul_add, Nat.add_assoc, Nat.add_mul, Nat.add_comm]
    have e2 : y * ((4 * x + 1) * (4 * i + 1)) = 4 * ((4 * x + 1) * y) * i + (4 * x + 1) * y := by
      rw [Nat.mul_add (4 * x + 1), Nat.mul_one, Nat.mul_add y]
      congr 1
      · generalize 4 * x + 1 = z
        ac_rfl
      · rw [Nat.mul_comm]
    rw [e1, e2]
    omega
  rw [e, hk] at h
  have hd : 2 ^ k ∣ sm d * ((4 * sm a + 1) * (4 * i + 1)) := by
    have h2 : (((4 * sm a + 1) * i + sm a) + sm d * ((4 * sm a + 1) * (4 * i + 1))) % 2 ^ k = ((4 * sm a + 1) * i + sm a) % 2 ^ k := h.symm
    have h3 := Nat.sub_mod_eq_zero_of_mod_eq h2
    rw [Nat.add_sub_cancel_left] at h3
    exact Nat.dvd_of_mod_eq_zero h3
  have odd : ((4 * sm a + 1) * (4 * i + 1)) % 2 = 1 := by
    rw [Nat.mul_mod, show (4 * sm a + 1) % 2 = 1 by omega, show (4 * i + 1) % 2 = 1 by omega]
  rw [hk]
  exact two_sm k d (two_odd k _ _ odd hd)
theorem lcg_le {m i : Nat} (hi : i ≤ m) : ∀ n, lcgI m i n ≤ m
  | 0 => hi
  | n + 1 => Nat.le_of_lt_succ (Nat.mod_lt _ (Nat.succ_pos _))
/-- from anywhere each place is met within a round -/
theorem lcgI_all {m i j : Nat} (hm : MaskP m) (hi : i ≤ m) (hj : j ≤ m) : ∃ k, k ≤ m ∧ lcgI m i k = j := by
  refine Classical.byContradiction fun no => ?_
  have nd : ((List.range (m + 1)).map (lcgI m i)).Nodup := by
    rw [List.nodup_iff_pairwise_ne, List.pairwise_map]
    refine List.Pairwise.imp_of_mem (fun {a b} ha hb hab e => ?_) List.pairwise_lt_range
    have hb := List.mem_range.mp hb
    have e : lcgI m i a = lcgI m i (a + (b - a)) := by rw [e, show a + (b - a) = b by omega]
    have := Nat.le_of_dvd (by omega) (lcg_inj hm hi e)
    omega
  have sub : ∀ x ∈ (List.range (m + 1)).map (lcgI m i), x ∈ (List.range (m + 1)).filter fun x => decide (x ≠ j) := fun x hx => by
    obtain ⟨k, hk, rfl⟩ := List.mem_map.mp hx
    have hk := List.mem_range.mp hk
    refine List.mem_filter.mpr ⟨List.mem_range.mpr (by have := lcg_le hi k; omega), decide_eq_true fun e => no ⟨k, by omega, e⟩⟩
  have h1 := nat_nodup_len _ _ nd sub
  have h2 : ((List.range (m + 1)).filter fun x => decide (x ≠ j)).length < (List.range (m + 1)).length := by
    rw [← List.countP_eq_length_filter]
    refine Nat.lt_of_le_of_ne List.countP_le_length fun e => ?_
    have := List.countP_eq_length.mp e j (List.mem_range.mpr (by omega))
    simp at this
  rw [List.length_map] at h1
  omega
end TA

namespace TA
open PySem L2
/-! ### the way by any mask -/
theorem run_all {m : Nat} (hm : MaskP m) (h : Int) {j : Nat} (hj : j ≤ m) : ∃ n, n ≤ m + 12 ∧ runI m (SetTable.bits h) n = j := by
  obtain ⟨k, hk, e⟩ := lcgI_all hm (runI_le m (SetTable.bits h) 12) hj
  refine ⟨12 + k, by omega, ?_⟩
  rw [runI_tail (bits_lt h), e]
theorem way_off {m n j : Nat} {h : Int} (e : runI m (SetTable.bits h) n = j) : way m h (off m (SetTable.bits h % (m + 1)) (SetTable.bits h) n) = j := by
  unfold way
  rw [nth_off, itL_run]
  exact e
theorem way_all {m : Nat} (hm : MaskP m) (h : Int) {j : Nat} (hj : j ≤ m) : ∃ k, k < 10 * SetTable.turns m ∧ way m h k = j := by
  obtain ⟨n, hn, e⟩ := run_all hm h hj
  obtain ⟨k, hk, e2⟩ := run_nth m (SetTable.bits h) n
  refine ⟨k, by unfold SetTable.turns; omega, ?_⟩
  unfold way
  rw [e2]
  exact e
theorem way_in {m k : Nat} {h : Int} : way m h k ≤ m := by
  have hi : SetTable.bits h % (m + 1) ≤ m := Nat.le_of_lt_succ (Nat.mod_lt _ (Nat.succ_pos _))
  have q := nth_in (m := m) k (runAt m (SetTable.bits h % (m + 1)) (SetTable.bits h)) (by
    have r := runEnd_bd hi
    show SetTable.bits h % (m + 1) + (SetTable.runEnd m (SetTable.bits h % (m + 1)) - SetTable.bits h % (m + 1)) ≤ m
    omega)
  exact Nat.le_trans (Nat.le_add_right _ _) q
theorem mask_odd' {m : Nat} (hm : MaskP m) : m % 2 = 1 := by
  obtain ⟨k, hk, e⟩ := hm
  obtain ⟨j, rfl⟩ : ∃ j, k = j + 1 := ⟨k - 1, by omega⟩
  rw [Nat.pow_succ] at e
  omega
theorem mask_ge {m : Nat} (hm : MaskP m) : 7 ≤ m := by
  obtain ⟨k, hk, e⟩ := hm
  have : 2 ^ 3 ≤ 2 ^ k := Nat.pow_le_pow_right (by decide) hk
  omega
/-- a table in order: the hashes of its entries, in the order of its places -/
structure TabP (t : SetTable) (hs : List Int) : Prop where
  ris : Ris t.place.toList
  dm : t.dummies = #[]
  sz : t.place.size = hs.length
  mask : MaskP t.mask
  bd : ∀ x ∈ t.place.toList, x ≤ t.mask
  reach : ∀ (i : Nat) (h : Int) (j : Nat), hs[i]? = some h → t.place.toList[i]? = some j → ∃ k, way t.mask h k = j ∧ ∀ c, c < k → way t.mask h c ∈ t.place.toList
theorem TabP.len {t : SetTable} {hs : List Int} (T : TabP t hs) : t.place.toList.length = hs.length := by
  rw [Array.length_toList, T.sz]
/-- where a new hash goes -/
theorem TabP.first {t : SetTable} {hs : List Int} (T : TabP t hs) (hl : hs.length ≤ t.mask) (h : Int) : ∃ K, K < 10 * SetTable.turns t.mask ∧ way t.mask h K ∉ t.place.toList ∧ ∀ c, c < K → way t.mask h c ∈ t.place.toList := by
  obtain ⟨j, hj, hn⟩ := st_missing t.place.toList (t.mask + 1) (by rw [T.len]; omega)
  obtain ⟨k, hk, e⟩ := way_all T.mask h (Nat.le_of_lt_succ hj)
  obtain ⟨K, h1, h2, h3⟩ := st_least (p := fun k => way t.mask h k ∉ t.place.toList) k (by rw [e]; exact hn)
  exact ⟨K, by omega, h2, fun c hc => Classical.byContradiction (h3 c hc)⟩
/-- an entry's place stands ahead of the first empty one on its hash's way -/
theorem TabP.ahead {t : SetTable} {hs : List Int} (T : TabP t hs) {h : Int} {K i : Nat} (hK : way t.mask h K ∉ t.place.toList) (hi : hs[i]? = some h) : ∃ c, c < K ∧ t.place.toList[i]? = some (way t.mask h c) := by
  have hil : i < t.place.toList.length := by
    rw [T.len]
    exact (List.getElem?_eq_some_iff.mp hi).1
  have hj := List.getElem?_eq_getElem hil
  obtain ⟨k, e, hb⟩ := T.reach i h _ hi hj
  refine ⟨k, Nat.lt_of_not_le fun c => ?_, by rw [hj, e]⟩
  rcases Nat.lt_or_eq_of_le c with c | c
  · exact hK (hb K c)
  · rw [c, e] at hK
    exact hK (List.getElem_mem hil)
/-- one more hash, at the first empty place of its way -/
theorem TabP.put {t : SetTable} {hs : List Int} (T : TabP t hs) {h : Int} {K j p : Nat} (hj : way t.mask h K = j) (hp : SetTable.below t.place j = p) (hK : j ∉ t.place.toList) (hb : ∀ c, c < K → way t.mask h c ∈ t.place.toList) :
    p ≤ hs.length ∧ TabP (t.put j).1 (hs.take p ++ h :: hs.drop p) ∧ (t.put j).1.fill = hs.length + 1 := by
  subst hp
  have c1 : SetTable.below t.place j ≤ t.place.size := (below_cut T.ris j).1
  have hpl : SetTable.below t.place j ≤ t.place.toList.length := by rw [Array.length_toList]; exact c1
  have hph : SetTable.below t.place j ≤ hs.length := by rw [← T.sz]; exact c1
  have pl := put_place t j
  have dm := put_dm T.dm j
  have size : (t.put j).1.place.size = hs.length + 1 := by
    rw [← Array.length_toList, pl, len_ins _ hpl, T.len]
  have keep : ∀ x, x ∈ t.place.toList → x ∈ (t.put j).1.place.toList := fun x hx => by
    rw [pl]
    exact mem_ins.2 (.inr hx)
  have old : ∀ (i : Nat) (g : Int) (y : Nat), hs[i]? = some g → t.place.toList[i]? = some y → ∃ k, way t.mask g k = y ∧ ∀ c, c < k → way t.mask g c ∈ (t.put j).1.place.toList := fun i g y a b => by
    obtain ⟨k, e, q⟩ := T.reach i g y a b
    exact ⟨k, e, fun c hc => keep _ (q c hc)⟩
  refine ⟨hph, ⟨ris_insert T.ris fun e => hK (List.mem_of_getElem? (by rw [Array.getElem?_toList]; exact e)), dm, by rw [size, len_ins _ hph], T.mask, fun x hx => ?_, fun i g y a b => ?_⟩, ?_⟩
  · rw [pl] at hx
    rcases mem_ins.1 hx with rfl | hx
    · show x ≤ t.mask
      rw [← hj]
      exact way_in
    · exact T.bd x hx
  · rw [tins_get hs hph] at a
    rw [pl, tins_get _ hpl] at b
    show ∃ k, way t.mask g k = y ∧ ∀ c, c < k → way t.mask g c ∈ (t.put j).1.place.toList
    rcases Nat.lt_trichotomy i (SetTable.below t.place j) with c | c | c
    · rw [if_pos c] at a b
      exact old i g y a b
    · rw [if_neg (by omega), if_pos c] at a b
      cases a
      cases b
      exact ⟨K, hj, fun c hc => keep _ (hb c hc)⟩
    · rw [if_neg (by omega), if_neg (by omega)] at a b
      exact old _ g y a b
  · show (t.put j).1.place.size + (t.put j).1.dummies.size = _
    rw [size, dm]
    rfl
/-! ### a table laid anew -/
theorem free_all {m : Nat} (hm : MaskP m) (owner : Array (Option Nat)) (h : Int) {j : Nat} (hj : j ≤ m) (hf : oAt owner j = none) :
    ∃ K, SetTable.layClean.free m owner (SetTable.turns m) (SetTable.bits h % (m + 1)) (SetTable.bits h) = some (way m h K) ∧ oAt owner (way m h K) = none ∧ ∀ c, c < K → oAt owner (way m h c) ≠ none := by
  obtain ⟨n, hn, e⟩ := run_all hm h hj
  obtain ⟨K, k1, k2, k3⟩ := st_least (p := fun k => oAt owner (way m h k) = none) (off m (SetTable.bits h % (m + 1)) (SetTable.bits h) n) (by rw [way_off e]; exact hf)
  refine ⟨K, free_spec m owner (SetTable.turns m) n _ _ K (by unfold SetTable.turns; omega) k1 (fun c hc => ?_) ?_, k2, k3⟩
  · exact Option.isNone_eq_false_iff.mpr (Option.isSome_iff_ne_none.mpr (k3 c hc))
  · exact Option.isNone_iff_eq_none.mpr k2
theorem own_step {m : Nat} (hm : MaskP m) {done : List Int} {owner : Array (Option Nat)} (W : Own m done owner) (hl : done.length ≤ m) (h : Int) :
    ∃ j, SetTable.layClean.free m owner (SetTable.turns m) (SetTable.bits h % (m + 1)) (SetTable.bits h) = some j ∧ Own m (done ++ [h]) (owner.setIfInBounds j (some done.length)) := by
  obtain ⟨ps, hps, hin⟩ := W.ps
  obtain ⟨j0, h0, hn0⟩ := st_missing ps (m + 1) (by omega)
  have hj0 : oAt owner j0 = none := Classical.byContradiction fun z => hn0 (hin j0 (Nat.le_of_lt_succ h0) z)
  obtain ⟨K, e1, e2, e3⟩ := free_all hm owner h (Nat.le_of_lt_succ h0) hj0
  refine ⟨_, e1, ?_⟩
  have jm : way m h K ≤ m := way_in
  generalize hjw : way m h K = j at e2 jm ⊢
  have self := oAt_set_self (owner := owner) (j := j) (some done.length) (by rw [W.sz]; omega)
  have mono : ∀ i, oAt owner i ≠ none → oAt (owner.setIfInBounds j (some done.length)) i ≠ none := fun i hi => by
    by_cases c : i = j
    · subst c
      rw [self]
      exact fun e => nomatch e
    · rw [oAt_set_ne _ c]
      exact hi
  refine ⟨by rw [Array.size_setIfInBounds, W.sz], fun i k hi e => ?_, fun k hk => ?_, j :: ps, by rw [List.length_cons, List.length_append, hps]; rfl, fun i hi e => ?_⟩
  · by_cases c : i = j
    · subst c
      rw [self] at e
      cases e
      refine ⟨h, K, ?_, hjw, fun c hc => mono _ (e3 c hc)⟩
      rw [List.getElem?_append_right (Nat.le_refl _), Nat.sub_self]
      rfl
    · rw [oAt_set_ne _ c] at e
      obtain ⟨g, K', a1, a2, a3⟩ := W.at_ i k hi e
      exact ⟨g, K', by rw [List.getElem?_append_left (List.getElem?_eq_some_iff.mp a1).1]; exact a1, a2, fun c hc => mono _ (a3 c hc)⟩
  · rw [List.length_append, List.length_singleton] at hk
    rcases Nat.lt_or_eq_of_le (Nat.le_of_lt_succ hk) with c | c
    · obtain ⟨i, hi, e⟩ := W.all k c
      refine ⟨i, hi, ?_⟩
      rw [oAt_set_ne _ (fun z => by rw [z, e2] at e; cases e)]
      exact e
    · subst c
      exact ⟨j, jm, self⟩
  · by_cases c : i = j
    · rw [c]
      exact List.mem_cons_self
    · rw [oAt_set_ne _ c] at e
      exact List.mem_cons_of_mem _ (hin i hi e)
theorem own_all {m : Nat} (hm : MaskP m) : ∀ (rest done : List Int) (owner : Array (Option Nat)), Own m done owner → done.length + rest.length ≤ m →
    ∃ owner', rest.foldl (stepF m) (some (owner, done.length)) = some (owner', (done ++ rest).length) ∧ Own m (done ++ rest) owner'
  | [], done, owner, W, _ => ⟨owner, by rw [List.append_nil]; rfl, by rw [List.append_nil]; exact W⟩
  | h :: rest, done, owner, W, hl => by
    rw [List.length_cons] at hl
    obtain ⟨j, e, W'⟩ := own_step hm W (by omega) h
    obtain ⟨owner', f, W2⟩ := own_all hm rest (done ++ [h]) _ W' (by rw [List.length_append, List.length_singleton]; omega)
    rw [List.length_append, List.length_singleton] at f
    rw [show done ++ h :: rest = done ++ [h] ++ rest by rw [List.append_assoc]; rfl]
    refine ⟨owner', ?_, W2⟩
    rw [List.foldl_cons, stepF_some e]
    exact f
theorem lay_all {m : Nat} (hm : MaskP m) {hs : Array Int} (hn : hs.size ≤ m) : ∃ owner, SetTable.layClean m hs = some owner ∧ Own m hs.toList owner := by
  obtain ⟨owner, f, W⟩ := own_all hm hs.toList [] _ (Own.init m) (by rw [Array.length_toList]; show 0 + hs.size ≤ m; omega)
  refine ⟨owner, ?_, W⟩
  rw [layClean_eq]
  have f' : hs.toList.foldl (stepF m) (some (Array.replicate (m + 1) none, 0)) = some (owner, ([] ++ hs.toList).length) := f
  rw [f']
  rfl
theorem relaid_all (t : SetTable) {hs : Array Int} {wanted M : Nat} (hw : SetTable.sizeAbove wanted - 1 = M) (hM : MaskP M) (hn : hs.size ≤ M) :
    ∃ t' order, t.relaid hs wanted = some (t', order) ∧ order.toList.Perm (List.range hs.size) ∧ TabP t' (order.toList.map fun i => hs.getD i 0) ∧ t'.mask = M ∧ t'.led = t.led ∧ t'.plain = t.plain := by
  obtain ⟨owner, e, W⟩ := lay_all hM hn
  have hr : t.relaid hs wanted = some (tabOf t M owner, ((liveOf M owner).map (·.2)).toArray) := by
    rw [relaid_eq, hw, e]
    rfl
  have ris := ris_live (fun j => owner.getD j none) (List.range (M + 1)) (by
    unfold Ris
    exact List.pairwise_lt_range)
  have r1 : Ris ((liveOf M owner).map (·.1)) := ris.1
  have r2 : ∀ x ∈ (liveOf M owner).map (·.1), x ∈ List.range (M + 1) := ris.2
  have len : (liveOf M owner).length = hs.size := by
    obtain ⟨ps, p1, p2⟩ := W.ps
    have nd : ((liveOf M owner).map (·.1)).Nodup := by
      unfold Ris at r1
      exact List.Pairwise.imp (fun h => Nat.ne_of_lt h) r1
    have a := nat_nodup_len ((liveOf M owner).map (·.1)) ps nd fun x hx => by
      obtain ⟨⟨y, k⟩, hq, rfl⟩ := List.mem_map.mp hx
      obtain ⟨b1, b2⟩ := (mem_live W.sz).1 hq
      exact p2 y b1 (by rw [b2]; exact fun z => nomatch z)
    have b := nat_nodup_len (List.range hs.size) ((liveOf M owner).map (·.2)) List.nodup_range fun k hk => by
      obtain ⟨j, b1, b2⟩ := W.all k (by rw [Array.length_toList]; exact List.mem_range.mp hk)
      exact List.mem_map.mpr ⟨(j, k), (mem_live W.sz).2 ⟨b1, b2⟩, rfl⟩
    rw [List.length_map, p1] at a
    have hz : hs.toList.length = hs.size := rfl
    rw [List.length_map, List.length_range] at b
    omega
  refine ⟨tabOf t M owner, ((liveOf M owner).map (·.2)).toArray, hr, perm_range hs.size _ (by rw [List.length_map]; exact len) fun k hk => ?_, ⟨r1, rfl, ?_, hM, fun x hx => Nat.le_of_lt_succ (List.mem_range.mp (r2 x hx)), fun i h j h1 h2 => ?_⟩, rfl, rfl, rfl⟩
  · obtain ⟨j, b1, b2⟩ := W.all k (by rw [Array.length_toList]; exact hk)
    exact List.mem_map.mpr ⟨(j, k), (mem_live W.sz).2 ⟨b1, b2⟩, rfl⟩
  · show ((liveOf M owner).map (·.1)).toArray.size = (((liveOf M owner).map (·.2)).map fun i => hs.getD i 0).length
    rw [List.size_toArray, List.length_map, List.length_map, List.length_map]
  · have h1 : (((liveOf M owner).map (·.2)).map fun i => hs.getD i 0)[i]? = some h := h1
    have h2 : ((liveOf M owner).map (·.1))[i]? = some j := h2
    rw [List.getElem?_map, List.getElem?_map] at h1
    rw [List.getElem?_map] at h2
    cases hq : (liveOf M owner)[i]? with
    | none =>
      rw [hq] at h2
      cases h2
    | some q =>
      obtain ⟨y, k⟩ := q
      rw [hq] at h1 h2
      have ej : y = j := Option.some.inj h2
      have eh : hs.getD k 0 = h := Option.some.inj h1
      subst ej
      obtain ⟨b1, b2⟩ := (mem_live W.sz).1 (List.mem_of_getElem? hq)
      obtain ⟨g, K, a1, a2, a3⟩ := W.at_ y k b1 b2
      have eg : g = h := by
        rw [← eh, Array.getD_eq_getD_getElem?, ← Array.getElem?_toList, a1]
        rfl
      subst eg
      refine ⟨K, a2, fun c hc => ?_⟩
      show way M g c ∈ (liveOf M owner).map (·.1)
      cases z : oAt owner (way M g c) with
      | none => exact absurd z (a3 c hc)
      | some k2 => exact List.mem_map.mpr ⟨(way M g c, k2), (mem_live W.sz).2 ⟨way_in, z⟩, rfl⟩
/-- the size of a table for so many -/
theorem size_go : ∀ (f s n k : Nat), s = 2 ^ k → 3 ≤ k → n < s * 2 ^ f → ∃ j, 3 ≤ j ∧ SetTable.sizeAbove.go n f s = 2 ^ j ∧ n < 2 ^ j ∧ (s ≤ n → 2 ^ j ≤ 2 * n) ∧ (n < s → 2 ^ j = s)
  | 0, s, n, k, hs, hk, hn => by
    rw [Nat.pow_zero, Nat.mul_one] at hn
    exact ⟨k, hk, hs, by omega, fun h => by omega, fun _ => hs.symm⟩
  | f + 1, s, n, k, hs, hk, hn => by
    unfold SetTable.sizeAbove.go
    by_cases c : s ≤ n
    · rw [if_pos c]
      obtain ⟨j, h1, h2, h3, h4, h5⟩ := size_go f (s * 2) n (k + 1) (by rw [Nat.pow_succ, hs]) (by omega) (by rw [Nat.pow_succ, Nat.mul_comm _ 2, ← Nat.mul_assoc] at hn; exact hn)
      refine ⟨j, h1, h2, h3, fun _ => ?_, fun z => by omega⟩
      by_cases d : s * 2 ≤ n
      · exact h4 d
      · have := h5 (by omega)
        omega
    · rw [if_neg c]
      exact ⟨k, hk, hs, by omega, fun z => absurd z c, fun _ => hs.symm⟩
theorem size_above {n : Nat} (h8 : 8 ≤ n) (hn : n < 2 ^ 64) : MaskP (SetTable.sizeAbove n - 1) ∧ n < SetTable.sizeAbove n ∧ SetTable.sizeAbove n ≤ 2 * n := by
  obtain ⟨j, h1, h2, h3, h4, _⟩ := size_go 64 8 n 3 rfl (by decide) (Nat.lt_of_lt_of_le hn (Nat.le_mul_of_pos_left _ (by decide)))
  have e : SetTable.sizeAbove n = 2 ^ j := h2
  have hp : 0 < 2 ^ j := Nat.pow_pos (by decide)
  rw [e]
  exact ⟨⟨j, h1, by omega⟩, h3, h4 h8⟩
end TA

namespace TA
open PySem PySem.Spec PyProof.Rows L2
/-- the tuple at b is the key k -/
abbrev KeyAt (h : Heap) (k : NestedKey) (b : Addr) : Prop := NestedIs h k (.ref b) ∧ k.depth ≤ 8
section
variable {P : Program} {w : World} {A : Around} {E : Value → Shared → Prop} {s : Shared}
theorem key_room {k : NestedKey} {b : Addr} {h h' : Heap} (x : KeyAt h k b) (hk : ∀ c o, h.get? c = some o → h'.get? c = some o) : KeyAt h' k b := ⟨NestedIs.at (fun c ob vs n hb hc => hk c ob hb) k _ x.1, x.2⟩
/-- a tuple is not the set -/
theorem key_same {h h' : Heap} {k : NestedKey} {a b : Addr} {o : Obj} {es : Array (Int × Value)} {ep : Nat} {t : SetTable} (x : KeyAt h k b) (ho : h.get? a = some o) (hd : o.data = .set es ep t) (hs : Heap.SameBut a h h') : KeyAt h' k b := ⟨NestedIs.at (fun c ob vs n hb hc => by
  refine (hs.2 c fun e => ?_).trans hb
  subst e
  rw [ho] at hb
  cases hb
  rw [hd] at hc
  cases hc) k _ x.1, x.2⟩
/-! ### what a search asks of a tuple -/
mutual
theorem no_class : ∀ (k : NestedKey) (v : Value) (n : Nat) (s : Shared), NestedIs s.heap k v → k.depth ≤ n → ∀ (A : Around) (E : Value → Shared → Prop) (Q : Bool → Shared → Prop), Q false s → wpAny (model P w) A (ofAClassStatement n v) Q E s
  | .none, _, n, s, x, _, A, E, Q, h => by
    cases x
    cases n <;> exact wpAny_pure h
  | .num i, _, n, s, x, _, A, E, Q, h => by
    cases x <;> cases n <;> exact wpAny_pure h
  | .text y, _, n, s, x, _, A, E, Q, h => by
    cases x
    cases n <;> exact wpAny_pure h
  | .tup ks, _, n, s, x, hn, A, E, Q, h => by
    cases x with
    | @tup b o vs m _ ho hc hd hk =>
      simp only [NestedKey.depth] at hn
      cases n with
      | zero => omega
      | succ n =>
        have hT : s.TypeIs (.ref b) "tuple" := ⟨o, ho, hc⟩
        unfold ofAClassStatement
        refine wpAny_bind (wpAny_typeOf hT ?_)
        dsimp only
        have e : (("tuple" : String) == "tuple") = true := by decide
        simp only [e, if_true, Bool.not_true, Bool.false_eq_true, if_false]
        try refine wpAny_bind (wpAny_pure ?_)
        try simp only [Bool.not_true, Bool.false_eq_true, if_false]
        show wpAny _ _ (seqItems? (.ref b) >>= _) _ _ s
        refine wpAny_bind (wpAny_seqItems ho hd ?_)
        dsimp only
        refine wpAny_bind ?_
        show wpAny _ _ (forIn vs _ _) _ _ s
        rw [← Array.forIn_toList]
        refine wpAny_forIn_list _ (fun rest r s' => r.1 = none ∧ s' = s ∧ ∀ v ∈ rest, ∀ (A : Around) (E : Value → Shared → Prop) (Q : Bool → Shared → Prop), Q false s → wpAny (model P w) A (ofAClassStatement n v) Q E s) _ ?_ ?_ _ _ ⟨rfl, rfl, no_classes ks _ n s hk (by omega)⟩
        · rintro v rest r s' ⟨hr, rfl, hall⟩
          refine wpAny_bind (hall v List.mem_cons_self _ _ _ ?_)
          simp only [Bool.false_eq_true, if_false]
          exact wpAny_pure ⟨rfl, rfl, fun u hu' => hall u (List.mem_cons_of_mem _ hu')⟩
        · rintro ⟨r1, r2⟩ s' ⟨hr, rfl, _⟩
          simp only at hr
          subst hr
          exact wpAny_pure h
theorem no_classes : ∀ (ks : List NestedKey) (vs : List Value) (n : Nat) (s : Shared), NestedAll s.heap ks vs → NestedKey.depthAll ks ≤ n → ∀ v ∈ vs, ∀ (A : Around) (E : Value → Shared → Prop) (Q : Bool → Shared → Prop), Q false s → wpAny (model P w) A (ofAClassStatement n v) Q E s
  | [], _, n, s, x, _, v, hv => by cases x; cases hv
  | k :: ks, _, n, s, x, hn, v, hv => by
    cases x with
    | cons x1 x2 =>
      simp only [NestedKey.depthAll] at hn
      rcases List.mem_cons.mp hv with e | hv
      · rw [e]; exact no_class k _ n s x1 (by omega)
      · exact no_classes ks _ n s x2 (by omega) v hv
end
mutual
theorem by_value : ∀ (k : NestedKey) (v : Value) (n : Nat) (s : Shared), NestedIs s.heap k v → ∀ (A : Around) (E : Value → Shared → Prop) (Q : Bool → Shared → Prop), (∀ b, Q b s) → wpAny (model P w) A (hashByValue n v) Q E s
  | .none, _, n, s, x, A, E, Q, h => by
    cases x
    cases n <;> exact wpAny_pure (h _)
  | .num i, _, n, s, x, A, E, Q, h => by
    cases x <;> cases n <;> exact wpAny_pure (h _)
  | .text y, _, n, s, x, A, E, Q, h => by
    cases x
    cases n <;> exact wpAny_pure (h _)
  | .tup ks, _, n, s, x, A, E, Q, h => by
    cases x with
    | @tup b o vs m _ ho hc hd hk =>
      cases n with
      | zero => exact wpAny_pure (h _)
      | succ n =>
        have hT : s.TypeIs (.ref b) "tuple" := ⟨o, ho, hc⟩
        unfold hashByValue
        refine wpAny_bind (wpAny_specialOf hT F.slot_tuple_hash.lookup ?_)
        show wpAny _ _ (seqItems? (.ref b) >>= _) _ _ s
        refine wpAny_bind (wpAny_seqItems ho hd ?_)
        refine wpAny_bind ?_
        show wpAny _ _ (forIn vs _ _) _ _ s
        rw [← Array.forIn_toList]
        refine wpAny_forIn_list _ (fun rest r s' => r.1 = none ∧ s' = s ∧ ∀ v ∈ rest, ∀ (A : Around) (E : Value → Shared → Prop) (Q : Bool → Shared → Prop), (∀ b, Q b s) → wpAny (model P w) A (hashByValue n v) Q E s) _ ?_ ?_ _ _ ⟨rfl, rfl, by_values ks _ n s hk⟩
        · rintro v rest r s' ⟨hr, rfl, hall⟩
          refine wpAny_bind (hall v List.mem_cons_self _ _ _ fun c => ?_)
          cases c with
          | false =>
            simp only [Bool.not_false, if_true]
            exact wpAny_pure (wpAny_pure (h _))
          | true =>
            simp only [Bool.not_true, Bool.false_eq_true, if_false]
            exact wpAny_pure ⟨rfl, rfl, fun u hu' => hall u (List.mem_cons_of_mem _ hu')⟩
        · rintro ⟨r1, r2⟩ s' ⟨hr, rfl, _⟩
          simp only at hr
          subst hr
          exact wpAny_pure (h _)
theorem by_values : ∀ (ks : List NestedKey) (vs : List Value) (n : Nat) (s : Shared), NestedAll s.heap ks vs → ∀ v ∈ vs, ∀ (A : Around) (E : Value → Shared → Prop) (Q : Bool → Shared → Prop), (∀ b, Q b s) → wpAny (model P w) A (hashByValue n v) Q E s
  | [], _, n, s, x, v, hv => by cases x; cases hv
  | k :: ks, _, n, s, x, v, hv => by
    cases x with
    | cons x1 x2 =>
      rcases List.mem_cons.mp hv with e | hv
      · rw [e]; exact by_value k _ n s x1
      · exact by_values ks _ n s x2 v hv
end
/-- a search among such tuples shows nothing -/
theorem no_show {k : NestedKey} {b : Addr} {Q : Bool → Shared → Prop} (x : KeyAt s.heap k b) {ys : List Value} (hy : ∀ y ∈ ys, ∃ k' c, y = Value.ref c ∧ KeyAt s.heap k' c) (h : Q false s) : wpAny (model P w) A (searchCouldBeSeen (.ref b) ys) Q E s := by
  unfold searchCouldBeSeen
  refine wpAny_bind ?_
  refine wpAny_forIn_list _ (fun rest r s' => r.1 = none ∧ s' = s ∧ ∀ y ∈ rest, ∃ k' c, y = Value.ref c ∧ KeyAt s.heap k' c) _ ?_ ?_ _ _ ⟨rfl, rfl, hy⟩
  · rintro v rest r s' ⟨hr, rfl, hall⟩
    obtain ⟨k', c, rfl, hc⟩ := hall v List.mem_cons_self
    have rest' : ∀ y ∈ rest, ∃ k' c, y = Value.ref c ∧ KeyAt s'.heap k' c := fun u hu' => hall u (List.mem_cons_of_mem _ hu')
    dsimp only
    by_cases hv : (b == c || (carriedByValue (.ref b) && carriedByValue (.ref c))) = true
    · exact wp_if_pos hv (wpAny_pure ⟨rfl, rfl, rest'⟩)
    · refine wp_if_neg hv ?_
      refine wpAny_bind (quiet_key k _ 8 _ x.1 x.2 _ _ _ ?_)
      simp only [Bool.not_true, Bool.false_eq_true, if_false]
      refine wpAny_bind (quiet_key k' _ 8 _ hc.1 hc.2 _ _ _ ?_)
      simp only [Bool.not_true, Bool.false_eq_true, if_false]
      refine wpAny_bind (no_class k _ 8 _ x.1 x.2 _ _ _ ?_)
      simp only [Bool.false_eq_true, if_false]
      refine wpAny_bind (no_class k' _ 8 _ hc.1 hc.2 _ _ _ ?_)
      simp only [Bool.false_eq_true, if_false]
      exact wpAny_pure ⟨rfl, rfl, rest'⟩
  · rintro ⟨r1, r2⟩ s' ⟨hr, rfl, _⟩
    simp only at hr
    subst hr
    exact wpAny_pure h
/-! ### a set of such tuples -/
def rowsK (w : World) (L : List (NestedKey × Addr)) : List (Int × Value) := L.map fun p => (p.1.hash w, Value.ref p.2)
structure SetN (w : World) (h : Heap) (a : Addr) (L : List (NestedKey × Addr)) (es : Array (Int × Value)) (ep : Nat) (t : SetTable) : Prop where
  ob : ∃ o, h.get? a = some o ∧ o.ExactSet ∧ o.data = .set es ep t
  rows : es.toList = rowsK w L
  tab : TabP t (L.map fun p => p.1.hash w)
  nd : (L.map (·.1)).Nodup
  key : ∀ p ∈ L, KeyAt h p.1 p.2
  led : w.params.followText "set-order" = true ∨ t.led = true
  room : L.length * 5 < t.mask * 3
  wide : t.mask ≤ 8 * L.length + 7
variable {a : Addr} {L : List (NestedKey × Addr)} {es : Array (Int × Value)} {ep : Nat} {t : SetTable}
theorem rowsK_len : (rowsK w L).length = L.length := List.length_map _
theorem SetN.size {h : Heap} (R : SetN w h a L es ep t) : es.size = L.length := by
  have h := congrArg List.length R.rows
  rw [Array.length_toList, rowsK_len] at h
  exact h
theorem SetN.fits {h : Heap} (R : SetN w h a L es ep t) : t.fits es.size = true := by
  have h1 := R.tab.sz
  rw [List.length_map] at h1
  have h2 := R.size
  have h3 := R.room
  unfold SetTable.fits SetTable.fill
  rw [R.tab.dm, Bool.and_eq_true, beq_iff_eq, decide_eq_true_eq]
  show t.place.size = es.size ∧ t.place.size + 0 ≤ t.mask
  omega
theorem SetN.entry {h : Heap} (R : SetN w h a L es ep t) {i : Nat} {p : NestedKey × Addr} (e : L[i]? = some p) : es[i]? = some (p.1.hash w, Value.ref p.2) := by
  rw [← Array.getElem?_toList, R.rows, rowsK, List.getElem?_map, e]
  rfl
theorem SetN.whole {h : Heap} (R : SetN w h a L es ep t) : ¬ t.gaveWay = true := by
  unfold SetTable.gaveWay
  rw [mask_odd' R.tab.mask]
  decide
/-- the search, from the c-th step of the way on -/
theorem search_go (R : SetN w s.heap a L es ep t) {x : Addr} {k : NestedKey} (hx : KeyAt s.heap k x) (hu : A.units + 8 < cLine) {K : Nat} (hKf : K < 10 * SetTable.turns t.mask)
    (hK : way t.mask (k.hash w) K ∉ t.place.toList) (hKb : ∀ c, c < K → way t.mask (k.hash w) c ∈ t.place.toList) {Q : SetFound → Shared → Prop}
    (hin : k ∈ L.map (·.1) → Q (.there none) s) (hout : k ∉ L.map (·.1) → Q (.free (way t.mask (k.hash w) K) false) s) :
    ∀ (f c : Nat) (stand : Option SetTable.Probe), stand.getD (t.probeStart (k.hash w)) = nth t.mask (t.probeStart (k.hash w)) c → c ≤ K → K - c < f →
      (∀ (i : Nat) p, L[i]? = some p → p.1 = k → ∃ c', c ≤ c' ∧ c' < K ∧ t.place.toList[i]? = some (way t.mask (k.hash w) c')) →
      wpAny (model P w) A (setSearchFrom a (.ref x) (k.hash w) true f stand) Q E s
  | 0, c, stand, _, _, hf, _ => absurd hf (Nat.not_lt_zero _)
  | f + 1, c, stand, hst, hc, hf, hre => by
    obtain ⟨o, ho, hex, hd⟩ := R.ob
    have room8 : (nestedKind P w).room A := hu
    generalize hh : k.hash w = hk at *
    generalize hp0 : t.probeStart hk = p0 at hst
    have w0 : ∀ q, (nth t.mask p0 q).j = way t.mask hk q := fun q => by rw [← hp0, start_run]
    have sh : ∀ q, nth t.mask (nth t.mask p0 c) q = nth t.mask p0 (c + q) := fun q => (nth_add t.mask c _ q).symm
    have dm : ∀ (n : Nat) (p : SetTable.Probe), p.dummy = none → (nth t.mask p n).dummy = none := by
      intro n
      induction n with
      | zero => exact fun p h => h
      | succ n ih =>
        intro p h
        refine ih (adv t.mask p) ?_
        unfold adv
        split <;> exact h
    have hashAt : ∀ (i : Nat) p, L[i]? = some p → (fun i => (es[i]?.map (·.1)).getD 0) i = p.1.hash w := fun i p hp => by
      show (es[i]?.map (·.1)).getD 0 = _
      rw [R.entry hp]
      rfl
    have spec := go_spec t R.tab.ris R.tab.dm (fun i => (es[i]?.map (·.1)).getD 0) hk (10 * SetTable.turns t.mask) (K - c) (nth t.mask p0 c) (dm c p0 (by rw [← hp0]; rfl)) (by omega)
      (fun q hq => by rw [sh, w0]; exact hKb (c + q) (by omega)) (by rw [sh, w0, show c + (K - c) = K by omega]; exact hK)
    rw [setSearchFrom_succ]
    refine wpAny_bind (wpAny_setState_of ho hd R.fits ?_)
    dsimp only
    refine wp_if_neg R.whole ?_
    try refine wpAny_bind (wpAny_pure ?_)
    rw [hp0, hst]
    have unf : t.probe (fun i => (es[i]?.map (·.1)).getD 0) hk (nth t.mask p0 c) = SetTable.probe.go t (fun i => (es[i]?.map (·.1)).getD 0) hk (10 * SetTable.turns t.mask) (nth t.mask p0 c) := rfl
    rw [unf]
    rcases spec with ⟨q, i, hq, hi, hhash, hno, hpr⟩ | ⟨hno, hpr⟩
    · rw [hpr]
      dsimp only
      rw [sh, w0] at hi
      have hil : i < L.length := by
        have h1 := (List.getElem?_eq_some_iff.mp hi).1
        have h2 := R.tab.len
        rw [List.length_map] at h2
        omega
      have hp : L[i]? = some L[i] := List.getElem?_eq_getElem hil
      generalize L[i] = p at hp
      have hmem := List.mem_of_getElem? hp
      have hsl : t.slot (way t.mask hk (c + q)) = .live i := slot_live R.tab.ris hi
      have rest : wpAny (model P w) A (searchRest a (.ref x) hk true f es t (nth t.mask (nth t.mask p0 c) q).j i (nth t.mask (nth t.mask p0 c) (q + 1))) Q E s := by
        rw [sh, sh, w0]
        unfold searchRest
        rw [R.entry hp]
        dsimp only
        refine wpAny_bind (wpAny_holding ((nestedKind P w).eqBool room8 (R.key p hmem) hx ?_))
        refine wpAny_bind (wpAny_setState_of ho hd R.fits ?_)
        dsimp only
        by_cases hkk : p.1 = k
        · refine wp_if_pos (by simp [hkk]) ?_
          exact wpAny_pure (hin (List.mem_map.mpr ⟨p, hmem, hkk⟩))
        · refine wp_if_neg (by simp [hkk]) ?_
          try refine wpAny_bind (wpAny_pure ?_)
          rw [sameMem]
          dsimp only
          simp only [if_true, hsl, R.entry hp]
          refine wpAny_bind (wpAny_isSame_ref_self (wpAny_bind (wpAny_pure ?_)))
          simp only [if_true]
          refine wp_if_neg (by simp [hkk]) ?_
          subst hh
          refine search_go R hx hu hKf hK hKb hin hout f (c + (q + 1)) _ (by rw [hp0]; rfl) (by omega) (by omega) fun i0 p1 h0 hk0 => ?_
          obtain ⟨c', a1, a2, a3⟩ := hre i0 p1 h0 hk0
          refine ⟨c', ?_, a2, a3⟩
          rcases Nat.lt_trichotomy c' (c + q) with z | z | z
          · refine absurd ((hashAt i0 p1 h0).trans (by rw [hk0])) (hno (c' - c) i0 (by omega) (by rw [sh, w0, show c + (c' - c) = c' by omega]; exact a3))
          · subst z
            have s0 := slot_live R.tab.ris a3
            rw [hsl] at s0
            injection s0 with s0
            rw [← s0, hp] at h0
            exact absurd ((congrArg Prod.fst (Option.some.inj h0)).trans hk0) hkk
          · omega
      by_cases hl : t.led = true
      · refine wp_if_neg (by simp [hl]) ?_
        try refine wpAny_bind (wpAny_pure ?_)
        exact rest
      · refine wp_if_pos (by simp [hl]) ?_
        refine wpAny_bind (no_show hx (fun y hy => ?_) ?_)
        · obtain ⟨e, he, ee⟩ := List.mem_map.mp hy
          have he1 : e ∈ es ∧ e.1 = hk := by simpa using he
          have he2 : e ∈ es.toList := by simpa using he1.1
          rw [R.rows] at he2
          obtain ⟨p2, hp2, e2⟩ := List.mem_map.mp he2
          exact ⟨p2.1, p2.2, by rw [← ee, ← e2], R.key p2 hp2⟩
        · refine wp_if_neg (by decide) ?_
          try refine wpAny_bind (wpAny_pure ?_)
          exact rest
    · rw [hpr]
      dsimp only
      rw [sh, w0, show c + (K - c) = K by omega]
      refine wpAny_pure (hout fun hm => ?_)
      obtain ⟨p1, h0, hk0⟩ := List.mem_map.mp hm
      obtain ⟨i0, hi0, e0⟩ := List.getElem_of_mem h0
      have h00 : L[i0]? = some p1 := by rw [List.getElem?_eq_getElem hi0, e0]
      obtain ⟨c', a1, a2, a3⟩ := hre i0 p1 h00 hk0
      exact hno (c' - c) i0 (by omega) (by rw [sh, w0, show c + (c' - c) = c' by omega]; exact a3) ((hashAt i0 p1 h00).trans (by rw [hk0, hh]))
/-- the search as adding asks for it -/
theorem search_all (R : SetN w s.heap a L es ep t) (few : L.length < 1200) {x : Addr} {k : NestedKey} (hx : KeyAt s.heap k x) (hu : A.units + 8 < cLine) {Q : SetFound → Shared → Prop}
    (hin : k ∈ L.map (·.1) → Q (.there none) s)
    (hout : ∀ K, k ∉ L.map (·.1) → way t.mask (k.hash w) K ∉ t.place.toList → (∀ c, c < K → way t.mask (k.hash w) c ∈ t.place.toList) → Q (.free (way t.mask (k.hash w) K) false) s) :
    wpAny (model P w) A (setSearch a (.ref x) (k.hash w) true) Q E s := by
  have hroom := R.room
  have hwide := R.wide
  obtain ⟨K, hKf, hK, hKb⟩ := R.tab.first (by rw [List.length_map]; omega) (k.hash w)
  unfold setSearch
  refine search_go R hx hu hKf hK hKb hin (fun hn => hout K hn hK hKb) 100000 0 none rfl (Nat.zero_le _) (by unfold SetTable.turns at hKf; omega) fun i p hp hk => ?_
  obtain ⟨c, hc, e⟩ := R.tab.ahead hK (i := i) (h := k.hash w) (by rw [List.getElem?_map, hp, ← hk]; rfl)
  exact ⟨c, Nat.zero_le _, hc, e⟩
/-! ### a larger table -/
theorem rows_order {order : Array Nat} (hr : es.toList = rowsK w L) (hp : order.toList.Perm (List.range L.length)) :
    ∃ L2, (order.filterMap (es[·]?)).toList = rowsK w L2 ∧ L2.Perm L ∧ (L2.map fun p => p.1.hash w) = order.toList.map fun i => (es.map (·.1)).getD i 0 := by
  have at_ : ∀ i : Nat, es[i]? = (L[i]?).map fun p : NestedKey × Addr => (p.1.hash w, Value.ref p.2) := fun i => by
    rw [← Array.getElem?_toList, hr, rowsK, List.getElem?_map]
  refine ⟨order.toList.filterMap fun i => L[i]?, ?_, ?_, ?_⟩
  · rw [Array.toList_filterMap, rowsK, List.map_filterMap]
    exact Rs.fmap_cong _ fun i _ => at_ i
  · have h := hp.filterMap fun i => L[i]?
    rw [Rs.pick_all] at h
    exact h
  · have lt : ∀ i ∈ order.toList, i < L.length := fun i hi => List.mem_range.mp (hp.mem_iff.mp hi)
    generalize order.toList = l at lt
    induction l with
    | nil => rfl
    | cons i l ih =>
      have hi := lt i List.mem_cons_self
      have e : L[i]? = some L[i] := List.getElem?_eq_getElem hi
      rw [List.filterMap_cons_some e, List.map_cons, List.map_cons, ih fun j hj => lt j (List.mem_cons_of_mem _ hj)]
      congr 1
      have e2 := at_ i
      rw [e] at e2
      rw [Array.getD_eq_getD_getElem?, Array.getElem?_map, e2]
      rfl
theorem relay_all {o : Obj} (ho : s.heap.get? a = some o) (hex : o.ExactSet) (hd : o.data = .set es ep t) (hrows : es.toList = rowsK w L) (T : TabP t (L.map fun p => p.1.hash w)) (hfl : L.length ≤ t.mask)
    (nd : (L.map (·.1)).Nodup) (key : ∀ p ∈ L, KeyAt s.heap p.1 p.2) (ld : w.params.followText "set-order" = true ∨ t.led = true) (few : L.length < 4000) (five : 5 ≤ L.length) {Q : Unit → Shared → Prop}
    (hQ : ∀ h' L' es' ep' t', Heap.SameBut a s.heap h' → SetN w h' a L' es' ep' t' → L'.Perm L → Q () { s with heap := h' }) : wpAny (model P w) A (setRelay a (SetTable.grown L.length)) Q E s := by
  have hsl : es.size = L.length := by
    have h := congrArg List.length hrows
    rw [Array.length_toList, rowsK_len] at h
    exact h
  have hfits : t.fits es.size = true := by
    have h1 := T.sz
    rw [List.length_map] at h1
    unfold SetTable.fits SetTable.fill
    rw [T.dm, Bool.and_eq_true, beq_iff_eq, decide_eq_true_eq]
    show t.place.size = es.size ∧ t.place.size + 0 ≤ t.mask
    omega
  have gr : SetTable.grown L.length = L.length * 4 := by
    unfold SetTable.grown
    rw [if_neg (by omega)]
  rw [gr]
  obtain ⟨mk, lo, hi⟩ := size_above (n := L.length * 4) (by omega) (by omega)
  obtain ⟨t', order, e, hp, T', em, el, epl⟩ := relaid_all t (hs := es.map (·.1)) (wanted := L.length * 4) rfl mk (by rw [Array.size_map, hsl]; omega)
  rw [Array.size_map, hsl] at hp
  obtain ⟨L2, r1, r2, r3⟩ := rows_order hrows hp
  rw [← r3] at T'
  have hs2 : (order.filterMap (es[·]?)).size = es.size := by
    have h := congrArg List.length r1
    rw [Array.length_toList, rowsK_len, r2.length_eq] at h
    omega
  rw [setRelay_eq]
  refine wpAny_bind (wpAny_setState_of ho hd hfits ?_)
  dsimp only
  refine wp_if_neg (by rw [sizeLine_eq]; omega) ?_
  try refine wpAny_bind (wpAny_pure ?_)
  rw [e]
  dsimp only
  refine wpAny_bind ?_
  refine wp_if_neg (by rw [hs2]; simp) ?_
  try refine wpAny_bind (wpAny_pure ?_)
  refine wpAny_pure ?_
  dsimp only
  refine wpAny_storeSet_of ho hd ?_ (by rw [hs2, hsl, sizeLine_eq]; omega)
  have sb : Heap.SameBut a s.heap (s.heap.update a (Obj.putSet (order.filterMap (es[·]?)) t')) := Heap.SameBut.update ..
  refine hQ _ L2 (order.filterMap (es[·]?)) (ep + 1) t' sb ⟨⟨_, store_at ho hd, ⟨hex.1, hex.2.1, hex.2.2⟩, rfl⟩, r1, T', (r2.map (·.1)).nodup_iff.mpr nd, fun p hpm => key_same (key p (r2.mem_iff.mp hpm)) ho hd sb, by rw [el]; exact ld, ?_, ?_⟩ r2
  · rw [r2.length_eq, em]
    omega
  · rw [r2.length_eq, em]
    omega
/-! ### adding -/
theorem add_all (R : SetN w s.heap a L es ep t) {x : Addr} {k : NestedKey} (hx : KeyAt s.heap k x) (hu : A.units + 8 < cLine) (few : L.length + 1 < 1200) {Q : Bool → Shared → Prop}
    (hQ : ∀ b h' L' es' ep' t', Heap.SameBut a s.heap h' → SetN w h' a L' es' ep' t' → (k ∈ L.map (·.1) → L' = L) → (k ∉ L.map (·.1) → L'.Perm ((k, x) :: L)) → Q b { s with heap := h' }) :
    wpAny (model P w) A (setAddHashed a (.ref x) (k.hash w)) Q E s := by
  obtain ⟨o, ho, hex, hd⟩ := R.ob
  have hsl := R.size
  have hroom := R.room
  have hwide := R.wide
  unfold setAddHashed
  refine wpAny_holding ?_
  rw [show (100000 : Nat) = 99999 + 1 from rfl, setAddHashedIn_succ]
  refine wpAny_bind (wpAny_setState_of ho hd R.fits ?_)
  dsimp only
  refine wp_if_neg (by simp [byScan, Value.scannable]) ?_
  try refine wpAny_bind (wpAny_pure ?_)
  refine wpAny_bind (search_all R (by omega) hx hu (fun hm => ?_) fun K hm hK hb => ?_)
  · dsimp only
    exact wpAny_pure (hQ false s.heap L es ep t (Heap.SameBut.refl a s.heap) R (fun _ => rfl) fun z => absurd hm z)
  · dsimp only
    refine wpAny_bind (wpAny_setState_of ho hd R.fits ?_)
    dsimp only
    generalize hj : way t.mask (k.hash w) K = j at hK ⊢
    have q2 : (t.put j).2 = SetTable.below t.place j := rfl
    have qm : (t.put j).1.mask = t.mask := rfl
    have ql : (t.put j).1.led = t.led := rfl
    have qd : (t.put j).1.dummies = #[] := put_dm R.tab.dm j
    generalize hp : SetTable.below t.place j = p at q2
    obtain ⟨c1, T1, c3⟩ := R.tab.put hj hp hK hb
    rw [List.length_map] at c1 c3
    generalize t.put j = pt at q2 qm ql qd T1 c3 ⊢
    obtain ⟨t1, p'⟩ := pt
    dsimp only at q2 qm ql qd T1 c3 ⊢
    subst q2
    have hin : (SetTable.insertAt es p' (k.hash w, Value.ref x)).toList = rowsK w (L.take p' ++ (k, x) :: L.drop p') := by
      rw [SetTable.toList_insertAt, rowsK, List.map_append, List.map_cons, List.map_take, List.map_drop, R.rows, rowsK]
    have hhs : (L.take p' ++ (k, x) :: L.drop p').map (fun p => p.1.hash w) = (L.map fun p => p.1.hash w).take p' ++ k.hash w :: (L.map fun p => p.1.hash w).drop p' := by
      rw [List.map_append, List.map_cons, List.map_take, List.map_drop]
    rw [← hhs] at T1
    have pm := put_perm L p' (k, x)
    have hlen : (L.take p' ++ (k, x) :: L.drop p').length = L.length + 1 := pm.length_eq
    have nd1 : ((L.take p' ++ (k, x) :: L.drop p').map (·.1)).Nodup := by
      refine (pm.map (·.1)).nodup_iff.mpr ?_
      rw [List.map_cons]
      exact List.nodup_cons.mpr ⟨hm, R.nd⟩
    have hes : (SetTable.insertAt es p' (k.hash w, Value.ref x)).size = L.length + 1 := by
      have h := congrArg List.length hin
      rw [Array.length_toList, rowsK_len, hlen] at h
      exact h
    generalize SetTable.insertAt es p' (k.hash w, Value.ref x) = es1 at hin hes ⊢
    generalize L.take p' ++ (k, x) :: L.drop p' = L1 at pm hlen T1 nd1 hin
    -- whatever is said of the hash's road
    have main : ∀ t2 : SetTable, t2.mask = t1.mask → t2.place = t1.place → t2.dummies = t1.dummies → t2.led = t1.led → wpAny (model P w) A (do
        storeSet a es1 t2
        if !false && t2.tooFull then setRelay a (SetTable.grown (es.size + 1))
        return true) Q E s := fun t2 em ep2 ed el2 => by
      have T2 : TabP t2 (L1.map fun p => p.1.hash w) := ⟨by rw [ep2]; exact T1.ris, by rw [ed]; exact T1.dm, by rw [ep2]; exact T1.sz, by rw [em]; exact T1.mask, by rw [ep2, em]; exact T1.bd, by rw [ep2, em]; exact T1.reach⟩
      refine wpAny_bind (wpAny_storeSet_of ho hd ?_ (by rw [hes, sizeLine_eq]; omega))
      have sb : Heap.SameBut a s.heap (s.heap.update a (Obj.putSet es1 t2)) := Heap.SameBut.update ..
      have ho1 := store_at (es' := es1) (t' := t2) ho hd
      generalize s.heap.update a (Obj.putSet es1 t2) = h1 at sb ho1 ⊢
      have key1 : ∀ p ∈ L1, KeyAt h1 p.1 p.2 := fun p hp => by
        rcases List.mem_cons.mp (pm.mem_iff.mp hp) with e | hp
        · rw [e]; exact key_same hx ho hd sb
        · exact key_same (R.key p hp) ho hd sb
      have ld1 : w.params.followText "set-order" = true ∨ t2.led = true := by rw [el2, ql]; exact R.led
      have fill : t2.fill = L.length + 1 := by
        rw [← c3]
        unfold SetTable.fill
        rw [ep2, ed]
      by_cases hf : t2.tooFull = true
      · have hfull : (L.length + 1) * 5 ≥ t2.mask * 3 := by
          have h := hf
          unfold SetTable.tooFull at h
          rw [decide_eq_true_eq, fill] at h
          exact h
        have m7 := mask_ge R.tab.mask
        first
          | (refine wpAny_bind ?_; refine wp_if_pos (by simp [hf]) ?_)
          | (refine wp_if_pos (by simp [hf]) ?_; refine wpAny_bind ?_)
        rw [hsl, ← hlen]
        refine relay_all (s := { s with heap := h1 }) ho1 ⟨hex.1, hex.2.1, hex.2.2⟩ rfl hin T2 (by rw [hlen, em, qm]; omega) nd1 key1 ld1 (by omega) (by rw [hlen]; rw [em, qm] at hfull; omega) fun h2 L2 es2 ep2' t2' sb2 R2 pm2 => ?_
        exact wpAny_pure (hQ true h2 L2 es2 ep2' t2' (sb.trans sb2) R2 (fun z => absurd z hm) fun _ => pm2.trans pm)
      · first
          | refine wp_if_neg (by simp [hf]) ?_
          | (refine wpAny_bind ?_; refine wp_if_neg (by simp [hf]) ?_; refine wpAny_pure ?_)
        refine wpAny_pure (hQ true h1 L1 es1 (ep + 1) t2 sb ⟨⟨_, ho1, ⟨hex.1, hex.2.1, hex.2.2⟩, rfl⟩, hin, T2, nd1, key1, ld1, ?_, by rw [hlen, em, qm]; omega⟩ (fun z => absurd z hm) fun _ => pm)
        have h := hf
        unfold SetTable.tooFull at h
        rw [decide_eq_true_eq, fill] at h
        rw [hlen]
        omega
    have both : ∀ b : Bool, wpAny (model P w) A (do
        let t := if b = true then t1 else { t1 with plain := false }
        storeSet a es1 t
        if !false && t.tooFull then setRelay a (SetTable.grown (es.size + 1))
        return true) Q E s := fun b => by
      cases b with
      | true => exact main t1 rfl rfl rfl rfl
      | false => exact main { t1 with plain := false } rfl rfl rfl rfl
    by_cases hpl : t1.plain = true
    · first
        | (refine wpAny_bind ?_; refine wp_if_pos hpl ?_; refine by_value k _ 8 _ hx.1 _ _ _ fun b => ?_)
        | refine wp_if_pos hpl (wpAny_bind (by_value k _ 8 _ hx.1 _ _ _ fun b => ?_))
      exact both b
    · first
        | (refine wpAny_bind ?_; refine wp_if_neg hpl ?_; refine wpAny_pure ?_)
        | refine wp_if_neg hpl (wpAny_bind (wpAny_pure ?_))
      exact both true
end
end TA

namespace TA
open PySem PySem.Spec PyProof.Rows L2
section
variable {P : Program} {w : World} {A : Around} {E : Value → Shared → Prop} {s : Shared}
variable {a : Addr} {L : List (NestedKey × Addr)} {es : Array (Int × Value)} {ep : Nat} {t : SetTable}
/-! ### set(xs) -/
/-- what is in the set behind i items -/
structure GotN (ks : List (NestedKey × Addr)) (i : Nat) (L : List (NestedKey × Addr)) : Prop where
  sub : ∀ p ∈ L, p ∈ ks.take i
  all : ∀ p ∈ ks.take i, p.1 ∈ L.map (·.1)
theorem GotN.next {ks L L' : List (NestedKey × Addr)} {i : Nat} {p : NestedKey × Addr} (g : GotN ks i L) (hp : ks[i]? = some p) (c1 : p.1 ∈ L.map (·.1) → L' = L) (c2 : p.1 ∉ L.map (·.1) → L'.Perm (p :: L)) : GotN ks (i + 1) L' := by
  have e : ks.take (i + 1) = ks.take i ++ [p] := by rw [List.take_add_one, hp]; rfl
  by_cases c : p.1 ∈ L.map (·.1)
  · rw [c1 c]
    refine ⟨fun q hq => by rw [e]; exact List.mem_append_left _ (g.sub q hq), fun q hq => ?_⟩
    rw [e] at hq
    rcases List.mem_append.mp hq with hq | hq
    · exact g.all q hq
    · rw [List.mem_singleton.mp hq]
      exact c
  · have pm := c2 c
    refine ⟨fun q hq => ?_, fun q hq => ?_⟩
    · rw [e]
      rcases List.mem_cons.mp (pm.mem_iff.mp hq) with rfl | hq
      · exact List.mem_append_right _ List.mem_cons_self
      · exact List.mem_append_left _ (g.sub q hq)
    · rw [e] at hq
      refine (pm.map (·.1)).mem_iff.mpr ?_
      rw [List.map_cons]
      rcases List.mem_append.mp hq with hq | hq
      · exact List.mem_cons_of_mem _ (g.all q hq)
      · rw [List.mem_singleton.mp hq]
        exact List.mem_cons_self
theorem SetN.keep {h h' : Heap} (R : SetN w h a L es ep t) (ha : ∀ o, h.get? a = some o → h'.get? a = some o) (hk : ∀ p ∈ L, KeyAt h' p.1 p.2) : SetN w h' a L es ep t := by
  obtain ⟨o, ho, r⟩ := R.ob
  exact ⟨⟨o, ha o ho, r⟩, R.rows, R.tab, R.nd, hk, R.led, R.room, R.wide⟩
theorem setN_new {h : Heap} (ho : h.get? a = some (Rs.voidSet w)) : SetN w h a [] #[] 0 (.fresh 0 0 (!w.params.followText "set-order")) where
  ob := ⟨_, ho, ⟨rfl, rfl, rfl⟩, rfl⟩
  rows := rfl
  tab := ⟨List.Pairwise.nil, rfl, rfl, ⟨3, by decide, rfl⟩, fun x hx => (by cases hx), fun i h j hi => (by simp at hi)⟩
  nd := List.nodup_nil
  key := fun p hp => (by cases hp)
  led := by
    show _ ∨ (!w.params.followText "set-order") = true
    cases w.params.followText "set-order"
    · exact .inr rfl
    · exact .inl rfl
  room := by
    show 0 * 5 < 7 * 3
    decide
  wide := Nat.le_refl _
theorem update_all {I : Addr} {fp wr : List Addr} {G : Array GenState → Array GenState → Prop} {n : Nat} {Pv : Nat → Value → Prop} {St : Nat → Shared → Prop} {R : Result → Shared → Prop}
    (W : WalksS P w A.in1 I fp wr G n Pv St) (S : Addr) (hSf : S ∉ fp) (ks : List (NestedKey × Addr)) (hn : n = ks.length) (few : ∀ L : List (NestedKey × Addr), (L.map (·.1)).Nodup → (∀ p ∈ L, p ∈ ks) → L.length + 1 < 1200)
    (hval : ∀ i v, Pv i v → ∃ p, ks[i]? = some p ∧ v = .ref p.2) (h0 : Heap) (hk : ∀ p ∈ ks, KeyAt h0 p.1 p.2) (hS0 : h0.get? S = none) (hw0 : ∀ b ∈ wr, h0.get? b = none) (hu : A.in1.units + 8 < cLine) :
    ∀ (k i : Nat) (s : Shared), n - i = k → i ≤ n → St i s → (∀ b o, h0.get? b = some o → s.heap.get? b = some o) → (∃ L es ep t, SetN w s.heap S L es ep t ∧ GotN ks i L) →
      (∀ s' L es ep t, Moved (S :: wr) G s s' → SetN w s'.heap S L es ep t → GotN ks n L → (∀ b o, h0.get? b = some o → s'.heap.get? b = some o) → R (.ok (.ret .none)) s') →
      codeAny (model P w) A (.builtin "set.update.loop" ⟨[.ref S, .ref I], []⟩) R s := by
  have hSw : S ∉ wr := fun h => hSf (W.sub _ h)
  have hsub : ∀ b ∈ wr, b ∈ S :: wr := fun b hb => List.mem_cons_of_mem _ hb
  have held : ∀ {s s' : Shared}, Moved wr G s s' → (∀ b o, h0.get? b = some o → s.heap.get? b = some o) → ∀ b o, h0.get? b = some o → s'.heap.get? b = some o := fun hm hkp b o e =>
    hm.heap b o (fun hb => by rw [hw0 b hb] at e; cases e) (hkp b o e)
  intro k
  induction k with
  | zero =>
    intro i s hk' hi hst hkp ⟨L, es, ep, t, hS, g⟩ hR
    obtain rfl : i = n := by omega
    refine codeAny_builtin F.entry_set_update_loop ?_
    rw [Around.under_plainId F.plain_set_update_loop _]
    show wpAny _ A.in1 (pyNext (.ref I) >>= _) _ _ s
    refine wpAny_bind (W.done s _ _ hst fun s' hm => ?_)
    show wpAny _ A.in1 (ret Value.none) _ _ s'
    have hkp' := held hm hkp
    exact wpAny_pure (hR s' L es ep t (hm.mono hsub) (hS.keep (fun o e => hm.heap S o hSw e) fun p hp => key_room (hk p (List.mem_of_mem_take (g.sub p hp))) hkp') g hkp')
  | succ k ih =>
    intro i s hk' hi hst hkp ⟨L, es, ep, t, hS, g⟩ hR
    have hlt : i < n := by omega
    refine codeAny_builtin F.entry_set_update_loop ?_
    rw [Around.under_plainId F.plain_set_update_loop _]
    show wpAny _ A.in1 (pyNext (.ref I) >>= _) _ _ s
    refine wpAny_bind (W.item i s _ _ hlt hst fun v s' hP hst' hm => ?_)
    obtain ⟨p, hp, rfl⟩ := hval i v hP
    have hkp' := held hm hkp
    have hS' : SetN w s'.heap S L es ep t := hS.keep (fun o e => hm.heap S o hSw e) fun q hq => key_room (hk q (List.mem_of_mem_take (g.sub q hq))) hkp'
    have hx : KeyAt s'.heap p.1 p.2 := key_room (hk p (List.mem_of_getElem? hp)) hkp'
    show wpAny _ A.in1 (holding [Value.ref p.2] (setAdd S (.ref p.2)) >>= _) _ _ s'
    refine wpAny_bind (wpAny_holding ?_)
    unfold setAdd
    refine wpAny_holding ?_
    refine wpAny_bind ((nestedKind P w).pyHash hu hx ?_)
    refine add_all (s := { s' with toks := s'.toks + p.1.draws }) hS' hx hu (few L hS.nd fun q hq => List.mem_of_mem_take (g.sub q hq)) fun b h' L' es' ep' t' hsb hS2 c1 c2 => ?_
    have g' : GotN ks (i + 1) L' := g.next hp c1 c2
    have hkp2 : ∀ b o, h0.get? b = some o → h'.get? b = some o := fun b o e => (hsb.2 b (fun z => by rw [z, hS0] at e; cases e)).trans (hkp' b o e)
    refine wpAny_pure ⟨plainId_quiet F.plain_set_update_loop _, ih (i + 1) _ (by omega) hlt (W.frame _ s' _ _ hst' (Nat.le_add_right _ _) fun b hb o e => ?_) hkp2 ⟨L', es', ep', t', hS2, g'⟩ fun s'' L2 es2 ep2 t2 hm'' hS'' g'' hkp'' => ?_⟩
    · rw [hsb.2 b (fun h : b = S => hSf (by rw [← h]; exact hb))]
      exact e
    · refine hR s'' L2 es2 ep2 t2 (Moved.trans W.gtrans ((hm.mono hsub).then_heap (Nat.le_add_right _ _) fun b o hb e => ?_) hm'') hS'' g'' hkp''
      rw [hsb.2 b (fun h : b = S => hb (by rw [h]; exact List.mem_cons_self))]
      exact e
theorem set_of_keys {l : Addr} {items : Array Value} (ks : List (NestedKey × Addr)) {Q : Value → Shared → Prop} (calm : A.handled = none) (hl : s.heap.IsList l items) (hit : items.toList = ks.map fun p => Value.ref p.2)
    (hk : ∀ p ∈ ks, KeyAt s.heap p.1 p.2) (few : ∀ L : List (NestedKey × Addr), (L.map (·.1)).Nodup → (∀ p ∈ L, p ∈ ks) → L.length + 1 < 1200) (hu : A.units + 12 < cLine)
    (k : ∀ (h' : Heap) (tk : Nat) L es ep t, SetN w h' s.heap.objs.size L es ep t → GotN ks ks.length L → (∀ b o, s.heap.get? b = some o → h'.get? b = some o) → Q (.ref s.heap.objs.size) { s with heap := h', toks := tk }) :
    wpAny (model P w) A (call (.type "set") [.ref l]) Q E s := by
  have size : items.size = ks.length := by
    have q := congrArg List.length hit
    rw [Array.length_toList, List.length_map] at q
    exact q
  have ⟨c, tl, hmro⟩ := F.called_set.mro
  have made := F.called_set.made
  have sub := F.called_set.sub
  have nt := F.called_set.notType
  have cc := F.called_set.canCreate
  have tc := F.typeCall_set_1 (.ref l)
  have lk := F.called_set.init.lookup
  refine wpAny_call (codeAny_of_tree ?_)
  change wpAny _ _ (callAny (.type "set") _) _ _ _
  refine wpAny_pure ⟨Code.quiet_builtin _ (by decide +kernel), codeAny_builtin F.entry_type_call ?_⟩
  rw [Around.under_plain (weight_type_call_type "set" [.ref l] []) rfl]
  repeat (any_goals (first | assumption | wp_step))
  refine codeAny_mono (code_set_led1 (.ref l) (E := E) (Q₁ := fun obj s1 => obj = .ref s.heap.objs.size ∧ s1 = { s with heap := s.heap.push (Rs.voidSet w) }) ⟨rfl, rfl⟩) fun r s1 hr => ?_
  match r, hr with
  | .error e, hr => exact hr
  | .ok .next, hr => exact hr.elim
  | .ok .brk, hr => exact hr.elim
  | .ok .cont, hr => exact hr.elim
  | .ok (.ret obj), hr =>
    have ⟨e1, e2⟩ : obj = .ref s.heap.objs.size ∧ s1 = { s with heap := s.heap.push (Rs.voidSet w) } := hr
    clear hr
    subst e1
    subst e2
    have here : (s.heap.push (Rs.voidSet w)).get? s.heap.objs.size = some (Rs.voidSet w) := Heap.get?_push_size _ rfl
    have ty : Shared.TypeIs { s with heap := s.heap.push (Rs.voidSet w) } (.ref s.heap.objs.size) "set" := ⟨_, here, rfl⟩
    have ib := F.called_set.init.bind (.ref s.heap.objs.size)
    repeat (any_goals (first | assumption | wp_step))
    refine codeAny_mono (codeAny_call_builtin (R := wants (fun r s2 => r = .none ∧ ∃ h' tk L es ep t, s2 = { s with heap := h', toks := tk } ∧ SetN w h' s.heap.objs.size L es ep t ∧ GotN ks ks.length L ∧
      ∀ b o, s.heap.get? b = some o → h'.get? b = some o) E) F.called_set.init.plain F.entry_set_init (check_set_init_1 ty ?_)) fun r2 s2 hr2 => ?_
    · have ⟨ol, hol, hcl, nl, hdl⟩ := hl
      have hl1 : (s.heap.push (Rs.voidSet w)).IsList l items := hl.push _
      have hol1 : (s.heap.push (Rs.voidSet w)).get? l = some ol := Heap.get?_push_of_some _ hol
      have sls := F.sub_list_set
      have slf := F.sub_list_frozenset
      have ne : (Value.type "list" == Value.type "dict") = false := by decide
      cases ol
      cases hcl
      cases hdl
      unfold Builtin.«set.__init__» noKeywords Builtin.Frozenset.updateFrom
      generalize hPI : pyIter = PI
      wp_walk
      subst hPI
      refine wpAny_pyIter_list hl1 ?_
      refine wpAny_bind (wpAny_runValue ?_)
      have calm3 : A.in1.in1.in1.handled = none := by simp [calm]
      have lt : l < s.heap.objs.size := Heap.lt_size hol
      have sz : (s.heap.push (Rs.voidSet w)).objs.size = s.heap.objs.size + 1 := Heap.size_push ..
      have apart : l ≠ (s.heap.push (Rs.voidSet w)).objs.size := Nat.ne_of_lt (by rw [sz]; exact Nat.lt_succ_of_lt lt)
      have away : s.heap.objs.size ∉ [(s.heap.push (Rs.voidSet w)).objs.size, l] := by
        rw [sz]
        simp only [List.mem_cons, List.not_mem_nil, or_false, not_or]
        exact ⟨Nat.ne_of_lt (Nat.lt_succ_self _), Nat.ne_of_gt lt⟩
      have val : ∀ (i : Nat) (v : Value), items[i]? = some v → ∃ p, ks[i]? = some p ∧ v = .ref p.2 := fun i v hv => by
        have q : items.toList[i]? = some v := by rw [Array.getElem?_toList]; exact hv
        rw [hit, List.getElem?_map] at q
        obtain ⟨p, hp, e⟩ := Option.map_eq_some_iff.mp q
        exact ⟨p, hp, e.symm⟩
      have void : ∀ b, s.heap.objs.size ≤ b → s.heap.get? b = none := fun b hb => by
        cases q : s.heap.get? b with
        | none => rfl
        | some o => exact absurd (Heap.lt_size q) (Nat.not_lt.mpr hb)
      refine update_all ((Walks.list calm3 _ l apart items).toS) s.heap.objs.size away ks size few val s.heap hk (void _ (Nat.le_refl _)) (fun b hb => void b (by
          rw [List.mem_singleton.mp hb, sz]
          exact Nat.le_succ _)) (by show A.units + 1 + 1 + 1 + 8 < cLine; omega) (items.size - 0) 0 _ (by omega) (Nat.zero_le _) ⟨⟨_, Heap.get?_push_size _ rfl, rfl, rfl⟩, hl1.push _⟩ (fun b o e => Heap.get?_push_of_some _ (Heap.get?_push_of_some _ e))
        ⟨[], #[], 0, _, setN_new (Heap.get?_push_of_some _ here), ⟨fun p hp => (by cases hp), fun p hp => (by simp at hp)⟩⟩ fun s' L es ep t mv R g keep => ?_
      have ⟨h', g', d', tk', os'⟩ := s'
      have eg : g' = s.gens := mv.gens
      have ed : d' = s.drawn := mv.drawn
      have eo : os' = s.os := mv.os
      subst eg
      subst ed
      subst eo
      change wpAny _ _ _ _ _ _
      refine wpAny_pure ?_
      change wpAny _ _ (ret Value.none) _ _ _
      rw [size] at g
      exact wpAny_pure ⟨rfl, h', tk', L, es, ep, t, rfl, R, g, keep⟩
    · match r2, hr2 with
      | .error e, hr2 => exact hr2
      | .ok .next, hr2 => exact hr2.elim
      | .ok .brk, hr2 => exact hr2.elim
      | .ok .cont, hr2 => exact hr2.elim
      | .ok (.ret r), hr2 =>
        have ⟨e1, h', tk, L, es, ep, t, e2, R, g, keep⟩ := hr2
        subst e1
        subst e2
        repeat (any_goals (first | assumption | wp_step))
        exact k _ _ _ _ _ _ R g keep
end
end TA

namespace TA
open PySem PySem.Spec PyProof.Rows L2
mutual
theorem reads_old {h : Heap} : ∀ {v : Value} {d : PyData} {as : List Addr}, Reads h v d as → ∀ b ∈ as, ∃ o, h.get? b = some o
  | _, _, _, .none, b, hb => by cases hb
  | _, _, _, .bool _, b, hb => by cases hb
  | _, _, _, .int _ _, b, hb => by cases hb
  | _, _, _, .str _ _, b, hb => by cases hb
  | _, _, _, .list h1 _ _ h4, b, hb => by
    rcases List.mem_cons.mp hb with rfl | hb
    · exact ⟨_, h1⟩
    · exact readsAll_old h4 b hb
  | _, _, _, .tuple _ _ _ h4, b, hb => readsAll_old h4 b hb
  | _, _, _, .dict h1 _ _ h4 h5, b, hb => by
    rcases List.mem_append.mp hb with hb | hb
    · rcases List.mem_cons.mp hb with rfl | hb
      · exact ⟨_, h1⟩
      · exact readsAll_old h4 b hb
    · exact readsAll_old h5 b hb
theorem readsAll_old {h : Heap} : ∀ {vs : List Value} {ds : List PyData} {as : List Addr}, ReadsAll h vs ds as → ∀ b ∈ as, ∃ o, h.get? b = some o
  | _, _, _, .nil, b, hb => by cases hb
  | _, _, _, .cons h1 h2, b, hb => by
    rcases List.mem_append.mp hb with hb | hb
    · exact reads_old h1 b hb
    · exact readsAll_old h2 b hb
end
/-- the set at a, without its tuples -/
structure SetN0 (w : World) (h : Heap) (a : Addr) (L : List (NestedKey × Addr)) : Prop where
  ex : ∃ (es : Array (Int × Value)) (ep : Nat) (t : SetTable), (∃ o, h.get? a = some o ∧ o.ExactSet ∧ o.data = .set es ep t) ∧ es.toList = rowsK w L ∧ TabP t (L.map fun p => p.1.hash w) ∧ (w.params.followText "set-order" = true ∨ t.led = true) ∧ L.length * 5 < t.mask * 3
def SetNO (w : World) (a : Addr) (L : List (NestedKey × Addr)) : HO := .ext fun h => SetN0 w h a L
theorem SetN.n0 {w : World} {h : Heap} {a : Addr} {L : List (NestedKey × Addr)} {es : Array (Int × Value)} {ep : Nat} {t : SetTable} (R : SetN w h a L es ep t) : SetN0 w h a L := ⟨es, ep, t, R.ob, R.rows, R.tab, R.led, R.room⟩
theorem setNO_new {P : Program} {w : World} {H : Hp} {h : Heap} {a : Addr} {L : List (NestedKey × Addr)} (R : SetN0 w h a L) : ObjOk P w H h a (SetNO w a L) := by
  have ⟨es, ep, t, ⟨o, ho, r⟩, q⟩ := R.ex
  refine ⟨R, ⟨o, ho⟩, fun h1 h2 p k => ?_⟩
  have ⟨es', ep', t', ⟨o', ho', r'⟩, q'⟩ := SetN0.ex p
  exact ⟨es', ep', t', ⟨o', k o' ho', r'⟩, q'⟩
theorem perm_map {α β : Type} {f : α → β} : ∀ {vs : List β} {bs : List α}, vs.Perm (bs.map f) → ∃ cs : List α, vs = cs.map f ∧ cs.Perm bs
  | [], bs, h => by
    have := h.length_eq
    rw [List.length_map] at this
    exact ⟨[], rfl, by rw [List.eq_nil_of_length_eq_zero this.symm]⟩
  | v :: vs, bs, h => by
    obtain ⟨b, hb, rfl⟩ := List.mem_map.mp (h.mem_iff.mp List.mem_cons_self)
    obtain ⟨l1, l2, rfl⟩ := List.append_of_mem hb
    have h2 : (f b :: vs).Perm (f b :: (l1 ++ l2).map f) := by
      refine h.trans ?_
      rw [List.map_append, List.map_cons, List.map_append]
      exact List.perm_middle
    obtain ⟨cs, rfl, pc⟩ := perm_map (List.Perm.cons_inv h2)
    exact ⟨b :: cs, rfl, (pc.cons b).trans List.perm_middle.symm⟩
theorem each_self {α : Type} {R : Value → α → Prop} {f : α → Value} : ∀ {cs : List α}, (∀ c ∈ cs, R (f c) c) → PySem.W.EachIs R (cs.map f) cs
  | [], _ => .nil
  | c :: cs, h => .cons (h c List.mem_cons_self) (each_self fun x hx => h x (List.mem_cons_of_mem _ hx))
theorem each_out {α : Type} {f : α → Value} : ∀ {out : List Value} {cs : List α}, PySem.W.EachIs (fun v c => v = f c) out cs → out = cs.map f
  | _, _, .nil => rfl
  | _, _, .cons h t => by rw [h, each_out t]; rfl
abbrev kz (zs : List (Rs.D × Addr)) : List (NestedKey × Addr) := zs.map fun z => (Rs.keyD z.1, z.2)
section
variable {X : Cx}
theorem refs_vals : ∀ {zs : List (Rs.D × Addr)} {us : List Value}, Vals (zs.map fun z => V.ref z.2) us → us = (kz zs).map fun p => Value.ref p.2
  | [], _, .nil => rfl
  | z :: zs, _, .cons r t => by
    cases r
    rw [refs_vals t]
    rfl
theorem vals_refs : ∀ (zs : List (Rs.D × Addr)), Vals (zs.map fun z => V.ref z.2) (zs.map fun z => Value.ref z.2)
  | [] => .nil
  | z :: zs => .cons rfl (vals_refs zs)
def rSetN (X : Cx) : List V → Hp → VK → Prop := fun xs H Q => ∃ (l : Addr) (zs : List (Rs.D × Addr)), xs = [V.ref l] ∧ SqL X.K H l (zs.map fun z => V.ref z.2) ∧ (∀ (pins : List (Addr × Obj)) (σ : L2.St) (s : Shared), Inv X pins σ H s → ∀ p ∈ kz zs, KeyAt s.heap p.1 p.2) ∧
  (∀ L : List (NestedKey × Addr), (L.map (·.1)).Nodup → (∀ p ∈ L, p ∈ kz zs) → L.length + 1 < 1200) ∧
  ∀ a L, H a = none → (L.map (·.1)).Nodup → (∀ p ∈ L, p ∈ kz zs) → (∀ p ∈ kz zs, p.1 ∈ L.map (·.1)) → Q (.ref a) (upd H a (SetNO X.w a L))
theorem cr_setN (hc : X.calm = true) (hu : X.A.units + 64 < cLine) : CallR X (.type "set") (rSetN X) := by
  intro pins s σ H xs us Q I r ⟨l, zs, e, hl, hk, few, q⟩
  subst e
  obtain ⟨its, rv, pl, hz⟩ := I.list hl
  rw [Vals.ref1 r]
  have hn : H s.heap.objs.size = none := I.hok.fresh (Nat.le_refl _)
  refine set_of_keys (P := X.prog) (w := X.w) (kz zs) (I.ok.hd hc) pl.isList (by simpa using refs_vals rv) (hk pins σ s I) few (by omega) fun h' tk L es ep t R g k => ?_
  refine ⟨.ref s.heap.objs.size, upd H s.heap.objs.size (SetNO X.w s.heap.objs.size L), I.laid (t' := tk) k (Nat.le_refl _) (setNO_new R.n0), rfl, q _ L hn R.nd (fun p hp => ?_) fun p hp => ?_⟩
  · have := g.sub p hp
    rwa [List.take_length] at this
  · exact g.all p (by rw [List.take_length]; exact hp)
/-- sorted of such a set -/
def rSortN (X : Cx) : List V → Hp → VK → Prop := fun vs H Q => ∃ (a : Addr) (L : List (NestedKey × Addr)) (bs : List (Rs.D × Addr)), vs = [V.ref a] ∧ H a = some (SetNO X.w a L) ∧ L = kz bs ∧ bs.length < 1200 ∧
  (∀ (pins : List (Addr × Obj)) (σ : L2.St) (s : Shared), Inv X pins σ H s → ∀ b ∈ bs, ∃ as, Reads s.heap (.ref b.2) b.1.toPy as) ∧ PySem.W.AllAlike (bs.map fun b => b.1.toPy) ∧ PySem.W.Sortable (bs.map fun b => b.1.toPy) ∧ (∀ b ∈ bs, b.1.toPy.depth ≤ 59) ∧
  ∀ (bs' : List (Rs.D × Addr)) (p : Addr), bs'.Perm bs → H p = none → Q (.ref p) (upd H p (.lst ((bs'.mergeSort (PySem.W.dataLe false fun b => b.1.toPy)).map fun b => V.ref b.2)))
theorem cr_sortedN (hc : X.calm = true) (hu : X.A.units + 64 < cLine) : CallR X (.builtin "sorted") (rSortN X) := by
  intro pins s σ H vs us Q I r ⟨a, L, bs, e, ha, eL, len, hr, al, so, dep, q⟩
  subst e
  have R0 : SetN0 X.w s.heap a L := (I.hok a _ ha).1
  obtain ⟨es, ep, t, ⟨o, ho, hex, hd⟩, hrows, T, ld, room⟩ := R0.ex
  have reads := hr pins σ s I
  rw [Vals.ref1 r]
  have hsz : es.size = bs.length := by
    have h := congrArg List.length hrows
    rw [Array.length_toList, rowsK_len, eL, List.length_map] at h
    exact h
  have fits : t.fits es.size = true := by
    have h1 := T.sz
    rw [List.length_map, eL, List.length_map] at h1
    rw [eL, List.length_map] at room
    unfold SetTable.fits SetTable.fill
    rw [T.dm, Bool.and_eq_true, beq_iff_eq, decide_eq_true_eq]
    show t.place.size = es.size ∧ t.place.size + 0 ≤ t.mask
    omega
  refine Calls.call_function_entry kind_sorted plain_sorted entry_sorted (args_sorted1 _) ?_
  unfold Builtin.«sorted»
  refine wpAny_bind (m := checkCount "sorted" 1 1 _) (wpAny_pure ?_)
  refine wpAny_bind (collect_set (A := X.A.in1) (I.ok.hd hc) ⟨o, ho, hex.1, hd⟩ fits (by unfold scanBound; omega) T.ris ld fun s1 vs k1 hz g1 o1 pm => ?_)
  have hes : es.toList.map (·.2) = bs.map fun b => Value.ref b.2 := by
    rw [hrows, rowsK, eL, List.map_map, List.map_map]
    rfl
  rw [hes] at pm
  -- the values are the refs of bs in some order
  obtain ⟨cs, rfl, pc⟩ : ∃ cs : List (Rs.D × Addr), vs = cs.map (fun b => Value.ref b.2) ∧ cs.Perm bs := by
    exact perm_map pm
  have clen : cs.length = bs.length := pc.length_eq
  refine wpAny_bind (wpAny_newList ?_ (by rw [List.length_map, sizeLine_eq]; omega))
  have hoL : (s1.heap.push (seqObj "list" (cs.map fun b => Value.ref b.2).toArray 0)).get? s1.heap.objs.size = some (seqObj "list" (cs.map fun b => Value.ref b.2).toArray 0) := Heap.get?_push_size _ rfl
  have kp : ∀ b u, s.heap.get? b = some u → (s1.heap.push (seqObj "list" (cs.map fun b => Value.ref b.2).toArray 0)).get? b = some u := fun b u e => Heap.get?_push_of_some _ (k1 b u e)
  have fresh : ∀ b ∈ cs, ∃ as, Reads (s1.heap.push (seqObj "list" (cs.map fun b => Value.ref b.2).toArray 0)) (.ref b.2) b.1.toPy as ∧ s1.heap.objs.size ∉ as := fun b hb => by
    obtain ⟨as, rd⟩ := reads b (pc.mem_iff.mp hb)
    refine ⟨as, PyProof.Rows.Reads.keeps kp rd, fun m => ?_⟩
    obtain ⟨u, hu'⟩ := reads_old rd _ m
    exact absurd (Heap.lt_size (k1 _ u hu')) (Nat.lt_irrefl _)
  have un : X.A.in1.units = X.A.units + 1 := rfl
  refine wpAny_bind (wpAny_holding (PySem.W.list_sort_data (s := { s1 with heap := s1.heap.push (seqObj "list" (cs.map fun b => Value.ref b.2).toArray 0) }) (enc := fun b : Rs.D × Addr => b.1.toPy) (bs := cs) (R := fun v b => v = Value.ref b.2) hoL (each_self fun _ _ => rfl) (each_self fresh)
    (fun d hd d' hd' => al d ((pc.map _).mem_iff.mp hd) d' ((pc.map _).mem_iff.mp hd')) (so.imp (fun h d hd => h d ((pc.map _).mem_iff.mp hd)) (fun h d hd => h d ((pc.map _).mem_iff.mp hd))) (by rw [sizeLine_eq]; omega)
    (fun b hb => by have := dep b (pc.mem_iff.mp hb); show X.A.in1.units + 1 + b.1.toPy.depth < cLine; omega) fun out ol oe => ?_))
  obtain ⟨c, hcc⟩ := sortedHeap_at (vs := cs.map fun b => Value.ref b.2) (out := out.toArray) hoL
  have eo := each_out oe
  generalize hds : cs.mergeSort (PySem.W.dataLe false fun b : Rs.D × Addr => b.1.toPy) = ds at oe eo
  have dl : ds.length = bs.length := by rw [← hds, List.length_mergeSort, clen]
  have hn : H s1.heap.objs.size = none := I.hok.fresh hz
  have kf : ∀ b u, s.heap.get? b = some u → (sortedHeap (s1.heap.push (seqObj "list" (cs.map fun b => Value.ref b.2).toArray 0)) s1.heap.objs.size (cs.map fun b => Value.ref b.2) out.toArray).get? b = some u := fun b u e => by
    have hlt := Heap.lt_size (k1 b u e)
    rw [sortedHeap_old (Nat.ne_of_lt hlt) (by rw [size_push']; exact Nat.lt_succ_of_lt hlt)]
    exact kp b u e
  refine wpAny_pure ⟨_, rfl, ?_⟩
  have hv : Vals (ds.map fun b => V.ref b.2) out := by
    rw [eo]
    exact vals_refs ds
  have J : Inv X pins σ (upd H s1.heap.objs.size (.lst (ds.map fun b => V.ref b.2))) { s with heap := (sortedHeap (s1.heap.push (seqObj "list" (cs.map fun b => Value.ref b.2).toArray 0)) s1.heap.objs.size (cs.map fun b => Value.ref b.2) out.toArray), gens := s1.gens, drawn := s1.drawn, toks := s1.toks } :=
    I.call (ch := []) (Un.laid kf hz hn) (I.hok.laid kf hz ⟨by rw [List.length_map, sizeLine_eq]; omega, out, c, hv, hcc⟩) (by rw [g1]; exact I.bare) (fun _ z => nomatch z)
  have e : ({ s1 with heap := (sortedHeap (s1.heap.push (seqObj "list" (cs.map fun b => Value.ref b.2).toArray 0)) s1.heap.objs.size (cs.map fun b => Value.ref b.2) out.toArray) } : Shared) = { s with heap := (sortedHeap (s1.heap.push (seqObj "list" (cs.map fun b => Value.ref b.2).toArray 0)) s1.heap.objs.size (cs.map fun b => Value.ref b.2) out.toArray), gens := s1.gens, drawn := s1.drawn, toks := s1.toks } := by
    cases s1
    cases s
    cases o1
    rfl
  show EP X pins σ Q _ { s1 with heap := _ }
  rw [e]
  refine ⟨.ref s1.heap.objs.size, _, J, rfl, ?_⟩
  rw [← hds]
  exact q cs _ pc hn
end
end TA

namespace Rs
open PySem PySem.Spec PyProof.Rows L2
/-! ### sorted(set(xs)) of nested tuples -/
theorem mem_ded {d : D} : ∀ {l : List D}, d ∈ dedD l ↔ d ∈ l
  | [] => Iff.rfl
  | e :: l => by
    rw [dedD, List.mem_cons, List.mem_cons, List.mem_filter, mem_ded]
    constructor
    · rintro (h | h)
      · exact .inl h
      · exact .inr h.1
    · rintro (h | h)
      · exact .inl h
      · cases q : same e d with
        | true => exact .inl (same_eq q).symm
        | false => exact .inr ⟨h, rfl⟩
theorem nodup_ded : ∀ l : List D, (dedD l).Nodup
  | [] => List.nodup_nil
  | e :: l => by
    rw [dedD]
    refine List.nodup_cons.mpr ⟨fun h => ?_, (nodup_ded l).filter _⟩
    have := (List.mem_filter.mp h).2
    rw [same_refl] at this
    cases this
theorem nodup_sub_len {α : Type} : ∀ {l m : List α}, l.Nodup → (∀ x ∈ l, x ∈ m) → l.length ≤ m.length
  | [], _, _, _ => Nat.zero_le _
  | a :: l, m, h, s => by
    obtain ⟨h1, h2⟩ := List.nodup_cons.mp h
    obtain ⟨x, y, rfl⟩ := List.append_of_mem (s a List.mem_cons_self)
    have := nodup_sub_len h2 (m := x ++ y) fun b hb => by
      rcases List.mem_append.mp (s b (List.mem_cons_of_mem _ hb)) with z | z
      · exact List.mem_append_left _ z
      · rcases List.mem_cons.mp z with rfl | z
        · exact absurd hb h1
        · exact List.mem_append_right _ z
    rw [List.length_append] at this
    rw [List.length_append, List.length_cons, List.length_cons]
    omega
theorem perm_mem {α : Type} {l m : List α} (h : l.Nodup) (g : m.Nodup) (e : ∀ x, x ∈ l ↔ x ∈ m) : l.Perm m := by
  classical
  exact (List.perm_ext_iff_of_nodup h g).mpr e
theorem str_pw : ∀ {l : List D}, strB l = true → l.Pairwise fun a b => PySem.W.dataLt a.toPy b.toPy = true
  | [], _ => List.Pairwise.nil
  | a :: l, h => by
    rw [strB, Bool.and_eq_true] at h
    exact List.pairwise_cons.mpr ⟨fun b hb => List.all_eq_true.mp h.1 b hb, str_pw h.2⟩
theorem pw_one : ∀ {l m : List D}, l.Perm m → (l.Pairwise fun a b => PySem.W.dataLe false D.toPy a b = true) → (m.Pairwise fun a b => PySem.W.dataLt a.toPy b.toPy = true) → l = m
  | [], m, h, _, _ => (List.nil_perm.mp h).symm
  | a :: l, [], h, _, _ => absurd h.length_eq (by simp)
  | a :: l, b :: m, h, hl, hm => by
    obtain ⟨l1, l2⟩ := List.pairwise_cons.mp hl
    obtain ⟨m1, m2⟩ := List.pairwise_cons.mp hm
    have e : a = b := by
      rcases List.mem_cons.mp (h.mem_iff.mp List.mem_cons_self) with e | e
      · exact e
      · rcases List.mem_cons.mp (h.mem_iff.mpr (List.mem_cons_self (a := b) (l := m))) with e' | e'
        · exact e'.symm
        · have x := l1 b e'
          have y := m1 a e
          have x : (!PySem.W.dataLt b.toPy a.toPy) = true := x
          rw [y] at x
          cases x
    subst e
    rw [pw_one (List.Perm.cons_inv h) l2 m2]
theorem sort_same {l m : List D} (h : l.Perm m) (g : strB (sortD m) = true) : sortD l = sortD m := by
  have tl : PySem.W.TotalLe (PySem.W.dataLe false D.toPy) := PySem.W.sortLe_total _ _ _
  refine pw_one ?_ (PySem.W.sort_pairwise tl l) (str_pw g)
  exact ((List.mergeSort_perm _ _).trans h).trans (List.mergeSort_perm _ _).symm
theorem call_or {X : Cx} {f : Value} {r1 r2 : List V → Hp → VK → Prop} (h1 : CallR X f r1) (h2 : CallR X f r2) : CallR X f (fun vs H Q => r1 vs H Q ∨ r2 vs H Q) := by
  intro pins s σ H xs us Q I r h
  rcases h with h | h
  · exact h1 pins s σ H xs us Q I r h
  · exact h2 pins s σ H xs us Q I r h
section
variable {K : KX} {L : List Addr} {H : Hp}
/-- tuples with their addresses -/
theorem den_zip : ∀ {l : List D} {xs : List V}, DenL K L H l xs → l.all hdT = true → ∃ zs : List (D × Addr), l = zs.map Prod.fst ∧ xs = zs.map (fun z => V.ref z.2) ∧ ∀ z ∈ zs, Den K L H z.1 (.ref z.2)
  | [], xs, d, _ => by
    rw [DenL] at d
    exact ⟨[], rfl, d, fun z h => by cases h⟩
  | d :: l, xs, h, hd => by
    rw [DenL] at h
    obtain ⟨y, ys, rfl, h1, h2⟩ := h
    rw [List.all_cons, Bool.and_eq_true] at hd
    obtain ⟨zs, rfl, rfl, hz⟩ := den_zip h2 hd.2
    cases d <;> try (cases hd.1; done)
    rename_i m
    obtain ⟨a, us, rfl, _⟩ := den_tup h1
    exact ⟨(.tup m, a) :: zs, rfl, rfl, fun z hz' => (List.mem_cons.mp hz').elim (fun e => by rw [e]; exact h1) (hz z)⟩
theorem den_unzip : ∀ {zs : List (D × Addr)}, (∀ z ∈ zs, Den K L H z.1 (.ref z.2)) → DenL K L H (zs.map Prod.fst) (zs.map fun z => V.ref z.2)
  | [], _ => by rw [List.map_nil, List.map_nil, DenL]
  | z :: zs, h => by
    rw [List.map_cons, List.map_cons, DenL]
    exact ⟨_, _, rfl, h z List.mem_cons_self, den_unzip fun x hx => h x (List.mem_cons_of_mem _ hx)⟩
end
theorem keyOkL_mem {k : Nat} : ∀ {l : List D} {d : D}, keyOkL l k = true → d ∈ l → keyOk d k = true
  | e :: l, d, h, m => by
    rw [keyOkL, Bool.and_eq_true] at h
    rcases List.mem_cons.mp m with rfl | m
    · exact h.1
    · exact keyOkL_mem h.2 m
theorem kz_pick : ∀ {L : List (NestedKey × Addr)} {zs : List (D × Addr)}, (∀ p ∈ L, p ∈ TA.kz zs) → ∃ bs : List (D × Addr), L = TA.kz bs ∧ ∀ b ∈ bs, b ∈ zs
  | [], _, _ => ⟨[], rfl, fun b h => by cases h⟩
  | p :: L, zs, h => by
    obtain ⟨bs, e, hb⟩ := kz_pick (L := L) fun q hq => h q (List.mem_cons_of_mem _ hq)
    obtain ⟨z, hz, ez⟩ := List.mem_map.mp (h p List.mem_cons_self)
    exact ⟨z :: bs, by rw [e, ← ez]; rfl, fun b hb' => (List.mem_cons.mp hb').elim (fun e => by rw [e]; exact hz) (hb b)⟩
theorem kz_nodup {bs : List (D × Addr)} (h : ((TA.kz bs).map (·.1)).Nodup) : (bs.map Prod.fst).Nodup := by
  rw [List.map_map, List.nodup_iff_pairwise_ne, List.pairwise_map] at h
  rw [List.nodup_iff_pairwise_ne, List.pairwise_map]
  exact h.imp fun n e => n (by show keyD _ = keyD _; rw [e])
section
variable {w : Xd} {C : CallT} {W : WX} {c : Cc} {X : Cx} {fa : Env → Store → Out D}
theorem g_srt (O : COk w C W c X) (hh : c.hot = false) {x y : Str} {e : Expr} {p p2 pos pos2 : Pos} (h0 : x = ("sorted" : Str)) (h0' : isGl c.sc x = true) (h1 : y = ("set" : Str)) (h2 : isGl c.sc y = true) (h3 : isStar e = false) (ha : PE X e (ED w W fa)) :
    PE X (.Call (.Name x p) [.Call (.Name y p2) [e] [] pos2] [] pos) (ED w W fun σ S => (fa σ S).bind srtQ) := by
  subst h0
  subst h1
  have un : X.A.units + 64 < cLine := by
    have := O.un
    omega
  have inner := pe_callTy (pos := pos2) (p := p2) (call_or (cr_setI (O.calm hh)) (TA.cr_setN (O.calm hh) un)) (O.gl h2) (O.bl "set" (by decide +kernel)) set_boot (pa_cons ha pa_nil (star_plain h3)) (by decide) (by decide) (star_plain h3) (plain_all rfl)
  have outer := pe_callB (pos := pos) (p := p) (call_or (cr_sortedSet (O.calm hh)) (TA.cr_sortedN (O.calm hh) un)) (O.gl h0') (O.bl "sorted" (by decide +kernel)) sorted_boot (pa_cons inner pa_nil (star_plain rfl)) (by decide) (by decide) (star_plain rfl) (plain_all rfl)
  refine PE_imp outer fun σ H Q ⟨σd, S, L, er, r, h⟩ => ?_
  refine ⟨σd, S, L, er, r, (EndR.bind h).imp fun x H1 ⟨d, S1, L1, g1, r1, d1, h1⟩ => ?_⟩
  cases d <;> try exact h1.elim
  rename_i l
  have h1 : EndR w (rD w) W σ L1 H1 Q (srtQ (.lst l) S1) := h1
  unfold srtQ at h1
  dsimp only at h1
  split at h1
  · rename_i ns e
    split at h1
    · rename_i few
      have ⟨a, xs, e1, e2, _, e3⟩ := den_lst d1
      have e4 := intsD_den e3 e
      subst e1 e4
      refine .inl ⟨a, ns, rfl, SqL.of e2, few, fun q k nq le => ?_⟩
      refine .inl ⟨q, _, k, rfl, upd_same, by omega, fun ns' q' rise mem len nq' => ?_⟩
      have e6 : ns' = sortU ns := rise_one rise rise_sortU fun j => by
        rw [mem, mem_sortU, decide_eq_true_eq]
      subst e6
      exact end_lst (EndR.grow h1 (Gr.upd nq)) (r1.upd nq) (denL_ofInts _) nq'
    · exact h1.elim
  · split at h1
    · rename_i m e
      unfold srtN at e
      split at e
      · rename_i hc
        cases e
        obtain ⟨ht, hk, hf, hal, few, hs⟩ := hc
        have ⟨a, xs, e1, e2, _, e3⟩ := den_lst d1
        subst e1
        obtain ⟨zs, rfl, rfl, dz⟩ := den_zip e3 ht
        have sub_len : ∀ bs : List (D × Addr), (bs.map Prod.fst).Nodup → (∀ b ∈ bs, b ∈ zs) → bs.length ≤ (dedD (zs.map Prod.fst)).length := fun bs nd sb => by
          have := nodup_sub_len nd (m := dedD (zs.map Prod.fst)) fun x hx => by
            obtain ⟨b, hb, rfl⟩ := List.mem_map.mp hx
            exact mem_ded.mpr (List.mem_map.mpr ⟨b, sb b hb, rfl⟩)
          rwa [List.length_map] at this
        refine .inr ⟨a, zs, rfl, SqL.of e2, fun pins σ s I p hp => ?_, fun L nd sb => ?_, fun q L nq nd sb all => ?_⟩
        · obtain ⟨z, hz, rfl⟩ := List.mem_map.mp hp
          exact key_is I (keyOkL_mem hk (List.mem_map.mpr ⟨z, hz, rfl⟩)) (dz z hz) rfl
        · obtain ⟨bs, rfl, hb⟩ := kz_pick sb
          have := sub_len bs (kz_nodup nd) hb
          rw [List.length_map]
          omega
        · obtain ⟨bs, rfl, hb⟩ := kz_pick sb
          have bn := kz_nodup nd
          have bp : (bs.map Prod.fst).Perm (dedD (zs.map Prod.fst)) := perm_mem bn (nodup_ded _) fun d => by
            rw [mem_ded]
            constructor
            · intro h
              obtain ⟨b, hb', rfl⟩ := List.mem_map.mp h
              exact List.mem_map.mpr ⟨b, hb b hb', rfl⟩
            · intro h
              obtain ⟨z, hz, rfl⟩ := List.mem_map.mp h
              obtain ⟨p, hp, ep⟩ := List.mem_map.mp (all _ (List.mem_map.mpr ⟨z, hz, rfl⟩))
              obtain ⟨b, hb', rfl⟩ := List.mem_map.mp hp
              have := keyD_inj (keyOkL_mem hk (List.mem_map.mpr ⟨b, hb b hb', rfl⟩)) (keyOkL_mem hk (List.mem_map.mpr ⟨z, hz, rfl⟩)) ep
              exact List.mem_map.mpr ⟨b, hb', this⟩
          have g2 : Gr L1 H1 L1 (upd H1 q (TA.SetNO X.w q (TA.kz bs))) := Gr.upd nq
          have inl : ∀ b ∈ bs, b.1 ∈ zs.map Prod.fst := fun b hb' => List.mem_map.mpr ⟨b, hb b hb', rfl⟩
          refine .inr ⟨q, TA.kz bs, bs, rfl, upd_same, rfl, by have := sub_len bs bn hb; omega, fun pins σ s I b hb' => ?_, fun d hd d' hd' => ?_, .inl fun d hd => ?_, fun b hb' => ?_, fun bs' p pb np => ?_⟩
          · have dp := den_dp b.1 (.ref b.2) 59 (fitL_mem hf (inl b hb')) (Den.grow g2 _ _ (dz b (hb b hb')))
            rw [← O.K] at dp
            exact Dp.reads I _ _ _ dp rfl
          · obtain ⟨b, hb', rfl⟩ := List.mem_map.mp hd
            obtain ⟨b2, hb2, rfl⟩ := List.mem_map.mp hd'
            exact List.all_eq_true.mp (List.all_eq_true.mp hal b.1 (mem_ded.mpr (inl b hb'))) b2.1 (mem_ded.mpr (inl b2 hb2))
          · obtain ⟨b, hb', rfl⟩ := List.mem_map.mp hd
            have q := List.all_eq_true.mp ht b.1 (inl b hb')
            cases hb1 : b.1 <;> rw [hb1] at q <;> try (cases q; done)
            rename_i m
            cases m with
            | nil => cases q
            | cons x m => exact ⟨x.toPy, toPyL m, by rw [D.toPy, toPyL]⟩
          · exact (fit_lay b.1 59 (fitL_mem hf (inl b hb'))).2
          · have e5 : (bs'.mergeSort (PySem.W.dataLe false fun b : D × Addr => b.1.toPy)).map Prod.fst = sortD (dedD (zs.map Prod.fst)) := by
              rw [← sort_same ((pb.map Prod.fst).trans bp) hs, sortD]
              exact PySem.W.sort_maps (r := PySem.W.dataLe false fun b : D × Addr => b.1.toPy) (s := PySem.W.dataLe false D.toPy) Prod.fst fun _ _ _ _ => rfl
            have d5 := den_unzip (K := w.K) (L := L1) (H := upd H1 q (TA.SetNO X.w q (TA.kz bs))) (zs := bs'.mergeSort (PySem.W.dataLe false fun b : D × Addr => b.1.toPy)) fun b hb' => Den.grow g2 _ _ (dz b (hb b (pb.mem_iff.mp (List.mem_mergeSort.mp hb'))))
            rw [e5] at d5
            exact end_lst (EndR.grow h1 (Gr.upd nq)) (r1.upd nq) d5 np
      · cases e
    · exact h1.elim
end
end Rs

namespace Rs
open PySem PySem.Spec PyProof.Rows L2
section
variable {w : Xd} {C : CallT} {W : WX} {c : Cc} {X : Cx} {fa fb fc : Env → Store → Out D} {fs : Env → Store → Out (List D)}
/-! ### targets -/
/-- the slots at is alone may have changed -/
def SameOut (is : List Nat) (σ σ' : L2.St) : Prop := σ'.length = σ.length ∧ ∀ j, j ∉ is → σ'[j]? = σ[j]?
theorem SameOut.refl {is : List Nat} {σ : L2.St} : SameOut is σ σ := ⟨rfl, fun _ _ => rfl⟩
theorem SameOut.trans {is js : List Nat} {σ σ' σ2 : L2.St} (a : SameOut is σ σ') (b : SameOut js σ' σ2) : SameOut (is ++ js) σ σ2 :=
  ⟨b.1.trans a.1, fun j h => by
    rw [List.mem_append] at h
    rw [b.2 j (fun z => h (.inr z)), a.2 j (fun z => h (.inl z))]⟩
def gT (w : Xd) (t : QT) : TG := fun v σ H Q => ∃ σd L d σd', ERel w.K L H σd σ ∧ Den w.K L H d v ∧ assignT t d σd = some σd' ∧ ∀ σ', ERel w.K L H σd' σ' → SameOut t.slots σ σ' → Q σ' H
def gTs (w : Xd) (ts : List QT) : TGs := fun vs σ H Q => ∃ σd L ds σd', ERel w.K L H σd σ ∧ DenL w.K L H ds vs ∧ assignTs ts ds σd = some σd' ∧ ∀ σ', ERel w.K L H σd' σ' → SameOut (slotsL ts) σ σ' → Q σ' H
theorem PG_imp {X : Cx} {e : Expr} {t t' : TG} (h : PG X e t) (i : ∀ v σ H Q, t' v σ H Q → t v σ H Q) : PG X e t' := ⟨fun pins s σ H v u Q I r q => h.run pins s σ H v u Q I r (i v σ H Q q)⟩
theorem PGs_imp {X : Cx} {e : List Expr} {t t' : TGs} (h : PGs X e t) (i : ∀ v σ H Q, t' v σ H Q → t v σ H Q) : PGs X e t' := ⟨fun pins s σ H v u Q I r q => h.run pins s σ H v u Q I r (i v σ H Q q)⟩
theorem asg_plain {e : Expr} {es : List Expr} {env : PySem.Env} (h : isStar e = false) : assignEach (e :: es) env = (false, assign e env) :: assignEach es env := by
  cases e <;> first
    | rfl
    | cases h
theorem asg_len : ∀ {es : List Expr} {env : PySem.Env}, (es.all fun z => !isStar z) = true → (assignEach es env).length = es.length ∧ (assignEach es env).findIdx? (·.1) = none
  | [], _, _ => ⟨rfl, rfl⟩
  | e :: es, env, h => by
    rw [List.all_cons, Bool.and_eq_true_iff] at h
    have h1 : isStar e = false := by simpa using h.1
    obtain ⟨a, b⟩ := asg_len (env := env) h.2
    rw [asg_plain h1]
    refine ⟨by rw [List.length_cons, List.length_cons, a], ?_⟩
    rw [List.findIdx?_cons]
    simp [b]
theorem chkTs_star : ∀ {ts : List QT} {es : List Expr}, chkTs c ts es = true → (es.all fun z => !isStar z) = true ∧ ts.length = es.length
  | [], [], _ => ⟨rfl, rfl⟩
  | [], _ :: _, h => by simp [chkTs] at h
  | _ :: _, [], h => by simp [chkTs] at h
  | t :: ts, e :: es, h => by
    rw [chkTs] at h
    simp only [Bool.and_eq_true] at h
    obtain ⟨a, b⟩ := chkTs_star h.2
    exact ⟨by rw [List.all_cons, h.1.1, a]; rfl, by rw [List.length_cons, List.length_cons, b]⟩
theorem assignTs_len : ∀ {ts : List QT} {ds : List D} {σ σ' : Env}, assignTs ts ds σ = some σ' → ts.length = ds.length
  | [], [], _, _, _ => rfl
  | [], _ :: _, _, _, h => by simp [assignTs] at h
  | _ :: _, [], _, _, h => by simp [assignTs] at h
  | t :: ts, d :: ds, σ, σ', h => by
    rw [assignTs] at h
    obtain ⟨σ1, _, h⟩ := Option.bind_eq_some_iff.mp h
    rw [List.length_cons, List.length_cons, assignTs_len h]
mutual
theorem snd_t (O : COk w C W c X) : ∀ (t : QT) (e : Expr), chkT c t e = true → PG X e (gT w t)
  | .nm i, e, h => by
    cases e <;> simp only [chkT, Bool.false_eq_true] at h
    rename_i x pos
    rw [Bool.and_eq_true, Bool.and_eq_true, decide_eq_true_eq] at h
    refine PG_imp (pg_name (i := i) O.nd (by rw [O.N]; exact h.1.1) (O.loc h.1.2) (O.as x h.1.2 h.2)) fun v σ H Q ⟨σd, L, d, σd', er, dv, e, q⟩ => ?_
    rw [assignT] at e
    cases e
    refine q _ (er.set i dv) ⟨List.length_set .., fun j hj => ?_⟩
    rw [QT.slots, List.mem_singleton] at hj
    exact List.getElem?_set_ne (Ne.symm hj)
  | .tp ts, e, h => by
    cases e <;> simp only [chkT, Bool.false_eq_true] at h
    rename_i es k pos
    simp only [Bool.and_eq_true, Bool.not_eq_true'] at h
    obtain ⟨hh, h⟩ := h
    obtain ⟨h1, h2⟩ := chkTs_star h
    obtain ⟨h3, h4⟩ := asg_len (env := X.env) h1
    refine PG_imp (pg_tup (O.calm hh) (snd_ts O ts es h) h3 h4) fun v σ H Q ⟨σd, L, d, σd', er, dv, e, q⟩ => ?_
    cases d <;> simp only [assignT, reduceCtorEq] at e
    rename_i l
    obtain ⟨a, xs, rfl, e1, _, e2⟩ := den_tup dv
    refine ⟨a, xs, rfl, .of e1, by rw [← e2.length, ← assignTs_len e, h2], σd, L, l, σd', er, e2, e, ?_⟩
    rw [QT.slots] at q
    exact q
theorem snd_ts (O : COk w C W c X) : ∀ (ts : List QT) (es : List Expr), chkTs c ts es = true → PGs X es (gTs w ts)
  | [], [], h => PGs_imp pgs_nil fun v σ H Q ⟨σd, L, d, σd', er, dv, e, q⟩ => by
    cases d with
    | nil =>
      rw [assignTs] at e
      cases e
      rw [DenL] at dv
      exact ⟨dv, q σ er .refl⟩
    | cons d ds => simp [assignTs] at e
  | [], _ :: _, h => by simp [chkTs] at h
  | _ :: _, [], h => by simp [chkTs] at h
  | t :: ts, e :: es, h => by
    rw [chkTs] at h
    simp only [Bool.and_eq_true, Bool.not_eq_true'] at h
    refine PGs_imp (pgs_cons (snd_t O t e h.1.2) (snd_ts O ts es h.2) (by rw [asg_plain h.1.1]; rfl)) fun vs σ H Q ⟨σd, L, ds, σd', er, dv, e, q⟩ => ?_
    cases ds with
    | nil => simp [assignTs] at e
    | cons d ds =>
      rw [assignTs] at e
      obtain ⟨σ1, e1, e2⟩ := Option.bind_eq_some_iff.mp e
      rw [DenL] at dv
      obtain ⟨y, ys, rfl, r, rs⟩ := dv
      refine ⟨y, ys, rfl, σd, L, d, σ1, er, r, e1, fun σ' er' so => ?_⟩
      refine ⟨σ1, L, ds, σd', er', rs, e2, fun σ2 er2 so2 => q σ2 er2 ?_⟩
      rw [slotsL]
      exact so.trans so2
end
/-! ### comprehensions -/
theorem wipe_out {σ : L2.St} : ∀ {is : List Nat}, SameOut is σ (L2.wipe σ is)
  | [] => .refl
  | i :: is => by
    rw [L2.wipe]
    obtain ⟨a, b⟩ := wipe_out (σ := σ) (is := is)
    refine ⟨by rw [List.length_set]; exact a, fun j h => ?_⟩
    rw [List.mem_cons, not_or] at h
    rw [List.getElem?_set_ne (Ne.symm h.1)]
    exact b j h.2
theorem wipe_in {σ : L2.St} : ∀ {is : List Nat} {j : Nat}, j ∈ is → j < σ.length → (L2.wipe σ is)[j]? = some none
  | i :: is, j, h, hl => by
    rw [L2.wipe]
    by_cases hij : i = j
    · subst hij
      rw [List.getElem?_set_self (by rw [wipe_length]; exact hl)]
    · rw [List.getElem?_set_ne hij]
      exact wipe_in ((List.mem_cons.mp h).resolve_left (Ne.symm hij)) hl
theorem wipe_same {σ σ' : L2.St} {is : List Nat} (h : SameOut is σ σ') : L2.wipe σ' is = L2.wipe σ is := by
  apply List.ext_getElem?
  intro j
  by_cases hj : j ∈ is
  · by_cases hl : j < σ.length
    · rw [wipe_in hj hl, wipe_in hj (by rw [h.1]; exact hl)]
    · rw [List.getElem?_eq_none (by rw [wipe_length, h.1]; omega), List.getElem?_eq_none (by rw [wipe_length]; omega)]
  · rw [wipe_out.2 j hj, wipe_out.2 j hj, h.2 j hj]
theorem wipe_wipe {σ : L2.St} {is : List Nat} : L2.wipe (L2.wipe σ is) is = L2.wipe σ is := wipe_same wipe_out
theorem ERel.wipe {K : KX} {L : List Addr} {H : Hp} {σd : Env} {σ : L2.St} (r : ERel K L H σd σ) : ∀ is : List Nat, ERel K L H (wipeD σd is) (L2.wipe σ is)
  | [] => r
  | i :: is => by
    have ih := ERel.wipe r is
    rw [wipeD, L2.wipe]
    refine ⟨by rw [List.length_set, List.length_set, ih.len], fun j d e => ?_⟩
    by_cases hij : i = j
    · subst hij
      by_cases hl : i < (wipeD σd is).length
      · rw [List.getElem?_set_self hl] at e
        cases e
      · rw [List.getElem?_eq_none (by rw [List.length_set]; omega)] at e
        cases e
    · rw [List.getElem?_set_ne hij] at e ⊢
      exact ih.at_ j d e
theorem own_snd {N : List Str} {is : List Nat} : (ownOf N is).map (·.2) = is := by
  unfold ownOf
  rw [List.map_map]
  induction is with
  | nil => rfl
  | cons i is ih => rw [List.map_cons, ih]; rfl
/-- one turn of a comprehension -/
abbrev turnC (t : QT) (fc : Env → Store → Out Bool) (fe : Env → Store → Out D) (σ : Env) : D → Store → Out (Option D) := fun x S => match assignT t x (wipeD σ t.slots) with
  | none => .bad
  | some σ1 => (fc σ1 S).bind fun k S => if k = true then (fe σ1 S).bind fun y S => .ok (some y) S else .ok none S
theorem compL_cons {f : D → Store → Out (Option D)} {x : D} {xs : List D} {S S' : Store} {ys : List D} (h : compL f (x :: xs) S = .ok ys S') : ∃ o S1 zs, f x S = .ok o S1 ∧ compL f xs S1 = .ok zs S' ∧ ys = (match o with
  | some y => y :: zs
  | none => zs) := by
  rw [compL] at h
  cases q : f x S with
  | ok o S1 =>
    rw [q] at h
    simp only at h
    cases q2 : compL f xs S1 with
    | ok zs S2 =>
      rw [q2] at h
      simp only at h
      cases h
      exact ⟨o, S1, zs, rfl, q2, rfl⟩
    | exc x S2 => rw [q2] at h; cases h
    | bad => rw [q2] at h; cases h
  | exc x S2 => rw [q] at h; cases h
  | bad => rw [q] at h; cases h
theorem compL_exc {f : D → Store → Out (Option D)} : ∀ {xs : List D} {S S' : Store} {x : Ex}, compL f xs S ≠ .exc x S'
  | [], S, S', x, h => by rw [compL] at h; cases h
  | y :: ys, S, S', x, h => by
    rw [compL] at h
    cases q : f y S with
    | ok o S1 =>
      rw [q] at h
      simp only at h
      cases q2 : compL f ys S1 with
      | ok zs S2 => rw [q2] at h; cases h
      | exc x S2 => rw [q2] at h; cases h
      | bad => rw [q2] at h; cases h
    | exc x S2 => rw [q] at h; cases h
    | bad => rw [q] at h; cases h
/-- a test left out, or one -/
abbrev EBo (w : Xd) (W : WX) (f : Env → Store → Out Bool) : TT := TX w (rEq' (α := Bool)) W f
/-- the block's pieces, whatever is in the making -/
def gA (w : Xd) (t : QT) : TG := fun v σ H Q => ∃ ex, gT { w with K := { w.K with ex := ex } } t v σ H Q
def tA (w : Xd) (fk : Env → Store → Out Bool) : TT := fun σ H Q => ∃ ex, EBo { w with K := { w.K with ex := ex } } (fun _ _ _ _ => False) fk σ H Q
def eA (w : Xd) (fe : Env → Store → Out D) : TE := fun σ H Q => ∃ ex, ED { w with K := { w.K with ex := ex } } (fun _ _ _ _ => False) fe σ H Q
theorem comp_tx (hx : w.K.xn = none) {t : QT} {fi : Env → Store → Out (List D)} {fk : Env → Store → Out Bool} {fe : Env → Store → Out D} {σ : L2.St} {H : Hp} {Q : VK}
    (h0 : EF w W (fun σ S => (fi σ S).bind fun xs S => (compL (turnC t fk fe σ) xs S).bind fun ys S => if ys.length < sizeLine then .ok (.lst ys) S else .bad) σ H Q) :
    tLc (EI w W fi) (gA w t) (tA w fk) (eA w fe) ((ownOf c.N t.slots).map (·.2)) σ H Q := by
  obtain ⟨σd, S, L, er, r, h⟩ := h0
  refine ⟨σd, S, L, er, r, (EndF.bind h).imp fun J H1 ⟨xs, S1, L1, g1, r1, wk, h1⟩ => ?_⟩
  have wk : Wk w.K J xs L1 H1 := wk
  intro p np
  rw [own_snd]
  -- the outcome of the whole
  cases q : compL (turnC t fk fe σd) xs S1 with
  | bad => rw [q] at h1; exact h1.elim
  | exc x S2 => exact (compL_exc q).elim
  | ok ys S2 =>
    rw [q] at h1
    have h1 : EndF w W σ L1 H1 Q (if ys.length < sizeLine then .ok (.lst ys) S2 else .bad) := h1
    split at h1
    rotate_left
    · exact h1.elim
    rename_i hlen
    let K' : KX := { w.K with ex := p :: w.K.ex }
    have er1 := er.grow g1
    -- the walk, seen through what stands
    let G : Hp → Prop := fun H => ∃ L, Gr L1 H1 L H
    have walk : Walk J xs.length G J.yld := ⟨fun i H hi ⟨L, g⟩ => wk.goes i L H hi g, fun H ⟨L, g⟩ => wk.stops L H g, fun i H x H' _ _ y => y⟩
    let Pv : Nat → Hp → Prop := fun i H => ∃ L S acc vs zs, Gr L1 H1 L H ∧ Rel K' L H S ∧ H p = some (.lst vs) ∧ DenL K' L H acc vs ∧ compL (turnC t fk fe σd) (xs.drop i) S = .ok zs S2 ∧ ys = acc ++ zs
    refine lc_it walk Pv ⟨L1, S1, [], [], ys, Gr.upd np, r1.in_ np, upd_same, DenL.nil, q, rfl⟩ (fun i H _ ⟨L, _, _, _, _, g, _⟩ => ⟨L, g⟩) ?_ ?_
    · intro i x H2 H3 hi ⟨L2, S2', acc, vs, zs, g2, r2, hp2, da, hc, hy⟩ y
      have hx : xs[i]? = some xs[i] := List.getElem?_eq_getElem hi
      obtain ⟨kp, g3, r3, dx⟩ := wk.yields i xs[i] L2 H2 S2' x H3 K'.ex (fun a z => (List.mem_cons.mp z).elim (fun e => .inr (by rw [e]; exact np)) .inl) hx g2 r2 y
      have hp3 : H3 p = some (.lst vs) := kp _ _ hp2
      have pK : p ∈ K'.ex := List.mem_cons_self
      have da3 : DenL K' L2 H3 acc vs := da.grow g3
      have er3 : ERel K' L2 H3 σd σ := ((er1.in_ np).grow (g2.trans g3))
      rw [List.drop_eq_getElem_cons hi] at hc
      obtain ⟨o, S4, zs', e1, e2, e3⟩ := compL_cons hc
      have e1 : (match assignT t xs[i] (wipeD σd t.slots) with
        | none => .bad
        | some σ1 => (fk σ1 S2').bind fun k S => if k = true then (fe σ1 S).bind fun y S => .ok (some y) S else .ok none S) = Out.ok o S4 := e1
      cases q1 : assignT t xs[i] (wipeD σd t.slots) with
      | none => rw [q1] at e1; cases e1
      | some σ1 =>
        rw [q1] at e1
        have e1 : ((fk σ1 S2').bind fun k S => if k = true then (fe σ1 S).bind fun y S => .ok (some y) S else .ok none S) = Out.ok o S4 := e1
        refine ⟨K'.ex, wipeD σd t.slots, L2, xs[i], σ1, er3.wipe t.slots, dx, q1, fun σ2 er4 so => ?_⟩
        refine ⟨(wipe_same so).trans wipe_wipe, K'.ex, σ1, S2', L2, er4, r3, ?_⟩
        cases q2 : fk σ1 S2' with
        | bad => rw [q2] at e1; cases e1
        | exc x S5 => rw [q2] at e1; cases e1
        | ok k S5 =>
          rw [q2] at e1
          have e1 : (if k = true then (fe σ1 S5).bind fun y S => .ok (some y) S else .ok none S5) = Out.ok o S4 := e1
          intro k' L5 H5 g5 r5 ek
          rw [show k' = k from ek]
          cases k with
          | false =>
            rw [if_neg Bool.false_ne_true] at e1 ⊢
            cases e1
            exact ⟨L5, S4, acc, vs, zs', (g2.trans g3).trans g5, r5, g5.to (r3.ex p pK).2 hp3, da3.grow g5, e2, by rw [hy, e3]⟩
          | true =>
            rw [if_pos rfl] at e1 ⊢
            refine ⟨K'.ex, σ1, S5, L5, er4.grow g5, r5, ?_⟩
            cases q3 : fe σ1 S5 with
            | bad => rw [q3] at e1; cases e1
            | exc x S6 => rw [q3] at e1; cases e1
            | ok z S6 =>
              rw [q3] at e1
              cases e1
              intro zv L6 H6 g6 r6 dz
              have hp6 : H6 p = some (.lst vs) := g6.to (r5.ex p pK).2 (g5.to (r3.ex p pK).2 hp3)
              have da6 : DenL K' L6 H6 (acc ++ [z]) (vs ++ [zv]) := ((da3.grow g5).grow g6).append (DenL.one dz)
              have hz : ys = (acc ++ [z]) ++ zs' := by rw [hy, e3, List.append_assoc]; rfl
              have hl : vs.length < sizeLine := by
                have l1 := da6.length
                rw [List.length_append, List.length_append] at l1
                have l2 : ys.length = (acc ++ [z]).length + zs'.length := by rw [hz, List.length_append]
                rw [List.length_append] at l2
                have : ([z] : List D).length = 1 := rfl
                have : ([zv] : List V).length = 1 := rfl
                omega
              have gp : Gr L1 H1 L6 (upd H6 p (.lst (vs ++ [zv]))) := by
                have g := ((g2.trans g3).trans g5).trans g6
                refine ⟨g.pre, fun a o n nt e => ?_, g.new⟩
                rw [upd_ne (ne_of_none e np)]
                exact g.fr a o n nt e
              exact ⟨vs, hp6, hl, L6, S4, acc ++ [z], vs ++ [zv], zs', gp, Rel.mk_ pK r6, upd_same, da6.mk pK, e2, hz⟩
    · intro H2 ⟨L2, S2', acc, vs, zs, g2, r2, hp2, da, hc, hy⟩
      rw [List.drop_length, compL] at hc
      cases hc
      rw [List.append_nil] at hy
      subst hy
      have nL : p ∉ L2 := (r2.ex p List.mem_cons_self).2
      -- the list is one of the things now
      have gq : Gr L1 H1 (L2 ++ [p]) H2 := ⟨g2.pre.trans (List.prefix_append _ _), g2.fr, fun a ha n => by
        rcases List.mem_append.mp ha with h | h
        · exact g2.new a h n
        · rw [List.mem_singleton.mp h]
          exact new_none np⟩
      have hlo := (den_lo (K := K') (L := L2) (H := H2) r2.len).2 _ _ da
      have npe : p ∉ w.K.ex := fun z => by
        obtain ⟨o, e⟩ := (r1.ex p z).1
        rw [np] at e
        cases e
      exact h1 p L2 H2 gq (Rel.adopt r2 hp2 hlo da npe (DenL.noX_ (K := K') hx _ _ da)) g2.pre
/-- over a list of the store that stays as it is -/
theorem comp_txO (hx : w.K.xn = none) {t : QT} {fa : Env → Store → Out D} {fk : Env → Store → Out Bool} {fe : Env → Store → Out D} {σ : L2.St} {H : Hp} {Q : VK}
    (h0 : EF w W (fun σ S => (fa σ S).bind fun x S => match x with
      | .obj i => match S[i]? with
        | some (.lst l) => (compL (fun x S => grd i l (turnC t fk fe σ x S)) l S).bind fun ys S => if ys.length < sizeLine then .ok (.lst ys) S else .bad
        | _ => .bad
      | _ => .bad) σ H Q) :
    tLc (iSeq w.K.K (ED w W fa)) (gA w t) (tA w fk) (eA w fe) ((ownOf c.N t.slots).map (·.2)) σ H Q := by
  obtain ⟨σd, S, L, er, r, h⟩ := h0
  refine ⟨σd, S, L, er, r, (EndF.bind h).imp fun v H1 ⟨d, S1, L1, g1, r1, dv, h1⟩ => ?_⟩
  replace dv : Den w.K L1 H1 d v := dv
  cases d <;> try exact h1.elim
  rename_i i0
  have h1 : EndF w W σ L1 H1 Q (match S1[i0]? with
        | some (.lst l) => (compL (fun x S => grd i0 l (turnC t fk fe σd x S)) l S1).bind fun ys S => if ys.length < sizeLine then .ok (.lst ys) S else .bad
        | _ => .bad) := h1
  cases q0 : S1[i0]? with
  | none => rw [q0] at h1; exact h1.elim
  | some mo =>
  rw [q0] at h1
  rcases mo with ⟨xs⟩ | ⟨kvs⟩ | ⟨kb, lb⟩ | ⟨qt⟩
  rotate_left
  · exact h1.elim
  · exact h1.elim
  · exact h1.elim
  have h1 : EndF w W σ L1 H1 Q ((compL (fun x S => grd i0 xs (turnC t fk fe σd x S)) xs S1).bind fun ys S => if ys.length < sizeLine then .ok (.lst ys) S else .bad) := h1
  obtain ⟨a, vs0, rfl, ea, ha, _, _⟩ := r1.obj dv q0
  refine ⟨a, rfl, .inl ⟨⟨vs0, .of ha⟩, fun p np => ?_⟩⟩
  rw [own_snd]
  -- the outcome of the whole
  cases q : compL (fun x S => grd i0 xs (turnC t fk fe σd x S)) xs S1 with
  | bad => rw [q] at h1; exact h1.elim
  | exc x S2 => exact (compL_exc q).elim
  | ok ys S2 =>
    rw [q] at h1
    have h1 : EndF w W σ L1 H1 Q (if ys.length < sizeLine then .ok (.lst ys) S2 else .bad) := h1
    split at h1
    rotate_left
    · exact h1.elim
    rename_i hlen
    let K' : KX := { w.K with ex := p :: w.K.ex }
    have er1 := er.grow g1
    -- the list, as it stands
    have live : ∀ {L : List Addr} {S : Store} {H : Hp}, Gr L1 H1 L H → Rel K' L H S → S[i0]? = some (.lst xs) → ∃ zs, H a = some (.lst zs) ∧ DenL K' L H xs zs := fun {L S H} g r e => by
      obtain ⟨b, hb, m⟩ := r.at_ i0 _ e
      obtain ⟨_, zs, h2, h3⟩ := m.lst
      have : L[i0]? = some a := by
        obtain ⟨u, hu⟩ := g.pre
        rw [← hu, List.getElem?_append_left (List.getElem?_eq_some_iff.mp ea).1]
        exact ea
      rw [this] at hb
      cases hb
      exact ⟨zs, h2, h3⟩
    let G : Hp → Prop := fun H => ∃ L S, Gr L1 H1 L H ∧ Rel K' L H S ∧ S[i0]? = some (.lst xs)
    have walk : Walk (Itl w.K.K a) xs.length G (Itl w.K.K a).yld := ⟨fun i H hi ⟨L, S, g, r, e⟩ => by
        obtain ⟨zs, h2, h3⟩ := live g r e
        have hi' : i < zs.length := by rw [← h3.length]; exact hi
        exact ⟨zs, zs[i], .of h2, by simp [hi']⟩, fun H ⟨L, S, g, r, e⟩ => by
        obtain ⟨zs, h2, h3⟩ := live g r e
        exact ⟨zs, .of h2, by rw [h3.length]; exact Nat.le_refl _⟩, fun i H x H' _ _ y => y⟩
    let Pv : Nat → Hp → Prop := fun i H => ∃ L S acc vs zs, Gr L1 H1 L H ∧ Rel K' L H S ∧ S[i0]? = some (.lst xs) ∧ H p = some (.lst vs) ∧ DenL K' L H acc vs ∧ compL (fun x S => grd i0 xs (turnC t fk fe σd x S)) (xs.drop i) S = .ok zs S2 ∧ ys = acc ++ zs
    refine lc_it walk Pv ⟨L1, S1, [], [], ys, Gr.upd np, r1.in_ np, q0, upd_same, DenL.nil, q, rfl⟩ (fun i H _ ⟨L, S, _, _, _, g, r, e, _⟩ => ⟨L, S, g, r, e⟩) ?_ ?_
    · intro i x H2 H3 hi ⟨L2, S2', acc, vs, zs, g2, r3, k2, hp3, da3, hc, hy⟩ y
      have hx : xs[i]? = some xs[i] := List.getElem?_eq_getElem hi
      obtain ⟨rfl, y⟩ : H3 = H2 ∧ ∀ zs, SqL w.K.K H2 a zs → zs[i]? = some x := y
      obtain ⟨zs0, h2, h3⟩ := live g2 r3 k2
      obtain ⟨v, e1, dx⟩ := h3.get hx
      have := y zs0 (.of h2)
      rw [e1] at this
      cases this
      have pK : p ∈ K'.ex := List.mem_cons_self
      have er3 : ERel K' L2 H3 σd σ := ((er1.in_ np).grow g2)
      rw [List.drop_eq_getElem_cons hi] at hc
      obtain ⟨o, S4, zs', e1, e2, e3⟩ := compL_cons hc
      obtain ⟨e1, k4⟩ := grd_ok e1
      have e1 : (match assignT t xs[i] (wipeD σd t.slots) with
        | none => .bad
        | some σ1 => (fk σ1 S2').bind fun k S => if k = true then (fe σ1 S).bind fun y S => .ok (some y) S else .ok none S) = Out.ok o S4 := e1
      cases q1 : assignT t xs[i] (wipeD σd t.slots) with
      | none => rw [q1] at e1; cases e1
      | some σ1 =>
        rw [q1] at e1
        have e1 : ((fk σ1 S2').bind fun k S => if k = true then (fe σ1 S).bind fun y S => .ok (some y) S else .ok none S) = Out.ok o S4 := e1
        refine ⟨K'.ex, wipeD σd t.slots, L2, xs[i], σ1, er3.wipe t.slots, dx, q1, fun σ2 er4 so => ?_⟩
        refine ⟨(wipe_same so).trans wipe_wipe, K'.ex, σ1, S2', L2, er4, r3, ?_⟩
        cases q2 : fk σ1 S2' with
        | bad => rw [q2] at e1; cases e1
        | exc x S5 => rw [q2] at e1; cases e1
        | ok k S5 =>
          rw [q2] at e1
          have e1 : (if k = true then (fe σ1 S5).bind fun y S => .ok (some y) S else .ok none S5) = Out.ok o S4 := e1
          intro k' L5 H5 g5 r5 ek
          rw [show k' = k from ek]
          cases k with
          | false =>
            rw [if_neg Bool.false_ne_true] at e1 ⊢
            cases e1
            exact ⟨L5, S4, acc, vs, zs', g2.trans g5, r5, k4, g5.to (r3.ex p pK).2 hp3, da3.grow g5, e2, by rw [hy, e3]⟩
          | true =>
            rw [if_pos rfl] at e1 ⊢
            refine ⟨K'.ex, σ1, S5, L5, er4.grow g5, r5, ?_⟩
            cases q3 : fe σ1 S5 with
            | bad => rw [q3] at e1; cases e1
            | exc x S6 => rw [q3] at e1; cases e1
            | ok z S6 =>
              rw [q3] at e1
              cases e1
              intro zv L6 H6 g6 r6 dz
              have hp6 : H6 p = some (.lst vs) := g6.to (r5.ex p pK).2 (g5.to (r3.ex p pK).2 hp3)
              have da6 : DenL K' L6 H6 (acc ++ [z]) (vs ++ [zv]) := ((da3.grow g5).grow g6).append (DenL.one dz)
              have hz : ys = (acc ++ [z]) ++ zs' := by rw [hy, e3, List.append_assoc]; rfl
              have hl : vs.length < sizeLine := by
                have l1 := da6.length
                rw [List.length_append, List.length_append] at l1
                have l2 : ys.length = (acc ++ [z]).length + zs'.length := by rw [hz, List.length_append]
                rw [List.length_append] at l2
                have : ([z] : List D).length = 1 := rfl
                have : ([zv] : List V).length = 1 := rfl
                omega
              have gp : Gr L1 H1 L6 (upd H6 p (.lst (vs ++ [zv]))) := by
                have g := (g2.trans g5).trans g6
                refine ⟨g.pre, fun a o n nt e => ?_, g.new⟩
                rw [upd_ne (ne_of_none e np)]
                exact g.fr a o n nt e
              exact ⟨vs, hp6, hl, L6, S4, acc ++ [z], vs ++ [zv], zs', gp, Rel.mk_ pK r6, k4, upd_same, da6.mk pK, e2, hz⟩
    · intro H2 ⟨L2, S2', acc, vs, zs, g2, r2, _, hp2, da, hc, hy⟩
      rw [List.drop_length, compL] at hc
      cases hc
      rw [List.append_nil] at hy
      subst hy
      have nL : p ∉ L2 := (r2.ex p List.mem_cons_self).2
      -- the list is one of the things now
      have gq : Gr L1 H1 (L2 ++ [p]) H2 := ⟨g2.pre.trans (List.prefix_append _ _), g2.fr, fun a ha n => by
        rcases List.mem_append.mp ha with h | h
        · exact g2.new a h n
        · rw [List.mem_singleton.mp h]
          exact new_none np⟩
      have hlo := (den_lo (K := K') (L := L2) (H := H2) r2.len).2 _ _ da
      have npe : p ∉ w.K.ex := fun z => by
        obtain ⟨o, e⟩ := (r1.ex p z).1
        rw [np] at e
        cases e
      exact h1 p L2 H2 gq (Rel.adopt r2 hp2 hlo da npe (DenL.noX_ (K := K') hx _ _ da)) g2.pre
/-- what is asked of the block -/
def BlkS (w : Xd) (X : Cx) (t : QT) (tg elt : Expr) (ifs : List Expr) (scope : Scope) (fk : Env → Store → Out Bool) (fe : Env → Store → Out D) : Prop :=
  ∀ (ex : List Addr) (s : Shared) (H : Hp) (A : Addr) (cl : List (Str × Addr)) (fp : List Addr),
      PG (X.blk s H scope (compEnvC scope cl A X.env) fp) tg (gT { w with K := { w.K with ex := ex } } t) ∧ PTs (X.blk s H scope (compEnvC scope cl A X.env) fp) ifs (EBo { w with K := { w.K with ex := ex } } (fun _ _ _ _ => False) fk) ∧ PE (X.blk s H scope (compEnvC scope cl A X.env) fp) elt (ED { w with K := { w.K with ex := ex } } (fun _ _ _ _ => False) fe)
theorem BlkS.g {t : QT} {tg elt : Expr} {ifs : List Expr} {scope : Scope} {fk : Env → Store → Out Bool} {fe : Env → Store → Out D} (hb : BlkS w X t tg elt ifs scope fk fe) (s : Shared) (H : Hp) (A : Addr) (cl : List (Str × Addr)) (fp : List Addr) : PG (X.blk s H scope (compEnvC scope cl A X.env) fp) tg (gA w t) :=
  ⟨fun pins s' σ H' v u Q I r ⟨ex, q⟩ => (hb ex s H A cl fp).1.run pins s' σ H' v u Q I r q⟩
theorem BlkS.t {t : QT} {tg elt : Expr} {ifs : List Expr} {scope : Scope} {fk : Env → Store → Out Bool} {fe : Env → Store → Out D} (hb : BlkS w X t tg elt ifs scope fk fe) (s : Shared) (H : Hp) (A : Addr) (cl : List (Str × Addr)) (fp : List Addr) : PTs (X.blk s H scope (compEnvC scope cl A X.env) fp) ifs (tA w fk) :=
  ⟨fun pins s' σ H' Q I ⟨ex, q⟩ => (hb ex s H A cl fp).2.1.run pins s' σ H' Q I q⟩
theorem BlkS.e {t : QT} {tg elt : Expr} {ifs : List Expr} {scope : Scope} {fk : Env → Store → Out Bool} {fe : Env → Store → Out D} (hb : BlkS w X t tg elt ifs scope fk fe) (s : Shared) (H : Hp) (A : Addr) (cl : List (Str × Addr)) (fp : List Addr) : PE (X.blk s H scope (compEnvC scope cl A X.env) fp) elt (eA w fe) :=
  ⟨fun pins s' σ H' Q I ⟨ex, q⟩ => (hb ex s H A cl fp).2.2.run pins s' σ H' Q I q⟩
theorem g_comp (O : COk w C W c X) (hh : c.hot = false) {t : QT} {tg it elt : Expr} {ifs : List Expr} {scope : Scope} {pos : Pos} {fi : Env → Store → Out (List D)} {fk : Env → Store → Out Bool} {fe : Env → Store → Out D}
    (ok : BlkOk X.N X.env.scope scope (ownOf c.N t.slots)) (hs : ∀ x, foldedSetIterable it X.env x = pure x) (hi : PI X tg it (EI w W fi)) (hb : BlkS w X t tg elt ifs scope fk fe) :
    PE X (.ListComp elt [⟨tg, it, ifs, 0⟩] scope pos) (EF w W fun σ S => (fi σ S).bind fun xs S => (compL (turnC t fk fe σ) xs S).bind fun ys S => if ys.length < sizeLine then .ok (.lst ys) S else .bad) :=
  PE_imp (pe_lc (O.calm hh) O.nd hi ok hb.g hb.t hb.e hs) fun σ H Q h => comp_tx (O.xn hh) h
theorem g_compO (O : COk w C W c X) (hh : c.hot = false) {t : QT} {tg it elt : Expr} {ifs : List Expr} {scope : Scope} {pos : Pos} {fa : Env → Store → Out D} {fk : Env → Store → Out Bool} {fe : Env → Store → Out D}
    (ok : BlkOk X.N X.env.scope scope (ownOf c.N t.slots)) (hs : ∀ x, foldedSetIterable it X.env x = pure x) (hi : PE X it (ED w W fa)) (hb : BlkS w X t tg elt ifs scope fk fe) :
    PE X (.ListComp elt [⟨tg, it, ifs, 0⟩] scope pos) (EF w W fun σ S => (fa σ S).bind fun x S => match x with
      | .obj i => match S[i]? with
        | some (.lst l) => (compL (fun x S => grd i l (turnC t fk fe σ x S)) l S).bind fun ys S => if ys.length < sizeLine then .ok (.lst ys) S else .bad
        | _ => .bad
      | _ => .bad) :=
  PE_imp (pe_lc (O.calm hh) O.nd (pi_seq hi) ok hb.g hb.t hb.e hs) fun σ H Q h => by
    rw [O.K]
    exact comp_txO (O.xn hh) h
/-- y = [..] on one line, y a local -/
theorem g_setComp (O : COk w C W c X) (hh : c.hot = false) {t : QT} {tg it elt : Expr} {ifs : List Expr} {scope : Scope} {pos spos py : Pos} {y : Str} {i : Nat} {fi : Env → Store → Out (List D)} {fk : Env → Store → Out Bool} {fe : Env → Store → Out D}
    (hy : c.N[i]? = some y) (hyl : isPlainLoc c.sc y = true) (hl : (py.line == pos.line) = true) (hn : (scope.names.any fun (n, k) => n == y && (k == .local || k == .cell)) = false)
    (ok : BlkOk X.N X.env.scope scope (ownOf c.N t.slots)) (hs : ∀ x, foldedSetIterable it X.env x = pure x) (hi : PI X tg it (EI w W fi)) (hb : BlkS w X t tg elt ifs scope fk fe) :
    PS X (.Assign [.Name y py] (.ListComp elt [⟨tg, it, ifs, 0⟩] scope pos) spos) (tAsg (EF w W fun σ S => (fi σ S).bind fun xs S => (compL (turnC t fk fe σ) xs S).bind fun ys S => if ys.length < sizeLine then .ok (.lst ys) S else .bad) (gName i)) := by
  have yl : X.env.scope.names.lookup y = some .local := by
    unfold isPlainLoc at hyl
    rw [O.sc]
    split at hyl
    · assumption
    · cases hyl
  have kf : X.env.scope.kind = .function ∨ ¬ X.env.scope.kind = .function := Classical.em _
  refine ⟨fun pins s σ H D I h => ?_⟩
  have hk : X.env.scope.kind = .function := I.ok.kind
  exact (ps_setLc (i := i) (O.calm hh) O.nd (by rw [O.N]; exact hy) yl (sw_true hk yl hl hn) hi ok hb.g hb.t hb.e hs).run pins s σ H D I (comp_tx (O.xn hh) h)
theorem g_setCompO (O : COk w C W c X) (hh : c.hot = false) {t : QT} {tg it elt : Expr} {ifs : List Expr} {scope : Scope} {pos spos py : Pos} {y : Str} {i : Nat} {fa : Env → Store → Out D} {fk : Env → Store → Out Bool} {fe : Env → Store → Out D}
    (hy : c.N[i]? = some y) (hyl : isPlainLoc c.sc y = true) (hl : (py.line == pos.line) = true) (hn : (scope.names.any fun (n, k) => n == y && (k == .local || k == .cell)) = false)
    (ok : BlkOk X.N X.env.scope scope (ownOf c.N t.slots)) (hs : ∀ x, foldedSetIterable it X.env x = pure x) (hi : PE X it (ED w W fa)) (hb : BlkS w X t tg elt ifs scope fk fe) :
    PS X (.Assign [.Name y py] (.ListComp elt [⟨tg, it, ifs, 0⟩] scope pos) spos) (tAsg (EF w W fun σ S => (fa σ S).bind fun x S => match x with
      | .obj i => match S[i]? with
        | some (.lst l) => (compL (fun x S => grd i l (turnC t fk fe σ x S)) l S).bind fun ys S => if ys.length < sizeLine then .ok (.lst ys) S else .bad
        | _ => .bad
      | _ => .bad) (gName i)) := by
  have yl : X.env.scope.names.lookup y = some .local := by
    unfold isPlainLoc at hyl
    rw [O.sc]
    split at hyl
    · assumption
    · cases hyl
  refine ⟨fun pins s σ H D I h => ?_⟩
  have hk : X.env.scope.kind = .function := I.ok.kind
  refine (ps_setLc (i := i) (O.calm hh) O.nd (by rw [O.N]; exact hy) yl (sw_true hk yl hl hn) (pi_seq hi) ok hb.g hb.t hb.e hs).run pins s σ H D I ?_
  rw [O.K]
  exact comp_txO (O.xn hh) h
end
end Rs

namespace Rs
open PySem PySem.Spec PyProof.Rows L2
/-! ### try with several clauses, named or not, whose suites return -/
abbrev ClT : Type := Value × Option Nat × (Addr → Value → Option Addr → TS)
def setO (oi : Option Nat) (a : Addr) (σ : L2.St) : L2.St := match oi with
  | none => σ
  | some i => σ.set i (some (.ref a))
/-- a suite's ends: it returns -/
def onlyRt (D : Ends) : Ends := { nx := fun _ _ => False, rt := D.rt, bk := fun _ _ => False, ct := fun _ _ => False }
def wCl (K : PySem.W.Frag) (Wo : WX) (D : Ends) : List ClT → WX
  | [] => Wo
  | q :: r => fun cls d σ H => ∃ b, PySem.W.exmOne K cls q.1 = some b ∧ (b = true → ∀ a, H a = none → q.2.2 a cls d (onlyRt D) (setO q.2.1 a σ) H) ∧ (b = false → wCl K Wo D r cls d σ H)
inductive TryCl (X : Cx) : List ExceptHandler → List ClT → Prop
  | nil : TryCl X [] []
  | cons {x : Str} {cv : Value} {on : Option Str} {oi : Option Nat} {ts : Addr → Value → Option Addr → TS} {st : Stmt} {sts : List Stmt} {p1 p2 : Pos} {hs : List ExceptHandler} {l : List ClT} (hc : Names X x cv)
      (hn : match on, oi with
        | none, none => True
        | some n, some i => X.N[i]? = some n ∧ X.env.kindOf n = some .local
        | _, _ => False)
      (su : ∀ (a : Addr) (oe : Obj) (cls : Value) (d : Option Addr) (pn : List (Addr × Obj)), Zc cls d oe → (∃ vs, oe.data = .fields vs) → PSs (X.suite a ((a, oe) :: pn)) (st :: sts) (ts a cls d)) (r : TryCl X hs l) :
      TryCl X (.ExceptHandler (some (.Name x p1)) on (st :: sts) p2 :: hs) ((cv, oi, ts) :: l)
section
variable {X : Cx} {body : List Stmt} {h1 : ExceptHandler} {hs : List ExceptHandler} {l : List ClT} {pos : Pos} {tb : WX → TS} {Wo : WX}
theorem ps_try_cl (est : X.stack = X.env :: X.outer) (efr : X.env.frame = some X.env.locals) (nd : X.N.Nodup) (tk : Takes X Wo)
    (hb : ∀ (W : WX) (pn : List (Addr × Obj)) (xe : Value → Shared → Prop), Takes (X.tr pn xe) W → PassesOwn (model X.prog X.w) X.A X.env xe → PSs (X.tr pn xe) body (tb W))
    (hh : TryCl X (h1 :: hs) l) : PS X (.Try body (h1 :: hs) [] [] pos) (fun D σ H => tb (wCl X.K Wo D l) D σ H) := by
  refine ⟨fun pins s σ H D I hq => ?_⟩
  have okX := I.ok
  have frX : X.A.frames = some (X.env :: X.outer) := by
    rw [okX.frames, est]
  refine wpAny_Try_except (wpAny_mono ((hb (wCl X.K Wo D l) (X.pn ++ pins) (fun e s2 => wpAny (model X.prog X.w) X.A (noteFrame e X.env) (fun _ s3 => wpAny (model X.prog X.w) X.A (setFlight e none) (fun _ s4 =>
    wpAny (model X.prog X.w) X.A (handleBy e X.env (h1 :: hs)) (SP X pins D) X.xe s4) X.xe s3) X.xe s2) (fun u s' met => ?_) PassesOwn.looking).run [] s σ H D (I.toTry _) hq) (fun f s1 ran => ?_) fun e s1 he => he)
  rotate_left
  · cases f with
    | ret u =>
      obtain ⟨v, σ2, H2, I2, rv, q⟩ := ran
      exact ⟨v, σ2, H2, I2.ofTry okX, rv, q⟩
    | next =>
      obtain ⟨σ2, H2, I2, q⟩ := ran
      exact wpAny_execs_nil ⟨σ2, H2, I2.ofTry okX, q⟩
    | brk =>
      obtain ⟨σ2, H2, I2, q⟩ := ran
      exact ⟨σ2, H2, I2.ofTry okX, q⟩
    | cont =>
      obtain ⟨σ2, H2, I2, q⟩ := ran
      exact ⟨σ2, H2, I2.ofTry okX, q⟩
  obtain ⟨a, B, sI, pins2, σ2, H2, cls, d, e, I2, nb, up, sky, na, os, ag, w2⟩ := met
  subst e
  have J : Inv X pins σ2 H2 sI := I2.ofTry okX
  have sky2 : Sky B (X.env :: X.outer) a (Zc cls d) X.env.locals s'.heap := by
    rw [← est]
    exact sky
  show wpAny (model X.prog X.w) X.A (noteFrame (.ref a) X.env) _ _ _
  refine Sky.land Zc.steady frX efr sky2 fun hL fL uL => ?_
  have JL : Inv X pins σ2 H2 { s' with heap := hL } := J.landed nb fL.1 (up.trans uL) os ag
  obtain ⟨oeL, vsL, gL, zL, dL⟩ := fL.there
  have off : ∀ {h : Heap} {o : Obj} {vs : Array Value}, h.FunFrames B (X.env :: X.outer) → h.get? a = some o → o.data = .fields vs → a ∉ frs (X.env :: X.outer) := fun {h o vs} ff e dd hm => by
    obtain ⟨_, o2, e2, hnf⟩ := ff.mem hm
    rw [e] at e2
    cases e2
    exact hnf vs dd
  have offL := off fL.2.2.1 gL dL
  have aL : a ≠ X.env.locals := fun z => offL (List.mem_filterMap.mpr ⟨X.env, List.mem_cons_self, by rw [efr, z]⟩)
  have aF : a ∉ X.fs := fun hm => by
    obtain ⟨e, he, q⟩ := List.mem_filterMap.mp hm
    exact offL (List.mem_filterMap.mpr ⟨e, List.mem_cons_of_mem _ he, q⟩)
  have SL := JL.suite gL dL na aL aF
  suffices go : ∀ {hs' : List ExceptHandler} {l' : List ClT}, TryCl X hs' l' → wCl X.K Wo D l' cls d σ2 H2 → wpAny (model X.prog X.w) X.A (handleBy (.ref a) X.env hs') (SP X pins D) X.xe { s' with heap := hL } from go hh w2
  intro hs' l' hk
  induction hk with
  | nil =>
    intro w3
    refine wpAny_handleBy_nil ?_
    obtain ⟨k1, k2, k3, oe, vs, T, oT, ts', he, hz, hd, hd1, hr⟩ := id fL
    unfold PySem.passOn
    refine wpAny_bind (wpAny_field he hd hd1 ?_)
    rw [if_neg (show ¬ ((Value.ref T == Value.none) = true) from by simp)]
    have on : wpAny (model X.prog X.w) X.A (setFlight (.ref a) X.env.frame) (fun _ s4 => wpAny (model X.prog X.w) X.A (throw (.ref a) : Sem PySem.Flow) (SP X pins D) X.xe s4) X.xe { s' with heap := hL } := by
      rw [efr]
      refine HandSPX.setFlight_upZ fL fun h4 hh4 up4 => wpAny_throw (tk _ _ ?_)
      exact ⟨a, B, sI, pins, σ2, H2, cls, d, rfl, J, nb, (up.trans uL).trans up4, .inr (.inr (by rw [est]; exact hh4)), na, os, ag, w3⟩
    first
      | exact wpAny_bind (wpAny_pure (wpAny_bind on))
      | exact wpAny_bind on
  | @cons x cv on oi ts st sts p1 p2 hs2 l2 hc hn su r ih =>
    intro w3
    obtain ⟨b, hb1, yes, no⟩ := w3
    refine wpAny_handleBy_cons (codeAny_handlers_test ?_) (by intro q; cases q)
    have LT : PySem.W.Looks (model X.prog X.w) hL (typeOf (.ref a)) cls := fun A Q E s k q => by
      refine wpAny_typeOf_ref (k _ _ gL) ?_
      rw [zL.1]
      exact q
    have LM := PySem.W.exm_one (M := model X.prog X.w) JL.kIn LT hb1
    have named : ∀ {Q : Value → Shared → Prop} {E : Value → Shared → Prop}, Q cv { s' with heap := hL } → wpAny (model X.prog X.w) (X.A.mark (some (.ref a))) (eval (.Name x p1) X.env) Q E { s' with heap := hL } := fun {Q E} q => by
      obtain ⟨g1, g2, g3 | ⟨g3, g4, g5⟩⟩ := hc
      · exact ld_glob (X := X.suite a ((a, oeL) :: (X.pn ++ pins))) SL g1 g3 q g2
      · exact ld_blt (X := X.suite a ((a, oeL) :: (X.pn ++ pins))) SL g1 g3 g4 q g5 g2
    refine named (LM.here ?_)
    cases b with
    | false =>
      show wpAny _ X.A (handleBy (.ref a) X.env hs2) _ _ _
      exact ih (no rfl)
    | true =>
      cases on with
      | none =>
        cases oi with
        | some i => exact hn.elim
        | none =>
          refine codeAny_handlers_suite (HandSPX.lands_againZ fL fun h4 f4 u4 => ?_)
          have J4 : Inv X pins σ2 H2 { s' with heap := h4 } := J.landed nb f4.1 ((up.trans uL).trans u4) os ag
          obtain ⟨oe4, vs4, g4, z4, d4⟩ := f4.there
          have S4 := J4.suite g4 d4 na aL aF
          refine wpAny_mono ((su a oe4 cls d (X.pn ++ pins) z4 ⟨_, d4⟩).run [] _ _ H2 (onlyRt D) S4 (yes rfl a na)) (fun f s6 ran => ?_) fun _ _ z => False.elim z
          cases f with
          | ret u =>
            obtain ⟨v6, σ6, H6, S6, r6, q6⟩ := ran
            exact ⟨v6, _, _, S6.unsuite okX, r6, q6⟩
          | next =>
            obtain ⟨_, _, _, z⟩ := ran
            exact z.elim
          | brk =>
            obtain ⟨_, _, _, z⟩ := ran
            exact z.elim
          | cont =>
            obtain ⟨_, _, _, z⟩ := ran
            exact z.elim
      | some n =>
        cases oi with
        | none => exact hn.elim
        | some i =>
          obtain ⟨hi, hl⟩ : X.N[i]? = some n ∧ X.env.kindOf n = some .local := hn
          refine codeAny_handlers_suite_as (HandSPX.lands_againZ fL fun h4 f4 u4 => ?_)
          have J4 : Inv X pins σ2 H2 { s' with heap := h4 } := J.landed nb f4.1 ((up.trans uL).trans u4) os ag
          obtain ⟨oe4, vs4, g4, z4, d4⟩ := f4.there
          have S4 := J4.suite g4 d4 na aL aF
          refine store_ok (X := X.suite a ((a, oe4) :: (X.pn ++ pins))) (v := .ref a) S4 nd hi (.inl hl) rfl (fun s5 S5 => ?_) (.inr hl)
          refine wpAny_mono ((su a oe4 cls d (X.pn ++ pins) z4 ⟨_, d4⟩).run [] s5 _ H2 (onlyRt D) S5 (yes rfl a na)) (fun f s6 ran => ?_) fun _ _ z => False.elim z
          cases f with
          | ret u =>
            obtain ⟨v6, σ6, H6, S6, r6, q6⟩ := ran
            exact gone_ok (S6.unsuite okX) nd hi hl fun s7 J7 => ⟨_, _, _, J7, r6, q6⟩
          | next =>
            obtain ⟨_, _, _, z⟩ := ran
            exact z.elim
          | brk =>
            obtain ⟨_, _, _, z⟩ := ran
            exact z.elim
          | cont =>
            obtain ⟨_, _, _, z⟩ := ran
            exact z.elim
end
end Rs

namespace Rs
open PySem PySem.Spec PyProof.Rows L2
section
variable {X : Cx} {pins : List (Addr × Obj)} {σ : L2.St} {H : Hp} {s : Shared}
/-- the function that was handed in is called: what it raises is wished for at the caller's slots -/
theorem pe_handed {CXg : CXT} {Eg : XK} {Ng : List Str} {qg : Str} {sg : Scope} {g fl cc : Addr} {cdg pm ctv : Value} {params : Arguments} {body : Expr} {scope : Scope} {k i : Nat} {a : Str} {pn : List (Addr × Obj)} {xe : Value → Shared → Prop} {W : WX} {tb : XK → TE} {p1 p2 : Pos}
    (I : Inv X pins σ H s) (hsc : LamX.LamS X.env.scope scope) (ho : s.heap.get? fl = some (PySem.W.kla_obj "<lambda>" (X.env.qual ++ "<lambda>") params body scope (cloFrom X.env.cells scope.names []) pm cc ctv)) (hn : H fl = none) (hf : fl ∉ frs X.stack)
    (hb0 : bindArgs (PySem.W.kla_fn "<lambda>" (X.env.qual ++ "<lambda>") params body scope (cloFrom X.env.cells scope.names []) pm (.ref cc) ctv) ⟨[], []⟩ = pure [])
    (tk : Takes ((cxOf CXg X.prog X.w X.K X.mg X.base Ng qg sg g cdg X.A X.stack s H Eg).tr pn xe) W) (room : Room (k + 1) (X.A.deeper (envOfC qg sg s.heap.objs.size g cdg)))
    (hbody : ∀ (E : XK) (A : Around) (outer : List PySem.Env) (s' : Shared) (H' : Hp), A.guards = X.A.guards → Room k (A.deeper (LamX.lamEnv X scope s'.heap.objs.size fl cc)) → PE (LamX.lamCx X A outer s' H' E scope fl cc) body (tb E))
    (hN : Ng[i]? = some a) (hv : Vis sg a) (hd : (a == ("__debug__" : Str)) = false) (hcd : (a == ("__classdict__" : Str)) = false) :
    PE ((cxOf CXg X.prog X.w X.K X.mg X.base Ng qg sg g cdg X.A X.stack s H Eg).tr pn xe) (.Call (.Name a p1) [] [] p2)
      (fun σZ HZ Q => σZ[i]? = some (some (.ref fl)) ∧ HZ cc = some (LamX.CodeO cc (X.env.qual ++ "<lambda>")) ∧ tb (L2.WE W σZ) σ HZ Q) := by
  refine ⟨fun pinsZ sZ σZ HZ Q IZ ⟨q1, q2, q3⟩ => ?_⟩
  refine wpAny_Call_Name_kw (thn ((pe_var (pos := p1) (i := i) hN hv hd hcd).run pinsZ sZ σZ HZ (fun v H1 => v = .ref fl ∧ H1 = HZ) IZ ⟨.ref fl, q1, rfl, rfl⟩) fun u s1 ⟨v, H1, I1, r1, e1, e2⟩ => ?_)
  subst e1
  subst e2
  cases r1
  have here := I1.base.keep fl _ ho hn hf (fun z => nomatch (show fl ∈ ([] : List Addr) from z))
  refine PySem.W.callWith_F0 ⟨_, _, _, _, here⟩ ?_
  have un : Un (frs X.stack) [] H H1 s.heap s1.heap := I1.base
  obtain ⟨⟨oc, vs, t, g1, g2, g3⟩, _, _⟩ := I1.hok cc _ q2
  have run : codeAny (model X.prog X.w) (X.A.deeper (envOfC qg sg s.heap.objs.size g cdg)) (.call (.ref fl) ⟨[], []⟩) (CR (L2.CX X.prog X.w) (envOfC qg sg s.heap.objs.size g cdg :: X.stack) X.prog X.w H1 s1 Q (L2.WE W σZ)) s1 := by
    refine PySem.W.kla_callFunE room.depth here rfl hsc.co hsc.gen rfl ⟨cc, oc, vs, t, rfl, g1, g2, g3⟩ ?_
    rw [hb0]
    refine wpAny_pure (wpAny_newFunctionEnv (fun y hy => (hsc.own y hy).2) (fun y hy => absurd hy (by simp)) (fun h2 hns hsb => ⟨I1.nolimit.fresh _ hsb, ?_⟩) hsc.kind)
    show codeAny _ _ (.expr body (LamX.lamEnv X scope s1.heap.objs.size fl cc)) _ _
    have kp : ∀ b o, s1.heap.get? b = some o → h2.get? b = some o := fun b o e => hsb.extBut b o (Nat.ne_of_lt (Heap.lt_size e)) (Heap.get?_push_of_some _ e)
    have J := LamX.lam_start2 (A := X.A.deeper (envOfC qg sg s.heap.objs.size g cdg)) (outer := envOfC qg sg s.heap.objs.size g cdg :: X.stack) (E := L2.WE W σZ) (f := fl) (c' := cc) (tk := s1.toks + ([] : List (Str × Value)).length) I hsc I1.env0 room.hd un hns kp
    refine PySem.W.kla_codeExpr (wpAny_mono ((hbody (L2.WE W σZ) (X.A.deeper (envOfC qg sg s.heap.objs.size g cdg)) (envOfC qg sg s.heap.objs.size g cdg :: X.stack) s1 H1 rfl (room.deeper _)).run [] _ _ H1 Q J q3) (fun v s' ⟨w', H', J', rv, q⟩ => ?_) fun e s' hq => hq)
    exact ⟨w', H', J'.os, J'.bare, J'.base, J'.hok, rv, q⟩
  refine wpAny_call (codeAny_mono run fun r s' hq => ?_)
  match r, hq with
  | .error e, hq => exact L2.passAt tk σZ pinsZ H1 s1 e s' I1 hq
  | .ok (.ret u), hq => exact I1.after hq
  | .ok .next, hq => exact hq.elim
  | .ok .brk, hq => exact hq.elim
  | .ok .cont, hq => exact hq.elim
end
section
variable {w : Xd} {C : CallT} {W : WX} {c : Cc} {X : Cx} {fa : Env → Store → Out D}
theorem lam_own {sc scope : Scope} (h : LamX.lamSB sc scope = true) {x : Str} : isLoc scope x = false := by
  have L := LamX.lamS_by h
  unfold isLoc
  split
  · rename_i q
    exact absurd rfl (L.own _ (PySem.mem_of_lookup q)).1
  · rename_i q
    exact absurd rfl (L.own _ (PySem.mem_of_lookup q)).2
  · rfl
theorem COk.lam (O : COk w C W c X) (hh : c.hot = false) {scope : Scope} (hs : LamX.lamSB c.sc scope = true) {A : Around} {outer : List PySem.Env} {s : Shared} {H : Hp} {E : XK} {fl cc : Addr} (gd : A.guards = X.A.guards) (rm : Room C.lv (A.deeper (LamX.lamEnv X scope s.heap.objs.size fl cc))) :
    COk w C (fun cls oe _ H' => E cls oe H') { c with sc := scope, asg := some scope, ti := none, th := false, lm := true } (LamX.lamCx X A outer s H E scope fl cc) where
  sc := rfl
  N := O.N
  nd := O.nd
  calm := fun _ => rfl
  K := O.K
  hf := O.hf
  un := by
    have := rm.un
    show (A.deeper _).units + 65 < cLine
    omega
  gd := deeper_guards (gd.trans O.gd)
  tk := takes_of rfl rfl rfl rfl
  bl := O.bl
  con := O.con
  rm := fun _ => rm
  rh := L2H.roomH_of rm
  rf := O.rf
  r2 := fun _ z => by cases z
  fh := fun hs k x h => ⟨(O.fh hs k x h).ok⟩
  sd := fun z => by cases z
  fn := fun _ k x h => ⟨(O.fn hh k x h).ok⟩
  xf := O.xf
  hx := fun z => by rw [show c.hot = true from z] at hh; cases hh
  thh := fun z => by cases z
  th := fun z => by cases z
  xn := O.xn
  tb := fun ti z => by cases z
  as := fun x h _ => by
    have h : isLoc scope x = true := h
    rw [lam_own hs] at h
    cases h
theorem noParams_ok {p : Arguments} (h : noParams p = true) : p = ⟨[], [], none, [], [], none, []⟩ := by
  unfold noParams at h
  split at h
  · rfl
  · cases h
/-- the values of the slots -/
def capV (σd : Env) (σ : L2.St) : List V := (σd.zip σ).map fun p => match p with
  | (some _, some v) => v
  | _ => .non
theorem cap_den {K : KX} {L : List Addr} {H : Hp} : ∀ {σd : Env} {σ : L2.St}, ERel K L H σd σ → DenL K L H (σd.map fun o => o.getD .non) (capV σd σ)
  | [], σ, r => by
    rw [DenL.eq_def]
    rfl
  | o :: σd, [], r => by
    have := r.len
    simp at this
  | o :: σd, v :: σ, r => by
    have r2 : ERel K L H σd σ := ⟨by have := r.len; simpa using this, fun i d e => r.at_ (i + 1) d (by simpa using e)⟩
    rw [List.map_cons]
    show DenL K L H _ (_ :: capV σd σ)
    refine DenL.cons ?_ (cap_den r2)
    cases o with
    | none => exact den_n
    | some d =>
      obtain ⟨v', e1, h⟩ := r.at_ 0 d rfl
      simp at e1
      subst e1
      exact h
theorem cap_erel {K : KX} {L L' : List Addr} {H H' : Hp} {σd : Env} {σ : L2.St} (r : ERel K L H σd σ) (d : DenL K L' H' (σd.map fun o => o.getD .non) (capV σd σ)) : ERel K L' H' σd σ := ⟨r.len, fun i y e => by
  obtain ⟨v, e1, _⟩ := r.at_ i y e
  refine ⟨v, e1, ?_⟩
  obtain ⟨v2, e2, h2⟩ := d.get (i := i) (d := y) (by rw [List.getElem?_map, e]; rfl)
  have e3 : (capV σd σ)[i]? = some v := by
    unfold capV
    rw [List.getElem?_map, List.getElem?_zip_eq_some (z := (some y, some v)) |>.mpr ⟨e, e1⟩]
    rfl
  rw [e3] at e2
  cases e2
  exact h2⟩
theorem sd_out {z : Option XN} {σ : L2.St} {L : List Addr} {H : Hp} {Q : VK} {o : Out D} (hx : w.K.xn = none) (h : EndR { w with K := { w.K with xn := z } } (rD { w with K := { w.K with xn := z } }) W σ L H Q o) : EndR w (rD w) W σ L H Q o := by
  cases o with
  | ok d S' => exact fun y L' H' g r dv => h y L' H' g r.sw (Den.sw d y (Den.noX_ hx d y dv) dv)
  | exc x S' =>
    refine fun cls oe L' H' g r xo => h cls oe L' H' g r.sw ⟨xo.1, xo.2.imp_right fun ⟨d, vs, a, b, k, e⟩ => ⟨d, vs, a, b, k, DenL.sw _ vs (DenL.noX_ hx _ vs e) e⟩⟩
  | bad => exact h
theorem g_said (O : COk w C W c X) (hh : c.hot = false) {k ti : Nat} {x : Str} {params : Arguments} {body : Expr} {scope : Scope} {p lpos pos : Pos} (h1 : c.fns[k]? = some x) (h2 : isGl c.sc x = true) (h3 : okName x = true) (h4 : c.ti = some ti) (hp : noParams params = true)
    (hs : LamX.lamSB c.sc scope = true) (hb : ∀ (E : XK) (A : Around) (outer : List PySem.Env) (s : Shared) (H : Hp) (fl cc : Addr), A.guards = X.A.guards → Room C.lv (A.deeper (LamX.lamEnv X scope s.heap.objs.size fl cc)) →
      PE (LamX.lamCx X A outer s H E scope fl cc) body (ED w (fun cls oe _ H' => E cls oe H') fa)) :
    PE X (.Call (.Name x p) [.Lambda params body scope lpos] [] pos) (ED w W fun σ S => C.said k (σ.map fun o => o.getD .non) (fun S => fa σ S) S) := by
  refine ⟨fun pins s σ H Q I ⟨σd, S, L, er, r, h⟩ => ?_⟩
  have hx := O.xn hh
  dsimp only at h
  have h : EndR w (rD w) W σ L H Q (C.said k (σd.map fun o => o.getD .non) (fun S => fa σd S) S) := h
  obtain ⟨P, code, t3, hPu, u2, TB⟩ := O.tb ti h4
  obtain ⟨rm2, hsd⟩ := O.sd (by rw [h4]; rfl)
  have ne : C.said k (σd.map fun o => o.getD .non) (fun S => fa σd S) S ≠ .bad := fun z => by
    rw [z] at h
    exact h
  obtain ⟨g, a, pg, bg, sg, Ng, dV, kV, doc, pm, cdv, ct, oc, an, od, osl, hm, kp, lk, hcd, hbd, Sg, hNg, hva, hna, hB⟩ := (hsd k x h1 _ _ _ ne).ok
  obtain ⟨n1, n2, _⟩ := okName_1 hna
  have LS : LamX.LamS X.env.scope scope := by
    rw [O.sc]
    exact LamX.lamS_by hs
  have ep := noParams_ok hp
  have hdef : defaultsOf params X.env = ([], []) := by
    rw [ep]
    rfl
  have hb0 : ∀ (q : Str) (cl : List (Str × Addr)) (pm cv ctv : Value), bindArgs (PySem.W.kla_fn "<lambda>" q params body scope cl pm cv ctv) ⟨[], []⟩ = pure [] := by
    rw [ep]
    intros
    rfl
  have hT : LamX.Tabs w.K.tb H := fun z hz => by
    obtain ⟨i, e1⟩ := List.mem_iff_getElem?.mp hz
    obtain ⟨_, ps1, a2, a4, a5⟩ := r.tb i z.1 z.2 e1
    exact ⟨ps1, a2, a4, a5⟩
  have hP : (P, X.env.qual ++ "<lambda>") ∈ w.K.tb := List.mem_of_getElem? t3
  obtain ⟨hdb, _, _⟩ := okName_1 h3
  refine wpAny_Call_Name_kw (ld_glob I (O.gl h2) hm ?_ hdb)
  refine PySem.W.callWith_K (h₀ := X.base) I.ok.mod.kin kp ?_ (by rfl) (by rfl)
  show wpAny _ _ (spliced ((false, eval (.Lambda params body scope lpos) X.env) :: backTo pos (starEach [] X.env))) _ _ s
  refine Calls.spliced_cons (LamX.lam_make2 I TB u2 hP hPu hT hdef (LS.has I.ok) fun fl cc pm' ctv H1 s' I1 eN T1 hfo hfn hfr hco => Calls.spliced_nil ⟨I1.kIn, ?_⟩)
  -- what the store's things are now
  have nt : ∀ b o, b ∉ L → H b = some o → (∀ ps, o ≠ .tbl ps) → H1 b = some o := fun b o _ e n => eN b o e n
  have g1 : Gr L H L H1 := ⟨List.prefix_refl _, fun b o n z e => eN b o e z, fun b m n => absurd m n⟩
  have r1 : Rel w.K L H1 S := by
    refine ⟨r.len, r.nd, fun i mo e => ?_, fun b z => ?_, fun b z o e => ?_, r.nx, fun i P2 q e => ?_⟩
    · obtain ⟨b, e1, lo, xs, o, k1, k2, k3⟩ := r.at_ i mo e
      cases mo with
      | lst l =>
        cases (show o = HO.lst xs from k2)
        exact ⟨b, e1, lo, xs, _, eN b _ k1 (fun ps z => by cases z), rfl, k3.grow g1⟩
      | dct l =>
        refine ⟨b, e1, lo, xs, o, eN b _ k1 (fun ps z => ?_), k2, k3.grow g1⟩
        obtain ⟨_, _, fs, z2, _⟩ := k2
        rw [z] at z2
        cases z2
      | box kb l => exact ⟨b, e1, lo, xs, o, eN b _ k1 (box_nt k2), k2, k3.grow g1⟩
    · obtain ⟨⟨o, e⟩, n⟩ := r.ex b z
      exact ⟨⟨o, eN b o e (r.nc b z o e).2⟩, n⟩
    · obtain ⟨⟨o', e'⟩, n⟩ := r.ex b z
      have q := eN b o' e' (r.nc b z o' e').2
      rw [e] at q
      cases q
      exact r.nc b z o e'
    · obtain ⟨a1, _⟩ := r.tb i P2 q e
      obtain ⟨ps2, b1, b2, b3⟩ := T1 (P2, q) (List.mem_of_getElem? e)
      exact ⟨a1, ps2, b1, b2, b3⟩
  have ccL : cc ∉ L := fun z => r1.noCode_at z hco cc _ rfl
  have ccE : cc ∉ w.K.ex := fun z => (r1.nc cc z _ hco).1 cc _ rfl
  have er1 : ERel w.K L H1 σd σ := er.grow g1
  have dc := cap_den er1
  refine wpAny_call (codeAny_mono (LamX.run_ofS (CX := L2.CX X.prog X.w) (outer := X.stack) (Q := Q) (E := L2.WE W σ) (N := Ng) (ps := [a]) (us := [.ref fl]) (vs := [.ref fl]) lk hcd Sg (rm2.mono (by omega) : Room (C.lv + 1 + 1) X.A) I1.env0 (hbd s' [.ref fl] I1.kIn rfl) (.cons rfl .nil) rfl fun room => ?_) fun rs s2 hq => ?_)
  · refine hB w.K.ex X.A X.stack fl cc (X.env.qual ++ "<lambda>") (capV σd σ) s' H1 Q (L2.WE W σ) (fun S => fa σd S) (σd.map fun o => o.getD .non) L S O.gd room hx (fun pn xe W' p1 p2 tk => ?_) r1 dc hco ?_
    · refine PE_imp (pe_handed (i := 0) (tb := fun E => ED w (fun cls oe _ H' => E cls oe H') fa) I1 LS hfo hfn hfr (hb0 _ _ _ _ _) tk room (fun E A outer s H gd hr => hb E A outer s H fl cc gd hr) hNg hva n1 n2) fun σZ HZ QZ ⟨σe, SZ, LZ, erZ, rZ, hZ⟩ => ?_
      dsimp only at hZ
      split at hZ
      · rename_i l0 e0
        obtain ⟨v, e1, dv⟩ := erZ.at_ 0 _ e0
        obtain ⟨z, xs, rfl, ⟨k1, k2⟩, k3, k4⟩ := den_exn dv
        cases k1
        rcases k4 with ⟨z2, _⟩ | ⟨d, o, k5, k6, k7, k8⟩
        · cases z2
        cases k5
        unfold ExO at k7
        rw [if_pos rfl] at k7
        obtain ⟨rfl, rfl, rfl⟩ := k7
        have hcap := DenL.noX_ hx _ _ dc
        have k3' : DenL w.K LZ HZ (σd.map fun o => o.getD .non) (capV σd σ) := DenL.sw (K := { w.K with xn := some { a := fl, c := 99, d := some cc, q := X.env.qual ++ "<lambda>", xs := capV σd σ, ds := σd.map fun o => o.getD .non } }) (xn := w.K.xn) _ _ hcap k3
        have rZ' : Rel w.K LZ HZ SZ := Rel.sw (K := { w.K with xn := some { a := fl, c := 99, d := some cc, q := X.env.qual ++ "<lambda>", xs := capV σd σ, ds := σd.map fun o => o.getD .non } }) (xn := w.K.xn) rZ
        refine ⟨e1, k6, σd, SZ, LZ, cap_erel er1 k3', rZ', ?_⟩
        have hZ2 := sd_out hx hZ
        cases q : fa σd SZ with
        | ok y S2 => rw [q] at hZ2; exact hZ2
        | exc x S2 => rw [q] at hZ2; exact hZ2
        | bad => rw [q] at hZ2; exact hZ2.elim
      · exact hZ.elim
    · have h2 := EndR.grow h g1
      cases q : C.said k (σd.map fun o => o.getD .non) (fun S => fa σd S) S with
      | ok y S2 => rw [q] at h2; exact h2
      | exc x S2 => rw [q] at h2; exact h2
      | bad => exact (ne q).elim
  · match rs, hq with
    | .error e, hq => exact L2.passAt O.tk σ pins H1 s' e s2 I1 hq
    | .ok (.ret u), hq => exact I1.after hq
    | .ok .next, hq => exact hq.elim
    | .ok .brk, hq => exact hq.elim
    | .ok .cont, hq => exact hq.elim
theorem ev_said_f {ti k : Nat} {q : QE} : ev C (.said ti k q) = fun σ S => C.said k (σ.map fun o => o.getD .non) (fun S => ev C q σ S) S := by
  funext σ S
  first | (rw [ev]; done) | (rw [ev]; rfl)
end
end Rs

namespace Rs
open PySem PySem.Spec PyProof.Rows L2
section
variable {C : CallT}
theorem COk.blk {w : Xd} {W : WX} {c : Cc} {X : Cx} (O : COk w C W c X) (hh : c.hot = false) (ex : List Addr) (s : Shared) (H : Hp) (scope : Scope) (A : Addr) (cl : List (Str × Addr)) (fp : List Addr) :
    COk { w with K := { w.K with ex := ex } } C (fun _ _ _ _ => False) { c with sc := relS scope c.sc, asg := some scope, th := false } (X.blk s H scope (compEnvC scope cl A X.env) fp) where
  sc := by
    show relS scope X.env.scope = _
    rw [O.sc]
  N := O.N
  nd := O.nd
  calm := fun _ => O.calm hh
  K := O.K
  hf := O.hf
  un := O.un
  gd := O.gd
  tk := fun u s' ⟨a, B, sI, pins, σ, H, cls, d, e, I, nb, up, sky, na, os, ag, z⟩ => z.elim
  bl := O.bl
  con := O.con
  rm := fun _ => O.rm hh
  rh := O.rh
  rf := O.rf
  r2 := fun _ h => O.r2 hh h
  fh := fun hs k x h => ⟨(O.fh hs k x h).ok⟩
  sd := fun z => ⟨(O.sd z).1, fun k x h cap th S n => ⟨((O.sd z).2 k x h cap th S n).ok⟩⟩
  fn := fun _ k x h => ⟨(O.fn hh k x h).ok⟩
  xf := O.xf
  hx := fun z => by rw [show c.hot = true from z] at hh; cases hh
  thh := fun z => by cases z
  th := fun z => by cases z
  xn := O.xn
  tb := O.tb
  as := fun x _ h => by
    have h : isLoc scope x = true := h
    unfold isLoc at h
    split at h
    · rename_i q
      exact .inr (lookup_relS_keep (by decide) q)
    · rename_i q
      refine .inl ?_
      show (scope.names.lookup x == some NameKind.cell) = true
      rw [q]
      rfl
    · cases h
theorem evC_ne : ∀ {q : QE} {σ : Env} {S : Store}, q ≠ .no → evC C q σ S = okB (ev C q σ S) := by
  intro q σ S h
  unfold evC
  cases q <;> first | (exact (h rfl).elim) | rfl
theorem evO_ne : ∀ {q : QE} {σ : Env} {S : Store}, q ≠ .no → evO C q σ S = okI (ev C q σ S) := by
  intro q σ S h
  unfold evO
  cases q <;> first | (exact (h rfl).elim) | rfl
theorem chk_ne {c : Cc} {q : QE} {e : Expr} (h : chkE c q e = true) : q ≠ .no := fun z => by
  subst z
  simp [chkE] at h
def isBO : Expr → Bool
  | .BoolOp _ (_ :: _ :: _) _ => true
  | _ => false
structure Sn (w : Xd) (C : CallT) (W : WX) (X : Cx) (q : QE) (e : Expr) : Prop where
  pe : PE X e (ED w W (ev C q))
  pt : q.tst = true → PT X e (EB w W (ev C q))
  pw : isBO e = true → PW X e (EB w W (ev C q))
theorem Sn.of {w : Xd} {W : WX} {X : Cx} {q : QE} {e : Expr} (h : PE X e (ED w W (ev C q))) (he : ∀ whole, isTrue e X.env whole = (do let v ← whole; standAt e.pos; holding [v] (truthy v))) (hb : isBO e = false) : Sn w C W X q e :=
  ⟨h, fun _ => pt_of h he, fun z => by rw [hb] at z; cases z⟩
theorem plain_ix {y : Expr} (h : (match y with
      | .Slice _ _ _ _ => false
      | _ => true) = true) : PlainIx y := fun o i => by
  cases y <;> first | rfl | cases h
theorem fold_ok {e : Expr} (h : notSet e = true) {env : PySem.Env} (x : Value) : foldedSetIterable e env x = pure x := by
  cases e <;> first | rfl | cases h
theorem chkI_set {c : Cc} {q : QI} {tg e : Expr} (h : chkI c q tg e = true) : notSet e = true := by
  cases e <;> first | rfl | (cases q <;> simp [chkI, notSet] at h)
theorem comp_lst {fi : Env → Store → Out (List D)} {ft : Env → D → Store → Out (Option D)} {σ : Env} {S S' : Store} {d : D}
    (e : ((fi σ S).bind fun xs S => (compL (ft σ) xs S).bind fun ys S => if ys.length < sizeLine then Out.ok (D.lst ys) S else .bad) = .ok d S') : ∃ l, d = .lst l := by
  cases q : fi σ S with
  | ok xs S1 =>
    rw [q] at e
    have e : ((compL (ft σ) xs S1).bind fun ys S => if ys.length < sizeLine then Out.ok (D.lst ys) S else .bad) = .ok d S' := e
    cases q2 : compL (ft σ) xs S1 with
    | ok ys S2 =>
      rw [q2] at e
      have e : (if ys.length < sizeLine then Out.ok (D.lst ys) S2 else .bad) = .ok d S' := e
      split at e
      · cases e
        exact ⟨_, rfl⟩
      · cases e
    | exc x S2 => rw [q2] at e; cases e
    | bad => rw [q2] at e; cases e
  | exc x S2 => rw [q] at e; cases e
  | bad => rw [q] at e; cases e
theorem compO_lst {fa : Env → Store → Out D} {ft : Env → D → Store → Out (Option D)} {σ : Env} {S S' : Store} {d : D}
    (e : ((fa σ S).bind fun x S => match x with
      | .obj i => match S[i]? with
        | some (.lst l) => (compL (fun x S => grd i l (ft σ x S)) l S).bind fun ys S => if ys.length < sizeLine then Out.ok (D.lst ys) S else .bad
        | _ => .bad
      | _ => .bad) = .ok d S') : ∃ l, d = .lst l := by
  cases q : fa σ S with
  | ok x S1 =>
    rw [q] at e
    cases x <;> try (cases e; done)
    rename_i i
    have e : (match S1[i]? with
        | some (.lst l) => (compL (fun x S => grd i l (ft σ x S)) l S1).bind fun ys S => if ys.length < sizeLine then Out.ok (D.lst ys) S else .bad
        | _ => .bad) = .ok d S' := e
    cases q0 : S1[i]? with
    | none => rw [q0] at e; cases e
    | some mo =>
    rw [q0] at e
    rcases mo with ⟨l⟩ | ⟨kvs⟩ | ⟨kb, lb⟩ | ⟨qt⟩
    rotate_left
    · cases e
    · cases e
    · cases e
    have e : ((compL (fun x S => grd i l (ft σ x S)) l S1).bind fun ys S => if ys.length < sizeLine then Out.ok (D.lst ys) S else .bad) = .ok d S' := e
    cases q2 : compL (fun x S => grd i l (ft σ x S)) l S1 with
    | ok ys S2 =>
      rw [q2] at e
      have e : (if ys.length < sizeLine then Out.ok (D.lst ys) S2 else .bad) = .ok d S' := e
      split at e
      · cases e
        exact ⟨_, rfl⟩
      · cases e
    | exc x S2 => rw [q2] at e; cases e
    | bad => rw [q2] at e; cases e
  | exc x S2 => rw [q] at e; cases e
  | bad => rw [q] at e; cases e
theorem sndO {q : QE} {w : Xd} {W : WX} {c : Cc} {X : Cx} (S : ∀ e, chkE c q e = true → PE X e (ED w W (ev C q))) {e : Option Expr} (h : chkO c q e = true) : PO X e (EO w W (evO C q)) := by
  cases e with
  | none =>
    have hq : q.isNo = true := h
    rw [show evO C q = fun _ S => .ok none S from funext fun σ => funext fun S => by unfold evO; rw [if_pos hq]]
    exact g_poN
  | some e =>
    have h' : chkE c q e = true := h
    rw [show evO C q = fun σ S => okI (ev C q σ S) from funext fun σ => funext fun S => evO_ne (chk_ne h')]
    exact g_po (S e h')
theorem sndC {q : QE} {w : Xd} {W : WX} {c : Cc} {X : Cx} {es : List Expr} (h : (match es with
        | [] => (match q with
          | .no => true
          | _ => false)
        | [y] => q.tst && chkE c q y
        | _ => false) = true) (S : ∀ e, chkE c q e = true → q.tst = true → PT X e (EB w W (ev C q))) : PTs X es (EBo w W (evC C q)) := by
  match es, h with
  | [], h =>
    dsimp only at h
    split at h
    · rw [show evC C .no = fun _ S => .ok true S from funext fun σ => funext fun S => by unfold evC; rfl]
      exact ⟨fun pins s σ H Q I ⟨σd, S, L, er, r, h⟩ => pts_nil.run pins s σ H Q I (EndR.here h r rfl)⟩
    · cases h
  | [y], h =>
    simp only [Bool.and_eq_true] at h
    rw [show evC C q = fun σ S => okB (ev C q σ S) from funext fun σ => funext fun S => evC_ne (chk_ne h.2)]
    exact pts_one (S y h.2 h.1)
theorem lrg_lst {f : Env → Store → Out (List D)} {σ : Env} {S S' : Store} {d : D} (e : fLR false f σ S = .ok d S') : ∃ l, d = .lst l := by
  have e : ((f σ S).bind fun xs S => if xs.length ≤ 16777216 then Out.ok (D.lst xs) S else .bad) = .ok d S' := e
  cases q : f σ S with
  | ok xs S1 =>
    rw [q] at e
    have e : (if xs.length ≤ 16777216 then Out.ok (D.lst xs) S1 else .bad) = .ok d S' := e
    split at e
    · cases e
      exact ⟨_, rfl⟩
    · cases e
  | exc x S2 => rw [q] at e; cases e
  | bad => rw [q] at e; cases e
theorem fun_if {α β : Type} {b : Bool} {x y : α} {f : α → β} : f (if b = true then x else y) = if b = true then f x else f y := by
  cases b <;> rfl
mutual
theorem snd : ∀ (q : QE) {w : Xd} {W : WX} {c : Cc} {X : Cx} {e : Expr}, COk w C W c X → chkE c q e = true → Sn w C W X q e
  | .var i, w, W, c, X, e, O, h => by
    rw [chkE.eq_def] at h
    dsimp only at h
    split at h
    · simp only [Bool.and_eq_true, decide_eq_true_eq] at h
      exact .of (g_var O h.1.1 h.1.2 h.2) (fun _ => rfl) rfl
    · cases h
  | .con d, w, W, c, X, e, O, h => by
    rw [chkE.eq_def] at h
    dsimp only at h
    split at h
    · exact .of (g_con h) (fun _ => rfl) rfl
    · simp only [Bool.and_eq_true] at h
      obtain ⟨⟨h1, h2⟩, h3⟩ := h
      split at h3
      · rename_i q
        exact .of (g_glob O h1 h2 q h3) (fun _ => rfl) rfl
      · cases h3
    · cases h
  | .neg a, w, W, c, X, e, O, h => by
    rw [chkE.eq_def] at h
    dsimp only at h
    split at h
    · exact .of (by rw [ev_neg_f]; exact g_neg (snd a O h).pe) (fun _ => rfl) rfl
    · cases h
  | .not a, w, W, c, X, e, O, h => by
    rw [chkE.eq_def] at h
    dsimp only at h
    split at h
    · simp only [Bool.and_eq_true] at h
      obtain ⟨h1, h2⟩ := g_not (pos := _) ((snd a O h.2).pt h.1) (snd a O h.2).pe
      exact ⟨by rw [ev_not_f]; exact h1, fun _ => by rw [ev_not_f]; exact h2, fun z => by cases z⟩
    · cases h
  | .bin o a b, w, W, c, X, e, O, h => by
    rw [chkE.eq_def] at h
    dsimp only at h
    split at h
    · simp only [Bool.and_eq_true] at h
      have e1 := eqOp_of h.1.1
      subst e1
      exact .of (by rw [ev_bin_f]; exact pe_bin (f := fun x y _ => binD o x y) (op_binD O.K o) (snd a O h.1.2).pe (snd b O h.2).pe) (fun _ => rfl) rfl
    · cases h
  | .cmp o a b, w, W, c, X, e, O, h => by
    rw [chkE.eq_def] at h
    dsimp only at h
    split at h
    · simp only [Bool.and_eq_true] at h
      obtain ⟨h1, h2⟩ := g_cmp (pos := _) O h.1.1.1 h.1.1.2 (snd a O h.1.2).pe (snd b O h.2).pe
      exact ⟨by rw [ev_cmp_f]; exact h1, fun _ => by rw [ev_cmp_f]; exact h2, fun z => by cases z⟩
    · cases h
  | .chn o p a b d, w, W, c, X, e, O, h => by
    rw [chkE.eq_def] at h
    dsimp only at h
    split at h
    · simp only [Bool.and_eq_true] at h
      obtain ⟨h1, h2⟩ := g_chn (pos := _) O h.1.1.1.1.1.1 h.1.1.1.1.1.2 h.1.1.1.1.2 h.1.1.1.2 (snd a O h.1.1.2).pe (snd b O h.1.2).pe (snd d O h.2).pe
      exact ⟨by rw [ev_chn_f]; exact h1, fun _ => by rw [ev_chn_f]; exact h2, fun z => by cases z⟩
    · cases h
  | .and a b, w, W, c, X, e, O, h => by
    rw [chkE.eq_def] at h
    dsimp only at h
    split at h
    · rename_i x y r pos
      simp only [Bool.and_eq_true] at h
      obtain ⟨⟨⟨ta, ha⟩, tb⟩, hb⟩ := h
      have A := snd a O ha
      rw [show Sn w C W X (.and a b) = Sn w C W X (.and a b) from rfl]
      cases r with
      | nil =>
        have B := snd b O hb
        have P := PW_imp (pw_and (pos := pos) (A.pt ta) (pw_and1 (B.pt tb))) fun σ H Q h => tx_andT h
        refine ⟨?_, fun _ => ?_, fun _ => ?_⟩ <;> rw [ev_and_f]
        · exact PE_imp (pe_and A.pe (pe_one B.pe)) fun σ H Q h => tx_and h
        · exact P.pt
        · exact P
      | cons r1 r2 =>
        simp only [Bool.and_eq_true] at hb
        have B := snd b O hb.2
        have P := PW_imp (pw_and (pos := pos) (A.pt ta) (B.pw rfl)) fun σ H Q h => tx_andT h
        refine ⟨?_, fun _ => ?_, fun _ => ?_⟩ <;> rw [ev_and_f]
        · exact PE_imp (pe_and A.pe B.pe) fun σ H Q h => tx_and h
        · exact P.pt
        · exact P
    · cases h
  | .or a b, w, W, c, X, e, O, h => by
    rw [chkE.eq_def] at h
    dsimp only at h
    split at h
    · rename_i x y r pos
      simp only [Bool.and_eq_true] at h
      obtain ⟨⟨⟨ta, ha⟩, tb⟩, hb⟩ := h
      have A := snd a O ha
      cases r with
      | nil =>
        have B := snd b O hb
        have P := PW_imp (pw_or (pos := pos) (A.pt ta) (pw_or1 (B.pt tb))) fun σ H Q h => tx_orT h
        refine ⟨?_, fun _ => ?_, fun _ => ?_⟩ <;> rw [ev_or_f]
        · exact PE_imp (pe_or A.pe (pe_one B.pe)) fun σ H Q h => tx_or h
        · exact P.pt
        · exact P
      | cons r1 r2 =>
        simp only [Bool.and_eq_true] at hb
        have B := snd b O hb.2
        have P := PW_imp (pw_or (pos := pos) (A.pt ta) (B.pw rfl)) fun σ H Q h => tx_orT h
        refine ⟨?_, fun _ => ?_, fun _ => ?_⟩ <;> rw [ev_or_f]
        · exact PE_imp (pe_or A.pe B.pe) fun σ H Q h => tx_or h
        · exact P.pt
        · exact P
    · cases h
  | .ife t a b, w, W, c, X, e, O, h => by
    rw [chkE.eq_def] at h
    dsimp only at h
    split at h
    · simp only [Bool.and_eq_true] at h
      exact ⟨by rw [ev_ife_f]; exact g_ife ((snd t O h.1.1.2).pt h.1.1.1) (snd a O h.1.2).pe (snd b O h.2).pe, fun z => (by cases z), fun z => (by cases z)⟩
    · cases h
  | .idx a b, w, W, c, X, e, O, h => by
    rw [chkE.eq_def] at h
    dsimp only at h
    split at h
    · simp only [Bool.and_eq_true] at h
      exact .of (by rw [ev_idx_f]; exact g_idx O (plain_ix h.1.1) (snd a O h.1.2).pe (snd b O h.2).pe) (fun _ => rfl) rfl
    · cases h
  | .slc a lo hi, w, W, c, X, e, O, h => by
    rw [chkE.eq_def] at h
    dsimp only at h
    split at h
    · simp only [Bool.and_eq_true] at h
      exact .of (by rw [ev_slc_f]; exact g_slc O (snd a O h.1.1).pe (sndO (fun e h => (snd lo O h).pe) h.1.2) (sndO (fun e h => (snd hi O h).pe) h.2)) (fun _ => rfl) rfl
    · cases h
  | .rev a, w, W, c, X, e, O, h => by
    rw [chkE.eq_def] at h
    dsimp only at h
    split at h
    · simp only [Bool.and_eq_true, decide_eq_true_eq] at h
      obtain ⟨rfl, h2⟩ := h
      exact .of (by rw [ev_rev_f]; exact g_rev O (snd a O h2).pe) (fun _ => rfl) rfl
    · cases h
  | .odd a, w, W, c, X, e, O, h => by
    rw [chkE.eq_def] at h
    dsimp only at h
    split at h
    · simp only [Bool.and_eq_true, decide_eq_true_eq] at h
      obtain ⟨⟨rfl, rfl⟩, h2⟩ := h
      exact .of (by rw [ev_odd_f]; exact g_odd O (snd a O h2).pe) (fun _ => rfl) rfl
    · cases h
  | .tup es, w, W, c, X, e, O, h => by
    rw [chkE.eq_def] at h
    dsimp only at h
    split at h
    · exact .of (by rw [ev_tup_f]; exact g_tup (snds es O h)) (fun _ => rfl) rfl
    · cases h
  | .lst es, w, W, c, X, e, O, h => by
    rw [chkE.eq_def] at h
    dsimp only at h
    split at h
    · exact .of (by rw [ev_lst_f]; exact g_lst (snds es O h)) (fun _ => rfl) rfl
    · cases h
  | .call k es, w, W, c, X, e, O, h => by
    rw [chkE.eq_def] at h
    dsimp only at h
    split at h
    · rename_i x xp xs pos
      simp only [Bool.and_eq_true, decide_eq_true_eq, Bool.not_eq_true'] at h
      obtain ⟨h0, ⟨⟨⟨h1, h2⟩, h3⟩, h4⟩, h5⟩ := h
      refine .of ?_ (fun _ => rfl) rfl
      rw [ev_call_f]
      cases xs with
      | nil =>
        cases es with
        | nil =>
          have e0 : evs C .nil = fun _ S => .ok [] S := by
            funext σ S
            rw [evs]
          rw [e0]
          exact g_call0 O h0 h3 h1 h2
        | cons q qs => simp [chkEs] at h4
        | star q qs => simp [chkEs] at h4
      | cons y ys => exact g_call O h0 h3 h1 h2 h5 (snds es O h4)
    · cases h
  | .bi b es, w, W, c, X, e, O, h => by
    rw [chkE.eq_def] at h
    dsimp only at h
    split at h
    · rw [Bool.and_eq_true] at h
      obtain ⟨hb, h⟩ := h
      simp only [Bool.and_eq_true, decide_eq_true_eq] at h
      exact .of (by rw [ev_bi_f]; exact g_bi O hb h.1.1.2 h.1.1.1 h.2 (snds es O h.1.2)) (fun _ => rfl) rfl
    · cases h
  | .mth m o es, w, W, c, X, e, O, h => by
    rw [chkE.eq_def] at h
    dsimp only at h
    split at h
    · rename_i x nm apos y ys cpos
      simp only [Bool.and_eq_true, decide_eq_true_eq, Bool.not_eq_true'] at h
      obtain ⟨⟨⟨⟨⟨⟨⟨⟨h0, h1⟩, h2⟩, h3⟩, h4⟩, h5⟩, h6⟩, h7⟩, h8⟩ := h
      have A := (snd o O h6).pe
      split at h1
      · rename_i i
        rw [chkE.eq_def] at h6
        dsimp only at h6
        split at h6
        · exact .of (by rw [ev_mth_f]; exact g_mth (i := i) O h0 h2 h3 h4 h5 h8 A (snds es O h7)) (fun _ => rfl) rfl
        · cases h6
      · cases h1
    · cases h
  | .isi a t, w, W, c, X, e, O, h => by
    rw [chkE.eq_def] at h
    dsimp only at h
    split at h
    · simp only [Bool.and_eq_true, decide_eq_true_eq, Bool.not_eq_true'] at h
      exact .of (by rw [ev_isi_f]; exact g_isi O h.1.1.1.1.2 h.1.1.1.1.1 h.1.1.2 h.1.1.1.2 h.1.2 (snd a O h.2).pe) (fun _ => rfl) rfl
    · cases h
  | .comp t it cond elt, w, W, c, X, e, O, h => by
    rw [chkE.eq_def] at h
    dsimp only at h
    split at h
    · rename_i x tg itx ifs scope pos
      simp only [Bool.and_eq_true, Bool.not_eq_true'] at h
      obtain ⟨h0, ⟨⟨⟨h1, h2⟩, h3⟩, h4⟩, h5⟩ := h
      have F := g_comp (pos := pos) (elt := x) O h0 (by rw [O.N, O.sc]; exact blkOk_by h2) (fold_ok (chkI_set h1)) (sndI it O h1) fun ex s H A cl fp =>
        have O' := O.blk h0 ex s H scope A cl fp
        ⟨snd_t O' t tg h3, sndC h4 (fun e h t => (snd cond O' h).pt t), (snd elt O' h5).pe⟩
      refine .of ?_ (fun _ => rfl) rfl
      rw [ev_comp_f]
      refine ED_of_EF F fun σ S d S' e => ?_
      exact comp_lst (fi := evI C it) (ft := fun σ => turnC t (evC C cond) (ev C elt) σ) e
    · cases h
  | .compO t a cond elt, w, W, c, X, e, O, h => by
    rw [chkE.eq_def] at h
    dsimp only at h
    split at h
    · rename_i x tg itx ifs scope pos
      simp only [Bool.and_eq_true, Bool.not_eq_true'] at h
      obtain ⟨h0, ⟨⟨⟨⟨hn, h1⟩, h2⟩, h3⟩, h4⟩, h5⟩ := h
      have F := g_compO (pos := pos) (elt := x) O h0 (by rw [O.N, O.sc]; exact blkOk_by h2) (fold_ok hn) (snd a O h1).pe fun ex s H A cl fp =>
        have O' := O.blk h0 ex s H scope A cl fp
        ⟨snd_t O' t tg h3, sndC h4 (fun e h t => (snd cond O' h).pt t), (snd elt O' h5).pe⟩
      refine .of ?_ (fun _ => rfl) rfl
      rw [ev_compO_f]
      refine ED_of_EF F fun σ S d S' e => ?_
      exact compO_lst (fa := ev C a) (ft := fun σ => turnC t (evC C cond) (ev C elt) σ) e
    · cases h
  | .srt a, w, W, c, X, e, O, h => by
    rw [chkE.eq_def] at h
    dsimp only at h
    split at h
    · simp only [Bool.and_eq_true, decide_eq_true_eq, Bool.not_eq_true'] at h
      obtain ⟨h0, h⟩ := h
      exact .of (by rw [ev_srt_f]; exact g_srt O h0 h.1.1.1.1.2 h.1.1.1.1.1 h.1.1.2 h.1.1.1.2 h.1.2 (snd a O h.2).pe) (fun _ => rfl) rfl
    · cases h
  | .lrg t it, w, W, c, X, e, O, h => by
    rw [chkE.eq_def] at h
    dsimp only at h
    split at h
    · rename_i x p y pos
      simp only [Bool.and_eq_true, decide_eq_true_eq, Bool.not_eq_true'] at h
      obtain ⟨h0, ⟨⟨⟨h1, h2⟩, h3⟩, h4⟩, h5⟩ := h
      refine .of ?_ (fun _ => rfl) rfl
      cases it <;> try (cases h3; done)
      · rename_i a
        rw [chkI.eq_def] at h5
        dsimp only at h5
        split at h5
        · simp only [Bool.and_eq_true, decide_eq_true_eq, Bool.not_eq_true'] at h5
          rw [ev_lrg_f, evI_rng1_f]
          cases t with
          | false =>
            refine ED_of_EF (g_lrgF1 O h0 h2 h1 h5.1.1.2 h5.1.1.1 h5.1.2 (snd a O h5.2).pe) fun σ S d S' e => lrg_lst (f := fR1 (ev C a)) e
          | true => exact g_lrgT1 O h0 h2 h1 h5.1.1.2 h5.1.1.1 h5.1.2 (snd a O h5.2).pe
        · cases h5
      · rename_i a b
        rw [chkI.eq_def] at h5
        dsimp only at h5
        split at h5
        · simp only [Bool.and_eq_true, decide_eq_true_eq, Bool.not_eq_true'] at h5
          obtain ⟨⟨⟨⟨⟨k1, k2⟩, k3⟩, k4⟩, k5⟩, k6⟩ := h5
          rw [ev_lrg_f, evI_rng2_f]
          cases t with
          | false =>
            refine ED_of_EF (g_lrgF2 O h0 h2 h1 k2 k1 k3 k4 (snd a O k5).pe (snd b O k6).pe) fun σ S d S' e => lrg_lst (f := fR2 (ev C a) (ev C b)) e
          | true => exact g_lrgT2 O h0 h2 h1 k2 k1 k3 k4 (snd a O k5).pe (snd b O k6).pe
        · cases h5
    · cases h
  | .isx a k, w, W, c, X, e, O, h => by
    rw [chkE.eq_def] at h
    dsimp only at h
    split at h
    · simp only [Bool.and_eq_true, decide_eq_true_eq, Bool.not_eq_true'] at h
      obtain ⟨⟨⟨⟨⟨⟨⟨⟨⟨⟨h1, ht⟩, h2⟩, h3⟩, h4⟩, h5⟩, h6⟩, h7⟩, _⟩, h9⟩, h10⟩ := h
      exact .of (by rw [ev_isx_f]; exact g_isx O h1 ht h2 h4 h3 h6 h7 h5 h9 (snd a O h10).pe) (fun _ => rfl) rfl
    · cases h
  | .fld a f, w, W, c, X, e, O, h => by
    rw [chkE.eq_def] at h
    dsimp only at h
    split at h
    · simp only [Bool.and_eq_true, decide_eq_true_eq, Bool.not_eq_true'] at h
      obtain ⟨⟨⟨⟨⟨⟨h1, ht⟩, h2⟩, h3⟩, h4⟩, h5⟩, h6⟩ := h
      have A := (snd a O h6).pe
      split at h5
      · rename_i i
        rw [chkE.eq_def] at h6
        dsimp only at h6
        split at h6
        · subst h3
          exact .of (by rw [ev_fld_f]; exact g_xfld O h1 ht h2 h4 A) (fun _ => rfl) rfl
        · cases h6
      · cases h5
    · cases h
  | .tru ix a, w, W, c, X, e, O, h => by
    rw [chkE.eq_def] at h
    dsimp only at h
    split at h
    · simp only [Bool.and_eq_true, decide_eq_true_eq] at h
      obtain ⟨⟨⟨h1, h2⟩, h3⟩, h4⟩ := h
      have A := (snd a O h4).pe
      split at h1
      · rename_i i
        rw [chkE.eq_def] at h4
        dsimp only at h4
        split at h4
        · exact .of (by rw [ev_tru_f]; exact g_tru O h2 h3 A) (fun _ => rfl) rfl
        · cases h4
      · cases h1
    · cases h
  | .thk, w, W, c, X, e, O, h => by
    rw [chkE.eq_def] at h
    dsimp only at h
    split at h
    · simp only [Bool.and_eq_true, decide_eq_true_eq] at h
      obtain ⟨⟨⟨h1, h2⟩, h3⟩, h4⟩ := h
      refine .of ?_ (fun _ => rfl) rfl
      refine PE_imp (O.th h1 X.pn X.xe W _ _ _ O.tk h2 h3 h4) fun σ H Q hq => ?_
      obtain ⟨σd, S, L, er, r, h⟩ := hq
      refine ⟨σd, S, L, er, r, ?_⟩
      rw [ev] at h
      exact h
    · cases h
  | .said ti k q, w, W, c, X, e, O, h => by
    rw [chkE.eq_def] at h
    dsimp only at h
    split at h
    · simp only [Bool.and_eq_true, decide_eq_true_eq, Bool.not_eq_true'] at h
      obtain ⟨⟨⟨⟨⟨⟨⟨h0, h1⟩, h2⟩, h3⟩, h4⟩, h5⟩, h6⟩, h7⟩ := h
      refine .of ?_ (fun _ => rfl) rfl
      rw [ev_said_f]
      obtain ⟨ti', h4'⟩ := Option.isSome_iff_exists.mp h4
      exact g_said O h0 h3 h1 h2 h4' h5 h6 fun E A outer s H fl cc gd rm => (snd q (O.lam h0 h6 gd rm) h7).pe
    · cases h
  | .hc k es, w, W, c, X, e, O, h => by
    rw [chkE.eq_def] at h
    dsimp only at h
    split at h
    · simp only [Bool.and_eq_true, decide_eq_true_eq, Bool.not_eq_true'] at h
      obtain ⟨⟨⟨⟨⟨⟨⟨h0, h1⟩, h2⟩, h3⟩, h4⟩, h5⟩, h6⟩, h7⟩ := h
      refine .of ?_ (fun _ => rfl) rfl
      rw [show ev C (.hc k es) = fun σ S => (evs C es σ S).bind fun xs S => ofO (C.hot k xs S) S from funext fun σ => funext fun S => by rw [ev]]
      exact g_hcall O h0 h1 h2 h5 h3 h4 h7 (snds es O h6)
    · cases h
  | .no, w, W, c, X, e, O, h => by
    rw [chkE.eq_def] at h
    cases h
theorem sndI : ∀ (q : QI) {w : Xd} {W : WX} {c : Cc} {X : Cx} {tg e : Expr}, COk w C W c X → chkI c q tg e = true → PI X tg e (EI w W (evI C q))
  | .val q, w, W, c, X, tg, e, O, h => by
    rw [chkI.eq_def] at h
    dsimp only at h
    simp only [Bool.and_eq_true] at h
    rw [evI_val_f]
    exact g_val O (snd q O h.2).pe
  | .rng1 a, w, W, c, X, tg, e, O, h => by
    rw [chkI.eq_def] at h
    dsimp only at h
    split at h
    · simp only [Bool.and_eq_true, decide_eq_true_eq, Bool.not_eq_true'] at h
      rw [evI_rng1_f]
      exact g_rng1 O h.1.1.2 h.1.1.1 h.1.2 (snd a O h.2).pe
    · cases h
  | .rng2 a b, w, W, c, X, tg, e, O, h => by
    rw [chkI.eq_def] at h
    dsimp only at h
    split at h
    · simp only [Bool.and_eq_true, decide_eq_true_eq, Bool.not_eq_true'] at h
      rw [evI_rng2_f]
      exact g_rng2 O h.1.1.1.1.2 h.1.1.1.1.1 h.1.1.1.2 h.1.1.2 (snd a O h.1.2).pe (snd b O h.2).pe
    · cases h
  | .rng3 a b k, w, W, c, X, tg, e, O, h => by
    rw [chkI.eq_def] at h
    dsimp only at h
    split at h
    · simp only [Bool.and_eq_true, decide_eq_true_eq, Bool.not_eq_true'] at h
      rw [evI_rng3_f]
      exact g_rng3 O h.1.1.1.1.1.2 h.1.1.1.1.1.1 h.1.1.1.1.2 h.1.1.1.2 h.1.1.2 (snd a O h.1.2).pe (snd b O h.2).pe
    · cases h
  | .enm a, w, W, c, X, tg, e, O, h => by
    rw [chkI.eq_def] at h
    dsimp only at h
    split at h
    · simp only [Bool.and_eq_true, decide_eq_true_eq, Bool.not_eq_true'] at h
      obtain ⟨⟨⟨⟨h0, h1⟩, h2⟩, h3⟩, h4⟩ := h
      rw [evI_enm_f]
      split at h0
      · exact g_enm O h2 h1 h3 (snd a O h4).pe
      · cases h0
    · cases h
  | .zip a b, w, W, c, X, tg, e, O, h => by
    rw [chkI.eq_def] at h
    dsimp only at h
    split at h
    · simp only [Bool.and_eq_true, decide_eq_true_eq, Bool.not_eq_true'] at h
      obtain ⟨⟨⟨⟨⟨⟨h0, h1⟩, h2⟩, h3⟩, h4⟩, h5⟩, h6⟩ := h
      rw [evI_zip_f]
      split at h0
      · exact g_zip O h2 h1 h3 h4 (snd a O h5).pe (snd b O h6).pe
      · cases h0
    · cases h
theorem snds : ∀ (q : QEs) {w : Xd} {W : WX} {c : Cc} {X : Cx} {es : List Expr}, COk w C W c X → chkEs c q es = true → PA X es (ELs w W (evs C q))
  | .nil, w, W, c, X, es, O, h => by
    rw [chkEs.eq_def] at h
    dsimp only at h
    split at h
    · rw [show evs C .nil = fun _ S => .ok [] S from funext fun σ => funext fun S => by first | (rw [evs]; done) | (rw [evs]; rfl)]
      exact g_nil
    · cases h
  | .cons q qs, w, W, c, X, es, O, h => by
    rw [chkEs.eq_def] at h
    dsimp only at h
    split at h
    · simp only [Bool.and_eq_true, Bool.not_eq_true'] at h
      rw [show evs C (.cons q qs) = fun σ S => (ev C q σ S).bind fun x S => (evs C qs σ S).bind fun xs S => .ok (x :: xs) S from funext fun σ => funext fun S => by first | (rw [evs]; done) | (rw [evs]; rfl)]
      exact g_cons h.1.1 (snd q O h.1.2).pe (snds qs O h.2)
    · cases h
  | .star q qs, w, W, c, X, es, O, h => by
    rw [chkEs.eq_def] at h
    dsimp only at h
    split at h
    · simp only [Bool.and_eq_true] at h
      rw [show evs C (.star q qs) = fun σ S => (ev C q σ S).bind fun x S => match x with
        | .tup l => (evs C qs σ S).bind fun xs S => .ok (l ++ xs) S
        | .lst l => (evs C qs σ S).bind fun xs S => .ok (l ++ xs) S
        | _ => .bad from funext fun σ => funext fun S => by first | (rw [evs]; done) | (rw [evs]; rfl)]
      exact g_star O (snd q O h.1).pe (snds qs O h.2)
    · cases h
end
end
end Rs

namespace Rs
open PySem PySem.Spec PyProof.Rows L2
/-- what is wanted behind a statement whose outcome the interpreter gives -/
def EndS (w : Xd) (W : WX) (L : List Addr) (H : Hp) (D : Ends) : Flow → Prop
  | .nx σd S => ∀ σ' L' H', Gr L H L' H' → ERel w.K L' H' σd σ' → Rel w.K L' H' S → D.nx σ' H'
  | .bk σd S => ∀ σ' L' H', Gr L H L' H' → ERel w.K L' H' σd σ' → Rel w.K L' H' S → D.bk σ' H'
  | .ct σd S => ∀ σ' L' H', Gr L H L' H' → ERel w.K L' H' σd σ' → Rel w.K L' H' S → D.ct σ' H'
  | .rt d S => ∀ v L' H', Gr L H L' H' → Rel w.K L' H' S → Den w.K L' H' d v → D.rt v H'
  | .exc x σd S => ∀ σ' cls oe L' H', Gr L H L' H' → ERel w.K L' H' σd σ' → Rel w.K L' H' S → XO w L' H' x cls oe → W cls oe σ' H'
  | .bad => False
def TSq (w : Xd) (W : WX) (f : Env → Store → Flow) : TS := fun D σ H => ∃ σd S L, ERel w.K L H σd σ ∧ Rel w.K L H S ∧ EndS w W L H D (f σd S)
section
variable {w : Xd} {C : CallT} {W : WX} {c : Cc} {X : Cx} {σ : L2.St} {σd : Env} {L L1 : List Addr} {H H1 : Hp} {S : Store} {D : Ends}
theorem EndS.grow {f : Flow} (h : EndS w W L H D f) (g : Gr L H L1 H1) : EndS w W L1 H1 D f := by
  cases f with
  | nx σd S => exact fun σ' L' H' g' e r => h σ' L' H' (g.trans g') e r
  | bk σd S => exact fun σ' L' H' g' e r => h σ' L' H' (g.trans g') e r
  | ct σd S => exact fun σ' L' H' g' e r => h σ' L' H' (g.trans g') e r
  | rt d S => exact fun v L' H' g' r d => h v L' H' (g.trans g') r d
  | exc x σd S => exact fun σ' cls oe L' H' g' e r x => h σ' cls oe L' H' (g.trans g') e r x
  | bad => exact h
theorem EndS.go {α β : Type} {R : List Addr → Hp → α → β → Prop} {o : Out α} {f : α → Store → Flow} (h : EndS w W L H D (o.go σd f)) (er : ERel w.K L H σd σ) :
    EndR w R W σ L H (fun y H1 => ∃ a S1 L1, Gr L H L1 H1 ∧ Rel w.K L1 H1 S1 ∧ R L1 H1 a y ∧ EndS w W L1 H1 D (f a S1)) o := by
  cases o with
  | ok a S' => exact fun y L' H' g r d => ⟨a, S', L', g, r, d, EndS.grow h g⟩
  | exc x S' => exact fun cls oe L' H' g r x => h σ cls oe L' H' g (er.grow g) r x
  | bad => exact h
/-- the same, told from where it began -/
theorem EndS.goB {α β : Type} {R : List Addr → Hp → α → β → Prop} {L0 : List Addr} {H0 : Hp} {o : Out α} {f : α → Store → Flow} (h : EndS w W L0 H0 D (o.go σd f)) (g0 : Gr L0 H0 L H) (er : ERel w.K L H σd σ) :
    EndR w R W σ L H (fun y H1 => ∃ a S1 L1, Gr L H L1 H1 ∧ Rel w.K L1 H1 S1 ∧ R L1 H1 a y ∧ EndS w W L0 H0 D (f a S1)) o := by
  cases o with
  | ok a S' => exact fun y L' H' g r d => ⟨a, S', L', g, r, d, h⟩
  | exc x S' => exact fun cls oe L' H' g r x => h σ cls oe L' H' (g0.trans g) (er.grow g) r x
  | bad => exact h
/-- a new list has come, behind it f -/
theorem EndS.goF {f : Rs.D → Store → Flow} {q : Out Rs.D} (h : EndS w W L H D (q.go σd f)) (er : ERel w.K L H σd σ) (hl : ∀ d S', q = .ok d S' → ∃ l, d = .lst l) :
    EndF w W σ L H (fun y H1 => ∃ l S1 L1 p, y = .ref p ∧ Gr L H (L1 ++ [p]) H1 ∧ Rel w.K (L1 ++ [p]) H1 (S1 ++ [.lst l]) ∧ L <+: L1 ∧ EndS w W L H D (f (.lst l) S1)) q := by
  cases q with
  | ok a S' =>
    obtain ⟨l, rfl⟩ := hl _ _ rfl
    exact fun p L' H' g r pre => ⟨l, S', L', p, rfl, g, r, pre, h⟩
  | exc x S' => exact fun cls oe L' H' g r x => h σ cls oe L' H' g (er.grow g) r x
  | bad => exact h
/-! ### new dicts -/
theorem Rel.adoptM {K : KX} {L : List Addr} {H : Hp} {S : Store} {p : Addr} {mo : MO} {vs : List V} {o : HO} (r : Rel { K with ex := p :: K.ex } L H S) (hp : H p = some o) (ho : mo.ho K.hf K.cl p vs o) (lo : loL S.length mo.ds = true) (d : DenL { K with ex := p :: K.ex } L H mo.ds vs) (ne : p ∉ K.ex) (nx : noXL mo.ds = true) : Rel K (L ++ [p]) H (S ++ [mo]) := by
  have nL : p ∉ L := (r.ex p List.mem_cons_self).2
  refine ⟨by rw [List.length_append, List.length_append, r.len]; rfl, ?_, fun i mo' e => ?_, fun a z => ⟨(r.ex a (List.mem_cons_of_mem _ z)).1, fun y => ?_⟩, fun a z => r.nc a (List.mem_cons_of_mem _ z), fun i mo' e => ?nx, fun i P q e => ?_⟩
  case nx =>
    by_cases hi : i < S.length
    · rw [List.getElem?_append_left hi] at e
      exact r.nx i mo' e
    · have e' : i = S.length := by
        have := (List.getElem?_eq_some_iff.mp e).1
        rw [List.length_append, List.length_singleton] at this
        omega
      subst e'
      rw [List.getElem?_append_right (Nat.le_refl _), Nat.sub_self] at e
      cases e
      exact nx
  rotate_left 3
  · obtain ⟨e1, ps, e2, e3⟩ := r.tb i P q e
    refine ⟨fun y => ?_, ps, e2, e3⟩
    rcases List.mem_append.mp y with y | y
    · exact e1 y
    · rw [List.mem_singleton.mp y] at e2
      exact (r.nc p List.mem_cons_self _ e2).2 ps rfl
  · exact List.nodup_append.mpr ⟨r.nd, by simp, fun a ha b hb z => nL (by rw [← List.mem_singleton.mp hb, ← z]; exact ha)⟩
  · by_cases hi : i < S.length
    · rw [List.getElem?_append_left hi] at e
      obtain ⟨a, e1, m⟩ := r.at_ i mo' e
      exact ⟨a, get_pre (List.prefix_append _ _) e1, m.imp (fun _ q => q) fun ds xs q => q.adopt⟩
    · have e' : i = S.length := by
        have := (List.getElem?_eq_some_iff.mp e).1
        rw [List.length_append, List.length_singleton] at this
        omega
      subst e'
      rw [List.getElem?_append_right (Nat.le_refl _), Nat.sub_self] at e
      cases e
      refine ⟨p, ?_, lo, vs, o, hp, ho, d.adopt⟩
      rw [← r.len, List.getElem?_append_right (Nat.le_refl _), Nat.sub_self]
      rfl
  · rcases List.mem_append.mp y with y | y
    · exact (r.ex a (List.mem_cons_of_mem _ z)).2 y
    · exact ne (by rw [← List.mem_singleton.mp y]; exact z)
theorem XO.out {p : Addr} {x : Ex} {cls : Value} {oe : Option Addr} (h : XO { w with K := { w.K with ex := p :: w.K.ex } } L H x cls oe) : XO w L H x cls oe := by
  obtain ⟨h1, h⟩ := h
  refine ⟨h1, ?_⟩
  rcases h with h | ⟨d, vs, a, b, k, e⟩
  · exact .inl h
  · exact .inr ⟨d, vs, a, b, ⟨k.1, fun z => k.2 (List.mem_cons_of_mem _ z)⟩, e.out⟩
def eX (w : Xd) (W : WX) (fe : Env → Store → Out Rs.D) : TE := fun σ H Q => ∃ ex, ED { w with K := { w.K with ex := ex } } W fe σ H Q
theorem g_dct (O : COk w C W c X) (hx : w.K.xn = none) {k v : Expr} {pos : Pos} {fk fv : Env → Store → Out Rs.D} (hk : ∀ ex, PE X k (ED { w with K := { w.K with ex := ex } } W fk)) (hv : ∀ ex, PE X v (ED { w with K := { w.K with ex := ex } } W fv)) :
    PE X (.Dict [some k] [v] pos) (ED w W fun σ S => (fk σ S).bind fun a S => (fv σ S).bind fun b S => dctQ a b S) := by
  have hk' : PE X k (eX w W fk) := ⟨fun pins s σ H Q I ⟨ex, h⟩ => (hk ex).run pins s σ H Q I h⟩
  have hv' : PE X v (eX w W fv) := ⟨fun pins s σ H Q I ⟨ex, h⟩ => (hv ex).run pins s σ H Q I h⟩
  refine PE_imp (pe_dispN (by have := O.un; omega) hk' hv') fun σ H Q ⟨σd, S, L, er, r, h⟩ => ?_
  have h : EndR w (rD w) W σ L H Q ((fk σd S).bind fun a S => (fv σd S).bind fun b S => dctQ a b S) := h
  intro p np hs0
  have hp : p ∈ p :: w.K.ex := List.mem_cons_self
  have g0 : Gr L H L (upd H p (.ext (DRaw (fun k => k.hash X.w) p []))) := Gr.upd np
  have er' : ERel { w.K with ex := p :: w.K.ex } L (upd H p (.ext (DRaw (fun k => k.hash X.w) p []))) σd σ := ERel.mk_ (K := { w.K with ex := p :: w.K.ex }) hp (er.in_ np)
  have ne : p ∉ w.K.ex := fun z => by
    obtain ⟨⟨o, q⟩, _⟩ := r.ex p z
    rw [np] at q
    cases q
  refine ⟨p :: w.K.ex, σd, S, L, er', r.in_ np, ?_⟩
  cases q1 : fk σd S with
  | bad => rw [q1] at h; exact h.elim
  | exc x S1 =>
    rw [q1] at h
    exact fun cls oe L1 H1 g1 r1 x1 => h cls oe L1 H1 (g0.trans g1) r1.out x1.out
  | ok a S1 =>
    rw [q1] at h
    have h : EndR w (rD w) W σ L H Q ((fv σd S1).bind fun b S => dctQ a b S) := h
    intro x L1 H1 g1 r1 d1
    refine ⟨p :: w.K.ex, σd, S1, L1, er'.grow g1, r1, ?_⟩
    cases q2 : fv σd S1 with
    | bad => rw [q2] at h; exact h.elim
    | exc x S2 =>
      rw [q2] at h
      exact fun cls oe L2 H2 g2 r2 x2 => h cls oe L2 H2 ((g0.trans g1).trans g2) r2.out x2.out
    | ok b S2 =>
      rw [q2] at h
      have h : EndR w (rD w) W σ L H Q (dctQ a b S2) := h
      intro y L2 H2 g2 r2 d2
      have e1 := g1.to (r.notIn np) upd_same
      have e2 := g2.to (r1.ex p hp).2 e1
      refine ⟨e2, { w.K with ex := p :: w.K.ex }, L2, a, ?_⟩
      unfold dctQ at h
      split at h
      · rename_i c
        obtain ⟨l, rfl⟩ := isT_tup c.1
        have d1' : Den { w.K with ex := p :: w.K.ex } L2 H2 (.tup l) x := Den.grow g2 _ _ d1
        obtain ⟨b', ys, rfl, _, _, _⟩ := den_tup d1'
        refine ⟨b', rfl, c.2, d1', ?_⟩
        have g : Gr L H L2 H2 := (g0.trans g1).trans g2
        have g3 : Gr L H (L2 ++ [p]) (upd H2 p (.ext (DRaw (fun k => k.hash X.w) p [(keyD (.tup l), b', y)]))) := by
          refine ⟨g.pre.trans (List.prefix_append _ _), fun a o n nt e => ?_, fun a m n => ?_⟩
          · rw [upd_ne (ne_of_none e np)]
            exact g.fr a o n nt e
          · rcases List.mem_append.mp m with m | m
            · exact g.new a m n
            · rw [List.mem_singleton.mp m]
              exact new_none np
        have r3 : Rel { w.K with ex := p :: w.K.ex } L2 (upd H2 p (.ext (DRaw (fun k => k.hash X.w) p [(keyD (.tup l), b', y)]))) S2 := Rel.mk_ (K := { w.K with ex := p :: w.K.ex }) hp r2
        have dd : DenL { w.K with ex := p :: w.K.ex } L2 H2 [.tup l, b] [.ref b', y] := DenL.cons d1' (DenL.one d2)
        refine h _ (L2 ++ [p]) _ g3 (Rel.adoptM (mo := .dct [(.tup l, b)]) r3 upd_same ⟨hs0, by rw [sizeLine_eq]; exact (show 1 ≤ 16777216 by decide), [(keyD (.tup l), b', y)], by rw [O.hf], by simp, b', y, [], [], rfl, rfl, c.2, rfl, rfl⟩ ?_ (DenL.mk (K := { w.K with ex := p :: w.K.ex }) hp _ _ dd) ne (DenL.noX_ (K := { w.K with ex := p :: w.K.ex }) hx _ _ dd)) ?_
        · exact (den_lo r2.len).2 _ _ dd
        · show Den _ _ _ _ _
          rw [Den]
          exact ⟨p, rfl, by rw [← r2.len, List.getElem?_append_right (Nat.le_refl _), Nat.sub_self]; rfl⟩
      · exact h.elim
/-- a new list that is a thing of the store -/
theorem g_newL {e : Expr} {fe : Env → Store → Out Rs.D} (h : PE X e (EF w W fe)) (hl : ∀ σ S d S', fe σ S = .ok d S' → ∃ l, d = .lst l) : PE X e (ED w W fun σ S => (fe σ S).bind newQ) := by
  refine PE_imp h fun σ H Q ⟨σd, S, L, er, r, h⟩ => ⟨σd, S, L, er, r, ?_⟩
  have h : EndR w (rD w) W σ L H Q ((fe σd S).bind newQ) := h
  cases q : fe σd S with
  | ok d S' =>
    obtain ⟨l, rfl⟩ := hl _ _ _ _ q
    rw [q] at h
    have h : EndR w (rD w) W σ L H Q (.ok (.obj S'.length) (S' ++ [.lst l])) := h
    intro p L' H' g r' pre
    have hlen : L'.length = S'.length := by
      have := r'.len
      rw [List.length_append, List.length_append] at this
      simpa using this
    refine h _ (L' ++ [p]) H' g r' ?_
    show Den _ _ _ _ _
    rw [Den]
    exact ⟨p, rfl, by rw [← hlen, List.getElem?_append_right (Nat.le_refl _), Nat.sub_self]; rfl⟩
  | exc x S' => rw [q] at h; exact h
  | bad => rw [q] at h; exact h.elim
/-! ### assignments -/
def noCompB : Expr → Bool
  | .ListComp _ _ _ _ => false
  | .SetComp _ _ _ _ => false
  | .DictComp _ _ _ _ _ => false
  | _ => true
def isNm (sc : Scope) : Expr → Bool
  | .Name x _ => isPlainLoc sc x
  | _ => false
/-- not stored ahead of the block's end -/
def noSwB (sc : Scope) (tg e : Expr) : Bool := noCompB e || !isNm sc tg
/-- no stores from the right -/
def noParB (sc : Scope) : Expr → Expr → Bool
  | .Tuple ts _ _, .Tuple vs _ _ => vs.all (foldedForSure 8) || !(ts.length == 2 || ts.length == 3) || ts.any (fun t => !isNm sc t)
  | .List _ _, .Tuple _ _ _ => false
  | _, _ => true
theorem swF {e tg : Expr} {l : Nat} {env : PySem.Env} (h : noCompB e = true) : swapsWithSole [tg] e l env = pure false := by
  cases e <;> first | rfl | cases h
theorem swN {e : Expr} {l : Nat} {env : PySem.Env} (h : noCompB e = true) : swapsWith e none l env = pure false := by
  cases e <;> first | rfl | cases h
theorem kind_ne {sc : Scope} {env : PySem.Env} {x : Str} (hsc : env.scope = sc) (h : isPlainLoc sc x = false) : (env.kindOf x == some .local) = false := by
  unfold isPlainLoc at h
  unfold Env.kindOf
  rw [hsc]
  split at h
  · cases h
  · rename_i q
    cases hk : List.lookup x sc.names with
    | none => rfl
    | some k => cases k <;> first | rfl | exact (q hk).elim
theorem swF' {sc : Scope} {e tg : Expr} {l : Nat} {env : PySem.Env} (hsc : env.scope = sc) (h : noSwB sc tg e = true) : swapsWithSole [tg] e l env = pure false := by
  unfold noSwB at h
  rw [Bool.or_eq_true] at h
  rcases h with h | h
  · exact swF h
  · rw [Bool.not_eq_true'] at h
    cases tg with
    | Name x p =>
      have hk := kind_ne hsc h
      cases e <;> first
        | rfl
        | (show (pure (env.blockKind == .function && env.kindOf x == some .local && _ && _) : Sem Bool) = pure false
           rw [hk, Bool.and_false, Bool.false_and, Bool.false_and])
    | _ => cases e <;> rfl
theorem nm_len {sc : Scope} {env : PySem.Env} (hsc : env.scope = sc) {line : Nat} : ∀ {ts : List Expr}, ts.any (fun t => !isNm sc t) = true → (ts.filterMap fun
    | .Name id pos => if env.kindOf id == some .local && pos.line == line then some id else none
    | _ => none).length < ts.length
  | [], h => by cases h
  | t :: ts, h => by
    rw [List.any_cons, Bool.or_eq_true] at h
    have hle : ∀ (ts : List Expr), (ts.filterMap fun
      | .Name id pos => if env.kindOf id == some .local && pos.line == line then some id else none
      | _ => none).length ≤ ts.length := fun ts => List.length_filterMap_le _ _
    rw [List.filterMap_cons]
    rcases h with h | h
    · have : (match t with
        | .Name id pos => if env.kindOf id == some .local && pos.line == line then some id else none
        | _ => none) = none := by
        rw [Bool.not_eq_true'] at h
        cases t <;> first
          | rfl
          | (have hk := kind_ne hsc h
             dsimp only
             rw [hk]
             rfl)
      rw [this]
      exact Nat.lt_succ_of_le (hle ts)
    · have := nm_len hsc (line := line) h
      split
      · exact Nat.lt_succ_of_lt this
      · rw [List.length_cons, List.length_cons]
        omega
theorem swS {sc : Scope} {e tg : Expr} {env : PySem.Env} (hsc : env.scope = sc) (h : noParB sc tg e = true) : swappedStores [tg] e env = pure none := by
  cases tg <;> cases e <;> first | rfl | cases h | skip
  rename_i ts k p vs k' p'
  unfold noParB at h
  unfold swappedStores
  simp only [pure_bind]
  split
  · rfl
  · rename_i h1
    split
    · rfl
    · split
      · rfl
      · rename_i h3
        rw [Bool.or_eq_true, Bool.or_eq_true] at h
        rcases h with (h | h) | h
        · rw [if_pos h]
        · exfalso
          apply h1
          rw [h]
          rfl
        · exfalso
          apply h3
          have := nm_len hsc (line := (ts.head?.map (·.pos.line)).getD 0) h
          rw [Bool.or_eq_true]
          left
          simp only [bne_iff_ne, ne_eq]
          intro z
          exact absurd (Nat.lt_of_lt_of_eq this z.symm) (Nat.lt_irrefl _)
theorem s_set {sc : Scope} (hsc : X.env.scope = sc) {t : QT} {q : QE} {tg e : Expr} {pos : Pos} (he : PE X e (ED w W (ev C q))) (hg : PG X tg (gT w t)) (h1 : noSwB sc tg e = true) (h2 : noParB sc tg e = true) (h3 : isStar tg = false) :
    PS X (.Assign [tg] e pos) (TSq w W (ex C (.set t q))) := by
  refine PS_imp (ps_asg he hg (swF' hsc h1) (swS hsc h2) (by rw [asg_plain h3]; rfl)) fun D σ H ⟨σd, S, L, er, r, h⟩ => ?_
  rw [ex] at h
  refine ⟨σd, S, L, er, r, (EndS.go h er).imp fun x H1 ⟨a, S1, L1, g1, r1, d1, h1⟩ => ?_⟩
  split at h1
  · rename_i σ1 hq
    exact ⟨σd, L1, a, σ1, er.grow g1, d1, hq, fun σ' er' so => h1 σ' L1 H1 Gr.refl er' r1⟩
  · exact h1.elim
theorem EndF.imp {o : Out Rs.D} {Q Q' : VK} (h : EndF w W σ L H Q o) (i : ∀ y H', Q y H' → Q' y H') : EndF w W σ L H Q' o := by
  cases o with
  | ok d S' =>
    cases d with
    | lst l => exact fun p L' H' g r pre => i _ _ (h p L' H' g r pre)
    | _ => exact h
  | exc x S' => exact h
  | bad => exact h
/-- a new list, kept as one that nobody writes / as a thing of the store -/
theorem s_setF {i : Nat} {q : QE} {st : Stmt} (hs : PS X st (tAsg (EF w W (ev C q)) (gName i))) (hl : ∀ σ S d S', ev C q σ S = .ok d S' → ∃ l, d = .lst l) : PS X st (TSq w W (ex C (.set (.nm i) q))) := by
  refine PS_imp hs fun D σ H ⟨σd, S, L, er, r, h⟩ => ?_
  rw [ex] at h
  refine ⟨σd, S, L, er, r, ?_⟩
  have h := EndS.goF h er (hl σd S)
  refine EndF.imp h fun y H1 ⟨l, S1, L1, p, e, g, r1, pre, h1⟩ => ?_
  subst e
  obtain ⟨a, b, d⟩ := frozen g r1 pre
  rw [assignT] at h1
  exact h1 _ L1 H1 a ((er.grow a).set i d) b
theorem s_setM {i : Nat} {q : QE} {st : Stmt} (hs : PS X st (tAsg (EF w W (ev C q)) (gName i))) (hl : ∀ σ S d S', ev C q σ S = .ok d S' → ∃ l, d = .lst l) : PS X st (TSq w W (ex C (.setM i q))) := by
  refine PS_imp hs fun D σ H ⟨σd, S, L, er, r, h⟩ => ?_
  rw [ex] at h
  refine ⟨σd, S, L, er, r, ?_⟩
  have h := EndS.goF h er (hl σd S)
  refine EndF.imp h fun y H1 ⟨l, S1, L1, p, e, g, r1, pre, h1⟩ => ?_
  subst e
  have hlen : L1.length = S1.length := by
    have := r1.len
    rw [List.length_append, List.length_append] at this
    simpa using this
  refine h1 _ _ H1 g ((er.grow g).set i ?_) r1
  rw [Den]
  exact ⟨p, rfl, by rw [← hlen, List.getElem?_append_right (Nat.le_refl _), Nat.sub_self]; rfl⟩
theorem s_retM {q : QE} {e : Expr} {pos : Pos} (hs : PE X e (EF w W (ev C q))) (hl : ∀ σ S d S', ev C q σ S = .ok d S' → ∃ l, d = .lst l) : PS X (.Return (some e) pos) (TSq w W (ex C (.retM q))) := by
  refine PS_imp (ps_ret hs) fun D σ H ⟨σd, S, L, er, r, h⟩ => ?_
  rw [ex] at h
  refine ⟨σd, S, L, er, r, ?_⟩
  have h := EndS.goF h er (hl σd S)
  refine EndF.imp h fun y H1 ⟨l, S1, L1, p, e, g, r1, pre, h1⟩ => ?_
  subst e
  have hlen : L1.length = S1.length := by
    have := r1.len
    rw [List.length_append, List.length_append] at this
    simpa using this
  refine h1 _ _ H1 g r1 ?_
  rw [Den]
  exact ⟨p, rfl, by rw [← hlen, List.getElem?_append_right (Nat.le_refl _), Nat.sub_self]; rfl⟩
/-- x = a thing, new or not -/
theorem s_setN {i : Nat} {x : Str} {e : Expr} {p pos : Pos} {fe : Env → Store → Out Rs.D} {sc : Scope} (hsc : X.env.scope = sc) (he : PE X e (ED w W fe)) (hg : PG X (.Name x p) (gT w (.nm i))) (h1 : noSwB sc (.Name x p) e = true) (h2 : noParB sc (.Name x p) e = true) :
    PS X (.Assign [.Name x p] e pos) (TSq w W fun σ S => (fe σ S).go σ fun d S => .nx (σ.set i (some d)) S) := by
  refine PS_imp (ps_asg he hg (swF' hsc h1) (swS hsc h2) (by rw [asg_plain rfl]; rfl)) fun D σ H ⟨σd, S, L, er, r, h⟩ => ?_
  refine ⟨σd, S, L, er, r, (EndS.go h er).imp fun x H1 ⟨a, S1, L1, g1, r1, d1, h1⟩ => ?_⟩
  exact ⟨σd, L1, a, σd.set i (some a), er.grow g1, d1, rfl, fun σ' er' so => h1 σ' L1 H1 Gr.refl er' r1⟩
/-! several names at once -/
def parOk (ts vs : List Expr) (line : Nat) : Bool := !(vs.any fun | .Starred .. => true | _ => false) && !vs.all (foldedForSure 8) && !vs.all (constantsAlone 8) && ts.all fun t => t.pos.line == line
theorem par_names {env : PySem.Env} {line : Nat} {sc : Scope} (hsc : env.scope = sc) : ∀ {ts : List Expr} {xs : List Str}, (ts.all fun t => t.pos.line == line) = true → (ts.map fun t => match t with
    | .Name x _ => some x
    | _ => none) = xs.map some → xs.all (isPlainLoc sc) = true → (ts.filterMap fun
    | .Name id pos => if env.kindOf id == some .local && pos.line == line then some id else none
    | _ => none) = xs
  | [], [], _, _, _ => rfl
  | [], _ :: _, _, h, _ => by cases h
  | _ :: _, [], _, h, _ => by cases h
  | t :: ts, x :: xs, h1, h2, h3 => by
    rw [List.all_cons, Bool.and_eq_true] at h1 h3
    rw [List.map_cons, List.map_cons, List.cons.injEq] at h2
    cases t <;> try (cases h2.1; done)
    rename_i y p
    have e : y = x := Option.some.inj h2.1
    subst e
    have hk : (env.kindOf y == some .local) = true := by
      have := h3.1
      unfold isPlainLoc at this
      unfold Env.kindOf
      rw [hsc]
      split at this
      · rename_i q
        rw [q]
        rfl
      · cases this
    rw [List.filterMap_cons]
    simp only [hk, show (p.line == line) = true from h1.1, Bool.and_self, if_true]
    rw [par_names hsc h1.2 h2.2 h3.2]
theorem par_sw {ts vs : List Expr} {xs : List Str} {k k2 : Nat} {p p2 : Pos} {env : PySem.Env} {sc : Scope} (hsc : env.scope = sc) (hk : sc.kind = .function) (hl : (ts.length == 2 || ts.length == 3) = true) (hv : vs.length = ts.length)
    (h : parOk ts vs ((ts.head?.map (·.pos.line)).getD 0) = true) (hn : (ts.map fun t => match t with
    | .Name x _ => some x
    | _ => none) = xs.map some) (hx : xs.all (isPlainLoc sc) = true) (nd : xs.eraseDups.length = xs.length) :
    swappedStores [.Tuple ts k p] (.Tuple vs k2 p2) env = pure (some xs) := by
  unfold parOk at h
  simp only [Bool.and_eq_true, Bool.not_eq_true'] at h
  obtain ⟨⟨⟨h1, h2⟩, h3⟩, h4⟩ := h
  have hb : (env.blockKind != .function) = false := by
    unfold Env.blockKind
    rw [hsc, hk]
    rfl
  have hlx : xs.length = ts.length := by
    have := congrArg List.length hn
    rw [List.length_map, List.length_map] at this
    exact this.symm
  unfold swappedStores
  simp only [pure_bind]
  rw [if_neg (by rw [hl, hv, hb]; simp)]
  refine (if_neg fun z => absurd (h1.symm.trans z) Bool.false_ne_true).trans ?_
  generalize hg : List.filterMap _ ts = g
  have e : g = xs := hg.symm.trans (par_names hsc h4 hn hx)
  subst e
  rw [if_neg (by rw [hlx, ← hlx, nd]; simp)]
  rw [if_neg (by rw [h2]; exact Bool.false_ne_true), if_neg (by rw [h3]; exact Bool.false_ne_true)]
/-- the names of plain targets, by their slots -/
theorem s_par2 (O : COk w C W c X) (hh : c.hot = false) {i j : Nat} {x y : Str} {a b : Expr} {fs : Env → Store → Out (List Rs.D)} {px py pt pos pt2 : Pos} {kt k2 : Nat} (hi : c.N[i]? = some x) (hj : c.N[j]? = some y) (hij : i ≠ j) (hx : isPlainLoc c.sc x = true) (hy : isPlainLoc c.sc y = true)
    (hk : c.sc.kind = .function) (hp : parOk [.Name x px, .Name y py] [a, b] px.line = true) (nd : [x, y].eraseDups.length = 2) (ha : PA X [a, b] (ELs w W fs)) :
    PS X (.Assign [.Tuple [.Name x px, .Name y py] kt pt] (.Tuple [a, b] k2 pt2) pos) (TSq w W fun σ S => (fs σ S).go σ fun xs S => if xs.length = [i, j].length then .nx (setAll σ [i, j] xs) S else .bad) := by
  have lx : ∀ z, isPlainLoc c.sc z = true → X.env.scope.names.lookup z = some .local := fun z h => by
    unfold isPlainLoc at h
    rw [O.sc]
    split at h
    · assumption
    · cases h
  refine PS_imp (ps_par (O.calm hh) O.nd (by rw [O.N]; exact hi) (by rw [O.N]; exact hj) hij (lx x hx) (lx y hy) ha (par_sw O.sc hk rfl rfl hp rfl (by simp [hx, hy]) nd)) fun D σ H ⟨σd, S, L, er, r, h⟩ => ?_
  refine ⟨σd, S, L, er, r, (EndS.go h er).imp fun vs H1 ⟨ds, S1, L1, g1, r1, d1, h1⟩ => ?_⟩
  have d1 : DenL w.K L1 H1 ds vs := d1
  split at h1
  · rename_i hl
    match ds, hl, d1, h1 with
    | [d, e], _, d1, h1 =>
      rw [DenL] at d1
      obtain ⟨v, _, rfl, dv, d2⟩ := d1
      obtain ⟨u, rfl, du⟩ := denL1 d2
      refine ⟨v, u, rfl, ?_⟩
      exact h1 _ L1 H1 Gr.refl (((er.grow g1).set i dv).set j du) r1
  · exact h1.elim
theorem s_par3 (O : COk w C W c X) (hh : c.hot = false) {i j l : Nat} {x y z : Str} {a b d : Expr} {fs : Env → Store → Out (List Rs.D)} {px py pz pt pos pt2 : Pos} {kt k2 : Nat} (hi : c.N[i]? = some x) (hj : c.N[j]? = some y) (hl : c.N[l]? = some z) (hij : i ≠ j) (hil : i ≠ l) (hjl : j ≠ l) (hx : isPlainLoc c.sc x = true) (hy : isPlainLoc c.sc y = true) (hz : isPlainLoc c.sc z = true)
    (hk : c.sc.kind = .function) (hp : parOk [.Name x px, .Name y py, .Name z pz] [a, b, d] px.line = true) (nd : [x, y, z].eraseDups.length = 3) (ha : PA X [a, b, d] (ELs w W fs)) :
    PS X (.Assign [.Tuple [.Name x px, .Name y py, .Name z pz] kt pt] (.Tuple [a, b, d] k2 pt2) pos) (TSq w W fun σ S => (fs σ S).go σ fun xs S => if xs.length = [i, j, l].length then .nx (setAll σ [i, j, l] xs) S else .bad) := by
  have lx : ∀ z, isPlainLoc c.sc z = true → X.env.scope.names.lookup z = some .local := fun z h => by
    unfold isPlainLoc at h
    rw [O.sc]
    split at h
    · assumption
    · cases h
  refine PS_imp (ps_par3 (O.calm hh) O.nd (by rw [O.N]; exact hi) (by rw [O.N]; exact hj) (by rw [O.N]; exact hl) hij hil hjl (lx x hx) (lx y hy) (lx z hz) ha (par_sw O.sc hk rfl rfl hp rfl (by simp [hx, hy, hz]) nd)) fun D σ H ⟨σd, S, L, er, r, h⟩ => ?_
  refine ⟨σd, S, L, er, r, (EndS.go h er).imp fun vs H1 ⟨ds, S1, L1, g1, r1, d1, h1⟩ => ?_⟩
  have d1 : DenL w.K L1 H1 ds vs := d1
  split at h1
  · rename_i hl
    match ds, hl, d1, h1 with
    | [d, e, f], _, d1, h1 =>
      rw [DenL] at d1
      obtain ⟨v, _, rfl, dv, d2⟩ := d1
      rw [DenL] at d2
      obtain ⟨u, _, rfl, du, d3⟩ := d2
      obtain ⟨t, rfl, dt⟩ := denL1 d3
      refine ⟨v, u, t, rfl, ?_⟩
      exact h1 _ L1 H1 Gr.refl ((((er.grow g1).set i dv).set j du).set l dt) r1
  · exact h1.elim
/-! small statements -/
theorem s_aug (O : COk w C W c X) {i : Nat} {x : Str} {e : Expr} {q : QE} {o : Op2} {op : Operator} {p pos : Pos} (hi : c.N[i]? = some x) (hx : isLoc c.sc x = true) (ho : (o = .add ∧ op = .Add) ∨ (o = .sub ∧ op = .Sub)) (has : c.asg = none) (he : PE X e (ED w W (ev C q))) :
    PS X (.AugAssign (.Name x p) op e pos) (TSq w W (ex C (.aug i o q))) := by
  have hf := O.as x hx (by rw [has])
  have go : ∀ f : Int → Int → Int, PIp X op (ipI f) → ∀ D σ H, (∃ σd S L, ERel w.K L H σd σ ∧ Rel w.K L H S ∧ ∃ d, σd[i]? = some (some d) ∧ EndS w W L H D ((ev C q σd S).go σd fun y S => match d, y with
      | .int a, .int b => .nx (σd.set i (some (.int (f a b)))) S
      | _, _ => .bad)) → tAug i (ED w W (ev C q)) (ipI f) D σ H := by
    intro f hp D σ H ⟨σd, S, L, er, r, d, hd, h⟩
    obtain ⟨v, hv, dv⟩ := er.at_ i d hd
    refine ⟨v, hv, σd, S, L, er, r, (EndS.go h er).imp fun y H1 ⟨a, S1, L1, g1, r1, d1, h1⟩ => ?_⟩
    split at h1
    · rename_i a b
      cases of_i dv
      cases of_i d1
      exact ⟨_, _, rfl, rfl, h1 _ L1 H1 Gr.refl ((er.grow g1).set i den_i) r1⟩
    · exact h1.elim
  rcases ho with ⟨rfl, rfl⟩ | ⟨rfl, rfl⟩
  · refine PS_imp (ps_aug O.nd (by rw [O.N]; exact hi) (O.loc hx) he ip_add hf) fun D σ H ⟨σd, S, L, er, r, h⟩ => go _ ip_add D σ H ⟨σd, S, L, er, r, ?_⟩
    rw [ex] at h
    split at h
    · rename_i d hd
      refine ⟨d, hd, ?_⟩
      cases hq : ev C q σd S with
      | ok y S1 =>
        rw [hq] at h
        cases d <;> first | exact h.elim | (cases y <;> first | exact h.elim | exact h)
      | exc x S1 => rw [hq] at h; exact h
      | bad => rw [hq] at h; exact h
    · exact h.elim
  · refine PS_imp (ps_aug O.nd (by rw [O.N]; exact hi) (O.loc hx) he ip_sub hf) fun D σ H ⟨σd, S, L, er, r, h⟩ => go _ ip_sub D σ H ⟨σd, S, L, er, r, ?_⟩
    rw [ex] at h
    split at h
    · rename_i d hd
      refine ⟨d, hd, ?_⟩
      cases hq : ev C q σd S with
      | ok y S1 =>
        rw [hq] at h
        cases d <;> first | exact h.elim | (cases y <;> first | exact h.elim | exact h)
      | exc x S1 => rw [hq] at h; exact h
      | bad => rw [hq] at h; exact h
    · exact h.elim
/-- o[i] = v, by values -/
def rSb (w : Xd) : TSet := fun o i v H Q => ∃ L S d k e S', Rel w.K L H S ∧ Den w.K L H d o ∧ Den w.K L H k i ∧ Den w.K L H e v ∧ subD d k e S = some S' ∧ ∀ H', Gr L H L H' → Rel w.K L H' S' → Q H'
theorem flatK_append : ∀ {a b : List (Rs.D × Rs.D)}, flatK (a ++ b) = flatK a ++ flatK b
  | [], b => rfl
  | p :: a, b => by rw [List.cons_append, flatK, flatK, flatK_append]; rfl
theorem row_len : ∀ {kvs : List (Rs.D × Rs.D)} {xs : List V} {fs : List (NestedKey × Addr × V)}, DRow kvs xs fs → kvs.length = fs.length
  | [], xs, fs, h => by
    obtain ⟨_, rfl⟩ := h
    rfl
  | p :: r, xs, fs, h => by
    obtain ⟨b, vv, ys, gs, rfl, rfl, ok, hr⟩ := h
    rw [List.length_cons, List.length_cons, row_len hr]
theorem row_snoc {k e : Rs.D} {b : Addr} {v : V} (ok : keyOk k 8 = true) : ∀ {kvs : List (Rs.D × Rs.D)} {xs : List V} {fs : List (NestedKey × Addr × V)}, DRow kvs xs fs → DRow (kvs ++ [(k, e)]) (xs ++ [.ref b, v]) (fs ++ [(keyD k, b, v)])
  | [], xs, fs, h => by
    obtain ⟨rfl, rfl⟩ := h
    exact ⟨b, v, [], [], rfl, rfl, ok, rfl, rfl⟩
  | p :: r, xs, fs, h => by
    obtain ⟨b', vv, ys, gs, rfl, rfl, ok', hr⟩ := h
    exact ⟨b', vv, _, _, rfl, rfl, ok', row_snoc ok hr⟩
mutual
theorem key_lo {n : Nat} : ∀ {d : Rs.D} {k : Nat}, keyOk d k = true → d.lo n = true
  | .non, _, _ => rfl
  | .int _, _, _ => rfl
  | .str _, _, _ => rfl
  | .tup l, 0, h => by simp [keyOk] at h
  | .tup l, k + 1, h => by
    rw [keyOk] at h
    rw [D.lo]
    exact keys_lo h
  | .bl b, k, h => rfl
  | .lst _, k, h => by simp [keyOk] at h
  | .scr _, k, h => by simp [keyOk] at h
  | .obj _, k, h => by simp [keyOk] at h
  | .box _ _, k, h => by simp [keyOk] at h
  | .exn _ _, k, h => by simp [keyOk] at h
theorem keys_lo {n : Nat} : ∀ {l : List Rs.D} {k : Nat}, keyOkL l k = true → loL n l = true
  | [], _, _ => rfl
  | d :: l, k, h => by
    rw [keyOkL, Bool.and_eq_true] at h
    rw [loL, key_lo h.1, keys_lo h.2]
    rfl
end
theorem atF_none {k : NestedKey} : ∀ {fs : List (NestedKey × Addr × V)}, atF fs k = none → k ∉ fs.map (·.1)
  | [], _, h => by cases h
  | p :: fs, h, m => by
    unfold atF at h
    rw [List.find?_cons] at h
    by_cases e : p.1 = k
    · rw [decide_eq_true e] at h
      cases h
    · rw [decide_eq_false e] at h
      rcases List.mem_cons.mp m with m | m
      · exact e m.symm
      · exact atF_none (fs := fs) h m
theorem set_sub (hx : w.K.xn = none) (hF : w.K.hf = fun k => k.hash X.w) (hu : X.A.units + 65 < cLine) : PSet X (rSb w) := by
  intro pins s σ H o i v ov iv u Q I ro ri rv ⟨L, S, d, k, e, S', r, hd, hk, he, h, q⟩
  unfold subD at h
  split at h
  rotate_left
  · rename_i j m
    split at h
    · rename_i kvs eS
      split at h
      · rename_i c
        obtain ⟨c1, c2, c3, c4⟩ := c
        cases h
        obtain ⟨p, xs, fs, rfl, hp, e1, hsys, hl, nd, row, dr, lo⟩ := r.dct hd eS
        obtain ⟨pb, ys, rfl, _, _, _⟩ := den_tup hk
        cases ro
        cases ri
        rw [hF] at e1
        have gk := row_get c1 row dr
        rw [Option.isNone_iff_eq_none.mp c2] at gk
        have gk : atF fs (keyD (.tup m)) = none := gk
        refine n_setNew (by omega) I e1 nd (row_keys I row dr) (key_is I c1 hk rfl) gk (by rw [← row_len row]; omega) rv fun s' I' => ⟨_, I', q _ (Gr.write (List.mem_of_getElem? hp)) ?_⟩
        have g : Gr L H L (upd H p (.ext (DRaw (fun k => k.hash X.w) p (fs ++ [(keyD (.tup m), pb, v)])))) := Gr.write (List.mem_of_getElem? hp)
        refine r.write hp ⟨?_, xs ++ [.ref pb, v], _, upd_same, ⟨hsys, by rw [List.length_append]; exact c3, fs ++ [(keyD (.tup m), pb, v)], by rw [hF], ?_, row_snoc c1 row⟩, ?_⟩ (by
          show noXL (flatK (kvs ++ [(.tup m, e)])) = true
          rw [flatK_append]
          exact DenL.noX_ hx _ _ (dr.append (DenL.cons hk (DenL.one he))))
        · show loL j (flatK (kvs ++ [(.tup m, e)])) = true
          rw [flatK_append]
          exact loL_append lo (by rw [flatK, flatK, loL, loL, loL, key_lo c1, c4]; rfl)
        · rw [List.map_append]
          refine List.nodup_append.mpr ⟨nd, by simp, fun a ha b hb z => ?_⟩
          simp only [List.map_cons, List.map_nil, List.mem_singleton] at hb
          subst z
          subst hb
          exact atF_none gk ha
        · show DenL _ _ _ (flatK (kvs ++ [(.tup m, e)])) _
          rw [flatK_append]
          exact (dr.grow g).append (DenL.cons (Den.grow g _ _ hk) (DenL.one (Den.grow g _ _ he)))
      · cases h
    · cases h
  · cases h
  refine set_list pins s σ H o i v ov iv u Q I ro ri rv ?_
  · rename_i j k
    split at h
    · rename_i l hl
      split at h
      · rename_i n hn
        split at h
        · rename_i hlo
          cases h
          obtain ⟨p, xs, rfl, hp, h1, h2, lo⟩ := r.obj hd hl
          cases of_i hk
          refine ⟨p, xs, k, n, rfl, rfl, h1, by rw [← h2.length]; exact hn, q _ (Gr.write (List.mem_of_getElem? hp)) ?_⟩
          have g : Gr L H L (upd H p (.lst (xs.set n v))) := Gr.write (List.mem_of_getElem? hp)
          exact r.write hp (MOk.of_lst ⟨loL_set hlo n lo, _, upd_same, (h2.set n he).grow g⟩) (DenL.noX_ hx _ _ (h2.set n he))
        · cases h
      · cases h
    · cases h
def notSl : Expr → Bool
  | .Slice _ _ _ _ => false
  | _ => true
theorem s_sub (O : COk w C W c X) (hh : c.hot = false) {a i e : Expr} {qa qi qe : QE} {tp pos : Pos} (ha : PE X a (ED w W (ev C qa))) (hi : PE X i (ED w W (ev C qi))) (he : PE X e (ED w W (ev C qe))) (h1 : noCompB e = true) (hix : notSl i = true) : PS X (.Assign [.Subscript a i tp] e pos) (TSq w W (ex C (.sub qa qi qe))) := by
  have hasg : ∀ v, assign (.Subscript a i tp) X.env v = (do
      let ov ← holding [v] (eval a X.env)
      let iv ← holding [v, ov] (eval i X.env)
      standAt tp
      holding [v, ov, iv] (setItem ov iv v)
      release [v, ov, iv] []) := fun v => by cases i <;> first | rfl | cases hix
  refine PS_imp (ps_asg he (pg_sub (pos := tp) ha hi (set_sub (w := w) (O.xn hh) O.hf O.un) hasg) (swF h1) (swS rfl (by cases e <;> rfl))) fun D σ H ⟨σd, S, L, er, r, h⟩ => ?_
  rw [ex] at h
  refine ⟨σd, S, L, er, r, (EndS.go h er).imp fun v H1 ⟨dv, S1, L1, g1, r1, d1, h1⟩ => ?_⟩
  refine ⟨σd, S1, L1, er.grow g1, r1, (EndS.go h1 (er.grow g1)).imp fun o H2 ⟨do_, S2, L2, g2, r2, d2, h2⟩ => ?_⟩
  refine ⟨σd, S2, L2, (er.grow g1).grow g2, r2, (EndS.go h2 ((er.grow g1).grow g2)).imp fun k H3 ⟨dk, S3, L3, g3, r3, d3, h3⟩ => ?_⟩
  split at h3
  · rename_i S4 hq
    exact ⟨L3, S3, do_, dk, dv, S4, r3, d2.grow g3, d3, (d1.grow g2).grow g3, hq, fun H' g r' => h3 σ L3 H' g ((((er.grow g1).grow g2).grow g3).grow g) r'⟩
  · exact h3.elim
theorem s_expr {e : Expr} {q : QE} {pos : Pos} (he : PE X e (ED w W (ev C q))) (h1 : noCompB e = true) : PS X (.Expr e pos) (TSq w W (ex C (.expr q))) := by
  refine PS_imp (ps_expr he (swN h1)) fun D σ H ⟨σd, S, L, er, r, h⟩ => ?_
  rw [ex] at h
  exact ⟨σd, S, L, er, r, (EndS.go h er).imp fun v H1 ⟨dv, S1, L1, g1, r1, d1, h1⟩ => h1 σ L1 H1 Gr.refl (er.grow g1) r1⟩
theorem s_ret {e : Expr} {q : QE} {pos : Pos} (he : PE X e (ED w W (ev C q))) : PS X (.Return (some e) pos) (TSq w W (ex C (.ret q))) := by
  refine PS_imp (ps_ret he) fun D σ H ⟨σd, S, L, er, r, h⟩ => ?_
  rw [ex] at h
  exact ⟨σd, S, L, er, r, (EndS.go h er).imp fun v H1 ⟨dv, S1, L1, g1, r1, d1, h1⟩ => h1 v L1 H1 Gr.refl r1 d1⟩
theorem s_if {t : Expr} {a b : List Stmt} {q : QE} {qa qb : List QS} {pos : Pos} (ht : PT X t (EB w W (ev C q))) (ha : PSs X a (TSq w W (exs C qa))) (hb : PSs X b (TSq w W (exs C qb))) : PS X (.If t a b pos) (TSq w W (ex C (.ife q qa qb))) := by
  refine PS_imp (ps_if ht ha hb) fun D σ H ⟨σd, S, L, er, r, h⟩ => ?_
  rw [ex] at h
  refine ⟨σd, S, L, er, r, (EndS.go h er).imp fun k H1 ⟨k', S1, L1, g1, r1, d1, h1⟩ => ?_⟩
  rw [show k = k' from d1]
  cases k' with
  | true => exact ⟨σd, S1, L1, er.grow g1, r1, h1⟩
  | false => exact ⟨σd, S1, L1, er.grow g1, r1, h1⟩
theorem s_pass {pos : Pos} : PS X (.Pass pos) (TSq w W (ex C .pass)) := PS_imp ps_pass fun D σ H ⟨σd, S, L, er, r, h⟩ => by
  rw [ex] at h
  exact h σ L H Gr.refl er r
theorem s_brk {pos : Pos} : PS X (.Break pos) (TSq w W (ex C .brk)) := PS_imp ps_break fun D σ H ⟨σd, S, L, er, r, h⟩ => by
  rw [ex] at h
  exact h σ L H Gr.refl er r
theorem s_cnt {pos : Pos} : PS X (.Continue pos) (TSq w W (ex C .cnt)) := PS_imp ps_continue fun D σ H ⟨σd, S, L, er, r, h⟩ => by
  rw [ex] at h
  exact h σ L H Gr.refl er r
theorem s_never {st : Stmt} : PS X st (TSq w W (ex C .never)) := PS_imp ps_never fun D σ H ⟨σd, S, L, er, r, h⟩ => by
  rw [ex] at h
  exact h.elim
theorem s_nil : PSs X [] (TSq w W (exs C [])) := PSs_imp pss_nil fun D σ H ⟨σd, S, L, er, r, h⟩ => by
  rw [exs] at h
  exact h σ L H Gr.refl er r
theorem s_cons {st : Stmt} {sts : List Stmt} {q : QS} {qs : List QS} (h1 : PS X st (TSq w W (ex C q))) (h2 : PSs X sts (TSq w W (exs C qs))) : PSs X (st :: sts) (TSq w W (exs C (q :: qs))) := by
  refine PSs_imp (pss_cons h1 h2) fun D σ H ⟨σd, S, L, er, r, h⟩ => ?_
  rw [exs] at h
  refine ⟨σd, S, L, er, r, ?_⟩
  cases hq : ex C q σd S with
  | nx σ1 S1 =>
    rw [hq] at h
    exact fun σ' L' H' g er' r' => ⟨σ1, S1, L', er', r', EndS.grow h g⟩
  | rt d S1 => rw [hq] at h; exact h
  | bk σ1 S1 => rw [hq] at h; exact h
  | ct σ1 S1 => rw [hq] at h; exact h
  | exc x σ1 S1 => rw [hq] at h; exact h
  | bad => rw [hq] at h; exact h
end
end Rs

namespace Rs
open PySem PySem.Spec PyProof.Rows L2
/-! ### what leaves the store as it is -/
mutual
def QE.pureQ : QE → Bool
  | .var _ => true
  | .con _ => true
  | .neg a => a.pureQ
  | .not a => a.pureQ
  | .bin _ a b => a.pureQ && b.pureQ
  | .cmp _ a b => a.pureQ && b.pureQ
  | .and a b => a.pureQ && b.pureQ
  | .or a b => a.pureQ && b.pureQ
  | .ife c a b => c.pureQ && a.pureQ && b.pureQ
  | .idx a b => a.pureQ && b.pureQ
  | .tup es => es.pureQs
  | .lst es => es.pureQs
  | .bi _ es => es.pureQs
  | .isi a _ => a.pureQ
  | .isx a _ => a.pureQ
  | .fld a _ => a.pureQ
  | .tru _ a => a.pureQ
  | .hc _ es => es.pureQs
  | _ => false
def QEs.pureQs : QEs → Bool
  | .nil => true
  | .cons e es => e.pureQ && es.pureQs
  | .star _ _ => false
end
mutual
def QS.pureS : QS → Bool
  | .set _ e => e.pureQ
  | .ret e => e.pureQ
  | .expr e => e.pureQ
  | .ife c a b => c.pureQ && pureSs a && pureSs b
  | .pass => true
  | _ => false
def pureSs : List QS → Bool
  | [] => true
  | s :: ss => s.pureS && pureSs ss
end
section
variable {C : CallT} {σ : Env} {S S' : Store}
theorem pu_bind_ok {α β : Type} {o : Out α} {f : α → Store → Out β} {b : β} (h : o.bind f = .ok b S') : ∃ a S1, o = .ok a S1 ∧ f a S1 = .ok b S' := by
  cases o with
  | ok a S1 => exact ⟨a, S1, rfl, h⟩
  | exc x S1 => cases h
  | bad => cases h
theorem pu_ofO_ok {α : Type} {o : Option α} {a : α} (h : ofO o S = .ok a S') : S' = S := by
  cases o with
  | none => cases h
  | some b =>
    cases h
    rfl
theorem pu_okB_ok {o : Out D} {b : Bool} (h : okB o = .ok b S') : o = .ok (.bl b) S' := by
  cases o with
  | ok d S1 =>
    cases d <;> first
      | (cases h; rfl)
      | cases h
  | exc x S1 => cases h
  | bad => cases h
theorem pu_ite_ok {α : Type} {c : Prop} [Decidable c] {a b : α} (h : (if c then Out.ok a S else .bad) = .ok b S') : S' = S := by
  split at h
  · cases h
    rfl
  · cases h
mutual
theorem ev_pure : ∀ (q : QE) {σ : Env} {S S' : Store} {d : D}, q.pureQ = true → ev C q σ S = .ok d S' → S' = S
  | .var i, σ, S, S', d, _, h => by
    rw [ev] at h
    split at h
    · cases h
      rfl
    · cases h
  | .con k, σ, S, S', d, _, h => by
    rw [ev] at h
    cases h
    rfl
  | .neg a, σ, S, S', d, p, h => by
    rw [ev] at h
    obtain ⟨x, S1, h1, h2⟩ := pu_bind_ok h
    rw [QE.pureQ] at p
    have e := ev_pure a p h1
    cases x <;> first
      | (cases h2; exact e)
      | cases h2
  | .not a, σ, S, S', d, p, h => by
    rw [ev] at h
    obtain ⟨x, S1, h1, h2⟩ := pu_bind_ok h
    rw [QE.pureQ] at p
    have e := ev_pure a p (pu_okB_ok h1)
    cases h2
    exact e
  | .bin o a b, σ, S, S', d, p, h => by
    rw [ev] at h
    rw [QE.pureQ, Bool.and_eq_true] at p
    obtain ⟨x, S1, h1, h2⟩ := pu_bind_ok h
    obtain ⟨y, S2, h3, h4⟩ := pu_bind_ok h2
    rw [pu_ofO_ok h4, ev_pure b p.2 h3, ev_pure a p.1 h1]
  | .cmp o a b, σ, S, S', d, p, h => by
    rw [ev] at h
    rw [QE.pureQ, Bool.and_eq_true] at p
    obtain ⟨x, S1, h1, h2⟩ := pu_bind_ok h
    obtain ⟨y, S2, h3, h4⟩ := pu_bind_ok h2
    rw [pu_ofO_ok h4, ev_pure b p.2 h3, ev_pure a p.1 h1]
  | .and a b, σ, S, S', d, p, h => by
    rw [ev] at h
    rw [QE.pureQ, Bool.and_eq_true] at p
    obtain ⟨x, S1, h1, h2⟩ := pu_bind_ok h
    have e := ev_pure a p.1 (pu_okB_ok h1)
    split at h2
    · rw [ev_pure b p.2 h2, e]
    · cases h2
      exact e
  | .or a b, σ, S, S', d, p, h => by
    rw [ev] at h
    rw [QE.pureQ, Bool.and_eq_true] at p
    obtain ⟨x, S1, h1, h2⟩ := pu_bind_ok h
    have e := ev_pure a p.1 (pu_okB_ok h1)
    split at h2
    · cases h2
      exact e
    · rw [ev_pure b p.2 h2, e]
  | .ife c a b, σ, S, S', d, p, h => by
    rw [ev] at h
    rw [QE.pureQ, Bool.and_eq_true, Bool.and_eq_true] at p
    obtain ⟨x, S1, h1, h2⟩ := pu_bind_ok h
    have e := ev_pure c p.1.1 (pu_okB_ok h1)
    split at h2
    · rw [ev_pure a p.1.2 h2, e]
    · rw [ev_pure b p.2 h2, e]
  | .idx a b, σ, S, S', d, p, h => by
    rw [ev] at h
    rw [QE.pureQ, Bool.and_eq_true] at p
    obtain ⟨x, S1, h1, h2⟩ := pu_bind_ok h
    obtain ⟨y, S2, h3, h4⟩ := pu_bind_ok h2
    rw [pu_ofO_ok h4, ev_pure b p.2 h3, ev_pure a p.1 h1]
  | .tup es, σ, S, S', d, p, h => by
    rw [ev] at h
    rw [QE.pureQ] at p
    obtain ⟨x, S1, h1, h2⟩ := pu_bind_ok h
    rw [pu_ite_ok h2, evs_pure es p h1]
  | .lst es, σ, S, S', d, p, h => by
    rw [ev] at h
    rw [QE.pureQ] at p
    obtain ⟨x, S1, h1, h2⟩ := pu_bind_ok h
    rw [pu_ite_ok h2, evs_pure es p h1]
  | .bi b es, σ, S, S', d, p, h => by
    rw [ev] at h
    rw [QE.pureQ] at p
    obtain ⟨x, S1, h1, h2⟩ := pu_bind_ok h
    rw [pu_ofO_ok h2, evs_pure es p h1]
  | .isi a t, σ, S, S', d, p, h => by
    rw [ev] at h
    rw [QE.pureQ] at p
    obtain ⟨x, S1, h1, h2⟩ := pu_bind_ok h
    rw [pu_ofO_ok h2, ev_pure a p h1]
  | .isx a k, σ, S, S', d, p, h => by
    rw [ev] at h
    rw [QE.pureQ] at p
    obtain ⟨x, S1, h1, h2⟩ := pu_bind_ok h
    have e := ev_pure a p h1
    cases x <;> first
      | (cases h2; exact e)
      | cases h2
  | .fld a f, σ, S, S', d, p, h => by
    rw [ev] at h
    rw [QE.pureQ] at p
    obtain ⟨x, S1, h1, h2⟩ := pu_bind_ok h
    have e := ev_pure a p h1
    cases x <;> first
      | (rw [pu_ofO_ok h2]; exact e)
      | cases h2
  | .tru ix a, σ, S, S', d, p, h => by
    rw [ev] at h
    rw [QE.pureQ] at p
    obtain ⟨x, S1, h1, h2⟩ := pu_bind_ok h
    rw [pu_ofO_ok h2, ev_pure a p h1]
  | .chn _ _ _ _ _, _, _, _, _, p, _ => by simp [QE.pureQ] at p
  | .slc _ _ _, _, _, _, _, p, _ => by simp [QE.pureQ] at p
  | .rev _, _, _, _, _, p, _ => by simp [QE.pureQ] at p
  | .odd _, _, _, _, _, p, _ => by simp [QE.pureQ] at p
  | .call _ _, _, _, _, _, p, _ => by simp [QE.pureQ] at p
  | .mth _ _ _, _, _, _, _, p, _ => by simp [QE.pureQ] at p
  | .comp _ _ _ _, _, _, _, _, p, _ => by simp [QE.pureQ] at p
  | .compO _ _ _ _, _, _, _, _, p, _ => by simp [QE.pureQ] at p
  | .srt _, _, _, _, _, p, _ => by simp [QE.pureQ] at p
  | .lrg _ _, _, _, _, _, p, _ => by simp [QE.pureQ] at p
  | .thk, _, _, _, _, p, _ => by simp [QE.pureQ] at p
  | .said _ _ _, _, _, _, _, p, _ => by simp [QE.pureQ] at p
  | .hc _ es, σ, S, S', d, p, h => by
    rw [ev] at h
    rw [QE.pureQ] at p
    obtain ⟨x, S1, h1, h2⟩ := pu_bind_ok h
    rw [pu_ofO_ok h2, evs_pure es p h1]
  | .no, _, _, _, _, p, _ => by simp [QE.pureQ] at p
theorem evs_pure : ∀ (q : QEs) {σ : Env} {S S' : Store} {l : List D}, q.pureQs = true → evs C q σ S = .ok l S' → S' = S
  | .nil, σ, S, S', l, _, h => by
    rw [evs] at h
    cases h
    rfl
  | .cons e es, σ, S, S', l, p, h => by
    rw [evs] at h
    rw [QEs.pureQs, Bool.and_eq_true] at p
    obtain ⟨x, S1, h1, h2⟩ := pu_bind_ok h
    obtain ⟨y, S2, h3, h4⟩ := pu_bind_ok h2
    cases h4
    rw [evs_pure es p.2 h3, ev_pure e p.1 h1]
  | .star _ _, _, _, _, _, p, _ => by simp [QEs.pureQs] at p
end
theorem go_nx {α : Type} {o : Out α} {f : α → Store → Flow} {r : Flow} (h : o.go σ f = r) (hn : ∀ x σ S, r ≠ .exc x σ S) (hb : r ≠ .bad) : ∃ a S1, o = .ok a S1 ∧ f a S1 = r := by
  cases o with
  | ok a S1 => exact ⟨a, S1, rfl, h⟩
  | exc x S1 => exact (hn x σ S1 h.symm).elim
  | bad => exact (hb h.symm).elim
/-- a flow that leaves the store S -/
def Flow.keeps (S : Store) : Flow → Prop
  | .nx _ S' => S' = S
  | .rt _ S' => S' = S
  | .bk _ _ => False
  | .ct _ _ => False
  | .exc _ _ _ => True
  | .bad => True
theorem go_keeps {α : Type} {o : Out α} {f : α → Store → Flow} (h : ∀ a S1, o = .ok a S1 → (f a S1).keeps S) : (o.go σ f).keeps S := by
  cases o with
  | ok a S1 => exact h a S1 rfl
  | exc x S1 => trivial
  | bad => trivial
mutual
theorem ex_pure : ∀ (q : QS) (σ : Env) (S : Store), q.pureS = true → (ex C q σ S).keeps S
  | .set t e, σ, S, p => by
    rw [ex]
    rw [QS.pureS] at p
    refine go_keeps fun a S1 h => ?_
    have := ev_pure e p h
    subst this
    cases q : assignT t a σ <;> trivial
  | .ret e, σ, S, p => by
    rw [ex]
    rw [QS.pureS] at p
    refine go_keeps fun a S1 h => ?_
    exact ev_pure e p h
  | .expr e, σ, S, p => by
    rw [ex]
    rw [QS.pureS] at p
    refine go_keeps fun a S1 h => ?_
    exact ev_pure e p h
  | .ife c a b, σ, S, p => by
    rw [ex]
    rw [QS.pureS, Bool.and_eq_true, Bool.and_eq_true] at p
    refine go_keeps fun k S1 h => ?_
    have := ev_pure c p.1.1 (pu_okB_ok h)
    subst this
    cases k with
    | true => exact exs_pure a σ _ p.1.2
    | false => exact exs_pure b σ _ p.2
  | .pass, σ, S, _ => by
    rw [ex]
    rfl
  | .setN _ _, _, _, p => by simp [QS.pureS] at p
  | .parN _ _, _, _, p => by simp [QS.pureS] at p
  | .setM _ _, _, _, p => by simp [QS.pureS] at p
  | .par _ _, _, _, p => by simp [QS.pureS] at p
  | .aug _ _ _, _, _, p => by simp [QS.pureS] at p
  | .sub _ _ _, _, _, p => by simp [QS.pureS] at p
  | .retM _, _, _, p => by simp [QS.pureS] at p
  | .for_ _ _ _ _, _, _, p => by simp [QS.pureS] at p
  | .whl _ _ _, _, _, p => by simp [QS.pureS] at p
  | .brk, _, _, p => by simp [QS.pureS] at p
  | .cnt, _, _, p => by simp [QS.pureS] at p
  | .never, _, _, p => by simp [QS.pureS] at p
  | .mtch _ _, _, _, p => by simp [QS.pureS] at p
  | .raise _ _, _, _, p => by simp [QS.pureS] at p
  | .try_ _ _, _, _, p => by simp [QS.pureS] at p
theorem exs_pure : ∀ (q : List QS) (σ : Env) (S : Store), pureSs q = true → (exs C q σ S).keeps S
  | [], σ, S, _ => by
    rw [exs]
    rfl
  | s :: ss, σ, S, p => by
    rw [exs]
    rw [pureSs, Bool.and_eq_true] at p
    have h := ex_pure s σ S p.1
    cases q : ex C s σ S with
    | nx σ1 S1 =>
      rw [q] at h
      have : S1 = S := h
      subst this
      exact exs_pure ss σ1 _ p.2
    | rt d S1 => rw [q] at h; exact h
    | bk _ _ => rw [q] at h; exact h
    | ct _ _ => rw [q] at h; exact h
    | exc _ _ _ => trivial
    | bad => trivial
end
end
end Rs

namespace Rs
open PySem PySem.Spec PyProof.Rows L2
/-! ### raise, try -/
theorem hotNo {b k : Bool} (h : b = true → k = true) (e : k = false) : b = false := by
  cases b with
  | false => rfl
  | true =>
    rw [h rfl] at e
    cases e
/-- the context of a def's statements -/
structure Est (X : Cx) : Prop where
  st : X.stack = X.env :: X.outer
  fr : X.env.frame = some X.env.locals
section
variable {w : Xd} {C : CallT} {W W' : WX} {c : Cc} {X : Cx} {σ : L2.St} {σd : Env} {L L1 : List Addr} {H H1 : Hp} {S : Store} {D : Ends}
theorem Est.tr {pn : List (Addr × Obj)} {xe : Value → Shared → Prop} (h : Est X) : Est (X.tr pn xe) := ⟨h.st, h.fr⟩
theorem Est.suite {a : Addr} {pn : List (Addr × Obj)} (h : Est X) : Est (X.suite a pn) := ⟨h.st, h.fr⟩
theorem s_raise (O : COk w C W c X) (hh : c.hot = false) {k j : Nat} (hs : c.rs.contains k = true) {x m : Str} {p p2 pos pos2 : Pos} (h2 : isGl c.sc x = true) (h3 : x = excS k) (h4 : 1 ≤ k) (h5 : k < 14) :
    PS X (.Raise (some (.Call (.Name x p) [.Constant (.str m) j p2] [] pos)) none pos2) (TSq w W (ex C (.raise k .nil))) := by
  obtain ⟨Ck, e1, f2, e2, e3, e4, e5⟩ := (O.rf k hs).ok
  have dbg : (x == ("__debug__" : Str)) = false := by
    rw [h3]
    have : ∀ k, k < 16 → (excS k == ("__debug__" : Str)) = false := by decide +kernel
    exact this k (by omega)
  refine PS_imp (L2.ps_raise (O.calm hh) O.tk (pmk_own PySem.F.excBase_ValueError e2 (by rw [h3]; exact f2) e3 (raises_own e4 e5) (O.gl h2) dbg)) fun D σ H ⟨σd, S, L, er, r, h⟩ => ?_
  rw [ex, evs] at h
  have hl : ([] : List Rs.D).length = (nmX k).length := by
    have : ∀ k, k < 14 → (nmX k).length = 0 := by decide +kernel
    rw [this k h5]
    rfl
  have h : EndS w W L H D (if ([] : List Rs.D).length = (nmX k).length ∧ k < 16 then .exc ⟨k, []⟩ σd S else .bad) := h
  rw [if_pos ⟨hl, by omega⟩] at h
  exact h σ (.ref Ck) none L H Gr.refl er r ⟨⟨by show k < 16; omega, e1.symm, rfl⟩, .inl ⟨rfl, rfl⟩⟩
theorem s_raise14 (O : COk w C W c X) (hh : c.hot = false) (hs : c.xs = true) (hl : c.lm = false) {q : QE} {e1 : Expr} {x : Str} {p pos pos2 : Pos} (h2 : isGl c.sc x = true) (h3 : x = excS 14) (hA : PA X [e1] (ELs w W (evs C (.cons q .nil)))) (hst : isStar e1 = false) :
    PS X (.Raise (some (.Call (.Name x p) [e1] [] pos)) none pos2) (TSq w W (ex C (.raise 14 (.cons q .nil)))) := by
  have F := O.xf hs
  obtain ⟨Cn, c1, ⟨fI, fd, ps, T, iC, tI, hb, F1⟩⟩ := F.ns
  obtain ⟨Ck, f1, f2, _⟩ := F.own 14 (by omega)
  rw [c1] at f1
  cases f1
  have dbg : (x == ("__debug__" : Str)) = false := by
    rw [h3]
    decide +kernel
  refine PS_imp (L2.ps_raise (O.calm hh) O.tk (pmk_oex (CX := L2.CX X.prog X.w) T iC tI (F1 X.w X.base _ C.lv) (O.r2 hh hl) hb .nil (fun pins σ H s e s' I h => by
    obtain ⟨_, _, _, _, _, _, _, _, _, _, _, _, z⟩ := h
    exact z.elim) (O.gl h2) (by rw [h3]; exact f2) hA dbg (star_plain hst) (plain_all (es := []) rfl))) fun D σ H ⟨σd, S, L, er, r, h⟩ => ?_
  rw [ex] at h
  refine ⟨σd, S, L, er, r, (EndS.go h er).imp fun vs H1 ⟨ds, S1, L1, g1, r1, d1, h1⟩ => ?_⟩
  have d1 : DenL w.K L1 H1 ds vs := d1
  split at h1
  · rename_i hlen
    have hlen : ds.length = 1 := hlen.1
    match ds, hlen, d1, h1 with
    | [d], _, d1, h1 =>
      obtain ⟨v, rfl, dv⟩ := denL1 d1
      refine ⟨by simp, fun a ha => ⟨a, v, rfl, upd_same, fun dx hdx nda => ⟨rfl, dx, [("field", v)], upd_same, by rw [upd_ne nda, upd_same], ?_, ?_⟩⟩⟩
      · rw [upd_ne nda] at hdx
        exact hdx
      · have hdx1 : H1 dx = none := by
          rw [upd_ne nda] at hdx
          exact hdx
        have keep : ∀ b o, H1 b = some o → L2.upd (del (L2.upd (L2.upd (L2.upd H1 a (exo a Cn none)) dx (exd dx [("field", v)])) a (exo a Cn (some dx))) a) dx (.xd [("field", v)]) b = some o := fun b o e => by
          have nb : b ≠ a := fun z => by rw [z, ha] at e; cases e
          have nd : b ≠ dx := fun z => by rw [z, hdx1] at e; cases e
          rw [upd_ne nd, del_ne nb, upd_ne nb, upd_ne nd, upd_ne nb]
          exact e
        have g2 : Gr L1 H1 L1 (L2.upd (del (L2.upd (L2.upd (L2.upd H1 a (exo a Cn none)) dx (exd dx [("field", v)])) a (exo a Cn (some dx))) a) dx (.xd [("field", v)])) := ⟨List.prefix_refl _, fun b o _ _ e => keep b o e, fun b m n => absurd m n⟩
        refine h1 σ (.ref Cn) (some dx) L1 _ g2 ((er.grow g1).grow g2) (r1.keep keep) ⟨⟨by show 14 < 16; omega, c1.symm, DenL.noX_ (O.xn hh) _ _ d1⟩, .inr ⟨dx, [v], rfl, upd_same, r1.free hdx1, d1.grow g2⟩⟩
  · exact h1.elim
theorem COk.tr (O : COk w C W c X) (pn : List (Addr × Obj)) (xe : Value → Shared → Prop) (tk : Takes (X.tr pn xe) W') (hx : c.hot = false ∨ c.th = true) : COk w C W' c (X.tr pn xe) where
  sc := O.sc
  N := O.N
  nd := O.nd
  calm := O.calm
  K := O.K
  hf := O.hf
  un := O.un
  gd := O.gd
  tk := tk
  bl := O.bl
  con := O.con
  rm := O.rm
  rh := O.rh
  rf := O.rf
  r2 := O.r2
  fh := fun hs k x h => ⟨(O.fh hs k x h).ok⟩
  sd := fun z => ⟨(O.sd z).1, fun k x h cap th S n => ⟨((O.sd z).2 k x h cap th S n).ok⟩⟩
  fn := fun hh k x h => ⟨(O.fn hh k x h).ok⟩
  xf := O.xf
  hx := fun z y => by
    rcases hx with h | h
    · rw [z] at h; cases h
    · rw [y] at h; cases h
  thh := O.thh
  th := fun z pn' xe' W2 x p1 p2 tk2 => O.th z pn' xe' W2 x p1 p2 tk2
  xn := O.xn
  tb := O.tb
  as := O.as
/-- the Xd of a suite -/
def Xd.sui (w : Xd) (a : Addr) (k : Nat) (d : Option Addr) : Xd := { w with K := { w.K with xn := some { a := a, c := k, d := d } } }
theorem COk.suite (O : COk w C W c X) (hs : c.xs = true) {a : Addr} {oe : Obj} {cls : Value} {d : Option Addr} (pn : List (Addr × Obj)) (k : Nat) (hz : Zc cls d oe) (hv : ∃ vs, oe.data = .fields vs) (hk : k < 16) (hc : cls = w.xc k) :
    COk (w.sui a k d) C (fun _ _ _ _ => False) { c with hot := true, th := false, ti := none } (X.suite a ((a, oe) :: pn)) where
  sc := O.sc
  N := O.N
  nd := O.nd
  calm := fun z => by cases z
  K := O.K
  hf := O.hf
  un := O.un
  gd := O.gd
  tk := LamX.takes0
  bl := O.bl
  con := O.con
  rm := fun z => by cases z
  rh := ⟨O.rh.dp, O.rh.un⟩
  rf := O.rf
  r2 := fun z => by cases z
  fh := fun hs k x h => ⟨(O.fh hs k x h).ok⟩
  sd := fun z => by cases z
  fn := fun z => by cases z
  xf := O.xf
  hx := fun _ _ => ⟨{ a := a, c := k, d := d }, oe, rfl, List.mem_cons_self, (by show Zc (w.xc k) d oe; rw [← hc]; exact hz), hv, hk⟩
  thh := fun z => by cases z
  th := fun z => by cases z
  xn := fun z => by cases z
  tb := fun ti z => by cases z
  as := O.as
/-- the clauses' readings -/
def clsTs (w : Xd) (C : CallT) (b : List QS) : Addr → Value → Option Addr → TS := fun a cls d D σ H => ∃ k, k < 16 ∧ cls = w.xc k ∧ TSq (w.sui a k d) (fun _ _ _ _ => False) (exs C b) D σ H
def clsOf (w : Xd) (C : CallT) : QHs → List ClT
  | .nil => []
  | .cons k i b hs => (w.xc k, if i < 1000 then some i else none, clsTs w C b) :: clsOf w C hs
theorem try_cons (O : COk w C W c X) (hs : c.xs = true) {k i : Nat} {b : List QS} {qh : QHs} {x : Str} {on : Option Str} {st : Stmt} {sts : List Stmt} {p1 p2 : Pos} {es : List ExceptHandler} (h1 : isGl c.sc x = true) (h2 : k < 16) (h3 : x = excS k)
    (h4 : (match on with
      | none => decide (1000 ≤ i)
      | some n => decide (c.N[i]? = some n ∧ i < 1000) && isPlainLoc c.sc n) = true)
    (su : ∀ (a : Addr) (oe : Obj) (cls : Value) (d : Option Addr) (pn : List (Addr × Obj)) (k : Nat), Zc cls d oe → (∃ vs, oe.data = .fields vs) → k < 16 → cls = w.xc k → PSs (X.suite a ((a, oe) :: pn)) (st :: sts) (TSq (w.sui a k d) (fun _ _ _ _ => False) (exs C b)))
    (r : TryCl X es (clsOf w C qh)) : TryCl X (.ExceptHandler (some (.Name x p1)) on (st :: sts) p2 :: es) (clsOf w C (.cons k i b qh)) := by
  obtain ⟨Ck, f1, f2, _⟩ := (O.xf hs).own k h2
  have dbg : (x == ("__debug__" : Str)) = false := by
    rw [h3]
    have : ∀ k, k < 16 → (excS k == ("__debug__" : Str)) = false := by decide +kernel
    exact this k h2
  rw [clsOf, f1]
  refine .cons ⟨O.gl h1, dbg, .inl (by rw [h3]; exact f2)⟩ ?_ (fun a oe cls d pn hz hv => ?_) r
  · cases on with
    | none =>
      have : ¬ i < 1000 := Nat.not_lt.mpr (of_decide_eq_true h4)
      rw [if_neg this]
      trivial
    | some n =>
      have h4 : (decide (c.N[i]? = some n ∧ i < 1000) && isPlainLoc c.sc n) = true := h4
      rw [Bool.and_eq_true, decide_eq_true_eq] at h4
      rw [if_pos h4.1.2]
      refine ⟨by rw [O.N]; exact h4.1.1, ?_⟩
      have hl := h4.2
      unfold isPlainLoc at hl
      show X.env.scope.names.lookup n = _
      rw [O.sc]
      split at hl
      · assumption
      · cases hl
  · exact ⟨fun pins s σ H D I ⟨k', hk, hc, q⟩ => (su a oe cls d pn k' hz hv hk hc).run pins s σ H D I q⟩
theorem ERel.clr {K : KX} {xn : Option XN} (r : ERel K L H σd σ) : ERel { K with xn := xn } L H (σd.map clrX) σ := by
  refine ⟨by rw [List.length_map, r.len], fun i d e => ?_⟩
  rw [List.getElem?_map] at e
  cases q : σd[i]? with
  | none => rw [q] at e; cases e
  | some o =>
    rw [q] at e
    cases o with
    | none => cases e
    | some d' =>
      have e : (if d'.noX = true then some d' else none) = some d := Option.some.inj e
      split at e
      · rename_i hn
        cases e
        obtain ⟨v, e1, h⟩ := r.at_ i d q
        exact ⟨v, e1, Den.sw d v hn h⟩
      · cases e
def QHs.okH : QHs → Bool
  | .nil => true
  | .cons k _ b hs => decide (k < 16) && pureSs b && hs.okH
theorem wcl_of (F : XF X.prog X.K X.mg w.xc) {D : Ends} {x : Ex} {σ1 : Env} {S1 : Store} {σ' : L2.St} {cls : Value} {oe : Option Addr} {L' : List Addr} {H' : Hp} (g : Gr L H L' H') (er : ERel w.K L' H' σ1 σ') (r : Rel w.K L' H' S1) (xo : XO w L' H' x cls oe) :
    ∀ (hs : QHs), hs.okH = true → EndS w W L H D (exh C hs x σ1 S1) → wCl X.K W D (clsOf w C hs) cls oe σ' H'
  | .nil, _, h => by
    rw [exh] at h
    exact h σ' cls oe L' H' g er r xo
  | .cons k i b hs, hp, h => by
    rw [QHs.okH, Bool.and_eq_true, Bool.and_eq_true, decide_eq_true_eq] at hp
    obtain ⟨⟨x1, x2, x3⟩, x4⟩ := xo
    rw [clsOf]
    refine ⟨subX x.cls k, by rw [x2]; exact F.exm _ _ x1 hp.1.1, fun hb a ha => ?_, fun hb => ?_⟩
    · rw [exh, if_pos hb] at h
      have dx : Den (w.sui a x.cls oe).K L' H' (.exn x.cls x.fs) (.ref a) := by
        rw [Den]
        rcases x4 with ⟨z1, z2⟩ | ⟨d, vs, z1, z2, z3, z4⟩
        · refine ⟨{ a := a, c := x.cls, d := oe }, [], rfl, ⟨rfl, rfl⟩, ?_, .inl ⟨z2, z1⟩⟩
          rw [z1]
          exact DenL.nil
        · refine ⟨{ a := a, c := x.cls, d := oe }, vs, rfl, ⟨rfl, rfl⟩, DenL.sw _ vs x3 z4, .inr ⟨d, _, z1, z2, ?_, z3⟩⟩
          unfold ExO
          rw [if_neg (by show ¬ x.cls = 99; omega)]
      have e1 : ERel (w.sui a x.cls oe).K L' H' (if i < 1000 then (σ1.map clrX).set i (some (.exn x.cls x.fs)) else σ1.map clrX) (setO (if i < 1000 then some i else none) a σ') := by
        have e0 : ERel (w.sui a x.cls oe).K L' H' (σ1.map clrX) σ' := er.clr
        by_cases hi : i < 1000
        · rw [if_pos hi, if_pos hi]
          exact e0.set i dx
        · rw [if_neg hi, if_neg hi]
          exact e0
      refine ⟨x.cls, x1, x2, _, S1, L', e1, r.sw, ?_⟩
      have pu := exs_pure (C := C) b (if i < 1000 then (σ1.map clrX).set i (some (.exn x.cls x.fs)) else σ1.map clrX) S1 hp.1.2
      cases q : exs C b (if i < 1000 then (σ1.map clrX).set i (some (.exn x.cls x.fs)) else σ1.map clrX) S1 with
      | rt d S2 =>
        rw [q] at h pu
        have pu : S2 = S1 := pu
        subst pu
        have h : EndS w W L H D (if d.noX = true then .rt d S2 else .bad) := h
        split at h
        · rename_i hn
          exact fun v L2 H2 g2 r2 dv => h v L2 H2 (g.trans g2) (Rel.sw (K := (w.sui a x.cls oe).K) (xn := w.K.xn) r2) (Den.sw (K := (w.sui a x.cls oe).K) (xn := w.K.xn) d v hn dv)
        · exact h.elim
      | nx _ _ => rw [q] at h; exact h.elim
      | bk _ _ => rw [q] at h; exact h.elim
      | ct _ _ => rw [q] at h; exact h.elim
      | exc _ _ _ => rw [q] at h; exact h.elim
      | bad => rw [q] at h; exact h.elim
    · rw [exh, if_neg (by rw [hb]; exact Bool.false_ne_true)] at h
      exact wcl_of F g er r ⟨⟨x1, x2, x3⟩, x4⟩ hs hp.2 h
theorem s_try (O : COk w C W c X) (es_ : Est X) (hs : c.xs = true) {b : List QS} {q : QHs} {body : List Stmt} {h1 : ExceptHandler} {hds : List ExceptHandler} {pos : Pos} (hq : q.okH = true)
    (hb : ∀ (W' : WX) (pn : List (Addr × Obj)) (xe : Value → Shared → Prop), Takes (X.tr pn xe) W' → PassesOwn (model X.prog X.w) X.A X.env xe → PSs (X.tr pn xe) body (TSq w W' (exs C b))) (hc : TryCl X (h1 :: hds) (clsOf w C q)) :
    PS X (.Try body (h1 :: hds) [] [] pos) (TSq w W (ex C (.try_ b q))) := by
  refine PS_imp (ps_try_cl (tb := fun W' => TSq w W' (exs C b)) es_.st es_.fr O.nd O.tk hb hc) fun D σ H ⟨σd, S, L, er, r, h⟩ => ?_
  rw [ex] at h
  refine ⟨σd, S, L, er, r, ?_⟩
  cases p : exs C b σd S with
  | exc x σ1 S1 =>
    rw [p] at h
    exact fun σ' cls oe L' H' g er' r' xo => wcl_of (O.xf hs) g er' r' xo q hq h
  | nx σ1 S1 => rw [p] at h; exact h
  | rt d S1 => rw [p] at h; exact h
  | bk σ1 S1 => rw [p] at h; exact h
  | ct σ1 S1 => rw [p] at h; exact h
  | bad => rw [p] at h; exact h
end
end Rs

namespace Rs
open PySem PySem.Spec PyProof.Rows L2
section
variable {w : Xd} {C : CallT} {W : WX} {c : Cc} {X : Cx} {σ : L2.St} {σd : Env} {L L1 : List Addr} {H H1 : Hp} {S : Store} {D : Ends}
theorem ERel.wipeD_ {K : KX} (r : ERel K L H σd σ) : ∀ is : List Nat, ERel K L H (wipeD σd is) σ
  | [] => r
  | i :: is => by
    rw [wipeD]
    exact (r.wipeD_ is).wipe1 i
theorem ERel.cut {K : KX} (r : ERel K L H σd σ) {n : Nat} (h : σd.all (fun o => match o with
    | some d => d.lo n
    | none => true) = true) : ERel K (L.take n) H σd σ := ⟨r.len, fun i d e => by
  obtain ⟨v, e1, hv⟩ := r.at_ i d e
  have := List.all_eq_true.mp h _ (List.mem_of_getElem? e)
  exact ⟨v, e1, hv.cut d v this⟩⟩
theorem frz_cases {n k : Nat} {d : Rs.D} (e : frz n S (some (.obj k)) = some d) : d = .obj k ∨ ∃ l, S[k]? = some (.lst l) ∧ n ≤ k ∧ loL n l = true ∧ d = .lst l := by
  simp only [frz] at e
  by_cases hk : n ≤ k
  · rw [if_pos hk] at e
    cases q : S[k]? with
    | none =>
      rw [q] at e
      exact .inl (Option.some.inj e).symm
    | some mo =>
      cases mo with
      | dct l =>
        rw [q] at e
        exact .inl (Option.some.inj e).symm
      | box kb l =>
        rw [q] at e
        exact .inl (Option.some.inj e).symm
      | lst l =>
        rw [q] at e
        dsimp only at e
        by_cases hl : loL n l = true
        · rw [if_pos hl] at e
          exact .inr ⟨l, rfl, hk, hl, (Option.some.inj e).symm⟩
        · rw [if_neg hl] at e
          exact .inl (Option.some.inj e).symm
  · rw [if_neg hk] at e
    exact .inl (Option.some.inj e).symm
theorem ERel.frz_ {K : KX} (r : ERel K L H σd σ) (rs : Rel K L H S) {n : Nat} (h : allLo n (σd.map (frz n S)) = true) : ERel K (L.take n) H (σd.map (frz n S)) σ := ⟨by rw [List.length_map, r.len], fun i d e => by
  have lo := List.all_eq_true.mp h _ (List.mem_of_getElem? e)
  rw [List.getElem?_map] at e
  cases q : σd[i]? with
  | none => rw [q] at e; cases e
  | some o =>
    rw [q] at e
    have e : frz n S o = some d := Option.some.inj e
    cases o with
    | none => cases e
    | some d0 =>
      obtain ⟨v, e1, hv⟩ := r.at_ i d0 q
      refine ⟨v, e1, ?_⟩
      have plain : d0 = d → Den K (L.take n) H d v := fun z => by
        subst z
        exact hv.cut _ v lo
      cases d0 with
      | obj k =>
        rcases frz_cases e with z | ⟨l, ql, hk, hl, z⟩
        · exact plain z.symm
        · subst z
          obtain ⟨a, xs, rfl, ha, h1, h2, _⟩ := rs.obj hv ql
          rw [Den]
          refine ⟨a, xs, rfl, h1, ⟨fun z => ?_, fun z => (rs.ex a z).2 (List.mem_of_getElem? ha)⟩, DenL.cut l xs hl h2⟩
          obtain ⟨j, hj, ej⟩ := List.mem_iff_getElem.mp z
          rw [List.length_take] at hj
          rw [List.getElem_take] at ej
          have := nodup_at rs.nd (i := j) (j := k) (a := a) (by rw [List.getElem?_eq_getElem (by omega), ej]) ha
          omega
      | _ => exact plain (Option.some.inj e)⟩
/-- a turn's end -/
theorem turn_end {L0 : List Addr} {H0 : Hp} {n : Nat} {is : List Nat} (hn : L0.length = n) (g : Gr L0 H0 L H) (er : ERel w.K L H σd σ) (r : Rel w.K L H S) :
    ∃ L', Gr L0 H0 L' H ∧ ERel w.K L' H (turnEnd n is σd S).1 σ ∧ Rel w.K L' H (turnEnd n is σd S).2 := by
  have e1 := er.wipeD_ is
  unfold turnEnd
  dsimp only
  split
  · rename_i h
    have eL : L.take n = L0 := by
      rw [← hn]
      exact (List.prefix_iff_eq_take.mp g.pre).symm
    have h1 := e1.cut (n := n) h
    have h2 := r.cut n
    rw [eL] at h1 h2
    exact ⟨L0, g.cut, h1, h2⟩
  · split
    · rename_i h
      have eL : L.take n = L0 := by
        rw [← hn]
        exact (List.prefix_iff_eq_take.mp g.pre).symm
      have h1 := e1.frz_ r h
      have h2 := r.cut n
      rw [eL] at h1 h2
      exact ⟨L0, g.cut, h1, h2⟩
    · exact ⟨L, g, e1, r⟩
theorem s_for (O : COk w C W c X) (hh : c.hot = false) (po : PassesOwn (model X.prog X.w) X.A X.env X.xe) {t : QT} {qi : QI} {is : List Nat} {b : List QS} {tg iter : Expr} {body : List Stmt} {pos : Pos}
    (hi : PI X tg iter (EI w W (evI C qi))) (hg : PG X tg (gT w t)) (hb : PSs X body (TSq w W (exs C b))) (hs : ∀ x, foldedSetIterable iter X.env x = pure x) :
    PS X (.For tg iter body [] pos) (TSq w W (ex C (.for_ t qi is b))) := by
  refine PS_imp (ps_for po (O.calm hh) hi hg hb hs) fun D σ H ⟨σd, S, L, er, r, h⟩ => ?_
  rw [ex] at h
  refine ⟨σd, S, L, er, r, (EndS.go h er).imp fun J H1 ⟨xs, S1, L1, g1, r1, wk, h1⟩ => ?_⟩
  have wk : Wk w.K J xs L1 H1 := wk
  let f : Rs.D → Env → Store → Rs.Flow := fun x σ S => match assignT t x σ with
    | some σ => exs C b σ S
    | none => .bad
  have h1 : EndS w W L1 H1 D (forL is S1.length f xs σd S1) := h1
  have hn : L1.length = S1.length := r1.len
  let G : Hp → Prop := fun H => ∃ L, Gr L1 H1 L H
  have walk : Walk J xs.length G J.yld := ⟨fun i H hi ⟨L, g⟩ => wk.goes i L H hi g, fun H ⟨L, g⟩ => wk.stops L H g, fun i H x H' _ _ y => y⟩
  let Pv : Nat → L2.St → Hp → Prop := fun i σ H => ∃ σd S L, Gr L1 H1 L H ∧ ERel w.K L H σd σ ∧ Rel w.K L H S ∧ EndS w W L1 H1 D (forL is S1.length f (xs.drop i) σd S)
  refine for_it walk Pv ⟨σd, S1, L1, Gr.refl, er.grow g1, r1, h1⟩ (fun i σ H _ ⟨_, _, L, g, _⟩ => ⟨L, g⟩) ?_ ?_
  · intro i x σ2 H2 H3 hi ⟨σd2, S2, L2, g2, er2, r2, h2⟩ y
    have hx : xs[i]? = some xs[i] := List.getElem?_eq_getElem hi
    obtain ⟨kp, g3, r3, dx⟩ := wk.yields i xs[i] L2 H2 S2 x H3 w.K.ex (fun a z => .inl z) hx g2 r2 y
    rw [List.drop_eq_getElem_cons hi, forL] at h2
    cases q : assignT t xs[i] σd2 with
    | none =>
      have : f xs[i] σd2 S2 = .bad := by
        show (match assignT t xs[i] σd2 with
          | some σ => exs C b σ S2
          | none => .bad) = .bad
        rw [q]
      rw [this] at h2
      exact h2.elim
    | some σ1 =>
      have ef : f xs[i] σd2 S2 = exs C b σ1 S2 := by
        show (match assignT t xs[i] σd2 with
          | some σ => exs C b σ S2
          | none => .bad) = _
        rw [q]
      rw [ef] at h2
      refine ⟨σd2, L2, xs[i], σ1, er2.grow g3, dx, q, fun σ' er' so => ⟨σ1, S2, L2, er', r3, ?_⟩⟩
      have g23 := g2.trans g3
      cases hq : exs C b σ1 S2 with
      | nx σ4 S4 =>
        rw [hq] at h2
        intro σ5 L5 H5 g5 er5 r5
        obtain ⟨L6, g6, e6, r6⟩ := turn_end (is := is) hn (g23.trans g5) er5 r5
        exact ⟨_, _, L6, g6, e6, r6, h2⟩
      | ct σ4 S4 =>
        rw [hq] at h2
        intro σ5 L5 H5 g5 er5 r5
        obtain ⟨L6, g6, e6, r6⟩ := turn_end (is := is) hn (g23.trans g5) er5 r5
        exact ⟨_, _, L6, g6, e6, r6, h2⟩
      | bk σ4 S4 =>
        rw [hq] at h2
        exact fun σ5 L5 H5 g5 er5 r5 => h2 σ5 L5 H5 (g23.trans g5) er5 r5
      | rt d S4 =>
        rw [hq] at h2
        exact fun v L5 H5 g5 r5 d5 => h2 v L5 H5 (g23.trans g5) r5 d5
      | exc x σ4 S4 =>
        rw [hq] at h2
        exact fun σ5 cls oe L5 H5 g5 er5 r5 x5 => h2 σ5 cls oe L5 H5 (g23.trans g5) er5 r5 x5
      | bad =>
        rw [hq] at h2
        exact h2
  · intro σ2 H2 ⟨σd2, S2, L2, g2, er2, r2, h2⟩
    rw [List.drop_length, forL] at h2
    exact h2 σ2 L2 H2 g2 er2 r2
theorem s_whl (O : COk w C W c X) (po : PassesOwn (model X.prog X.w) X.A X.env X.xe) {q : QE} {is : List Nat} {b : List QS} {t : Expr} {body : List Stmt} {pos : Pos}
    (ht : PT X t (EB w W (ev C q))) (hb : PSs X body (TSq w W (exs C b))) : PS X (.While t body [] pos) (TSq w W (ex C (.whl q is b))) := by
  refine PS_imp (ps_while po ht hb) fun D σ H ⟨σd, S, L, er, r, h⟩ => ?_
  rw [ex] at h
  have hn : L.length = S.length := r.len
  refine ⟨fun m σ H' => ∃ σd2 S2 L2, Gr L H L2 H' ∧ ERel w.K L2 H' σd2 σ ∧ Rel w.K L2 H' S2 ∧ EndS w W L H D (whlL is S.length (fun σ S => okB (ev C q σ S)) (fun σ S => exs C b σ S) m σd2 S2), ⟨many, σd, S, L, Gr.refl, er, r, h⟩, ?_⟩
  intro m σ2 H2 ⟨σd2, S2, L2, g2, er2, r2, h2⟩
  cases m with
  | zero =>
    rw [whlL] at h2
    exact h2.elim
  | succ m =>
    rw [whlL] at h2
    refine ⟨σd2, S2, L2, er2, r2, (EndS.goB h2 g2 er2).imp fun k H3 ⟨k', S3, L3, g3, r3, d3, h3⟩ => ?_⟩
    rw [show k = k' from d3]
    have g23 := g2.trans g3
    cases k' with
    | false => exact h3 σ2 L3 H3 g23 (er2.grow g3) r3
    | true =>
      rw [if_pos rfl] at h3 ⊢
      refine ⟨fun σ' H' => ∃ σd4 S4 L4, Gr L H L4 H' ∧ ERel w.K L4 H' σd4 σ' ∧ Rel w.K L4 H' S4 ∧ EndS w W L H D (whlL is S.length (fun σ S => okB (ev C q σ S)) (fun σ S => exs C b σ S) m σd4 S4), fun σ' H' h => ⟨m, Nat.lt_succ_self _, h⟩, σd2, S3, L3, er2.grow g3, r3, ?_⟩
      cases hq : exs C b σd2 S3 with
      | nx σ4 S4 =>
        rw [hq] at h3
        intro σ5 L5 H5 g5 er5 r5
        obtain ⟨L6, g6, e6, r6⟩ := turn_end (is := is) hn (g23.trans g5) er5 r5
        exact ⟨_, _, L6, g6, e6, r6, h3⟩
      | ct σ4 S4 =>
        rw [hq] at h3
        intro σ5 L5 H5 g5 er5 r5
        obtain ⟨L6, g6, e6, r6⟩ := turn_end (is := is) hn (g23.trans g5) er5 r5
        exact ⟨_, _, L6, g6, e6, r6, h3⟩
      | bk σ4 S4 =>
        rw [hq] at h3
        exact fun σ5 L5 H5 g5 er5 r5 => h3 σ5 L5 H5 (g23.trans g5) er5 r5
      | rt d S4 =>
        rw [hq] at h3
        exact fun v L5 H5 g5 r5 d5 => h3 v L5 H5 (g23.trans g5) r5 d5
      | exc x σ4 S4 =>
        rw [hq] at h3
        exact fun σ5 cls oe L5 H5 g5 er5 r5 x5 => h3 σ5 cls oe L5 H5 (g23.trans g5) er5 r5 x5
      | bad =>
        rw [hq] at h3
        exact h3
/-! ### match -/
structure PM (X : Cx) (p : Pattern) (t : V → Hp → (Bool → Hp → Prop) → Prop) : Prop where
  run : ∀ (pins : List (Addr × Obj)) (s : Shared) (σ : L2.St) (H : Hp) (x : V) (v : Value) (Q : Bool → Hp → Prop), Inv X pins σ H s → RelV x v → t x H Q →
    wpAny (model X.prog X.w) X.A (matchPattern p X.env v) (fun r s1 => ∃ b H', Inv X pins σ H' s1 ∧ r = (if b = true then some [] else none) ∧ Q b H') X.xe s
structure PMs (X : Cx) (ps : List Pattern) (t : V → Hp → (Bool → Hp → Prop) → Prop) : Prop where
  run : ∀ (pins : List (Addr × Obj)) (s : Shared) (σ : L2.St) (H : Hp) (x : V) (v : Value) (Q : Bool → Hp → Prop), Inv X pins σ H s → RelV x v → t x H Q →
    wpAny (model X.prog X.w) X.A (matchFirst ps X.env v) (fun r s1 => ∃ b H', Inv X pins σ H' s1 ∧ r = (if b = true then some [] else none) ∧ Q b H') X.xe s
def tP (w : Xd) (f : Rs.D → Option Bool) : V → Hp → (Bool → Hp → Prop) → Prop := fun x H Q => ∃ L S d b, Rel w.K L H S ∧ Den w.K L H d x ∧ f d = some b ∧ ∀ L' H', Gr L H L' H' → Rel w.K L' H' S → Den w.K L' H' d x → Q b H'
theorem m_val (O : COk w C W c X) {d : Rs.D} {e : Expr} {pos : Pos} (he : PE X e (ED w W (ev C (.con d)))) : PM X (.MatchValue e pos) (tP w (matchP (.val d))) := by
  refine ⟨fun pins s σ H x v Q I r ⟨L, S, dx, b, rs, dv, hb, q⟩ => ?_⟩
  rw [matchP] at hb
  refine wpAny_matchPattern_Value ?_
  refine thn (he.run pins s σ H (fun y H1 => ∃ L1, Gr L H L1 H1 ∧ Rel w.K L1 H1 S ∧ Den w.K L1 H1 d y) I ?_) fun u s1 ⟨y, H1, I1, r1, L1, g1, rs1, dy⟩ => ?_
  · refine ⟨σ.map fun _ => none, S, L, ⟨by rw [List.length_map], fun i d e => ?_⟩, rs, ?_⟩
    · rw [List.getElem?_map] at e
      cases h : σ[i]? <;> rw [h] at e <;> cases e
    · rw [ev]
      exact fun y L' H' g r' d' => ⟨L', g, r', d'⟩
  · refine thn (op_cmp (W := W) O.K O.hf O.un .eq pins s1 σ H1 x y v u (fun z H2 => z = .bl b ∧ ∃ L2, Gr L H L2 H2 ∧ Rel w.K L2 H2 S ∧ Den w.K L2 H2 dx x) I1 r r1 ?_) fun t s2 ⟨z, H2, I2, r2, ez, L2, g2, rs2, dx2⟩ => ?_
    · refine ⟨σ, L1, S, dx, d, rs1, dv.grow g1, dy, ?_⟩
      have e : cmpD .eq dx d S = some b := eqD_thaw hb
      dsimp only
      rw [e]
      exact fun z L' H' g r' d' => ⟨of_b d', L', g1.trans g, r', dv.grow (g1.trans g)⟩
    · subst ez
      cases r2
      refine wpAny_truthy_bool ?_
      cases b with
      | true => exact ⟨true, H2, I2, rfl, q L2 H2 g2 rs2 dx2⟩
      | false => exact ⟨false, H2, I2, rfl, q L2 H2 g2 rs2 dx2⟩
theorem ms_nil : PMs X [] (tP w (matchA [])) := ⟨fun pins s σ H x v Q I r ⟨L, S, dx, b, rs, dv, hb, q⟩ => by
  rw [matchA] at hb
  cases hb
  exact wpAny_matchFirst_nil ⟨false, H, I, rfl, q L H Gr.refl rs dv⟩⟩
theorem ms_cons {p : QP} {ps : List QP} {e : Pattern} {es : List Pattern} (h1 : PM X e (tP w (matchP p))) (h2 : PMs X es (tP w (matchA ps))) : PMs X (e :: es) (tP w (matchA (p :: ps))) := by
  refine ⟨fun pins s σ H x v Q I r ⟨L, S, dx, b, rs, dv, hb, q⟩ => ?_⟩
  rw [matchA] at hb
  refine wpAny_matchFirst_cons ?_
  cases hq : matchP p dx with
  | none => rw [hq] at hb; cases hb
  | some k =>
    rw [hq] at hb
    refine thn (h1.run pins s σ H x v (fun k' H' => k' = k ∧ ∃ L', Gr L H L' H' ∧ Rel w.K L' H' S ∧ Den w.K L' H' dx x) I r ⟨L, S, dx, k, rs, dv, hq, fun L' H' g r d => ⟨rfl, L', g, r, d⟩⟩) fun o s1 ⟨k', H', I', eo, ek, L', g, r', d'⟩ => ?_
    subst ek
    subst eo
    cases k' with
    | true =>
      cases hb
      exact ⟨true, H', I', rfl, q L' H' g r' d'⟩
    | false => exact h2.run pins s1 σ H' x v Q I' r ⟨L', S, dx, b, r', d', hb, fun L2 H2 g2 r2 d2 => q L2 H2 (g.trans g2) r2 d2⟩
theorem m_alt {ps : List QP} {es : List Pattern} {pos : Pos} (h : PMs X es (tP w (matchA ps))) (hn : namesOfAll (es.take 1) = []) : PM X (.MatchOr es pos) (tP w (matchP (.alt ps))) := by
  refine ⟨fun pins s σ H x v Q I r ⟨L, S, dx, b, rs, dv, hb, q⟩ => ?_⟩
  rw [matchP] at hb
  refine wpAny_matchPattern_Or (thn (h.run pins s σ H x v Q I r ⟨L, S, dx, b, rs, dv, hb, q⟩) fun o s1 ⟨k, H', I', eo, hq⟩ => ?_)
  subst eo
  cases k with
  | true => exact ⟨true, H', I', by rw [hn]; rfl, hq⟩
  | false => exact ⟨false, H', I', rfl, hq⟩
structure PEa (X : Cx) (ps : List Pattern) (t : List V → Hp → (Bool → Hp → Prop) → Prop) : Prop where
  run : ∀ (pins : List (Addr × Obj)) (s : Shared) (σ : L2.St) (H : Hp) (xs : List V) (vs : List Value) (Q : Bool → Hp → Prop), Inv X pins σ H s → Vals xs vs → t xs H Q →
    wpAny (model X.prog X.w) X.A (matchEach ps X.env vs) (fun r s1 => ∃ b H', Inv X pins σ H' s1 ∧ r = (if b = true then some [] else none) ∧ Q b H') X.xe s
def tPS (w : Xd) (f : List Rs.D → Option Bool) : List V → Hp → (Bool → Hp → Prop) → Prop := fun xs H Q => ∃ L S ds b, Rel w.K L H S ∧ DenL w.K L H ds xs ∧ f ds = some b ∧ ∀ L' H', Gr L H L' H' → Rel w.K L' H' S → DenL w.K L' H' ds xs → Q b H'
theorem ea_nil : PEa X [] (tPS w (matchS [])) := ⟨fun pins s σ H xs vs Q I r ⟨L, S, ds, b, rs, dv, hb, q⟩ => by
  cases ds with
  | nil =>
    rw [matchS] at hb
    cases hb
    have e := dv
    rw [DenL] at e
    subst e
    cases r
    exact wpAny_matchEach_nil ⟨true, H, I, rfl, q L H Gr.refl rs dv⟩
  | cons d ds => simp [matchS] at hb⟩
theorem ea_cons {p : QP} {ps : List QP} {e : Pattern} {es : List Pattern} (h1 : PM X e (tP w (matchP p))) (h2 : PEa X es (tPS w (matchS ps))) (hs : e.isStar = false) : PEa X (e :: es) (tPS w (matchS (p :: ps))) := by
  refine ⟨fun pins s σ H xs vs Q I r ⟨L, S, ds, b, rs, dv, hb, q⟩ => ?_⟩
  cases ds with
  | nil => simp [matchS] at hb
  | cons d ds =>
    have dv' := dv
    rw [DenL] at dv'
    obtain ⟨x, xs', rfl, d1, d2⟩ := dv'
    cases r with
    | cons r1 r2 =>
      rw [matchS] at hb
      refine wpAny_matchEach_cons ?_ hs
      cases hq : matchP p d with
      | none => rw [hq] at hb; cases hb
      | some k =>
        rw [hq] at hb
        refine thn (h1.run pins s σ H x _ (fun k' H' => k' = k ∧ ∃ L', Gr L H L' H' ∧ Rel w.K L' H' S) I r1 ⟨L, S, d, k, rs, d1, hq, fun L' H' g r _ => ⟨rfl, L', g, r⟩⟩) fun o s1 ⟨k', H', I', eo, ek, L', g, r'⟩ => ?_
        subst ek
        subst eo
        cases k' with
        | false =>
          cases hb
          exact ⟨false, H', I', rfl, q L' H' g r' (dv.grow g)⟩
        | true =>
          refine thn (h2.run pins s1 σ H' xs' _ (fun k' H2 => k' = b ∧ ∃ L2, Gr L H L2 H2 ∧ Rel w.K L2 H2 S) I' r2 ⟨L', S, ds, b, r', d2.grow g, hb, fun L2 H2 g2 r2 _ => ⟨rfl, L2, g.trans g2, r2⟩⟩) fun o s2 ⟨k', H2, I2, eo, ek, L2, g2, r3⟩ => ?_
          subst ek
          subst eo
          cases k' with
          | true => exact ⟨true, H2, I2, rfl, q L2 H2 g2 r3 (dv.grow g2)⟩
          | false => exact ⟨false, H2, I2, rfl, q L2 H2 g2 r3 (dv.grow g2)⟩
theorem matchS_len : ∀ {ps : List QP} {ds : List Rs.D} {b : Bool}, matchS ps ds = some b → b = true → ps.length = ds.length
  | [], [], b, h, _ => rfl
  | [], _ :: _, b, h, _ => by simp [matchS] at h
  | _ :: _, [], b, h, _ => by simp [matchS] at h
  | p :: ps, d :: ds, b, h, e => by
    rw [matchS] at h
    split at h
    · rw [List.length_cons, List.length_cons, matchS_len h e]
    · cases h
      cases e
    · cases h
theorem m_seq (hc : X.calm = true) {ps : List QP} {es : List Pattern} {pos : Pos} (h : PEa X es (tPS w (matchS ps))) (hl : es.length = ps.length) (hs : es.findIdx? (·.isStar) = none) (hw : (es.all fun p => p.isWildcard || (p.isStar && p.names.isEmpty)) = false) :
    PM X (.MatchSequence es pos) (tP w (matchP (.seq ps))) := by
  refine ⟨fun pins s σ H x v Q I r ⟨L, S, dx, b, rs, dv, hb, q⟩ => ?_⟩
  cases dx with
  | tup l =>
    rw [matchP] at hb
    split at hb
    · rename_i len
      obtain ⟨a, xs, rfl, h1, _, h2⟩ := den_tup dv
      cases r
      obtain ⟨its, ri, ht, hz⟩ := I.tuple (SqT.of h1)
      have li : its.length = es.length := by rw [← ri.length, ← h2.length, ← len, hl]
      refine wpAny_matchPattern_Sequence (wpAny_collectionFlag ht.typeIs flag_seq_tuple ?_) hs hw
      rw [if_pos rfl]
      refine PyProof.Rows.pyLen_tuple ht (by rw [List.size_toArray, ← ri.length]; have := sizeLine_eq; omega) ?_
      rw [List.size_toArray, if_neg (by rw [li]; simp)]
      have un := fun h => PyProof.Rows.unpackItems_tuple (prog := X.prog) (w := X.w) (A := X.A) (E := X.xe) (Q := fun vs s3 => wpAny (model X.prog X.w) X.A (matchEach es X.env vs) (fun r s1 => ∃ b H', Inv X pins σ H' s1 ∧ r = (if b = true then some [] else none) ∧ Q b H') X.xe s3) (s := { s with toks := s.toks + 1 + 1 }) (I.ok.hd hc) ht h
      rw [show its.toArray.size = es.length by rw [List.size_toArray, li]] at un
      refine un fun h' ext => ?_
      have I2 : Inv X pins σ H { s with heap := h', toks := s.toks + 1 + 1 } := I.kept (t' := s.toks + 1 + 1) fun c o e => ext c o (Nat.ne_of_lt (Heap.lt_size e)) e
      exact h.run pins _ σ H xs its Q I2 ri ⟨L, S, l, b, rs, h2, hb, fun L' H' g r d => q L' H' g r (dv.grow g)⟩
    · cases hb
  | _ => rw [matchP] at hb <;> first | cases hb | (intro _ h; cases h)
structure PCs (X : Cx) (cs : List MatchCase) (w : Xd) (W : WX) (f : Rs.D → Env → Store → Rs.Flow) : Prop where
  run : ∀ (first : Bool) (pins : List (Addr × Obj)) (s : Shared) (σ : L2.St) (H : Hp) (D : Ends) (x : V) (v : Value), Inv X pins σ H s → RelV x v → (∃ σd S L d, ERel w.K L H σd σ ∧ Rel w.K L H S ∧ Den w.K L H d x ∧ EndS w W L H D (f d σd S)) →
    wpAny (model X.prog X.w) X.A (matchCases cs X.env v first) (SP X pins D) X.xe s
theorem c_nil : PCs X [] w W (exc C .nil) := ⟨fun first pins s σ H D x v I r ⟨σd, S, L, d, er, rs, dv, h⟩ => by
  rw [exc] at h
  exact wpAny_matchCases_nil ⟨σ, H, I, h σ L H Gr.refl er rs⟩⟩
theorem c_cons {p : QP} {b : List QS} {cs : QCs} {e : Pattern} {body : List Stmt} {es : List MatchCase} (h1 : PM X e (tP w (matchP p))) (h2 : PSs X body (TSq w W (exs C b))) (h3 : PCs X es w W (exc C cs)) :
    PCs X (⟨e, none, body⟩ :: es) w W (exc C (.cons p b cs)) := by
  refine ⟨fun first pins s σ H D x v I r ⟨σd, S, L, d, er, rs, dv, h⟩ => ?_⟩
  rw [exc] at h
  refine wpAny_matchCases_cons ?_
  cases hq : matchP p d with
  | none => rw [hq] at h; exact h.elim
  | some k =>
    rw [hq] at h
    refine thn (h1.run pins s σ H x v (fun k' H' => k' = k ∧ ∃ L', Gr L H L' H' ∧ Rel w.K L' H' S ∧ Den w.K L' H' d x) I r ⟨L, S, d, k, rs, dv, hq, fun L' H' g r d => ⟨rfl, L', g, r, d⟩⟩) fun o s1 ⟨k', H', I', eo, ek, L', g, r', d'⟩ => ?_
    subst ek
    subst eo
    cases k' with
    | true => exact assignInOrder_nil (h2.run pins s1 σ H' D I' ⟨σd, S, L', er.grow g, r', EndS.grow h g⟩)
    | false => exact h3.run false pins s1 σ H' D x v I' r ⟨σd, S, L', d, er.grow g, r', d', EndS.grow h g⟩
theorem s_mtch {q : QE} {cs : QCs} {e : Expr} {es : List MatchCase} {pos : Pos} (he : PE X e (ED w W (ev C q))) (h : PCs X es w W (exc C cs)) : PS X (.Match e es pos) (TSq w W (ex C (.mtch q cs))) := by
  refine ⟨fun pins s σ H D I ⟨σd, S, L, er, r, hh⟩ => wpAny_Match (thn (he.run pins s σ H (fun x H1 => ∃ S1 L1 d, Gr L H L1 H1 ∧ Rel w.K L1 H1 S1 ∧ Den w.K L1 H1 d x ∧ EndS w W L1 H1 D (exc C cs d σd S1)) I ?_) fun v s1 ⟨x, H1, I1, r1, S1, L1, d, g, rs, dv, h1⟩ => ?_)⟩
  · rw [ex] at hh
    exact ⟨σd, S, L, er, r, (EndS.go hh er).imp fun y H1 ⟨a, S1, L1, g1, r1, d1, h1⟩ => ⟨S1, L1, a, g1, r1, d1, h1⟩⟩
  · exact h.run true pins s1 σ H1 D x v I1 r1 ⟨σd, S1, L1, d, er.grow g, rs, dv, h1⟩
end
end Rs

namespace Rs
open PySem PySem.Spec PyProof.Rows L2
/-- expressions that make a new list -/
def QE.isF : QE → Bool
  | .lst _ => true
  | .comp _ _ _ _ => true
  | .compO _ _ _ _ => true
  | .bi .list _ => true
  | .lrg t _ => !t
  | _ => false
/-- y = [..] on one line, y a local: the list is stored before the block's names come back -/
def swapB (c : Cc) (tg e : Expr) : Bool := match tg, e with
  | .Name y py, .ListComp _ _ scope pos => isPlainLoc c.sc y && (py.line == pos.line) && !(scope.names.any fun (n, k) => n == y && (k == .local || k == .cell))
  | _, _ => false
section
variable {w : Xd} {C : CallT} {W : WX} {c : Cc} {X : Cx}
theorem evs_lst {f : Env → Store → Out (List D)} {σ : Env} {S S' : Store} {d : D} (e : ((f σ S).bind fun xs S => if xs.length ≤ sizeLine then Out.ok (D.lst xs) S else .bad) = .ok d S') : ∃ l, d = .lst l := by
  cases q : f σ S with
  | ok xs S1 =>
    rw [q] at e
    have e : (if xs.length ≤ sizeLine then Out.ok (D.lst xs) S1 else .bad) = .ok d S' := e
    split at e
    · cases e
      exact ⟨_, rfl⟩
    · cases e
  | exc x S2 => rw [q] at e; cases e
  | bad => rw [q] at e; cases e
theorem list_lst {f : Env → Store → Out (List D)} {σ : Env} {S S' : Store} {d : D} (e : ((f σ S).bind fun xs S => ofO (biD .list xs S) S) = .ok d S') : ∃ l, d = .lst l := by
  cases q : f σ S with
  | ok xs S1 =>
    rw [q] at e
    have e : ofO (biD .list xs S1) S1 = .ok d S' := e
    match xs, e with
    | [], e => cases e
    | [x], e =>
      have e : ofO ((itemsD S1 x).map D.lst) S1 = .ok d S' := e
      cases q2 : itemsD S1 x with
      | none => rw [q2] at e; cases e
      | some l =>
        rw [q2] at e
        cases e
        exact ⟨_, rfl⟩
    | _ :: _ :: _, e => cases e
  | exc x S2 => rw [q] at e; cases e
  | bad => rw [q] at e; cases e
theorem isF_lst {q : QE} (h : q.isF = true) : ∀ σ S d S', ev C q σ S = .ok d S' → ∃ l, d = .lst l := by
  intro σ S d S' e
  cases q with
  | lst es => rw [ev_lst_f] at e; exact evs_lst e
  | comp t it cond elt =>
    rw [ev_comp_f] at e
    exact comp_lst (fi := evI C it) (ft := fun σ => turnC t (evC C cond) (ev C elt) σ) e
  | compO t a cond elt =>
    rw [ev_compO_f] at e
    exact compO_lst (fa := ev C a) (ft := fun σ => turnC t (evC C cond) (ev C elt) σ) e
  | bi b es =>
    cases b <;> try (cases h; done)
    rw [ev_bi_f] at e
    exact list_lst e
  | lrg t it =>
    cases t with
    | true => cases h
    | false =>
      rw [ev_lrg_f] at e
      exact lrg_lst (f := evI C it) e
  | _ => cases h
theorem sndF {q : QE} {e : Expr} (O : COk w C W c X) (hh : c.hot = false) (hf : q.isF = true) (h : chkE c q e = true) : PE X e (EF w W (ev C q)) := by
  cases q with
  | lst es =>
    rw [chkE.eq_def] at h
    dsimp only at h
    split at h
    · rw [ev_lst_f]
      exact g_lstF (O.xn hh) (snds es O h)
    · cases h
  | comp t it cond elt =>
    rw [chkE.eq_def] at h
    dsimp only at h
    split at h
    · rename_i x tg itx ifs scope pos
      simp only [Bool.and_eq_true, Bool.not_eq_true'] at h
      obtain ⟨h0, ⟨⟨⟨h1, h2⟩, h3⟩, h4⟩, h5⟩ := h
      rw [ev_comp_f]
      exact g_comp (pos := pos) (elt := x) O h0 (by rw [O.N, O.sc]; exact blkOk_by h2) (fold_ok (chkI_set h1)) (sndI it O h1) fun ex s H A cl fp =>
        have O' := O.blk h0 ex s H scope A cl fp
        ⟨snd_t O' t tg h3, sndC h4 (fun e h t => (snd cond O' h).pt t), (snd elt O' h5).pe⟩
    · cases h
  | compO t a cond elt =>
    rw [chkE.eq_def] at h
    dsimp only at h
    split at h
    · rename_i x tg itx ifs scope pos
      simp only [Bool.and_eq_true, Bool.not_eq_true'] at h
      obtain ⟨h0, ⟨⟨⟨⟨hn, h1⟩, h2⟩, h3⟩, h4⟩, h5⟩ := h
      rw [ev_compO_f]
      exact g_compO (pos := pos) (elt := x) O h0 (by rw [O.N, O.sc]; exact blkOk_by h2) (fold_ok hn) (snd a O h1).pe fun ex s H A cl fp =>
        have O' := O.blk h0 ex s H scope A cl fp
        ⟨snd_t O' t tg h3, sndC h4 (fun e h t => (snd cond O' h).pt t), (snd elt O' h5).pe⟩
    · cases h
  | bi b es =>
    cases b <;> try (cases hf; done)
    rw [chkE.eq_def] at h
    dsimp only at h
    split at h
    · rw [Bool.and_eq_true] at h
      replace h := h.2
      simp only [Bool.and_eq_true, decide_eq_true_eq] at h
      rw [ev_bi_f]
      exact g_listF O (O.xn hh) h.1.1.2 h.1.1.1 h.2 (snds es O h.1.2)
    · cases h
  | lrg t it =>
    cases t with
    | true => cases hf
    | false =>
      rw [chkE.eq_def] at h
      dsimp only at h
      split at h
      · rename_i x p y pos
        simp only [Bool.and_eq_true, decide_eq_true_eq, Bool.not_eq_true'] at h
        obtain ⟨h0, ⟨⟨⟨h1, h2⟩, h3⟩, h4⟩, h5⟩ := h
        cases it <;> try (cases h3; done)
        · rename_i a
          rw [chkI.eq_def] at h5
          dsimp only at h5
          split at h5
          · simp only [Bool.and_eq_true, decide_eq_true_eq, Bool.not_eq_true'] at h5
            rw [ev_lrg_f, evI_rng1_f]
            exact g_lrgF1 O h0 h2 h1 h5.1.1.2 h5.1.1.1 h5.1.2 (snd a O h5.2).pe
          · cases h5
        · rename_i a b
          rw [chkI.eq_def] at h5
          dsimp only at h5
          split at h5
          · simp only [Bool.and_eq_true, decide_eq_true_eq, Bool.not_eq_true'] at h5
            obtain ⟨⟨⟨⟨⟨k1, k2⟩, k3⟩, k4⟩, k5⟩, k6⟩ := h5
            rw [ev_lrg_f, evI_rng2_f]
            exact g_lrgF2 O h0 h2 h1 k2 k1 k3 k4 (snd a O k5).pe (snd b O k6).pe
          · cases h5
      · cases h
  | _ => cases hf
/-- y = [..] -/
theorem sndSw {q : QE} {e : Expr} {y : Str} {py spos : Pos} {i : Nat} (O : COk w C W c X) (hi : c.N[i]? = some y) (hs : swapB c (.Name y py) e = true) (h : chkE c q e = true) : q.isF = true ∧ PS X (.Assign [.Name y py] e spos) (tAsg (EF w W (ev C q)) (gName i)) := by
  cases e with
  | ListComp elt gens scope pos =>
    have hs' : (isPlainLoc c.sc y && (py.line == pos.line) && !(scope.names.any fun (n, k) => n == y && (k == .local || k == .cell))) = true := hs
    rw [Bool.and_eq_true, Bool.and_eq_true, Bool.not_eq_true'] at hs'
    obtain ⟨⟨s1, s2⟩, s3⟩ := hs'
    clear hs
    cases q with
    | comp t it cond qe =>
      refine ⟨rfl, ?_⟩
      rw [chkE.eq_def] at h
      dsimp only at h
      split at h
      · rename_i x tg itx ifs scope' pos' heq
        cases heq
        simp only [Bool.and_eq_true, Bool.not_eq_true'] at h
        obtain ⟨h0, ⟨⟨⟨h1, h2⟩, h3⟩, h4⟩, h5⟩ := h
        rw [ev_comp_f]
        exact g_setComp (pos := pos) O h0 hi s1 s2 s3 (by rw [O.N, O.sc]; exact blkOk_by h2) (fold_ok (chkI_set h1)) (sndI it O h1) fun ex s H A cl fp =>
          have O' := O.blk h0 ex s H scope A cl fp
          ⟨snd_t O' t tg h3, sndC h4 (fun e h t => (snd cond O' h).pt t), (snd qe O' h5).pe⟩
      · cases h
    | compO t a cond qe =>
      refine ⟨rfl, ?_⟩
      rw [chkE.eq_def] at h
      dsimp only at h
      split at h
      · rename_i x tg itx ifs scope' pos' heq
        cases heq
        simp only [Bool.and_eq_true, Bool.not_eq_true'] at h
        obtain ⟨h0, ⟨⟨⟨⟨hn, h1⟩, h2⟩, h3⟩, h4⟩, h5⟩ := h
        rw [ev_compO_f]
        exact g_setCompO (pos := pos) O h0 hi s1 s2 s3 (by rw [O.N, O.sc]; exact blkOk_by h2) (fold_ok hn) (snd a O h1).pe fun ex s H A cl fp =>
          have O' := O.blk h0 ex s H scope A cl fp
          ⟨snd_t O' t tg h3, sndC h4 (fun e h t => (snd cond O' h).pt t), (snd qe O' h5).pe⟩
      · cases h
    | _ => first | (rw [chkE.eq_def] at h; cases h; done) | (rw [chkE.eq_def] at h; dsimp only at h; cases h; done) | (simp [chkE] at h; done)
  | _ => cases hs
end
/-! ### new things -/
def chkN (c : Cc) : QN → Expr → Bool
  | .val q, e => chkE c q e
  | .lst q, e => q.isF && chkE c q e
  | .dct k v, e => match e with
    | .Dict [some x] [y] _ => chkE c k x && chkE c v y
    | _ => false
def chkNs (c : Cc) : List QN → List Expr → Bool
  | [], es => match es with
    | [] => true
    | _ => false
  | q :: qs, es => match es with
    | e :: es => !isStar e && chkN c q e && chkNs c qs es
    | [] => false
section
variable {w : Xd} {C : CallT} {W : WX} {c : Cc} {X : Cx}
theorem COk.ex {w : Xd} {W : WX} (O : COk w C W c X) (hh : c.hot = false) (ex : List Addr) : COk { w with K := { w.K with ex := ex } } C W c X where
  sc := O.sc
  N := O.N
  nd := O.nd
  calm := O.calm
  K := O.K
  hf := O.hf
  un := O.un
  gd := O.gd
  tk := O.tk
  bl := O.bl
  con := O.con
  rm := O.rm
  rh := O.rh
  rf := O.rf
  r2 := O.r2
  fh := fun hs k x h => ⟨(O.fh hs k x h).ok⟩
  sd := fun z => ⟨(O.sd z).1, fun k x h cap th S n => ⟨((O.sd z).2 k x h cap th S n).ok⟩⟩
  fn := fun hh k x h => ⟨(O.fn hh k x h).ok⟩
  xf := O.xf
  hx := fun z => by rw [z] at hh; cases hh
  thh := O.thh
  th := fun z => by rw [O.thh z] at hh; cases hh
  xn := O.xn
  tb := O.tb
  as := O.as
theorem sndN (O : COk w C W c X) (hh : c.hot = false) : ∀ (q : QN) (e : Expr), chkN c q e = true → PE X e (ED w W (evM C q))
  | .val q, e, h => (snd q O h).pe
  | .lst q, e, h => by
    have h : (q.isF && chkE c q e) = true := h
    rw [Bool.and_eq_true] at h
    exact g_newL (sndF O hh h.1 h.2) (isF_lst h.1)
  | .dct k v, e, h => by
    unfold chkN at h
    dsimp only at h
    split at h
    · rw [Bool.and_eq_true] at h
      exact g_dct O (O.xn hh) (fun ex => (snd k (O.ex hh ex) h.1).pe) (fun ex => (snd v (O.ex hh ex) h.2).pe)
    · cases h
theorem sndNs (O : COk w C W c X) (hh : c.hot = false) : ∀ (qs : List QN) (es : List Expr), chkNs c qs es = true → PA X es (ELs w W (evMs C qs))
  | [], es, h => by
    cases es with
    | nil =>
      rw [show evMs C [] = fun _ S => .ok [] S from funext fun σ => funext fun S => rfl]
      exact g_nil
    | cons e es => cases h
  | q :: qs, es, h => by
    cases es with
    | nil => cases h
    | cons e es =>
      have h : (!isStar e && chkN c q e && chkNs c qs es) = true := h
      simp only [Bool.and_eq_true, Bool.not_eq_true'] at h
      rw [show evMs C (q :: qs) = fun σ S => (evM C q σ S).bind fun x S => (evMs C qs σ S).bind fun xs S => .ok (x :: xs) S from funext fun σ => funext fun S => rfl]
      exact g_cons h.1.1 (sndN O hh q e h.1.2) (sndNs O hh qs es h.2)
end
/-! ### the checker of statements -/
def chkP (c : Cc) : QP → Pattern → Bool
  | .val d, p => match p with
    | .MatchValue e _ => chkE c (.con d) e
    | _ => false
  | .alt ps, p => match p with
    | .MatchOr es _ => (namesOfAll (es.take 1)).isEmpty && chkPs c ps es
    | _ => false
  | .seq ps, p => match p with
    | .MatchSequence es _ => decide (es.length = ps.length) && (es.findIdx? (·.isStar)).isNone && !(es.all fun p => p.isWildcard || (p.isStar && p.names.isEmpty)) && chkPs c ps es
    | _ => false
where chkPs (c : Cc) : List QP → List Pattern → Bool
  | [], es => match es with
    | [] => true
    | _ => false
  | p :: ps, es => match es with
    | e :: es => chkP c p e && chkPs c ps es
    | [] => false
def plainTs (c : Cc) : List Nat → List Expr → Bool
  | [], es => match es with
    | [] => true
    | _ => false
  | i :: is, es => match es with
    | .Name x _ :: es => decide (c.N[i]? = some x) && isPlainLoc c.sc x && plainTs c is es
    | _ => false
def namesOf : List Expr → List Str
  | .Name x _ :: es => x :: namesOf es
  | _ => []
def isFun (sc : Scope) : Bool := match sc.kind with
  | .function => true
  | _ => false
/-- statements within an except suite, or around the call of what was handed in -/
def QS.hotOk : QS → Bool
  | .set _ _ => true
  | .ret _ => true
  | .expr _ => true
  | .ife _ _ _ => true
  | .pass => true
  | .never => true
  | .try_ _ _ => true
  | _ => false
mutual
def chkS (c : Cc) : QS → Stmt → Bool
  | .set t q, s => match s with
    | .Assign [tg] e _ => !isStar tg && chkT c t tg && chkE c q e && ((noSwB c.sc tg e && noParB c.sc tg e) || (swapB c tg e && (match t with
      | .nm _ => true
      | _ => false)))
    | _ => false
  | .setM i q, s => match s with
    | .Assign [.Name x p] e _ => chkT c (.nm i) (.Name x p) && chkE c q e && ((noSwB c.sc (.Name x p) e && q.isF) || swapB c (.Name x p) e)
    | _ => false
  | .setN i q, s => match s with
    | .Assign [.Name x p] e _ => chkT c (.nm i) (.Name x p) && chkN c q e && noSwB c.sc (.Name x p) e && noParB c.sc (.Name x p) e
    | _ => false
  | .parN ts qs, s => match s with
    | .Assign [.Tuple es _ _] (.Tuple vs _ _) _ => plainTs c ts es && isFun c.sc && parOk es vs ((es.head?.map (·.pos.line)).getD 0) && decide (ts.Nodup) && decide ((namesOf es).eraseDups.length = es.length) && chkNs c qs vs && (match ts with
      | [_, _] => true
      | [_, _, _] => true
      | _ => false) && decide (vs.length = es.length)
    | _ => false
  | .par ts qs, s => match s with
    | .Assign [.Tuple es _ _] (.Tuple vs _ _) _ => plainTs c ts es && isFun c.sc && parOk es vs ((es.head?.map (·.pos.line)).getD 0) && decide (ts.Nodup) && decide ((namesOf es).eraseDups.length = es.length) && chkEs c qs vs && vs.all (fun z => !isStar z) && (match ts with
      | [_, _] => true
      | [_, _, _] => true
      | _ => false) && decide (vs.length = es.length)
    | _ => false
  | .aug i o q, s => match s with
    | .AugAssign (.Name x _) op e _ => decide (c.N[i]? = some x) && isLoc c.sc x && c.asg.isNone && (match o with
      | .add => true
      | .sub => true
      | _ => false) && eqOp o op && chkE c q e
    | _ => false
  | .sub a i v, s => match s with
    | .Assign [.Subscript x y _] e _ => notSl y && noCompB e && chkE c a x && chkE c i y && chkE c v e
    | _ => false
  | .expr q, s => match s with
    | .Expr e _ => noCompB e && chkE c q e
    | _ => false
  | .ret q, s => match s with
    | .Return (some e) _ => chkE c q e
    | _ => false
  | .retM q, s => match s with
    | .Return (some e) _ => q.isF && chkE c q e
    | _ => false
  | .ife q a b, s => match s with
    | .If t x y _ => q.tst && chkE c q t && chkSs c a x && chkSs c b y
    | _ => false
  | .for_ t it _ b, s => match s with
    | .For tg e body [] _ => chkI c it tg e && chkT c t tg && chkSs c b body
    | _ => false
  | .whl q _ b, s => match s with
    | .While t body [] _ => q.tst && chkE c q t && chkSs c b body
    | _ => false
  | .pass, s => match s with
    | .Pass _ => true
    | _ => false
  | .brk, s => match s with
    | .Break _ => true
    | _ => false
  | .cnt, s => match s with
    | .Continue _ => true
    | _ => false
  | .never, _ => true
  | .mtch q cs, s => match s with
    | .Match e es _ => chkE c q e && chkCs c cs es
    | _ => false
  | .raise k es, s => match s with
    | .Raise (some (.Call (.Name x _) [e1] [] _)) none _ => isGl c.sc x && decide (x = excS k) && (match es with
      | .nil => c.rs.contains k && decide (1 ≤ k) && decide (k < 14) && (match e1 with
        | .Constant (.str _) _ _ => true
        | _ => false)
      | .cons q .nil => c.xs && decide (k = 14) && !c.lm && !isStar e1 && chkEs c (.cons q .nil) [e1]
      | _ => false)
    | _ => false
  | .try_ b hs, s => match s with
    | .Try body (h1 :: hds) [] [] _ => c.xs && (!c.hot || c.th) && hs.okH && chkSs c b body && chkHs { c with hot := true, th := false, ti := none } hs (h1 :: hds)
    | _ => false
def chkCs (c : Cc) : QCs → List MatchCase → Bool
  | .nil, es => match es with
    | [] => true
    | _ => false
  | .cons p b cs, es => match es with
    | ⟨e, none, body⟩ :: es => chkP c p e && chkSs c b body && chkCs c cs es
    | _ => false
def chkHs (c : Cc) : QHs → List ExceptHandler → Bool
  | .nil, es => match es with
    | [] => true
    | _ => false
  | .cons k i b hs, es => match es with
    | .ExceptHandler (some (.Name x _)) on (st :: sts) _ :: es => isGl c.sc x && decide (k < 16) && decide (x = excS k) && (match on with
      | none => decide (1000 ≤ i)
      | some n => decide (c.N[i]? = some n ∧ i < 1000) && isPlainLoc c.sc n) && pureSs b && chkSs c b (st :: sts) && chkHs c hs es
    | _ => false
def chkSs (c : Cc) : List QS → List Stmt → Bool
  | [], es => match es with
    | [] => true
    | _ => false
  | q :: qs, es => match es with
    | e :: es => (!c.hot || q.hotOk) && chkS c q e && chkSs c qs es
    | [] => false
end
section
variable {w : Xd} {C : CallT} {W : WX} {c : Cc} {X : Cx}
theorem plainTs1 {i : Nat} {is : List Nat} {es : List Expr} (h : plainTs c (i :: is) es = true) : ∃ x p r, es = .Name x p :: r ∧ c.N[i]? = some x ∧ isPlainLoc c.sc x = true ∧ plainTs c is r = true := by
  rw [plainTs.eq_def] at h
  dsimp only at h
  split at h
  · simp only [Bool.and_eq_true, decide_eq_true_eq] at h
    exact ⟨_, _, _, rfl, h.1.1, h.1.2, h.2⟩
  · cases h
theorem plainTs0 {es : List Expr} (h : plainTs c [] es = true) : es = [] := by
  rw [plainTs.eq_def] at h
  dsimp only at h
  split at h
  · rfl
  · cases h
theorem plainTs2 {i j : Nat} {es : List Expr} (h : plainTs c [i, j] es = true) : ∃ x px y py, es = [.Name x px, .Name y py] ∧ c.N[i]? = some x ∧ isPlainLoc c.sc x = true ∧ c.N[j]? = some y ∧ isPlainLoc c.sc y = true := by
  obtain ⟨x, px, r, rfl, a1, a2, h⟩ := plainTs1 h
  obtain ⟨y, py, r, rfl, b1, b2, h⟩ := plainTs1 h
  cases plainTs0 h
  exact ⟨x, px, y, py, rfl, a1, a2, b1, b2⟩
theorem plainTs3 {i j l : Nat} {es : List Expr} (h : plainTs c [i, j, l] es = true) : ∃ x px y py z pz, es = [.Name x px, .Name y py, .Name z pz] ∧ c.N[i]? = some x ∧ isPlainLoc c.sc x = true ∧ c.N[j]? = some y ∧ isPlainLoc c.sc y = true ∧ c.N[l]? = some z ∧ isPlainLoc c.sc z = true := by
  obtain ⟨x, px, r, rfl, a1, a2, h⟩ := plainTs1 h
  obtain ⟨y, py, z, pz, rfl, b⟩ := plainTs2 h
  exact ⟨x, px, y, py, z, pz, rfl, a1, a2, b⟩
theorem chkP_star {c : Cc} {q : QP} {p : Pattern} (h : chkP c q p = true) : p.isStar = false := by
  cases p <;> first | rfl | (cases q <;> (rw [chkP.eq_def] at h; cases h))
mutual
theorem sndP (O : COk w C W c X) (hh : c.hot = false) : ∀ (q : QP) (p : Pattern), chkP c q p = true → PM X p (tP w (matchP q))
  | .val d, p, h => by
    rw [chkP.eq_def] at h
    dsimp only at h
    split at h
    · exact m_val (C := C) (W := W) O (snd _ O h).pe
    · cases h
  | .alt ps, p, h => by
    rw [chkP.eq_def] at h
    dsimp only at h
    split at h
    · rw [Bool.and_eq_true] at h
      exact m_alt (sndPs O hh ps _ h.2) (List.isEmpty_iff.mp h.1)
    · cases h
  | .seq ps, p, h => by
    rw [chkP.eq_def] at h
    dsimp only at h
    split at h
    · simp only [Bool.and_eq_true, decide_eq_true_eq, Option.isNone_iff_eq_none, Bool.not_eq_true'] at h
      exact m_seq (O.calm hh) (sndPe O hh ps _ h.2) h.1.1.1 h.1.1.2 h.1.2
    · cases h
theorem sndPe (O : COk w C W c X) (hh : c.hot = false) : ∀ (qs : List QP) (ps : List Pattern), chkP.chkPs c qs ps = true → PEa X ps (tPS w (matchS qs))
  | [], ps, h => by
    rw [chkP.chkPs.eq_def] at h
    dsimp only at h
    split at h
    · exact ea_nil
    · cases h
  | q :: qs, ps, h => by
    rw [chkP.chkPs.eq_def] at h
    dsimp only at h
    split at h
    · rw [Bool.and_eq_true] at h
      exact ea_cons (sndP O hh q _ h.1) (sndPe O hh qs _ h.2) (chkP_star h.1)
    · cases h
theorem sndPs (O : COk w C W c X) (hh : c.hot = false) : ∀ (qs : List QP) (ps : List Pattern), chkP.chkPs c qs ps = true → PMs X ps (tP w (matchA qs))
  | [], ps, h => by
    rw [chkP.chkPs.eq_def] at h
    dsimp only at h
    split at h
    · exact ms_nil
    · cases h
  | q :: qs, ps, h => by
    rw [chkP.chkPs.eq_def] at h
    dsimp only at h
    split at h
    · rw [Bool.and_eq_true] at h
      exact ms_cons (sndP O hh q _ h.1) (sndPs O hh qs _ h.2)
    · cases h
end
mutual
theorem sndS : ∀ (q : QS) (s : Stmt) {w : Xd} {W : WX} {c : Cc} {X : Cx}, COk w C W c X → PassesOwn (model X.prog X.w) X.A X.env X.xe → Est X → (c.hot = true → q.hotOk = true) → chkS c q s = true → PS X s (TSq w W (ex C q))
  | .set t q, s, w, W, c, X, O, po, es_, hq, h => by
    rw [chkS.eq_def] at h
    dsimp only at h
    split at h
    · rename_i tg e p
      simp only [Bool.and_eq_true, Bool.or_eq_true, Bool.not_eq_true'] at h
      obtain ⟨⟨⟨h1, h2⟩, h3⟩, h4⟩ := h
      rcases h4 with ⟨h5, h6⟩ | ⟨h5, h6⟩
      · exact s_set O.sc (snd q O h3).pe (snd_t O t tg h2) h5 h6 h1
      · cases tg <;> try (cases h5; done)
        rename_i y py
        cases t <;> try (cases h6; done)
        rename_i i
        have hi : c.N[i]? = some y := by
          rw [chkT] at h2
          simp only [Bool.and_eq_true, decide_eq_true_eq] at h2
          exact h2.1.1
        obtain ⟨a, b⟩ := sndSw (spos := p) O hi h5 h3
        exact s_setF b (isF_lst a)
    · cases h
  | .setM i q, s, w, W, c, X, O, po, es_, hq, h => by
    rw [chkS.eq_def] at h
    dsimp only at h
    split at h
    · rename_i x p e pos
      simp only [Bool.and_eq_true, Bool.or_eq_true] at h
      obtain ⟨⟨h2, h3⟩, h4⟩ := h
      rcases h4 with ⟨h5, h6⟩ | h5
      · rw [chkT] at h2
        simp only [Bool.and_eq_true, decide_eq_true_eq] at h2
        exact s_setM (ps_asg (sndF O (hotNo hq rfl) h6 h3) (pg_name (i := i) O.nd (by rw [O.N]; exact h2.1.1) (O.loc h2.1.2) (O.as x h2.1.2 h2.2)) (swF' O.sc h5) (swS O.sc (by cases e <;> rfl))) (isF_lst h6)
      · have hi : c.N[i]? = some x := by
          rw [chkT] at h2
          simp only [Bool.and_eq_true, decide_eq_true_eq] at h2
          exact h2.1.1
        obtain ⟨a, b⟩ := sndSw (spos := pos) O hi h5 h3
        exact s_setM b (isF_lst a)
    · cases h
  | .setN i q, s, w, W, c, X, O, po, es_, hq, h => by
    rw [chkS.eq_def] at h
    dsimp only at h
    split at h
    · rename_i x p e pos
      simp only [Bool.and_eq_true] at h
      rw [show ex C (.setN i q) = fun σ S => (evM C q σ S).go σ fun d S => .nx (σ.set i (some d)) S from funext fun σ => funext fun S => by rw [ex]]
      exact s_setN O.sc (sndN O (hotNo hq rfl) q e h.1.1.2) (snd_t O (.nm i) _ h.1.1.1) h.1.2 h.2
    · cases h
  | .parN ts qs, s, w, W, c, X, O, po, es_, hq, h => by
    rw [chkS.eq_def] at h
    dsimp only at h
    split at h
    · rename_i es k p vs k2 p2 pos
      simp only [Bool.and_eq_true, decide_eq_true_eq] at h
      obtain ⟨⟨⟨⟨⟨⟨⟨h1, h2⟩, h3⟩, h4⟩, h5⟩, h6⟩, h8⟩, h9⟩ := h
      have hk : c.sc.kind = .function := by
        unfold isFun at h2
        split at h2
        · assumption
        · cases h2
      have A := sndNs O (hotNo hq rfl) qs _ h6
      split at h8
      · rename_i i j
        obtain ⟨x, px, y, py, rfl, a1, a2, b1, b2⟩ := plainTs2 h1
        have hv : vs.length = 2 := h9
        obtain ⟨a, b, rfl⟩ : ∃ a b, vs = [a, b] := by
          match vs, hv with
          | [a, b], _ => exact ⟨a, b, rfl⟩
        have ne : i ≠ j := by simpa using h4
        rw [show ex C (.parN [i, j] qs) = fun σ S => (evMs C qs σ S).go σ fun xs S => if xs.length = [i, j].length then .nx (setAll σ [i, j] xs) S else .bad from funext fun σ => funext fun S => by rw [ex]]
        exact s_par2 O (hotNo hq rfl) a1 b1 ne a2 b2 hk h3 h5 A
      · rename_i i j l
        obtain ⟨x, px, y, py, z, pz, rfl, a1, a2, b1, b2, c1, c2⟩ := plainTs3 h1
        have hv : vs.length = 3 := h9
        obtain ⟨a, b, d, rfl⟩ : ∃ a b d, vs = [a, b, d] := by
          match vs, hv with
          | [a, b, d], _ => exact ⟨a, b, d, rfl⟩
        have ne : (i ≠ j ∧ i ≠ l) ∧ j ≠ l := by simpa using h4
        rw [show ex C (.parN [i, j, l] qs) = fun σ S => (evMs C qs σ S).go σ fun xs S => if xs.length = [i, j, l].length then .nx (setAll σ [i, j, l] xs) S else .bad from funext fun σ => funext fun S => by rw [ex]]
        exact s_par3 O (hotNo hq rfl) a1 b1 c1 ne.1.1 ne.1.2 ne.2 a2 b2 c2 hk h3 h5 A
      · cases h8
    · cases h
  | .par ts qs, s, w, W, c, X, O, po, es_, hq, h => by
    rw [chkS.eq_def] at h
    dsimp only at h
    split at h
    · rename_i es k p vs k2 p2 pos
      simp only [Bool.and_eq_true, decide_eq_true_eq] at h
      obtain ⟨⟨⟨⟨⟨⟨⟨⟨h1, h2⟩, h3⟩, h4⟩, h5⟩, h6⟩, h7⟩, h8⟩, h9⟩ := h
      have hk : c.sc.kind = .function := by
        unfold isFun at h2
        split at h2
        · assumption
        · cases h2
      have A := snds (C := C) (w := w) (W := W) qs O h6
      split at h8
      · rename_i i j
        obtain ⟨x, px, y, py, rfl, a1, a2, b1, b2⟩ := plainTs2 h1
        have hv : vs.length = 2 := h9
        obtain ⟨a, b, rfl⟩ : ∃ a b, vs = [a, b] := by
          match vs, hv with
          | [a, b], _ => exact ⟨a, b, rfl⟩
        have ne : i ≠ j := by simpa using h4
        rw [show ex C (.par [i, j] qs) = fun σ S => (evs C qs σ S).go σ fun xs S => if xs.length = [i, j].length then .nx (setAll σ [i, j] xs) S else .bad from funext fun σ => funext fun S => by rw [ex]]
        exact s_par2 O (hotNo hq rfl) a1 b1 ne a2 b2 hk h3 h5 A
      · rename_i i j l
        obtain ⟨x, px, y, py, z, pz, rfl, a1, a2, b1, b2, c1, c2⟩ := plainTs3 h1
        have hv : vs.length = 3 := h9
        obtain ⟨a, b, d, rfl⟩ : ∃ a b d, vs = [a, b, d] := by
          match vs, hv with
          | [a, b, d], _ => exact ⟨a, b, d, rfl⟩
        have ne : (i ≠ j ∧ i ≠ l) ∧ j ≠ l := by simpa using h4
        rw [show ex C (.par [i, j, l] qs) = fun σ S => (evs C qs σ S).go σ fun xs S => if xs.length = [i, j, l].length then .nx (setAll σ [i, j, l] xs) S else .bad from funext fun σ => funext fun S => by rw [ex]]
        exact s_par3 O (hotNo hq rfl) a1 b1 c1 ne.1.1 ne.1.2 ne.2 a2 b2 c2 hk h3 h5 A
      · cases h8
    · cases h
  | .aug i o q, s, w, W, c, X, O, po, es_, hq, h => by
    rw [chkS.eq_def] at h
    dsimp only at h
    split at h
    · rename_i x p op e pos
      simp only [Bool.and_eq_true, decide_eq_true_eq] at h
      obtain ⟨⟨⟨⟨⟨h1, h2⟩, h3⟩, h4⟩, h5⟩, h6⟩ := h
      refine s_aug O h1 h2 ?_ (Option.isNone_iff_eq_none.mp h3) (snd q O h6).pe
      have e := eqOp_of h5
      cases o <;> try (cases h4; done)
      · exact .inl ⟨rfl, e⟩
      · exact .inr ⟨rfl, e⟩
    · cases h
  | .sub a i v, s, w, W, c, X, O, po, es_, hq, h => by
    rw [chkS.eq_def] at h
    dsimp only at h
    split at h
    · simp only [Bool.and_eq_true] at h
      obtain ⟨⟨⟨⟨h1, h2⟩, h3⟩, h4⟩, h5⟩ := h
      exact s_sub O (hotNo hq rfl) (snd a O h3).pe (snd i O h4).pe (snd v O h5).pe h2 h1
    · cases h
  | .expr q, s, w, W, c, X, O, po, es_, hq, h => by
    rw [chkS.eq_def] at h
    dsimp only at h
    split at h
    · rw [Bool.and_eq_true] at h
      exact s_expr (snd q O h.2).pe h.1
    · cases h
  | .ret q, s, w, W, c, X, O, po, es_, hq, h => by
    rw [chkS.eq_def] at h
    dsimp only at h
    split at h
    · exact s_ret (snd q O h).pe
    · cases h
  | .retM q, s, w, W, c, X, O, po, es_, hq, h => by
    rw [chkS.eq_def] at h
    dsimp only at h
    split at h
    · rw [Bool.and_eq_true] at h
      exact s_retM (sndF O (hotNo hq rfl) h.1 h.2) (isF_lst h.1)
    · cases h
  | .ife q a b, s, w, W, c, X, O, po, es_, hq, h => by
    rw [chkS.eq_def] at h
    dsimp only at h
    split at h
    · simp only [Bool.and_eq_true] at h
      exact s_if ((snd q O h.1.1.2).pt h.1.1.1) (sndSs a _ O po es_ h.1.2) (sndSs b _ O po es_ h.2)
    · cases h
  | .for_ t it is b, s, w, W, c, X, O, po, es_, hq, h => by
    rw [chkS.eq_def] at h
    dsimp only at h
    split at h
    · simp only [Bool.and_eq_true] at h
      exact s_for O (hotNo hq rfl) po (sndI it O h.1.1) (snd_t O t _ h.1.2) (sndSs b _ O po es_ h.2) (fold_ok (chkI_set h.1.1))
    · cases h
  | .whl q is b, s, w, W, c, X, O, po, es_, hq, h => by
    rw [chkS.eq_def] at h
    dsimp only at h
    split at h
    · simp only [Bool.and_eq_true] at h
      exact s_whl O po ((snd q O h.1.2).pt h.1.1) (sndSs b _ O po es_ h.2)
    · cases h
  | .pass, s, w, W, c, X, O, po, es_, hq, h => by
    rw [chkS.eq_def] at h
    dsimp only at h
    split at h
    · exact s_pass
    · cases h
  | .brk, s, w, W, c, X, O, po, es_, hq, h => by
    rw [chkS.eq_def] at h
    dsimp only at h
    split at h
    · exact s_brk
    · cases h
  | .cnt, s, w, W, c, X, O, po, es_, hq, h => by
    rw [chkS.eq_def] at h
    dsimp only at h
    split at h
    · exact s_cnt
    · cases h
  | .never, s, w, W, c, X, O, po, es_, hq, h => s_never
  | .mtch q cs, s, w, W, c, X, O, po, es_, hq, h => by
    rw [chkS.eq_def] at h
    dsimp only at h
    split at h
    · rw [Bool.and_eq_true] at h
      exact s_mtch (snd q O h.1).pe (sndCs cs _ O po es_ (hotNo hq rfl) h.2)
    · cases h
  | .raise k es, s, w, W, c, X, O, po, es_, hq, h => by
    rw [chkS.eq_def] at h
    dsimp only at h
    split at h
    · rename_i x xp e1 pos pos2
      simp only [Bool.and_eq_true, decide_eq_true_eq] at h
      obtain ⟨⟨h2, h3⟩, h4⟩ := h
      split at h4
      · simp only [Bool.and_eq_true, decide_eq_true_eq] at h4
        obtain ⟨⟨⟨h1, h5⟩, h6⟩, h7⟩ := h4
        split at h7
        · exact s_raise O (hotNo hq rfl) h1 h2 h3 h5 h6
        · cases h7
      · simp only [Bool.and_eq_true, decide_eq_true_eq, Bool.not_eq_true'] at h4
        obtain ⟨⟨⟨⟨h1, h5⟩, h6⟩, h7⟩, h8⟩ := h4
        subst h5
        exact s_raise14 O (hotNo hq rfl) h1 h6 h2 h3 (snds _ O h8) h7
      · cases h4
    · cases h
  | .try_ b hs, s, w, W, c, X, O, po, es_, hq, h => by
    rw [chkS.eq_def] at h
    dsimp only at h
    split at h
    · simp only [Bool.and_eq_true] at h
      obtain ⟨⟨⟨⟨h1, h2⟩, h5⟩, h3⟩, h4⟩ := h
      have h2 : c.hot = false ∨ c.th = true := by
        rw [Bool.or_eq_true, Bool.not_eq_true'] at h2
        exact h2
      exact s_try O es_ h1 h5 (fun W' pn xe tk po' => sndSs b _ (O.tr pn xe tk h2) po' es_.tr h3) (sndHs hs _ O es_ h1 h4)
    · cases h
theorem sndCs : ∀ (q : QCs) (s : List MatchCase) {w : Xd} {W : WX} {c : Cc} {X : Cx}, COk w C W c X → PassesOwn (model X.prog X.w) X.A X.env X.xe → Est X → c.hot = false → chkCs c q s = true → PCs X s w W (exc C q)
  | .nil, s, w, W, c, X, O, po, es_, hh, h => by
    rw [chkCs.eq_def] at h
    dsimp only at h
    split at h
    · exact c_nil
    · cases h
  | .cons p b cs, s, w, W, c, X, O, po, es_, hh, h => by
    rw [chkCs.eq_def] at h
    dsimp only at h
    split at h
    · simp only [Bool.and_eq_true] at h
      exact c_cons (sndP O hh p _ h.1.1) (sndSs b _ O po es_ h.1.2) (sndCs cs _ O po es_ hh h.2)
    · cases h
theorem sndHs : ∀ (q : QHs) (s : List ExceptHandler) {w : Xd} {W : WX} {c : Cc} {X : Cx}, COk w C W c X → Est X → c.xs = true → chkHs { c with hot := true, th := false, ti := none } q s = true → TryCl X s (clsOf w C q)
  | .nil, s, w, W, c, X, O, es_, hx, h => by
    rw [chkHs.eq_def] at h
    dsimp only at h
    split at h
    · exact .nil
    · cases h
  | .cons k i b hs, s, w, W, c, X, O, es_, hx, h => by
    rw [chkHs.eq_def] at h
    dsimp only at h
    split at h
    · rename_i x p1 on st sts p2 es
      simp only [Bool.and_eq_true, decide_eq_true_eq] at h
      obtain ⟨⟨⟨⟨⟨⟨h1, h2⟩, h3⟩, h4⟩, h5⟩, h6⟩, h7⟩ := h
      exact try_cons O hx h1 h2 h3 h4 (fun a oe cls d pn x hz hv hk hc => sndSs b _ (O.suite hx pn x hz hv hk hc) PassesOwn.never es_.suite h6) (sndHs hs es O es_ hx h7)
    · cases h
theorem sndSs : ∀ (q : List QS) (s : List Stmt) {w : Xd} {W : WX} {c : Cc} {X : Cx}, COk w C W c X → PassesOwn (model X.prog X.w) X.A X.env X.xe → Est X → chkSs c q s = true → PSs X s (TSq w W (exs C q))
  | [], s, w, W, c, X, O, po, es_, h => by
    rw [chkSs.eq_def] at h
    dsimp only at h
    split at h
    · exact s_nil
    · cases h
  | q :: qs, s, w, W, c, X, O, po, es_, h => by
    rw [chkSs.eq_def] at h
    dsimp only at h
    split at h
    · rw [Bool.and_eq_true, Bool.and_eq_true] at h
      exact s_cons (sndS q _ O po es_ (fun z => by
        have h1 := h.1.1
        rw [z] at h1
        exact h1) h.1.2) (sndSs qs _ O po es_ h.2)
    · cases h
end
end
end Rs

namespace Rs
open PySem PySem.Spec PyProof.Rows L2
/-! ### functions -/
theorem fm_congr {α β : Type} {f g : α → Option β} : ∀ {l : List α}, (∀ x ∈ l, f x = g x) → l.filterMap f = l.filterMap g
  | [], _ => rfl
  | a :: l, h => by rw [List.filterMap_cons, List.filterMap_cons, h a List.mem_cons_self, fm_congr fun x hx => h x (List.mem_cons_of_mem _ hx)]
theorem lookup_zip {ns : List Str} {us : List Value} (nd : ns.Nodup) (hl : us.length = ns.length) : ∀ {x : Str}, x ∈ ns → ∃ v, (ns.zip us).lookup x = some v := by
  induction ns generalizing us with
  | nil => intro x h; cases h
  | cons n ns ih =>
    intro x h
    match us, hl with
    | u :: us, hl =>
      rw [List.zip_cons_cons, List.lookup_cons]
      by_cases e : x == n
      · rw [e]; exact ⟨_, rfl⟩
      · rw [show (x == n) = false by simpa using e]
        have : x ≠ n := fun z => e (by rw [z]; exact beq_self_eq_true n)
        exact ih (List.nodup_cons.mp nd).2 (by simpa using hl) ((List.mem_cons.mp h).resolve_left this)
theorem filter_zip : ∀ {ns : List Str} {us : List Value}, ns.Nodup → us.length = ns.length → (ns.filterMap fun n => ((ns.zip us).lookup n).map (n, ·)) = ns.zip us := by
  intro ns us nd hl
  induction ns generalizing us with
  | nil => rfl
  | cons n ns ih =>
    match us, hl with
    | u :: us, hl =>
      rw [List.zip_cons_cons, List.filterMap_cons, List.lookup_cons, show (n == n) = true from beq_self_eq_true n]
      dsimp only [Option.map_some]
      congr 1
      refine Eq.trans ?_ (ih (List.nodup_cons.mp nd).2 (by simpa using hl))
      refine fm_congr fun x hx => ?_
      rw [List.lookup_cons]
      have : (x == n) = false := by
        rw [beq_eq_false_iff_ne]
        intro z
        subst z
        exact (List.nodup_cons.mp nd).1 hx
      rw [this]
theorem bind_plain {fd : FuncData} {as : List Arg} (hp : fd.params = ⟨[], as, none, [], [], none, []⟩) (hd : fd.defaults = .none) {us : List Value} (hl : us.length = (as.map (·.arg)).length) (nd : (as.map (·.arg)).Nodup) :
    bindArgs fd ⟨us, []⟩ = pure ((as.map (·.arg)).zip us) := by
  have h1 : ((as.map (·.arg)).filter fun n => (((as.map (·.arg)).zip us).lookup n).isNone) = [] := by
    rw [List.filter_eq_nil_iff]
    intro x hx
    obtain ⟨v, e⟩ := lookup_zip nd hl hx
    rw [e]
    exact Bool.false_ne_true
  unfold bindArgs
  have hs : seqItems? Value.none = pure none := rfl
  simp only [hp, hd, hs, List.map_nil, List.nil_append, pure_bind, Option.getD_none, List.length_nil, List.append_nil, Nat.zero_sub, List.drop_nil, Nat.sub_zero, List.take_length, h1, List.isEmpty_nil, Bool.not_true, List.forIn_nil, filter_zip nd hl, Bool.false_and]
  rw [hl]
  rw [if_neg (by rw [show decide ((List.map (fun x : Arg => x.arg) as).length > (List.map (fun x : Arg => x.arg) as).length) = false from decide_eq_false (Nat.lt_irrefl _)]; exact Bool.false_ne_true)]
  simp only [if_neg Bool.false_ne_true]
  rw [List.zip_nil_right]
  simp only [List.forIn_nil, pure_bind]
  rw [filter_zip nd hl]
def topP (P : Program) (i : Nat) : Stmt := P.main.body.getD i (.Pass ⟨0, 0, 0, 0⟩)
def plainArgs (p : Arguments) (ps : List Str) : Bool := match p with
  | ⟨[], as, none, [], [], none, []⟩ => decide (as.map (·.arg) = ps) && decide ps.Nodup
  | _ => false
def scopeB (N ps : List Str) (sc : Scope) : Bool := isFun sc && !sc.isCoroutine && !sc.isGenerator && decide N.Nodup && decide (N.take ps.length = ps) && ps.all (fun x => isLoc sc x) && sc.names.all (fun y => match y.2 with
  | .free => false
  | _ => true)
def QFn.ps (q : QFn) : List Str := q.N.take q.np
/-- what the texts of a function are checked with -/
def ccOf (T : List QFn) (con : List (Str × D)) (xs : Bool) (rs : List Nat) (q : QFn) (sc : Scope) : Cc := { N := q.N, sc := sc, fns := T.map (·.name), con := con, asg := none, ti := if q.kd = 0 then q.ti else none, xs := xs, hot := !decide (q.kd = 0), th := decide (q.kd = 1), rs := rs }
/-- what else is asked of the functions that are called with a function, within an except suite -/
def kdB (xs : Bool) (q : QFn) (sc : Scope) : Bool := decide (q.kd = 0) || (xs && (if q.kd = 1 then (match q.N with
  | a :: _ => decide (q.np = 1) && okName a && isVis sc a
  | [] => false) else pureSs q.body))
def chkQ (P : Program) (T : List QFn) (con : List (Str × D)) (xs : Bool) (rs : List Nat) (q : QFn) (i : Nat) : Bool :=
  plainArgs (defArgs (topP P i)) q.ps && scopeB q.N q.ps (defScope (topP P i)) && decide (q.ps.length = q.np) && (kdB xs q (defScope (topP P i)) && chkSs (ccOf T con xs rs q (defScope (topP P i))) q.body (defBody (topP P i)))
def chkAll (P : Program) (T : List QFn) (con : List (Str × D)) (xs : Bool) (rs : List Nat) : List QFn → List Nat → Bool
  | [], _ => true
  | q :: qs, i :: is => chkQ P T con xs rs q i && chkAll P T con xs rs qs is
  | _ :: _, [] => false
theorem chkAll_at {P : Program} {T : List QFn} {con : List (Str × D)} {xs : Bool} {rs : List Nat} : ∀ {qs : List QFn} {is : List Nat} {k : Nat} {q : QFn}, chkAll P T con xs rs qs is = true → qs[k]? = some q → ∃ i, is[k]? = some i ∧ chkQ P T con xs rs q i = true
  | [], _, k, q, _, h => by simp at h
  | _ :: _, [], k, q, h, _ => by simp [chkAll] at h
  | p :: qs, i :: is, 0, q, h, e => by
    rw [chkAll, Bool.and_eq_true] at h
    simp at e
    subst e
    exact ⟨i, rfl, h.1⟩
  | p :: qs, i :: is, k + 1, q, h, e => by
    rw [chkAll, Bool.and_eq_true] at h
    simp at e
    obtain ⟨j, h1, h2⟩ := chkAll_at h.2 e
    exact ⟨j, by simpa using h1, h2⟩
theorem scopeB_ok {N ps : List Str} {sc : Scope} (h : scopeB N ps sc = true) : FnScope N ps sc := by
  unfold scopeB at h
  simp only [Bool.and_eq_true, decide_eq_true_eq, Bool.not_eq_true'] at h
  obtain ⟨⟨⟨⟨⟨⟨h1, h2⟩, h3⟩, h4⟩, h5⟩, h6⟩, h7⟩ := h
  refine ⟨?_, h2, h3, h4, h5, fun x hx => ?_, fun y hy e => ?_⟩
  · unfold isFun at h1
    split at h1
    · assumption
    · cases h1
  · have := List.all_eq_true.mp h6 x hx
    unfold isLoc at this
    split at this
    · exact .inl (by assumption)
    · exact .inr (by assumption)
    · cases this
  · have := List.all_eq_true.mp h7 y hy
    rw [e] at this
    cases this
theorem plainArgs_ok {p : Arguments} {ps : List Str} (h : plainArgs p ps = true) {x q : Str} {body : List Stmt} {scope : Scope} {kV doc pm : Value} {an : Option Addr} {cdv ct : Value} {us : List Value} (hl : us.length = ps.length) :
    bindArgs (PySem.W.fnOf x q p body scope .none kV doc pm an cdv ct) ⟨us, []⟩ = pure (ps.zip us) := by
  unfold plainArgs at h
  split at h
  · rename_i as
    rw [Bool.and_eq_true, decide_eq_true_eq, decide_eq_true_eq] at h
    obtain ⟨rfl, h⟩ := h
    exact bind_plain rfl rfl hl h
  · cases h
/-! a call's end -/
section
variable {w : Xd} {L L' : List Addr} {H H' : Hp} {S S' : Store}
mutual
/-- of what is above n, p alone is kept -/
theorem Den.pick {K : KX} {n : Nat} {p : Addr} (hp : p ∈ L) (hl : n ≤ L.length) : ∀ (d : D) (v : V), d.lo n = true → Den K L H d v → Den K (L.take n ++ [p]) H d v
  | .non, v, _, h => h
  | .bl _, v, _, h => h
  | .int _, v, _, h => h
  | .str _, v, _, h => h
  | .tup ds, v, b, h => by
    rw [D.lo] at b
    rw [Den] at h ⊢
    obtain ⟨a, xs, e, ha, k, r⟩ := h
    exact ⟨a, xs, e, ha, ⟨fun z => (List.mem_append.mp z).elim (fun z => k.1 (List.mem_of_mem_take z)) fun z => k.1 (by rw [List.mem_singleton.mp z]; exact hp), k.2⟩, DenL.pick hp hl ds xs b r⟩
  | .lst ds, v, b, h => by
    rw [D.lo] at b
    rw [Den] at h ⊢
    obtain ⟨a, xs, e, ha, k, r⟩ := h
    exact ⟨a, xs, e, ha, ⟨fun z => (List.mem_append.mp z).elim (fun z => k.1 (List.mem_of_mem_take z)) fun z => k.1 (by rw [List.mem_singleton.mp z]; exact hp), k.2⟩, DenL.pick hp hl ds xs b r⟩
  | .scr ds, v, b, h => by
    rw [D.lo] at b
    rw [Den] at h ⊢
    obtain ⟨a, xs, e, ha, r⟩ := h
    refine ⟨a, xs, e, ?_, DenL.pick hp hl ds xs b r⟩
    rcases ha with ⟨k, o, ha⟩ | ha
    · exact .inl ⟨⟨fun z => (List.mem_append.mp z).elim (fun z => k.1 (List.mem_of_mem_take z)) fun z => k.1 (by rw [List.mem_singleton.mp z]; exact hp), k.2⟩, o, ha⟩
    · exact .inr ha
  | .obj i, v, b, h => by
    rw [D.lo] at b
    rw [Den] at h ⊢
    obtain ⟨a, e, ha⟩ := h
    have b := of_decide_eq_true b
    exact ⟨a, e, by rw [List.getElem?_append_left (by rw [List.length_take]; omega), List.getElem?_take_of_lt b]; exact ha⟩
  | .box k ds, v, b, h => by
    rw [D.lo] at b
    rw [Den] at h ⊢
    obtain ⟨a, xs, o, e, ha, hb, k, r⟩ := h
    exact ⟨a, xs, o, e, ha, hb, ⟨fun z => (List.mem_append.mp z).elim (fun z => k.1 (List.mem_of_mem_take z)) fun z => k.1 (by rw [List.mem_singleton.mp z]; exact hp), k.2⟩, DenL.pick hp hl ds xs b r⟩
  | .exn c ds, v, b, h => by
    rw [D.lo] at b
    rw [Den] at h ⊢
    obtain ⟨a, xs, e, hx, r, z⟩ := h
    exact ⟨a, xs, e, hx, DenL.pick hp hl ds xs b r, z.imp_right fun ⟨d, o, e1, e2, eo, k⟩ => ⟨d, o, e1, e2, eo, fun z => (List.mem_append.mp z).elim (fun z => k.1 (List.mem_of_mem_take z)) fun z => k.1 (by rw [List.mem_singleton.mp z]; exact hp), k.2⟩⟩
theorem DenL.pick {K : KX} {n : Nat} {p : Addr} (hp : p ∈ L) (hl : n ≤ L.length) : ∀ (ds : List D) (xs : List V), loL n ds = true → DenL K L H ds xs → DenL K (L.take n ++ [p]) H ds xs
  | [], xs, _, h => h
  | d :: ds, xs, b, h => by
    rw [loL] at b
    rw [DenL] at h ⊢
    obtain ⟨b1, b2⟩ := Bool.and_eq_true_iff.mp b
    obtain ⟨y, ys, e, r, rs⟩ := h
    exact ⟨y, ys, e, Den.pick hp hl d y b1 r, DenL.pick hp hl ds ys b2 rs⟩
end
theorem Rel.pick {K : KX} {n : Nat} {p : Addr} {i : Nat} {l : List D} {xs : List V} (r : Rel K L H S) (hi : L[i]? = some p) (hin : n ≤ i) (h1 : H p = some (.lst xs)) (h2 : DenL K L H l xs) (lo : loL n l = true) (nl : noXL l = true) : Rel K (L.take n ++ [p]) H (S.take n ++ [.lst l]) := by
  have hm : p ∈ L := List.mem_of_getElem? hi
  have hlt := (List.getElem?_eq_some_iff.mp hi).1
  have hl : n ≤ L.length := by omega
  have hn : (L.take n).length = n := by rw [List.length_take]; omega
  have hnS : (S.take n).length = n := by rw [List.length_take, ← r.len]; omega
  have np : p ∉ L.take n := fun z => by
    obtain ⟨j, hj⟩ := List.mem_iff_getElem?.mp z
    have hj1 := (List.getElem?_eq_some_iff.mp hj).1
    rw [hn] at hj1
    rw [List.getElem?_take_of_lt hj1] at hj
    have := nodup_at r.nd hj hi
    omega
  refine ⟨by rw [List.length_append, List.length_append, hn, hnS]; rfl, ?_, fun j mo e => ?_, fun a z => ⟨(r.ex a z).1, fun y => ?_⟩, r.nc, fun j mo e => ?_, fun j P q e => ?_⟩
  rotate_left 4
  · obtain ⟨e1, e2⟩ := r.tb j P q e
    refine ⟨fun y => ?_, e2⟩
    rcases List.mem_append.mp y with y | y
    · exact e1 (List.mem_of_mem_take y)
    · exact e1 (by rw [List.mem_singleton.mp y]; exact hm)
  rotate_right 1
  · by_cases hj : j < n
    · rw [List.getElem?_append_left (by omega), List.getElem?_take_of_lt hj] at e
      exact r.nx j mo e
    · have hj2 : j = n := by
        have := (List.getElem?_eq_some_iff.mp e).1
        rw [List.length_append, hnS, List.length_singleton] at this
        omega
      subst hj2
      rw [List.getElem?_append_right (by omega), hnS, Nat.sub_self] at e
      cases e
      exact nl
  · exact List.nodup_append.mpr ⟨r.nd.sublist (List.take_sublist _ _), by simp, fun a ha b hb z => np (by rw [← List.mem_singleton.mp hb, ← z]; exact ha)⟩
  · by_cases hj : j < n
    · rw [List.getElem?_append_left (by omega), List.getElem?_take_of_lt hj] at e
      obtain ⟨a, e1, m⟩ := r.at_ j mo e
      refine ⟨a, by rw [List.getElem?_append_left (by omega), List.getElem?_take_of_lt hj]; exact e1, ?_⟩
      obtain ⟨b, ys, o, k1, k0, k2⟩ := m
      exact ⟨b, ys, o, k1, k0, k2.pick hm hl _ ys (loL_le (Nat.le_of_lt hj) _ b)⟩
    · have hj2 : j = n := by
        have := (List.getElem?_eq_some_iff.mp e).1
        rw [List.length_append, hnS, List.length_singleton] at this
        omega
      subst hj2
      rw [List.getElem?_append_right (by omega), hnS, Nat.sub_self] at e
      cases e
      refine ⟨p, by rw [List.getElem?_append_right (by omega), hn, Nat.sub_self]; rfl, MOk.of_lst ⟨lo, xs, h1, h2.pick hm hl l xs lo⟩⟩
  · rcases List.mem_append.mp y with y | y
    · exact (r.ex a z).2 (List.mem_of_mem_take y)
    · exact (r.ex a z).2 (by rw [List.mem_singleton.mp y]; exact hm)
theorem fin_end {keep : Bool} {d : D} {v : V} {W : WX} {σ : L2.St} {Q : VK} (r0 : Rel w.K L H S) (h : EndR w (rD w) W σ L H Q (fin keep S.length d S')) (g : Gr L H L' H') (r : Rel w.K L' H' S') (dv : Den w.K L' H' d v) : Q v H' := by
  have hn : L.length = S.length := r0.len
  have eL : L'.take S.length = L := by
    rw [← hn]
    exact (List.prefix_iff_eq_take.mp g.pre).symm
  have g1 : Gr L H L H' := g.cut
  have r1 := r.cut S.length
  rw [eL] at r1
  have low : d.lo S.length = true → EndR w (rD w) W σ L H Q (.ok d (S'.take S.length)) → Q v H' := fun hlo h => by
    have d1 := dv.cut d v hlo
    rw [eL] at d1
    exact h v L H' g1 r1 d1
  cases d with
  | obj i =>
    have h : EndR w (rD w) W σ L H Q (if S.length ≤ i then match S'[i]? with
      | some (.lst l) => if loL S.length l = true then (if keep = true then .ok (.obj S.length) (S'.take S.length ++ [.lst l]) else .ok (.lst l) (S'.take S.length)) else .bad
      | _ => .bad
      else .ok (.obj i) (S'.take S.length)) := h
    split at h
    · rename_i hi
      split at h
      · rename_i l hl
        split at h
        · rename_i hlo
          obtain ⟨p, xs, rfl, e, h1, h2, lo⟩ := r.obj dv hl
          have h3 := h2.cut l xs hlo
          rw [eL] at h3
          have np : p ∉ L := fun z => by
            rw [← eL] at z
            obtain ⟨j, hj⟩ := List.mem_iff_getElem?.mp z
            have hj1 := (List.getElem?_eq_some_iff.mp hj).1
            rw [List.length_take] at hj1
            have hj2 : j < S.length := by omega
            rw [List.getElem?_take_of_lt hj2] at hj
            have := nodup_at r.nd hj e
            omega
          have nex : p ∉ w.K.ex := fun z => (r.ex p z).2 (List.mem_of_getElem? e)
          split at h
          · have gq : Gr L H (L ++ [p]) H' := ⟨List.prefix_append _ _, g.fr, fun a ha n => by
              rcases List.mem_append.mp ha with z | z
              · exact absurd z n
              · rw [List.mem_singleton.mp z]
                exact g.new p (List.mem_of_getElem? e) np⟩
            have hl2 : (S'.take S.length).length = S.length := by
              rw [← r1.len, hn]
            have rq := r.pick e hi h1 h2 hlo (r.nx _ _ hl)
            rw [eL] at rq
            refine h _ (L ++ [p]) H' gq rq ?_
            show Den _ _ _ _ _
            rw [Den]
            exact ⟨p, rfl, by rw [← hn, List.getElem?_append_right (Nat.le_refl _), Nat.sub_self]; rfl⟩
          · refine h _ L H' g1 r1 ?_
            show Den _ _ _ _ _
            rw [Den]
            exact ⟨p, xs, rfl, h1, ⟨np, nex⟩, h3⟩
        · exact h.elim
      · exact h.elim
    · rename_i hi
      exact low (by rw [D.lo]; exact decide_eq_true (by omega)) h
  | _ =>
    have h := h
    unfold fin at h
    dsimp only at h
    split at h
    · rename_i hlo
      exact low hlo h
    · exact h.elim
end
/-! the whole table -/
theorem erel_start {K : KX} {L : List Addr} {H : Hp} {N : List Str} {ds : List D} {vs : List V} (d : DenL K L H ds vs) : ERel K L H (ds.map some ++ List.replicate (N.length - ds.length) none) (L2.start N vs) := by
  have hl := d.length
  unfold L2.start
  refine ⟨by rw [List.length_append, List.length_append, List.length_map, List.length_map, List.length_replicate, List.length_replicate, hl], fun i x e => ?_⟩
  by_cases hi : i < ds.length
  · rw [List.getElem?_append_left (by rw [List.length_map]; exact hi), List.getElem?_map] at e
    cases q : ds[i]? with
    | none => rw [q] at e; cases e
    | some y =>
      rw [q] at e
      cases e
      obtain ⟨v, e1, hv⟩ := d.get q
      exact ⟨v, by rw [List.getElem?_append_left (by rw [List.length_map, ← hl]; exact hi), List.getElem?_map, e1]; rfl, hv⟩
  · rw [List.getElem?_append_right (by rw [List.length_map]; omega), List.getElem?_replicate] at e
    split at e <;> cases e
structure FnFact (P : Program) (K : PySem.W.Frag) (mg : Str → Option Value) (q : QFn) (i : Nat) : Prop where
  ok : ∃ f fd, mg q.name = some (.ref f) ∧ FunD K q.name q.name (defArgs (topP P i)) (defBody (topP P i)) (defScope (topP P i)) [] [] f fd
theorem callF_lv {T : List QFn} {n : Nat} : (callF T n).lv = 3 * n := by cases n <;> rfl
theorem callF_len {T : List QFn} {n k : Nat} {ds : List D} {S : Store} (h : callF T n k ds S ≠ .bad) : ∃ q, T[k]? = some q ∧ ds.length = q.np ∧ q.np ≤ q.N.length := by
  cases n with
  | zero => exact (h rfl).elim
  | succ n =>
    rw [callF] at h
    dsimp only at h
    cases q : T[k]? with
    | none => rw [q] at h; exact (h rfl).elim
    | some f =>
      rw [q] at h
      refine ⟨f, rfl, ?_⟩
      by_cases hc : (ds.length = f.np ∧ f.np ≤ f.N.length) ∧ f.kd = 0
      · exact hc.1
      · exfalso
        apply h
        show runF (callF T n) f ds S = .bad
        unfold runF
        rw [if_neg hc]
theorem hotF_len {T : List QFn} {n k : Nat} {ds : List D} {S : Store} {d : D} (h : (callF T n).hot k ds S = some d) : ∃ q m, T[k]? = some q ∧ n = m + 1 ∧ ((ds.length = q.np ∧ q.np ≤ q.N.length) ∧ q.kd = 2) ∧ runH (callF T m) q ds S = some d := by
  cases n with
  | zero => cases h
  | succ n =>
    rw [callF] at h
    dsimp only at h
    cases q : T[k]? with
    | none => rw [q] at h; cases h
    | some f =>
      rw [q] at h
      refine ⟨f, n, rfl, rfl, ?_, h⟩
      by_cases hc : (ds.length = f.np ∧ f.np ≤ f.N.length) ∧ f.kd = 2
      · exact hc
      · have h : runH (callF T n) f ds S = some d := h
        unfold runH at h
        rw [if_neg hc] at h
        cases h
theorem saidF {T : List QFn} {n k : Nat} {cap : List D} {th : Store → Out D} {S : Store} (h : (callF T n).said k cap th S ≠ .bad) : ∃ q m, T[k]? = some q ∧ n = m + 1 ∧ ((q.np = 1 ∧ q.np ≤ q.N.length) ∧ q.kd = 1) := by
  cases n with
  | zero => exact (h rfl).elim
  | succ n =>
    rw [callF] at h
    dsimp only at h
    cases q : T[k]? with
    | none => rw [q] at h; exact (h rfl).elim
    | some f =>
      rw [q] at h
      refine ⟨f, n, rfl, rfl, ?_⟩
      by_cases hc : (f.np = 1 ∧ f.np ≤ f.N.length) ∧ f.kd = 1
      · exact hc
      · exfalso
        apply h
        show runL { callF T n with thk := th } f cap S = .bad
        unfold runL
        rw [if_neg hc]
/-- what is known of a law's functions -/
structure Tb (P : Program) (w : World) (K : PySem.W.Frag) (mg : Str → Option Value) (base : Heap) (T : List QFn) (ix : List Nat) (con : List (Str × D)) (xs : Bool) (rs : List Nat) (xd : Xd) : Prop where
  hK : xd.K.K = K
  hF : xd.K.hf = fun k => k.hash w
  hX : xd.K.xn = none
  chk : chkAll P T con xs rs T ix = true
  G : ∀ (k : Nat) (q : QFn) (i : Nat), T[k]? = some q → ix[k]? = some i → FnFact P K mg q i
  bl : ∀ x ∈ bNames, mg x = none
  hc : ∀ x d, con.lookup x = some d → ∃ v u, mg x = some u ∧ RelV v u ∧ ∀ K L H, Den K L H d v
  xf : xs = true → XF P K mg xd.xc
  rf : ∀ k, rs.contains k = true → RzF K mg xd.xc k
  tt : ∀ (k : Nat) (q : QFn) (i ti : Nat) (f : Addr) (fd : FuncData), T[k]? = some q → ix[k]? = some i → q.ti = some ti → mg q.name = some (.ref f) → FunD K q.name q.name (defArgs (topP P i)) (defBody (topP P i)) (defScope (topP P i)) [] [] f fd →
    ∃ Pa cc, xd.K.tb[ti]? = some (Pa, (q.name ++ Str.ofString ".<locals>.") ++ "<lambda>") ∧ (∀ y ∈ xd.K.tb, y.1 = Pa → y.2 = (q.name ++ Str.ofString ".<locals>.") ++ "<lambda>") ∧ fd.code = .ref cc ∧ LamX.TabB base mg cc Pa
section
variable {P : Program} {w : World} {K : PySem.W.Frag} {mg : Str → Option Value} {base : Heap} {T : List QFn} {ix : List Nat} {con : List (Str × D)} {xs : Bool} {rs : List Nat} {xd : Xd}
/-- what is shown of the level n -/
def LevQ (P : Program) (w : World) (K : PySem.W.Frag) (mg : Str → Option Value) (base : Heap) (T : List QFn) (ix : List Nat) (xd : Xd) (n : Nat) : Prop :=
  ∀ (k : Nat) (q : QFn) (i : Nat) (f : Addr) (fd : FuncData), T[k]? = some q → ix[k]? = some i → mg q.name = some (.ref f) → FunD K q.name q.name (defArgs (topP P i)) (defBody (topP P i)) (defScope (topP P i)) [] [] f fd →
    FnG P w K mg base (L2.CX P w) (3 * n) f fd q.ps (spF xd q.ps.length (callF T n k)) ∧ FnHp P w K mg base (L2.CX P w) (3 * n) f fd q.ps (spH xd q.ps.length ((callF T n).hot k))
theorem Tb.at_ (Z : Tb P w K mg base T ix con xs rs xd) {k : Nat} {q : QFn} (hq : T[k]? = some q) : ∃ i f fd, ix[k]? = some i ∧ mg q.name = some (.ref f) ∧ FunD K q.name q.name (defArgs (topP P i)) (defBody (topP P i)) (defScope (topP P i)) [] [] f fd ∧
    plainArgs (defArgs (topP P i)) q.ps = true ∧ scopeB q.N q.ps (defScope (topP P i)) = true ∧ q.ps.length = q.np ∧ kdB xs q (defScope (topP P i)) = true ∧ chkSs (ccOf T con xs rs q (defScope (topP P i))) q.body (defBody (topP P i)) = true := by
  obtain ⟨i, hi, hchk⟩ := chkAll_at Z.chk hq
  obtain ⟨f, fd, hm, F⟩ := (Z.G k q i hq hi).ok
  unfold chkQ at hchk
  simp only [Bool.and_eq_true, decide_eq_true_eq] at hchk
  exact ⟨i, f, fd, hi, hm, F, hchk.1.1.1, hchk.1.1.2, hchk.1.2, hchk.2.1, hchk.2.2⟩
theorem Tb.name {k : Nat} {x : Str} (h : (T.map (·.name))[k]? = some x) : ∃ q, T[k]? = some q ∧ q.name = x := by
  rw [List.getElem?_map] at h
  cases hq : T[k]? with
  | none => rw [hq] at h; cases h
  | some q =>
    rw [hq] at h
    exact ⟨q, rfl, Option.some.inj h⟩
theorem Tb.call (Z : Tb P w K mg base T ix con xs rs xd) {n : Nat} (ih : LevQ P w K mg base T ix xd n) {k : Nat} {x : Str} (h : (T.map (·.name))[k]? = some x) :
    ∃ f fd ps, mg x = some (.ref f) ∧ PySem.W.keepIn K (.ref f) = true ∧ Binds K fd ps [] ∧ FnG P w K mg base (L2.CX P w) (callF T n).lv f fd ps (spF xd ps.length (callF T n k)) ∧ ∀ ds S, callF T n k ds S ≠ .bad → ds.length = ps.length := by
  obtain ⟨q, hq, rfl⟩ := Tb.name h
  obtain ⟨i, f, fd, hi, hm, F, c1, c2, c3, _, _⟩ := Z.at_ hq
  refine ⟨f, fd, q.ps, hm, F.kp, F.bindsN fun kV doc pm an cdv ct us hl => plainArgs_ok c1 hl, by rw [callF_lv]; exact (ih k q i f fd hq hi hm F).1, fun ds S hne => ?_⟩
  obtain ⟨q2, e2, e3, _⟩ := callF_len hne
  rw [hq] at e2
  cases e2
  rw [e3, c3]
theorem Tb.hot (Z : Tb P w K mg base T ix con xs rs xd) {n : Nat} (ih : LevQ P w K mg base T ix xd n) {k : Nat} {x : Str} (h : (T.map (·.name))[k]? = some x) :
    ∃ f fd ps, mg x = some (.ref f) ∧ PySem.W.keepIn K (.ref f) = true ∧ Binds K fd ps [] ∧ FnHp P w K mg base (L2.CX P w) (callF T n).lv f fd ps (spH xd ps.length ((callF T n).hot k)) ∧ ∀ ds S d, (callF T n).hot k ds S = some d → ds.length = ps.length := by
  obtain ⟨q, hq, rfl⟩ := Tb.name h
  obtain ⟨i, f, fd, hi, hm, F, c1, c2, c3, _, _⟩ := Z.at_ hq
  refine ⟨f, fd, q.ps, hm, F.kp, F.bindsN fun kV doc pm an cdv ct us hl => plainArgs_ok c1 hl, by rw [callF_lv]; exact (ih k q i f fd hq hi hm F).2, fun ds S d hne => ?_⟩
  obtain ⟨q2, m, e2, _, e3, _⟩ := hotF_len hne
  rw [hq] at e2
  cases e2
  rw [e3.1.1, c3]
theorem kd1 {q : QFn} {sc : Scope} (h : kdB xs q sc = true) (e : q.kd = 1) : xs = true ∧ ∃ a r, q.N = a :: r ∧ okName a = true ∧ isVis sc a = true := by
  unfold kdB at h
  rw [show decide (q.kd = 0) = false from decide_eq_false (by omega), Bool.false_or, Bool.and_eq_true, if_pos e] at h
  obtain ⟨h1, h2⟩ := h
  split at h2
  · rename_i a r en
    simp only [Bool.and_eq_true, decide_eq_true_eq] at h2
    exact ⟨h1, a, r, en, h2.1.2, h2.2⟩
  · cases h2
theorem kd2 {q : QFn} {sc : Scope} (h : kdB xs q sc = true) (e : q.kd = 2) : xs = true ∧ pureSs q.body = true := by
  unfold kdB at h
  rw [show decide (q.kd = 0) = false from decide_eq_false (by omega), Bool.false_or, Bool.and_eq_true, if_neg (by omega)] at h
  exact h
/-- a def that is called with a function -/
theorem Tb.said (Z : Tb P w K mg base T ix con xs rs xd) {n : Nat} (prev : ∀ m, n = m + 1 → LevQ P w K mg base T ix xd m) {X : Cx} (e1 : X.prog = P) (e2 : X.w = w) (e3 : X.K = K) (e4 : X.mg = mg) (e5 : X.base = base) {ex0 : List Addr} {k : Nat} {x : Str} (h : (T.map (·.name))[k]? = some x)
    {cap : List D} {th : Store → Out D} {S : Store} (hne : (callF T n).said k cap th S ≠ .bad) : SaidOk { xd with K := { xd.K with ex := ex0 } } (callF T n) X k x := by
  obtain ⟨q, hq, rfl⟩ := Tb.name h
  obtain ⟨i, f, fd, hi, hm, F, c1, c2, c3, c4, c5⟩ := Z.at_ hq
  obtain ⟨q2, m, e6, en, ⟨e7, e8⟩, e9⟩ := saidF hne
  rw [hq] at e6
  cases e6
  subst en
  have ih := prev m rfl
  obtain ⟨hs, a, r, eN, ha1, ha2⟩ := kd1 c4 e9
  obtain ⟨oc, od, dV, kV, doc, pm, an, cdv, ct, osl, rfl, lk, hcd, hD, hKw⟩ := id F.ex
  have eps : q.ps = [a] := by
    unfold QFn.ps
    rw [eN, e7]
    rfl
  have S0 := scopeB_ok c2
  rw [eps] at S0 c1
  subst e1 e2 e3 e4 e5
  refine ⟨f, a, defArgs (topP X.prog i), defBody (topP X.prog i), defScope (topP X.prog i), q.N, dV, kV, doc, pm, cdv, ct, oc, an, od, osl, hm, F.kp, lk, hcd, F.bindsN fun kV doc pm an cdv ct us hl => plainArgs_ok c1 hl, S0, by rw [eN]; rfl, ?_, ha1, ?_⟩
  · unfold isVis at ha2
    split at ha2
    · exact .inl (by assumption)
    · exact .inr (.inl (by assumption))
    · exact .inr (.inr (by assumption))
    · cases ha2
  intro ex A outer fl cc qn xv s H Q E th cap L S w' cx gd hr hx hth rel dcap hco hq'
  have cn : cc ∉ L := fun z => rel.noCode_at z hco cc _ rfl
  have cex : cc ∉ w'.K.ex := fun z => (rel.nc cc z _ hco).1 cc _ rfl
  let wl : Xd := w'.lam fl cc qn xv cap
  have O : COk wl { callF T m with thk := th } (fun cls oe _ H' => E cls oe H') (ccOf T con xs rs q (defScope (topP X.prog i))) cx := {
    sc := rfl
    N := rfl
    nd := S0.nd
    calm := fun _ => rfl
    K := Z.hK.symm
    hf := Z.hF
    un := by
      have := hr.un
      show (A.deeper _).units + 65 < cLine
      omega
    gd := deeper_guards gd
    tk := takes_of rfl rfl rfl rfl
    bl := Z.bl
    con := Z.hc
    rm := fun z => by
      have z : (!decide (q.kd = 0)) = false := z
      rw [e9] at z
      cases z
    rh := L2H.roomH_of (hr.mono (by show (callF T m).lv ≤ (callF T (m + 1)).lv + 1; rw [callF_lv, callF_lv]; omega))
    r2 := fun z => by
      have z : (!decide (q.kd = 0)) = false := z
      rw [e9] at z
      cases z
    fh := fun _ k' x' h' => ⟨Z.hot ih h'⟩
    sd := fun z => by
      have z : (if q.kd = 0 then q.ti else none).isSome = true := z
      rw [e9] at z
      cases z
    fn := fun z => by
      have z : (!decide (q.kd = 0)) = false := z
      rw [e9] at z
      cases z
    xf := Z.xf
    rf := Z.rf
    hx := fun _ z => by
      have z : decide (q.kd = 1) = false := z
      rw [e9] at z
      cases z
    thh := fun _ => by
      show (!decide (q.kd = 0)) = true
      rw [e9]
      rfl
    th := fun _ pn xe W' x' p1 p2 tk2 h0 _ _ => by
      have h0 : q.N[0]? = some x' := h0
      rw [eN] at h0
      cases h0
      exact hth pn xe W' p1 p2 tk2
    xn := fun z => by
      have z : (!decide (q.kd = 0)) = false := z
      rw [e9] at z
      cases z
    tb := fun ti z => by
      have z : (if q.kd = 0 then q.ti else none) = some ti := z
      rw [e9] at z
      cases z
    as := fun x _ _ => .inl rfl }
  have po : PassesOwn (model cx.prog cx.w) cx.A cx.env cx.xe := passes_of rfl
  refine ⟨_, sndSs q.body _ O po ⟨rfl, rfl⟩ c5, ?_⟩
  have hb : (callF T (m + 1)).said k cap th S = runL { callF T m with thk := th } q cap S := by
    rw [callF]
    dsimp only
    rw [hq]
  have e : EndR w' (rD w') (fun cls oe _ H' => E cls oe H') [] L H Q ((callF T (m + 1)).said k cap th S) := hq'
  rw [hb] at e
  unfold runL at e
  rw [if_pos ⟨⟨e7, e8⟩, e9⟩] at e
  have ncap : noXL cap = true := DenL.noX_ hx _ _ dcap
  have relL : Rel wl.K L H S := rel.sw
  have d0 : DenL wl.K L H [.exn 99 cap] [.ref fl] := by
    refine DenL.cons ?_ DenL.nil
    rw [Den]
    exact ⟨{ a := fl, c := 99, d := some cc, q := qn, xs := xv, ds := cap }, xv, rfl, ⟨rfl, rfl⟩, DenL.sw _ _ ncap dcap, .inr ⟨cc, _, rfl, hco, by unfold ExO; rw [if_pos rfl]; exact ⟨rfl, rfl, rfl⟩, cn, cex⟩⟩
  refine ⟨_, S, L, erel_start (N := q.N) d0, relL, ?_⟩
  have eσ : ([D.exn 99 cap].map some ++ List.replicate (q.N.length - [D.exn 99 cap].length) none : Env) = some (D.exn 99 cap) :: List.replicate (q.N.length - 1) none := rfl
  rw [eσ]
  have back : ∀ {L' : List Addr} {H' : Hp} {S' : Store}, Rel wl.K L' H' S' → Rel w'.K L' H' S' := fun {L' H' S'} r => Rel.sw (K := wl.K) (xn := w'.K.xn) r
  cases hx2 : exs { callF T m with thk := th } q.body (some (D.exn 99 cap) :: List.replicate (q.N.length - 1) none) S with
  | rt y S' =>
    rw [hx2] at e
    have e : EndR w' (rD w') (fun cls oe _ H' => E cls oe H') [] L H Q (if y.noX = true then fin q.keep S.length y S' else .bad) := e
    split at e
    · rename_i hn
      exact fun v L' H' g r' dv => fin_end rel e g (back r') (Den.sw (K := wl.K) (xn := w'.K.xn) y v hn dv)
    · exact e.elim
  | nx σ1 S' =>
    rw [hx2] at e
    intro σ' L' H' g er' r'
    have eL : L'.take S.length = L := by
      rw [← rel.len]
      exact (List.prefix_iff_eq_take.mp g.pre).symm
    have r1 := (back r').cut S.length
    rw [eL] at r1
    exact e _ L H' g.cut r1 den_n
  | exc x σ1 S' =>
    rw [hx2] at e
    have e : EndR w' (rD w') (fun cls oe _ H' => E cls oe H') [] L H Q (if loL S.length x.fs = true ∧ noXL x.fs = true then .exc x (S'.take S.length) else .bad) := e
    split at e
    · rename_i hlo
      intro σ' cls oe L' H' g er' r' ho
      have eL : L'.take S.length = L := by
        rw [← rel.len]
        exact (List.prefix_iff_eq_take.mp g.pre).symm
      have r1 := (back r').cut S.length
      rw [eL] at r1
      refine e cls oe L H' g.cut r1 ⟨ho.1, ?_⟩
      rcases ho.2 with z | ⟨dd, us, h1, h2, h3, h4⟩
      · exact .inl z
      · have h5 := (DenL.sw (K := wl.K) (xn := w'.K.xn) _ _ hlo.2 h4).cut x.fs us hlo.1
        rw [eL] at h5
        exact .inr ⟨dd, us, h1, h2, ⟨fun z => h3.1 (by rw [← eL] at z; exact List.mem_of_mem_take z), h3.2⟩, h5⟩
    · exact e.elim
  | bk σ1 S' => rw [hx2] at e; exact e.elim
  | ct σ1 S' => rw [hx2] at e; exact e.elim
  | bad => rw [hx2] at e; exact e.elim
/-- a def within an except suite -/
theorem Tb.hot1 (Z : Tb P w K mg base T ix con xs rs xd) {n : Nat} (ih : LevQ P w K mg base T ix xd n) {k i : Nat} {q : QFn} {f : Addr} {fd : FuncData} (hq : T[k]? = some q) (hi : ix[k]? = some i) (F : FunD K q.name q.name (defArgs (topP P i)) (defBody (topP P i)) (defScope (topP P i)) [] [] f fd) :
    FnHp P w K mg base (L2.CX P w) (3 * n + 2 + 1) f fd q.ps (spH xd q.ps.length ((callF T (n + 1)).hot k)) := by
  obtain ⟨i', f', fd', hi', hm, F', c1, c2, c3, c4, c5⟩ := Z.at_ hq
  rw [hi] at hi'
  cases hi'
  have S0 := scopeB_ok c2
  obtain ⟨oc, od, dV, kV, doc, pm, an, cdv, ct, osl, rfl, lk, hcd, _, _⟩ := F.ex
  refine fn_hp lk hcd S0 (fun p vs H Q E h => h.1) fun A outer s H vs Q E p gd hr h => ?_
  obtain ⟨hlen, ex, xn, L, S, ds, d, ⟨z, z1, z2, z3, z4, z5⟩, r, dl, hd, hq'⟩ := h
  obtain ⟨q2, m, e2, en, ⟨e3, e4⟩, e5⟩ := hotF_len hd
  rw [hq] at e2
  cases e2
  cases en
  obtain ⟨hs, pu⟩ := kd2 c4 e4
  let xw : Xd := { xd with K := { xd.K with ex := ex, xn := xn } }
  let X : Cx := L2H.cxH (L2.CX P w) P w K mg base q.N q.name (defScope (topP P i)) f cdv A outer s H E p
  have O : COk xw (callF T n) (fun cls oe _ H' => E cls oe H') (ccOf T con xs rs q (defScope (topP P i))) X := {
    sc := rfl
    N := rfl
    nd := S0.nd
    calm := fun z => by
      have z : (!decide (q.kd = 0)) = false := z
      rw [e4] at z
      cases z
    K := Z.hK.symm
    hf := Z.hF
    un := by
      have := hr.un
      show (A.deeper _).units + 65 < cLine
      omega
    gd := deeper_guards gd
    tk := takes_of rfl rfl rfl rfl
    bl := Z.bl
    con := Z.hc
    rm := fun z => by
      have z : (!decide (q.kd = 0)) = false := z
      rw [e4] at z
      cases z
    rh := hr.mono (by rw [callF_lv]; omega)
    r2 := fun z => by
      have z : (!decide (q.kd = 0)) = false := z
      rw [e4] at z
      cases z
    fh := fun _ k' x' h' => ⟨Z.hot ih h'⟩
    sd := fun z => by
      have z : (if q.kd = 0 then q.ti else none).isSome = true := z
      rw [e4] at z
      cases z
    fn := fun z => by
      have z : (!decide (q.kd = 0)) = false := z
      rw [e4] at z
      cases z
    xf := Z.xf
    rf := Z.rf
    hx := fun _ _ => ⟨z, p.2, z1, by rw [← z2]; exact List.mem_cons_self, z3, z4, z5⟩
    thh := fun y => by
      have y : decide (q.kd = 1) = true := y
      rw [e4] at y
      cases y
    th := fun y => by
      have y : decide (q.kd = 1) = true := y
      rw [e4] at y
      cases y
    xn := fun z => by
      have z : (!decide (q.kd = 0)) = false := z
      rw [e4] at z
      cases z
    tb := fun ti z => by
      have z : (if q.kd = 0 then q.ti else none) = some ti := z
      rw [e4] at z
      cases z
    as := fun x _ _ => .inl rfl }
  have po : PassesOwn (model X.prog X.w) X.A X.env X.xe := passes_of rfl
  refine ⟨_, sndSs q.body _ O po ⟨rfl, rfl⟩ c5, ?_⟩
  refine ⟨_, S, L, erel_start (N := q.N) dl, r, ?_⟩
  have pe := exs_pure (C := callF T n) q.body (ds.map some ++ List.replicate (q.N.length - ds.length) none) S pu
  unfold runH at e5
  rw [if_pos ⟨e3, e4⟩] at e5
  cases hx2 : exs (callF T n) q.body (ds.map some ++ List.replicate (q.N.length - ds.length) none) S with
  | rt y S' =>
    rw [hx2] at e5 pe
    have pe : S' = S := pe
    subst pe
    have e5 : (if y.noX = true then some y else none) = some d := e5
    split at e5
    · cases e5
      exact fun v L' H' g r' dv => hq' v L' H' g r' dv
    · cases e5
  | nx σ1 S' => rw [hx2] at e5; cases e5
  | exc x σ1 S' => rw [hx2] at e5; cases e5
  | bk σ1 S' => rw [hx2] at e5; cases e5
  | ct σ1 S' => rw [hx2] at e5; cases e5
  | bad => rw [hx2] at e5; cases e5
theorem Tb.fns (Z : Tb P w K mg base T ix con xs rs xd) : ∀ n, LevQ P w K mg base T ix xd n
  | 0 => by
    intro k q i f fd _ _ _ _
    refine ⟨⟨fun vs H Q E h => h.1, fun A outer s H args us vs Q E _ _ _ _ _ h => ?_⟩, ⟨fun p vs H Q E h => h.1, fun A outer s H args us vs Q E p _ _ _ _ _ _ h => ?_⟩⟩
    · obtain ⟨_, ex, L, S, ds, _, _, z⟩ := h
      exact z.elim
    · obtain ⟨_, ex, xn, L, S, ds, d, _, _, _, z, _⟩ := h
      cases z
  | n + 1 => by
    have ih := Z.fns n
    intro k q i f fd hq hi hmf F
    refine ⟨?_, Z.hot1 ih hq hi F⟩
    obtain ⟨i', f', fd', hi', hm, F', c1, c2, c3, c4, c5⟩ := Z.at_ hq
    rw [hi] at hi'
    cases hi'
    have S0 := scopeB_ok c2
    have TT := fun ti (h : q.ti = some ti) => Z.tt k q i ti f fd hq hi h hmf F
    obtain ⟨oc, od, dV, kV, doc, pm, an, cdv, ct, osl, rfl, lk, hcd, _, _⟩ := F.ex
    show FnG P w K mg base (L2.CX P w) (3 * n + 2 + 1) _ _ _ _
    refine fn_g lk hcd S0 (fun vs H Q E h => h.1) fun A outer s H vs Q E gd hr h => ?_
    obtain ⟨hlen, ex, L, S, ds, r, d, e⟩ := h
    let xw : Xd := { xd with K := { xd.K with ex := ex } }
    have hb : callF T (n + 1) k ds S = runF (callF T n) q ds S := by
      rw [callF]
      dsimp only
      rw [hq]
    have e : EndR xw (rD xw) (fun cls oe _ H' => E cls oe H') [] L H Q (callF T (n + 1) k ds S) := e
    rw [hb] at e
    unfold runF at e
    split at e
    · rename_i hnp
      have hk0 := hnp.2
      let X : Cx := cxOf (L2.CX P w) P w K mg base q.N q.name (defScope (topP P i)) f cdv A outer s H E
      have O : COk xw (callF T n) (fun cls oe _ H' => E cls oe H') (ccOf T con xs rs q (defScope (topP P i))) X := {
        sc := rfl
        N := rfl
        nd := S0.nd
        calm := fun _ => rfl
        K := Z.hK.symm
        hf := Z.hF
        un := by
          have := hr.un
          show (A.deeper _).units + 65 < cLine
          omega
        gd := deeper_guards gd
        tk := takes_of rfl rfl rfl rfl
        bl := Z.bl
        con := Z.hc
        rm := fun _ => hr.mono (by rw [callF_lv]; omega)
        rh := L2H.roomH_of (hr.mono (by rw [callF_lv]; omega))
        r2 := fun _ _ => hr.mono (by rw [callF_lv]; omega)
        fh := fun _ k' x' h' => ⟨Z.hot ih h'⟩
        sd := fun _ => ⟨hr.mono (by rw [callF_lv]; omega), fun k' x' h' cap th S' hne => Z.said (fun m em => by subst em; exact Z.fns m) rfl rfl rfl rfl rfl h' hne⟩
        fn := fun _ k' x' h' => ⟨Z.call ih h'⟩
        xf := Z.xf
        rf := Z.rf
        hx := fun y => by
          have y : (!decide (q.kd = 0)) = true := y
          rw [hk0] at y
          cases y
        thh := fun y => by
          have y : decide (q.kd = 1) = true := y
          rw [hk0] at y
          cases y
        th := fun y => by
          have y : decide (q.kd = 1) = true := y
          rw [hk0] at y
          cases y
        xn := fun _ => Z.hX
        tb := fun ti z => by
          have z : (if q.kd = 0 then q.ti else none) = some ti := z
          rw [if_pos hk0] at z
          obtain ⟨Pa, cc, t1, t2, t3, t4⟩ := TT ti z
          exact ⟨Pa, cc, t1, t2, t3, t4⟩
        as := fun x _ _ => .inl rfl }
      have po : PassesOwn (model X.prog X.w) X.A X.env X.xe := passes_of rfl
      refine ⟨_, sndSs q.body _ O po ⟨rfl, rfl⟩ c5, ?_⟩
      refine ⟨_, S, L, erel_start (N := q.N) d, r, ?_⟩
      cases hx : exs (callF T n) q.body (ds.map some ++ List.replicate (q.N.length - ds.length) none) S with
      | rt y S' =>
        rw [hx] at e
        exact fun v L' H' g r' dv => fin_end r e g r' dv
      | nx σ1 S' =>
        rw [hx] at e
        intro σ' L' H' g er' r'
        have eL : L'.take S.length = L := by
          rw [← r.len]
          exact (List.prefix_iff_eq_take.mp g.pre).symm
        have r1 := r'.cut S.length
        rw [eL] at r1
        exact e _ L H' g.cut r1 den_n
      | exc x σ1 S' =>
        rw [hx] at e
        have e : EndR xw (rD xw) (fun cls oe _ H' => E cls oe H') [] L H Q (if loL S.length x.fs = true then .exc x (S'.take S.length) else .bad) := e
        split at e
        · rename_i hlo
          intro σ' cls oe L' H' g er' r' ho
          have eL : L'.take S.length = L := by
            rw [← r.len]
            exact (List.prefix_iff_eq_take.mp g.pre).symm
          have r1 := r'.cut S.length
          rw [eL] at r1
          refine e cls oe L H' g.cut r1 ⟨ho.1, ?_⟩
          rcases ho.2 with z | ⟨dd, us, h1, h2, h3, h4⟩
          · exact .inl z
          · have h5 := h4.cut x.fs us hlo
            rw [eL] at h5
            exact .inr ⟨dd, us, h1, h2, ⟨fun z => h3.1 (by rw [← eL] at z; exact List.mem_of_mem_take z), h3.2⟩, h5⟩
        · exact e.elim
      | bk σ1 S' => rw [hx] at e; exact e.elim
      | ct σ1 S' => rw [hx] at e; exact e.elim
      | bad => rw [hx] at e; exact e.elim
    · exact e.elim
end
end Rs

namespace Rs
open PySem PySem.Spec PyProof.Rows L2
/-! ### looked at in the head: an own exception class with its __init__ -/
def oexB (K : PySem.W.Frag) (C : Addr) : Bool := (match K.lookup C with
  | some ⟨.type "type", _, .cls ⟨_, _, .ref C' :: bm, _, _, true, _, _, _, _, false⟩, sl⟩ => decide (C' = C) && PySem.HandSPX.refsVE bm && (match sl.toList with
    | [_, _, _, _, some (.builtin n), _] => decide (n = "ValueError.__new__")
    | _ => false)
  | _ => false) && (He.eqO (PySem.W.findIn K (.ref C) "__setattr__") (some (some (.builtin "object.__setattr__"))) && (decide (PySem.W.subIn K (.ref C) (.type "BaseException") = some true) && (decide (PySem.W.typeIn K (.ref C) = some (.type "type")) && PySem.W.keepIn K (.ref C))))
theorem oexB_ok {K : PySem.W.Frag} {C : Addr} (h : oexB K C = true) : OexC K C := by
  unfold oexB at h
  simp only [Bool.and_eq_true, decide_eq_true_eq] at h
  obtain ⟨h1, h2, h3, h4, h5⟩ := h
  refine ⟨?_, He.eqO_ok h2, h3, h4, h5⟩
  split at h1
  · rename_i od nm bs C' bm ns q sn sub ab col sl e
    simp only [Bool.and_eq_true, decide_eq_true_eq] at h1
    obtain ⟨⟨h6, h7⟩, h8⟩ := h1
    subst h6
    split at h8
    · rename_i k0 k1 k2 k3 n k5 es
      have en : n = "ValueError.__new__" := of_decide_eq_true h8
      subst en
      refine ⟨nm, q, ns, bs, bm, sn, sub, ab, col, od, k0, k1, k2, k3, k5, ?_, h7⟩
      rw [e]
      have : sl = #[k0, k1, k2, k3, some (.builtin "ValueError.__new__"), k5] := by
        apply Array.toList_inj.mp
        exact es
      rw [this]
    · cases h8
  · cases h1
def isFree (sc : Scope) (x : Str) : Bool := match sc.names.lookup x with
  | some .free => true
  | _ => false
/-- the __init__: super().__init__(text), self.field = field -/
def iniB (K : PySem.W.Frag) (C : Addr) (file f1 : Str) (fd : FuncData) : Bool := match fd with
  | ⟨_, qual, ⟨[], [a1, a2], none, [], [], none, []⟩, .stmts [.Expr (.Call (.Attribute (.Call (.Name su _) [] [] _) ini ap) [.Constant (.str _) _ _] [] p) _, .Assign [.Attribute (.Name se _) f _] (.Name yn _) _], sc, g, [(cn, cc)], .none, _, _, _, _, .ref cda, _, bt⟩ =>
    decide (su = ("super" : Str)) && (decide (ini = ("__init__" : Str)) && (decide (cn = ("__class__" : Str)) && (decide (f = f1) && (decide (g = mainGlobals) && (decide (bt = builtinsNs) && (decide (a1.arg = se) && (decide (a2.arg = yn) && (decide (se ≠ yn) && (
    (!(se == ("__debug__" : Str)) && !(yn == ("__debug__" : Str))) && ((ap.endLine == p.line) && (isGl sc "super" && (isFree sc "__class__" && (isPlainLoc sc se && (isPlainLoc sc yn && (isFun sc && (!sc.isCoroutine && (!sc.isGenerator && (
    (sc.names.all fun x => match x.2 with
      | .cell => false
      | _ => true) && (PySem.W.codeIn K (.ref cda) qual && ((match K.lookup cda with
      | some ⟨_, _, .fields vs, _⟩ => (match (vs[2]? : Option Value) with
        | some (.str fl _) => file == fl
        | _ => false)
      | _ => false) && (match K.lookup cc with
      | some ⟨_, _, .cell (some (.ref D)), _⟩ => (PySem.W.clsIn K D).isSome && (decide (PySem.W.mroIn K C (.ref D) = some true) && He.eqO (PySem.W.ks_superIn K C D "__init__") (some (some (.builtin "ValueError.__init__"))))
      | _ => false)))))))))))))))))))))
  | _ => false
theorem iniB_ok {P : Program} {K : PySem.W.Frag} {mg : Str → Option Value} {C fI : Addr} {f1 : Str} {fd : FuncData} {oc : Value} {od : Option Addr} {osl : Array (Option Value)} (lk : K.lookup fI = some ⟨oc, od, .func fd, osl⟩) (exI : PySem.W.excInitIn K C He.veBase "ValueError.__new__" = true)
    (subVE : PySem.W.subIn K (.ref C) (.type "ValueError") = some true) (opq : PySem.W.nsIn K cStatics "thirdparty.any" = some none) (noS : mg "super" = none) (top : (P.main.scope.names.lookup ("super" : Str)).isSome = false) (T : OexC K C)
    (hno : PySem.W.findIn K (.ref C) f1 = some none) (h : iniB K C P.main.file f1 fd = true) : ∃ ps, Binds K fd ps [] ∧ ∀ (w : World) (base : Heap) (CX : CXT) (k : Nat), FnOk P w K mg base CX (k + 1) fI fd ps (spI1 C f1) := by
  unfold iniB at h
  split at h
  · rename_i nm qual a1 a2 su p0 p1 ini ap msg j pm2 p ep se q1 f q2 yn q3 q4 sc g cn cc kV doc pm an cda ct bt
    simp only [Bool.and_eq_true, decide_eq_true_eq, Bool.not_eq_true'] at h
    obtain ⟨h1, h2, h3, h4, h5, h6, h7, h8, h9, ⟨h10, h11⟩, h12, h13, h14, h15, h16, h17, h18, h19, h20, h21, h22, h23⟩ := h
    subst h1 h2 h3 h4 h5 h6
    have pl : ∀ {x : Str}, isPlainLoc sc x = true → sc.names.lookup x = some .local := fun {x} z => by
      unfold isPlainLoc at z
      split at z
      · assumption
      · cases z
    have hk : sc.kind = .function := by
      unfold isFun at h17
      split at h17
      · assumption
      · cases h17
    split at h22
    · rename_i ccl cdd vs ccs ecode
      split at h22
      · rename_i fl tf evs
        split at h23
        · rename_i cl cld D csl ecell
          simp only [Bool.and_eq_true, decide_eq_true_eq] at h23
          obtain ⟨h24, h25, h26⟩ := h23
          obtain ⟨cdD, eD⟩ := Option.isSome_iff_exists.mp h24
          refine ⟨[se, yn], .all fun us hl => ?_, fun w base CX k => ?_⟩
          · refine (bind_plain rfl rfl (as := [a1, a2]) (us := us) (by rw [hl]; rfl) (by
              show [a1.arg, a2.arg].Nodup
              rw [h7, h8]
              simpa using h9)).trans ?_
            show pure ([a1.arg, a2.arg].zip us) = _
            rw [h7, h8]
          · refine init1 (cc := cc) (cda := cda) (D := D) (nm := nm) (qual := qual) (se := se) (yn := yn) (sc := sc) (kV := kV) (doc := doc) (pm := pm) (ct := ct) (an := an) (a1 := a1) (a2 := a2) rfl ⟨⟨oc, od, osl, lk⟩, exI, ⟨a1, rfl, h7⟩, ⟨ccl, cdd, vs, ccs, fl, tf, ecode, evs, h22⟩, ⟨cl, cld, csl, ecell⟩, ⟨cdD, eD⟩, h25, subVE, He.eqO_ok h26, opq, noS, top, ?_, ?_, pl h15, hk⟩ T hno h7 h8 h9 h10 h11 (pl h16) h21 (fun x hx e => ?_) h12 h18 h19
            · unfold isGl at h13
              split at h13
              · assumption
              · cases h13
            · unfold isFree at h14
              split at h14
              · assumption
              · cases h14
            · have := List.all_eq_true.mp h20 x hx
              rw [e] at this
              cases this
        · cases h23
      · cases h22
    · cases h22
  · cases h
/-- NotSafe -/
def nsB (K : PySem.W.Frag) (C : Addr) (file : Str) : Bool := PySem.W.excInitIn K C He.veBase "ValueError.__new__" && (decide (PySem.W.subIn K (.ref C) (.type "ValueError") = some true) && (He.eqO (PySem.W.nsIn K cStatics "thirdparty.any") (some none) && (oexB K C && (He.eqO (PySem.W.findIn K (.ref C) "field") (some none) &&
  (match PySem.W.findIn K (.ref C) "__init__" with
  | some (some (.ref fI)) => decide (PySem.W.typeIn K (.ref fI) = some (.type "function")) && (match K.lookup fI with
    | some ⟨_, _, .func fd, _⟩ => iniB K C file "field" fd
    | _ => false)
  | _ => false)))))
theorem nsB_ok {P : Program} {K : PySem.W.Frag} {mg : Str → Option Value} {C : Addr} (noS : mg "super" = none) (top : (P.main.scope.names.lookup ("super" : Str)).isSome = false) (h : nsB K C P.main.file = true) : NsOk P K mg C := by
  unfold nsB at h
  simp only [Bool.and_eq_true, decide_eq_true_eq] at h
  obtain ⟨h1, h2, h3, h4, h5, h6⟩ := h
  split at h6
  · rename_i fI e1
    simp only [Bool.and_eq_true, decide_eq_true_eq] at h6
    obtain ⟨h7, h8⟩ := h6
    split at h8
    · rename_i oc od fd osl e2
      obtain ⟨ps, hb, F⟩ := iniB_ok e2 h1 h2 (He.eqO_ok h3) noS top (oexB_ok h4) (He.eqO_ok h5) h8
      exact ⟨fI, fd, ps, oexB_ok h4, e1, h7, hb, F⟩
    · cases h8
  · cases h6
end Rs

namespace Rs
open PySem PySem.Spec PyProof.Rows L2
/-! ### a law's end -/
def conFa : Str × D → He.Fa
  | (x, .int i) => .int x i
  | (x, .str z) => .str x z
  | (x, _) => .glo x
def conB (p : Str × D) : Bool := match p.2 with
  | .int _ => true
  | .str _ => true
  | _ => false
/-- the exceptions' names -/
def excFa (xs : Bool) (rs : List Nat) : List He.Fa := (rs.map fun k => .glo (excS k)) ++ if xs = true then .free "ValueError" :: .free "super" :: (List.range 16).map fun k => .glo (excS k) else []
def faOf (T : List QFn) (con : List (Str × D)) (xs : Bool) (rs : List Nat) : List He.Fa := T.map (fun q => .glo q.name) ++ (con.map conFa ++ (bNames.map .free ++ excFa xs rs))
/-- the functions with tables of code objects -/
def tfOf (T : List QFn) : List He.Defn := (T.filter (·.ti.isSome)).map fun q => (q.name, none)
def tiB (T : List QFn) : Bool := T.all fun q => match q.ti with
  | none => true
  | some j => decide ((tfOf T)[j]? = some (q.name, none))
def xfNs : List Str := ["field", "amount", "limit"]
/-- what is looked at in the exceptions' classes -/
def excC (K : PySem.W.Frag) (C : Addr) : Bool := He.eqO (PySem.W.findIn K (.ref C) "__class__") (some (some (.builtin "object.__class__"))) && (He.eqO (PySem.W.specialIn K (.builtin "object.__class__") "__get__") (some (some (.builtin "getset_descriptor.__get__"))) &&
  (decide (PySem.W.takesIn K (.builtin "object.__class__") = some true) && decide (PySem.W.mroIn K C (.type "object") = some true)))
def excsB (K : PySem.W.Frag) : Bool := (List.range 16).all fun k => xfB K (He.ga K (excS k)) && (excC K (He.ga K (excS k)) && (xfNs.all (fun f => He.eqO (PySem.W.findIn K (.ref (He.ga K (excS k))) f) (some none)) &&
  (((List.range 16).all fun j => decide (PySem.W.exmOne K (.ref (He.ga K (excS k))) (.ref (He.ga K (excS j))) = some (subX k j))) && decide (PySem.W.exmOne K (.ref (He.ga K (excS k))) (.type "ValueError") = some true))))
def exB (xs : Bool) (rs : List Nat) (file : Str) (tf : List He.Defn) (K : PySem.W.Frag) : Bool := decide ((tf.map fun p => (He.cT K p).2).Nodup) && ((rs.all fun k => (He.Fa.exc (excS k)).ok K) && (!xs || (excsB K && nsB K (He.ga K (excS 14)) file)))
theorem xf_ok {P : Program} {K : PySem.W.Frag} {h : Heap} {mg : Str → Option Value} (KX : K.In h) (G : h.Ns mainGlobals mg) {rs : List Nat} (fa : ∀ f ∈ excFa true rs, f.ok K = true) (top : (P.main.scope.names.lookup ("super" : Str)).isSome = false) (hx : excsB K = true) (hns : nsB K (He.ga K (excS 14)) P.main.file = true) : XF P K mg fun k => .ref (He.ga K (excS k)) := by
  have fx : ∀ f ∈ (.free "ValueError" :: .free "super" :: (List.range 16).map fun k => He.Fa.glo (excS k)), f.ok K = true := fun f hf => fa f (List.mem_append_right _ hf)
  have at_ := fun k (hk : k < 16) => List.all_eq_true.mp hx k (List.mem_range.mpr hk)
  have hg : ∀ k, k < 16 → mg (excS k) = some (.ref (He.ga K (excS k))) := fun k hk => He.glo_ok KX G (fx _ (List.mem_cons_of_mem _ (List.mem_cons_of_mem _ (List.mem_map.mpr ⟨k, List.mem_range.mpr hk, rfl⟩))))
  have key : ∀ k, k < 16 → XfC K (He.ga K (excS k)) ∧ ExcC K (He.ga K (excS k)) ∧ (∀ f ∈ xfNs, PySem.W.findIn K (.ref (He.ga K (excS k))) f = some none) ∧ (∀ j, j < 16 → PySem.W.exmOne K (.ref (He.ga K (excS k))) (.ref (He.ga K (excS j))) = some (subX k j)) ∧
      PySem.W.exmOne K (.ref (He.ga K (excS k))) (.type "ValueError") = some true := fun k hk => by
    have a := at_ k hk
    simp only [Bool.and_eq_true] at a
    obtain ⟨a1, a2, a3, a4, a5⟩ := a
    have x1 := xfB_ok a1
    unfold excC at a2
    simp only [Bool.and_eq_true, decide_eq_true_eq] at a2
    obtain ⟨b1, b2, b3, b4⟩ := a2
    exact ⟨x1, ⟨x1.ga, x1.gg, x1.exC, x1.hdC, He.eqO_ok b1, He.eqO_ok b2, b3, b4⟩, fun f hf => He.eqO_ok (List.all_eq_true.mp a3 f hf), fun j hj => of_decide_eq_true (List.all_eq_true.mp a4 j (List.mem_range.mpr hj)), of_decide_eq_true a5⟩
  refine ⟨⟨_, rfl, nsB_ok (He.free_ok KX G (fx _ (List.mem_cons_of_mem _ List.mem_cons_self))) top hns⟩, fun k hk => ⟨_, rfl, hg k hk, ⟨(key k hk).2.1, (key k hk).1⟩, fun f hf => (key k hk).2.2.1 f ?_⟩, He.free_ok KX G (fx _ List.mem_cons_self), fun j k hj hk => (key j hj).2.2.2.1 k hk, fun j hj => (key j hj).2.2.2.2⟩
  unfold xfN at hf
  simp only [Bool.or_eq_true, beq_iff_eq, decide_eq_true_eq] at hf
  rcases hf with (rfl | rfl) | rfl <;> decide
/-- the tables as they are known -/
def tbOf (K : PySem.W.Frag) (T : List QFn) : List (Addr × Str) := (tfOf T).map fun p => ((He.cT K p).2, (p.1 ++ Str.ofString ".<locals>.") ++ "<lambda>")
def defAt (P : Program) (q : QFn) (i : Nat) : He.DefD := ⟨(q.name, none), q.name, q.name, defArgs (topP P i), defBody (topP P i), defScope (topP P i), [], []⟩
def fnD (P : Program) : List QFn → List Nat → List He.DefD
  | q :: qs, i :: is => defAt P q i :: fnD P qs is
  | _, _ => []
theorem fnD_at {P : Program} : ∀ {T : List QFn} {ix : List Nat} {k : Nat} {q : QFn} {i : Nat}, T[k]? = some q → ix[k]? = some i → (fnD P T ix)[k]? = some (defAt P q i)
  | [], _, k, q, i, h, _ => by simp at h
  | _ :: _, [], k, q, i, _, h => by simp at h
  | p :: T, j :: ix, 0, q, i, h, e => by
    simp at h e
    subst h
    subst e
    rfl
  | p :: T, j :: ix, k + 1, q, i, h, e => by
    simp at h e
    rw [fnD, List.getElem?_cons_succ]
    exact fnD_at h e
theorem all_facts {fa : List He.Fa} {fn : List He.DefD} {K : PySem.W.Frag} (c : He.SaysD fa fn K) {f : He.Fa} (h : f ∈ fa) : f.ok K = true := by
  obtain ⟨i, e⟩ := List.mem_iff_getElem?.mp h
  exact c.fact i e
theorem mem_of_look {x : Str} {d : D} : ∀ {con : List (Str × D)}, con.lookup x = some d → (x, d) ∈ con
  | [], h => by cases h
  | (y, e) :: con, h => by
    rw [List.lookup_cons] at h
    split at h
    · rename_i q
      cases h
      rw [eq_of_beq q]
      exact List.mem_cons_self
    · exact List.mem_cons_of_mem _ (mem_of_look h)
/-- the law's call, by a promise that may use that no repr is under way; tl: code objects with their tables, which are empty -/
theorem law_callT {P : Program} {w : World} {K : PySem.W.Frag} {mg mb : Str → Option Value} {CX : CXT} {k : Nat} {fa a : Addr} {tl : List (Addr × Addr)} {fd : FuncData} {x : Str} {sp : Sp} {s1 : Shared} {vs : List Value} {ns : List Int}
    (inK : K.In s1.heap) (nsM : s1.heap.Ns mainGlobals mg) (nsB : s1.heap.Ns builtinsNs mb) (boot : ∀ x : Str, x ≠ "__name__" → mb x = bootBuiltins x) (noLim : s1.heap.NoLimit) (gens : s1.gens = #[])
    (tabAt : ∀ y ∈ tl, s1.heap.get? y.2 = some { cls := .none, data := .fields #[] }) (tabOut : ∀ y ∈ tl, K.lookup y.2 = none) (heads : ∀ y ∈ tl, PySem.W.CodeHd s1.heap y.1 y.2)
    (bmn : ∃ (bm : Addr) (ob : Obj), mg "__builtins__" = some (.ref bm) ∧ bm ≠ builtinsNs ∧ s1.heap.get? bm = some ob ∧ ob.cls = .type "module" ∧ ob.dict = some builtinsNs ∧ ob.data = .plain)
    (atA : s1.heap.get? a = some { cls := .type "list", data := .seq vs.toArray }) (iar : IntsAre vs ns) (small : ns.length ≤ sizeLine) (room : Room k callerA)
    (F : ∀ base : Heap, K.In base → base.Ns mainGlobals mg → (∀ y ∈ tl, LamX.TabB base mg y.1 y.2) → FnG P w K mg base CX k fa fd [x] sp) (bind : ∀ (s : Shared) (u : Value), BindsTo s fd ⟨[u], []⟩ [(x, u)])
    (due : ∀ H : Hp, (∀ y ∈ tl, H y.2 = some (.tbl #[])) → (∀ b, H b = none ∨ (∃ y ∈ tl, y.2 = b) ∨ ∃ o xs, H b = some (.frz o (.lst xs))) → SqL K H a (ns.map V.int) → sp [.ref a] H (fun v _ => v = .bl true) fun _ _ _ => False)
    (noX : ∀ H e s', CX [] H s1 (fun _ _ _ => False) e s' → False) :
    codeAny (model P w) callerA (.call (.ref fa) ⟨[.ref a], []⟩) (fun r s' => r = .ok (.ret (.bool true)) ∧ OldK s1.heap s'.heap ∧ s'.os = s1.os ∧ AllBare s'.gens) s1 := by
  -- b's object, where b is a table
  have tobj : ∀ {b : Addr}, (∃ y ∈ tl, y.2 = b) → s1.heap.get? b = some { cls := .none, data := .fields #[] } := fun {b} ⟨y, m, e⟩ => by
    rw [← e]
    exact tabAt y m
  have aNo : ¬ ∃ y ∈ tl, y.2 = a := fun z => by
    have q := tobj z
    rw [atA] at q
    cases q
  have go : ∀ H : Hp, (∀ y ∈ tl, H y.2 = some (.tbl #[])) → (∀ b, H b = none ∨ (∃ y ∈ tl, y.2 = b) ∨ ∃ o xs, H b = some (.frz o (.lst xs))) → SqL K H a (ns.map V.int) → HOk P w H s1.heap → (∀ b, H b ≠ none → (∃ y ∈ tl, y.2 = b) ∨ (b = a ∧ K.lookup a = none)) →
      codeAny (model P w) callerA (.call (.ref fa) ⟨[.ref a], []⟩) (fun r s' => r = .ok (.ret (.bool true)) ∧ OldK s1.heap s'.heap ∧ s'.os = s1.os ∧ AllBare s'.gens) s1 := by
    intro H tabs only sq ok only1
    have plain : ∀ {b : Addr} {o : Obj}, s1.heap.get? b = some o → (H b ≠ none → False) → (hidT s1.heap H).get? b = some o := fun {b o} e n => by
      cases q : H b with
      | none => exact hidT_get e q
      | some u => exact (n (fun z => by rw [q] at z; cases z)).elim
    -- an object that is neither a table nor the script
    have other : ∀ {b : Addr} {o : Obj}, s1.heap.get? b = some o → o.cls ≠ .none → o.cls ≠ .type "list" → (hidT s1.heap H).get? b = some o := fun {b o} e n1 n2 => plain e fun n => by
      rcases only1 b n with z | ⟨rfl, _⟩
      · rw [tobj z] at e
        cases e
        exact n1 rfl
      · rw [atA] at e
        cases e
        exact n2 rfl
    have dicts : ∀ {b : Addr} {m : Str → Option Value}, s1.heap.Ns b m → (hidT s1.heap H).Ns b m := by
      rintro b m ⟨o, es, ep, e, d, r⟩
      refine ⟨o, es, ep, plain e fun n => ?_, d, r⟩
      rcases only1 b n with z | ⟨rfl, _⟩
      · rw [tobj z] at e
        cases e
        exact nomatch d
      · rw [atA] at e
        cases e
        exact nomatch d
    have inB : K.In (hidT s1.heap H) := fun b o e => plain (inK b o e) fun n => by
      rcases only1 b n with ⟨y, m, ey⟩ | ⟨rfl, z⟩
      · rw [← ey, tabOut y m] at e
        cases e
      · rw [z] at e
        cases e
    obtain ⟨mc, l1, l2⟩ := noLim
    have md : Mod K mg (hidT s1.heap H) := ⟨inB, dicts nsM, ⟨mb, dicts nsB, boot⟩, mc, dicts l1, l2⟩
    have tB : ∀ y ∈ tl, LamX.TabB (hidT s1.heap H) mg y.1 y.2 := fun y hy => by
      refine ⟨?_, ?_, fun z => ?_⟩
      · obtain ⟨o, us, v1, v2, v3, v4, v5, v6, v7, g, c, r⟩ := heads y hy
        exact ⟨o, us, v1, v2, v3, v4, v5, v6, v7, other g (fun z => by rw [c] at z; cases z) (fun z => by rw [c] at z; injection z with z; exact absurd z (by decide)), c, r⟩
      · obtain ⟨bm, ob, b1, b2, b3, b4, b5, b6⟩ := bmn
        refine ⟨bm, ob, b1, b2, fun z => ?_, fun z => ?_, other b3 (fun z => by rw [b4] at z; cases z) (fun z => by rw [b4] at z; injection z with z; exact absurd z (by decide)), b4, b5, b6⟩
        · obtain ⟨o, es, ep, e, d, _⟩ := nsM
          rw [z, e] at b3
          cases b3
          rw [d] at b6
          cases b6
        · rw [z, tabAt y hy] at b3
          cases b3
          cases b4
      · obtain ⟨o, es, ep, e, d, _⟩ := nsM
        rw [z, tabAt y hy] at e
        cases e
        cases d
    have e0 : Env0 P w K mg (hidT s1.heap H) callerA [] s1 H := {
      frames := rfl
      mod := md
      bs := fun b o e => of_hidT e
      bsz := Nat.le_of_eq (hidT_size _ _)
      funs := trivial
      frf := fun b hb => (List.not_mem_nil (show b ∈ ([] : List Addr) from hb)).elim
      hok := ok
      bare := .of_eq gens }
    have main := (F _ inB (dicts nsM) tB).run callerA [] s1 H ⟨[.ref a], []⟩ [.ref a] [.ref a] _ _ rfl room e0 (bind s1 (.ref a)) (.cons rfl .nil) (due H tabs only sq)
    refine codeAny_mono main fun res s2 hres => ?_
    match res, hres with
    | .error e, hres => exact (noX H e s2 hres).elim
    | .ok .next, hres => exact hres.elim
    | .ok .brk, hres => exact hres.elim
    | .ok .cont, hres => exact hres.elim
    | .ok (.ret u), ⟨v, H2, os, bare, un, ok2, rv, hv⟩ =>
      have hv : v = .bl true := hv
      subst hv
      have hu : u = Value.bool true := rv
      subst hu
      have kept : ∀ b o, (¬ ∃ y ∈ tl, y.2 = b) → s1.heap.get? b = some o → s2.heap.get? b = some o := fun b o nt e => by
        rcases only b with q | q | ⟨ob, ys, q⟩
        · exact un.keep b o e q (fun z => (List.not_mem_nil (show b ∈ ([] : List Addr) from z)).elim) (by simp)
        · exact absurd q nt
        · have e1 := (ok b _ q).1
          have e2 := (ok2 b _ (un.frzs b ob _ q)).1
          rw [e] at e1
          cases e1
          exact e2
      have more : ∀ y ∈ tl, ∃ us : Array Value, s2.heap.get? y.2 = some { cls := .none, data := .fields us } := fun y hy => by
        obtain ⟨us, e⟩ := un.tbls y.2 #[] (tabs y hy)
        exact ⟨_, ok2 y.2 _ e⟩
      refine ⟨rfl, ⟨fun b o e => ?_, fun b o e => ?_⟩, os, bare⟩
      · by_cases ht : ∃ y ∈ tl, y.2 = b
        · obtain ⟨y, m, ey⟩ := ht
          obtain ⟨us, eu⟩ := more y m
          subst ey
          have e1 := tabAt y m
          have cd := ((heads y m).tab e1).isCodeTable
          rw [e1] at e
          cases e
          exact .inr (.inl ⟨cd, rfl, #[], us, rfl, by simpa using eu⟩)
        · exact .inl (kept b o ht e)
      · by_cases ht : ∃ y ∈ tl, y.2 = b
        · obtain ⟨y, m, ey⟩ := ht
          obtain ⟨us, eu⟩ := more y m
          exact ⟨_, by rw [← ey]; exact eu⟩
        · exact ⟨o, kept b o ht e⟩
  have vi := vals_ints iar
  have vl := iar.length
  -- the tables alone
  let T0 : Hp := fun b => if b ∈ tl.map (·.2) then some (.tbl #[]) else none
  have T1 : ∀ b, (∃ y ∈ tl, y.2 = b) → T0 b = some (.tbl #[]) := fun b ⟨y, m, e⟩ => if_pos (List.mem_map.mpr ⟨y, m, e⟩)
  have T2 : ∀ b, (¬ ∃ y ∈ tl, y.2 = b) → T0 b = none := fun b n => if_neg fun z => by
    obtain ⟨y, m, e⟩ := List.mem_map.mp z
    exact n ⟨y, m, e⟩
  have ok0 : ∀ b u, T0 b = some u → ObjOk P w T0 s1.heap b u ∧ (∃ y ∈ tl, y.2 = b) ∧ u = .tbl #[] := fun b u z => by
    by_cases ht : ∃ y ∈ tl, y.2 = b
    · have z2 := (T1 b ht).symm.trans z
      cases z2
      exact ⟨tobj ht, ht, rfl⟩
    · have z2 := (T2 b ht).symm.trans z
      cases z2
  cases hk : K.lookup a with
  | some o =>
    have e := inK a o hk
    rw [atA] at e
    cases e
    refine go T0 (fun y m => T1 _ ⟨y, m, rfl⟩) (fun b => ?_) (Or.inr ⟨_, vs.toArray, _, hk, rfl, rfl, rfl, ?_, by simpa using vi⟩) (fun b u z => (ok0 b u z).1) fun b z => ?_
    · by_cases ht : ∃ y ∈ tl, y.2 = b
      · exact .inr (.inl ht)
      · exact .inl (T2 b ht)
    · rw [List.size_toArray, vl]
      exact small
    · by_cases ht : ∃ y ∈ tl, y.2 = b
      · exact .inl ht
      · exact absurd (T2 b ht) z
  | none =>
    let H : Hp := fun b => if b = a then some (.frz { cls := .type "list", data := .seq vs.toArray } (.lst (ns.map V.int))) else T0 b
    have at1 : H a = some (.frz { cls := .type "list", data := .seq vs.toArray } (.lst (ns.map V.int))) := if_pos rfl
    have at2 : ∀ b, b ≠ a → H b = T0 b := fun b h => if_neg h
    have na : ∀ b, (∃ y ∈ tl, y.2 = b) → b ≠ a := fun b z e => aNo (by rw [← e]; exact z)
    refine go H (fun y m => ?_) (fun b => ?_) (Or.inl (Or.inr ⟨_, at1⟩)) (fun b u z => ?_) fun b z => ?_
    · rw [at2 _ (na _ ⟨y, m, rfl⟩)]
      exact T1 _ ⟨y, m, rfl⟩
    · by_cases hb : b = a
      · exact Or.inr (.inr ⟨_, _, by rw [hb]; exact at1⟩)
      · by_cases ht : ∃ y ∈ tl, y.2 = b
        · exact .inr (.inl ht)
        · exact .inl (by rw [at2 b hb]; exact T2 b ht)
    · by_cases hb : b = a
      · subst hb
        rw [at1] at z
        cases z
        exact ⟨atA, by rw [List.length_map]; exact small, vs, _, vi, atA⟩
      · rw [at2 b hb] at z
        obtain ⟨_, ht, eu⟩ := ok0 b u z
        subst eu
        exact tobj ht
    · by_cases hb : b = a
      · exact .inr ⟨hb, hk⟩
      · by_cases ht : ∃ y ∈ tl, y.2 = b
        · exact .inl ht
        · exact absurd (by rw [at2 b hb]; exact T2 b ht) z
/-- He.hookX, the statics looked at too -/
def frS (g : Addr → Option Obj) (n : Nat) : PySem.W.Frag := He.frT g (cStatics :: He.asD g n)
def obsS (n : Nat) (fa : List He.Fa) (fn : List He.DefD) (tf : List He.Defn) (ex : PySem.W.Frag → Bool) (g : Addr → Option Obj) : He.AlX := (He.obsT fa fn [] (frS g n), ex (frS g n) && He.tabsB g tf (frS g n))
theorem says_of {n : Nat} {fa : List He.Fa} {fn : List He.DefD} {tf : List He.Defn} {ex : PySem.W.Frag → Bool} {w : World} {h : Heap} (e : obsS n fa fn tf ex h.get? = He.valX fn [] w) : He.SaysX fa fn [] tf ex w h (frS h.get? n) := by
  have a1 : He.obsT fa fn [] (frS h.get? n) = He.valT fn [] w := congrArg Prod.fst e
  have a2 : (ex (frS h.get? n) && He.tabsB h.get? tf (frS h.get? n)) = true := congrArg Prod.snd e
  rw [Bool.and_eq_true] at a2
  obtain ⟨b1, b2⟩ := a2
  have at_ : ∀ p ∈ tf, PySem.W.codeHdIn (frS h.get? n) (He.cT (frS h.get? n) p).1 (He.cT (frS h.get? n) p).2 = true ∧ ∃ o, h.get? (He.cT (frS h.get? n) p).2 = some o ∧ He.emptyTab o = true := fun p hp => by
    have z := List.all_eq_true.mp b2 p hp
    rw [Bool.and_eq_true] at z
    refine ⟨z.1, ?_⟩
    have z2 := z.2
    split at z2
    · rename_i o eo
      exact ⟨o, eo, z2⟩
    · cases z2
  refine ⟨a1, b1, fun p hp => (at_ p hp).1, fun p hp => ?_, fun p hp => ?_⟩
  · obtain ⟨_, o, eo, t⟩ := at_ p hp
    exact He.frT_none eo t
  · obtain ⟨_, o, eo, t⟩ := at_ p hp
    rw [eo, He.emptyTab_eq t]
def hookS (n : Nat) (fa : List He.Fa) (fn : List He.DefD) (tf : List He.Defn) (ex : PySem.W.Frag → Bool) : PySem.W.Hook where
  α := He.AlX
  obs := fun s => obsS n fa fn tf ex s.heap.get?
  val := fun w => He.valX fn [] w
  says := fun w h => ∃ K : PySem.W.Frag, K.In h ∧ He.SaysX fa fn [] tf ex w h K
  of := fun _ _ e => ⟨_, He.frT_in, says_of e⟩
  keeps := fun _ _ _ ⟨K, a, c⟩ k => ⟨K, PySem.W.Frag.In.keeps a k, { t := c.t, more := c.more, hd := c.hd, out := c.out, empty := fun p hp => k _ _ (c.empty p hp) }⟩
theorem obsS_eq {n : Nat} {fa : List He.Fa} {fn : List He.DefD} {tf : List He.Defn} {ex : PySem.W.Frag → Bool} {g : Addr → Option Obj} {s : Shared} (h : ∀ a, g a = s.heap.get? a) : obsS n fa fn tf ex g = (hookS n fa fn tf ex).obs s := by
  have e : g = s.heap.get? := funext h
  subst e
  rfl
theorem law_end {l : PySem.W.OpenLaw} {T : List QFn} {ix : List Nat} {con : List (Str × D)} {xs : Bool} {rs : List Nat} {m n kL dep : Nat} {x : Str} {qL : QFn} {iL : Nat} {dr : DefRec} {q : Program} {loose : List Str} {XP : (Str → Option Value) → Heap → Prop}
    (hm : l.most = some m) (hm2 : m ≤ sizeLine) (hdf : dr.params.defaults = []) (hr : Room (3 * n) callerA) (chk : chkAll l.prog T con xs rs T ix = true) (hcon : con.all conB = true) (hti : tiB T = true) (top : (l.prog.main.scope.names.lookup ("super" : Str)).isSome = false)
    (hT : T[kL]? = some qL) (hi : ix[kL]? = some iL) (hps : qL.ps = [x]) (hname : dr.name = qL.name)
    (heval : ∀ ns : List Int, ns.length ≤ m → ∃ S, callF T n kL [.scr (ns.map .int)] [] = .ok (.bl true) S) :
    PySem.W.WalkO q loose XP (hookS dep (faOf T con xs rs) (fnD l.prog T ix) (tfOf T) (exB xs rs l.prog.main.file (tfOf T))).says l.row.toRowW dr [] (fun f vs => PySem.call f vs) := by
  refine Att.attach_call hm hdf fun w s₀ s₁ mg mb fa o pm cd doc a vs ns G Y ho hd hcd hmg hobj hints hlen hg => ?_
  obtain ⟨K, KX, c⟩ : ∃ K : PySem.W.Frag, K.In s₁.heap ∧ He.SaysX (faOf T con xs rs) (fnD l.prog T ix) [] (tfOf T) (exB xs rs l.prog.main.file (tfOf T)) w s₁.heap K := Y
  have cD := c.t.d
  have more := c.more
  unfold exB at more
  rw [Bool.and_eq_true, decide_eq_true_eq] at more
  obtain ⟨tnd, more⟩ := more
  rw [Bool.and_eq_true] at more
  obtain ⟨hrs, hxs⟩ := more
  have ns0 := G.T.g
  have glo : ∀ (k : Nat) (q : QFn), T[k]? = some q → mg q.name = some (.ref (He.ga K q.name)) := fun k q hq => He.glo_ok KX ns0 (all_facts cD (List.mem_append_left _ (List.mem_map.mpr ⟨q, List.mem_of_getElem? hq, rfl⟩)))
  have FF : ∀ (k : Nat) (q : QFn) (i : Nat), T[k]? = some q → ix[k]? = some i → FnFact l.prog K mg q i := fun k q i hq hi => by
    obtain ⟨fd, F⟩ := cD.def_ k (fnD_at hq hi)
    exact ⟨He.ga K q.name, fd, glo k q hq, F⟩
  have bl : ∀ x ∈ bNames, mg x = none := fun x hx => He.free_ok KX ns0 (all_facts cD (List.mem_append_right _ (List.mem_append_right _ (List.mem_append_left _ (List.mem_map.mpr ⟨x, hx, rfl⟩)))))
  have hc : ∀ x d, con.lookup x = some d → ∃ v u, mg x = some u ∧ RelV v u ∧ ∀ K L H, Den K L H d v := fun x d h => by
    have hm := mem_of_look h
    have hf := all_facts cD (f := conFa (x, d)) (List.mem_append_right _ (List.mem_append_left _ (List.mem_map.mpr ⟨_, hm, rfl⟩)))
    have hb := List.all_eq_true.mp hcon _ hm
    cases d with
    | int i =>
      obtain ⟨t, e⟩ := He.int_ok KX ns0 hf
      exact ⟨.int i, _, e, ⟨t, rfl⟩, fun K L H => den_i⟩
    | str z =>
      obtain ⟨t, e⟩ := He.str_ok KX ns0 hf
      exact ⟨.str z, _, e, ⟨t, rfl⟩, fun K L H => den_s⟩
    | _ => cases hb
  have hxf : xs = true → XF l.prog K mg fun k => .ref (He.ga K (excS k)) := fun e => by
    subst e
    have hxs : excsB K = true ∧ nsB K (He.ga K (excS 14)) l.prog.main.file = true := by simpa using hxs
    exact xf_ok KX ns0 (fun f hf => all_facts cD (List.mem_append_right _ (List.mem_append_right _ (List.mem_append_right _ hf)))) top hxs.1 hxs.2
  have hrf : ∀ k, rs.contains k = true → RzF K mg (fun k => .ref (He.ga K (excS k))) k := fun k hk => by
    have hk : k ∈ rs := List.contains_iff_mem.mp hk
    obtain ⟨e1, e2, e3, e4⟩ := He.exc_ok (List.all_eq_true.mp hrs k hk)
    exact ⟨_, rfl, He.glo_ok KX ns0 (all_facts cD (List.mem_append_right _ (List.mem_append_right _ (List.mem_append_right _ (List.mem_append_left _ (List.mem_map.mpr ⟨k, hk, rfl⟩)))))), e1, e2, e3, e4⟩
  obtain ⟨f, fd, hm', FL⟩ := (FF kL qL iL hT hi).ok
  have ef : f = fa := by
    rw [hname] at hmg
    rw [hmg] at hm'
    cases hm'
    rfl
  subst ef
  obtain ⟨i', hi', hchk⟩ := chkAll_at chk hT
  rw [hi] at hi'
  cases hi'
  unfold chkQ at hchk
  simp only [Bool.and_eq_true, decide_eq_true_eq] at hchk
  let xd : Xd := ⟨{ K := K, ex := [], hf := fun k => k.hash w, tb := tbOf K T }, fun k => .ref (He.ga K (excS k))⟩
  have tl2 : ∀ y ∈ (tfOf T).map (He.cT K), ∃ p ∈ tfOf T, He.cT K p = y := fun y hy => List.mem_map.mp hy
  refine law_callT (CX := L2.CX l.prog w) (tl := (tfOf T).map (He.cT K)) KX ns0 G.T.b G.T.builtins G.T.nolimit hg (fun y hy => ?_) (fun y hy => ?_) (fun y hy => ?_) G.T.bmain hobj hints (Nat.le_trans hlen hm2) hr (sp := spF xd qL.ps.length (callF T n kL)) (fun base _ _ tB => ?_) (x := x) (fd := fd) (fun s u => ?_) (fun H hH hO hS => ?_) fun H e s' h => ?_
  · obtain ⟨p, hp, rfl⟩ := tl2 y hy
    exact c.empty p hp
  · obtain ⟨p, hp, rfl⟩ := tl2 y hy
    exact c.out p hp
  · obtain ⟨p, hp, rfl⟩ := tl2 y hy
    exact PySem.W.codeHd_of_K KX (c.hd p hp)
  · rw [← hps]
    have Z : Tb l.prog w K mg base T ix con xs rs xd := {
      hK := rfl
      hF := rfl
      hX := rfl
      chk := chk
      G := FF
      bl := bl
      hc := hc
      xf := hxf
      rf := hrf
      tt := fun k q i ti f fd hq hi ht hm F => by
        have e1 := List.all_eq_true.mp hti q (List.mem_of_getElem? hq)
        rw [ht] at e1
        have e1 : (tfOf T)[ti]? = some (q.name, none) := of_decide_eq_true e1
        have ef : f = He.ga K q.name := by
          rw [glo k q hq] at hm
          cases hm
          rfl
        have mem := List.mem_of_getElem? e1
        obtain ⟨oc, od, dV, kV, doc, pm, an, cdv, ct, osl, rfl, lk, hcd, _, _⟩ := F.ex
        obtain ⟨cc, ecc⟩ := He.codeIn_ref hcd
        have eco : He.codeOf K (q.name, none) = cc := He.codeOf_eq (p := (q.name, none)) (by rw [ef] at lk; exact lk) (show (PySem.W.fnOf _ _ _ _ _ _ _ _ _ _ _ _).code = .ref cc from ecc)
        refine ⟨(He.cT K (q.name, none)).2, cc, ?_, fun y hy ey => ?_, ecc, ?_⟩
        · show (tbOf K T)[ti]? = _
          unfold tbOf
          rw [List.getElem?_map, e1]
          rfl
        · obtain ⟨p, hp, rfl⟩ := List.mem_map.mp (show y ∈ tbOf K T from hy)
          obtain ⟨j, ej⟩ := List.mem_iff_getElem?.mp hp
          have ej2 : ((tfOf T).map fun p => (He.cT K p).2)[j]? = some (He.cT K p).2 := by rw [List.getElem?_map, ej]; rfl
          have et2 : ((tfOf T).map fun p => (He.cT K p).2)[ti]? = some (He.cT K p).2 := by rw [List.getElem?_map, e1]; exact congrArg some ey.symm
          have := nodup_at tnd ej2 et2
          subst this
          rw [e1] at ej
          cases ej
          rfl
        · rw [← eco]
          exact tB _ (List.mem_map.mpr ⟨_, mem, rfl⟩) }
    exact (Z.fns n kL qL iL f fd hT hi hm' FL).1
  · have := FL.bindsA (ps := qL.ps) (fun kV doc pm an cdv ct us hl => plainArgs_ok hchk.1.1.1 hl) s [u] (by rw [hps]; rfl)
    rw [hps] at this
    exact this
  · obtain ⟨S, he⟩ := heval ns hlen
    have tbk : TbOk xd.K [] H := fun i P q e => by
      have e : (tbOf K T)[i]? = some (P, q) := e
      unfold tbOf at e
      rw [List.getElem?_map] at e
      cases e1 : (tfOf T)[i]? with
      | none => rw [e1] at e; cases e
      | some p =>
        rw [e1] at e
        cases e
        refine ⟨List.not_mem_nil, #[], hH _ (List.mem_map.mpr ⟨p, List.mem_of_getElem? e1, rfl⟩), ?_, fun pos cv h => ?_⟩
        · first
            | exact trivial
            | decide
            | simp [TriplesOk]
        · first
            | cases h
            | simp [codeAmong] at h
    refine ⟨by rw [hps]; rfl, [], [], [], [.scr (ns.map .int)], ⟨rfl, List.nodup_nil, fun i mo e => (by simp at e), fun a z => (by cases z), fun a z => (by cases z), fun i mo e => (by simp at e), tbk⟩, ?_, ?_⟩
    · rw [DenL]
      refine ⟨.ref a, [], rfl, ?_, by rw [DenL]⟩
      rw [Den]
      refine ⟨a, ns.map V.int, rfl, ?_, ?_⟩
      · rcases hS with z | z
        · rcases hO a with k | ⟨y, hy, k⟩ | ⟨o, xs, k⟩
          · rcases z with z | ⟨o, z⟩
            · rw [k] at z; cases z
            · rw [k] at z; cases z
          · have k2 := hH y hy
            rw [k] at k2
            rcases z with z | ⟨o, z⟩
            · rw [k2] at z; cases z
            · rw [k2] at z; cases z
          · rcases z with z | ⟨o', z⟩
            · rw [k] at z; cases z
            · exact .inl ⟨⟨fun y => (by cases y), fun y => (by cases y)⟩, o', z⟩
        · exact .inr z
      · have : ∀ ns : List Int, DenL xd.K [] H (ns.map .int) (ns.map V.int) := fun ns => by
          induction ns with
          | nil => exact DenL.nil
          | cons i ns ih => exact DenL.cons den_i ih
        exact this ns
    · rw [he]
      exact fun v L' H' g r d => of_b d
  · obtain ⟨_, _, _, _, _, _, _, _, _, _, _, _, z⟩ := h
    exact z
end Rs

namespace Rs
open PySem PySem.Spec PyProof.Rows L2
/-! ### the interpreter, step by step -/
section
variable {C : CallT} {σ : Env} {S : Store}
def Flow.seq (f : Flow) (g : Env → Store → Flow) : Flow := match f with
  | .nx σ S => g σ S
  | r => r
def endFlow (keep : Bool) (n : Nat) : Flow → Out D
  | .rt d S' => fin keep n d S'
  | .nx _ S' => .ok .non (S'.take n)
  | .exc x _ S' => if loL n x.fs = true then .exc x (S'.take n) else .bad
  | _ => .bad
theorem callF_run {T : List QFn} {n k : Nat} {q : QFn} {args : List D} {S : Store} (hT : T[k]? = some q) (ha : args.length = q.np ∧ q.np ≤ q.N.length) (hk : q.kd = 0) :
    callF T (n + 1) k args S = endFlow q.keep S.length (exs (callF T n) q.body (args.map some ++ List.replicate (q.N.length - args.length) none) S) := by
  rw [callF]
  dsimp only
  rw [hT]
  show runF (callF T n) q args S = _
  unfold runF
  rw [if_pos ⟨ha, hk⟩]
  cases exs (callF T n) q.body (args.map some ++ List.replicate (q.N.length - args.length) none) S <;> rfl
theorem exs_nil : exs C [] σ S = .nx σ S := by rw [exs]
theorem exs_cons {q : QS} {qs : List QS} : exs C (q :: qs) σ S = (ex C q σ S).seq fun σ S => exs C qs σ S := by
  rw [exs]
  cases ex C q σ S <;> rfl
theorem seq_nx {f : Env → Store → Flow} : (Flow.nx σ S).seq f = f σ S := rfl
theorem seq_rt {d : D} {f : Env → Store → Flow} : (Flow.rt d S).seq f = .rt d S := rfl
theorem seq_bk {f : Env → Store → Flow} : (Flow.bk σ S).seq f = .bk σ S := rfl
theorem seq_ct {f : Env → Store → Flow} : (Flow.ct σ S).seq f = .ct σ S := rfl
theorem seq_ite {b : Prop} [Decidable b] {x y : Flow} {f : Env → Store → Flow} : (if b then x else y).seq f = if b then x.seq f else y.seq f := by split <;> rfl
theorem bind_ok {α β : Type} {a : α} {f : α → Store → Out β} : (Out.ok a S).bind f = f a S := rfl
theorem go_ok {α : Type} {a : α} {f : α → Store → Flow} : (Out.ok a S).go σ f = f a S := rfl
theorem ofO_some {α : Type} {a : α} : ofO (some a) S = .ok a S := rfl
theorem okB_ok {b : Bool} : okB (.ok (.bl b) S) = .ok b S := rfl
theorem okI_ok {i : Int} : okI (.ok (.int i) S) = .ok (some i) S := rfl
theorem map_bl {b : Bool} : Option.map D.bl (some b) = some (.bl b) := rfl
theorem end_rt {keep : Bool} {n : Nat} {d : D} : endFlow keep n (.rt d S) = fin keep n d S := rfl
theorem end_nx {keep : Bool} {n : Nat} : endFlow keep n (.nx σ S) = .ok .non (S.take n) := rfl
theorem end_ite {keep : Bool} {n : Nat} {b : Prop} [Decidable b] {x y : Flow} : endFlow keep n (if b then x else y) = if b then endFlow keep n x else endFlow keep n y := by split <;> rfl
theorem fin_val {keep : Bool} {n : Nat} {d : D} (h : d.lo n = true) (hl : S.length ≤ n) (ho : ∀ i, d ≠ .obj i) : fin keep n d S = .ok d S := by
  have e : S.take n = S := List.take_of_length_le hl
  cases d <;> first
    | (exact absurd rfl (ho _))
    | (unfold fin; dsimp only; rw [if_pos h, e])
theorem atI0 {x : D} {l : List D} : atI (x :: l) 0 = some x := by
  unfold atI ixN
  rw [if_pos (Int.le_refl 0), if_pos (by rw [List.length_cons]; omega)]
  rfl
theorem atI1 {x y : D} {l : List D} : atI (x :: y :: l) 1 = some y := by
  unfold atI ixN
  rw [if_pos (by decide), if_pos (by rw [List.length_cons, List.length_cons]; omega)]
  rfl
theorem atI2 {x y z : D} {l : List D} : atI (x :: y :: z :: l) 2 = some z := by
  unfold atI ixN
  rw [if_pos (by decide), if_pos (by rw [List.length_cons, List.length_cons, List.length_cons]; omega)]
  rfl
theorem ixN3_0 : ixN 3 0 = some 0 := by decide
theorem ixN3_2 : ixN 3 2 = some 2 := by decide
theorem atI_in {l : List D} {i : Int} (h0 : 0 ≤ i) (h1 : i < l.length) : ∃ d, atI l i = some d ∧ l[i.toNat]? = some d := by
  unfold atI ixN
  rw [if_pos h0, if_pos h1]
  have : i.toNat < l.length := by omega
  exact ⟨l[i.toNat], by simp [this], by simp [this]⟩
theorem atI_eq {l : List D} {i : Int} (h0 : 0 ≤ i) (h1 : i < l.length) : atI l i = l[i.toNat]? := by
  obtain ⟨d, a, b⟩ := atI_in h0 h1
  rw [a, b]
theorem binD_add {i j : Int} : binD .add (.int i) (.int j) = some (.int (i + j)) := rfl
theorem binD_sub {i j : Int} : binD .sub (.int i) (.int j) = some (.int (i - j)) := rfl
theorem binD_mul {i j : Int} (h : -(2 ^ 64) < i) (h' : i < 2 ^ 64) : binD .mul (.int i) (.int j) = some (.int (i * j)) := if_pos (.inl ⟨h, h'⟩)
theorem binD_mod {i j : Int} (h : j ≠ 0) : binD .mod (.int i) (.int j) = some (.int (i.fmod j)) := if_pos h
theorem binD_fdiv {i j : Int} (h : 0 < j) (h' : j < 1073741824) : binD .fdiv (.int i) (.int j) = some (.int (i.fdiv j)) := if_pos ⟨by omega, by omega⟩
theorem cmpD_gt {i j : Int} : cmpD .gt (.int i) (.int j) S = some (decide (j < i)) := rfl
theorem cmpD_lt {i j : Int} : cmpD .lt (.int i) (.int j) S = some (decide (i < j)) := rfl
theorem cmpD_le {i j : Int} : cmpD .le (.int i) (.int j) S = some (decide (i ≤ j)) := rfl
theorem cmpD_ge {i j : Int} : cmpD .ge (.int i) (.int j) S = some (decide (j ≤ i)) := rfl
theorem cmpD_eqI {i j : Int} : cmpD .eq (.int i) (.int j) S = some (i == j) := rfl
theorem cmpD_neI {i j : Int} : cmpD .ne (.int i) (.int j) S = some (!(i == j)) := rfl
theorem cmpD_eqS {i j : Str} : cmpD .eq (.str i) (.str j) S = some (decide (i = j)) := rfl
theorem cmpD_neS {i j : Str} : cmpD .ne (.str i) (.str j) S = some (!decide (i = j)) := rfl
theorem modP {i m : Int} (hm : 0 < m) : 0 ≤ i.fmod m ∧ i.fmod m < m := ⟨Int.fmod_nonneg_of_pos i hm, Int.fmod_lt_of_pos i hm⟩
/-! ### the pen -/
/-- a pen that drew at most t times past its digits -/
inductive Pen (t : Nat) : MO → Prop
  | mk (a b c : Int) : 0 ≤ a → 0 ≤ b → b < 2 ^ 31 → 0 ≤ c → c ≤ t → Pen t (.lst [.int a, .int b, .int c])
theorem Pen.mono {t u : Nat} {P : MO} (h : Pen t P) (l : t ≤ u) : Pen u P := by
  obtain ⟨a, b, c, h1, h2, h3, h4, h5⟩ := h
  exact ⟨a, b, c, h1, h2, h3, h4, by omega⟩
theorem subD_0 {x y z : D} {v : Int} {R : Store} : subD (.obj 0) (.int 0) (.int v) (.lst [x, y, z] :: R) = some (.lst [.int v, y, z] :: R) := rfl
theorem subD_2 {x y z : D} {v : Int} {R : Store} : subD (.obj 0) (.int 2) (.int v) (.lst [x, y, z] :: R) = some (.lst [x, y, .int v] :: R) := rfl
theorem fin_int {keep : Bool} {n : Nat} {i : Int} (hl : S.length ≤ n) : fin keep n (.int i) S = .ok (.int i) S := fin_val rfl hl fun i h => by cases h
theorem fin_bl {keep : Bool} {n : Nat} {b : Bool} (hl : S.length ≤ n) : fin keep n (.bl b) S = .ok (.bl b) S := fin_val rfl hl fun i h => by cases h
theorem fdiv_nn {a m : Int} (ha : 0 ≤ a) (hm : 0 < m) : 0 ≤ a.fdiv m := Int.fdiv_nonneg ha (Int.le_of_lt hm)
end
/-! ### data whose text is short -/
mutual
def D.tame : D → Nat → Bool
  | .non, _ => true
  | .bl _, _ => true
  | .int i, _ => decide (i.natAbs < 1000000000000)
  | .str s, _ => PyData.strOk s
  | .tup l, k => match k with
    | 0 => false
    | k + 1 => tameL l k
  | .lst l, k => match k with
    | 0 => false
    | k + 1 => tameL l k
  | .scr _, _ => false
  | .obj _, _ => false
  | .box _ _, _ => false
  | .exn _ _, _ => false
def tameL : List D → Nat → Bool
  | [], _ => true
  | d :: ds, k => d.tame k && tameL ds k
end
/-- d: no deeper than k, of weight at most w -/
structure Tm (k w : Nat) (d : D) : Prop where
  t : d.tame k = true
  w : d.toPy.weight ≤ w
mutual
theorem tame_fit : ∀ (d : D) (k : Nat), d.tame k = true → d.fit k = true ∧ d.lo 0 = true ∧ d.toPy.showable = true ∧ d.toPy.intsShort 13 = true
  | .non, k, h => ⟨rfl, rfl, rfl, rfl⟩
  | .bl _, k, h => ⟨rfl, rfl, rfl, rfl⟩
  | .int i, k, h => by
    rw [D.tame, decide_eq_true_eq] at h
    refine ⟨rfl, rfl, ?_, ?_⟩
    · rw [D.toPy, PyData.showable, decide_eq_true_eq]
      have : i.natAbs.log2 ≤ 40 := by
        by_cases h0 : i.natAbs = 0
        · rw [h0]; decide
        · have := (Nat.log2_lt h0 (k := 41)).mpr (by omega)
          omega
      omega
    · rw [D.toPy, PyData.intsShort, decide_eq_true_eq]
      exact PyData.shown_int_le (by omega)
  | .str s, k, h => by
    rw [D.tame] at h
    exact ⟨h, rfl, rfl, rfl⟩
  | .tup l, 0, h => by simp [D.tame] at h
  | .tup l, k + 1, h => by
    rw [D.tame] at h
    obtain ⟨a, b, c, d⟩ := tame_fitL l k h
    exact ⟨by rw [D.fit]; exact a, by rw [D.lo]; exact b, by rw [D.toPy, PyData.showable]; exact c, by rw [D.toPy, PyData.intsShort]; exact d⟩
  | .lst l, 0, h => by simp [D.tame] at h
  | .lst l, k + 1, h => by
    rw [D.tame] at h
    obtain ⟨a, b, c, d⟩ := tame_fitL l k h
    exact ⟨by rw [D.fit]; exact a, by rw [D.lo]; exact b, by rw [D.toPy, PyData.showable]; exact c, by rw [D.toPy, PyData.intsShort]; exact d⟩
  | .scr _, k, h => by simp [D.tame] at h
  | .obj _, k, h => by simp [D.tame] at h
  | .box _ _, k, h => by simp [D.tame] at h
  | .exn _ _, k, h => by simp [D.tame] at h
theorem tame_fitL : ∀ (l : List D) (k : Nat), tameL l k = true → fitL l k = true ∧ loL 0 l = true ∧ PyData.showableAll (toPyL l) = true ∧ PyData.intsShortAll 13 (toPyL l) = true
  | [], k, h => ⟨rfl, rfl, rfl, rfl⟩
  | d :: ds, k, h => by
    rw [tameL, Bool.and_eq_true] at h
    obtain ⟨a, b, c, e⟩ := tame_fit d k h.1
    obtain ⟨a', b', c', e'⟩ := tame_fitL ds k h.2
    exact ⟨by rw [fitL, a, a']; rfl, by rw [loL, b, b']; rfl, by rw [toPyL, PyData.showableAll, c, c']; rfl, by rw [toPyL, PyData.intsShortAll, e, e']; rfl⟩
end
theorem Tm.lo {k w : Nat} {d : D} (h : Tm k w d) (n : Nat) : d.lo n = true := lo_le (Nat.zero_le n) d (tame_fit d k h.t).2.1
theorem Tm.rp {w : Nat} {d : D} (h : Tm 60 w d) (hw : w ≤ 1048576) : reprOk d = true := by
  obtain ⟨a, b, c, e⟩ := tame_fit d 60 h.t
  obtain ⟨f, g⟩ := fit_lay d 60 a
  unfold reprOk
  rw [a, c]
  have := PyData.shown_fits (B := 13) (by decide) (by decide) (PyData.leavesShort_of_canLay0 13 d.toPy f e) (by have := h.w; omega)
  rw [decide_eq_true this]
  rfl
theorem log_small {n : Nat} (h : n < 1000000000000) : n.log2 ≤ 40 := by
  by_cases h0 : n = 0
  · rw [h0]; decide
  · have := (Nat.log2_lt h0 (k := 41)).mpr (by omega)
    omega
theorem Tm.int {k : Nat} {i : Int} (h : i.natAbs < 1000000000000) : Tm k 41 (.int i) := by
  refine ⟨by rw [D.tame]; exact decide_eq_true h, ?_⟩
  rw [D.toPy, PyData.weight]
  have := log_small h
  split <;> omega
theorem Tm.str {k w : Nat} {s : Str} (h : PyData.strOk s = true) (hw : s.cps.size ≤ w) : Tm k w (.str s) := ⟨by rw [D.tame]; exact h, by rw [D.toPy, PyData.weight]; exact hw⟩
mutual
theorem tame_le : ∀ (d : D) (k j : Nat), k ≤ j → d.tame k = true → d.tame j = true
  | .non, k, j, _, h => rfl
  | .bl _, k, j, _, h => rfl
  | .int _, k, j, _, h => h
  | .str _, k, j, _, h => h
  | .tup l, 0, j, _, h => by simp [D.tame] at h
  | .tup l, k + 1, 0, hk, h => by omega
  | .tup l, k + 1, j + 1, hk, h => by
    rw [D.tame] at h ⊢
    exact tame_leL l k j (by omega) h
  | .lst l, 0, j, _, h => by simp [D.tame] at h
  | .lst l, k + 1, 0, hk, h => by omega
  | .lst l, k + 1, j + 1, hk, h => by
    rw [D.tame] at h ⊢
    exact tame_leL l k j (by omega) h
  | .scr _, k, j, _, h => by simp [D.tame] at h
  | .obj _, k, j, _, h => by simp [D.tame] at h
  | .box _ _, k, j, _, h => by simp [D.tame] at h
  | .exn _ _, k, j, _, h => by simp [D.tame] at h
theorem tame_leL : ∀ (l : List D) (k j : Nat), k ≤ j → tameL l k = true → tameL l j = true
  | [], k, j, _, h => rfl
  | d :: ds, k, j, hk, h => by
    rw [tameL, Bool.and_eq_true] at h
    rw [tameL, tame_le d k j hk h.1, tame_leL ds k j hk h.2]
    rfl
end
theorem Tm.mono {k k' w w' : Nat} {d : D} (h : Tm k w d) (hw : w ≤ w') (hk : k ≤ k') : Tm k' w' d := ⟨tame_le d k k' hk h.t, Nat.le_trans h.w hw⟩
theorem tmL {k w : Nat} : ∀ {l : List D}, (∀ d ∈ l, Tm k w d) → tameL l k = true ∧ PyData.weightAll (toPyL l) ≤ l.length * (w + 1)
  | [], h => ⟨rfl, Nat.zero_le _⟩
  | d :: ds, h => by
    obtain ⟨a, b⟩ := tmL (l := ds) fun x hx => h x (List.mem_cons_of_mem _ hx)
    have hd := h d List.mem_cons_self
    refine ⟨by rw [tameL, hd.t, a]; rfl, ?_⟩
    rw [toPyL, PyData.weightAll, List.length_cons, Nat.add_mul]
    have := hd.w
    omega
theorem Tm.tup {k w n : Nat} {l : List D} (h : ∀ d ∈ l, Tm k w d) (hn : l.length ≤ n) : Tm (k + 1) (n * (w + 1)) (.tup l) := by
  obtain ⟨a, b⟩ := tmL h
  refine ⟨by rw [D.tame]; exact a, ?_⟩
  rw [D.toPy, PyData.weight]
  exact Nat.le_trans b (Nat.mul_le_mul_right _ hn)
theorem Tm.lst {k w n : Nat} {l : List D} (h : ∀ d ∈ l, Tm k w d) (hn : l.length ≤ n) : Tm (k + 1) (n * (w + 1)) (.lst l) := by
  obtain ⟨a, b⟩ := tmL h
  refine ⟨by rw [D.tame]; exact a, ?_⟩
  rw [D.toPy, PyData.weight]
  exact Nat.le_trans b (Nat.mul_le_mul_right _ hn)
/-! ### walks of the interpreter -/
theorem comp_map {f : D → Store → Out (Option D)} {g : D → D} {S : Store} : ∀ {xs : List D}, (∀ x ∈ xs, f x S = .ok (some (g x)) S) → compL f xs S = .ok (xs.map g) S
  | [], _ => rfl
  | x :: xs, h => by
    rw [compL, h x List.mem_cons_self]
    dsimp only
    rw [comp_map fun y hy => h y (List.mem_cons_of_mem _ hy)]
    rfl
theorem comp_fm {f : D → Store → Out (Option D)} {g : D → Option D} {S : Store} : ∀ {xs : List D}, (∀ x ∈ xs, f x S = .ok (g x) S) → compL f xs S = .ok (xs.filterMap g) S
  | [], _ => rfl
  | x :: xs, h => by
    rw [compL, h x List.mem_cons_self]
    dsimp only
    rw [comp_fm fun y hy => h y (List.mem_cons_of_mem _ hy), List.filterMap_cons]
    cases g x <;> rfl
/-- every item draws, K times at most -/
theorem comp_pen {f : D → Store → Out (Option D)} {R : Store} {K M : Nat} {Q : D → Prop} : ∀ {xs : List D} {t : Nat} {P : MO}, (∀ x ∈ xs, ∀ t P, Pen t P → t ≤ M → ∃ y P', f x (P :: R) = .ok (some y) (P' :: R) ∧ Pen (t + K) P' ∧ Q y) → Pen t P → t + xs.length * K ≤ M →
    ∃ ys P', compL f xs (P :: R) = .ok ys (P' :: R) ∧ Pen (t + xs.length * K) P' ∧ (∀ y ∈ ys, Q y) ∧ ys.length = xs.length
  | [], t, P, _, hp, _ => ⟨[], P, rfl, by simpa using hp, fun y h => (by cases h), rfl⟩
  | x :: xs, t, P, h, hp, ht => by
    rw [List.length_cons, Nat.add_mul] at ht
    obtain ⟨y, P1, e1, p1, q1⟩ := h x List.mem_cons_self t P hp (by omega)
    obtain ⟨ys, P2, e2, p2, q2, l2⟩ := comp_pen (xs := xs) (fun z hz => h z (List.mem_cons_of_mem _ hz)) p1 (by omega)
    refine ⟨y :: ys, P2, ?_, p2.mono (by rw [List.length_cons, Nat.add_mul]; omega), fun z hz => ?_, by rw [List.length_cons, List.length_cons, l2]⟩
    · rw [compL, e1]
      dsimp only
      rw [e2]
    · rcases List.mem_cons.mp hz with rfl | hz
      · exact q1
      · exact q2 z hz
/-- some items are left out -/
theorem comp_penO {f : D → Store → Out (Option D)} {R : Store} {K M : Nat} {Q : D → Prop} : ∀ {xs : List D} {t : Nat} {P : MO}, (∀ x ∈ xs, ∀ t P, Pen t P → t ≤ M → ∃ o P', f x (P :: R) = .ok o (P' :: R) ∧ Pen (t + K) P' ∧ ∀ y, o = some y → Q y) → Pen t P → t + xs.length * K ≤ M →
    ∃ ys P', compL f xs (P :: R) = .ok ys (P' :: R) ∧ Pen (t + xs.length * K) P' ∧ (∀ y ∈ ys, Q y) ∧ ys.length ≤ xs.length
  | [], t, P, _, hp, _ => ⟨[], P, rfl, by simpa using hp, fun y h => (by cases h), Nat.le_refl _⟩
  | x :: xs, t, P, h, hp, ht => by
    rw [List.length_cons, Nat.add_mul] at ht
    obtain ⟨o, P1, e1, p1, q1⟩ := h x List.mem_cons_self t P hp (by omega)
    obtain ⟨ys, P2, e2, p2, q2, l2⟩ := comp_penO (xs := xs) (fun z hz => h z (List.mem_cons_of_mem _ hz)) p1 (by omega)
    cases o with
    | none =>
      refine ⟨ys, P2, ?_, p2.mono (by rw [List.length_cons, Nat.add_mul]; omega), q2, Nat.le_succ_of_le l2⟩
      rw [compL, e1]
      dsimp only
      rw [e2]
    | some y =>
      refine ⟨y :: ys, P2, ?_, p2.mono (by rw [List.length_cons, Nat.add_mul]; omega), fun z hz => ?_, Nat.succ_le_succ l2⟩
      · rw [compL, e1]
        dsimp only
        rw [e2]
      · rcases List.mem_cons.mp hz with rfl | hz
        · exact q1 _ rfl
        · exact q2 z hz
theorem rngL_mem {c : Int} : ∀ {n : Nat} {lo : Int} {x : D}, x ∈ rngL lo c n → ∃ i : Nat, i < n ∧ x = .int (lo + i * c)
  | 0, lo, x, h => by simp [rngL] at h
  | n + 1, lo, x, h => by
    rw [rngL, List.mem_cons] at h
    rcases h with rfl | h
    · exact ⟨0, Nat.succ_pos n, by simp⟩
    · obtain ⟨i, hi, rfl⟩ := rngL_mem h
      refine ⟨i + 1, Nat.succ_lt_succ hi, ?_⟩
      congr 1
      rw [show ((i + 1 : Nat) : Int) = (i : Int) + 1 by omega, Int.add_mul]
      omega
/-- a loop whose every turn ends the same way: I by the turn -/
theorem for_turns {w : List Nat} {n : Nat} {f : D → Env → Store → Flow} {I : Nat → Env → Store → Prop} : ∀ {xs : List D} {i : Nat} {σ : Env} {S : Store}, I i σ S →
    (∀ (j : Nat) (x : D), xs[j]? = some x → ∀ σ S, I (i + j) σ S → ∃ σ' S', f x σ S = .nx σ' S' ∧ I (i + j + 1) (turnEnd n w σ' S').1 (turnEnd n w σ' S').2) → ∃ σ' S', forL w n f xs σ S = .nx σ' S' ∧ I (i + xs.length) σ' S'
  | [], i, σ, S, h, _ => ⟨σ, S, rfl, h⟩
  | x :: xs, i, σ, S, h, hs => by
    obtain ⟨σ1, S1, e1, h1⟩ := hs 0 x rfl σ S h
    obtain ⟨σ2, S2, e2, h2⟩ := for_turns (i := i + 1) h1 fun j y hj σ S hI => by
      have := hs (j + 1) y (by simpa using hj) σ S (by rw [show i + (j + 1) = i + 1 + j by omega]; exact hI)
      rwa [show i + (j + 1) + 1 = i + 1 + j + 1 by omega] at this
    refine ⟨σ2, S2, ?_, by rw [List.length_cons, show i + (xs.length + 1) = i + 1 + xs.length by omega]; exact h2⟩
    rw [forL, e1]
    exact e2
/-! a list in the making above the pen -/
theorem last_at {P : MO} {R : Store} {l : List D} : (P :: (R ++ [.lst l]))[R.length + 1]? = some (.lst l) := by
  rw [List.getElem?_cons_succ, List.getElem?_append_right (Nat.le_refl _), Nat.sub_self]
  rfl
theorem last_set {P : MO} {R : Store} {l m : List D} : (P :: (R ++ [.lst l])).set (R.length + 1) (.lst m) = P :: (R ++ [.lst m]) := by
  rw [List.set_cons_succ, List.set_append_right _ _ (Nat.le_refl _), Nat.sub_self]
  rfl
theorem mtOk_last {P : MO} {R : Store} {l : List D} : mtOk .append (.obj (R.length + 1)) (P :: (R ++ [.lst l])) = true := by
  unfold mtOk
  dsimp only
  rw [last_at]
theorem append_last {P : MO} {R : Store} {l : List D} {x : D} (h : x.lo 0 = true) (hl : l.length < sizeLine) : mtD .append (.obj (R.length + 1)) [x] (P :: (R ++ [.lst l])) = some (.non, P :: (R ++ [.lst (l ++ [x])])) := by
  unfold mtD
  dsimp only
  rw [last_at]
  dsimp only
  rw [if_pos ⟨lo_le (Nat.zero_le _) x h, hl⟩, last_set]
theorem items_last {P : MO} {R : Store} {l : List D} : itemsD (P :: (R ++ [.lst l])) (.obj (R.length + 1)) = some l := by
  unfold itemsD
  dsimp only
  rw [last_at]
theorem take_last {P : MO} {R : Store} {m : MO} : (P :: (R ++ [m])).take (R.length + 1) = P :: R := by
  rw [List.take_succ_cons, List.take_left' rfl]
section
variable {S : Store}
theorem biD_len {d : D} : biD .len [d] S = (itemsD S d).map fun l => .int l.length := rfl
theorem biD_tuple {d : D} : biD .tuple [d] S = (itemsD S d).map .tup := rfl
theorem thaw_lst {i : Nat} {l : List D} (h : S[i]? = some (.lst l)) : thaw S (.obj i) = .lst l := by
  unfold thaw
  dsimp only
  rw [h]
theorem rp_fit {d : D} (h : reprOk d = true) : d.fit 60 = true := by
  unfold reprOk at h
  simp only [Bool.and_eq_true] at h
  exact h.1.1
theorem biD_repr {d : D} (h : reprOk d = true) : biD .repr [d] S = some (.str d.toPy.shown) := by
  show (if reprOk (thaw S d) = true then some (D.str (thaw S d).toPy.shown) else none) = _
  rw [thaw_fit (rp_fit h), if_pos h]
theorem biD_reprO {i : Nat} {l : List D} (h : S[i]? = some (.lst l)) (h2 : reprOk (.lst l) = true) : biD .repr [.obj i] S = some (.str (D.lst l).toPy.shown) := by
  show (if reprOk (thaw S (.obj i)) = true then some (D.str (thaw S (.obj i)).toPy.shown) else none) = _
  rw [thaw_lst h, if_pos h2]
theorem eq_thaw {a b : D} (ha : a.fit 60 = true) (hb : b.fit 60 = true) : cmpD .eq a b S = eqD a b := by
  show eqD (thaw S a) (thaw S b) = _
  rw [thaw_fit ha, thaw_fit hb]
theorem ne_thaw {a b : D} (ha : a.fit 60 = true) (hb : b.fit 60 = true) : cmpD .ne a b S = (eqD a b).map (!·) := by
  show (eqD (thaw S a) (thaw S b)).map _ = _
  rw [thaw_fit ha, thaw_fit hb]
theorem biD_max2 {i j : Int} : biD .max2 [.int i, .int j] S = some (.int (if j > i then j else i)) := rfl
theorem biD_min2 {i j : Int} : biD .min2 [.int i, .int j] S = some (.int (if j < i then j else i)) := rfl
theorem biD_all {l : List D} : biD .all [.lst l] S = (allB l).map .bl := rfl
theorem items_tup {l : List D} : itemsD S (.tup l) = some l := rfl
theorem items_lst {l : List D} : itemsD S (.lst l) = some l := rfl
theorem items_scr {l : List D} : itemsD S (.scr l) = some l := rfl
theorem map_someE {α β : Type} {f : α → β} {a : α} : Option.map f (some a) = some (f a) := rfl
theorem all_true : ∀ {l : List D}, (∀ d ∈ l, d = .bl true) → allB l = some true
  | [], _ => rfl
  | d :: ds, h => by
    rw [h d List.mem_cons_self, allB, all_true fun x hx => h x (List.mem_cons_of_mem _ hx)]
    rfl
theorem fin_tup {keep : Bool} {n : Nat} {l : List D} (h : loL 0 l = true) (hl : S.length ≤ n) : fin keep n (.tup l) S = .ok (.tup l) S := fin_val (by rw [D.lo]; exact loL_le (Nat.zero_le _) l h) hl fun i h => by cases h
theorem fin_lst {keep : Bool} {n : Nat} {l : List D} (h : loL 0 l = true) (hl : S.length ≤ n) : fin keep n (.lst l) S = .ok (.lst l) S := fin_val (by rw [D.lo]; exact loL_le (Nat.zero_le _) l h) hl fun i h => by cases h
theorem loL_of {l : List D} (h : ∀ d ∈ l, d.lo 0 = true) : loL 0 l = true := by
  induction l with
  | nil => rfl
  | cons d ds ih => rw [loL, h d List.mem_cons_self, ih fun x hx => h x (List.mem_cons_of_mem _ hx)]; rfl
theorem lo_obj {d : D} (h : d.lo 0 = true) : ∀ i, d ≠ .obj i := fun i e => by
  rw [e, D.lo] at h
  exact absurd (of_decide_eq_true h) (Nat.not_lt_zero i)
/-- a value without things of the store, kept at a call's end -/
theorem fin_lo {keep : Bool} {n : Nat} {d : D} (h : d.lo 0 = true) (hl : S.length ≤ n) : fin keep n d S = .ok d S := fin_val (lo_le (Nat.zero_le n) d h) hl (lo_obj h)
end
theorem comp_penG {Φ : Prop} {f : D → Store → Out (Option D)} {R : Store} {xs : List D} {t : Nat} {P : MO} {o : Out (List D)} (hc : compL f xs (P :: R) = o) (K M : Nat) (Q : D → Prop) (hp : Pen t P) (ht : t + xs.length * K ≤ M)
    (h : ∀ x ∈ xs, ∀ t P, Pen t P → t ≤ M → ∃ y P', f x (P :: R) = .ok (some y) (P' :: R) ∧ Pen (t + K) P' ∧ Q y)
    (k : ∀ ys P', o = .ok ys (P' :: R) → Pen (t + xs.length * K) P' → (∀ y ∈ ys, Q y) → ys.length = xs.length → Φ) : Φ := by
  obtain ⟨ys, P', e, a, b, c⟩ := comp_pen h hp ht
  exact k ys P' (hc.symm.trans e) a b c
theorem comp_penOG {Φ : Prop} {f : D → Store → Out (Option D)} {R : Store} {xs : List D} {t : Nat} {P : MO} {o : Out (List D)} (hc : compL f xs (P :: R) = o) (K M : Nat) (Q : D → Prop) (hp : Pen t P) (ht : t + xs.length * K ≤ M)
    (h : ∀ x ∈ xs, ∀ t P, Pen t P → t ≤ M → ∃ o P', f x (P :: R) = .ok o (P' :: R) ∧ Pen (t + K) P' ∧ ∀ y, o = some y → Q y)
    (k : ∀ ys P', o = .ok ys (P' :: R) → Pen (t + xs.length * K) P' → (∀ y ∈ ys, Q y) → ys.length ≤ xs.length → Φ) : Φ := by
  obtain ⟨ys, P', e, a, b, c⟩ := comp_penO h hp ht
  exact k ys P' (hc.symm.trans e) a b c
theorem comp_mapG {f : D → Store → Out (Option D)} {S : Store} {xs : List D} {o : Out (List D)} (hc : compL f xs S = o) (g : D → D) (h : ∀ x ∈ xs, f x S = .ok (some (g x)) S) : o = .ok (xs.map g) S := by
  subst hc
  exact comp_map h
theorem small_le {i : Int} (h0 : -1000000000 ≤ i) (h1 : i ≤ 1000000000) : small i = true := by
  unfold small
  rw [Bool.and_eq_true, decide_eq_true_eq, decide_eq_true_eq]
  constructor <;> omega
theorem len_lt {n m : Nat} (h : n ≤ m) (hm : m < 16777216) : n < sizeLine := by
  rw [sizeLine_eq]
  omega
theorem frz_le {n : Nat} {S : Store} (h : S.length ≤ n) (o : Option D) : frz n S o = o := by
  cases o with
  | none => rfl
  | some d =>
    cases d with
    | obj i =>
      simp only [frz]
      by_cases hi : n ≤ i
      · rw [if_pos hi, List.getElem?_eq_none (by omega)]
      · rw [if_neg hi]
    | _ => rfl
theorem turnEnd_le {n : Nat} {w : List Nat} {σ : Env} {S : Store} (h : S.length ≤ n) : turnEnd n w σ S = (wipeD σ w, S) := by
  unfold turnEnd
  dsimp only
  have e : (wipeD σ w).map (frz n S) = wipeD σ w := (List.map_congr_left fun o _ => frz_le h o).trans (List.map_id _)
  rw [e]
  split
  · rw [List.take_of_length_le h]
  · split
    · rw [List.take_of_length_le h]
    · rfl
/-- a loop whose turns leave the store's length -/
theorem for_G {Φ : Prop} {w : List Nat} {n : Nat} {f : D → Env → Store → Flow} {xs : List D} {σ : Env} {S : Store} {o : Flow} (hc : forL w n f xs σ S = o) (I : Nat → Env → Store → Prop) (h0 : I 0 σ S)
    (hs : ∀ (j : Nat) (x : D), xs[j]? = some x → ∀ σ S, I j σ S → ∃ σ' S', f x σ S = .nx σ' S' ∧ S'.length ≤ n ∧ I (j + 1) (wipeD σ' w) S') (k : ∀ σ' S', o = .nx σ' S' → I xs.length σ' S' → Φ) : Φ := by
  obtain ⟨σ', S', e, h⟩ := for_turns (w := w) (n := n) (f := f) (I := I) (i := 0) (xs := xs) h0 fun j x hj σ S hI => by
    rw [Nat.zero_add] at hI ⊢
    obtain ⟨σ1, S1, e1, l1, i1⟩ := hs j x hj σ S hI
    exact ⟨σ1, S1, e1, by rw [turnEnd_le l1]; exact i1⟩
  rw [Nat.zero_add] at h
  exact k σ' S' (hc.symm.trans e) h
theorem map_take {α β : Type} {f : α → β} {l : List α} {j : Nat} {x : α} (h : l[j]? = some x) : (l.take (j + 1)).map f = (l.take j).map f ++ [f x] := by
  rw [List.take_succ, h, List.map_append]
  rfl
/-! ### one form at a time -/
section
variable {C : CallT} {σ : Env} {S : Store}
def look (σ : Env) (i : Nat) (S : Store) : Out D := match σ[i]? with
  | some (some d) => .ok d S
  | _ => .bad
/-- one turn of a comprehension, of a loop -/
def turnQ (C : CallT) (t : QT) (cond elt : QE) (σ : Env) : D → Store → Out (Option D) := fun x S => match assignT t x (wipeD σ t.slots) with
  | none => .bad
  | some σ1 => (evC C cond σ1 S).bind fun k S => if k = true then (ev C elt σ1 S).bind fun y S => .ok (some y) S else .ok none S
def turnF (C : CallT) (t : QT) (b : List QS) : D → Env → Store → Flow := fun x σ S => match assignT t x σ with
  | some σ => exs C b σ S
  | none => .bad
theorem ev_var {i : Nat} : ev C (.var i) σ S = look σ i S := by
  rw [ev]
  try rfl
theorem ev_con {d : D} : ev C (.con d) σ S = .ok d S := by rw [ev]
theorem ev_not {a : QE} : ev C (.not a) σ S = (okB (ev C a σ S)).bind fun b S => .ok (.bl (!b)) S := by rw [ev]
theorem ev_bin {o : Op2} {a b : QE} : ev C (.bin o a b) σ S = (ev C a σ S).bind fun x S => (ev C b σ S).bind fun y S => ofO (binD o x y) S := by rw [ev]
theorem ev_cmp {o : Cm} {a b : QE} : ev C (.cmp o a b) σ S = (ev C a σ S).bind fun x S => (ev C b σ S).bind fun y S => ofO ((cmpD o x y S).map .bl) S := by rw [ev]
theorem ev_chn {o p : Cm} {a b c : QE} : ev C (.chn o p a b c) σ S = (ev C a σ S).bind fun x S => (ev C b σ S).bind fun y S => (ofO (cmpD o x y S) S).bind fun k S => if k = true then (ev C c σ S).bind fun z S => ofO ((cmpD p y z S).map .bl) S else .ok (.bl false) S := by rw [ev]
theorem ev_and {a b : QE} : ev C (.and a b) σ S = (okB (ev C a σ S)).bind fun k S => if k = true then ev C b σ S else .ok (.bl false) S := by rw [ev]
theorem ev_or {a b : QE} : ev C (.or a b) σ S = (okB (ev C a σ S)).bind fun k S => if k = true then .ok (.bl true) S else ev C b σ S := by rw [ev]
theorem ev_ife {c a b : QE} : ev C (.ife c a b) σ S = (okB (ev C c σ S)).bind fun k S => if k = true then ev C a σ S else ev C b σ S := by rw [ev]
theorem ev_idx {a b : QE} : ev C (.idx a b) σ S = (ev C a σ S).bind fun x S => (ev C b σ S).bind fun y S => ofO (idxD x y S) S := by rw [ev]
theorem ev_slc {a lo hi : QE} : ev C (.slc a lo hi) σ S = (ev C a σ S).bind fun x S => (evO C lo σ S).bind fun l S => (evO C hi σ S).bind fun h S => ofO (slcD x l h) S := by
  rw [ev]
  try rfl
theorem ev_tup {es : QEs} : ev C (.tup es) σ S = (evs C es σ S).bind fun xs S => if xs.length ≤ sizeLine then .ok (.tup xs) S else .bad := by rw [ev]
theorem ev_lst {es : QEs} : ev C (.lst es) σ S = (evs C es σ S).bind fun xs S => if xs.length ≤ sizeLine then .ok (.lst xs) S else .bad := by rw [ev]
theorem ev_call {k : Nat} {es : QEs} : ev C (.call k es) σ S = (evs C es σ S).bind fun xs S => C k xs S := by rw [ev]
theorem ev_bi {b : Bi} {es : QEs} : ev C (.bi b es) σ S = (evs C es σ S).bind fun xs S => ofO (biD b xs S) S := by rw [ev]
def mthQ (m : Mt) (x : D) (o : Out (List D)) : Out D := o.bind fun xs S => match mtD m x xs S with
  | some (d, S) => .ok d S
  | none => .bad
theorem ev_mth {m : Mt} {o : QE} {es : QEs} : ev C (.mth m o es) σ S = (ev C o σ S).bind fun x S => if mtOk m x S = true then mthQ m x (evs C es σ S) else .bad := by
  rw [ev]
  try rfl
theorem mthQ_ok {m : Mt} {x d : D} {xs : List D} {S' : Store} (h : mtD m x xs S = some (d, S')) : mthQ m x (.ok xs S) = .ok d S' := by
  show (match mtD m x xs S with
    | some (d, S) => Out.ok d S
    | none => .bad) = _
  rw [h]
theorem ev_isi {a : QE} {t : Ty} : ev C (.isi a t) σ S = (ev C a σ S).bind fun x S => ofO ((isiD x t).map .bl) S := by rw [ev]
def compOQ (C : CallT) (t : QT) (cond elt : QE) (σ : Env) : D → Store → Out D := fun x S => match x with
  | .obj i => match S[i]? with
    | some (.lst l) => (compL (fun x S => grd i l (turnQ C t cond elt σ x S)) l S).bind fun ys S => if ys.length < sizeLine then .ok (.lst ys) S else .bad
    | _ => .bad
  | _ => .bad
theorem ev_compO {t : QT} {a cond elt : QE} : ev C (.compO t a cond elt) σ S = (ev C a σ S).bind (compOQ C t cond elt σ) := by
  rw [ev]
  try rfl
def grdQ {α : Type} (i : Nat) (l : List D) (f : D → Store → Out α) : D → Store → Out α := fun x S => grd i l (f x S)
theorem compO_of {t : QT} {cond elt : QE} {i : Nat} {l : List D} (h : S[i]? = some (.lst l)) : compOQ C t cond elt σ (.obj i) S = (compL (grdQ i l (turnQ C t cond elt σ)) l S).bind fun ys S => if ys.length < sizeLine then .ok (.lst ys) S else .bad := by
  unfold compOQ
  dsimp only
  rw [h]
  rfl
theorem grdQ_ok {α : Type} {i : Nat} {l : List D} {f : D → Store → Out α} {x : D} {a : α} {S' : Store} (e : f x S = .ok a S') (h : S'[i]? = some (.lst l)) : grdQ i l f x S = .ok a S' := by
  unfold grdQ grd
  rw [e]
  dsimp only
  rw [if_pos (kept_iff.mpr h)]
theorem grd_kept {α : Type} {i : Nat} {l : List D} {a : α} (h : S[i]? = some (.lst l)) : grd i l (.ok a S) = .ok a S := by
  unfold grd
  dsimp only
  rw [if_pos (kept_iff.mpr h)]
theorem ev_comp {t : QT} {it : QI} {cond elt : QE} : ev C (.comp t it cond elt) σ S = (evI C it σ S).bind fun xs S => (compL (turnQ C t cond elt σ) xs S).bind fun ys S => if ys.length < sizeLine then .ok (.lst ys) S else .bad := by
  rw [ev]
  try rfl
theorem ev_lrg {t : Bool} {it : QI} : ev C (.lrg t it) σ S = (evI C it σ S).bind fun xs S => if xs.length ≤ 16777216 then .ok (if t = true then .tup xs else .lst xs) S else .bad := by rw [ev]
def setQ (t : QT) (σ : Env) (d : D) (S : Store) : Flow := match assignT t d σ with
    | some σ => .nx σ S
    | none => .bad
theorem ex_set {t : QT} {e : QE} : ex C (.set t e) σ S = (ev C e σ S).go σ (setQ t σ) := by
  rw [ex]
  try rfl
theorem ex_setM {i : Nat} {e : QE} : ex C (.setM i e) σ S = (ev C e σ S).go σ fun d S => match d with
    | .lst l => .nx (σ.set i (some (.obj S.length))) (S ++ [.lst l])
    | _ => .bad := by
  rw [ex]
  try rfl
theorem ex_setN {i : Nat} {q : QN} : ex C (.setN i q) σ S = (evM C q σ S).go σ fun d S => .nx (σ.set i (some d)) S := by rw [ex]
theorem ex_parN {ts : List Nat} {qs : List QN} : ex C (.parN ts qs) σ S = (evMs C qs σ S).go σ fun xs S => if xs.length = ts.length then .nx (setAll σ ts xs) S else .bad := by rw [ex]
theorem evM_val {e : QE} : evM C (.val e) σ S = ev C e σ S := rfl
theorem evM_lst {e : QE} : evM C (.lst e) σ S = (ev C e σ S).bind newQ := rfl
theorem evM_dct {k v : QE} : evM C (.dct k v) σ S = (ev C k σ S).bind fun a S => (ev C v σ S).bind fun b S => dctQ a b S := rfl
theorem evMs_nil : evMs C [] σ S = .ok [] S := rfl
theorem evMs_cons {q : QN} {qs : List QN} : evMs C (q :: qs) σ S = (evM C q σ S).bind fun x S => (evMs C qs σ S).bind fun xs S => .ok (x :: xs) S := rfl
theorem newQ_lst {l : List D} : newQ (.lst l) S = .ok (.obj S.length) (S ++ [.lst l]) := rfl
theorem dctQ_of {l : List D} {b : D} (h : keyOk (.tup l) 8 = true) : dctQ (.tup l) b S = .ok (.obj S.length) (S ++ [.dct [(.tup l, b)]]) := by
  unfold dctQ
  exact if_pos ⟨rfl, h⟩
theorem ex_par {ts : List Nat} {es : QEs} : ex C (.par ts es) σ S = (evs C es σ S).go σ fun xs S => if xs.length = ts.length then .nx (setAll σ ts xs) S else .bad := by rw [ex]
theorem ex_sub {a i e : QE} : ex C (.sub a i e) σ S = (ev C e σ S).go σ fun v S => (ev C a σ S).go σ fun x S => (ev C i σ S).go σ fun k S => match subD x k v S with
    | some S => .nx σ S
    | none => .bad := by
  rw [ex]
  try rfl
theorem ex_expr {e : QE} : ex C (.expr e) σ S = (ev C e σ S).go σ fun _ S => .nx σ S := by rw [ex]
theorem ex_ret {e : QE} : ex C (.ret e) σ S = (ev C e σ S).go σ fun d S => .rt d S := by rw [ex]
theorem ex_retM {e : QE} : ex C (.retM e) σ S = (ev C e σ S).go σ fun d S => match d with
    | .lst l => .rt (.obj S.length) (S ++ [.lst l])
    | _ => .bad := by
  rw [ex]
  try rfl
theorem ex_ife {c : QE} {a b : List QS} : ex C (.ife c a b) σ S = (okB (ev C c σ S)).go σ fun k S => if k = true then exs C a σ S else exs C b σ S := by rw [ex]
theorem ex_for {t : QT} {it : QI} {w : List Nat} {b : List QS} : ex C (.for_ t it w b) σ S = (evI C it σ S).go σ fun xs S => forL w S.length (turnF C t b) xs σ S := by
  rw [ex]
  try rfl
theorem ex_mtch {e : QE} {cs : QCs} : ex C (.mtch e cs) σ S = (ev C e σ S).go σ fun d S => exc C cs d σ S := by rw [ex]
theorem ex_pass : ex C .pass σ S = .nx σ S := by rw [ex]
theorem ex_brk : ex C .brk σ S = .bk σ S := by rw [ex]
theorem ex_cnt : ex C .cnt σ S = .ct σ S := by rw [ex]
end
theorem last_at' {R : Store} {m : MO} : (R ++ [m])[R.length]? = some m := by
  rw [List.getElem?_append_right (Nat.le_refl _), Nat.sub_self]
  rfl
/-- a value without things of the store; what is above is dropped -/
theorem fin_cut {keep : Bool} {n : Nat} {d : D} {S : Store} (h : d.lo 0 = true) : fin keep n d S = .ok d (S.take n) := by
  have e := lo_le (Nat.zero_le n) d h
  cases d <;> first
    | (exact absurd rfl (lo_obj h _))
    | (unfold fin; dsimp only; rw [if_pos e])
theorem turnEnd_lo {n : Nat} {w : List Nat} {σ σ' : Env} {S : Store} (e : wipeD σ w = σ') (h : (σ'.all fun o => match o with
    | some d => d.lo n
    | none => true) = true) : turnEnd n w σ S = (σ', S.take n) := by
  subst e
  unfold turnEnd
  dsimp only
  exact if_pos h
theorem forT_G {Φ : Prop} {w : List Nat} {n : Nat} {f : D → Env → Store → Flow} {xs : List D} {σ : Env} {S : Store} {o : Flow} (hc : forL w n f xs σ S = o) (I : Nat → Env → Store → Prop) (h0 : I 0 σ S)
    (hs : ∀ (j : Nat) (x : D), xs[j]? = some x → ∀ σ S, I j σ S → ∃ σ' S', f x σ S = .nx σ' S' ∧ I (j + 1) (turnEnd n w σ' S').1 (turnEnd n w σ' S').2) (k : ∀ σ' S', o = .nx σ' S' → I xs.length σ' S' → Φ) : Φ := by
  obtain ⟨σ', S', e, h⟩ := for_turns (w := w) (n := n) (f := f) (I := I) (i := 0) (xs := xs) h0 fun j x hj σ S hI => by
    rw [Nat.zero_add] at hI ⊢
    exact hs j x hj σ S hI
  rw [Nat.zero_add] at h
  exact k σ' S' (hc.symm.trans e) h
theorem mem_cons_of {p : D → Prop} {a : D} {l : List D} (h : p a) (hl : ∀ d ∈ l, p d) : ∀ d ∈ a :: l, p d := fun d hd => (List.mem_cons.mp hd).elim (fun e => by rw [e]; exact h) (hl d)
theorem mem_nil_of {p : D → Prop} : ∀ d ∈ ([] : List D), p d := fun d h => by cases h
end Rs

namespace Rs
open PySem PySem.Spec PyProof.Rows L2
/-! ### a function at a number of the table -/
class Hx (tab : List QFn) (ν : Nat → Nat) (g : Nat) (q : QFn) : Prop where
  h : ∃ q', tab[ν g]? = some q' ∧ q'.np = q.np ∧ q'.N.length = q.N.length ∧ q'.body = q.body ∧ q'.keep = q.keep ∧ q'.kd = q.kd
theorem callF_h {tab : List QFn} {ν : Nat → Nat} {g : Nat} {q : QFn} [hx : Hx tab ν g q] {n : Nat} {args : List D} {S : Store} (ha : args.length = q.np) (hb : Nat.ble q.np q.N.length = true) (hk : q.kd = 0 := by rfl) :
    callF tab (n + 1) (ν g) args S = endFlow q.keep S.length (exs (callF tab n) q.body (args.map some ++ List.replicate (q.N.length - args.length) none) S) := by
  obtain ⟨q', e, e1, e2, e3, e4, e5⟩ := hx.h
  rw [callF_run e (by rw [e1, e2]; exact ⟨ha, Nat.le_of_ble_eq_true hb⟩) (by rw [e5]; exact hk), e2, e3, e4]
/-- the end of a def that is called with a function -/
def endSaid (keep : Bool) (n : Nat) : Flow → Out D
  | .rt d S' => if d.noX = true then fin keep n d S' else .bad
  | .nx _ S' => .ok .non (S'.take n)
  | .exc x _ S' => if loL n x.fs = true ∧ noXL x.fs = true then .exc x (S'.take n) else .bad
  | _ => .bad
theorem said_h {tab : List QFn} {ν : Nat → Nat} {g : Nat} {q : QFn} [hx : Hx tab ν g q] {n : Nat} {cap : List D} {th : Store → Out D} {S : Store} (ha : q.np = 1) (hb : Nat.ble q.np q.N.length = true) (hk : q.kd = 1) :
    (callF tab (n + 1)).said (ν g) cap th S = endSaid q.keep S.length (exs { callF tab n with thk := th } q.body (some (.exn 99 cap) :: List.replicate (q.N.length - 1) none) S) := by
  obtain ⟨q', e, e1, e2, e3, e4, e5⟩ := hx.h
  rw [callF]
  dsimp only
  rw [e]
  show runL { callF tab n with thk := th } q' cap S = _
  unfold runL
  rw [if_pos ⟨⟨by rw [e1]; exact ha, by rw [e1, e2]; exact Nat.le_of_ble_eq_true hb⟩, by rw [e5]; exact hk⟩, e2, e3, e4]
  cases exs { callF tab n with thk := th } q.body (some (.exn 99 cap) :: List.replicate (q.N.length - 1) none) S <;> rfl
/-- the end of a def that is called within an except suite -/
def endHot : Flow → Option D
  | .rt d _ => if d.noX = true then some d else none
  | _ => none
theorem hot_h {tab : List QFn} {ν : Nat → Nat} {g : Nat} {q : QFn} [hx : Hx tab ν g q] {n : Nat} {args : List D} {S : Store} (ha : args.length = q.np) (hb : Nat.ble q.np q.N.length = true) (hk : q.kd = 2) :
    (callF tab (n + 1)).hot (ν g) args S = endHot (exs (callF tab n) q.body (args.map some ++ List.replicate (q.N.length - args.length) none) S) := by
  obtain ⟨q', e, e1, e2, e3, e4, e5⟩ := hx.h
  rw [callF]
  dsimp only
  rw [e]
  show runH (callF tab n) q' args S = _
  unfold runH
  rw [if_pos ⟨⟨by rw [e1]; exact ha, by rw [e1, e2]; exact Nat.le_of_ble_eq_true hb⟩, by rw [e5]; exact hk⟩, e2, e3]
  cases exs (callF tab n) q.body (args.map some ++ List.replicate (q.N.length - args.length) none) S <;> rfl
theorem up1 {n k : Nat} (h : k + 1 ≤ n) : ∃ m, n = m + 1 := ⟨n - 1, by omega⟩
/-! ### numbers -/
theorem i_add {a b : Nat} : (a : Int) + (b : Int) = ((a + b : Nat) : Int) := rfl
theorem i_add1 {a : Nat} : (a : Int) + 1 = ((a + 1 : Nat) : Int) := rfl
theorem i_mul {a b : Nat} : (a : Int) * (b : Int) = ((a * b : Nat) : Int) := rfl
theorem i_lt {a b : Nat} : ((a : Int) < (b : Int)) = (a < b) := by simp
theorem i_le {a b : Nat} : ((a : Int) ≤ (b : Int)) = (a ≤ b) := by simp
theorem i_beq {a b : Nat} : ((a : Int) == (b : Int)) = (a == b) := by
  by_cases h : a = b
  · subst h; simp
  · rw [beq_eq_false_iff_ne.mpr h, beq_eq_false_iff_ne.mpr (by omega)]
theorem i_0 : (0 : Int) = ((0 : Nat) : Int) := rfl
theorem i_toNat {a : Nat} : ((a : Int)).toNat = a := rfl
theorem i_sub1 {a : Nat} (h : 1 ≤ a) : (a : Int) - 1 = ((a - 1 : Nat) : Int) := by omega
theorem small_nat {a : Nat} (h : a ≤ 1000000000) : small (a : Int) = true := small_le (by omega) (by omega)
theorem atI_nat {l : List D} {a : Nat} {x : D} (h : l[a]? = some x) : atI l (a : Int) = some x := by
  have hl := (List.getElem?_eq_some_iff.mp h).1
  rw [atI_eq (by omega) (by omega)]
  exact h
theorem atI_map {α : Type} {enc : α → D} {l : List α} {a : Nat} {x : α} (h : l[a]? = some x) : atI (l.map enc) (a : Int) = some (enc x) := atI_nat (by rw [List.getElem?_map, h]; rfl)
theorem get_lt {α : Type} {l : List α} {a : Nat} (h : a < l.length) : ∃ x, l[a]? = some x ∧ x ∈ l := ⟨l[a], by simp [h], List.getElem_mem h⟩
/-! ### pieces of a sequence -/
theorem cut_to {l : List D} {n : Nat} : cutL l none (some (n : Int)) = l.take n := by
  unfold cutL
  rw [HT.sIx_nat, HT.sIx_none, List.drop_zero, Nat.sub_zero]
  by_cases h : n ≤ l.length
  · rw [Nat.min_eq_left h]
  · rw [Nat.min_eq_right (by omega), List.take_of_length_le (Nat.le_refl _), List.take_of_length_le (by omega)]
theorem cut_from {l : List D} {n : Nat} : cutL l (some (n : Int)) none = l.drop n := by
  unfold cutL
  rw [HT.sIx_nat, HT.sIx_none]
  by_cases h : n ≤ l.length
  · rw [Nat.min_eq_left h, List.take_of_length_le (by rw [List.length_drop]; omega)]
  · rw [Nat.min_eq_right (by omega), List.drop_of_length_le (Nat.le_refl _), List.drop_of_length_le (l := l) (by omega), List.take_nil]
theorem cut_mid {l : List D} {a b : Nat} : cutL l (some (a : Int)) (some (b : Int)) = (l.take b).drop a := by
  unfold cutL
  rw [HT.sIx_nat, HT.sIx_nat]
  by_cases h : a ≤ l.length
  · rw [Nat.min_eq_left h, List.drop_take]
    by_cases h' : b ≤ l.length
    · rw [Nat.min_eq_left h']
    · have hm : min b l.length = l.length := Nat.min_eq_right (by omega)
      rw [hm, List.take_of_length_le (by rw [List.length_drop]; omega), List.take_of_length_le (by rw [List.length_drop]; omega)]
  · have hm : min a l.length = l.length := Nat.min_eq_right (by omega)
    rw [hm, List.drop_of_length_le (Nat.le_refl _), List.take_nil, List.drop_of_length_le (by rw [List.length_take]; omega)]
theorem slcD_tup {l : List D} {lo hi : Option Int} : slcD (.tup l) lo hi = some (.tup (cutL l lo hi)) := rfl
theorem slcD_lst {l : List D} {lo hi : Option Int} : slcD (.lst l) lo hi = some (.lst (cutL l lo hi)) := rfl
theorem set_cut {α : Type} : ∀ {l : List α} {p : Nat} {x : α}, p < l.length → l.take p ++ x :: l.drop (p + 1) = l.set p x
  | [], p, x, h => by simp at h
  | y :: ys, 0, x, h => rfl
  | y :: ys, p + 1, x, h => by
    rw [List.take_succ_cons, List.drop_succ_cons, List.set_cons_succ, List.cons_append, set_cut (by simpa using h)]
theorem rngL_range : ∀ {n lo : Nat}, rngL (lo : Int) 1 n = (List.range' lo n).map fun i : Nat => D.int (i : Int)
  | 0, lo => rfl
  | n + 1, lo => by
    rw [rngL, List.range'_succ, List.map_cons]
    exact congrArg _ (rngL_range (n := n) (lo := lo + 1))
theorem rng0 {n : Nat} : rngL 0 1 n = (List.range n).map fun i : Nat => D.int (i : Int) := by
  rw [List.range_eq_range']
  exact rngL_range (lo := 0)
/-! ### repr and text equal -/
theorem lo_map {α : Type} {enc : α → D} {l : List α} (h : ∀ x ∈ l, (enc x).lo 0 = true) : loL 0 (l.map enc) = true := loL_of fun d hd => by
  obtain ⟨x, hx, rfl⟩ := List.mem_map.mp hd
  exact h x hx
theorem tm_map {α : Type} {enc : α → D} {l : List α} {k w : Nat} (h : ∀ x ∈ l, Tm k w (enc x)) : ∀ d ∈ l.map enc, Tm k w d := fun d hd => by
  obtain ⟨x, hx, rfl⟩ := List.mem_map.mp hd
  exact h x hx
/-! ### comprehensions and loops over typed items -/
theorem comp_T {α : Type} {enc : α → D} {f : D → Store → Out (Option D)} {S : Store} {l : List α} {o : Out (List D)} (hc : compL f (l.map enc) S = o) (g : α → D) (h : ∀ x ∈ l, f (enc x) S = .ok (some (g x)) S) : o = .ok (l.map g) S := by
  subst hc
  induction l with
  | nil => rfl
  | cons x l ih =>
    rw [List.map_cons, compL, h x List.mem_cons_self]
    dsimp only
    rw [ih fun y hy => h y (List.mem_cons_of_mem _ hy)]
    simp
theorem comp_F {α : Type} {enc : α → D} {f : D → Store → Out (Option D)} {S : Store} {l : List α} {o : Out (List D)} (hc : compL f (l.map enc) S = o) (p : α → Bool) (g : α → D) (h : ∀ x ∈ l, f (enc x) S = .ok (if p x = true then some (g x) else none) S) : o = .ok ((l.filter p).map g) S := by
  subst hc
  induction l with
  | nil => rfl
  | cons x l ih =>
    rw [List.map_cons, compL, h x List.mem_cons_self]
    dsimp only
    rw [ih fun y hy => h y (List.mem_cons_of_mem _ hy), List.filter_cons]
    cases p x <;> rfl
def NX (fl : Flow) (p : Env → Store → Prop) : Prop := match fl with
  | .nx σ S => p σ S
  | _ => False
theorem NX_nx {σ : Env} {S : Store} {p : Env → Store → Prop} : NX (.nx σ S) p = p σ S := rfl
theorem NX_ex {fl : Flow} {p : Env → Store → Prop} (h : NX fl p) : ∃ σ S, fl = .nx σ S ∧ p σ S := by
  cases fl with
  | nx σ S => exact ⟨σ, S, rfl, h⟩
  | _ => exact h.elim
theorem for_T {Φ : Prop} {α β : Type} {w : List Nat} {n : Nat} {f : D → Env → Store → Flow} {enc : β → D} {l : List β} {σ : Env} {S : Store} {o : Flow} (hc : forL w n f (l.map enc) σ S = o)
    (E : α → Env) (M : α → Store) (P : α → Prop) (step : α → β → α) (a0 : α) (hσ : σ = E a0) (hS : S = M a0) (p0 : P a0)
    (hs : ∀ a b, P a → b ∈ l → P (step a b) ∧ (M (step a b)).length ≤ n ∧ NX (f (enc b) (E a) (M a)) fun σ' S' => wipeD σ' w = E (step a b) ∧ S' = M (step a b))
    (k : P (l.foldl step a0) → o = .nx (E (l.foldl step a0)) (M (l.foldl step a0)) → Φ) : Φ := by
  subst hσ hS
  have main : ∀ (l' : List β) (a : α), (∀ b ∈ l', b ∈ l) → P a → P (l'.foldl step a) ∧ forL w n f (l'.map enc) (E a) (M a) = .nx (E (l'.foldl step a)) (M (l'.foldl step a)) := by
    intro l'
    induction l' with
    | nil => exact fun a _ p => ⟨p, rfl⟩
    | cons b l' ih =>
      intro a hm p
      obtain ⟨p', hl, h⟩ := hs a b p (hm b List.mem_cons_self)
      obtain ⟨σ', S', e, hw, rfl⟩ := NX_ex h
      obtain ⟨q1, q2⟩ := ih (step a b) (fun x hx => hm x (List.mem_cons_of_mem _ hx)) p'
      refine ⟨q1, ?_⟩
      rw [List.map_cons, forL, e]
      dsimp only
      rw [turnEnd_le hl, hw]
      exact q2
  obtain ⟨q1, q2⟩ := main l a0 (fun _ h => h) p0
  exact k q1 (hc.symm.trans q2)
/-- every turn goes on as it was, or the loop ends with a value -/
theorem for_find {Φ : Prop} {β : Type} {w : List Nat} {n : Nat} {f : D → Env → Store → Flow} {enc : β → D} {l : List β} {σ : Env} {S : Store} {o : Flow} (hc : forL w n f (l.map enc) σ S = o)
    (hn : S.length ≤ n) (p : β → Bool) (r : β → D)
    (hs : ∀ b ∈ l, if p b = true then f (enc b) σ S = .rt (r b) S else NX (f (enc b) σ S) fun σ' S' => wipeD σ' w = σ ∧ S' = S)
    (k : o = (match l.find? p with | some b => .rt (r b) S | none => .nx σ S) → Φ) : Φ := by
  refine k (hc.symm.trans ?_)
  clear hc k
  induction l with
  | nil => rfl
  | cons b l ih =>
    have h := hs b List.mem_cons_self
    rw [List.map_cons, forL, List.find?_cons]
    cases hp : p b with
    | true =>
      rw [hp, if_pos rfl] at h
      rw [h]
    | false =>
      rw [hp, if_neg (by simp)] at h
      obtain ⟨σ', S', e, hw, rfl⟩ := NX_ex h
      rw [e]
      dsimp only
      rw [turnEnd_le hn, hw]
      exact ih fun x hx => hs x (List.mem_cons_of_mem _ hx)
/-! ### the walk's lemmas in one -/
section
variable {C : CallT} {σ : Env} {S : Store}
theorem asg_nm {i : Nat} {d : D} : assignT (.nm i) d σ = some (σ.set i (some d)) := rfl
theorem asg_tp {ts : List QT} {l : List D} : assignT (.tp ts) (.tup l) σ = assignTs ts l σ := rfl
theorem asgs_nil : assignTs [] [] σ = some σ := rfl
theorem asgs_cons {t : QT} {ts : List QT} {d : D} {ds : List D} : assignTs (t :: ts) (d :: ds) σ = (assignT t d σ).bind (assignTs ts ds) := rfl
theorem bind_someE {α β : Type} {a : α} {f : α → Option β} : (some a).bind f = f a := rfl
theorem setQ_some {t : QT} {d : D} {σ' : Env} (h : assignT t d σ = some σ') : setQ t σ d S = .nx σ' S := by
  unfold setQ
  rw [h]
theorem setQ_nm {i : Nat} {d : D} : setQ (.nm i) σ d S = .nx (σ.set i (some d)) S := rfl
theorem setQ_tp2 {i j : Nat} {x y : D} : setQ (.tp [.nm i, .nm j]) σ (.tup [x, y]) S = .nx ((σ.set i (some x)).set j (some y)) S := rfl
theorem setQ_tp3 {i j k : Nat} {x y z : D} : setQ (.tp [.nm i, .nm j, .nm k]) σ (.tup [x, y, z]) S = .nx (((σ.set i (some x)).set j (some y)).set k (some z)) S := rfl
theorem wipe_nil : wipeD σ [] = σ := rfl
theorem wipe_cons {v : Nat} {vs : List Nat} : wipeD σ (v :: vs) = (wipeD σ vs).set v none := rfl
theorem slots_nm {i : Nat} : (QT.nm i).slots = [i] := rfl
theorem slots_tp {ts : List QT} : (QT.tp ts).slots = slotsL ts := rfl
theorem slotsL_nil : slotsL [] = [] := rfl
theorem slotsL_cons {t : QT} {ts : List QT} : slotsL (t :: ts) = t.slots ++ slotsL ts := rfl
theorem evC_no : evC C .no σ S = .ok true S := rfl
theorem evC_e {q : QE} (h : q.isNo = false) : evC C q σ S = okB (ev C q σ S) := by
  unfold evC
  rw [h]
  rfl
theorem evO_no : evO C .no σ S = .ok none S := rfl
theorem evO_e {q : QE} (h : q.isNo = false) : evO C q σ S = okI (ev C q σ S) := by
  unfold evO
  rw [h]
  rfl
theorem evs_nil : evs C .nil σ S = .ok [] S := by rw [evs]
theorem evs_cons {e : QE} {es : QEs} : evs C (.cons e es) σ S = (ev C e σ S).bind fun x S => (evs C es σ S).bind fun xs S => .ok (x :: xs) S := by rw [evs]
def starQ (x : D) (o : Store → Out (List D)) (S : Store) : Out (List D) := match x with
    | .tup l => (o S).bind fun xs S => .ok (l ++ xs) S
    | .lst l => (o S).bind fun xs S => .ok (l ++ xs) S
    | _ => .bad
theorem evs_star {e : QE} {es : QEs} : evs C (.star e es) σ S = (ev C e σ S).bind fun x S => starQ x (fun S => evs C es σ S) S := by
  rw [evs]
  try rfl
theorem star_tup {l : List D} {o : Store → Out (List D)} : starQ (.tup l) o S = (o S).bind fun xs S => .ok (l ++ xs) S := rfl
theorem star_lst {l : List D} {o : Store → Out (List D)} : starQ (.lst l) o S = (o S).bind fun xs S => .ok (l ++ xs) S := rfl
def itmQ (x : D) (S : Store) : Out (List D) := match x with
    | .tup l => .ok l S
    | .lst l => .ok l S
    | _ => .bad
theorem evI_val {e : QE} : evI C (.val e) σ S = (ev C e σ S).bind itmQ := by
  rw [evI]
  try rfl
theorem itmQ_tup {l : List D} : itmQ (.tup l) S = .ok l S := rfl
theorem itmQ_lst {l : List D} : itmQ (.lst l) S = .ok l S := rfl
def rngQ (x y : D) (S : Store) : Out (List D) := match x, y with
    | .int i, .int j => if small i = true ∧ small j = true then .ok (rngL i 1 (j - i).toNat) S else .bad
    | _, _ => .bad
def rng1Q (x : D) (S : Store) : Out (List D) := match x with
    | .int j => if small j = true then .ok (rngL 0 1 j.toNat) S else .bad
    | _ => .bad
theorem evI_rng1 {a : QE} : evI C (.rng1 a) σ S = (ev C a σ S).bind rng1Q := by
  rw [evI]
  try rfl
theorem evI_rng2 {a b : QE} : evI C (.rng2 a b) σ S = (ev C a σ S).bind fun x S => (ev C b σ S).bind fun y S => rngQ x y S := by
  rw [evI]
  try rfl
theorem rng1_nat {j : Nat} (h : j ≤ 1000000000) : rng1Q (.int (j : Int)) S = .ok ((List.range j).map fun i : Nat => D.int (i : Int)) S := by
  unfold rng1Q
  dsimp only
  rw [if_pos (small_nat h), i_toNat, rng0]
theorem rng2_nat {i j : Nat} (h : i ≤ 1000000000) (h' : j ≤ 1000000000) : rngQ (.int (i : Int)) (.int (j : Int)) S = .ok ((List.range' i (j - i)).map fun i : Nat => D.int (i : Int)) S := by
  unfold rngQ
  dsimp only
  rw [if_pos ⟨small_nat h, small_nat h'⟩, show ((j : Int) - (i : Int)).toNat = j - i by omega, rngL_range]
def enmQ (x : D) (S : Store) : Out (List D) := match x with
    | .lst l => .ok (enmL 0 l) S
    | .tup l => .ok (enmL 0 l) S
    | _ => .bad
theorem evI_enm {a : QE} : evI C (.enm a) σ S = (ev C a σ S).bind enmQ := by
  rw [evI]
  try rfl
theorem enmQ_lst {l : List D} : enmQ (.lst l) S = .ok (enmL 0 l) S := rfl
theorem enmQ_tup {l : List D} : enmQ (.tup l) S = .ok (enmL 0 l) S := rfl
def zipQ (x y : D) (S : Store) : Out (List D) := match x, y with
    | .tup l, .tup m => .ok (zipL l m) S
    | .lst l, .lst m => .ok (zipL l m) S
    | _, _ => .bad
theorem evI_zip {a b : QE} : evI C (.zip a b) σ S = (ev C a σ S).bind fun x S => (ev C b σ S).bind fun y S => zipQ x y S := by
  rw [evI]
  try rfl
theorem zipQ_tup {l m : List D} : zipQ (.tup l) (.tup m) S = .ok (zipL l m) S := rfl
def setMQ (i : Nat) (σ : Env) (d : D) (S : Store) : Flow := match d with
    | .lst l => .nx (σ.set i (some (.obj S.length))) (S ++ [.lst l])
    | _ => .bad
theorem ex_setM' {i : Nat} {e : QE} : ex C (.setM i e) σ S = (ev C e σ S).go σ (setMQ i σ) := by
  rw [ex]
  try rfl
theorem setMQ_lst {i : Nat} {l : List D} : setMQ i σ (.lst l) S = .nx (σ.set i (some (.obj S.length))) (S ++ [.lst l]) := rfl
def subQ (σ : Env) (x k v : D) (S : Store) : Flow := match subD x k v S with
    | some S => .nx σ S
    | none => .bad
theorem ex_sub' {a i e : QE} : ex C (.sub a i e) σ S = (ev C e σ S).go σ fun v S => (ev C a σ S).go σ fun x S => (ev C i σ S).go σ fun k S => subQ σ x k v S := by
  rw [ex]
  try rfl
theorem subQ_ok {x k v : D} {S' : Store} (h : subD x k v S = some S') : subQ σ x k v S = .nx σ S' := by
  unfold subQ
  rw [h]
def augQ (i : Nat) (o : Op2) (σ : Env) (x y : D) (S : Store) : Flow := match x, y, o with
      | .int a, .int b, .add => .nx (σ.set i (some (.int (a + b)))) S
      | .int a, .int b, .sub => .nx (σ.set i (some (.int (a - b)))) S
      | _, _, _ => .bad
theorem ex_aug' {i : Nat} {o : Op2} {e : QE} {x : D} (h : σ[i]? = some (some x)) : ex C (.aug i o e) σ S = (ev C e σ S).go σ fun y S => augQ i o σ x y S := by
  rw [ex, h]
  try rfl
theorem augQ_add {i : Nat} {a b : Int} : augQ i .add σ (.int a) (.int b) S = .nx (σ.set i (some (.int (a + b)))) S := rfl
def retMQ (d : D) (S : Store) : Flow := match d with
    | .lst l => .rt (.obj S.length) (S ++ [.lst l])
    | _ => .bad
theorem ex_retM' {e : QE} : ex C (.retM e) σ S = (ev C e σ S).go σ retMQ := by
  rw [ex]
  try rfl
theorem retMQ_lst {l : List D} : retMQ (.lst l) S = .rt (.obj S.length) (S ++ [.lst l]) := rfl
theorem ev_neg {a : QE} {i : Int} (h : ev C a σ S = .ok (.int i) S) : ev C (.neg a) σ S = .ok (.int (-i)) S := by
  rw [ev, h]
  try rfl
theorem exc_nil {d : D} : exc C .nil d σ S = .nx σ S := by rw [exc]
theorem exc_cons {p : QP} {b : List QS} {cs : QCs} {d : D} {k : Bool} (h : matchP p d = some k) : exc C (.cons p b cs) d σ S = if k = true then exs C b σ S else exc C cs d σ S := by
  rw [exc, h]
  cases k <;> rfl
theorem mp_str {a b : Str} : matchP (.val (.str a)) (.str b) = some (decide (b = a)) := rfl
theorem turnQ_some {t : QT} {cond elt : QE} {x : D} {σ1 : Env} (h : assignT t x (wipeD σ t.slots) = some σ1) : turnQ C t cond elt σ x S = (evC C cond σ1 S).bind fun k S => if k = true then (ev C elt σ1 S).bind fun y S => .ok (some y) S else .ok none S := by
  unfold turnQ
  rw [h]
theorem turnQ_nm {i : Nat} {cond elt : QE} {x : D} : turnQ C (.nm i) cond elt σ x S = (evC C cond ((σ.set i none).set i (some x)) S).bind fun k S => if k = true then (ev C elt ((σ.set i none).set i (some x)) S).bind fun y S => .ok (some y) S else .ok none S := rfl
theorem turnQ_tp2 {i j : Nat} {cond elt : QE} {x y : D} : turnQ C (.tp [.nm i, .nm j]) cond elt σ (.tup [x, y]) S = (evC C cond ((((σ.set j none).set i none).set i (some x)).set j (some y)) S).bind fun k S => if k = true then (ev C elt ((((σ.set j none).set i none).set i (some x)).set j (some y)) S).bind fun y S => .ok (some y) S else .ok none S := rfl
theorem turnF_nm {i : Nat} {b : List QS} {x : D} : turnF C (.nm i) b x σ S = exs C b (σ.set i (some x)) S := rfl
theorem turnF_tp2 {i j : Nat} {b : List QS} {x y : D} : turnF C (.tp [.nm i, .nm j]) b (.tup [x, y]) σ S = exs C b ((σ.set i (some x)).set j (some y)) S := rfl
theorem turnF_tp3 {i j k : Nat} {b : List QS} {x y z : D} : turnF C (.tp [.nm i, .nm j, .nm k]) b (.tup [x, y, z]) σ S = exs C b (((σ.set i (some x)).set j (some y)).set k (some z)) S := rfl
theorem idx_tup {l : List D} {i : Int} : idxD (.tup l) (.int i) S = atI l i := rfl
theorem idx_lst {l : List D} {i : Int} : idxD (.lst l) (.int i) S = atI l i := rfl
theorem idx_scr {l : List D} {i : Int} : idxD (.scr l) (.int i) S = atI l i := rfl
theorem isi_tup {l : List D} : isiD (.tup l) .tuple = some true := rfl
theorem isi_str {s : Str} : isiD (.str s) .str = some true := rfl
theorem isi_int {i : Int} : isiD (.int i) .int = some true := rfl
theorem isi_intb {i : Int} : isiD (.int i) .bool = some false := rfl
theorem look_nil {i : Nat} : look [] i S = .bad := rfl
theorem look_0 {d : D} {σ : Env} : look (some d :: σ) 0 S = .ok d S := rfl
theorem look_s {o : Option D} {σ : Env} {i : Nat} : look (o :: σ) (i + 1) S = look σ i S := by
  unfold look
  rw [List.getElem?_cons_succ]
theorem set_0 {o : Option D} {σ : Env} {x : Option D} : List.set (o :: σ) 0 x = x :: σ := rfl
theorem set_s {o : Option D} {σ : Env} {i : Nat} {x : Option D} : List.set (o :: σ) (i + 1) x = o :: List.set σ i x := rfl
theorem len_nilD : ([] : List D).length = 0 := rfl
theorem len_consD {d : D} {l : List D} : (d :: l).length = l.length + 1 := rfl
theorem if_t {α : Type} {x y : α} : (if true = true then x else y) = x := rfl
theorem if_f {α : Type} {x y : α} : (if false = true then x else y) = y := rfl
theorem if_T {α : Type} {i : Decidable True} {x y : α} : @ite α True i x y = x := if_pos trivial
theorem if_F {α : Type} {i : Decidable False} {x y : α} : @ite α False i x y = y := if_neg (fun h => h)
theorem if_dT {α : Type} {p : Prop} [Decidable p] {x y : α} : (if decide p = true then x else y) = if p then x else y := by
  by_cases h : p <;> simp [h]
theorem is_lst {l : List D} : itemsD S (.lst l) = some l := rfl
theorem isD_non : isD .non .non = some true := rfl
theorem map_args_nil : List.map some ([] : List D) = [] := rfl
theorem map_args_cons {d : D} {l : List D} : List.map some (d :: l) = some d :: List.map some l := rfl
theorem app_nil {σ : Env} : ([] : Env) ++ σ = σ := rfl
theorem app_cons {o : Option D} {σ τ : Env} : (o :: σ) ++ τ = o :: (σ ++ τ) := rfl
theorem rep_0 : List.replicate 0 (none : Option D) = [] := rfl
theorem rep_s {n : Nat} : List.replicate (n + 1) (none : Option D) = none :: List.replicate n none := rfl
end
section
variable {i k : Nat} {d : D} {a b c : QE} {o : Op2} {o' p : Cm} {es : QEs} {bb : Bi} {m : Mt} {o2 : QE} {t : Ty} {tt : QT} {it : QI} {t2 : Bool}
theorem no_var : (QE.var i).isNo = false := rfl
theorem no_con : (QE.con d).isNo = false := rfl
theorem no_neg : (QE.neg a).isNo = false := rfl
theorem no_not : (QE.not a).isNo = false := rfl
theorem no_bin : (QE.bin o a b).isNo = false := rfl
theorem no_cmp : (QE.cmp p a b).isNo = false := rfl
theorem no_chn : (QE.chn o' p a b c).isNo = false := rfl
theorem no_and : (QE.and a b).isNo = false := rfl
theorem no_or : (QE.or a b).isNo = false := rfl
theorem no_ife : (QE.ife c a b).isNo = false := rfl
theorem no_idx : (QE.idx a b).isNo = false := rfl
theorem no_slc : (QE.slc a b c).isNo = false := rfl
theorem no_rev : (QE.rev a).isNo = false := rfl
theorem no_tup : (QE.tup es).isNo = false := rfl
theorem no_lst : (QE.lst es).isNo = false := rfl
theorem no_call : (QE.call k es).isNo = false := rfl
theorem no_bi : (QE.bi bb es).isNo = false := rfl
theorem no_mth : (QE.mth m o2 es).isNo = false := rfl
theorem no_isi : (QE.isi a t).isNo = false := rfl
theorem no_comp : (QE.comp tt it a b).isNo = false := rfl
theorem no_srt : (QE.srt a).isNo = false := rfl
theorem no_compO : (QE.compO tt a b c).isNo = false := rfl
theorem no_lrg : (QE.lrg t2 it).isNo = false := rfl
theorem no_no : QE.no.isNo = true := rfl
theorem evC_def {C : CallT} {σ : Env} {S : Store} {q : QE} : evC C q σ S = if q.isNo = true then .ok true S else okB (ev C q σ S) := rfl
theorem evO_def {C : CallT} {σ : Env} {S : Store} {q : QE} : evO C q σ S = if q.isNo = true then .ok none S else okI (ev C q σ S) := rfl
end
theorem len_nilT {α : Type} : ([] : List α).length = 0 := rfl
theorem len_consT {α : Type} {d : α} {l : List α} : (d :: l).length = l.length + 1 := rfl
theorem fin0_bl {keep : Bool} {b : Bool} {S : Store} : fin keep S.length (.bl b) S = .ok (.bl b) S := fin_bl (Nat.le_refl _)
theorem fin0_int {keep : Bool} {i : Int} {S : Store} : fin keep S.length (.int i) S = .ok (.int i) S := fin_int (Nat.le_refl _)
theorem fin0_non {keep : Bool} {S : Store} : fin keep S.length .non S = .ok .non S := fin_val rfl (Nat.le_refl _) fun i h => by cases h
theorem fin0_tup {keep : Bool} {l : List D} {S : Store} (h : loL 0 l = true) : fin keep S.length (.tup l) S = .ok (.tup l) S := fin_tup h (Nat.le_refl _)
theorem fin0_lst {keep : Bool} {l : List D} {S : Store} (h : loL 0 l = true) : fin keep S.length (.lst l) S = .ok (.lst l) S := fin_lst h (Nat.le_refl _)
theorem loL_nil : loL 0 [] = true := rfl
theorem loL_cons {d : D} {l : List D} : loL 0 (d :: l) = (d.lo 0 && loL 0 l) := rfl
theorem lo_int {i : Int} : (D.int i).lo 0 = true := rfl
theorem lo_str {s : Str} : (D.str s).lo 0 = true := rfl
theorem lo_bl {b : Bool} : (D.bl b).lo 0 = true := rfl
theorem lo_tup {l : List D} : (D.tup l).lo 0 = loL 0 l := rfl
theorem lo_lst {l : List D} : (D.lst l).lo 0 = loL 0 l := rfl
theorem endF_nx {keep : Bool} {σ : Env} {S : Store} : endFlow keep S.length (.nx σ S) = .ok .non S := by
  rw [end_nx, List.take_length]
section
variable {keep : Bool} {P : MO} {R : Store}
theorem fin1_lo {d : D} (h : d.lo 0 = true) : fin keep (R.length + 1) d (P :: R) = .ok d (P :: R) := fin_lo h (by simp)
theorem fin1_bl {b : Bool} : fin keep (R.length + 1) (.bl b) (P :: R) = .ok (.bl b) (P :: R) := fin1_lo rfl
theorem fin1_int {i : Int} : fin keep (R.length + 1) (.int i) (P :: R) = .ok (.int i) (P :: R) := fin1_lo rfl
theorem fin1_non : fin keep (R.length + 1) .non (P :: R) = .ok .non (P :: R) := fin1_lo rfl
theorem fin1_tup {l : List D} (h : loL 0 l = true) : fin keep (R.length + 1) (.tup l) (P :: R) = .ok (.tup l) (P :: R) := fin1_lo (by rw [D.lo]; exact h)
theorem fin1_lst {l : List D} (h : loL 0 l = true) : fin keep (R.length + 1) (.lst l) (P :: R) = .ok (.lst l) (P :: R) := fin1_lo (by rw [D.lo]; exact h)
theorem end1_nx {σ : Env} : endFlow keep (R.length + 1) (.nx σ (P :: R)) = .ok .non (P :: R) := by
  rw [end_nx, List.take_of_length_le (by simp)]
end
theorem ev_srt {C : CallT} {σ : Env} {S : Store} {a : QE} : ev C (.srt a) σ S = (ev C a σ S).bind srtQ := by
  rw [ev]
theorem ev_negc {C : CallT} {σ : Env} {S : Store} {i : Int} : ev C (.neg (.con (.int i))) σ S = .ok (.int (-i)) S := by
  rw [ev, ev]
  rfl
theorem ev_rev {C : CallT} {σ : Env} {S : Store} {a : QE} : ev C (.rev a) σ S = (ev C a σ S).bind fun x S => ofO (revD x) S := by
  rw [ev]
theorem ev_odd {C : CallT} {σ : Env} {S : Store} {a : QE} : ev C (.odd a) σ S = (ev C a σ S).bind fun x S => ofO (oddD x) S := by
  rw [ev]
theorem no_odd {a : QE} : (QE.odd a).isNo = false := rfl
theorem biD_sorted {l : List D} {S : Store} (h : sortOk l = true) : biD .sorted [.lst l] S = some (.lst (sortD l)) := by
  show (if sortOk l = true then _ else _) = _
  rw [if_pos h]
theorem revD_lst {l : List D} : revD (.lst l) = some (.lst l.reverse) := rfl
theorem revD_tup {l : List D} : revD (.tup l) = some (.tup l.reverse) := rfl
theorem biD_list {d : D} {S : Store} : biD .list [d] S = (itemsD S d).map .lst := rfl
theorem biD_intB {b : Bool} {S : Store} : biD .int [.bl b] S = some (.int (if b then 1 else 0)) := rfl
theorem rs : type_of% (And.intro @seq_nx <| And.intro @seq_rt <| And.intro @seq_bk <| And.intro @seq_ct <| And.intro @bind_ok <| And.intro @go_ok <| And.intro @ofO_some <| And.intro @okB_ok <| And.intro @okI_ok <| And.intro @map_bl <|
  And.intro @end_rt <| And.intro @endF_nx <| And.intro @ev_var <| And.intro @ev_con <| And.intro @ev_not <| And.intro @ev_bin <| And.intro @ev_cmp <| And.intro @ev_chn <| And.intro @ev_and <| And.intro @ev_or <| And.intro @ev_ife <|
  And.intro @ev_idx <| And.intro @ev_slc <| And.intro @ev_tup <| And.intro @ev_lst <| And.intro @ev_call <| And.intro @ev_bi <| And.intro @ev_mth <| And.intro @ev_isi <| And.intro @ev_comp <| And.intro @ev_compO <| And.intro @ev_lrg <|
  And.intro @ex_set <| And.intro @ex_setM' <| And.intro @ex_par <| And.intro @ex_sub' <| And.intro @ex_expr <| And.intro @ex_ret <| And.intro @ex_retM' <| And.intro @ex_ife <| And.intro @ex_for <| And.intro @ex_mtch <| And.intro @ex_pass <| And.intro @ex_brk <| And.intro @ex_cnt <|
  And.intro @bind_someE <| And.intro @setQ_nm <| And.intro @setQ_tp2 <| And.intro @setQ_tp3 <| And.intro @wipe_nil <| And.intro @wipe_cons <| And.intro @evs_nil <| And.intro @evs_cons <| And.intro @evs_star <| And.intro @star_tup <| And.intro @star_lst <|
  And.intro @evI_val <| And.intro @itmQ_tup <| And.intro @itmQ_lst <| And.intro @evI_rng1 <| And.intro @evI_rng2 <| And.intro @evI_enm <| And.intro @enmQ_lst <| And.intro @enmQ_tup <| And.intro @evI_zip <| And.intro @zipQ_tup <| And.intro @setMQ_lst <| And.intro @retMQ_lst <| And.intro @mp_str <|
  And.intro @turnQ_nm <| And.intro @turnQ_tp2 <| And.intro @turnF_nm <| And.intro @turnF_tp2 <| And.intro @turnF_tp3 <| And.intro @idx_tup <| And.intro @idx_lst <| And.intro @idx_scr <| And.intro @isi_tup <| And.intro @isi_str <| And.intro @isi_int <| And.intro @isi_intb <|
  And.intro @look_0 <| And.intro @look_s <| And.intro @set_0 <| And.intro @set_s <| And.intro @len_nilT <| And.intro @len_consT <| And.intro @if_t <| And.intro @if_f <| And.intro @if_T <| And.intro @if_F <| And.intro @if_dT <|
  And.intro @atI0 <| And.intro @atI1 <| And.intro @atI2 <| And.intro @binD_add <| And.intro @binD_sub <| And.intro @cmpD_gt <| And.intro @cmpD_lt <| And.intro @cmpD_le <| And.intro @cmpD_ge <| And.intro @cmpD_eqI <| And.intro @cmpD_neI <| And.intro @cmpD_eqS <| And.intro @cmpD_neS <|
  And.intro @biD_len <| And.intro @biD_tuple <| And.intro @ev_srt <| And.intro @ev_negc <| And.intro @ev_rev <| And.intro @revD_lst <| And.intro @revD_tup <| And.intro @biD_list <| And.intro @biD_intB <| And.intro @biD_repr <| And.intro @biD_max2 <| And.intro @biD_min2 <| And.intro @biD_all <| And.intro @items_tup <| And.intro @items_lst <| And.intro @items_scr <| And.intro @map_someE <| And.intro @slcD_tup <| And.intro @slcD_lst <|
  And.intro @augQ_add <| And.intro @exs_nil <| And.intro @map_args_nil <| And.intro @map_args_cons <| And.intro @app_nil <| And.intro @app_cons <| And.intro @fin0_bl <| And.intro @fin0_int <| And.intro @fin0_non <| And.intro @fin0_tup <| And.intro @fin0_lst <| And.intro @loL_nil <| And.intro @loL_cons <| And.intro @lo_int <| And.intro @lo_str <| And.intro @lo_bl <| And.intro @lo_tup <| And.intro @lo_lst <| And.intro @Bool.and_true <| And.intro @fin1_bl <| And.intro @fin1_int <| And.intro @fin1_non <| And.intro @fin1_tup <| And.intro @fin1_lst <| And.intro @end1_nx <| And.intro @NX_nx <| And.intro @true_and <| And.intro @and_true <| And.intro @rep_0 <| And.intro @rep_s <| And.intro @no_var <| And.intro @no_con <| And.intro @no_neg <| And.intro @no_not <| And.intro @no_bin <| And.intro @no_cmp <| And.intro @no_chn <| And.intro @no_and <| And.intro @no_or <| And.intro @no_ife <| And.intro @no_idx <| And.intro @no_slc <| And.intro @no_rev <| And.intro @no_tup <| And.intro @no_lst <| And.intro @no_call <| And.intro @no_bi <| And.intro @no_mth <| And.intro @no_isi <| And.intro @no_comp <| And.intro @no_compO <| And.intro @no_srt <| And.intro @no_lrg <| And.intro @no_no <| And.intro @evC_def <| And.intro @evO_def <| And.intro @decide_true <| And.intro @decide_false <| And.intro Bool.not_true <| And.intro Bool.not_false Bool.false_eq_true) := And.intro @seq_nx <| And.intro @seq_rt <| And.intro @seq_bk <| And.intro @seq_ct <| And.intro @bind_ok <| And.intro @go_ok <| And.intro @ofO_some <| And.intro @okB_ok <| And.intro @okI_ok <| And.intro @map_bl <|
  And.intro @end_rt <| And.intro @endF_nx <| And.intro @ev_var <| And.intro @ev_con <| And.intro @ev_not <| And.intro @ev_bin <| And.intro @ev_cmp <| And.intro @ev_chn <| And.intro @ev_and <| And.intro @ev_or <| And.intro @ev_ife <|
  And.intro @ev_idx <| And.intro @ev_slc <| And.intro @ev_tup <| And.intro @ev_lst <| And.intro @ev_call <| And.intro @ev_bi <| And.intro @ev_mth <| And.intro @ev_isi <| And.intro @ev_comp <| And.intro @ev_compO <| And.intro @ev_lrg <|
  And.intro @ex_set <| And.intro @ex_setM' <| And.intro @ex_par <| And.intro @ex_sub' <| And.intro @ex_expr <| And.intro @ex_ret <| And.intro @ex_retM' <| And.intro @ex_ife <| And.intro @ex_for <| And.intro @ex_mtch <| And.intro @ex_pass <| And.intro @ex_brk <| And.intro @ex_cnt <|
  And.intro @bind_someE <| And.intro @setQ_nm <| And.intro @setQ_tp2 <| And.intro @setQ_tp3 <| And.intro @wipe_nil <| And.intro @wipe_cons <| And.intro @evs_nil <| And.intro @evs_cons <| And.intro @evs_star <| And.intro @star_tup <| And.intro @star_lst <|
  And.intro @evI_val <| And.intro @itmQ_tup <| And.intro @itmQ_lst <| And.intro @evI_rng1 <| And.intro @evI_rng2 <| And.intro @evI_enm <| And.intro @enmQ_lst <| And.intro @enmQ_tup <| And.intro @evI_zip <| And.intro @zipQ_tup <| And.intro @setMQ_lst <| And.intro @retMQ_lst <| And.intro @mp_str <|
  And.intro @turnQ_nm <| And.intro @turnQ_tp2 <| And.intro @turnF_nm <| And.intro @turnF_tp2 <| And.intro @turnF_tp3 <| And.intro @idx_tup <| And.intro @idx_lst <| And.intro @idx_scr <| And.intro @isi_tup <| And.intro @isi_str <| And.intro @isi_int <| And.intro @isi_intb <|
  And.intro @look_0 <| And.intro @look_s <| And.intro @set_0 <| And.intro @set_s <| And.intro @len_nilT <| And.intro @len_consT <| And.intro @if_t <| And.intro @if_f <| And.intro @if_T <| And.intro @if_F <| And.intro @if_dT <|
  And.intro @atI0 <| And.intro @atI1 <| And.intro @atI2 <| And.intro @binD_add <| And.intro @binD_sub <| And.intro @cmpD_gt <| And.intro @cmpD_lt <| And.intro @cmpD_le <| And.intro @cmpD_ge <| And.intro @cmpD_eqI <| And.intro @cmpD_neI <| And.intro @cmpD_eqS <| And.intro @cmpD_neS <|
  And.intro @biD_len <| And.intro @biD_tuple <| And.intro @ev_srt <| And.intro @ev_negc <| And.intro @ev_rev <| And.intro @revD_lst <| And.intro @revD_tup <| And.intro @biD_list <| And.intro @biD_intB <| And.intro @biD_repr <| And.intro @biD_max2 <| And.intro @biD_min2 <| And.intro @biD_all <| And.intro @items_tup <| And.intro @items_lst <| And.intro @items_scr <| And.intro @map_someE <| And.intro @slcD_tup <| And.intro @slcD_lst <|
  And.intro @augQ_add <| And.intro @exs_nil <| And.intro @map_args_nil <| And.intro @map_args_cons <| And.intro @app_nil <| And.intro @app_cons <| And.intro @fin0_bl <| And.intro @fin0_int <| And.intro @fin0_non <| And.intro @fin0_tup <| And.intro @fin0_lst <| And.intro @loL_nil <| And.intro @loL_cons <| And.intro @lo_int <| And.intro @lo_str <| And.intro @lo_bl <| And.intro @lo_tup <| And.intro @lo_lst <| And.intro @Bool.and_true <| And.intro @fin1_bl <| And.intro @fin1_int <| And.intro @fin1_non <| And.intro @fin1_tup <| And.intro @fin1_lst <| And.intro @end1_nx <| And.intro @NX_nx <| And.intro @true_and <| And.intro @and_true <| And.intro @rep_0 <| And.intro @rep_s <| And.intro @no_var <| And.intro @no_con <| And.intro @no_neg <| And.intro @no_not <| And.intro @no_bin <| And.intro @no_cmp <| And.intro @no_chn <| And.intro @no_and <| And.intro @no_or <| And.intro @no_ife <| And.intro @no_idx <| And.intro @no_slc <| And.intro @no_rev <| And.intro @no_tup <| And.intro @no_lst <| And.intro @no_call <| And.intro @no_bi <| And.intro @no_mth <| And.intro @no_isi <| And.intro @no_comp <| And.intro @no_compO <| And.intro @no_srt <| And.intro @no_lrg <| And.intro @no_no <| And.intro @evC_def <| And.intro @evO_def <| And.intro @decide_true <| And.intro @decide_false <| And.intro Bool.not_true <| And.intro Bool.not_false Bool.false_eq_true
/-! ### sorted(set(..)), repetition, numbering -/
theorem intsD_map {α : Type} {f : α → Int} : ∀ l : List α, intsD (l.map fun x => .int (f x)) = some (l.map f)
  | [] => rfl
  | x :: l => by
    rw [List.map_cons, intsD, intsD_map l]
    rfl
theorem srtQ_nats {S : Store} {l m : List Nat} (few : l.length < 64) (rise : m.Pairwise (· < ·)) (mem : ∀ k, k ∈ m ↔ k ∈ l) : srtQ (.lst (l.map fun v : Nat => .int v)) S = .ok (.lst (m.map fun v : Nat => .int v)) S := by
  unfold srtQ
  dsimp only
  rw [intsD_map (f := fun v : Nat => (v : Int))]
  dsimp only
  rw [if_pos (by rwa [List.length_map])]
  have e : sortU (l.map fun v : Nat => (v : Int)) = m.map fun v : Nat => (v : Int) := by
    refine rise_one rise_sortU ?_ fun k => ?_
    · rw [List.pairwise_map]
      exact rise.imp fun h => by omega
    · rw [mem_sortU, List.mem_map, List.mem_map]
      constructor
      · rintro ⟨v, hv, rfl⟩
        exact ⟨v, (mem v).mpr hv, rfl⟩
      · rintro ⟨v, hv, rfl⟩
        exact ⟨v, (mem v).mp hv, rfl⟩
  rw [e, List.map_map]
  rfl
theorem flat_rep {α : Type} {x : α} : ∀ n : Nat, (List.replicate n [x]).flatten = List.replicate n x
  | 0 => rfl
  | n + 1 => by
    rw [List.replicate_succ, List.flatten_cons, flat_rep n]
    rfl
theorem mul_tup1 {d : D} {k : Nat} (h : k ≤ 1000) : binD .mul (.tup [d]) (.int (k : Int)) = some (.tup (List.replicate k d)) := by
  unfold binD
  dsimp only
  rw [if_pos (by simp only [List.length_cons, List.length_nil]; omega), i_toNat, flat_rep]
theorem mul_tup1' {d : D} {i : Int} {k : Nat} (e : i = k) (h : k ≤ 1000) : binD .mul (.tup [d]) (.int i) = some (.tup (List.replicate k d)) := by
  rw [e, mul_tup1 h]
theorem enm_range {g : Nat → D} : ∀ {n lo : Nat}, enmL (lo : Int) ((List.range' lo n).map g) = (List.range' lo n).map fun i : Nat => D.tup [.int i, g i]
  | 0, lo => rfl
  | n + 1, lo => by
    rw [List.range'_succ, List.map_cons, List.map_cons, enmL]
    exact congrArg _ (enm_range (n := n) (lo := lo + 1))
theorem enm0 {g : Nat → D} {n : Nat} : enmL 0 ((List.range n).map g) = (List.range n).map fun i : Nat => D.tup [.int i, g i] := by
  rw [List.range_eq_range']
  exact enm_range (lo := 0)
end Rs

namespace Rs
open PySem PySem.Spec PyProof.Rows L2
def q_is_between (ν : Nat → Nat) : QFn := ⟨"is_between", ["thing", "low", "high"], 3, false, [.ret (.and (.isi (.var 0) .int) (.and (.not (.isi (.var 0) .bool)) (.chn .le .le (.var 1) (.var 0) (.var 2))))], 0, none⟩
def q_matters_in (ν : Nat → Nat) : QFn := ⟨"matters_in", ["parts", "word", "number"], 1, false, [.ret (.bi .tuple (.cons (.srt (.comp (.tp [(.nm 1), (.nm 2)]) (.val (.var 0)) (.cmp .eq (.var 1) (.con (.str "field"))) (.var 2))) .nil))], 0, none⟩
def q_is_part (ν : Nat → Nat) : QFn := ⟨"is_part", ["fields", "thing"], 2, false, [.ife (.or (.not (.isi (.var 1) .tuple)) (.or (.cmp .ne (.bi .len (.cons (.var 1) .nil)) (.con (.int 2))) (.not (.isi (.idx (.var 1) (.con (.int 0))) .str)))) [.ret (.con (.bl false))] [], .mtch (.idx (.var 1) (.con (.int 0))) (.cons (.val (.str "field")) [.ret (.call (ν 0) (.cons (.idx (.var 1) (.con (.int 1))) (.cons (.con (.int 0)) (.cons (.bin .sub (.var 0) (.con (.int 1))) .nil))))] (.cons (.val (.str "value")) [.ret (.call (ν 0) (.cons (.idx (.var 1) (.con (.int 1))) (.cons (.con (.int 0)) (.cons (.con (.int 9)) .nil))))] .nil)), .ret (.con (.bl false))], 0, none⟩
def q_is_effect (ν : Nat → Nat) : QFn := ⟨"is_effect", ["thing", "part"], 1, false, [.ife (.or (.not (.isi (.var 0) .tuple)) (.not (.chn .le .le (.con (.int 1)) (.bi .len (.cons (.var 0) .nil)) (.con (.int 5))))) [.ret (.con (.bl false))] [], .ret (.bi .all (.cons (.comp (.nm 1) (.val (.var 0)) .no (.call (ν 40) (.cons (.bi .len (.cons (.var 0) .nil)) (.cons (.var 1) .nil)))) .nil))], 0, none⟩
def q_need_effect (ν : Nat → Nat) : QFn := ⟨"need_effect", ["thing"], 1, false, [.ife (.not (.call (ν 41) (.cons (.var 0) .nil))) [.raise 7 .nil] []], 0, none⟩
def q_is_unchanged (ν : Nat → Nat) : QFn := ⟨"is_unchanged", ["parts", "field"], 2, false, [.ret (.cmp .eq (.idx (.var 0) (.var 1)) (.tup (.cons (.con (.str "field")) (.cons (.var 1) .nil))))], 0, none⟩
def q_clash_of (ν : Nat → Nat) : QFn := ⟨"clash_of", ["parts", "field"], 1, false, [.for_ (.nm 1) (.val (.call (ν 33) (.cons (.var 0) .nil))) [1] [.ife (.not (.call (ν 55) (.cons (.var 0) (.cons (.var 1) .nil)))) [.ret (.var 1)] []], .ret (.con .non)], 0, none⟩
def q_law_cell (ν : Nat → Nat) : QFn := ⟨"_law_cell", ["_law_script", "_law_index"], 2, false, [.ife (.cmp .lt (.var 1) (.bi .len (.cons (.var 0) .nil))) [.ret (.idx (.var 0) (.var 1))] [], .ret (.con (.int 0))], 0, none⟩
def q_law_source (ν : Nat → Nat) : QFn := ⟨"_law_source", ["_law_cell_here"], 1, true, [.retM (.lst (.cons (.bi .max2 (.cons (.con (.int 0)) (.cons (.bin .sub (.var 0) (.bin .pow (.con (.int 10)) (.con (.int 18)))) .nil))) (.cons (.bin .add (.bin .mod (.var 0) (.con (.int 2147483629))) (.con (.int 1))) (.cons (.con (.int 0)) .nil))))], 0, none⟩
def q_law_draw_2 (ν : Nat → Nat) : QFn := ⟨"_law_draw", ["_law_supply", "_law_many", "_law_mixed", "_law_found"], 2, false, [.ife (.cmp .gt (.idx (.var 0) (.con (.int 0))) (.con (.int 0))) [.set (.nm 3) (.bin .mod (.idx (.var 0) (.con (.int 0))) (.var 1)), .sub (.var 0) (.con (.int 0)) (.bin .fdiv (.idx (.var 0) (.con (.int 0))) (.var 1)), .ret (.var 3)] [], .sub (.var 0) (.con (.int 2)) (.bin .add (.idx (.var 0) (.con (.int 2))) (.con (.int 1))), .sub (.var 0) (.con (.int 1)) (.bin .mod (.bin .add (.bin .add (.bin .mul (.idx (.var 0) (.con (.int 1))) (.con (.int 48271))) (.bin .mul (.con (.int 1009)) (.idx (.var 0) (.con (.int 2))))) (.con (.int 7))) (.con (.int 2147483647))), .set (.nm 2) (.bin .mod (.bin .add (.bin .add (.bin .mul (.idx (.var 0) (.con (.int 1))) (.idx (.var 0) (.con (.int 1)))) (.bin .mul (.con (.int 69621)) (.idx (.var 0) (.con (.int 1))))) (.con (.int 11))) (.con (.int 2147483629))), .set (.nm 2) (.bin .mod (.bin .add (.bin .mul (.var 2) (.var 2)) (.bin .mul (.con (.int 40014)) (.var 2))) (.con (.int 2147483587))), .ret (.bin .mod (.bin .fdiv (.var 2) (.con (.int 16))) (.var 1))], 0, none⟩
def q_law_choose (ν : Nat → Nat) : QFn := ⟨"_law_choose", ["_law_supply", "_law_values"], 2, false, [.ret (.idx (.var 1) (.call (ν 99) (.cons (.var 0) (.cons (.bi .len (.cons (.var 1) .nil)) .nil))))], 0, none⟩
def q_law_effect_2 (ν : Nat → Nat) : QFn := ⟨"_law_effect", ["_law_supply", "_law_kept", "_law_found", "_law_field", "_law_fields", "_law_way", "_law_part"], 1, false, [.par [4, 5] (.cons (.bin .add (.con (.int 1)) (.call (ν 99) (.cons (.var 0) (.cons (.con (.int 5)) .nil)))) (.cons (.call (ν 99) (.cons (.var 0) (.cons (.con (.int 3)) .nil))) .nil)), .set (.nm 1) (.comp (.nm 3) (.rng1 (.var 4)) (.cmp .eq (.call (ν 99) (.cons (.var 0) (.cons (.con (.int 2)) .nil))) (.con (.int 0))) (.var 3)), .setM 2 (.lst .nil), .for_ (.nm 3) (.rng1 (.var 4)) [6] [.set (.nm 6) (.tup (.cons (.con (.str "value")) (.cons (.call (ν 99) (.cons (.var 0) (.cons (.con (.int 10)) .nil))) .nil))), .ife (.and (.cmp .gt (.var 5) (.con (.int 0))) (.cmp .mem (.var 3) (.var 1))) [.set (.nm 6) (.tup (.cons (.con (.str "field")) (.cons (.var 3) .nil)))] [.ife (.and (.cmp .eq (.var 5) (.con (.int 0))) (.cmp .eq (.call (ν 99) (.cons (.var 0) (.cons (.con (.int 2)) .nil))) (.con (.int 0)))) [.set (.nm 6) (.tup (.cons (.con (.str "field")) (.cons (.call (ν 99) (.cons (.var 0) (.cons (.var 4) .nil))) .nil)))] [.ife (.and (.cmp .ne (.var 1) (.lst .nil)) (.cmp .eq (.call (ν 99) (.cons (.var 0) (.cons (.con (.int 2)) .nil))) (.con (.int 0)))) [.set (.nm 6) (.tup (.cons (.con (.str "field")) (.cons (.call (ν 100) (.cons (.var 0) (.cons (.var 1) .nil))) .nil)))] []]], .expr (.mth .append (.var 2) (.cons (.var 6) .nil))], .ret (.bi .tuple (.cons (.var 2) .nil))], 0, none⟩
def q_law_clash (ν : Nat → Nat) : QFn := ⟨"_law_clash", ["_law_parts", "_law_field", "_law_part"], 1, false, [.for_ (.tp [(.nm 1), (.nm 2)]) (.enm (.var 0)) [1, 2] [.ife (.and (.cmp .ne (.var 2) (.tup (.cons (.con (.str "field")) (.cons (.var 1) .nil)))) (.cmp .mem (.tup (.cons (.con (.str "field")) (.cons (.var 1) .nil))) (.var 0))) [.ret (.var 1)] []], .ret (.con .non)], 0, none⟩
def q_shortest_of (ν : Nat → Nat) : QFn := ⟨"shortest_of", ["parts", "steps", "field", "word", "number"], 1, false, [.setM 1 (.lst .nil), .for_ (.tp [(.nm 2), (.tp [(.nm 3), (.nm 4)])]) (.enm (.var 0)) [2, 3, 4] [.ife (.not (.call (ν 55) (.cons (.var 0) (.cons (.var 2) .nil)))) [.expr (.mth .append (.var 1) (.cons (.tup (.cons (.ife (.cmp .eq (.var 3) (.con (.str "field"))) (.con (.str "copy")) (.con (.str "write"))) (.cons (.var 4) (.cons (.var 2) .nil)))) .nil))] []], .ret (.tup (.cons (.bi .len (.cons (.var 0) .nil)) (.cons (.bi .tuple (.cons (.var 1) .nil)) .nil)))], 0, none⟩
def q_need_safe_2 (ν : Nat → Nat) : QFn := ⟨"need_safe", ["parts", "field"], 1, false, [.expr (.call (ν 44) (.cons (.var 0) .nil)), .set (.nm 1) (.call (ν 95) (.cons (.var 0) .nil)), .ife (.cmp .isn (.var 1) (.con .non)) [.raise 14 (.cons (.var 1) .nil)] []], 0, none⟩
def q_shortest_2 (ν : Nat → Nat) : QFn := ⟨"shortest", ["parts"], 1, false, [.expr (.call (ν 171) (.cons (.var 0) .nil)), .ret (.call (ν 105) (.cons (.var 0) .nil))], 0, none⟩
def q_law_kind (ν : Nat → Nat) : QFn := ⟨"_law_kind", ["_law_e", "_law_marks", "_law_words"], 1, false, [.set (.nm 1) (.lst (.cons (.isx (.var 0) 1) (.cons (.isx (.var 0) 2) (.cons (.isx (.var 0) 3) .nil)))), .set (.nm 1) (.bin .add (.var 1) (.lst (.cons (.isx (.var 0) 4) (.cons (.isx (.var 0) 5) (.cons (.isx (.var 0) 6) .nil))))), .set (.nm 1) (.bin .add (.var 1) (.lst (.cons (.isx (.var 0) 7) (.cons (.isx (.var 0) 8) (.cons (.isx (.var 0) 9) .nil))))), .set (.nm 1) (.bin .add (.var 1) (.lst (.cons (.isx (.var 0) 10) (.cons (.isx (.var 0) 11) (.cons (.isx (.var 0) 12) .nil))))), .set (.nm 1) (.bin .add (.var 1) (.lst (.cons (.isx (.var 0) 13) (.cons (.isx (.var 0) 14) (.cons (.isx (.var 0) 15) .nil))))), .set (.nm 2) (.lst (.cons (.con (.str "script")) (.cons (.con (.str "fields")) (.cons (.con (.str "step")) (.cons (.con (.str "record")) (.cons (.con (.str "number")) (.cons (.con (.str "stops")) (.cons (.con (.str "effect")) (.cons (.con (.str "marks")) (.cons (.con (.str "match")) (.cons (.con (.str "place")) (.cons (.con (.str "text")) .nil)))))))))))), .set (.nm 2) (.bin .add (.var 2) (.lst (.cons (.con (.str "ended")) (.cons (.con (.str "done")) (.cons (.con (.str "safe")) (.cons (.con (.str "limit")) .nil)))))), .ife (.or (.cmp .ne (.tru false (.var 1)) (.con (.int 1))) (.not (.isx (.var 0) 16))) [.ret (.con (.str "other"))] [], .ret (.idx (.var 2) (.tru true (.var 1)))], 2, none⟩
def q_law_said (ν : Nat → Nat) : QFn := ⟨"_law_said", ["_law_call", "_law_e"], 1, false, [.try_ [.ret (.bi .repr (.cons .thk .nil))] (.cons 14 1 [.ret (.bin .add (.bin .add (.bin .add (.con (.str "! ")) (.hc (ν 173) (.cons (.var 1) .nil))) (.con (.str " "))) (.bi .repr (.cons (.fld (.var 1) "field") .nil)))] (.cons 15 1 [.ret (.bin .add (.bin .add (.bin .add (.con (.str "! ")) (.hc (ν 173) (.cons (.var 1) .nil))) (.con (.str " "))) (.bi .repr (.cons (.tup (.cons (.fld (.var 1) "amount") (.cons (.fld (.var 1) "limit") .nil))) .nil)))] (.cons 0 1 [.ret (.bin .add (.con (.str "! ")) (.hc (ν 173) (.cons (.var 1) .nil)))] .nil)))], 1, none⟩
def q_law_due_2 (ν : Nat → Nat) : QFn := ⟨"_law_due", ["_law_parts", "_law_steps", "_law_field", "_law_part"], 1, false, [.ife (.cmp .isn (.call (ν 103) (.cons (.var 0) .nil)) (.con .non)) [.ret (.bin .add (.con (.str "! safe ")) (.bi .repr (.cons (.call (ν 103) (.cons (.var 0) .nil)) .nil)))] [], .setM 1 (.lst .nil), .for_ (.tp [(.nm 2), (.nm 3)]) (.enm (.var 0)) [2, 3] [.ife (.cmp .eq (.idx (.var 3) (.con (.int 0))) (.con (.str "value"))) [.expr (.mth .append (.var 1) (.cons (.tup (.cons (.con (.str "write")) (.cons (.idx (.var 3) (.con (.int 1))) (.cons (.var 2) .nil)))) .nil))] [.ife (.cmp .ne (.idx (.var 3) (.con (.int 1))) (.var 2)) [.expr (.mth .append (.var 1) (.cons (.tup (.cons (.con (.str "copy")) (.cons (.idx (.var 3) (.con (.int 1))) (.cons (.var 2) .nil)))) .nil))] []]], .ret (.bi .repr (.cons (.tup (.cons (.bi .len (.cons (.var 0) .nil)) (.cons (.bi .tuple (.cons (.var 1) .nil)) .nil))) .nil))], 0, none⟩
def q_law_k26 (ν : Nat → Nat) : QFn := ⟨"law", ["_law_script", "_law_k", "_law_supply", "_law_lap", "_law_parts", "_law_kept", "_law_due_here", "_law_turn"], 1, false, [.for_ (.nm 1) (.rng1 (.bi .max2 (.cons (.con (.int 1)) (.cons (.bi .min2 (.cons (.bi .len (.cons (.var 0) .nil)) (.cons (.con (.int 3)) .nil))) .nil)))) [1, 2, 3] [.set (.nm 2) (.call (ν 98) (.cons (.call (ν 97) (.cons (.var 0) (.cons (.var 1) .nil))) .nil)), .for_ (.nm 3) (.rng1 (.con (.int 15))) [3, 4, 5, 6] [.set (.nm 4) (.call (ν 102) (.cons (.var 2) .nil)), .par [5, 6] (.cons (.bi .repr (.cons (.var 4) .nil)) (.cons (.call (ν 175) (.cons (.var 4) .nil)) .nil)), .ife (.or (.cmp .ne (.comp (.nm 7) (.rng1 (.con (.int 2))) .no (.said 0 (ν 174) (.call (ν 172) (.cons (.var 4) .nil)))) (.lst (.cons (.var 6) (.cons (.var 6) .nil)))) (.cmp .ne (.bi .repr (.cons (.var 4) .nil)) (.var 5))) [.ret (.con (.bl false))] []]], .ret (.con (.bl true))], 0, none⟩
end Rs

namespace Rs
open PySem PySem.Spec PyProof.Rows L2
theorem beq_int {a b : Int} (h : a ≠ b) : (a == b) = false := beq_eq_false_iff_ne.mpr h
theorem between_spec {tab : List QFn} {ν : Nat → Nat} [Hx tab ν 0 (q_is_between ν)] {n : Nat} {S : Store} {x lo hi : Int} (h1 : lo ≤ x) (h2 : x ≤ hi) (hn : 1 ≤ n := by omega) : callF tab n (ν 0) [.int x, .int lo, .int hi] S = .ok (.bl true) S := by
  obtain ⟨n, rfl⟩ := up1 hn
  rw [callF_h (q := q_is_between ν) rfl rfl]
  simp only [q_is_between]
  ((rw [exs_cons]; simp only [rs, Nat.reduceAdd, Nat.reduceSub, Int.cast_ofNat_Int, Int.reduceBEq, Int.reduceLT, Int.reduceLE, Int.reduceAdd, Int.reduceSub, h1, h2]); repeat (rw [exs_cons]; simp only [rs, Nat.reduceAdd, Nat.reduceSub, Int.cast_ofNat_Int, Int.reduceBEq, Int.reduceLT, Int.reduceLE, Int.reduceAdd, Int.reduceSub, h1, h2]))
inductive Stp where
  | cp (a b : Nat) | wr (v b : Nat) | xc (a b : Nat)
  deriving DecidableEq, Inhabited
def Stp.d : Stp → D
  | .cp a b => .tup [.str "copy", .int a, .int b]
  | .wr v b => .tup [.str "write", .int v, .int b]
  | .xc a b => .tup [.str "exchange", .int a, .int b]
def OkS (f : Nat) : Stp → Prop
  | .cp a b => a < f ∧ b < f ∧ a ≠ b
  | .wr v b => v ≤ 9 ∧ b < f
  | .xc a b => a < f ∧ b < f ∧ a ≠ b
theorem lo_stp {s : Stp} : s.d.lo 0 = true := by cases s <;> rfl
structure OkP (f m : Nat) (ss : List Stp) : Prop where
  f1 : 1 ≤ f
  f5 : f ≤ 5
  len : ss.length ≤ m
  ok : ∀ s ∈ ss, OkS f s
theorem OkP.mono {f m m' : Nat} {ss : List Stp} (h : OkP f m ss) (hm : m ≤ m') : OkP f m' ss := ⟨h.f1, h.f5, by have := h.len; omega, h.ok⟩
theorem OkP.take {f m : Nat} {ss : List Stp} (h : OkP f m ss) (k : Nat) : OkP f m (ss.take k) := ⟨h.f1, h.f5, by have := h.len; rw [List.length_take]; omega, fun s hs => h.ok s (List.mem_of_mem_take hs)⟩
def stpsD (ss : List Stp) : D := .tup (ss.map Stp.d)
def scrD (f : Nat) (ss : List Stp) : D := .tup [.int f, stpsD ss]
theorem lo_stps {ss : List Stp} : (stpsD ss).lo 0 = true := lo_map fun x _ => lo_stp
theorem lo_scr {f : Nat} {ss : List Stp} : (scrD f ss).lo 0 = true := by
  rw [scrD, D.lo, loL, loL, lo_stps]
  rfl
def recD (r : List Nat) : D := .tup (r.map fun v : Nat => .int v)
structure OkR (f : Nat) (r : List Nat) : Prop where
  len : r.length = f
  ok : ∀ v ∈ r, v ≤ 9
theorem lo_nats {r : List Nat} : loL 0 (r.map fun v : Nat => .int v) = true := lo_map fun _ _ => rfl
def wstep {α : Type} (w : Nat → α) (l : List α) : Stp → List α
  | .cp a b => match l[a]? with
    | some x => l.set b x
    | none => l
  | .wr v b => l.set b (w v)
  | .xc a b => match l[a]?, l[b]? with
    | some x, some y => (l.set a y).set b x
    | _, _ => l
theorem wstep_len {α : Type} {w : Nat → α} {l : List α} {s : Stp} : (wstep w l s).length = l.length := by
  cases s with
  | cp a b => cases q : l[a]? <;> simp [wstep, q]
  | wr v b => simp [wstep]
  | xc a b => cases q : l[a]? <;> cases q' : l[b]? <;> simp [wstep, q, q']
theorem wstep_all {α : Type} {w : Nat → α} {l : List α} {s : Stp} {p : α → Prop} (h : ∀ x ∈ l, p x) (hw : ∀ v b, s = .wr v b → p (w v)) : ∀ x ∈ wstep w l s, p x := by
  intro x hx
  cases s with
  | cp a b =>
    unfold wstep at hx
    cases q : l[a]? with
    | none => simp only [q] at hx; exact h x hx
    | some y =>
      simp only [q] at hx
      rcases List.mem_or_eq_of_mem_set hx with hx | rfl
      · exact h x hx
      · exact h x (List.mem_of_getElem? q)
  | wr v b =>
    unfold wstep at hx
    rcases List.mem_or_eq_of_mem_set hx with hx | rfl
    · exact h x hx
    · exact hw v b rfl
  | xc a b =>
    unfold wstep at hx
    cases q : l[a]? with
    | none => simp only [q] at hx; exact h x hx
    | some y =>
      cases q' : l[b]? with
      | none => simp only [q, q'] at hx; exact h x hx
      | some z =>
        simp only [q, q'] at hx
        rcases List.mem_or_eq_of_mem_set hx with hx | rfl
        · rcases List.mem_or_eq_of_mem_set hx with hx | rfl
          · exact h x hx
          · exact h x (List.mem_of_getElem? q')
        · exact h x (List.mem_of_getElem? q)
def wdone {α : Type} (w : Nat → α) (l : List α) (ss : List Stp) : List α := ss.foldl (wstep w) l
def rdone (r : List Nat) (ss : List Stp) : List Nat := wdone id r ss
theorem OkR.step {f : Nat} {r : List Nat} {s : Stp} (h : OkR f r) (hs : OkS f s) : OkR f (wstep id r s) := ⟨by rw [wstep_len, h.len], wstep_all h.ok fun v b e => by
  subst e
  exact hs.1⟩
theorem OkR.done {f : Nat} : ∀ {ss : List Stp} {r : List Nat}, OkR f r → (∀ s ∈ ss, OkS f s) → OkR f (rdone r ss)
  | [], r, h, _ => h
  | s :: ss, r, h, hs => OkR.done (ss := ss) (h.step (hs s List.mem_cons_self)) fun t ht => hs t (List.mem_cons_of_mem _ ht)
def Stp.w : Stp → Nat
  | .cp a _ => a
  | .wr v _ => v
  | .xc a _ => a
def rstops (ss : List Stp) (r : List Nat) (ks : List Nat) : List Nat := ks.foldl (fun r k => rdone r (ss.take k)) r
theorem OkR.stops {f : Nat} {ss : List Stp} (hs : ∀ s ∈ ss, OkS f s) : ∀ {ks r : List Nat}, OkR f r → OkR f (rstops ss r ks)
  | [], r, h => h
  | k :: ks, r, h => OkR.stops (ks := ks) hs (h.done fun s m => hs s (List.mem_of_mem_take m))
inductive Part where
  | fld (j : Nat) | val (v : Nat)
  deriving DecidableEq, Inhabited
def Part.d : Part → D
  | .fld j => .tup [.str "field", .int j]
  | .val v => .tup [.str "value", .int v]
def OkQ (f : Nat) : Part → Prop
  | .fld j => j < f
  | .val v => v ≤ 9
theorem lo_part {p : Part} : p.d.lo 0 = true := by cases p <;> rfl
theorem s_vf : (("value" : Str) = ("field" : Str)) = False := eq_false (by decide +kernel)
def effD (e : List Part) : D := .tup (e.map Part.d)
theorem lo_effL {e : List Part} : loL 0 (e.map Part.d) = true := lo_map fun _ _ => lo_part
structure OkE (f : Nat) (e : List Part) : Prop where
  len : e.length = f
  ok : ∀ p ∈ e, OkQ f p
def noCh (f : Nat) : List Part := (List.range f).map Part.fld
theorem OkE.no {f : Nat} : OkE f (noCh f) := ⟨by simp [noCh], fun p hp => by
  obtain ⟨j, hj, rfl⟩ := List.mem_map.mp hp
  exact List.mem_range.mp hj⟩
def edone (e : List Part) (ss : List Stp) : List Part := wdone Part.val e ss
theorem OkE.step {f : Nat} {e : List Part} {s : Stp} (h : OkE f e) (hs : OkS f s) : OkE f (wstep Part.val e s) := ⟨by rw [wstep_len, h.len], wstep_all h.ok fun v b q => by
  subst q
  exact hs.1⟩
theorem OkE.done {f : Nat} : ∀ {ss : List Stp} {e : List Part}, OkE f e → (∀ s ∈ ss, OkS f s) → OkE f (edone e ss)
  | [], _, h, _ => h
  | s :: ss, _, h, hs => OkE.done (ss := ss) (h.step (hs s List.mem_cons_self)) fun t ht => hs t (List.mem_cons_of_mem _ ht)
def psub (e : List Part) : Part → Part
  | .fld j => (e[j]?).getD (.val 0)
  | .val v => .val v
def joinE (one other : List Part) : List Part := other.map (psub one)
theorem psub_fld {e : List Part} {j : Nat} {p : Part} (h : e[j]? = some p) : psub e (.fld j) = p := by simp [psub, h]
theorem OkE.psub {f : Nat} {e : List Part} {p : Part} (h : OkE f e) (hp : OkQ f p) : OkQ f (psub e p) := by
  cases p with
  | fld j =>
    have hj : j < e.length := by rw [h.len]; exact hp
    obtain ⟨x, hx, mx⟩ := get_lt hj
    rw [psub_fld hx]
    exact h.ok x mx
  | val v => exact hp
theorem OkE.join {f : Nat} {one other : List Part} (h1 : OkE f one) (h2 : OkE f other) : OkE f (joinE one other) := ⟨by rw [joinE, List.length_map, h2.len], fun p hp => by
  obtain ⟨q, hq, rfl⟩ := List.mem_map.mp hp
  exact h1.psub (h2.ok q hq)⟩
theorem is_part_spec {tab : List QFn} {ν : Nat → Nat} [Hx tab ν 0 (q_is_between ν)] [Hx tab ν 40 (q_is_part ν)] {n f : Nat} {S : Store} {p : Part} (h : OkQ f p) (hn : 2 ≤ n := by omega) : callF tab n (ν 40) [.int f, p.d] S = .ok (.bl true) S := by
  obtain ⟨n, rfl⟩ := up1 hn
  rw [callF_h (q := q_is_part ν) rfl rfl]
  simp only [q_is_part]
  cases p with
  | fld j =>
    have : j < f := h
    ((rw [exs_cons]; simp only [rs, Nat.reduceAdd, Nat.reduceSub, Int.cast_ofNat_Int, Int.reduceBEq, Int.reduceLT, Int.reduceLE, Int.reduceAdd, Int.reduceSub, Part.d, exc, matchP, eqD, between_spec (n := n) (S := S) (x := (j : Int)) (lo := 0) (hi := (f : Int) - 1) (by omega) (by omega)]); repeat (rw [exs_cons]; simp only [rs, Nat.reduceAdd, Nat.reduceSub, Int.cast_ofNat_Int, Int.reduceBEq, Int.reduceLT, Int.reduceLE, Int.reduceAdd, Int.reduceSub, Part.d, exc, matchP, eqD, between_spec (n := n) (S := S) (x := (j : Int)) (lo := 0) (hi := (f : Int) - 1) (by omega) (by omega)]))
  | val v =>
    have : v ≤ 9 := h
    ((rw [exs_cons]; simp only [rs, Nat.reduceAdd, Nat.reduceSub, Int.cast_ofNat_Int, Int.reduceBEq, Int.reduceLT, Int.reduceLE, Int.reduceAdd, Int.reduceSub, Part.d, exc, matchP, eqD, s_vf, between_spec (n := n) (S := S) (x := (v : Int)) (lo := 0) (hi := 9) (by omega) (by omega)]); repeat (rw [exs_cons]; simp only [rs, Nat.reduceAdd, Nat.reduceSub, Int.cast_ofNat_Int, Int.reduceBEq, Int.reduceLT, Int.reduceLE, Int.reduceAdd, Int.reduceSub, Part.d, exc, matchP, eqD, s_vf, between_spec (n := n) (S := S) (x := (v : Int)) (lo := 0) (hi := 9) (by omega) (by omega)]))
theorem need_effect_spec {tab : List QFn} {ν : Nat → Nat} [Hx tab ν 0 (q_is_between ν)] [Hx tab ν 40 (q_is_part ν)] [Hx tab ν 41 (q_is_effect ν)] [Hx tab ν 44 (q_need_effect ν)] {n f : Nat} {S : Store} {e : List Part} (h : OkE f e) (h1 : 1 ≤ f) (h5 : f ≤ 5) (hn : 4 ≤ n := by omega) : callF tab n (ν 44) [effD e] S = .ok .non S := by
  have e1 : ∀ m, 3 ≤ m → callF tab m (ν 41) [effD e] S = .ok (.bl true) S := fun n hn => by
    obtain ⟨n, rfl⟩ := up1 hn
    rw [callF_h (q := q_is_effect ν) rfl rfl]
    simp only [q_is_effect]
    (rw [exs_cons]; simp only [rs, Nat.reduceAdd, Nat.reduceSub, Int.cast_ofNat_Int, Int.reduceBEq, Int.reduceLT, Int.reduceLE, Int.reduceAdd, Int.reduceSub, effD, List.length_map, h.len, show (1 : Int) ≤ (f : Int) by omega, show (f : Int) ≤ 5 by omega])
    (rw [exs_cons]; simp only [rs, Nat.reduceAdd, Nat.reduceSub, Int.cast_ofNat_Int, Int.reduceBEq, Int.reduceLT, Int.reduceLE, Int.reduceAdd, Int.reduceSub, List.length_map, h.len])
    generalize hc : compL _ _ _ = o
    have q := comp_T hc (fun _ => .bl true) fun p hp => by
      simp only [rs, Nat.reduceAdd, Nat.reduceSub, Int.cast_ofNat_Int, Int.reduceBEq, Int.reduceLT, Int.reduceLE, Int.reduceAdd, Int.reduceSub, List.length_map, h.len, is_part_spec (tab := tab) (ν := ν) (n := n) (S := S) (h.ok p hp)]
    subst q
    simp only [rs, Nat.reduceAdd, Nat.reduceSub, Int.cast_ofNat_Int, Int.reduceBEq, Int.reduceLT, Int.reduceLE, Int.reduceAdd, Int.reduceSub, List.length_map, h.len, if_pos (len_lt h5 (by decide)), all_true (l := e.map fun _ => D.bl true) (fun d hd => by obtain ⟨_, _, rfl⟩ := List.mem_map.mp hd; rfl)]
  obtain ⟨n, rfl⟩ := up1 hn
  rw [callF_h (q := q_need_effect ν) rfl rfl]
  simp only [q_need_effect]
  ((rw [exs_cons]; simp only [rs, Nat.reduceAdd, Nat.reduceSub, Int.cast_ofNat_Int, Int.reduceBEq, Int.reduceLT, Int.reduceLE, Int.reduceAdd, Int.reduceSub, e1 n (by omega)]); repeat (rw [exs_cons]; simp only [rs, Nat.reduceAdd, Nat.reduceSub, Int.cast_ofNat_Int, Int.reduceBEq, Int.reduceLT, Int.reduceLE, Int.reduceAdd, Int.reduceSub, e1 n (by omega)]))
theorem idx_obj0 {S : Store} {l : List D} {i : Int} : idxD (.obj 0) (.int i) (.lst l :: S) = atI l i := rfl
theorem subQ_0 {σ : Env} {x y z : D} {v : Int} {R : Store} : subQ σ (.obj 0) (.int 0) (.int v) (.lst [x, y, z] :: R) = .nx σ (.lst [.int v, y, z] :: R) := rfl
theorem subQ_1 {σ : Env} {x y z : D} {v : Int} {R : Store} : subQ σ (.obj 0) (.int 1) (.int v) (.lst [x, y, z] :: R) = .nx σ (.lst [x, .int v, z] :: R) := rfl
theorem subQ_2 {σ : Env} {x y z : D} {v : Int} {R : Store} : subQ σ (.obj 0) (.int 2) (.int v) (.lst [x, y, z] :: R) = .nx σ (.lst [x, y, .int v] :: R) := rfl
theorem comp_PF {Φ : Prop} {α : Type} {enc out : α → D} {f : D → Store → Out (Option D)} {R : Store} {l : List α} {t : Nat} {P : MO} {o : Out (List D)} (hc : compL f (l.map enc) (P :: R) = o) (K : Nat) (hp : Pen t P)
    (h : ∀ x ∈ l, ∀ t' P, Pen t' P → t' ≤ t + l.length * K → ∃ (b : Bool) (P' : MO), f (enc x) (P :: R) = .ok (if b = true then some (out x) else none) (P' :: R) ∧ Pen (t' + K) P')
    (k : ∀ (ys : List α) (P' : MO), o = .ok (ys.map out) (P' :: R) → Pen (t + l.length * K) P' → (∀ y ∈ ys, y ∈ l) → ys.length ≤ l.length → Φ) : Φ := by
  have main : ∀ (l : List α) (t : Nat) (P : MO), Pen t P → (∀ x ∈ l, ∀ t' P, Pen t' P → t' ≤ t + l.length * K → ∃ (b : Bool) (P' : MO), f (enc x) (P :: R) = .ok (if b = true then some (out x) else none) (P' :: R) ∧ Pen (t' + K) P') →
      ∃ (ys : List α) (P' : MO), compL f (l.map enc) (P :: R) = .ok (ys.map out) (P' :: R) ∧ Pen (t + l.length * K) P' ∧ (∀ y ∈ ys, y ∈ l) ∧ ys.length ≤ l.length := by
    intro l
    induction l with
    | nil => exact fun t P p _ => ⟨[], P, rfl, by simpa using p, fun y h => (by cases h), Nat.le_refl _⟩
    | cons x l ih =>
      intro t P p h
      have e : (x :: l).length * K = l.length * K + K := by rw [List.length_cons, Nat.add_mul, Nat.one_mul]
      obtain ⟨b, P1, e1, p1⟩ := h x List.mem_cons_self t P p (by omega)
      obtain ⟨ys, P2, e2, p2, q2, l2⟩ := ih (t + K) P1 p1 fun z hz t' P' hp ht => h z (List.mem_cons_of_mem _ hz) t' P' hp (by omega)
      cases b with
      | false =>
        refine ⟨ys, P2, ?_, p2.mono (by omega), fun z hz => List.mem_cons_of_mem _ (q2 z hz), Nat.le_succ_of_le l2⟩
        rw [List.map_cons, compL, e1]
        dsimp only
        rw [e2]
        rfl
      | true =>
        refine ⟨x :: ys, P2, ?_, p2.mono (by omega), fun z hz => ?_, Nat.succ_le_succ l2⟩
        · rw [List.map_cons, compL, e1]
          dsimp only
          rw [e2]
          rfl
        · rcases List.mem_cons.mp hz with rfl | hz
          · exact List.mem_cons_self
          · exact List.mem_cons_of_mem _ (q2 z hz)
  obtain ⟨ys, P', e, a, b, c⟩ := main l t P hp h
  exact k ys P' (hc.symm.trans e) a b c
def natsD (l : List Nat) : D := .lst (l.map fun v : Nat => .int v)
theorem memD_nats {S : Store} {x : Nat} {l : List Nat} : memD S (.int x) (.lst (l.map fun v : Nat => .int v)) = some (decide (x ∈ l)) := by
  have h1 : (l.map fun v : Nat => D.int v).all flatD = true := List.all_eq_true.mpr fun d hd => by
    obtain ⟨_, _, rfl⟩ := List.mem_map.mp hd
    rfl
  show (if flatD (.int x) = true ∧ (l.map fun v : Nat => D.int v).all flatD = true then _ else _) = _
  rw [if_pos ⟨rfl, h1⟩]
  congr 1
  rw [Bool.eq_iff_iff, List.any_eq_true, decide_eq_true_eq]
  constructor
  · rintro ⟨d, hd, he⟩
    obtain ⟨v, hv, rfl⟩ := List.mem_map.mp hd
    have : (v : Int) = x := by simpa [eqF] using he
    rwa [← show v = x by omega]
  · intro h
    exact ⟨.int x, List.mem_map.mpr ⟨x, h, rfl⟩, by simp [eqF]⟩
theorem cmp_mem {S : Store} {a : D} {l : List D} : cmpD .mem a (.lst l) S = memD S a (.lst l) := rfl
theorem fit_nats : ∀ {l : List Nat} {k : Nat}, fitL (l.map fun v : Nat => .int v) k = true
  | [], _ => rfl
  | v :: l, k => by
    rw [List.map_cons, fitL, fit_nats]
    rfl
theorem beq_t {a b : Int} (h : a = b) : (a == b) = true := beq_iff_eq.mpr h
section
variable {S : Store} {l : List D} {σ : Env}
theorem items_new : itemsD (S ++ [.lst l]) (.obj S.length) = some l := by
  unfold itemsD
  dsimp only
  rw [last_at']
theorem set_new {m : MO} : (S ++ [MO.lst l]).set S.length m = S ++ [m] := by
  rw [List.set_append_right _ _ (Nat.le_refl _), Nat.sub_self]
  rfl
theorem fin_new {keep : Bool} {d : D} (h : d.lo 0 = true) : fin keep S.length d (S ++ [.lst l]) = .ok d S := by
  rw [fin_cut h, List.take_left' rfl]
theorem mtOk_new {m : Mt} (h : m = .append ∨ m = .extend) : mtOk m (.obj S.length) (S ++ [.lst l]) = true := by
  rcases h with rfl | rfl <;> unfold mtOk <;> dsimp only <;> rw [last_at']
theorem mthQ_app {x : D} (h : x.lo 0 = true) (hl : l.length < 100000) : mthQ .append (.obj S.length) (.ok [x] (S ++ [.lst l])) = .ok .non (S ++ [.lst (l ++ [x])]) := by
  refine mthQ_ok ?_
  unfold mtD
  dsimp only
  rw [last_at']
  dsimp only
  rw [if_pos ⟨lo_le (Nat.zero_le _) x h, len_lt (Nat.le_of_lt hl) (by decide)⟩, set_new]
end
theorem tm_nat {n : Nat} (h : n < 1000000000) : Tm 0 41 (.int n) := Tm.int (by omega)
theorem tm_stp {f : Nat} {s : Stp} (h : OkS f s) (hf : f ≤ 5) : Tm 1 126 s.d := by
  have nat : ∀ v : Nat, v ≤ 9 → Tm 0 41 (.int v) := fun v hv => tm_nat (by omega)
  cases s with
  | cp a b => exact Tm.tup (n := 3) (mem_cons_of (Tm.str (by decide +kernel) (by decide +kernel)) (mem_cons_of (nat a (by have := h.1; omega)) (mem_cons_of (nat b (by have := h.2.1; omega)) mem_nil_of))) (Nat.le_refl 3)
  | wr v b => exact Tm.tup (n := 3) (mem_cons_of (Tm.str (by decide +kernel) (by decide +kernel)) (mem_cons_of (nat v h.1) (mem_cons_of (nat b (by have := h.2; omega)) mem_nil_of))) (Nat.le_refl 3)
  | xc a b => exact Tm.tup (n := 3) (mem_cons_of (Tm.str (by decide +kernel) (by decide +kernel)) (mem_cons_of (nat a (by have := h.1; omega)) (mem_cons_of (nat b (by have := h.2.1; omega)) mem_nil_of))) (Nat.le_refl 3)
theorem tm_stps {f m : Nat} {ss : List Stp} (h : ∀ s ∈ ss, OkS f s) (hf : f ≤ 5) (hm : ss.length ≤ m) : Tm 2 (m * 127) (stpsD ss) := Tm.tup (tm_map fun s hs => tm_stp (h s hs) hf) (by rw [List.length_map]; exact hm)
theorem tm_scr {f m : Nat} {ss : List Stp} (h : OkP f m ss) : Tm 3 (2 * (m * 127 + 42)) (scrD f ss) := Tm.tup (n := 2) (mem_cons_of ((tm_nat (by have := h.f5; omega)).mono (by omega) (Nat.zero_le _)) (mem_cons_of ((tm_stps h.ok h.f5 h.len).mono (by omega) (Nat.le_refl _)) mem_nil_of)) (Nat.le_refl 2)
theorem tm_part {f : Nat} {p : Part} (h : OkQ f p) (hf : f ≤ 5) : Tm 1 84 p.d := by
  cases p with
  | fld j => exact Tm.tup (n := 2) (mem_cons_of (Tm.str (by decide +kernel) (by decide +kernel)) (mem_cons_of (tm_nat (by have : j < f := h; omega)) mem_nil_of)) (Nat.le_refl 2)
  | val v => exact Tm.tup (n := 2) (mem_cons_of (Tm.str (by decide +kernel) (by decide +kernel)) (mem_cons_of (tm_nat (by have : v ≤ 9 := h; omega)) mem_nil_of)) (Nat.le_refl 2)
theorem tm_eff {f : Nat} {e : List Part} (h : OkE f e) (hf : f ≤ 5) : Tm 2 425 (effD e) := Tm.tup (n := 5) (tm_map fun p hp => tm_part (h.ok p hp) hf) (by rw [List.length_map, h.len]; exact hf)
theorem Tm.rp' {k w : Nat} {d : D} (h : Tm k w d) (hk : k ≤ 60 := by omega) (hw : w ≤ 1048576 := by omega) : reprOk d = true := (h.mono (Nat.le_refl _) hk).rp hw

theorem max_min3 (L : Nat) : ∃ M : Nat, M ≤ 3 ∧ (if (if (3 : Int) < (L : Int) then (3 : Int) else (L : Int)) > 1 then (if (3 : Int) < (L : Int) then (3 : Int) else (L : Int)) else 1) = (M : Int) := by
  by_cases h : (3 : Int) < (L : Int)
  · exact ⟨3, Nat.le_refl _, by simp [h]⟩
  · by_cases h' : (L : Int) > 1
    · exact ⟨L, by omega, by simp [h, h']⟩
    · exact ⟨1, by omega, by simp [h, h']⟩
theorem lo_ints : ∀ ns : List Int, loL 0 (ns.map .int) = true
  | [] => rfl
  | n :: ns => by
    rw [List.map_cons, loL, lo_ints ns]
    rfl
theorem all_rep {f : Option D → Bool} (h : f none = true) : ∀ m : Nat, (List.replicate m (none : Option D)).all f = true
  | 0 => rfl
  | m + 1 => by
    rw [List.replicate_succ, List.all_cons, h, all_rep h m]
    rfl
theorem law_main {tab : List QFn} {ν : Nat → Nat} {n gc gp m N : Nat} {lap : List QS} {w1 w2 : List Nat} {ns : List Int} (Pn : Nat → MO → Prop) (hN : N ≤ 1000)
    (hcell : ∀ (S : Store) (k : Nat), ∃ v, callF tab n (ν gc) [.scr (ns.map .int), .int k] S = .ok (.int v) S)
    (hpen : ∀ v, ∃ P, callF tab n (ν gp) [.int v] [] = .ok (.obj 0) [P] ∧ Pn 0 P)
    (hlap : ∀ (k j : Nat) (P : MO), j < N → Pn j P → ∃ P', Pn (j + 1) P' ∧ NX (exs (callF tab n) lap (some (.scr (ns.map .int)) :: some (.int k) :: some (.obj 0) :: some (.int j) :: List.replicate m none) [P]) fun σ' S' => wipeD σ' w2 = (some (.scr (ns.map .int)) :: some (.int k) :: some (.obj 0) :: none :: List.replicate m none) ∧ S' = [P'])
    (hw : ∀ (a b c : Option D) (l : Env), wipeD (a :: b :: c :: none :: List.replicate m none) w1 = (a :: none :: none :: none :: List.replicate m none)) :
    exs (callF tab n) [.for_ (.nm 1) (.rng1 (.bi .max2 (.cons (.con (.int 1)) (.cons (.bi .min2 (.cons (.bi .len (.cons (.var 0) .nil)) (.cons (.con (.int 3)) .nil))) .nil)))) w1 [.set (.nm 2) (.call (ν gp) (.cons (.call (ν gc) (.cons (.var 0) (.cons (.var 1) .nil))) .nil)), .for_ (.nm 3) (.rng1 (.con (.int N))) w2 lap], .ret (.con (.bl true))]
      (some (.scr (ns.map .int)) :: none :: none :: none :: List.replicate m none) [] = .rt (.bl true) [] := by
  obtain ⟨M, hM, eM⟩ := max_min3 (ns.map D.int).length
  (rw [exs_cons]; simp only [rs, Nat.reduceAdd, Nat.reduceSub, Int.cast_ofNat_Int, Int.reduceBEq, Int.reduceLT, Int.reduceLE, Int.reduceAdd, Int.reduceSub, eM, rng1_nat (show M ≤ 1000000000 by omega)])
  generalize hc : forL _ _ _ _ _ _ = o
  refine forT_G hc (fun _ σ S => σ = some (.scr (ns.map .int)) :: none :: none :: none :: List.replicate m none ∧ S = []) ⟨rfl, rfl⟩ (fun j x hj σ S hI => ?_) fun σ' S' e hI => ?_
  · obtain ⟨rfl, rfl⟩ := hI
    have hx := List.mem_of_getElem? hj
    obtain ⟨k, _, rfl⟩ := List.mem_map.mp hx
    obtain ⟨v, ev⟩ := hcell [] k
    obtain ⟨P, ep, p0⟩ := hpen v
    simp only [rs, Nat.reduceAdd, Nat.reduceSub, Int.cast_ofNat_Int, Int.reduceBEq, Int.reduceLT, Int.reduceLE, Int.reduceAdd, Int.reduceSub, ev, ep, rng1_nat (show N ≤ 1000000000 by omega)]
    ((rw [exs_cons]; simp only [rs, Nat.reduceAdd, Nat.reduceSub, Int.cast_ofNat_Int, Int.reduceBEq, Int.reduceLT, Int.reduceLE, Int.reduceAdd, Int.reduceSub, ev, ep, rng1_nat (show N ≤ 1000000000 by omega)]); repeat (rw [exs_cons]; simp only [rs, Nat.reduceAdd, Nat.reduceSub, Int.cast_ofNat_Int, Int.reduceBEq, Int.reduceLT, Int.reduceLE, Int.reduceAdd, Int.reduceSub, ev, ep, rng1_nat (show N ≤ 1000000000 by omega)]))
    generalize hc2 : forL _ _ _ _ _ _ = o2
    refine for_G hc2 (fun j σ S => σ = some (.scr (ns.map .int)) :: some (.int k) :: some (.obj 0) :: none :: List.replicate m none ∧ ∃ P, S = [P] ∧ Pn j P) ⟨rfl, P, rfl, p0⟩ (fun l y hl σ S hI => ?_) fun σ' S' e hI => ?_
    · obtain ⟨rfl, P, rfl, hp⟩ := hI
      have hlt := (List.getElem?_eq_some_iff.mp hl).1
      rw [List.length_map, List.length_range] at hlt
      have hy : y = .int l := by
        rw [List.getElem?_map, List.getElem?_range hlt] at hl
        cases hl
        rfl
      subst hy
      obtain ⟨P', hp', h⟩ := hlap k l P hlt hp
      obtain ⟨σ', S', e, hw2, rfl⟩ := NX_ex h
      refine ⟨σ', [P'], ?_, Nat.le_refl _, hw2, P', rfl, hp'⟩
      simp only [rs, Nat.reduceAdd, Nat.reduceSub, Int.cast_ofNat_Int, Int.reduceBEq, Int.reduceLT, Int.reduceLE, Int.reduceAdd, Int.reduceSub]
      exact e
    · obtain ⟨rfl, P, rfl, hp⟩ := hI
      subst e
      refine ⟨_, _, rfl, ?_⟩
      rw [turnEnd_lo (hw _ _ _ []) (by
        rw [List.all_cons, List.all_cons, List.all_cons, List.all_cons, all_rep rfl]
        refine Bool.and_eq_true_iff.mpr ⟨?_, rfl⟩
        show (D.scr (ns.map .int)).lo 0 = true
        rw [D.lo]
        exact lo_ints ns)]
      exact ⟨rfl, rfl⟩
  · obtain ⟨rfl, rfl⟩ := hI
    subst e
    simp only [rs, Nat.reduceAdd, Nat.reduceSub, Int.cast_ofNat_Int, Int.reduceBEq, Int.reduceLT, Int.reduceLE, Int.reduceAdd, Int.reduceSub]
    (rw [exs_cons]; simp only [rs, Nat.reduceAdd, Nat.reduceSub, Int.cast_ofNat_Int, Int.reduceBEq, Int.reduceLT, Int.reduceLE, Int.reduceAdd, Int.reduceSub])
theorem rpt2 {α : Type} {x : α} : (List.range 2).map (fun _ => x) = [x, x] := rfl
theorem fitL_map {α : Type} {enc : α → D} {k : Nat} (h : ∀ x, (enc x).fit k = true) : ∀ l : List α, fitL (l.map enc) k = true
  | [] => rfl
  | x :: l => by
    rw [List.map_cons, fitL, h, fitL_map h l]
    rfl
theorem eqLT_map {α : Type} [DecidableEq α] {enc : α → D} (h : ∀ x y, eqT (enc x) (enc y) = decide (x = y)) : ∀ a b : List α, eqLT (a.map enc) (b.map enc) = decide (a = b)
  | [], [] => rfl
  | [], y :: b => by simp [eqLT]
  | x :: a, [] => by simp [eqLT]
  | x :: a, y :: b => by
    rw [List.map_cons, List.map_cons, eqLT, h, eqLT_map h a b]
    by_cases e : x = y <;> by_cases e' : a = b <;> simp [e, e']
theorem eqT_part (p q : Part) : eqT p.d q.d = decide (p = q) := by
  cases p with
  | fld i =>
    cases q with
    | fld j =>
      simp only [Part.d, eqT, eqLT, i_beq, beq_self_eq_true, Bool.true_and, Bool.and_true]
      by_cases h : i = j <;> simp [h]
    | val v => simp only [Part.d, eqT, eqLT, show ((("field" : Str) == ("value" : Str)) = false) from by decide +kernel, Bool.false_and]; simp
  | val u =>
    cases q with
    | fld j => simp only [Part.d, eqT, eqLT, show ((("value" : Str) == ("field" : Str)) = false) from by decide +kernel, Bool.false_and]; simp
    | val v =>
      simp only [Part.d, eqT, eqLT, i_beq, beq_self_eq_true, Bool.true_and, Bool.and_true]
      by_cases h : u = v <;> simp [h]
theorem ok_field : PyData.strOk ("field" : Str) = true := by decide +kernel
theorem ok_value : PyData.strOk ("value" : Str) = true := by decide +kernel
theorem fit_part {k : Nat} (p : Part) : p.d.fit (k + 1) = true := by
  cases p <;> simp only [Part.d, D.fit, fitL, ok_field, ok_value, Bool.and_self]
theorem eqD_T {a b : D} (ha : a.fit 60 = true) (hb : b.fit 60 = true) (h : ∀ s, a ≠ .str s) : eqD a b = some (eqT a b) := by
  unfold eqD
  split
  · exact absurd rfl (h _)
  · rw [if_pos ⟨ha, hb⟩]
section
variable {S : Store}
theorem eqD_part {a b : Part} : eqD a.d b.d = some (decide (a = b)) := by
  rw [eqD_T (fit_part a) (fit_part b) (fun s h => by cases a <;> cases h), eqT_part]
theorem eq_part {a b : Part} : cmpD .eq a.d b.d S = some (decide (a = b)) := (eq_thaw (fit_part a) (fit_part b)).trans eqD_part
theorem ne_part {a b : Part} : cmpD .ne a.d b.d S = some (!decide (a = b)) := by
  rw [ne_thaw (fit_part a) (fit_part b), eqD_part]
  rfl
end
def isFld : Part → Bool
  | .fld _ => true
  | .val _ => false
def Part.n : Part → Nat
  | .fld j => j
  | .val v => v
def matOf (e : List Part) : List Nat := (List.range e.length).filter fun j => decide (Part.fld j ∈ e)
theorem mem_matOf {f : Nat} {e : List Part} (h : OkE f e) {j : Nat} : j ∈ matOf e ↔ Part.fld j ∈ e := by
  unfold matOf
  rw [List.mem_filter, decide_eq_true_eq, List.mem_range]
  refine ⟨fun h => h.2, fun m => ⟨?_, m⟩⟩
  rw [h.len]
  exact h.ok _ m
theorem matOf_lt {f : Nat} {e : List Part} (h : OkE f e) : ∀ j ∈ matOf e, j < f := fun j hj => h.ok _ ((mem_matOf h).mp hj)
theorem rise_range (n : Nat) : (List.range n).Pairwise (· < ·) := List.pairwise_lt_range
theorem matters_in_spec {tab : List QFn} {ν : Nat → Nat} [Hx tab ν 33 (q_matters_in ν)] {n f : Nat} {S : Store} {e : List Part} (h : OkE f e) (hf : f ≤ 5) (hn : 1 ≤ n := by omega) : callF tab n (ν 33) [effD e] S = .ok (recD (matOf e)) S := by
  obtain ⟨n, rfl⟩ := up1 hn
  rw [callF_h (q := q_matters_in ν) rfl rfl]
  simp only [q_matters_in]
  (rw [exs_cons]; simp only [rs, Nat.reduceAdd, Nat.reduceSub, Int.cast_ofNat_Int, Int.reduceBEq, Int.reduceLT, Int.reduceLE, Int.reduceAdd, Int.reduceSub, effD])
  generalize hc : compL _ _ _ = o
  have q := comp_F hc isFld (fun p => D.int p.n) fun p hp => by
    cases p with
    | fld j => simp only [rs, Nat.reduceAdd, Nat.reduceSub, Int.cast_ofNat_Int, Int.reduceBEq, Int.reduceLT, Int.reduceLE, Int.reduceAdd, Int.reduceSub, Part.d, Part.n, isFld]
    | val v => simp only [rs, Nat.reduceAdd, Nat.reduceSub, Int.cast_ofNat_Int, Int.reduceBEq, Int.reduceLT, Int.reduceLE, Int.reduceAdd, Int.reduceSub, Part.d, Part.n, isFld, s_vf]
  subst q
  have el : ((e.filter isFld).map fun p => D.int p.n) = ((e.filter isFld).map Part.n).map fun v : Nat => .int v := by
    rw [List.map_map]
    rfl
  have hl : (e.filter isFld).length ≤ 5 := by
    have := List.length_filter_le isFld e
    have := h.len
    omega
  have sq := srtQ_nats (S := S) (l := (e.filter isFld).map Part.n) (m := matOf e) (by rw [List.length_map]; omega) ((rise_range _).filter _) fun k => by
    rw [mem_matOf h, List.mem_map]
    constructor
    · intro m
      exact ⟨.fld k, List.mem_filter.mpr ⟨m, rfl⟩, rfl⟩
    · rintro ⟨p, hp, rfl⟩
      have ⟨h1, h2⟩ := List.mem_filter.mp hp
      cases p with
      | fld j => exact h1
      | val v => cases h2
  simp only [rs, Nat.reduceAdd, Nat.reduceSub, Int.cast_ofNat_Int, Int.reduceBEq, Int.reduceLT, Int.reduceLE, Int.reduceAdd, Int.reduceSub, List.length_map, if_pos (len_lt hl (by decide)), el, sq, lo_nats]
  rfl
theorem for_find2 {Φ : Prop} {β : Type} {w : List Nat} {n : Nat} {f : D → Env → Store → Flow} {enc : β → D} {l : List β} {σ : Env} {S : Store} {o : Flow} (hc : forL w n f (l.map enc) σ S = o)
    (hn : S.length ≤ n) (p : β → Bool) (r : β → D)
    (hs1 : ∀ b ∈ l, p b = true → f (enc b) σ S = .rt (r b) S) (hs2 : ∀ b ∈ l, p b = false → NX (f (enc b) σ S) fun σ' S' => wipeD σ' w = σ ∧ S' = S)
    (k1 : ∀ b ∈ l, l.find? p = some b → o = .rt (r b) S → Φ) (k2 : l.find? p = none → o = .nx σ S → Φ) : Φ := by
  refine for_find hc hn p r (fun b hb => ?_) fun e => ?_
  · cases q : p b with
    | true => rw [if_pos rfl]; exact hs1 b hb q
    | false => rw [if_neg (by simp)]; exact hs2 b hb q
  · cases q : l.find? p with
    | none => rw [q] at e; exact k2 q e
    | some b => rw [q] at e; exact k1 b (List.mem_of_find?_eq_some q) q e
def unch (e : List Part) (j : Nat) : Bool := decide (e[j]? = some (.fld j))
theorem is_unchanged_spec {tab : List QFn} {ν : Nat → Nat} [Hx tab ν 55 (q_is_unchanged ν)] {n f j : Nat} {S : Store} {e : List Part} (h : OkE f e) (hj : j < f) (hn : 1 ≤ n := by omega) : callF tab n (ν 55) [effD e, .int j] S = .ok (.bl (unch e j)) S := by
  obtain ⟨n, rfl⟩ := up1 hn
  rw [callF_h (q := q_is_unchanged ν) rfl rfl]
  simp only [q_is_unchanged]
  obtain ⟨p, hp, mp⟩ := get_lt (l := e) (a := j) (by rw [h.len]; exact hj)
  have e1 : cmpD .eq p.d (.tup [.str "field", .int j]) S = some (decide (p = .fld j)) := eq_part (b := .fld j)
  ((rw [exs_cons]; simp only [rs, Nat.reduceAdd, Nat.reduceSub, Int.cast_ofNat_Int, Int.reduceBEq, Int.reduceLT, Int.reduceLE, Int.reduceAdd, Int.reduceSub, effD, atI_map hp, show 2 ≤ sizeLine by decide, e1]); repeat (rw [exs_cons]; simp only [rs, Nat.reduceAdd, Nat.reduceSub, Int.cast_ofNat_Int, Int.reduceBEq, Int.reduceLT, Int.reduceLE, Int.reduceAdd, Int.reduceSub, effD, atI_map hp, show 2 ≤ sizeLine by decide, e1]))
  simp [unch, hp]
def keeps (m : List Nat) (e : List Part) : Bool := m.all (unch e)
theorem for_I {Φ : Prop} {α β : Type} {w : List Nat} {n : Nat} {f : D → Env → Store → Flow} {enc : β → D} {l : List β} {σ : Env} {S : Store} {o : Flow} (hc : forL w n f (l.map enc) σ S = o)
    (E : α → Env) (M : α → Store) (P : Nat → α → Prop) (step : α → β → α) (a0 : α) (hσ : σ = E a0) (hS : S = M a0) (p0 : P 0 a0)
    (hs : ∀ i a b, i < l.length → P i a → b ∈ l → P (i + 1) (step a b) ∧ (M (step a b)).length ≤ n ∧ NX (f (enc b) (E a) (M a)) fun σ' S' => wipeD σ' w = E (step a b) ∧ S' = M (step a b))
    (k : P l.length (l.foldl step a0) → o = .nx (E (l.foldl step a0)) (M (l.foldl step a0)) → Φ) : Φ := by
  subst hσ hS
  have main : ∀ (l' : List β) (i : Nat) (a : α), i + l'.length = l.length → (∀ b ∈ l', b ∈ l) → P i a → P l.length (l'.foldl step a) ∧ forL w n f (l'.map enc) (E a) (M a) = .nx (E (l'.foldl step a)) (M (l'.foldl step a)) := by
    intro l'
    induction l' with
    | nil =>
      intro i a e _ p
      rw [List.length_nil, Nat.add_zero] at e
      exact ⟨e ▸ p, rfl⟩
    | cons b l' ih =>
      intro i a e hm p
      rw [List.length_cons] at e
      obtain ⟨p', hl, h⟩ := hs i a b (by omega) p (hm b List.mem_cons_self)
      obtain ⟨σ', S', e', hw, rfl⟩ := NX_ex h
      obtain ⟨q1, q2⟩ := ih (i + 1) (step a b) (by omega) (fun x hx => hm x (List.mem_cons_of_mem _ hx)) p'
      refine ⟨q1, ?_⟩
      rw [List.map_cons, forL, e']
      dsimp only
      rw [turnEnd_le hl, hw]
      exact q2
  obtain ⟨q1, q2⟩ := main l 0 a0 (Nat.zero_add _) (fun _ h => h) p0
  exact k q1 (hc.symm.trans q2)
inductive Vd where
  | safe (m : List Nat) | stop (k : Nat) (r : List Nat)
def Vd.d : Vd → D
  | .safe m => .tup [.str "safe", recD m]
  | .stop k r => .tup [.str "stop", .int k, recD r]
theorem flatD_part (p : Part) : flatD p.d = false := by cases p <;> rfl
theorem any_parts {p : Part} : ∀ e : List Part, (e.map Part.d).any (fun y => eqT y p.d) = decide (p ∈ e)
  | [] => by simp
  | q :: e => by
    rw [List.map_cons, List.any_cons, any_parts e, eqT_part]
    by_cases h : q = p
    · simp [h]
    · have : ¬ p = q := fun z => h z.symm
      by_cases h' : p ∈ e <;> simp [h, h', this]
theorem mem_parts {S : Store} {p : Part} {e : List Part} : cmpD .mem p.d (.tup (e.map Part.d)) S = some (decide (p ∈ e)) := by
  show memD S p.d (.tup (e.map Part.d)) = _
  unfold memD
  rw [items_tup]
  dsimp only [Option.bind]
  rw [if_neg (by rw [flatD_part]; simp), if_pos ⟨fit_part p, fitL_map fit_part e⟩, any_parts]
theorem ne_nil_lst {S : Store} {l : List D} (h : fitL l 59 = true) : cmpD .ne (.lst l) (.lst []) S = some (!l.isEmpty) := by
  show (eqD (.lst l) (.lst [])).map _ = _
  rw [eqD_T (by rw [D.fit]; exact h) rfl (fun s e => by cases e)]
  cases l <;> rfl
def stopN (o : Option Nat) : D := match o with
  | some k => .int (k : Int)
  | none => .non
theorem Tm.fit {k w : Nat} {d : D} (h : Tm k w d) (hk : k ≤ 60 := by omega) : d.fit 60 = true := (tame_fit d 60 (tame_le d k 60 hk h.t)).1
theorem draw2_spec {tab : List QFn} {ν : Nat → Nat} [Hx tab ν 99 (q_law_draw_2 ν)] {n t m : Nat} {P : MO} {R : Store} (hp : Pen t P) (hm : 0 < m) (hm2 : m < 2 ^ 30) (ht : t < 1000000000000) (hn : 1 ≤ n := by omega) :
    ∃ (d : Nat) (P' : MO), callF tab n (ν 99) [.obj 0, .int m] (P :: R) = .ok (.int d) (P' :: R) ∧ d < m ∧ Pen (t + 1) P' := by
  obtain ⟨a, b, c, ha, hb, hb2, hc, hct⟩ := hp
  obtain ⟨n, rfl⟩ := up1 hn
  rw [callF_h (q := q_law_draw_2 ν) rfl rfl]
  simp only [q_law_draw_2]
  have hm0 : (m : Int) ≠ 0 := by omega
  have nat : ∀ i : Int, 0 ≤ i → i < m → ∃ d : Nat, i = d ∧ d < m := fun i h0 h1 => ⟨i.toNat, by omega, by omega⟩
  by_cases h : 0 < a
  · ((rw [exs_cons]; simp only [rs, Nat.reduceAdd, Nat.reduceSub, Int.cast_ofNat_Int, Int.reduceBEq, Int.reduceLT, Int.reduceLE, Int.reduceAdd, Int.reduceSub, idx_obj0, h, binD_mod hm0, binD_fdiv (show 0 < (m : Int) by omega) (show (m : Int) < 1073741824 by omega), subQ_0]); repeat (rw [exs_cons]; simp only [rs, Nat.reduceAdd, Nat.reduceSub, Int.cast_ofNat_Int, Int.reduceBEq, Int.reduceLT, Int.reduceLE, Int.reduceAdd, Int.reduceSub, idx_obj0, h, binD_mod hm0, binD_fdiv (show 0 < (m : Int) by omega) (show (m : Int) < 1073741824 by omega), subQ_0]))
    obtain ⟨d, e, hd⟩ := nat (a.fmod m) (modP (by omega)).1 (modP (by omega)).2
    simp only [rs, Nat.reduceAdd, Nat.reduceSub, Int.cast_ofNat_Int, Int.reduceBEq, Int.reduceLT, Int.reduceLE, Int.reduceAdd, Int.reduceSub, e]
    exact ⟨d, _, rfl, hd, .mk _ _ _ (fdiv_nn ha (by omega)) hb hb2 hc (by omega)⟩
  · (rw [exs_cons]; simp only [rs, Nat.reduceAdd, Nat.reduceSub, Int.cast_ofNat_Int, Int.reduceBEq, Int.reduceLT, Int.reduceLE, Int.reduceAdd, Int.reduceSub, idx_obj0, h])
    (rw [exs_cons]; simp only [rs, Nat.reduceAdd, Nat.reduceSub, Int.cast_ofNat_Int, Int.reduceBEq, Int.reduceLT, Int.reduceLE, Int.reduceAdd, Int.reduceSub, idx_obj0, subQ_2])
    have m1 := modP (i := b * 48271 + 1009 * (c + 1) + 7) (m := 2147483647) (by decide)
    (rw [exs_cons]; simp only [rs, Nat.reduceAdd, Nat.reduceSub, Int.cast_ofNat_Int, Int.reduceBEq, Int.reduceLT, Int.reduceLE, Int.reduceAdd, Int.reduceSub, idx_obj0, subQ_1, binD_mod (show (2147483647 : Int) ≠ 0 by decide), binD_mul (show -(2 ^ 64) < (1009 : Int) by decide) (by decide), binD_mul (i := b) (by omega) (by omega)])
    generalize (b * 48271 + 1009 * (c + 1) + 7).fmod 2147483647 = u at m1 ⊢
    (rw [exs_cons]; simp only [rs, Nat.reduceAdd, Nat.reduceSub, Int.cast_ofNat_Int, Int.reduceBEq, Int.reduceLT, Int.reduceLE, Int.reduceAdd, Int.reduceSub, idx_obj0, binD_mod (show (2147483629 : Int) ≠ 0 by decide), binD_mul (show -(2 ^ 64) < (69621 : Int) by decide) (by decide), binD_mul (i := u) (by omega) (by omega)])
    have m2 := modP (i := u * u + 69621 * u + 11) (m := 2147483629) (by decide)
    generalize (u * u + 69621 * u + 11).fmod 2147483629 = v at m2 ⊢
    (rw [exs_cons]; simp only [rs, Nat.reduceAdd, Nat.reduceSub, Int.cast_ofNat_Int, Int.reduceBEq, Int.reduceLT, Int.reduceLE, Int.reduceAdd, Int.reduceSub, binD_mod (show (2147483587 : Int) ≠ 0 by decide), binD_mul (show -(2 ^ 64) < (40014 : Int) by decide) (by decide), binD_mul (i := v) (by omega) (by omega)])
    (rw [exs_cons]; simp only [rs, Nat.reduceAdd, Nat.reduceSub, Int.cast_ofNat_Int, Int.reduceBEq, Int.reduceLT, Int.reduceLE, Int.reduceAdd, Int.reduceSub, binD_mod hm0, binD_fdiv (show (0 : Int) < 16 by decide) (by decide)])
    obtain ⟨d, e, hd⟩ := nat ((((v * v + 40014 * v).fmod 2147483587).fdiv 16).fmod m) (modP (by omega)).1 (modP (by omega)).2
    simp only [rs, Nat.reduceAdd, Nat.reduceSub, Int.cast_ofNat_Int, Int.reduceBEq, Int.reduceLT, Int.reduceLE, Int.reduceAdd, Int.reduceSub, e]
    exact ⟨d, _, rfl, hd, .mk _ _ _ ha (by omega) (by omega) (by omega) (by omega)⟩
theorem cell2_spec {tab : List QFn} {ν : Nat → Nat} [Hx tab ν 97 (q_law_cell ν)] {n : Nat} {S : Store} {ns : List Int} {k : Nat} (hn : 1 ≤ n := by omega) : ∃ v, callF tab n (ν 97) [.scr (ns.map .int), .int k] S = .ok (.int v) S := by
  obtain ⟨n, rfl⟩ := up1 hn
  rw [callF_h (q := q_law_cell ν) rfl rfl]
  simp only [q_law_cell]
  by_cases h : k < ns.length
  · ((rw [exs_cons]; simp only [rs, Nat.reduceAdd, Nat.reduceSub, Int.cast_ofNat_Int, Int.reduceBEq, Int.reduceLT, Int.reduceLE, Int.reduceAdd, Int.reduceSub, List.length_map, i_lt, h, atI_map (enc := D.int) (List.getElem?_eq_getElem h)]); repeat (rw [exs_cons]; simp only [rs, Nat.reduceAdd, Nat.reduceSub, Int.cast_ofNat_Int, Int.reduceBEq, Int.reduceLT, Int.reduceLE, Int.reduceAdd, Int.reduceSub, List.length_map, i_lt, h, atI_map (enc := D.int) (List.getElem?_eq_getElem h)]))
    exact ⟨_, rfl⟩
  · ((rw [exs_cons]; simp only [rs, Nat.reduceAdd, Nat.reduceSub, Int.cast_ofNat_Int, Int.reduceBEq, Int.reduceLT, Int.reduceLE, Int.reduceAdd, Int.reduceSub, List.length_map, i_lt, h]); repeat (rw [exs_cons]; simp only [rs, Nat.reduceAdd, Nat.reduceSub, Int.cast_ofNat_Int, Int.reduceBEq, Int.reduceLT, Int.reduceLE, Int.reduceAdd, Int.reduceSub, List.length_map, i_lt, h]))
    exact ⟨_, rfl⟩
theorem source_spec {tab : List QFn} {ν : Nat → Nat} [Hx tab ν 98 (q_law_source ν)] {n : Nat} {v : Int} (hn : 1 ≤ n := by omega) : ∃ P, callF tab n (ν 98) [.int v] [] = .ok (.obj 0) [P] ∧ Pen 0 P := by
  obtain ⟨n, rfl⟩ := up1 hn
  rw [callF_h (q := q_law_source ν) rfl rfl]
  simp only [q_law_source]
  (rw [exs_cons]; simp only [rs, Nat.reduceAdd, Nat.reduceSub, Int.cast_ofNat_Int, Int.reduceBEq, Int.reduceLT, Int.reduceLE, Int.reduceAdd, Int.reduceSub, binD_mod (show (2147483629 : Int) ≠ 0 by decide), show binD .pow (.int 10) (.int 18) = some (.int (10 ^ 18)) from rfl, if_pos (show 3 ≤ sizeLine by decide)])
  have h := modP (i := v) (m := 2147483629) (by decide)
  refine ⟨_, rfl, .mk _ _ _ ?_ (by omega) (by omega) (Int.le_refl 0) (by omega)⟩
  split <;> omega
theorem choose_spec {tab : List QFn} {ν : Nat → Nat} [Hx tab ν 99 (q_law_draw_2 ν)] [Hx tab ν 100 (q_law_choose ν)] {α : Type} {enc : α → D} {n t : Nat} {P : MO} {R : Store} {l : List α} (hp : Pen t P) (h0 : 0 < l.length) (hl : l.length < 1000) (lo : ∀ x ∈ l, (enc x).lo 0 = true) (ht : t < 1000000000000) (hn : 2 ≤ n := by omega) :
    ∃ x P', callF tab n (ν 100) [.obj 0, .lst (l.map enc)] (P :: R) = .ok (enc x) (P' :: R) ∧ x ∈ l ∧ Pen (t + 1) P' := by
  obtain ⟨n, rfl⟩ := up1 hn
  rw [callF_h (q := q_law_choose ν) rfl rfl]
  simp only [q_law_choose]
  obtain ⟨d, P', e, d1, p1⟩ := draw2_spec (tab := tab) (ν := ν) (n := n) (R := R) (m := l.length) hp h0 (by omega) ht
  obtain ⟨x, hx, mx⟩ := get_lt d1
  ((rw [exs_cons]; simp only [rs, Nat.reduceAdd, Nat.reduceSub, Int.cast_ofNat_Int, Int.reduceBEq, Int.reduceLT, Int.reduceLE, Int.reduceAdd, Int.reduceSub, List.length_map, e, atI_map hx]); repeat (rw [exs_cons]; simp only [rs, Nat.reduceAdd, Nat.reduceSub, Int.cast_ofNat_Int, Int.reduceBEq, Int.reduceLT, Int.reduceLE, Int.reduceAdd, Int.reduceSub, List.length_map, e, atI_map hx]))
  rw [fin1_lo (lo x mx)]
  exact ⟨x, P', rfl, mx, p1⟩
def vOk (v : Nat) : Prop := v = 0 ∨ v = 1 ∨ v = 2 ∨ v = 3 ∨ v = 9
def SmS (s : Stp) : Prop := ∀ v b, s = .wr v b → vOk v
theorem SmS.wr {v b : Nat} (h : vOk v) : SmS (.wr v b) := fun _ _ e => by cases e; exact h
theorem SmS.cp {a b : Nat} : SmS (.cp a b) := fun _ _ e => by cases e
structure OkM (L : Nat) (ms : List Nat) : Prop where
  rise : ms.Pairwise (· < ·)
  ok : ∀ m ∈ ms, 1 ≤ m ∧ m ≤ L
theorem OkM.lt {L : Nat} : ∀ {ms : List Nat} {a : Nat}, (a :: ms).Pairwise (· < ·) → (∀ m ∈ ms, m ≤ L) → a ≤ L → a + ms.length ≤ L
  | [], a, _, _, h => h
  | b :: ms, a, p, h, _ => by
    have ⟨h1, h2⟩ := List.pairwise_cons.mp p
    have hb := h1 b List.mem_cons_self
    have := OkM.lt (L := L) h2 (fun m hm => h m (List.mem_cons_of_mem _ hm)) (h b List.mem_cons_self)
    rw [List.length_cons]
    omega
theorem OkM.len {L : Nat} {ms : List Nat} (h : OkM L ms) : ms.length ≤ L := by
  cases ms with
  | nil => exact Nat.zero_le _
  | cons a ms =>
    have := OkM.lt (L := L) h.rise (fun m hm => (h.ok m (List.mem_cons_of_mem _ hm)).2) (h.ok a List.mem_cons_self).2
    have := (h.ok a List.mem_cons_self).1
    rw [List.length_cons]
    omega
theorem fin0_lo {keep : Bool} {d : D} {S : Store} (h : d.lo 0 = true) : fin keep S.length d S = .ok d S := fin_lo h (Nat.le_refl _)
def clashO (e : List Part) : Option Nat := (matOf e).find? fun j => !unch e j
theorem clash_of_spec {tab : List QFn} {ν : Nat → Nat} [Hx tab ν 33 (q_matters_in ν)] [Hx tab ν 55 (q_is_unchanged ν)] [Hx tab ν 95 (q_clash_of ν)] {n f : Nat} {S : Store} {e : List Part} (h : OkE f e) (hf : f ≤ 5) (hn : 2 ≤ n := by omega) : callF tab n (ν 95) [effD e] S = .ok (stopN (clashO e)) S := by
  obtain ⟨n, rfl⟩ := up1 hn
  rw [callF_h (q := q_clash_of ν) rfl rfl]
  simp only [q_clash_of]
  have mo := matOf_lt h
  (rw [exs_cons]; simp only [rs, Nat.reduceAdd, Nat.reduceSub, Int.cast_ofNat_Int, Int.reduceBEq, Int.reduceLT, Int.reduceLE, Int.reduceAdd, Int.reduceSub, matters_in_spec (tab := tab) (ν := ν) (n := n) (S := S) h hf, recD])
  generalize hc : forL _ _ _ _ _ _ = o
  refine for_find2 hc (Nat.le_refl _) (fun j => !unch e j) (fun j => .int (j : Int)) (fun j hj hp => ?_) (fun j hj hp => ?_) (fun j hj hq q => ?_) fun hq q => ?_
  · have hp : unch e j = false := by simpa using hp
    simp only [rs, Nat.reduceAdd, Nat.reduceSub, Int.cast_ofNat_Int, Int.reduceBEq, Int.reduceLT, Int.reduceLE, Int.reduceAdd, Int.reduceSub, is_unchanged_spec (tab := tab) (ν := ν) (n := n) (S := S) h (mo j hj), hp]
    ((rw [exs_cons]; simp only [rs, Nat.reduceAdd, Nat.reduceSub, Int.cast_ofNat_Int, Int.reduceBEq, Int.reduceLT, Int.reduceLE, Int.reduceAdd, Int.reduceSub, is_unchanged_spec (tab := tab) (ν := ν) (n := n) (S := S) h (mo j hj), hp]); repeat (rw [exs_cons]; simp only [rs, Nat.reduceAdd, Nat.reduceSub, Int.cast_ofNat_Int, Int.reduceBEq, Int.reduceLT, Int.reduceLE, Int.reduceAdd, Int.reduceSub, is_unchanged_spec (tab := tab) (ν := ν) (n := n) (S := S) h (mo j hj), hp]))
  · have hp : unch e j = true := by simpa using hp
    simp only [rs, Nat.reduceAdd, Nat.reduceSub, Int.cast_ofNat_Int, Int.reduceBEq, Int.reduceLT, Int.reduceLE, Int.reduceAdd, Int.reduceSub, is_unchanged_spec (tab := tab) (ν := ν) (n := n) (S := S) h (mo j hj), hp]
    ((rw [exs_cons]; simp only [rs, Nat.reduceAdd, Nat.reduceSub, Int.cast_ofNat_Int, Int.reduceBEq, Int.reduceLT, Int.reduceLE, Int.reduceAdd, Int.reduceSub, is_unchanged_spec (tab := tab) (ν := ν) (n := n) (S := S) h (mo j hj), hp]); repeat (rw [exs_cons]; simp only [rs, Nat.reduceAdd, Nat.reduceSub, Int.cast_ofNat_Int, Int.reduceBEq, Int.reduceLT, Int.reduceLE, Int.reduceAdd, Int.reduceSub, is_unchanged_spec (tab := tab) (ν := ν) (n := n) (S := S) h (mo j hj), hp]))
  · subst q
    rw [show clashO e = some j from hq]
    simp only [rs, Nat.reduceAdd, Nat.reduceSub, Int.cast_ofNat_Int, Int.reduceBEq, Int.reduceLT, Int.reduceLE, Int.reduceAdd, Int.reduceSub, stopN]
  · subst q
    rw [show clashO e = none from hq]
    simp only [rs, Nat.reduceAdd, Nat.reduceSub, Int.cast_ofNat_Int, Int.reduceBEq, Int.reduceLT, Int.reduceLE, Int.reduceAdd, Int.reduceSub, stopN]
    ((rw [exs_cons]; simp only [rs, Nat.reduceAdd, Nat.reduceSub, Int.cast_ofNat_Int, Int.reduceBEq, Int.reduceLT, Int.reduceLE, Int.reduceAdd, Int.reduceSub, stopN]); repeat (rw [exs_cons]; simp only [rs, Nat.reduceAdd, Nat.reduceSub, Int.cast_ofNat_Int, Int.reduceBEq, Int.reduceLT, Int.reduceLE, Int.reduceAdd, Int.reduceSub, stopN]))
def stepOf (p : Part) (j : Nat) : Stp := match p with
  | .fld i => .cp i j
  | .val v => .wr v j
def shortS (e : List Part) : List Stp := (List.range e.length).filterMap fun j => match e[j]? with
  | some p => if p = .fld j then none else some (stepOf p j)
  | none => none
theorem turnF_tp12 {C : CallT} {σ : Env} {S : Store} {i j k : Nat} {b : List QS} {x y z : D} : turnF C (.tp [.nm i, .tp [.nm j, .nm k]]) b (.tup [x, .tup [y, z]]) σ S = exs C b (((σ.set i (some x)).set j (some y)).set k (some z)) S := rfl
theorem enmT {α : Type} {enc : α → D} : ∀ {l : List α} {lo : Nat}, enmL (lo : Int) (l.map enc) = (l.zipIdx lo).map fun p => D.tup [.int p.2, enc p.1]
  | [], lo => rfl
  | x :: l, lo => by
    rw [List.map_cons, enmL, List.zipIdx_cons, List.map_cons]
    exact congrArg _ (enmT (l := l) (lo := lo + 1))
theorem enmT0 {α : Type} {enc : α → D} {l : List α} : enmL 0 (l.map enc) = l.zipIdx.map fun p => D.tup [.int p.2, enc p.1] := enmT (lo := 0)
theorem short_fold : ∀ {l : List Part} {lo : Nat} {a : List Stp}, (l.zipIdx lo).foldl (fun a p => if p.1 = .fld p.2 then a else a ++ [stepOf p.1 p.2]) a = a ++ ((List.range' lo l.length).filterMap fun j => match l[j - lo]? with
    | some p => if p = .fld j then none else some (stepOf p j)
    | none => none)
  | [], lo, a => by simp
  | x :: l, lo, a => by
    have tail : ((List.range' (lo + 1) l.length).filterMap fun j => match (x :: l)[j - lo]? with
        | some p => if p = .fld j then none else some (stepOf p j)
        | none => none) = (List.range' (lo + 1) l.length).filterMap fun j => match l[j - (lo + 1)]? with
        | some p => if p = .fld j then none else some (stepOf p j)
        | none => none := by
      refine fm_congr fun j hj => ?_
      have := List.mem_range'_1.mp hj
      rw [show j - lo = j - (lo + 1) + 1 by omega, List.getElem?_cons_succ]
    rw [List.zipIdx_cons, List.foldl_cons, short_fold (l := l) (lo := lo + 1), List.length_cons, List.range'_succ, List.filterMap_cons, Nat.sub_self, List.getElem?_cons_zero, tail]
    dsimp only
    by_cases h : x = .fld lo
    · simp [h]
    · simp [h]
theorem short_len {e : List Part} : (shortS e).length ≤ e.length := by
  refine Nat.le_trans (List.length_filterMap_le _ _) ?_
  rw [List.length_range]
  exact Nat.le_refl _
theorem short_mem {f : Nat} {e : List Part} (h : OkE f e) {s : Stp} (hs : s ∈ shortS e) : OkS f s ∧ ∃ j p, e[j]? = some p ∧ p ≠ .fld j ∧ s = stepOf p j := by
  obtain ⟨j, hj, q⟩ := List.mem_filterMap.mp hs
  cases r : e[j]? with
  | none =>
    rw [r] at q
    cases q
  | some p =>
    rw [r] at q
    dsimp only at q
    split at q
    · cases q
    · rename_i ne
      cases q
      have hp := h.ok p (List.mem_of_getElem? r)
      have hj : j < f := by
        have := List.mem_range.mp hj
        rwa [h.len] at this
      refine ⟨?_, j, p, r, ne, rfl⟩
      cases p with
      | fld i => exact ⟨hp, hj, fun z => ne (by rw [z])⟩
      | val v => exact ⟨hp, hj⟩
theorem shortest_of_spec {tab : List QFn} {ν : Nat → Nat} [Hx tab ν 55 (q_is_unchanged ν)] [Hx tab ν 105 (q_shortest_of ν)] {n f : Nat} {S : Store} {e : List Part} (h : OkE f e) (hf : f ≤ 5) (hn : 2 ≤ n := by omega) : callF tab n (ν 105) [effD e] S = .ok (scrD f (shortS e)) S := by
  obtain ⟨n, rfl⟩ := up1 hn
  rw [callF_h (q := q_shortest_of ν) rfl rfl]
  simp only [q_shortest_of]
  have hlen := h.len
  (rw [exs_cons]; simp only [rs, Nat.reduceAdd, Nat.reduceSub, Int.cast_ofNat_Int, Int.reduceBEq, Int.reduceLT, Int.reduceLE, Int.reduceAdd, Int.reduceSub, show 0 ≤ sizeLine by decide])
  (rw [exs_cons]; simp only [rs, Nat.reduceAdd, Nat.reduceSub, Int.cast_ofNat_Int, Int.reduceBEq, Int.reduceLT, Int.reduceLE, Int.reduceAdd, Int.reduceSub, effD, enmT0])
  rw [show D.tup (e.map Part.d) = effD e from rfl]
  generalize hc : forL _ _ _ _ _ _ = o
  refine for_I hc (fun _ : List Stp => [some (effD e), some (.obj S.length), none, none, none]) (fun a => S ++ [.lst (a.map Stp.d)]) (fun i a => a.length ≤ i) (fun a p => if p.1 = .fld p.2 then a else a ++ [stepOf p.1 p.2]) [] rfl rfl (Nat.le_refl _) (fun i a p hi ha hp => ?_) fun _ q => ?_
  · rw [List.length_zipIdx] at hi
    obtain ⟨p, j⟩ := p
    have hpj : e[j]? = some p := by
      have := List.mem_zipIdx_iff_getElem?.mp hp
      simpa using this
    have hj : j < f := by
      rw [← hlen]
      exact (List.getElem?_eq_some_iff.mp hpj).1
    have un : unch e j = decide (p = .fld j) := by simp [unch, hpj]
    have lo3 : (stepOf p j).d.lo 0 = true := lo_stp
    dsimp only
    by_cases hu : p = .fld j
    · rw [if_pos hu]
      refine ⟨by omega, by simp, ?_⟩
      have tw : ∀ b : List QS, turnF (callF tab n) (.tp [.nm 2, .tp [.nm 3, .nm 4]]) b (.tup [.int j, p.d]) [some (effD e), some (.obj S.length), none, none, none] (S ++ [.lst (a.map Stp.d)]) = exs (callF tab n) b [some (effD e), some (.obj S.length), some (.int j), some (.str "field"), some (.int p.n)] (S ++ [.lst (a.map Stp.d)]) := fun b => by
        subst hu
        rfl
      rw [tw]
      (rw [exs_cons]; simp only [rs, Nat.reduceAdd, Nat.reduceSub, Int.cast_ofNat_Int, Int.reduceBEq, Int.reduceLT, Int.reduceLE, Int.reduceAdd, Int.reduceSub, is_unchanged_spec (tab := tab) (ν := ν) (n := n) (S := S ++ [.lst (a.map Stp.d)]) h hj, un, hu, decide_true])
    · rw [if_neg hu]
      refine ⟨by rw [List.length_append]; show a.length + 1 ≤ _; omega, by simp, ?_⟩
      have app := mthQ_app (S := S) (l := a.map Stp.d) (x := (stepOf p j).d) lo3 (by rw [List.length_map]; omega)
      cases p with
      | fld i =>
        have app : mthQ .append (.obj S.length) (.ok [.tup [.str "copy", .int i, .int j]] (S ++ [.lst (a.map Stp.d)])) = _ := app
        simp only [rs, Nat.reduceAdd, Nat.reduceSub, Int.cast_ofNat_Int, Int.reduceBEq, Int.reduceLT, Int.reduceLE, Int.reduceAdd, Int.reduceSub, Part.d, turnF_tp12]
        (rw [exs_cons]; simp only [rs, Nat.reduceAdd, Nat.reduceSub, Int.cast_ofNat_Int, Int.reduceBEq, Int.reduceLT, Int.reduceLE, Int.reduceAdd, Int.reduceSub, is_unchanged_spec (tab := tab) (ν := ν) (n := n) (S := S ++ [.lst (a.map Stp.d)]) h hj, un, hu, decide_false])
        (rw [exs_cons]; simp only [rs, Nat.reduceAdd, Nat.reduceSub, Int.cast_ofNat_Int, Int.reduceBEq, Int.reduceLT, Int.reduceLE, Int.reduceAdd, Int.reduceSub, mtOk_new (m := .append) (.inl rfl), show 3 ≤ sizeLine by decide, app])
        simp [List.map_append]
      | val v =>
        have app : mthQ .append (.obj S.length) (.ok [.tup [.str "write", .int v, .int j]] (S ++ [.lst (a.map Stp.d)])) = _ := app
        simp only [rs, Nat.reduceAdd, Nat.reduceSub, Int.cast_ofNat_Int, Int.reduceBEq, Int.reduceLT, Int.reduceLE, Int.reduceAdd, Int.reduceSub, Part.d, turnF_tp12]
        (rw [exs_cons]; simp only [rs, Nat.reduceAdd, Nat.reduceSub, Int.cast_ofNat_Int, Int.reduceBEq, Int.reduceLT, Int.reduceLE, Int.reduceAdd, Int.reduceSub, is_unchanged_spec (tab := tab) (ν := ν) (n := n) (S := S ++ [.lst (a.map Stp.d)]) h hj, un, hu, decide_false])
        (rw [exs_cons]; simp only [rs, Nat.reduceAdd, Nat.reduceSub, Int.cast_ofNat_Int, Int.reduceBEq, Int.reduceLT, Int.reduceLE, Int.reduceAdd, Int.reduceSub, mtOk_new (m := .append) (.inl rfl), s_vf, show 3 ≤ sizeLine by decide, app])
        simp [List.map_append]
  · subst q
    have fe : e.zipIdx.foldl (fun a p => if p.1 = .fld p.2 then a else a ++ [stepOf p.1 p.2]) [] = shortS e := by
      have := short_fold (l := e) (lo := 0) (a := [])
      rw [this, List.nil_append, ← List.range_eq_range']
      rfl
    rw [fe]
    simp only [rs, Nat.reduceAdd, Nat.reduceSub, Int.cast_ofNat_Int, Int.reduceBEq, Int.reduceLT, Int.reduceLE, Int.reduceAdd, Int.reduceSub]
    (rw [exs_cons]; simp only [rs, Nat.reduceAdd, Nat.reduceSub, Int.cast_ofNat_Int, Int.reduceBEq, Int.reduceLT, Int.reduceLE, Int.reduceAdd, Int.reduceSub, show itemsD (S ++ [.lst ((shortS e).map Stp.d)]) (effD e) = some (e.map Part.d) from rfl, List.length_map, hlen, items_new, show 2 ≤ sizeLine by decide])
    rw [fin_new (by rw [D.lo, loL, loL, D.lo, D.lo, lo_map fun _ _ => lo_stp]; rfl)]
    rfl
theorem exs_app {C : CallT} : ∀ {a b : List QS} {σ : Env} {S : Store}, exs C (a ++ b) σ S = (exs C a σ S).seq fun σ S => exs C b σ S
  | [], b, σ, S => by
    rw [exs_nil]
    rfl
  | s :: a, b, σ, S => by
    rw [List.cons_append, exs_cons, exs_cons]
    cases ex C s σ S with
    | nx σ1 S1 => exact exs_app (a := a)
    | _ => rfl
theorem app1 {P : MO} {R : Store} {l : List D} {x : D} (h : x.lo 0 = true) (hl : l.length < 100000) : mthQ .append (.obj (R.length + 1)) (.ok [x] (P :: (R ++ [.lst l]))) = .ok .non (P :: (R ++ [.lst (l ++ [x])])) := mthQ_ok (append_last h (len_lt (Nat.le_of_lt hl) (by decide)))
theorem effect2_spec {tab : List QFn} {ν : Nat → Nat} [Hx tab ν 99 (q_law_draw_2 ν)] [Hx tab ν 100 (q_law_choose ν)] [Hx tab ν 102 (q_law_effect_2 ν)] {n t : Nat} {P : MO} {R : Store} (hp : Pen t P) (ht : t < 100000000) (hn : 3 ≤ n := by omega) :
    ∃ (f : Nat) (e : List Part) (P' : MO), callF tab n (ν 102) [.obj 0] (P :: R) = .ok (effD e) (P' :: R) ∧ OkE f e ∧ 1 ≤ f ∧ f ≤ 5 ∧ Pen (t + 50) P' := by
  obtain ⟨n, rfl⟩ := up1 hn
  rw [callF_h (q := q_law_effect_2 ν) rfl rfl]
  simp only [q_law_effect_2]
  obtain ⟨a, P1, e1, ha, p1⟩ := draw2_spec (tab := tab) (ν := ν) (n := n) (R := R) (m := 5) hp (by decide) (by decide) (by omega)
  have e1 : callF tab n (ν 99) [.obj 0, .int 5] (P :: R) = _ := e1
  obtain ⟨way, P2, e2, hw, p2⟩ := draw2_spec (tab := tab) (ν := ν) (n := n) (R := R) (m := 3) p1 (by decide) (by decide) (by omega)
  have e2 : callF tab n (ν 99) [.obj 0, .int 3] (P1 :: R) = _ := e2
  have i1 : (1 : Int) + (a : Int) = ((1 + a : Nat) : Int) := rfl
  (rw [exs_cons]; simp only [rs, Nat.reduceAdd, Nat.reduceSub, Int.cast_ofNat_Int, Int.reduceBEq, Int.reduceLT, Int.reduceLE, Int.reduceAdd, Int.reduceSub, e1, e2, setAll, i1])
  generalize hf : 1 + a = f
  have f1 : 1 ≤ f := by omega
  have f5 : f ≤ 5 := by omega
  (rw [exs_cons]; simp only [rs, Nat.reduceAdd, Nat.reduceSub, Int.cast_ofNat_Int, Int.reduceBEq, Int.reduceLT, Int.reduceLE, Int.reduceAdd, Int.reduceSub, rng1_nat (show f ≤ 1000000000 by omega)])
  generalize hc : compL _ _ _ = o
  refine comp_PF (out := fun v : Nat => D.int v) hc 1 p2 (fun x hx t P hp ht => ?_) fun kept P3 e p3 kin kl => ?_
  · rw [List.length_range] at ht
    obtain ⟨d, P', e, d1, p1⟩ := draw2_spec (tab := tab) (ν := ν) (n := n) (R := R) (m := 2) hp (by decide) (by decide) (by omega)
    have e : callF tab n (ν 99) [.obj 0, .int 2] (P :: R) = _ := e
    refine ⟨((d : Int) == 0), P', ?_, p1⟩
    simp only [rs, Nat.reduceAdd, Nat.reduceSub, Int.cast_ofNat_Int, Int.reduceBEq, Int.reduceLT, Int.reduceLE, Int.reduceAdd, Int.reduceSub, e]
    cases ((d : Int) == 0) <;> rfl
  subst e
  rw [List.length_range] at kl p3
  have klt : ∀ y ∈ kept, y < f := fun y hy => List.mem_range.mp (kin y hy)
  simp only [rs, Nat.reduceAdd, Nat.reduceSub, Int.cast_ofNat_Int, Int.reduceBEq, Int.reduceLT, Int.reduceLE, Int.reduceAdd, Int.reduceSub, List.length_map, if_pos (len_lt (n := kept.length) (m := 100) (by omega) (by decide))]
  rw [show D.lst (kept.map fun v : Nat => .int v) = natsD kept from rfl]
  (rw [exs_cons]; simp only [rs, Nat.reduceAdd, Nat.reduceSub, Int.cast_ofNat_Int, Int.reduceBEq, Int.reduceLT, Int.reduceLE, Int.reduceAdd, Int.reduceSub, show 0 ≤ sizeLine by decide, List.cons_append])
  (rw [exs_cons]; simp only [rs, Nat.reduceAdd, Nat.reduceSub, Int.cast_ofNat_Int, Int.reduceBEq, Int.reduceLT, Int.reduceLE, Int.reduceAdd, Int.reduceSub, rng1_nat (show f ≤ 1000000000 by omega)])
  generalize hc : forL _ _ _ _ _ _ = o
  refine for_G hc (fun i σ S => ∃ (e : List Part) (P : MO) (o3 : Option D), e.length = i ∧ (∀ p ∈ e, OkQ f p) ∧ Pen (t + 10 + 5 * i) P ∧ σ = [some (.obj 0), some (natsD kept), some (.obj (R.length + 1)), o3, some (.int f), some (.int way), none] ∧ S = P :: (R ++ [.lst (e.map Part.d)])) ⟨[], P3, none, rfl, fun p h => (by cases h), p3.mono (by omega), rfl, rfl⟩ (fun i x hx σ S hI => ?_) fun σ' S' q hI => ?_
  · obtain ⟨e, P4, o3, he, hok, p4, rfl, rfl⟩ := hI
    have hi := (List.getElem?_eq_some_iff.mp hx).1
    rw [List.length_map, List.length_range] at hi
    have hxi : x = .int (i : Int) := by
      rw [List.getElem?_map, List.getElem?_range hi] at hx
      exact (Option.some.inj hx).symm
    subst hxi
    obtain ⟨v, P5, e5, hv, p5⟩ := draw2_spec (tab := tab) (ν := ν) (n := n) (R := R ++ [.lst (e.map Part.d)]) (m := 10) p4 (by decide) (by decide) (by omega)
    have e5 : callF tab n (ν 99) [.obj 0, .int 10] (P4 :: (R ++ [.lst (e.map Part.d)])) = _ := e5
    have part : ∃ (p : Part) (P6 : MO), OkQ f p ∧ Pen (t + 10 + 5 * i + 5) P6 ∧ exs (callF tab n) [.set (.nm 6) (.tup (.cons (.con (.str "value")) (.cons (.call (ν 99) (.cons (.var 0) (.cons (.con (.int 10)) .nil))) .nil))), .ife (.and (.cmp .gt (.var 5) (.con (.int 0))) (.cmp .mem (.var 3) (.var 1))) [.set (.nm 6) (.tup (.cons (.con (.str "field")) (.cons (.var 3) .nil)))] [.ife (.and (.cmp .eq (.var 5) (.con (.int 0))) (.cmp .eq (.call (ν 99) (.cons (.var 0) (.cons (.con (.int 2)) .nil))) (.con (.int 0)))) [.set (.nm 6) (.tup (.cons (.con (.str "field")) (.cons (.call (ν 99) (.cons (.var 0) (.cons (.var 4) .nil))) .nil)))] [.ife (.and (.cmp .ne (.var 1) (.lst .nil)) (.cmp .eq (.call (ν 99) (.cons (.var 0) (.cons (.con (.int 2)) .nil))) (.con (.int 0)))) [.set (.nm 6) (.tup (.cons (.con (.str "field")) (.cons (.call (ν 100) (.cons (.var 0) (.cons (.var 1) .nil))) .nil)))] []]]] [some (.obj 0), some (natsD kept), some (.obj (R.length + 1)), some (.int i), some (.int f), some (.int way), none] (P4 :: (R ++ [.lst (e.map Part.d)])) = .nx [some (.obj 0), some (natsD kept), some (.obj (R.length + 1)), some (.int i), some (.int f), some (.int way), some p.d] (P6 :: (R ++ [.lst (e.map Part.d)])) := by
      have c2 : (2 : Nat) ≤ sizeLine := by decide
      have c0 : (0 : Nat) ≤ sizeLine := by decide
      have third : way ≠ 0 ∨ True → ∀ (P5 : MO) (k : Nat), k ≤ 2 → Pen (t + 10 + 5 * i + k) P5 → ∃ (p : Part) (P6 : MO), OkQ f p ∧ Pen (t + 10 + 5 * i + 5) P6 ∧ exs (callF tab n) [.ife (.and (.cmp .ne (.var 1) (.lst .nil)) (.cmp .eq (.call (ν 99) (.cons (.var 0) (.cons (.con (.int 2)) .nil))) (.con (.int 0)))) [.set (.nm 6) (.tup (.cons (.con (.str "field")) (.cons (.call (ν 100) (.cons (.var 0) (.cons (.var 1) .nil))) .nil)))] []] [some (.obj 0), some (natsD kept), some (.obj (R.length + 1)), some (.int i), some (.int f), some (.int way), some (Part.val v).d] (P5 :: (R ++ [.lst (e.map Part.d)])) = .nx [some (.obj 0), some (natsD kept), some (.obj (R.length + 1)), some (.int i), some (.int f), some (.int way), some p.d] (P6 :: (R ++ [.lst (e.map Part.d)])) := fun _ P5 k hk p5 => by
        rw [natsD]
        by_cases h0 : kept = []
        · have ee : cmpD .ne (.lst (kept.map fun v : Nat => .int v)) (.lst []) (P5 :: (R ++ [.lst (e.map Part.d)])) = some false := by rw [ne_nil_lst fit_nats, h0]; rfl
          refine ⟨.val v, P5, (show v ≤ 9 by omega), p5.mono (by omega), ?_⟩
          (rw [exs_cons]; simp only [rs, Nat.reduceAdd, Nat.reduceSub, Int.cast_ofNat_Int, Int.reduceBEq, Int.reduceLT, Int.reduceLE, Int.reduceAdd, Int.reduceSub, c0, ee])
        · have ee : cmpD .ne (.lst (kept.map fun v : Nat => .int v)) (.lst []) (P5 :: (R ++ [.lst (e.map Part.d)])) = some true := by
            rw [ne_nil_lst fit_nats]
            cases kept with
            | nil => exact absurd rfl h0
            | cons _ _ => rfl
          obtain ⟨d, P6, e6, hd, p6⟩ := draw2_spec (tab := tab) (ν := ν) (n := n) (R := R ++ [.lst (e.map Part.d)]) (m := 2) p5 (by decide) (by decide) (by omega)
          have e6 : callF tab n (ν 99) [.obj 0, .int 2] (P5 :: (R ++ [.lst (e.map Part.d)])) = _ := e6
          by_cases hd0 : d = 0
          · obtain ⟨y, P7, e7, hy, p7⟩ := choose_spec (tab := tab) (ν := ν) (n := n) (R := R ++ [.lst (e.map Part.d)]) (enc := fun v : Nat => D.int v) (l := kept) p6 (List.length_pos_iff.mpr h0) (by omega) (fun _ _ => rfl) (by omega)
            refine ⟨.fld y, P7, klt y hy, p7.mono (by omega), ?_⟩
            (rw [exs_cons]; simp only [rs, Nat.reduceAdd, Nat.reduceSub, Int.cast_ofNat_Int, Int.reduceBEq, Int.reduceLT, Int.reduceLE, Int.reduceAdd, Int.reduceSub, c0, c2, ee, e6, beq_t (show (d : Int) = 0 by omega)])
            (rw [exs_cons]; simp only [rs, Nat.reduceAdd, Nat.reduceSub, Int.cast_ofNat_Int, Int.reduceBEq, Int.reduceLT, Int.reduceLE, Int.reduceAdd, Int.reduceSub, e7, c2])
            rfl
          · refine ⟨.val v, P6, (show v ≤ 9 by omega), p6.mono (by omega), ?_⟩
            (rw [exs_cons]; simp only [rs, Nat.reduceAdd, Nat.reduceSub, Int.cast_ofNat_Int, Int.reduceBEq, Int.reduceLT, Int.reduceLE, Int.reduceAdd, Int.reduceSub, c0, ee, e6, beq_int (show (d : Int) ≠ 0 by omega)])
      by_cases hw0 : way = 0
      · obtain ⟨d, P6, e6, hd, p6⟩ := draw2_spec (tab := tab) (ν := ν) (n := n) (R := R ++ [.lst (e.map Part.d)]) (m := 2) p5 (by decide) (by decide) (by omega)
        have e6 : callF tab n (ν 99) [.obj 0, .int 2] (P5 :: (R ++ [.lst (e.map Part.d)])) = _ := e6
        by_cases hd0 : d = 0
        · obtain ⟨j, P7, e7, hj, p7⟩ := draw2_spec (tab := tab) (ν := ν) (n := n) (R := R ++ [.lst (e.map Part.d)]) (m := f) p6 (by omega) (by omega) (by omega)
          refine ⟨.fld j, P7, hj, p7.mono (by omega), ?_⟩
          (rw [exs_cons]; simp only [rs, Nat.reduceAdd, Nat.reduceSub, Int.cast_ofNat_Int, Int.reduceBEq, Int.reduceLT, Int.reduceLE, Int.reduceAdd, Int.reduceSub, e5, c2])
          (rw [exs_cons]; simp only [rs, Nat.reduceAdd, Nat.reduceSub, Int.cast_ofNat_Int, Int.reduceBEq, Int.reduceLT, Int.reduceLE, Int.reduceAdd, Int.reduceSub, show ((0 : Int) < (way : Int)) = False from eq_false (by omega)])
          (rw [exs_cons]; simp only [rs, Nat.reduceAdd, Nat.reduceSub, Int.cast_ofNat_Int, Int.reduceBEq, Int.reduceLT, Int.reduceLE, Int.reduceAdd, Int.reduceSub, beq_t (show (way : Int) = 0 by omega), e6, beq_t (show (d : Int) = 0 by omega)])
          (rw [exs_cons]; simp only [rs, Nat.reduceAdd, Nat.reduceSub, Int.cast_ofNat_Int, Int.reduceBEq, Int.reduceLT, Int.reduceLE, Int.reduceAdd, Int.reduceSub, e7, c2])
          rfl
        · obtain ⟨p, P7, hq, p7, e7⟩ := third (.inr trivial) P6 2 (Nat.le_refl _) (p6.mono (by omega))
          refine ⟨p, P7, hq, p7, ?_⟩
          (rw [exs_cons]; simp only [rs, Nat.reduceAdd, Nat.reduceSub, Int.cast_ofNat_Int, Int.reduceBEq, Int.reduceLT, Int.reduceLE, Int.reduceAdd, Int.reduceSub, e5, c2])
          (rw [exs_cons]; simp only [rs, Nat.reduceAdd, Nat.reduceSub, Int.cast_ofNat_Int, Int.reduceBEq, Int.reduceLT, Int.reduceLE, Int.reduceAdd, Int.reduceSub, show ((0 : Int) < (way : Int)) = False from eq_false (by omega)])
          (rw [exs_cons]; simp only [rs, Nat.reduceAdd, Nat.reduceSub, Int.cast_ofNat_Int, Int.reduceBEq, Int.reduceLT, Int.reduceLE, Int.reduceAdd, Int.reduceSub, beq_t (show (way : Int) = 0 by omega), e6, beq_int (show (d : Int) ≠ 0 by omega)])
          rw [show D.tup [.str "value", .int v] = (Part.val v).d from rfl, e7]
          simp only [rs, Nat.reduceAdd, Nat.reduceSub, Int.cast_ofNat_Int, Int.reduceBEq, Int.reduceLT, Int.reduceLE, Int.reduceAdd, Int.reduceSub]
      · by_cases hm : i ∈ kept
        · refine ⟨.fld i, P5, hi, p5.mono (by omega), ?_⟩
          (rw [exs_cons]; simp only [rs, Nat.reduceAdd, Nat.reduceSub, Int.cast_ofNat_Int, Int.reduceBEq, Int.reduceLT, Int.reduceLE, Int.reduceAdd, Int.reduceSub, e5, c2])
          (rw [exs_cons]; simp only [rs, Nat.reduceAdd, Nat.reduceSub, Int.cast_ofNat_Int, Int.reduceBEq, Int.reduceLT, Int.reduceLE, Int.reduceAdd, Int.reduceSub, show ((0 : Int) < (way : Int)) = True from eq_true (by omega), natsD, cmp_mem, memD_nats, hm])
          (rw [exs_cons]; simp only [rs, Nat.reduceAdd, Nat.reduceSub, Int.cast_ofNat_Int, Int.reduceBEq, Int.reduceLT, Int.reduceLE, Int.reduceAdd, Int.reduceSub, c2])
          rfl
        · obtain ⟨p, P7, hq, p7, e7⟩ := third (.inr trivial) P5 1 (by omega) (p5.mono (by omega))
          refine ⟨p, P7, hq, p7, ?_⟩
          have mm : cmpD .mem (.int i) (natsD kept) (P5 :: (R ++ [.lst (e.map Part.d)])) = some false := by
            rw [natsD, cmp_mem, memD_nats, decide_eq_false hm]
          (rw [exs_cons]; simp only [rs, Nat.reduceAdd, Nat.reduceSub, Int.cast_ofNat_Int, Int.reduceBEq, Int.reduceLT, Int.reduceLE, Int.reduceAdd, Int.reduceSub, e5, c2])
          (rw [exs_cons]; simp only [rs, Nat.reduceAdd, Nat.reduceSub, Int.cast_ofNat_Int, Int.reduceBEq, Int.reduceLT, Int.reduceLE, Int.reduceAdd, Int.reduceSub, show ((0 : Int) < (way : Int)) = True from eq_true (by omega), mm])
          (rw [exs_cons]; simp only [rs, Nat.reduceAdd, Nat.reduceSub, Int.cast_ofNat_Int, Int.reduceBEq, Int.reduceLT, Int.reduceLE, Int.reduceAdd, Int.reduceSub, beq_int (show (way : Int) ≠ 0 by omega)])
          rw [show D.tup [.str "value", .int v] = (Part.val v).d from rfl, e7]
          simp only [rs, Nat.reduceAdd, Nat.reduceSub, Int.cast_ofNat_Int, Int.reduceBEq, Int.reduceLT, Int.reduceLE, Int.reduceAdd, Int.reduceSub]
    obtain ⟨p, P6, hq, p6, ep⟩ := part
    refine ⟨[some (.obj 0), some (natsD kept), some (.obj (R.length + 1)), some (.int i), some (.int f), some (.int way), some p.d], P6 :: (R ++ [.lst ((e ++ [p]).map Part.d)]), ?_, by simp, e ++ [p], P6, some (.int i), by simp [he], fun q hq' => ?_, p6.mono (by omega), rfl, rfl⟩
    · simp only [rs, Nat.reduceAdd, Nat.reduceSub, Int.cast_ofNat_Int, Int.reduceBEq, Int.reduceLT, Int.reduceLE, Int.reduceAdd, Int.reduceSub]
      refine (exs_app (a := [.set (.nm 6) (.tup (.cons (.con (.str "value")) (.cons (.call (ν 99) (.cons (.var 0) (.cons (.con (.int 10)) .nil))) .nil))), .ife (.and (.cmp .gt (.var 5) (.con (.int 0))) (.cmp .mem (.var 3) (.var 1))) [.set (.nm 6) (.tup (.cons (.con (.str "field")) (.cons (.var 3) .nil)))] [.ife (.and (.cmp .eq (.var 5) (.con (.int 0))) (.cmp .eq (.call (ν 99) (.cons (.var 0) (.cons (.con (.int 2)) .nil))) (.con (.int 0)))) [.set (.nm 6) (.tup (.cons (.con (.str "field")) (.cons (.call (ν 99) (.cons (.var 0) (.cons (.var 4) .nil))) .nil)))] [.ife (.and (.cmp .ne (.var 1) (.lst .nil)) (.cmp .eq (.call (ν 99) (.cons (.var 0) (.cons (.con (.int 2)) .nil))) (.con (.int 0)))) [.set (.nm 6) (.tup (.cons (.con (.str "field")) (.cons (.call (ν 100) (.cons (.var 0) (.cons (.var 1) .nil))) .nil)))] []]]]) (b := [.expr (.mth .append (.var 2) (.cons (.var 6) .nil))])).trans ?_
      rw [ep]
      simp only [rs, Nat.reduceAdd, Nat.reduceSub, Int.cast_ofNat_Int, Int.reduceBEq, Int.reduceLT, Int.reduceLE, Int.reduceAdd, Int.reduceSub]
      (rw [exs_cons]; simp only [rs, Nat.reduceAdd, Nat.reduceSub, Int.cast_ofNat_Int, Int.reduceBEq, Int.reduceLT, Int.reduceLE, Int.reduceAdd, Int.reduceSub, mtOk_last, app1 (R := R) (P := P6) (l := e.map Part.d) (x := p.d) lo_part (by rw [List.length_map]; omega)])
      rw [List.map_append]
      rfl
    · rcases List.mem_append.mp hq' with h | h
      · exact hok q h
      · rw [List.mem_singleton.mp h]
        exact hq
  · obtain ⟨e, P4, o3, he, hok, p4, rfl, rfl⟩ := hI
    subst q
    rw [List.length_map, List.length_range] at he p4
    simp only [rs, Nat.reduceAdd, Nat.reduceSub, Int.cast_ofNat_Int, Int.reduceBEq, Int.reduceLT, Int.reduceLE, Int.reduceAdd, Int.reduceSub]
    (rw [exs_cons]; simp only [rs, Nat.reduceAdd, Nat.reduceSub, Int.cast_ofNat_Int, Int.reduceBEq, Int.reduceLT, Int.reduceLE, Int.reduceAdd, Int.reduceSub, items_last])
    rw [fin_cut (by rw [D.lo]; exact lo_effL), take_last]
    exact ⟨f, e, P4, rfl, ⟨he, hok⟩, f1, f5, p4.mono (by omega)⟩
theorem law_clash_spec {tab : List QFn} {ν : Nat → Nat} [Hx tab ν 103 (q_law_clash ν)] {n f : Nat} {S : Store} {e : List Part} (h : OkE f e) (hf : f ≤ 5) (hn : 1 ≤ n := by omega) : callF tab n (ν 103) [effD e] S = .ok (stopN (clashO e)) S := by
  obtain ⟨n, rfl⟩ := up1 hn
  rw [callF_h (q := q_law_clash ν) rfl rfl]
  simp only [q_law_clash]
  have hlen := h.len
  have hcl : (List.range e.length).find? (fun j => !unch e j && decide (Part.fld j ∈ e)) = clashO e := by
    unfold clashO matOf
    rw [List.find?_filter]
    congr 1
    funext j
    cases unch e j <;> cases decide (Part.fld j ∈ e) <;> rfl
  (rw [exs_cons]; simp only [rs, Nat.reduceAdd, Nat.reduceSub, Int.cast_ofNat_Int, Int.reduceBEq, Int.reduceLT, Int.reduceLE, Int.reduceAdd, Int.reduceSub, effD])
  have en : enmL 0 (e.map Part.d) = (List.range e.length).map fun j : Nat => D.tup [.int j, ((e[j]?).getD (.val 0)).d] := by
    have : e.map Part.d = (List.range e.length).map fun j : Nat => ((e[j]?).getD (.val 0)).d := by
      apply List.ext_getElem?
      intro i
      rw [List.getElem?_map, List.getElem?_map]
      by_cases hi : i < e.length
      · rw [List.getElem?_range hi, List.getElem?_eq_getElem hi]
        simp [hi]
      · rw [List.getElem?_eq_none (by omega), List.getElem?_eq_none (by simpa using hi)]
        rfl
    rw [this, enm0]
  rw [en]
  generalize hc : forL _ _ _ _ _ _ = o
  have turn : ∀ j, j < e.length → ∃ p, e[j]? = some p ∧ (e[j]?).getD (.val 0) = p ∧ cmpD .ne p.d (.tup [.str "field", .int j]) S = some (!unch e j) ∧ cmpD .mem (.tup [.str "field", .int j]) (.tup (e.map Part.d)) S = some (decide (Part.fld j ∈ e)) := fun j hj => by
    obtain ⟨p, hp, _⟩ := get_lt hj
    refine ⟨p, hp, by rw [hp]; rfl, ?_, mem_parts (p := .fld j)⟩
    rw [show cmpD .ne p.d (.tup [.str "field", .int j]) S = some (!decide (p = .fld j)) from ne_part (b := .fld j)]
    simp [unch, hp]
  refine for_find2 hc (Nat.le_refl _) (fun j => !unch e j && decide (Part.fld j ∈ e)) (fun j => .int (j : Int)) (fun j hj hp => ?_) (fun j hj hp => ?_) (fun j hj hq q => ?_) fun hq q => ?_
  · obtain ⟨p, hp1, hp2, e1, e2⟩ := turn j (List.mem_range.mp hj)
    rw [Bool.and_eq_true] at hp
    simp only [rs, Nat.reduceAdd, Nat.reduceSub, Int.cast_ofNat_Int, Int.reduceBEq, Int.reduceLT, Int.reduceLE, Int.reduceAdd, Int.reduceSub, hp2]
    ((rw [exs_cons]; simp only [rs, Nat.reduceAdd, Nat.reduceSub, Int.cast_ofNat_Int, Int.reduceBEq, Int.reduceLT, Int.reduceLE, Int.reduceAdd, Int.reduceSub, show 2 ≤ sizeLine by decide, e1, e2, hp.1, hp.2]); repeat (rw [exs_cons]; simp only [rs, Nat.reduceAdd, Nat.reduceSub, Int.cast_ofNat_Int, Int.reduceBEq, Int.reduceLT, Int.reduceLE, Int.reduceAdd, Int.reduceSub, show 2 ≤ sizeLine by decide, e1, e2, hp.1, hp.2]))
  · obtain ⟨p, hp1, hp2, e1, e2⟩ := turn j (List.mem_range.mp hj)
    simp only [rs, Nat.reduceAdd, Nat.reduceSub, Int.cast_ofNat_Int, Int.reduceBEq, Int.reduceLT, Int.reduceLE, Int.reduceAdd, Int.reduceSub, hp2]
    cases h1 : unch e j with
    | true => (rw [exs_cons]; simp only [rs, Nat.reduceAdd, Nat.reduceSub, Int.cast_ofNat_Int, Int.reduceBEq, Int.reduceLT, Int.reduceLE, Int.reduceAdd, Int.reduceSub, show 2 ≤ sizeLine by decide, e1, h1])
    | false =>
      rw [h1] at hp
      have hp : decide (Part.fld j ∈ e) = false := hp
      (rw [exs_cons]; simp only [rs, Nat.reduceAdd, Nat.reduceSub, Int.cast_ofNat_Int, Int.reduceBEq, Int.reduceLT, Int.reduceLE, Int.reduceAdd, Int.reduceSub, show 2 ≤ sizeLine by decide, e1, h1, e2, hp])
  · subst q
    rw [← hcl, hq]
    simp only [rs, Nat.reduceAdd, Nat.reduceSub, Int.cast_ofNat_Int, Int.reduceBEq, Int.reduceLT, Int.reduceLE, Int.reduceAdd, Int.reduceSub, stopN]
  · subst q
    rw [← hcl, hq]
    simp only [rs, Nat.reduceAdd, Nat.reduceSub, Int.cast_ofNat_Int, Int.reduceBEq, Int.reduceLT, Int.reduceLE, Int.reduceAdd, Int.reduceSub, stopN]
    ((rw [exs_cons]; simp only [rs, Nat.reduceAdd, Nat.reduceSub, Int.cast_ofNat_Int, Int.reduceBEq, Int.reduceLT, Int.reduceLE, Int.reduceAdd, Int.reduceSub, stopN]); repeat (rw [exs_cons]; simp only [rs, Nat.reduceAdd, Nat.reduceSub, Int.cast_ofNat_Int, Int.reduceBEq, Int.reduceLT, Int.reduceLE, Int.reduceAdd, Int.reduceSub, stopN]))

theorem short_ok {f : Nat} {e : List Part} (h : OkE f e) (h1 : 1 ≤ f) (h5 : f ≤ 5) : OkP f 5 (shortS e) := ⟨h1, h5, by have := short_len (e := e); rw [h.len] at this; omega, fun s hs => (short_mem h hs).1⟩
section
variable {α : Type} [DecidableEq α]
abbrev Fnd (α : Type) := List (α × List Nat)
abbrev keysF (F : Fnd α) : List α := F.map (·.1)
def growK (sc : α → Nat → α) (x : α) (px : List Nat) (F : Fnd α) (k : Nat) : Fnd α := if sc x k ∈ keysF F then F else F ++ [(sc x k, px ++ [k])]
def okWay (sc : α → Nat → α) (ct : α → Nat) : α → List Nat → Prop
  | _, [] => True
  | x, k :: ks => k < ct x ∧ okWay sc ct (sc x k) ks
theorem okWay_snoc {sc : α → Nat → α} {ct : α → Nat} {k : Nat} : ∀ {ks : List Nat} {x : α}, okWay sc ct x ks → k < ct (ks.foldl sc x) → okWay sc ct x (ks ++ [k])
  | [], x, _, h => ⟨h, True.intro⟩
  | j :: ks, x, h, h' => ⟨h.1, okWay_snoc (ks := ks) h.2 h'⟩
structure Found (sc : α → Nat → α) (ct : α → Nat) (U : α → Prop) (x0 : α) (F : Fnd α) : Prop where
  nd : (keysF F).Nodup
  un : ∀ p ∈ F, U p.1
  way : ∀ p ∈ F, p.2.foldl sc x0 = p.1 ∧ okWay sc ct x0 p.2
  at0 : F[0]? = some (x0, [])
  ln : ∀ p ∈ F, p.2.length < F.length
section
variable {sc : α → Nat → α} {ct : α → Nat} {lost : α → Bool} {U : α → Prop} {x0 : α} {F : Fnd α} {N : Nat}
theorem Found.step (hU : ∀ x, U x → ∀ k, k < ct x → U (sc x k)) (h : Found sc ct U x0 F) {p : α × List Nat} (hp : p ∈ F) {k : Nat} (hk : k < ct p.1) : Found sc ct U x0 (growK sc p.1 p.2 F k) := by
  unfold growK
  split
  · exact h
  · rename_i n
    obtain ⟨w1, w2⟩ := h.way p hp
    refine ⟨?_, fun q hq => ?_, fun q hq => ?_, ?_, fun q hq => ?_⟩
    · rw [keysF, List.map_append]
      refine List.nodup_append.mpr ⟨h.nd, by simp, fun a ha b hb e => ?_⟩
      simp only [List.map_cons, List.map_nil, List.mem_singleton] at hb
      exact n (by rw [← hb, ← e]; exact ha)
    · rcases List.mem_append.mp hq with hq | hq
      · exact h.un q hq
      · rw [List.mem_singleton.mp hq]
        exact hU _ (h.un p hp) k hk
    · rcases List.mem_append.mp hq with hq | hq
      · exact h.way q hq
      · rw [List.mem_singleton.mp hq]
        refine ⟨?_, okWay_snoc w2 (by rw [w1]; exact hk)⟩
        show (p.2 ++ [k]).foldl sc x0 = _
        rw [List.foldl_append, w1]
        rfl
    · have := h.at0
      cases F with
      | nil => simp at this
      | cons a r => simpa using this
    · rw [List.length_append, List.length_singleton]
      rcases List.mem_append.mp hq with hq | hq
      · exact Nat.lt_succ_of_lt (h.ln q hq)
      · rw [List.mem_singleton.mp hq, List.length_append, List.length_singleton]
        exact Nat.succ_lt_succ (h.ln p hp)
end
end
theorem nodup_le : ∀ (N : Nat) (l : List Nat), l.Nodup → (∀ x ∈ l, x < N) → l.length ≤ N
  | 0, l, _, h => by
    cases l with
    | nil => exact Nat.le_refl _
    | cons a r => exact absurd (h a List.mem_cons_self) (Nat.not_lt_zero _)
  | N + 1, l, nd, h => by
    have h1 := nodup_le N (l.filter fun x => decide (x ≠ N)) (nd.filter _) fun x hx => by
      have ⟨a, b⟩ := List.mem_filter.mp hx
      have := h x a
      have : x ≠ N := by simpa using b
      omega
    have h2 : l.length ≤ (l.filter fun x => decide (x ≠ N)).length + 1 := by
      have key : ∀ m : List Nat, m.Nodup → m.length ≤ (m.filter fun x => decide (x ≠ N)).length + 1 := by
        intro m
        induction m with
        | nil => intro _; simp
        | cons a r ih =>
          intro nd
          have ⟨n1, n2⟩ := List.nodup_cons.mp nd
          rw [List.filter_cons]
          by_cases ha : a = N
          · subst ha
            have : (r.filter fun x => decide (x ≠ a)) = r := List.filter_eq_self.mpr fun x hx => by
              simp only [ne_eq, decide_not, Bool.not_eq_true', decide_eq_false_iff_not]
              intro e
              exact n1 (e ▸ hx)
            rw [if_neg (by simp), this, List.length_cons]
            exact Nat.le_refl _
          · rw [if_pos (by simpa using ha), List.length_cons, List.length_cons]
            have := ih n2
            omega
      exact key l nd
    omega
abbrev Sq := List Part × Nat
def digP : Part → Nat
  | .fld j => j
  | .val v => 5 + v
def codE : List Part → Nat
  | [] => 0
  | p :: e => digP p + 15 * codE e
theorem digP_lt {f : Nat} (hf : f ≤ 5) {p : Part} (h : OkQ f p) : digP p < 15 := by
  cases p with
  | fld j => have : j < f := h; show j < 15; omega
  | val v => have : v ≤ 9 := h; show 5 + v < 15; omega
theorem digP_inj {f : Nat} (hf : f ≤ 5) {p q : Part} (h : OkQ f p) (h' : OkQ f q) (e : digP p = digP q) : p = q := by
  cases p with
  | fld j =>
    cases q with
    | fld i => rw [show j = i from e]
    | val v =>
      have : j < f := h
      have : j = 5 + v := e
      omega
  | val u =>
    cases q with
    | fld i =>
      have : i < f := h'
      have : 5 + u = i := e
      omega
    | val v =>
      have : 5 + u = 5 + v := e
      rw [show u = v by omega]
theorem codE_lt {f : Nat} (hf : f ≤ 5) : ∀ {e : List Part}, (∀ p ∈ e, OkQ f p) → codE e < 15 ^ e.length
  | [], _ => by show 0 < 1; omega
  | p :: e, h => by
    have h1 := codE_lt hf (e := e) fun q hq => h q (List.mem_cons_of_mem _ hq)
    have h2 := digP_lt hf (h p List.mem_cons_self)
    rw [codE, List.length_cons, Nat.pow_succ]
    omega
theorem codE_inj {f : Nat} (hf : f ≤ 5) : ∀ {a b : List Part}, a.length = b.length → (∀ p ∈ a, OkQ f p) → (∀ p ∈ b, OkQ f p) → codE a = codE b → a = b
  | [], [], _, _, _, _ => rfl
  | [], q :: b, hl, _, _, _ => by simp at hl
  | p :: a, [], hl, _, _, _ => by simp at hl
  | p :: a, q :: b, hl, ha, hb, e => by
    rw [codE, codE] at e
    have h1 := digP_lt hf (ha p List.mem_cons_self)
    have h2 := digP_lt hf (hb q List.mem_cons_self)
    have e1 : digP p = digP q := by omega
    have e2 : codE a = codE b := by omega
    rw [digP_inj hf (ha p List.mem_cons_self) (hb q List.mem_cons_self) e1, codE_inj hf (by simpa using hl) (fun x hx => ha x (List.mem_cons_of_mem _ hx)) (fun x hx => hb x (List.mem_cons_of_mem _ hx)) e2]
theorem pow15 {n : Nat} (h : n ≤ 5) : 15 ^ n ≤ 759375 := Nat.le_trans (Nat.pow_le_pow_right (by decide) h) (by decide)
section
variable {R : Store} {a b x : MO}
end
class Key {α : Type} [DecidableEq α] (enc : α → D) : Prop where
  tup : ∀ x, isT (enc x) = true
  ok : ∀ x, keyOk (enc x) 8 = true
  inj : ∀ {x y}, enc x = enc y → x = y
section
variable {α β : Type} [DecidableEq α] {enc : α → D} [hk : Key enc] {val : β → D} {R : Store} {b : MO}
end
theorem keyOk_map {α : Type} {enc : α → D} {k : Nat} (h : ∀ x, keyOk (enc x) k = true) : ∀ l : List α, keyOkL (l.map enc) k = true
  | [] => rfl
  | x :: l => by
    rw [List.map_cons, keyOkL, h, keyOk_map h l]
    rfl
theorem keyOk_part (p : Part) : keyOk p.d 6 = true := by cases p <;> rfl
theorem eff_inj {a b : List Part} (h : effD a = effD b) : a = b := by
  have e1 : eqLT (a.map Part.d) (b.map Part.d) = decide (a = b) := eqLT_map eqT_part a b
  have e2 : eqLT (b.map Part.d) (b.map Part.d) = decide (b = b) := eqLT_map eqT_part b b
  rw [D.tup.inj h, e2] at e1
  simpa using e1.symm
instance : Key effD := ⟨fun x => rfl, fun x => by rw [effD, keyOk]; exact keyOk_map (k := 7) (fun p => by cases p <;> rfl) x, eff_inj⟩
def sqD (x : Sq) : D := .tup [effD x.1, .int x.2]
instance : Key sqD := ⟨fun x => rfl, fun x => by
  have : keyOkL (x.1.map Part.d) 6 = true := keyOk_map keyOk_part x.1
  rw [sqD, keyOk, keyOkL, keyOkL, keyOkL, effD, show keyOk (.tup (x.1.map Part.d)) 7 = keyOkL (x.1.map Part.d) 6 from rfl, this]
  rfl, fun {x y} h => by
  have h := D.tup.inj h
  simp only [List.cons.injEq, D.int.injEq, and_true] at h
  exact Prod.ext (eff_inj h.1) (by omega)⟩
inductive Mv where
  | enough | stops (ks r : List Nat)
  deriving DecidableEq
def Mv.d : Mv → D
  | .enough => .tup [.str "enough"]
  | .stops ks r => .tup [.str "stops", recD ks, recD r]
section
variable {α : Type} [DecidableEq α] {sc : α → Nat → α} {ct : α → Nat} {lost : α → Bool}
end
section
variable {R : Store} {a b c x : MO}
end
def addN (F : List (List Part)) (y : List Part) : List (List Part) := if y ∈ F then F else F ++ [y]
def cloN : Nat := 759375
structure Beh (f : Nat) (F : List (List Part)) : Prop where
  nd : F.Nodup
  ok : ∀ e ∈ F, OkE f e
theorem Beh.len {f : Nat} {F : List (List Part)} (hf : f ≤ 5) (h : Beh f F) : F.length ≤ cloN := by
  have hm : (F.map codE).length ≤ cloN := nodup_le _ _ ?_ fun x hx => ?_
  · rwa [List.length_map] at hm
  · have nd := h.nd
    rw [List.nodup_iff_pairwise_ne] at nd
    rw [List.nodup_iff_pairwise_ne, List.pairwise_map]
    exact nd.imp_of_mem fun {a b} ha hb ne e => ne (codE_inj hf (by rw [(h.ok a ha).len, (h.ok b hb).len]) (h.ok a ha).ok (h.ok b hb).ok e)
  · obtain ⟨e, he, rfl⟩ := List.mem_map.mp hx
    have h1 := codE_lt hf (h.ok e he).ok
    have h2 := pow15 (n := e.length) (by rw [(h.ok e he).len]; exact hf)
    exact Nat.lt_of_lt_of_le h1 h2
theorem addN_mem {F : List (List Part)} {x y : List Part} : x ∈ addN F y ↔ x ∈ F ∨ x = y := by
  unfold addN
  split
  · constructor
    · exact .inl
    · rintro (h | rfl)
      · exact h
      · assumption
  · rw [List.mem_append, List.mem_singleton]
theorem Beh.add {f : Nat} {F : List (List Part)} {y : List Part} (h : Beh f F) (hy : OkE f y) : Beh f (addN F y) := by
  refine ⟨?_, fun e he => ?_⟩
  · unfold addN
    split
    · exact h.nd
    · rename_i n
      exact List.nodup_append.mpr ⟨h.nd, List.nodup_cons.mpr ⟨by simp, List.nodup_nil⟩, fun a ha b hb => by
        rw [List.mem_singleton.mp hb]
        rintro rfl
        exact n ha⟩
  · rcases addN_mem.mp he with he | rfl
    · exact h.ok e he
    · exact hy
section
variable {C : CallT} {σ : Env} {S : Store}
theorem ev_said_s {ti k : Nat} {e : QE} : ev C (.said ti k e) σ S = C.said k (σ.map fun o => o.getD .non) (fun S => ev C e σ S) S := by rw [ev]
theorem ev_hc_s {k : Nat} {es : QEs} : ev C (.hc k es) σ S = (evs C es σ S).bind fun xs S => ofO (C.hot k xs S) S := by rw [ev]
theorem ev_thk_s {cap : List D} (h : σ[0]? = some (some (.exn 99 cap))) : ev C .thk σ S = C.thk S := by
  rw [ev, h]
  rfl
def tryQ (C : CallT) (hs : QHs) : Flow → Flow
  | .exc x σ S => exh C hs x σ S
  | r => r
theorem ex_try_s {b : List QS} {hs : QHs} : ex C (.try_ b hs) σ S = tryQ C hs (exs C b σ S) := by
  rw [ex]
  cases exs C b σ S <;> rfl
theorem ex_raise_s {k : Nat} {es : QEs} : ex C (.raise k es) σ S = (evs C es σ S).go σ fun xs S => if xs.length = (nmX k).length ∧ k < 16 then .exc ⟨k, xs⟩ σ S else .bad := by rw [ex]
theorem seq_exc {x : Ex} {f : Env → Store → Flow} : (Flow.exc x σ S).seq f = .exc x σ S := rfl
theorem end_exc {keep : Bool} {n : Nat} {x : Ex} : endFlow keep n (.exc x σ S) = if loL n x.fs = true then .exc x (S.take n) else .bad := rfl
theorem bind_exc {α β : Type} {x : Ex} {f : α → Store → Out β} : (Out.exc x S : Out α).bind f = .exc x S := rfl
theorem go_exc {α : Type} {x : Ex} {f : α → Store → Flow} : (Out.exc x S : Out α).go σ f = .exc x σ S := rfl
end
def wordK (k : Nat) : Str := (["script", "fields", "step", "record", "number", "stops", "effect", "marks", "match", "place", "text", "ended", "done", "safe", "limit"] : List Str).getD (k - 1) "other"
theorem kind_spec {tab : List QFn} {ν : Nat → Nat} [Hx tab ν 173 (q_law_kind ν)] {n : Nat} {S : Store} {fs : List D} {k : Nat} (h1 : 1 ≤ k) (h2 : k < 16) (hn : 1 ≤ n := by omega) : (callF tab n).hot (ν 173) [.exn k fs] S = some (.str (wordK k)) := by
  obtain ⟨n, rfl⟩ := up1 hn
  rw [hot_h (q := q_law_kind ν) rfl rfl rfl]
  have : k = 1 ∨ k = 2 ∨ k = 3 ∨ k = 4 ∨ k = 5 ∨ k = 6 ∨ k = 7 ∨ k = 8 ∨ k = 9 ∨ k = 10 ∨ k = 11 ∨ k = 12 ∨ k = 13 ∨ k = 14 ∨ k = 15 := by omega
  rcases this with rfl | rfl | rfl | rfl | rfl | rfl | rfl | rfl | rfl | rfl | rfl | rfl | rfl | rfl | rfl <;> kernel_rfl
section
variable {C : CallT} {σ : Env} {S : Store}
theorem tryQ_rt {hs : QHs} {d : D} : tryQ C hs (.rt d S) = .rt d S := rfl
theorem tryQ_exc {hs : QHs} {x : Ex} : tryQ C hs (.exc x σ S) = exh C hs x σ S := rfl
def sutQ (S : Store) : Flow → Flow
  | .rt d _ => if d.noX = true then .rt d S else .bad
  | _ => .bad
theorem exh_hit {c i : Nat} {b : List QS} {hs : QHs} {x : Ex} (h : subX x.cls c = true) : exh C (.cons c i b hs) x σ S = sutQ S (exs C b (if i < 1000 then (σ.map clrX).set i (some (.exn x.cls x.fs)) else σ.map clrX) S) := by
  rw [exh, if_pos h]
  cases exs C b (if i < 1000 then (σ.map clrX).set i (some (.exn x.cls x.fs)) else σ.map clrX) S <;> rfl
theorem sutQ_str {t : Str} {S' : Store} : sutQ S (.rt (.str t) S') = .rt (.str t) S := rfl
theorem endSaid_str {keep : Bool} {t : Str} : endSaid keep S.length (.rt (.str t) S) = .ok (.str t) S := by
  show (if (D.str t).noX = true then fin keep S.length (.str t) S else .bad) = _
  rw [if_pos (show (D.str t).noX = true by rw [D.noX])]
  exact fin_lo rfl (Nat.le_refl _)
theorem ev_fldv {i k : Nat} {l : List D} {f : Str} {d : D} (h : σ[i]? = some (some (.exn k l))) (e : fldD (nmX k) l f = some d) : ev C (.fld (.var i) f) σ S = .ok d S := by
  rw [ev, ev, h]
  show ofO (fldD (nmX k) l f) S = _
  rw [e]
  rfl
theorem biD_rp {d : D} (h : reprOk (thaw S d) = true) : biD .repr [d] S = some (.str (thaw S d).toPy.shown) := by
  show (if reprOk (thaw S d) = true then some (D.str (thaw S d).toPy.shown) else none) = _
  rw [if_pos h]
theorem binD_adds {a b : Str} (h : a.length + b.length ≤ sizeLine) : binD .add (.str a) (.str b) = some (.str (a ++ b)) := if_pos h
end
theorem said_ret {tab : List QFn} {ν : Nat → Nat} [Hx tab ν 173 (q_law_kind ν)] [Hx tab ν 174 (q_law_said ν)] {n : Nat} {cap : List D} {th : Store → Out D} {S : Store} {d : D} (h : th S = .ok d S) (hr : reprOk (thaw S d) = true) (hn : 1 ≤ n := by omega) : (callF tab n).said (ν 174) cap th S = .ok (.str (thaw S d).toPy.shown) S := by
  obtain ⟨n, rfl⟩ := up1 hn
  rw [said_h (q := q_law_said ν) rfl rfl rfl]
  simp only [q_law_said]
  rw [exs_cons, ex_try_s]
  have e : exs { callF tab n with thk := th } [.ret (.bi .repr (.cons .thk .nil))] [some (.exn 99 cap), none] S = .rt (.str (thaw S d).toPy.shown) S := by
    rw [exs_cons]
    simp only [rs, Nat.reduceAdd, Nat.reduceSub, Int.cast_ofNat_Int, Int.reduceBEq, Int.reduceLT, Int.reduceLE, Int.reduceAdd, Int.reduceSub, ev_thk_s (σ := [some (D.exn 99 cap), none]) (cap := cap) rfl, h, biD_rp hr]
  simp only [rs, Nat.reduceAdd, Nat.reduceSub, Int.cast_ofNat_Int, Int.reduceBEq, Int.reduceLT, Int.reduceLE, Int.reduceAdd, Int.reduceSub]
  rw [e, tryQ_rt, seq_rt, endSaid_str]
theorem said_14 {tab : List QFn} {ν : Nat → Nat} [Hx tab ν 173 (q_law_kind ν)] [Hx tab ν 174 (q_law_said ν)] {n : Nat} {cap : List D} {th : Store → Out D} {S : Store} {j : Nat} (h : th S = .exc ⟨14, [.int (j : Int)]⟩ S) (hj : j < 5) (hn : 2 ≤ n := by omega) : (callF tab n).said (ν 174) cap th S = .ok (.str ("! safe " ++ (PyData.int (j : Int)).shown)) S := by
  obtain ⟨n, rfl⟩ := up1 (by omega : 1 ≤ n)
  rw [said_h (q := q_law_said ν) rfl rfl rfl]
  simp only [q_law_said]
  rw [exs_cons, ex_try_s]
  have e : exs { callF tab n with thk := th } [.ret (.bi .repr (.cons .thk .nil))] [some (.exn 99 cap), none] S = .exc ⟨14, [.int (j : Int)]⟩ [some (.exn 99 cap), none] S := by
    rw [exs_cons]
    simp only [rs, Nat.reduceAdd, Nat.reduceSub, Int.cast_ofNat_Int, Int.reduceBEq, Int.reduceLT, Int.reduceLE, Int.reduceAdd, Int.reduceSub, ev_thk_s (σ := [some (D.exn 99 cap), none]) (cap := cap) rfl, h, bind_exc, go_exc, seq_exc]
  simp only [rs, Nat.reduceAdd, Nat.reduceSub, Int.cast_ofNat_Int, Int.reduceBEq, Int.reduceLT, Int.reduceLE, Int.reduceAdd, Int.reduceSub]
  rw [e, tryQ_exc, exh_hit rfl]
  have k := kind_spec (tab := tab) (ν := ν) (n := n) (S := S) (fs := [.int (j : Int)]) (k := 14) (by decide) (by decide) (by omega)
  have r : reprOk (.int (j : Int)) = true := (tm_nat (by omega)).rp'
  have hl : (PyData.int (j : Int)).shown.length ≤ 1 := by
    have : j = 0 ∨ j = 1 ∨ j = 2 ∨ j = 3 ∨ j = 4 := by omega
    rcases this with rfl | rfl | rfl | rfl | rfl <;> decide +kernel
  rw [show (if 1 < 1000 then (([some (D.exn 99 cap), none] : Env).map clrX).set 1 (some (.exn 14 [.int (j : Int)])) else ([some (D.exn 99 cap), none] : Env).map clrX) = [none, some (.exn 14 [.int (j : Int)])] from rfl]
  rw [exs_cons]
  simp only [rs, Nat.reduceAdd, Nat.reduceSub, Int.cast_ofNat_Int, Int.reduceBEq, Int.reduceLT, Int.reduceLE, Int.reduceAdd, Int.reduceSub, ev_hc_s, k, ev_fldv (σ := [none, some (D.exn 14 [.int (j : Int)])]) (i := 1) (k := 14) (l := [.int (j : Int)]) (f := "field") rfl rfl, r]
  rw [binD_adds (a := "! ") (b := wordK 14) (by decide +kernel), ofO_some, bind_ok, show (("! " : Str) ++ wordK 14) = ("! safe" : Str) by decide +kernel, binD_adds (a := "! safe") (b := " ") (by decide +kernel), ofO_some, bind_ok, show (("! safe" : Str) ++ (" " : Str)) = ("! safe " : Str) by decide +kernel]
  rw [show (D.int (j : Int)).toPy = PyData.int (j : Int) from by rw [D.toPy], binD_adds (a := "! safe ") (by
    have : ("! safe " : Str).length = 7 := by decide +kernel
    rw [this, sizeLine_eq]
    omega), ofO_some, go_ok, seq_rt, sutQ_str, seq_rt, endSaid_str]

theorem take_all {S : Store} : S.take S.length = S := List.take_length
theorem need_safe2_ok {tab : List QFn} {ν : Nat → Nat} [Hx tab ν 0 (q_is_between ν)] [Hx tab ν 33 (q_matters_in ν)] [Hx tab ν 40 (q_is_part ν)] [Hx tab ν 41 (q_is_effect ν)] [Hx tab ν 44 (q_need_effect ν)] [Hx tab ν 55 (q_is_unchanged ν)] [Hx tab ν 95 (q_clash_of ν)] [Hx tab ν 171 (q_need_safe_2 ν)] {n f : Nat} {S : Store} {e : List Part} (h : OkE f e) (h1 : 1 ≤ f) (hf : f ≤ 5) (hc : clashO e = none) (hn : 5 ≤ n := by omega) : callF tab n (ν 171) [effD e] S = .ok .non S := by
  obtain ⟨n, rfl⟩ := up1 hn
  rw [callF_h (q := q_need_safe_2 ν) rfl rfl]
  simp only [q_need_safe_2]
  have e2 := clash_of_spec (tab := tab) (ν := ν) (n := n) (S := S) h hf
  rw [hc] at e2
  (rw [exs_cons]; simp only [rs, Nat.reduceAdd, Nat.reduceSub, Int.cast_ofNat_Int, Int.reduceBEq, Int.reduceLT, Int.reduceLE, Int.reduceAdd, Int.reduceSub, need_effect_spec (tab := tab) (ν := ν) (n := n) (S := S) h h1 hf])
  (rw [exs_cons]; simp only [rs, Nat.reduceAdd, Nat.reduceSub, Int.cast_ofNat_Int, Int.reduceBEq, Int.reduceLT, Int.reduceLE, Int.reduceAdd, Int.reduceSub, e2, stopN])
  (rw [exs_cons]; simp only [rs, Nat.reduceAdd, Nat.reduceSub, Int.cast_ofNat_Int, Int.reduceBEq, Int.reduceLT, Int.reduceLE, Int.reduceAdd, Int.reduceSub, show cmpD .isn .non .non S = some false from rfl])
theorem need_safe2_x {tab : List QFn} {ν : Nat → Nat} [Hx tab ν 0 (q_is_between ν)] [Hx tab ν 33 (q_matters_in ν)] [Hx tab ν 40 (q_is_part ν)] [Hx tab ν 41 (q_is_effect ν)] [Hx tab ν 44 (q_need_effect ν)] [Hx tab ν 55 (q_is_unchanged ν)] [Hx tab ν 95 (q_clash_of ν)] [Hx tab ν 171 (q_need_safe_2 ν)] {n f j : Nat} {S : Store} {e : List Part} (h : OkE f e) (h1 : 1 ≤ f) (hf : f ≤ 5) (hc : clashO e = some j) (hn : 5 ≤ n := by omega) : callF tab n (ν 171) [effD e] S = .exc ⟨14, [.int (j : Int)]⟩ S := by
  obtain ⟨n, rfl⟩ := up1 hn
  rw [callF_h (q := q_need_safe_2 ν) rfl rfl]
  simp only [q_need_safe_2]
  have e2 := clash_of_spec (tab := tab) (ν := ν) (n := n) (S := S) h hf
  rw [hc] at e2
  (rw [exs_cons]; simp only [rs, Nat.reduceAdd, Nat.reduceSub, Int.cast_ofNat_Int, Int.reduceBEq, Int.reduceLT, Int.reduceLE, Int.reduceAdd, Int.reduceSub, need_effect_spec (tab := tab) (ν := ν) (n := n) (S := S) h h1 hf])
  (rw [exs_cons]; simp only [rs, Nat.reduceAdd, Nat.reduceSub, Int.cast_ofNat_Int, Int.reduceBEq, Int.reduceLT, Int.reduceLE, Int.reduceAdd, Int.reduceSub, e2, stopN])
  (rw [exs_cons]; simp only [rs, Nat.reduceAdd, Nat.reduceSub, Int.cast_ofNat_Int, Int.reduceBEq, Int.reduceLT, Int.reduceLE, Int.reduceAdd, Int.reduceSub, show cmpD .isn (.int (j : Int)) .non S = some true from rfl])
  (rw [exs_cons]; simp only [rs, Nat.reduceAdd, Nat.reduceSub, Int.cast_ofNat_Int, Int.reduceBEq, Int.reduceLT, Int.reduceLE, Int.reduceAdd, Int.reduceSub, ex_raise_s])
  rw [if_pos ⟨rfl, by decide⟩]
  simp only [rs, Nat.reduceAdd, Nat.reduceSub, Int.cast_ofNat_Int, Int.reduceBEq, Int.reduceLT, Int.reduceLE, Int.reduceAdd, Int.reduceSub, seq_exc, end_exc]
  rw [if_pos (by rw [loL, loL, D.lo]; rfl), take_all]
theorem shortest2_ok {tab : List QFn} {ν : Nat → Nat} [Hx tab ν 0 (q_is_between ν)] [Hx tab ν 33 (q_matters_in ν)] [Hx tab ν 40 (q_is_part ν)] [Hx tab ν 41 (q_is_effect ν)] [Hx tab ν 44 (q_need_effect ν)] [Hx tab ν 55 (q_is_unchanged ν)] [Hx tab ν 95 (q_clash_of ν)] [Hx tab ν 105 (q_shortest_of ν)] [Hx tab ν 171 (q_need_safe_2 ν)] [Hx tab ν 172 (q_shortest_2 ν)] {n f : Nat} {S : Store} {e : List Part} (h : OkE f e) (h1 : 1 ≤ f) (hf : f ≤ 5) (hc : clashO e = none) (hn : 6 ≤ n := by omega) : callF tab n (ν 172) [effD e] S = .ok (scrD f (shortS e)) S := by
  obtain ⟨n, rfl⟩ := up1 hn
  rw [callF_h (q := q_shortest_2 ν) rfl rfl]
  simp only [q_shortest_2]
  ((rw [exs_cons]; simp only [rs, Nat.reduceAdd, Nat.reduceSub, Int.cast_ofNat_Int, Int.reduceBEq, Int.reduceLT, Int.reduceLE, Int.reduceAdd, Int.reduceSub, need_safe2_ok (tab := tab) (ν := ν) (n := n) (S := S) h h1 hf hc, shortest_of_spec (tab := tab) (ν := ν) (n := n) (S := S) h hf]); repeat (rw [exs_cons]; simp only [rs, Nat.reduceAdd, Nat.reduceSub, Int.cast_ofNat_Int, Int.reduceBEq, Int.reduceLT, Int.reduceLE, Int.reduceAdd, Int.reduceSub, need_safe2_ok (tab := tab) (ν := ν) (n := n) (S := S) h h1 hf hc, shortest_of_spec (tab := tab) (ν := ν) (n := n) (S := S) h hf]))
  simp only [rs, Nat.reduceAdd, Nat.reduceSub, Int.cast_ofNat_Int, Int.reduceBEq, Int.reduceLT, Int.reduceLE, Int.reduceAdd, Int.reduceSub, fin0_lo lo_scr]
theorem shortest2_x {tab : List QFn} {ν : Nat → Nat} [Hx tab ν 0 (q_is_between ν)] [Hx tab ν 33 (q_matters_in ν)] [Hx tab ν 40 (q_is_part ν)] [Hx tab ν 41 (q_is_effect ν)] [Hx tab ν 44 (q_need_effect ν)] [Hx tab ν 55 (q_is_unchanged ν)] [Hx tab ν 95 (q_clash_of ν)] [Hx tab ν 105 (q_shortest_of ν)] [Hx tab ν 171 (q_need_safe_2 ν)] [Hx tab ν 172 (q_shortest_2 ν)] {n f j : Nat} {S : Store} {e : List Part} (h : OkE f e) (h1 : 1 ≤ f) (hf : f ≤ 5) (hc : clashO e = some j) (hn : 6 ≤ n := by omega) : callF tab n (ν 172) [effD e] S = .exc ⟨14, [.int (j : Int)]⟩ S := by
  obtain ⟨n, rfl⟩ := up1 hn
  rw [callF_h (q := q_shortest_2 ν) rfl rfl]
  simp only [q_shortest_2]
  (rw [exs_cons]; simp only [rs, Nat.reduceAdd, Nat.reduceSub, Int.cast_ofNat_Int, Int.reduceBEq, Int.reduceLT, Int.reduceLE, Int.reduceAdd, Int.reduceSub, need_safe2_x (tab := tab) (ν := ν) (n := n) (S := S) h h1 hf hc, go_exc, seq_exc, end_exc])
  rw [if_pos (by rw [loL, loL, D.lo]; rfl), take_all]

end Rs

namespace Rs
open PySem PySem.Spec PyProof.Rows L2
/-! ### texts of real signs -/
theorem sok_of {s : String} : PyData.strOk (Str.ofString s) = true := by
  rw [Str.ofString_eq_toList]
  unfold PyData.strOk
  rw [Array.all_eq_true']
  intro x hx
  have hx : x ∈ s.toList.map Char.toNat := by simpa using hx
  obtain ⟨c, _, rfl⟩ := List.mem_map.mp hx
  have := c.valid
  have : c.toNat < 0x110000 := by
    rcases this with h | ⟨_, h⟩
    · exact Nat.lt_trans h (by decide)
    · exact h
  exact decide_eq_true this
theorem sok_app {a b : Str} (h : PyData.strOk a = true) (k : PyData.strOk b = true) : PyData.strOk (a ++ b) = true := by
  unfold PyData.strOk at h k ⊢
  show (a.cps ++ b.cps).all _ = true
  rw [Array.all_append, h, k]
  rfl
theorem sok_join : ∀ {ts : List Str}, (∀ t ∈ ts, PyData.strOk t = true) → PyData.strOk (Str.join ", " ts) = true
  | [], _ => by decide +kernel
  | [x], h => h x List.mem_cons_self
  | x :: y :: r, h => by
    show PyData.strOk (x ++ ((", " : String) : Str) ++ Str.join ", " (y :: r)) = true
    exact sok_app (sok_app (h x List.mem_cons_self) sok_of) (sok_join fun t ht => h t (List.mem_cons_of_mem _ ht))
theorem sok_tuple {ts : List Str} (h : ∀ t ∈ ts, PyData.strOk t = true) : PyData.strOk (tupleText ts) = true := by
  unfold tupleText
  refine sok_app (sok_app sok_of (sok_join h)) ?_
  split <;> exact sok_of
theorem sok_int {i : Int} : PyData.strOk (PyData.int i).shown = true := by
  rw [PyData.shown]
  exact sok_of
theorem sok_stp {s : Stp} : PyData.strOk s.d.toPy.shown = true := by
  cases s <;>
    (simp only [Stp.d, D.toPy, toPyL, PyData.shown, PyData.shownAll]
     refine sok_tuple fun t ht => ?_
     simp only [List.mem_cons, List.not_mem_nil, or_false] at ht
     rcases ht with rfl | rfl | rfl
     · decide +kernel
     · exact sok_of
     · exact sok_of)
theorem sok_all : ∀ {ss : List Stp} {t : Str}, t ∈ PyData.shownAll (toPyL (ss.map Stp.d)) → PyData.strOk t = true
  | [], t, h => by simp [toPyL, PyData.shownAll] at h
  | s :: ss, t, h => by
    rw [List.map_cons, toPyL, PyData.shownAll] at h
    rcases List.mem_cons.mp h with rfl | h
    · exact sok_stp
    · exact sok_all h
theorem sok_scr {f : Nat} {ss : List Stp} : PyData.strOk (scrD f ss).toPy.shown = true := by
  simp only [scrD, stpsD, D.toPy, toPyL, PyData.shown, PyData.shownAll]
  refine sok_tuple fun t ht => ?_
  simp only [List.mem_cons, List.not_mem_nil, or_false] at ht
  rcases ht with rfl | rfl
  · exact sok_of
  · exact sok_tuple fun t ht => sok_all ht
def dueW (f : Nat) (e : List Part) : Str := match clashO e with
  | some j => "! safe " ++ (PyData.int (j : Int)).shown
  | none => (scrD f (shortS e)).toPy.shown
theorem due_spec {tab : List QFn} {ν : Nat → Nat} [Hx tab ν 103 (q_law_clash ν)] [Hx tab ν 175 (q_law_due_2 ν)] {n f : Nat} {S : Store} {e : List Part} (h : OkE f e) (h1 : 1 ≤ f) (hf : f ≤ 5) (hn : 2 ≤ n := by omega) : callF tab n (ν 175) [effD e] S = .ok (.str (dueW f e)) S := by
  obtain ⟨n, rfl⟩ := up1 hn
  rw [callF_h (q := q_law_due_2 ν) rfl rfl]
  simp only [q_law_due_2]
  have hlen := h.len
  have cl := law_clash_spec (tab := tab) (ν := ν) (n := n) (S := S) h hf
  cases hc : clashO e with
  | some j =>
    rw [hc] at cl
    have hj : j < f := matOf_lt h j (List.mem_of_find?_eq_some hc)
    have hl : (PyData.int (j : Int)).shown.length ≤ 1 := by
      have : j = 0 ∨ j = 1 ∨ j = 2 ∨ j = 3 ∨ j = 4 := by omega
      rcases this with rfl | rfl | rfl | rfl | rfl <;> decide +kernel
    have r : reprOk (.int (j : Int)) = true := (tm_nat (by omega)).rp'
    (rw [exs_cons]; simp only [rs, Nat.reduceAdd, Nat.reduceSub, Int.cast_ofNat_Int, Int.reduceBEq, Int.reduceLT, Int.reduceLE, Int.reduceAdd, Int.reduceSub, cl, stopN, show cmpD .isn (.int (j : Int)) .non S = some true from rfl])
    (rw [exs_cons]; simp only [rs, Nat.reduceAdd, Nat.reduceSub, Int.cast_ofNat_Int, Int.reduceBEq, Int.reduceLT, Int.reduceLE, Int.reduceAdd, Int.reduceSub, cl, stopN, biD_rp (d := .int (j : Int)) (S := S) r])
    rw [show (thaw S (D.int (j : Int))).toPy = PyData.int (j : Int) from by simp [thaw, D.toPy], binD_adds (a := "! safe ") (by
      have : ("! safe " : Str).length = 7 := by decide +kernel
      rw [this, sizeLine_eq]
      omega)]
    simp only [rs, Nat.reduceAdd, Nat.reduceSub, Int.cast_ofNat_Int, Int.reduceBEq, Int.reduceLT, Int.reduceLE, Int.reduceAdd, Int.reduceSub, fin0_lo (d := .str ("! safe " ++ (PyData.int (j : Int)).shown)) rfl]
    rw [dueW, hc]
  | none =>
    rw [hc] at cl
    (rw [exs_cons]; simp only [rs, Nat.reduceAdd, Nat.reduceSub, Int.cast_ofNat_Int, Int.reduceBEq, Int.reduceLT, Int.reduceLE, Int.reduceAdd, Int.reduceSub, cl, stopN])
    have ni : cmpD .isn .non .non S = some false := rfl
    simp only [rs, Nat.reduceAdd, Nat.reduceSub, Int.cast_ofNat_Int, Int.reduceBEq, Int.reduceLT, Int.reduceLE, Int.reduceAdd, Int.reduceSub, ni]
    (rw [exs_cons]; simp only [rs, Nat.reduceAdd, Nat.reduceSub, Int.cast_ofNat_Int, Int.reduceBEq, Int.reduceLT, Int.reduceLE, Int.reduceAdd, Int.reduceSub, show 0 ≤ sizeLine by decide])
    (rw [exs_cons]; simp only [rs, Nat.reduceAdd, Nat.reduceSub, Int.cast_ofNat_Int, Int.reduceBEq, Int.reduceLT, Int.reduceLE, Int.reduceAdd, Int.reduceSub, effD, enmT0])
    rw [show D.tup (e.map Part.d) = effD e from rfl]
    generalize hc2 : forL _ _ _ _ _ _ = o
    refine for_I hc2 (fun _ : List Stp => [some (effD e), some (.obj S.length), none, none]) (fun a => S ++ [.lst (a.map Stp.d)]) (fun i a => a.length ≤ i) (fun a p => if p.1 = .fld p.2 then a else a ++ [stepOf p.1 p.2]) [] rfl rfl (Nat.le_refl _) (fun i a p hi ha hp => ?_) fun _ q => ?_
    · rw [List.length_zipIdx] at hi
      obtain ⟨p, j⟩ := p
      have hpj : e[j]? = some p := by
        have := List.mem_zipIdx_iff_getElem?.mp hp
        simpa using this
      have hj : j < f := by
        rw [← hlen]
        exact (List.getElem?_eq_some_iff.mp hpj).1
      have lo3 : (stepOf p j).d.lo 0 = true := lo_stp
      have app := mthQ_app (S := S) (l := a.map Stp.d) (x := (stepOf p j).d) lo3 (by rw [List.length_map]; omega)
      have tw : ∀ (x y : D) (b : List QS), turnF (callF tab n) (.tp [.nm 2, .nm 3]) b (.tup [x, y]) [some (effD e), some (.obj S.length), none, none] (S ++ [.lst (a.map Stp.d)]) = exs (callF tab n) b [some (effD e), some (.obj S.length), some x, some y] (S ++ [.lst (a.map Stp.d)]) := fun x y b => rfl
      dsimp only
      rw [tw]
      cases p with
      | val v =>
        rw [if_neg (by simp)]
        have app : mthQ .append (.obj S.length) (.ok [.tup [.str "write", .int v, .int j]] (S ++ [.lst (a.map Stp.d)])) = _ := app
        refine ⟨by rw [List.length_append]; show a.length + 1 ≤ _; omega, by simp, ?_⟩
        (rw [exs_cons]; simp only [rs, Nat.reduceAdd, Nat.reduceSub, Int.cast_ofNat_Int, Int.reduceBEq, Int.reduceLT, Int.reduceLE, Int.reduceAdd, Int.reduceSub, Part.d, decide_true])
        (rw [exs_cons]; simp only [rs, Nat.reduceAdd, Nat.reduceSub, Int.cast_ofNat_Int, Int.reduceBEq, Int.reduceLT, Int.reduceLE, Int.reduceAdd, Int.reduceSub, mtOk_new (m := .append) (.inl rfl), show 3 ≤ sizeLine by decide, app])
        simp [List.map_append]
      | fld k =>
        have nv : decide (("field" : Str) = ("value" : Str)) = false := by decide +kernel
        by_cases hk : k = j
        · subst hk
          rw [if_pos rfl]
          refine ⟨by omega, by simp, ?_⟩
          (rw [exs_cons]; simp only [rs, Nat.reduceAdd, Nat.reduceSub, Int.cast_ofNat_Int, Int.reduceBEq, Int.reduceLT, Int.reduceLE, Int.reduceAdd, Int.reduceSub, Part.d, nv])
          (rw [exs_cons]; simp only [rs, Nat.reduceAdd, Nat.reduceSub, Int.cast_ofNat_Int, Int.reduceBEq, Int.reduceLT, Int.reduceLE, Int.reduceAdd, Int.reduceSub, beq_self_eq_true, Bool.not_true])
        · rw [if_neg (by simp [hk])]
          have app : mthQ .append (.obj S.length) (.ok [.tup [.str "copy", .int k, .int j]] (S ++ [.lst (a.map Stp.d)])) = _ := app
          have nb : ((k : Int) == (j : Int)) = false := by
            rw [beq_eq_false_iff_ne]
            omega
          refine ⟨by rw [List.length_append]; show a.length + 1 ≤ _; omega, by simp, ?_⟩
          (rw [exs_cons]; simp only [rs, Nat.reduceAdd, Nat.reduceSub, Int.cast_ofNat_Int, Int.reduceBEq, Int.reduceLT, Int.reduceLE, Int.reduceAdd, Int.reduceSub, Part.d, nv])
          (rw [exs_cons]; simp only [rs, Nat.reduceAdd, Nat.reduceSub, Int.cast_ofNat_Int, Int.reduceBEq, Int.reduceLT, Int.reduceLE, Int.reduceAdd, Int.reduceSub, nb, Bool.not_false])
          (rw [exs_cons]; simp only [rs, Nat.reduceAdd, Nat.reduceSub, Int.cast_ofNat_Int, Int.reduceBEq, Int.reduceLT, Int.reduceLE, Int.reduceAdd, Int.reduceSub, mtOk_new (m := .append) (.inl rfl), show 3 ≤ sizeLine by decide, app])
          simp [List.map_append]
    · subst q
      have fe : e.zipIdx.foldl (fun a p => if p.1 = .fld p.2 then a else a ++ [stepOf p.1 p.2]) [] = shortS e := by
        have := short_fold (l := e) (lo := 0) (a := [])
        rw [this, List.nil_append, ← List.range_eq_range']
        rfl
      rw [fe]
      simp only [rs, Nat.reduceAdd, Nat.reduceSub, Int.cast_ofNat_Int, Int.reduceBEq, Int.reduceLT, Int.reduceLE, Int.reduceAdd, Int.reduceSub]
      have rs2 : reprOk (.tup [.int (f : Int), .tup ((shortS e).map Stp.d)]) = true := (tm_scr (short_ok h h1 hf)).rp'
      (rw [exs_cons]; simp only [rs, Nat.reduceAdd, Nat.reduceSub, Int.cast_ofNat_Int, Int.reduceBEq, Int.reduceLT, Int.reduceLE, Int.reduceAdd, Int.reduceSub, show itemsD (S ++ [.lst ((shortS e).map Stp.d)]) (effD e) = some (e.map Part.d) from rfl, List.length_map, hlen, items_new, show 2 ≤ sizeLine by decide, biD_rp (S := S ++ [.lst ((shortS e).map Stp.d)]) (d := .tup [.int (f : Int), .tup ((shortS e).map Stp.d)]) rs2])
      rw [show thaw (S ++ [.lst ((shortS e).map Stp.d)]) (.tup [.int (f : Int), .tup ((shortS e).map Stp.d)]) = .tup [.int (f : Int), .tup ((shortS e).map Stp.d)] from rfl]
      rw [fin_new (by rw [D.lo]), dueW, hc]
      rfl
theorem law_k26_spec {tab : List QFn} {ν : Nat → Nat} [Hx tab ν 0 (q_is_between ν)] [Hx tab ν 33 (q_matters_in ν)] [Hx tab ν 40 (q_is_part ν)] [Hx tab ν 41 (q_is_effect ν)] [Hx tab ν 44 (q_need_effect ν)] [Hx tab ν 55 (q_is_unchanged ν)] [Hx tab ν 95 (q_clash_of ν)] [Hx tab ν 97 (q_law_cell ν)] [Hx tab ν 98 (q_law_source ν)] [Hx tab ν 99 (q_law_draw_2 ν)] [Hx tab ν 100 (q_law_choose ν)] [Hx tab ν 102 (q_law_effect_2 ν)] [Hx tab ν 103 (q_law_clash ν)] [Hx tab ν 105 (q_shortest_of ν)] [Hx tab ν 171 (q_need_safe_2 ν)] [Hx tab ν 172 (q_shortest_2 ν)] [Hx tab ν 173 (q_law_kind ν)] [Hx tab ν 174 (q_law_said ν)] [Hx tab ν 175 (q_law_due_2 ν)] [Hx tab ν 176 (q_law_k26 ν)] {ns : List Int} (hl : ns.length ≤ 63) : ∃ S, callF tab 20 (ν 176) [.scr (ns.map .int)] [] = .ok (.bl true) S := by
  have hn : 20 ≤ 20 := Nat.le_refl _
  rw [callF_h (n := 19) (q := q_law_k26 ν) rfl rfl]
  simp only [q_law_k26]
  refine ⟨[], ?_⟩
  have main := law_main (tab := tab) (ν := ν) (n := 19) (gc := 97) (gp := 98) (m := 4) (N := 15) (ns := ns) (lap := [.set (.nm 4) (.call (ν 102) (.cons (.var 2) .nil)), .par [5, 6] (.cons (.bi .repr (.cons (.var 4) .nil)) (.cons (.call (ν 175) (.cons (.var 4) .nil)) .nil)), .ife (.or (.cmp .ne (.comp (.nm 7) (.rng1 (.con (.int 2))) .no (.said 0 (ν 174) (.call (ν 172) (.cons (.var 4) .nil)))) (.lst (.cons (.var 6) (.cons (.var 6) .nil)))) (.cmp .ne (.bi .repr (.cons (.var 4) .nil)) (.var 5))) [.ret (.con (.bl false))] []]) (w1 := [1, 2, 3]) (w2 := [3, 4, 5, 6]) (fun j P => Pen (j * 2000) P) (by decide) (fun S k => cell2_spec) (fun v => source_spec) (fun k j P hj hp => ?_) (fun a b c l => rfl)
  · simp only [rs, Nat.reduceAdd, Nat.reduceSub, Int.cast_ofNat_Int, Int.reduceBEq, Int.reduceLT, Int.reduceLE, Int.reduceAdd, Int.reduceSub] at main
    simp only [rs, Nat.reduceAdd, Nat.reduceSub, Int.cast_ofNat_Int, Int.reduceBEq, Int.reduceLT, Int.reduceLE, Int.reduceAdd, Int.reduceSub]
    rw [main]
    rfl
  · obtain ⟨f, e, P1, e1, ok, f1, f5, p1⟩ := effect2_spec (tab := tab) (ν := ν) (n := 19) (R := []) hp (by omega)
    have S2 : reprOk (effD e) = true := (tm_eff ok f5).rp'
    have sd : ∀ cap, (callF tab 19).said (ν 174) cap (fun S => callF tab 19 (ν 172) [effD e] S) [P1] = .ok (.str (dueW f e)) [P1] := fun cap => by
      cases hc : clashO e with
      | some j =>
        have hj := matOf_lt ok j (List.mem_of_find?_eq_some hc)
        rw [said_14 (tab := tab) (ν := ν) (n := 19) (th := fun S => callF tab 19 (ν 172) [effD e] S) (shortest2_x (tab := tab) (ν := ν) (n := 19) (S := [P1]) ok f1 f5 hc) (by omega), dueW, hc]
      | none =>
        rw [said_ret (tab := tab) (ν := ν) (n := 19) (th := fun S => callF tab 19 (ν 172) [effD e] S) (shortest2_ok (tab := tab) (ν := ν) (n := 19) (S := [P1]) ok f1 f5 hc) ((tm_scr (short_ok ok f1 f5)).rp'), dueW, hc]
        rfl
    refine ⟨P1, p1.mono (by omega), ?_⟩
    simp only [rs, Nat.reduceAdd, Nat.reduceSub, Int.cast_ofNat_Int, Int.reduceBEq, Int.reduceLT, Int.reduceLE, Int.reduceAdd, Int.reduceSub]
    (rw [exs_cons]; simp only [rs, Nat.reduceAdd, Nat.reduceSub, Int.cast_ofNat_Int, Int.reduceBEq, Int.reduceLT, Int.reduceLE, Int.reduceAdd, Int.reduceSub, e1])
    (rw [exs_cons]; simp only [rs, Nat.reduceAdd, Nat.reduceSub, Int.cast_ofNat_Int, Int.reduceBEq, Int.reduceLT, Int.reduceLE, Int.reduceAdd, Int.reduceSub, S2, due_spec (tab := tab) (ν := ν) (n := 19) (S := [P1]) ok f1 f5, setAll])
    (rw [exs_cons]; simp only [rs, Nat.reduceAdd, Nat.reduceSub, Int.cast_ofNat_Int, Int.reduceBEq, Int.reduceLT, Int.reduceLE, Int.reduceAdd, Int.reduceSub, show rng1Q (.int 2) [P1] = _ from rng1_nat (j := 2) (by decide)])
    generalize hc : compL _ _ _ = o
    have q := comp_T hc (fun _ => .str (dueW f e)) fun j _ => by
      simp only [rs, Nat.reduceAdd, Nat.reduceSub, Int.cast_ofNat_Int, Int.reduceBEq, Int.reduceLT, Int.reduceLE, Int.reduceAdd, Int.reduceSub, ev_said_s, sd]
    subst q
    have sok : PyData.strOk (dueW f e) = true := by
      unfold dueW
      cases clashO e with
      | some j => exact sok_app sok_of sok_int
      | none => exact sok_scr
    have ne : cmpD .ne (.lst [.str (dueW f e), .str (dueW f e)]) (.lst [.str (dueW f e), .str (dueW f e)]) [P1] = some false := by
      show (eqD (.lst [.str (dueW f e), .str (dueW f e)]) (.lst [.str (dueW f e), .str (dueW f e)])).map (!·) = _
      have fit : (D.lst [.str (dueW f e), .str (dueW f e)]).fit 60 = true := by
        simp [D.fit, fitL, sok]
      unfold eqD
      simp [fit, eqT, eqLT]
    simp only [rs, Nat.reduceAdd, Nat.reduceSub, Int.cast_ofNat_Int, Int.reduceBEq, Int.reduceLT, Int.reduceLE, Int.reduceAdd, Int.reduceSub, rpt2, show 2 < sizeLine by decide, show 2 ≤ sizeLine by decide, ne, S2, cmpD_neS, decide_true, Bool.not_true]
def nuL : List Nat := [0, 9999, 9999, 9999, 9999, 9999, 9999, 9999, 9999, 9999, 9999, 9999, 9999, 9999, 9999, 9999, 9999, 9999, 9999, 9999, 9999, 9999, 9999, 9999, 9999, 9999, 9999, 9999, 9999, 9999, 9999, 9999, 9999, 3, 9999, 9999, 9999, 9999, 9999, 9999, 1, 2, 9999, 9999, 5, 9999, 9999, 9999, 9999, 9999, 9999, 9999, 9999, 9999, 9999, 4, 9999, 9999, 9999, 9999, 9999, 9999, 9999, 9999, 9999, 9999, 9999, 9999, 9999, 9999, 9999, 9999, 9999, 9999, 9999, 9999, 9999, 9999, 9999, 9999, 9999, 9999, 9999, 9999, 9999, 9999, 9999, 9999, 9999, 9999, 9999, 9999, 9999, 9999, 9999, 6, 9999, 10, 11, 12, 13, 9999, 14, 15, 9999, 7, 9999, 9999, 9999, 9999, 9999, 9999, 9999, 9999, 9999, 9999, 9999, 9999, 9999, 9999, 9999, 9999, 9999, 9999, 9999, 9999, 9999, 9999, 9999, 9999, 9999, 9999, 9999, 9999, 9999, 9999, 9999, 9999, 9999, 9999, 9999, 9999, 9999, 9999, 9999, 9999, 9999, 9999, 9999, 9999, 9999, 9999, 9999, 9999, 9999, 9999, 9999, 9999, 9999, 9999, 9999, 9999, 9999, 9999, 9999, 9999, 9999, 9999, 9999, 9999, 9999, 8, 9, 16, 17, 18, 19]
def nu (g : Nat) : Nat := nuL.getD g 9999
def tab : List QFn := [{ q_is_between nu with name := "is_between", N := ["thing", "low", "high"], ti := none },
  { q_is_part nu with name := "is_part", N := ["fields", "thing"], ti := none },
  { q_is_effect nu with name := "is_effect", N := ["thing", "part"], ti := none },
  { q_matters_in nu with name := "matters_in", N := ["parts", "word", "number"], ti := none },
  { q_is_unchanged nu with name := "is_unchanged", N := ["parts", "field"], ti := none },
  { q_need_effect nu with name := "need_effect", N := ["thing"], ti := none },
  { q_clash_of nu with name := "clash_of", N := ["parts", "field"], ti := none },
  { q_shortest_of nu with name := "shortest_of", N := ["parts", "steps", "field", "word", "number"], ti := none },
  { q_need_safe_2 nu with name := "need_safe", N := ["parts", "field"], ti := none },
  { q_shortest_2 nu with name := "shortest", N := ["parts"], ti := none },
  { q_law_cell nu with name := "_law_cell", N := ["_law_script", "_law_index"], ti := none },
  { q_law_source nu with name := "_law_source", N := ["_law_cell_here"], ti := none },
  { q_law_draw_2 nu with name := "_law_draw", N := ["_law_supply", "_law_many", "_law_mixed", "_law_found"], ti := none },
  { q_law_choose nu with name := "_law_choose", N := ["_law_supply", "_law_values"], ti := none },
  { q_law_effect_2 nu with name := "_law_effect", N := ["_law_supply", "_law_kept", "_law_found", "_law_field", "_law_fields", "_law_way", "_law_part"], ti := none },
  { q_law_clash nu with name := "_law_clash", N := ["_law_parts", "_law_field", "_law_part"], ti := none },
  { q_law_kind nu with name := "_law_kind", N := ["_law_e", "_law_marks", "_law_words"], ti := none },
  { q_law_said nu with name := "_law_said", N := ["_law_call", "_law_e"], ti := none },
  { q_law_due_2 nu with name := "_law_due", N := ["_law_parts", "_law_steps", "_law_field", "_law_part"], ti := none },
  { q_law_k26 nu with name := "law", N := ["_law_script", "_law_k", "_law_supply", "_law_lap", "_law_parts", "_law_kept", "_law_due_here", "_law_turn"], ti := some 0 }]
def ixs : List Nat := [22, 25, 26, 27, 28, 29, 31, 32, 33, 34, 36, 37, 38, 39, 40, 41, 42, 43, 44, 45]
def con : List (Str × D) := [("MOST_FIELDS", .int (5)), ("MOST_VALUE", .int (9)), ("COPY", .str "copy"), ("WRITE", .str "write"), ("FIELD", .str "field")]
def loose0 : List Str := ["RestartError", "ScriptError", "FieldsError", "StepError", "RecordError", "NumberError", "StopsError", "EffectError", "MarksError", "MatchError", "PlaceError", "TextError", "Ended", "NothingDone", "NotSafe", "LimitError", "MOST_FIELDS", "MOST_VALUE", "COPY", "WRITE"]
def loose1 : List Str := ["is_between", "FIELD", "is_part", "is_effect", "matters_in", "is_unchanged", "need_effect", "clash_of", "shortest_of", "need_safe", "shortest", "_law_cell", "_law_source", "_law_draw", "_law_choose", "_law_effect", "_law_clash", "_law_kind", "_law_said", "_law_due"]
def loose : List Str := loose0 ++ loose1
instance : Hx tab nu 0 (q_is_between nu) := ⟨_, rfl, rfl, rfl, rfl, rfl, rfl⟩
instance : Hx tab nu 40 (q_is_part nu) := ⟨_, rfl, rfl, rfl, rfl, rfl, rfl⟩
instance : Hx tab nu 41 (q_is_effect nu) := ⟨_, rfl, rfl, rfl, rfl, rfl, rfl⟩
instance : Hx tab nu 33 (q_matters_in nu) := ⟨_, rfl, rfl, rfl, rfl, rfl, rfl⟩
instance : Hx tab nu 55 (q_is_unchanged nu) := ⟨_, rfl, rfl, rfl, rfl, rfl, rfl⟩
instance : Hx tab nu 44 (q_need_effect nu) := ⟨_, rfl, rfl, rfl, rfl, rfl, rfl⟩
instance : Hx tab nu 95 (q_clash_of nu) := ⟨_, rfl, rfl, rfl, rfl, rfl, rfl⟩
instance : Hx tab nu 105 (q_shortest_of nu) := ⟨_, rfl, rfl, rfl, rfl, rfl, rfl⟩
instance : Hx tab nu 171 (q_need_safe_2 nu) := ⟨_, rfl, rfl, rfl, rfl, rfl, rfl⟩
instance : Hx tab nu 172 (q_shortest_2 nu) := ⟨_, rfl, rfl, rfl, rfl, rfl, rfl⟩
instance : Hx tab nu 97 (q_law_cell nu) := ⟨_, rfl, rfl, rfl, rfl, rfl, rfl⟩
instance : Hx tab nu 98 (q_law_source nu) := ⟨_, rfl, rfl, rfl, rfl, rfl, rfl⟩
instance : Hx tab nu 99 (q_law_draw_2 nu) := ⟨_, rfl, rfl, rfl, rfl, rfl, rfl⟩
instance : Hx tab nu 100 (q_law_choose nu) := ⟨_, rfl, rfl, rfl, rfl, rfl, rfl⟩
instance : Hx tab nu 102 (q_law_effect_2 nu) := ⟨_, rfl, rfl, rfl, rfl, rfl, rfl⟩
instance : Hx tab nu 103 (q_law_clash nu) := ⟨_, rfl, rfl, rfl, rfl, rfl, rfl⟩
instance : Hx tab nu 173 (q_law_kind nu) := ⟨_, rfl, rfl, rfl, rfl, rfl, rfl⟩
instance : Hx tab nu 174 (q_law_said nu) := ⟨_, rfl, rfl, rfl, rfl, rfl, rfl⟩
instance : Hx tab nu 175 (q_law_due_2 nu) := ⟨_, rfl, rfl, rfl, rfl, rfl, rfl⟩
instance : Hx tab nu 176 (q_law_k26 nu) := ⟨_, rfl, rfl, rfl, rfl, rfl, rfl⟩
abbrev ORow : PySem.W.OpenRow := PySem.W.OpenLaw.row PySem.Challenge.rw_restartable_k26_shortest_scripts_made
abbrev hk : PySem.W.Hook := hookS 4 (faOf tab con true [7]) (fnD PySem.Challenge.rw_restartable_k26_shortest_scripts_made.prog tab ixs) (tfOf tab) (exB true [7] PySem.Challenge.rw_restartable_k26_shortest_scripts_made.prog.main.file (tfOf tab))
def ob (s : PySem.W.SharedT) : He.AlX := obsS 4 (faOf tab con true [7]) (fnD PySem.Challenge.rw_restartable_k26_shortest_scripts_made.prog tab ixs) (tfOf tab) (exB true [7] PySem.Challenge.rw_restartable_k26_shortest_scripts_made.prog.main.file (tfOf tab)) (HandSHeadRun.getT s)
theorem ob_eq (s : PySem.W.SharedT) : ob s = hk.obs s.abs := obsS_eq (HandSHeadRun.getT_eq s)
theorem headRun (w : World) : HandSHeadRun.RunEq ORow (PySem.W.view ORow.prog [45]) hk ob 12000 loose w := by
  intro os
  kernel_rfl
theorem chk : chkAll PySem.Challenge.rw_restartable_k26_shortest_scripts_made.prog tab con true [7] tab ixs = true := by
  kernel_rfl
theorem heval (ns : List Int) (h : ns.length ≤ 63) : ∃ S, callF tab 20 19 [.scr (ns.map .int)] [] = .ok (.bl true) S :=
  law_k26_spec (tab := tab) (ν := nu) h
end Rs
open PySem PySem.W PySem.Calls PyProof.Rows
theorem PySem.Challenge.cw_restartable_k26_shortest_scripts_made_holds : PySem.Challenge.rw_restartable_k26_shortest_scripts_made.Holds := by
  w_on; o_law
  refine HandSHeadRun.head_any (r := OpenLaw.row PySem.Challenge.rw_restartable_k26_shortest_scripts_made) (q := view (OpenLaw.row PySem.Challenge.rw_restartable_k26_shortest_scripts_made).prog [45]) (H := Rs.hk) (ob := Rs.ob) (loose := Rs.loose) (d := HandSHeadRun.topDef (OpenLaw.row PySem.Challenge.rw_restartable_k26_shortest_scripts_made).prog 45) (kwd := []) Rs.ob_eq
    (by kernel_rfl) (fun s => by kernel_rfl) Rs.headRun (by kernel_rfl) (by kernel_rfl) (by kernel_rfl) (by rfl) (by first | assumption | decide +kernel) (by decide +kernel) ⟨rfl, rfl, rfl, rfl, rfl, by decide +kernel⟩ ?hw ?hc
  case hw => w_witness2
  case hc =>
    exact Rs.law_end (l := PySem.Challenge.rw_restartable_k26_shortest_scripts_made) (m := 63) (n := 20) (kL := 19) (x := "_law_script") (qL := { Rs.q_law_k26 Rs.nu with name := "law", N := ["_law_script", "_law_k", "_law_supply", "_law_lap", "_law_parts", "_law_kept", "_law_due_here", "_law_turn"], ti := some 0 }) (iL := 45) rfl (by decide) (by kernel_rfl) ⟨rfl, by decide, by decide⟩ Rs.chk (by decide +kernel) (by decide +kernel) (by kernel_rfl) rfl rfl rfl (by kernel_rfl) Rs.heval
