import PyProof.Rows.All
import PySem.Challenge.RW_algebrastack_k01_whole_numbers_and_fract
import Wide.All
import OpenK.AllK
import Wide.FinOn
import HandS.ForMost
import HandS.ForExc
import HandS.Lambda
import HandS.EndTab
import HandS.Conv
import HandS.Deep
import HandS.Wide
import HandS.TupAny
import HandS.TupMul
import HandS.Flow
import HandS.WideMore
import HandS.Style
import HandS.Iter
import HandS.Zip
import KE.GoesEnum
import KE.GoesMore
import KE.SortData
import KE.SortCalls
import HandS.HeadHook4
import HandS.HeadNt
import HandS.HeadWalk
import HandS.Head2
import HandS.Defaults
import PyProof.CollectWalk
import PyProof.ConsumeS
import PyProof.TupleOfGen
import HandS.AnyAll
import HandS.GenList
import HandS.Comp
import KE.KDictPairs
import HandS.Dict
import HandS.WordsDict
import HandS.FStr
import HandS.HeadHook2
import HandS.HeadEnd
import KE.KStateDown
set_option Elab.async false
set_option linter.all false
set_option maxRecDepth 100000
set_option maxHeartbeats 0
/-! Sv, part A: value trees, tags, the state relation, the sequencing of readings. -/
namespace Sv
open PySem PySem.Spec PyProof.Rows L2

/-- a value as a tree; obj r: the r-th object held by reference; gl x: what the module's name x holds -/
inductive T where
  | non | bl (b : Bool) | int (i : Int) | str (x : Str)
  | tup (ts : List T) | lst (ts : List T) | dct (ks vs : List T)
  | obj (r : Nat) | gl (x : Str) | lam (n : Nat) | scr (ns : List Int) | tupl (ts : List T)
/-- a key of a dict, as a tree -/
def kT : Key → T
  | .inl i => .int i
  | .inr x => .str x

/-- whom an address belongs to -/
inductive Tag where
  | free | frz | slot (i : Nat) | ob (r : Nat) | fld (r : Nat) (f : Str) | dx (r : Nat) | tb (q : Str)
  deriving DecidableEq
abbrev Tg := Addr → Tag
def tset (τ : Tg) (p : Addr) (g : Tag) : Tg := fun b => if b = p then g else τ b
theorem tset_same {τ : Tg} {p : Addr} {g : Tag} : tset τ p g p = g := by unfold tset; rw [if_pos rfl]
theorem tset_ne {τ : Tg} {p b : Addr} {g : Tag} (h : b ≠ p) : tset τ p g b = τ b := by unfold tset; rw [if_neg h]

/-- the words of a lambda without parameters -/
structure LD where
  q : Str
  body : Expr
  scope : Scope
  cl : List (Str × Addr)
abbrev noArgs : Arguments := { posonlyargs := [], args := [], vararg := none, kwonlyargs := [], kw_defaults := [], kwarg := none, defaults := [] }
/-- the object at f is that lambda, c its code object -/
def LamO (f c : Addr) (F : LD) : HO := .ext fun h => ∃ (pm ctv : Value), h.get? f = some (PySem.W.kla_obj "<lambda>" F.q noArgs F.body F.scope F.cl pm c ctv)
/-- the module's facts that values lean on -/
structure Md where
  K : PySem.W.Frag
  mg : Str → Option Value
  T : List (Addr × Str)
  L : Nat → LD
def KT (K : PySem.W.Frag) (a : Addr) (xs : List V) : Prop :=
  ∃ (o : Obj) (its : Array Value) (n : Nat), K.lookup a = some o ∧ o.cls = .type "tuple" ∧ o.data = .seq its n ∧ its.size ≤ sizeLine ∧ Vals xs its.toList
def TupAt (M : Md) (τ : Tg) (H : Hp) (a : Addr) (xs : List V) : Prop := (τ a = .frz ∧ Rd H a (.tup xs)) ∨ KT M.K a xs
/-- a tuple that is known to be no more than a tuple -/
def TupL (τ : Tg) (H : Hp) (a : Addr) (xs : List V) : Prop := τ a = .frz ∧ ∃ o : Obj, H a = some (.frz o (.tup xs)) ∧ o.dict = none
def LstAt (_M : Md) (τ : Tg) (H : Hp) (a : Addr) (xs : List V) : Prop := τ a = .frz ∧ H a = some (.lst xs)
/-- the script: whole numbers, in the heap or in the module -/
def ScrAt (M : Md) (τ : Tg) (H : Hp) (a : Addr) (xs : List V) : Prop := (τ a = .frz ∧ Rd H a (.lst xs)) ∨ ∃ (o : Obj) (its : Array Value) (n : Nat), M.K.lookup a = some o ∧ o.cls = .type "list" ∧ o.dict = none ∧ o.data = .seq its n ∧ its.size ≤ sizeLine ∧ Vals xs its.toList
theorem ScrAt.sq {M : Md} {τ : Tg} {H : Hp} {a : Addr} {xs : List V} (h : ScrAt M τ H a xs) : SqL M.K H a xs := h.elim (fun h => .inl h.2) .inr
theorem TupAt.sq {M : Md} {τ : Tg} {H : Hp} {a : Addr} {xs : List V} (h : TupAt M τ H a xs) : SqT M.K H a xs := h.elim (fun h => .inl h.2) .inr
theorem TupL.tup {M : Md} {τ : Tg} {H : Hp} {a : Addr} {xs : List V} (h : TupL τ H a xs) : TupAt M τ H a xs := .inl ⟨h.1, .inr (let ⟨o, e, _⟩ := h.2; ⟨o, e⟩)⟩
theorem LstAt.sq {M : Md} {τ : Tg} {H : Hp} {a : Addr} {xs : List V} (h : LstAt M τ H a xs) : SqL M.K H a xs := .inl (.inl h.2)

mutual
/-- the value v is the tree t, as it will stay -/
inductive Rp (M : Md) (τ : Tg) (H : Hp) : T → V → Prop
  | non : Rp M τ H .non .non
  | bl (b : Bool) : Rp M τ H (.bl b) (.bl b)
  | int (i : Int) : Rp M τ H (.int i) (.int i)
  | str (x : Str) : Rp M τ H (.str x) (.str x)
  | gl {x : Str} {u : Value} {v : V} : M.mg x = some u → RelV v u → Rp M τ H (.gl x) v
  | obj {r : Nat} {a : Addr} : τ a = .ob r → Rp M τ H (.obj r) (.ref a)
  | tup {a : Addr} {xs : List V} {ts : List T} : TupAt M τ H a xs → Rps M τ H ts xs → Rp M τ H (.tup ts) (.ref a)
  | lst {a : Addr} {xs : List V} {ts : List T} : LstAt M τ H a xs → Rps M τ H ts xs → Rp M τ H (.lst ts) (.ref a)
  | lam {a c : Addr} {n : Nat} : τ a = .frz → H a = some (LamO a c (M.L n)) → τ c = .frz → H c = some (LamX.CodeO c (M.L n).q) → Rp M τ H (.lam n) (.ref a)
  | dct {a : Addr} {kvs : List (Key × V)} {vs : List T} : τ a = .frz → H a = some (.dK kvs) → Rps M τ H vs (kvs.map (·.2)) → Rp M τ H (.dct (kvs.map fun p => kT p.1) vs) (.ref a)
  | tupl {a : Addr} {xs : List V} {ts : List T} : TupL τ H a xs → Rps M τ H ts xs → Rp M τ H (.tupl ts) (.ref a)
  | scr {a : Addr} {ns : List Int} : ScrAt M τ H a (ns.map V.int) → Rp M τ H (.scr ns) (.ref a)
inductive Rps (M : Md) (τ : Tg) (H : Hp) : List T → List V → Prop
  | nil : Rps M τ H [] []
  | cons {t : T} {v : V} {ts : List T} {vs : List V} : Rp M τ H t v → Rps M τ H ts vs → Rps M τ H (t :: ts) (v :: vs)
end

/-- what holds of trees goes on -/
structure Kp (τ : Tg) (H : Hp) (τ' : Tg) (H' : Hp) : Prop where
  fz : ∀ a o, H a = some o → τ a = .frz → τ' a = .frz ∧ H' a = some o
  ob : ∀ a r, τ a = .ob r → τ' a = .ob r
/-- what others hold stays -/
structure Evo (τ : Tg) (H : Hp) (τ' : Tg) (H' : Hp) : Prop extends Kp τ H τ' H' where
  fr : ∀ a o, H a = some o → τ a = .free → τ' a = .free ∧ H' a = some o
  th : ∀ a, H a ≠ none → H' a ≠ none
  sl : ∀ a i, τ' a = .slot i → H a = none ∨ ∃ j, τ a = .slot j
theorem Kp.trans {τ τ1 τ2 : Tg} {H H1 H2 : Hp} (a : Kp τ H τ1 H1) (b : Kp τ1 H1 τ2 H2) : Kp τ H τ2 H2 :=
  ⟨fun x o h t => let ⟨t1, h1⟩ := a.fz x o h t; b.fz x o h1 t1, fun x r t => b.ob x r (a.ob x r t)⟩
theorem Evo.trans {τ τ1 τ2 : Tg} {H H1 H2 : Hp} (a : Evo τ H τ1 H1) (b : Evo τ1 H1 τ2 H2) : Evo τ H τ2 H2 :=
  ⟨a.toKp.trans b.toKp, fun x o h t => let ⟨t1, h1⟩ := a.fr x o h t; b.fr x o h1 t1, fun x h => b.th x (a.th x h), fun x i t => (b.sl x i t).elim
    (fun h => .inl (by
      cases q : H x with
      | none => rfl
      | some o => exact absurd h (a.th x (by rw [q]; simp)))) fun ⟨j, t⟩ => a.sl x j t⟩
theorem Kp.refl (τ : Tg) (H : Hp) : Kp τ H τ H := ⟨fun _ _ h t => ⟨t, h⟩, fun _ _ t => t⟩
theorem Evo.refl (τ : Tg) (H : Hp) : Evo τ H τ H := ⟨Kp.refl τ H, fun _ _ h t => ⟨t, h⟩, fun _ h => h, fun _ i t => .inr ⟨i, t⟩⟩
theorem Evo.back {τ τ' : Tg} {H H' : Hp} (e : Evo τ H τ' H') {a : Addr} (h : H' a = none) : H a = none := by
  cases q : H a with
  | none => rfl
  | some o => exact absurd h (e.th a (by rw [q]; simp))

section
variable {M : Md} {τ τ' : Tg} {H H' : Hp}
theorem Rd.kp {a : Addr} {u : HO} (e : Kp τ H τ' H') (ht : τ a = .frz) (h : Rd H a u) : τ' a = .frz ∧ Rd H' a u := by
  rcases h with h | ⟨o, h⟩
  · obtain ⟨h1, h2⟩ := e.fz a _ h ht
    exact ⟨h1, .inl h2⟩
  · obtain ⟨h1, h2⟩ := e.fz a _ h ht
    exact ⟨h1, .inr ⟨o, h2⟩⟩
theorem TupAt.mono {a : Addr} {xs : List V} (e : Kp τ H τ' H') (h : TupAt M τ H a xs) : TupAt M τ' H' a xs := h.elim (fun h => .inl (Rd.kp e h.1 h.2)) .inr
theorem TupL.mono {a : Addr} {xs : List V} (e : Kp τ H τ' H') (h : TupL τ H a xs) : TupL τ' H' a xs := let ⟨t, o, ho, d⟩ := h; let ⟨t', ho'⟩ := e.fz a _ ho t; ⟨t', o, ho', d⟩
theorem LstAt.mono {a : Addr} {xs : List V} (e : Kp τ H τ' H') (h : LstAt M τ H a xs) : LstAt M τ' H' a xs := e.fz a _ h.2 h.1
mutual
theorem Rp.mono (e : Kp τ H τ' H') : ∀ {t : T} {v : V}, Rp M τ H t v → Rp M τ' H' t v
  | _, _, .non => .non
  | _, _, .bl b => .bl b
  | _, _, .int i => .int i
  | _, _, .str x => .str x
  | _, _, .gl h r => .gl h r
  | _, _, .obj h => .obj (e.ob _ _ h)
  | _, _, .tup h r => .tup (h.mono e) (Rps.mono e r)
  | _, _, .lst h r => .lst (h.mono e) (Rps.mono e r)
  | _, _, .lam t h t2 h2 => let ⟨a, b⟩ := e.fz _ _ h t; let ⟨c, d⟩ := e.fz _ _ h2 t2; .lam a b c d
  | _, _, .dct t h r => let ⟨a, b⟩ := e.fz _ _ h t; .dct a b (Rps.mono e r)
  | _, _, .tupl h r => .tupl (h.mono e) (Rps.mono e r)
  | _, _, .scr h => .scr (h.elim (fun h => .inl (Rd.kp e h.1 h.2)) .inr)
theorem Rps.mono (e : Kp τ H τ' H') : ∀ {ts : List T} {vs : List V}, Rps M τ H ts vs → Rps M τ' H' ts vs
  | _, _, .nil => .nil
  | _, _, .cons h r => .cons (Rp.mono e h) (Rps.mono e r)
end
theorem Rps.length : ∀ {ts : List T} {vs : List V}, Rps M τ H ts vs → ts.length = vs.length
  | _, _, .nil => rfl
  | _, _, .cons _ r => congrArg (· + 1) (Rps.length r)
theorem Rps.get : ∀ {ts : List T} {vs : List V} {i : Nat} {t : T}, Rps M τ H ts vs → ts[i]? = some t → ∃ v, vs[i]? = some v ∧ Rp M τ H t v
  | _, _, _, _, .nil, h => by simp at h
  | _, _, 0, _, .cons r _, h => ⟨_, rfl, by simp at h; subst h; exact r⟩
  | _, _, i + 1, _, .cons _ r, h => by simpa using Rps.get (i := i) r (by simpa using h)
theorem Rps.getV : ∀ {ts : List T} {vs : List V} {i : Nat} {v : V}, Rps M τ H ts vs → vs[i]? = some v → ∃ t, ts[i]? = some t ∧ Rp M τ H t v
  | _, _, _, _, .nil, h => by simp at h
  | _, _, 0, _, .cons r _, h => ⟨_, rfl, by simp at h; subst h; exact r⟩
  | _, _, i + 1, _, .cons _ r, h => by simpa using Rps.getV (i := i) r (by simpa using h)
theorem Rps.append : ∀ {ts us : List T} {vs ws : List V}, Rps M τ H ts vs → Rps M τ H us ws → Rps M τ H (ts ++ us) (vs ++ ws)
  | _, _, _, _, .nil, s => s
  | _, _, _, _, .cons r t, s => .cons r (Rps.append t s)
theorem Rps.take : ∀ {ts : List T} {vs : List V} (n : Nat), Rps M τ H ts vs → Rps M τ H (ts.take n) (vs.take n)
  | _, _, 0, _ => by simp; exact .nil
  | _, _, _ + 1, .nil => by simp; exact .nil
  | _, _, n + 1, .cons r t => by simpa using Rps.cons r (Rps.take n t)
theorem Rps.drop : ∀ {ts : List T} {vs : List V} (n : Nat), Rps M τ H ts vs → Rps M τ H (ts.drop n) (vs.drop n)
  | _, _, 0, r => by simpa using r
  | _, _, _ + 1, .nil => by simp; exact .nil
  | _, _, n + 1, .cons _ t => by simpa using Rps.drop n t
theorem Rps.set {t : T} {v : V} (h : Rp M τ H t v) : ∀ {ts : List T} {vs : List V} (i : Nat), Rps M τ H ts vs → Rps M τ H (ts.set i t) (vs.set i v)
  | _, _, _, .nil => .nil
  | _, _, 0, .cons _ r => .cons h r
  | _, _, i + 1, .cons q r => .cons q (Rps.set h i r)
theorem Rps.reverse : ∀ {ts : List T} {vs : List V}, Rps M τ H ts vs → Rps M τ H ts.reverse vs.reverse
  | _, _, .nil => .nil
  | _, _, .cons r t => by rw [List.reverse_cons, List.reverse_cons]; exact (Rps.reverse t).append (.cons r .nil)
theorem Rps.ints : ∀ (ns : List Int), Rps M τ H (ns.map T.int) (ns.map V.int)
  | [] => .nil
  | n :: ns => .cons (.int n) (Rps.ints ns)
end

/-! ### objects by reference, slots -/
inductive OV where
  | ls (ts : List T)
/-- the state: the frame's slots (true: the frame alone holds this container), the objects by reference -/
structure S where
  sl : List (Option (Bool × T))
  ob : List OV

/-- what stands at the address of a container -/
def Box (M : Md) (τ : Tg) (H : Hp) (a : Addr) (t : T) : Prop :=
  match t with
  | .lst ts => ∃ vs, H a = some (.lst vs) ∧ Rps M τ H ts vs
  | _ => False
def OwnAt (M : Md) (τ : Tg) (H : Hp) (g : Tag) (t : T) (v : V) : Prop := ∃ a, v = .ref a ∧ τ a = g ∧ Box M τ H a t
def VAt (M : Md) (τ : Tg) (H : Hp) (g : Tag) (b : Bool) (t : T) (v : V) : Prop := if b = true then OwnAt M τ H g t v else Rp M τ H t v
def OvAt (M : Md) (τ : Tg) (H : Hp) (a : Addr) (r : Nat) (o : OV) : Prop :=
  match o with
  | .ls ts => ∃ vs, H a = some (.lst vs) ∧ Rps M τ H ts vs
/-- the table at P: its code objects bear the name q, and stay (gxQ: a table of generator expressions' code) -/
def gxQ : Str := ⟨#[]⟩
def TabF (τ : Tg) (H : Hp) (P : Addr) (q : Str) : Prop := ∃ ps : Array Value, H P = some (.tbl ps) ∧ TriplesOk ps.toList ∧ (q = gxQ ∨ ∀ (pos : Pos) (cv : Value), codeAmong pos ps.toList = some cv → ∃ c, cv = .ref c ∧ H c = some (LamX.CodeO c q) ∧ τ c = .frz)
theorem TabF.mono {τ τ' : Tg} {H H' : Hp} {P : Addr} {q : Str} (h : TabF τ H P q) (kp : Kp τ H τ' H') (hp : ∀ ps, H P = some (.tbl ps) → H' P = some (.tbl ps)) : TabF τ' H' P q := by
  obtain ⟨ps, h1, h2, h3⟩ := h
  refine ⟨ps, hp _ h1, h2, h3.imp id fun h3 pos cv e => ?_⟩
  obtain ⟨c, e1, e2, e3⟩ := h3 pos cv e
  obtain ⟨e4, e5⟩ := kp.fz c _ e2 e3
  exact ⟨c, e1, e5, e4⟩
/-- the tables of code objects -/
def TbOk (Tb : List (Addr × Str)) (τ : Tg) (H : Hp) : Prop := (∀ p ∈ Tb, τ p.1 = .tb p.2) ∧ (∀ a q, τ a = .tb q → (a, q) ∈ Tb ∧ TabF τ H a q) ∧ True
theorem TbOk.mono {Tb : List (Addr × Str)} {τ τ' : Tg} {H H' : Hp} (h : TbOk Tb τ H) (h1 : ∀ a q, τ a = .tb q → τ' a = .tb q) (h2 : ∀ a q, τ' a = .tb q → τ a = .tb q) (kp : Kp τ H τ' H') (h3 : ∀ a q ps, τ a = .tb q → H a = some (.tbl ps) → H' a = some (.tbl ps)) (h4 : ∀ a ps, H' a = some (.tbl ps) → H a = some (.tbl ps)) : TbOk Tb τ' H' :=
  ⟨fun p hp => h1 _ _ (h.1 p hp), fun a q t => let ⟨m, s⟩ := h.2.1 a q (h2 a q t); ⟨m, s.mono kp fun ps => h3 a q ps (h2 a q t)⟩, trivial⟩
theorem OvAt.ntbl {M : Md} {τ : Tg} {H : Hp} {a : Addr} {r : Nat} {o : OV} (h : OvAt M τ H a r o) : ∀ ps, H a ≠ some (.tbl ps) := fun ps z => by
  cases o with
  | ls ts => obtain ⟨vs, e, _⟩ := h; rw [z] at e; cases e
theorem Box.ntbl {M : Md} {τ : Tg} {H : Hp} {a : Addr} {t : T} (h : Box M τ H a t) : ∀ ps, H a ≠ some (.tbl ps) := fun ps z => by
  cases t <;> first | exact h.elim | skip
  obtain ⟨vs, e, _⟩ := h; rw [z] at e; cases e
structure RelO (M : Md) (ob : List OV) (τ : Tg) (H : Hp) : Prop where
  at_ : ∀ a r, τ a = .ob r → ∃ o, ob[r]? = some o ∧ OvAt M τ H a r o
  one : ∀ a b r, τ a = .ob r → τ b = .ob r → a = b
  al : ∀ a, τ a ≠ .free → H a ≠ none
  tb : TbOk M.T τ H
structure RelS (M : Md) (sl : List (Option (Bool × T))) (τ : Tg) (σ : L2.St) (H : Hp) : Prop where
  len : σ.length = sl.length
  at_ : ∀ i b t, sl[i]? = some (some (b, t)) → ∃ v, σ[i]? = some (some v) ∧ VAt M τ H (.slot i) b t v
structure Rel (M : Md) (s : S) (τ : Tg) (σ : L2.St) (H : Hp) : Prop where
  rs : RelS M s.sl τ σ H
  ro : RelO M s.ob τ H
section
variable {M : Md} {τ τ' : Tg} {H H' : Hp}
theorem Box.kp {a : Addr} {t : T} (e : Kp τ H τ' H') (h : Box M τ H a t) (ha : H' a = H a) : Box M τ' H' a t := by
  cases t <;> first | exact h.elim | skip
  obtain ⟨vs, h1, h2⟩ := h
  exact ⟨vs, by rw [ha]; exact h1, h2.mono e⟩
theorem Box.there {a : Addr} {t : T} (h : Box M τ H a t) : H a ≠ none := by
  cases t <;> first | exact h.elim | skip
  obtain ⟨vs, h1, h2⟩ := h
  rw [h1]; simp
theorem OwnAt.kp {g : Tag} {t : T} {v : V} (e : Kp τ H τ' H') (h : OwnAt M τ H g t v) (ha : ∀ a, τ a = g → H a ≠ none → τ' a = g ∧ H' a = H a) : OwnAt M τ' H' g t v := by
  obtain ⟨a, rfl, h1, h2⟩ := h
  obtain ⟨q1, q2⟩ := ha a h1 h2.there
  exact ⟨a, rfl, q1, h2.kp e q2⟩
theorem VAt.kp {g : Tag} {b : Bool} {t : T} {v : V} (e : Kp τ H τ' H') (h : VAt M τ H g b t v) (ha : ∀ a, τ a = g → H a ≠ none → τ' a = g ∧ H' a = H a) : VAt M τ' H' g b t v := by
  cases b with
  | true => exact OwnAt.kp e h ha
  | false => exact Rp.mono e h
theorem OvAt.kp {a : Addr} {r : Nat} {o : OV} (e : Kp τ H τ' H') (h : OvAt M τ H a r o) (ha : H' a = H a) : OvAt M τ' H' a r o := by
  cases o with
  | ls ts =>
    obtain ⟨vs, h1, h2⟩ := h
    exact ⟨vs, by rw [ha]; exact h1, h2.mono e⟩
theorem RelS.kp {sl : List (Option (Bool × T))} {σ : L2.St} (e : Kp τ H τ' H') (h : RelS M sl τ σ H) (ha : ∀ a i, τ a = .slot i → H a ≠ none → τ' a = .slot i ∧ H' a = H a) : RelS M sl τ' σ H' :=
  ⟨h.len, fun i b t q => let ⟨v, h1, h2⟩ := h.at_ i b t q; ⟨v, h1, h2.kp e fun a => ha a i⟩⟩
/-- nothing that is held has changed; new things are free, frozen or a slot's -/
theorem RelO.ext {ob : List OV} (h : RelO M ob τ H) (hh : ∀ a o, H a = some o → H' a = some o ∧ τ' a = τ a) (hn : ∀ a, H a = none → τ' a = .free ∨ ((τ' a = .frz ∨ ∃ i, τ' a = .slot i) ∧ H' a ≠ none)) (ht : ∀ a ps, H a = none → H' a ≠ some (.tbl ps)) : RelO M ob τ' H' := by
  have old : ∀ a, τ a ≠ .free → ∃ o, H a = some o := fun a q => Option.ne_none_iff_exists'.mp (h.al a q)
  have kp : Kp τ H τ' H' := ⟨fun a o q t => let ⟨q1, q2⟩ := hh a o q; ⟨q2.trans t, q1⟩, fun a r t => by
    obtain ⟨o, q⟩ := old a (by rw [t]; simp)
    exact (hh a o q).2.trans t⟩
  have back : ∀ a, (∃ r, τ' a = .ob r) ∨ (∃ q, τ' a = .tb q) → τ' a = τ a ∧ ∃ o, H a = some o := fun a q => by
    cases e : H a with
    | some o => exact ⟨(hh a o e).2, o, rfl⟩
    | none =>
      rcases hn a e with z | ⟨z | ⟨i, z⟩, _⟩ <;> rw [z] at q <;> rcases q with ⟨r, q⟩ | ⟨r, q⟩ <;> cases q
  refine ⟨fun a r t => ?_, fun a b r ta tb => ?_, fun a t => ?_, ?_⟩
  · obtain ⟨e, o, q⟩ := back a (.inl ⟨r, t⟩)
    obtain ⟨ov, h1, h2⟩ := h.at_ a r (e ▸ t)
    exact ⟨ov, h1, h2.kp kp ((hh a o q).1.trans q.symm)⟩
  · exact h.one a b r ((back a (.inl ⟨r, ta⟩)).1 ▸ ta) ((back b (.inl ⟨r, tb⟩)).1 ▸ tb)
  · cases e : H a with
    | some o => rw [(hh a o e).1]; simp
    | none =>
      rcases hn a e with z | ⟨_, z⟩
      · exact absurd z t
      · exact z
  · refine h.tb.mono (fun a q t => ?_) (fun a q t => (back a (.inr ⟨q, t⟩)).1 ▸ t) kp (fun a q ps _ z => (hh a _ z).1) fun a ps e => by
      cases q : H a with
      | none => exact absurd e (ht a ps q)
      | some o => exact ((hh a o q).1.symm.trans e).symm ▸ rfl
    obtain ⟨o, z⟩ := old a (by rw [t]; simp)
    exact (hh a o z).2.trans t
theorem Evo.ext (hh : ∀ a o, H a = some o → H' a = some o ∧ τ' a = τ a) (hal : ∀ a, τ a ≠ .free → H a ≠ none) : Evo τ H τ' H' :=
  ⟨⟨fun a o q t => let ⟨q1, q2⟩ := hh a o q; ⟨q2.trans t, q1⟩, fun a r t => by
    obtain ⟨o, q⟩ := Option.ne_none_iff_exists'.mp (hal a (by rw [t]; simp))
    exact (hh a o q).2.trans t⟩, fun a o q t => let ⟨q1, q2⟩ := hh a o q; ⟨q2.trans t, q1⟩, fun a h => by
    obtain ⟨o, q⟩ := Option.ne_none_iff_exists'.mp h
    rw [(hh a o q).1]; simp, fun a i t => by
    cases e : H a with
    | none => exact .inl rfl
    | some o => exact .inr ⟨i, (hh a o e).2 ▸ t⟩⟩
/-- a new object -/
theorem Rel.new {s : S} {σ : L2.St} {p : Addr} {o : HO} {g : Tag} (h : Rel M s τ σ H) (hp : H p = none) (hg : g = .free ∨ g = .frz ∨ ∃ i, g = .slot i) (ho : ∀ ps, o ≠ .tbl ps) :
    Rel M s (tset τ p g) σ (upd H p o) ∧ Evo τ H (tset τ p g) (upd H p o) := by
  have hh : ∀ a u, H a = some u → upd H p o a = some u ∧ tset τ p g a = τ a := fun a u q => ⟨by rw [upd_ne (ne_of_none q hp)]; exact q, tset_ne (ne_of_none q hp)⟩
  have ev := Evo.ext hh h.ro.al
  refine ⟨⟨h.rs.kp ev.toKp fun a i t n => ?_, h.ro.ext hh (fun a n => ?_) fun a ps n e => ?_⟩, ev⟩
  · obtain ⟨u, q⟩ := Option.ne_none_iff_exists'.mp n
    exact ⟨(hh a u q).2.trans t, (hh a u q).1.trans q.symm⟩
  · by_cases e : a = p
    · subst e
      rw [tset_same]
      rcases hg with z | z
      · exact .inl z
      · exact .inr ⟨z, by rw [upd_same]; simp⟩
    · rw [tset_ne e]
      refine .inl (Classical.byContradiction fun q => h.ro.al a q n)
  · by_cases e2 : a = p
    · subst e2; rw [upd_same] at e; exact ho ps (Option.some.inj e)
    · rw [upd_ne e2, n] at e; cases e
end
end Sv

/-! Sv, part B: results, judgements, the sequencing of readings; freezing. -/
namespace Sv
open PySem PySem.Spec PyProof.Rows L2

inductive R (α : Type) where
  | ok (a : α) (s : S) | exc (c : Str) (s : S) | stuck
@[reducible] def R.bind {α β : Type} (m : R α) (k : α → S → R β) : R β := match m with
  | .ok a s => k a s
  | .exc c s => .exc c s
  | .stuck => .stuck
/-- a result: a value that stays; a new container that nobody else holds; the container at a place -/
inductive Res where
  | val (t : T) | tmp (t : T) | plc (i : Nat)
/-- a thing held by reference, as it stands -/
def view (ob : List OV) : T → T
  | .obj r => match ob[r]? with
    | some (.ls ts) => .lst ts
    | _ => .obj r
  | t => t
def peek (s : S) : Res → Option T
  | .val t => some (view s.ob t)
  | .tmp t => some t
  | .plc i => match s.sl[i]? with
    | some (some (_, t)) => some (view s.ob t)
    | _ => none
/-- the result as a value that stays -/
def frz (s : S) : Res → Option (T × S)
  | .val t => some (t, s)
  | .tmp t => some (t, s)
  | .plc i => match s.sl[i]? with
    | some (some (b, t)) => some (t, if b = true then ⟨s.sl.set i (some (false, t)), s.ob⟩ else s)
    | _ => none
def RelR (M : Md) (σ : L2.St) (H0 : Hp) (r : Res) (s : S) (τ : Tg) (H : Hp) (v : V) : Prop :=
  match r with
  | .val t => Rp M τ H t v
  | .tmp t => ∃ a, v = .ref a ∧ H0 a = none ∧ τ a = .free ∧ Box M τ H a t
  | .plc i => σ[i]? = some (some v)
/-- the value is this tree now -/
def IsT (M : Md) (τ : Tg) (H : Hp) (t : T) (v : V) : Prop := Rp M τ H t v ∨ ∃ a, v = .ref a ∧ Box M τ H a t
section
variable {M : Md} {σ : L2.St} {H H0 H1 : Hp} {τ τ0 τ1 : Tg} {s : S} {r : Res} {v : V} {t : T}
theorem RelR.base (e : Evo τ0 H0 τ1 H1) (h : RelR M σ H1 r s τ H v) : RelR M σ H0 r s τ H v := by
  cases r with
  | val t => exact h
  | tmp t =>
    obtain ⟨a, e1, e2, e3⟩ := h
    exact ⟨a, e1, e.back e2, e3⟩
  | plc i => exact h
theorem IsT.view {ob : List OV} (ro : RelO M ob τ H) (h : IsT M τ H t v) : IsT M τ H (view ob t) v := by
  cases t with
  | obj k =>
    have e : view ob (.obj k) = (match ob[k]? with | some (.ls ts) => T.lst ts | _ => .obj k) := rfl
    rw [e]
    split
    · rename_i ts q
      rcases h with h | ⟨a, _, h⟩
      · cases h with
        | obj h =>
          obtain ⟨o, h1, h2⟩ := ro.at_ _ _ h
          rw [q] at h1
          cases h1
          obtain ⟨vs, h3, h4⟩ := h2
          exact .inr ⟨_, rfl, vs, h3, h4⟩
      · exact h.elim
    · exact h
  | _ => exact h
theorem RelR.isT (rel : Rel M s τ σ H) (h : RelR M σ H0 r s τ H v) (p : peek s r = some t) : IsT M τ H t v := by
  cases r with
  | val t' => cases p; exact IsT.view rel.ro (.inl h)
  | tmp t' =>
    cases p
    obtain ⟨a, e1, _, _, e3⟩ := h
    exact .inr ⟨a, e1, e3⟩
  | plc i =>
    have p : (match s.sl[i]? with | some (some (_, t)) => some (view s.ob t) | _ => none) = some t := p
    split at p
    · rename_i b t' q
      cases p
      obtain ⟨v', e1, e2⟩ := rel.rs.at_ i b _ q
      have h : σ[i]? = some (some v) := h
      rw [h] at e1
      cases e1
      refine IsT.view rel.ro ?_
      cases b with
      | true =>
        obtain ⟨a, e3, _, e4⟩ := e2
        exact .inr ⟨a, e3, e4⟩
      | false => exact .inl e2
    · cases p
theorem Box.lst {a : Addr} {ts : List T} (h : Box M τ H a (.lst ts)) : ∃ vs, H a = some (.lst vs) ∧ Rps M τ H ts vs := h
theorem IsT.lst {ts : List T} (h : IsT M τ H (.lst ts) v) : ∃ a vs, v = .ref a ∧ H a = some (.lst vs) ∧ Rps M τ H ts vs := by
  rcases h with h | ⟨a, e, h⟩
  · cases h with
    | lst h1 h2 => exact ⟨_, _, rfl, h1.2, h2⟩
  · obtain ⟨vs, h1, h2⟩ := h.lst
    exact ⟨a, vs, e, h1, h2⟩
theorem IsT.tup {ts : List T} (h : IsT M τ H (.tup ts) v) : ∃ a vs, v = .ref a ∧ TupAt M τ H a vs ∧ Rps M τ H ts vs := by
  rcases h with h | ⟨a, e, h⟩
  · cases h with
    | tup h1 h2 => exact ⟨_, _, rfl, h1, h2⟩
  · exact h.elim
theorem IsT.int {i : Int} (h : IsT M τ H (.int i) v) : v = .int i := by
  rcases h with h | ⟨a, e, h⟩
  · cases h; rfl
  · exact h.elim
theorem IsT.bl {b : Bool} (h : IsT M τ H (.bl b) v) : v = .bl b := by
  rcases h with h | ⟨a, e, h⟩
  · cases h; rfl
  · exact h.elim
theorem IsT.str {x : Str} (h : IsT M τ H (.str x) v) : v = .str x := by
  rcases h with h | ⟨a, e, h⟩
  · cases h; rfl
  · exact h.elim
theorem IsT.non (h : IsT M τ H .non v) : v = .non := by
  rcases h with h | ⟨a, e, h⟩
  · cases h; rfl
  · exact h.elim
theorem IsT.obj {k : Nat} (h : IsT M τ H (.obj k) v) : ∃ a, v = .ref a ∧ τ a = .ob k := by
  rcases h with h | ⟨a, e, h⟩
  · cases h with
    | obj h => exact ⟨_, rfl, h⟩
  · exact h.elim
theorem IsT.scr {ns : List Int} (h : IsT M τ H (.scr ns) v) : ∃ a, v = .ref a ∧ SqL M.K H a (ns.map V.int) := by
  rcases h with h | ⟨a, e, h⟩
  · cases h with
    | scr h1 => exact ⟨_, rfl, h1.sq⟩
  · exact h.elim
theorem IsT.mono {τ' : Tg} {H' : Hp} (h : IsT M τ H t v) (e : Kp τ H τ' H') (he : ∀ a o, H a = some o → H' a = some o) : IsT M τ' H' t v := by
  rcases h with h | ⟨a, q, h⟩
  · exact .inl (h.mono e)
  · obtain ⟨o, ho⟩ := Option.ne_none_iff_exists'.mp h.there
    exact .inr ⟨a, q, h.kp e ((he a o ho).trans ho.symm)⟩

/-- an address of one's own becomes frozen -/
theorem freeze_at {a : Addr} {s' : S} {t : T} (rel : Rel M s τ σ H) (ev : Evo τ0 H0 τ H) (hb : Box M τ H a t) (hob : s'.ob = s.ob)
    (hg : (τ a = .free ∧ H0 a = none ∧ s'.sl = s.sl) ∨ ∃ i, τ a = .slot i ∧ s.sl[i]? = some (some (true, t)) ∧ σ[i]? = some (some (.ref a)) ∧ s'.sl = s.sl.set i (some (false, t))) :
    ∃ τ', Evo τ0 H0 τ' H ∧ Kp τ H τ' H ∧ Rel M s' τ' σ H ∧ Rp M τ' H t (.ref a) := by
  have nfz : τ a ≠ .frz := by rcases hg with ⟨h, _⟩ | ⟨i, h, _⟩ <;> rw [h] <;> simp
  have nob : ∀ r, τ a ≠ .ob r := fun r => by rcases hg with ⟨h, _⟩ | ⟨i, h, _⟩ <;> rw [h] <;> simp
  have ntb : ∀ q, τ a ≠ .tb q := fun r => by rcases hg with ⟨h, _⟩ | ⟨i, h, _⟩ <;> rw [h] <;> simp
  have kp : Kp τ H (tset τ a .frz) H := ⟨fun b o q h => by
    by_cases e : b = a
    · subst e; exact ⟨tset_same, q⟩
    · exact ⟨by rw [tset_ne e]; exact h, q⟩, fun b r h => by
    by_cases e : b = a
    · subst e; exact absurd h (nob r)
    · rw [tset_ne e]; exact h⟩
  have rp : Rp M (tset τ a .frz) H t (.ref a) := by
    cases t <;> first | exact hb.elim | skip
    obtain ⟨vs, h1, h2⟩ := hb.lst
    exact .lst ⟨tset_same, h1⟩ (h2.mono kp)
  refine ⟨tset τ a .frz, ?_, kp, ⟨?_, ?_⟩, rp⟩
  · refine ⟨ev.toKp.trans kp, fun b o q h => ?_, ev.th, fun b i h => ?_⟩
    · obtain ⟨h1, h2⟩ := ev.fr b o q h
      by_cases e : b = a
      · subst e
        rcases hg with ⟨_, h3, _⟩ | ⟨i, h3, _⟩
        · rw [h3] at q; cases q
        · rw [h3] at h1; cases h1
      · exact ⟨by rw [tset_ne e]; exact h1, h2⟩
    · by_cases e : b = a
      · subst e; rw [tset_same] at h; cases h
      · rw [tset_ne e] at h; exact ev.sl b i h
  · rcases hg with ⟨h1, _, h3⟩ | ⟨i, h1, h2, h4, h3⟩
    · rw [h3]
      refine rel.rs.kp kp fun b j h _ => ?_
      have e : b ≠ a := fun z => by subst z; rw [h1] at h; cases h
      exact ⟨by rw [tset_ne e]; exact h, rfl⟩
    · refine ⟨by rw [h3, List.length_set]; exact rel.rs.len, fun j b t' q => ?_⟩
      rw [h3] at q
      by_cases hj : j = i
      · subst hj
        have hlt : j < s.sl.length := (List.getElem?_eq_some_iff.mp h2).1
        rw [List.getElem?_set_self hlt] at q
        cases q
        exact ⟨_, h4, rp⟩
      · rw [List.getElem?_set_ne (Ne.symm hj)] at q
        obtain ⟨v', e1, e2⟩ := rel.rs.at_ j b t' q
        refine ⟨v', e1, e2.kp kp fun b' hb' _ => ?_⟩
        have e : b' ≠ a := fun z => by subst z; rw [h1] at hb'; cases hb'; exact hj rfl
        exact ⟨by rw [tset_ne e]; exact hb', rfl⟩
  · rw [hob]
    have back : ∀ b g, tset τ a .frz b = g → g ≠ .frz → τ b = g ∧ b ≠ a := fun b g h n => by
      by_cases e : b = a
      · subst e; rw [tset_same] at h; exact absurd h.symm n
      · rw [tset_ne e] at h; exact ⟨h, e⟩
    refine ⟨fun b r h => ?_, fun b c r h1 h2 => ?_, fun b h => ?_, rel.ro.tb.mono (fun b q h => ?_) (fun b q h => (back b _ h (by simp)).1) kp (fun _ _ _ _ z => z) fun _ _ z => z⟩
    · obtain ⟨o, h1, h2⟩ := rel.ro.at_ b r (back b _ h (by simp)).1
      exact ⟨o, h1, h2.kp kp rfl⟩
    · exact rel.ro.one b c r (back b _ h1 (by simp)).1 (back c _ h2 (by simp)).1
    · by_cases e : b = a
      · subst e; exact hb.there
      · rw [tset_ne e] at h; exact rel.ro.al b h
    · rw [tset_ne fun z => by subst z; exact ntb q h]; exact h
theorem RelR.frz {s' : S} (rel : Rel M s τ σ H) (ev : Evo τ0 H0 τ H) (h : RelR M σ H0 r s τ H v) (p : frz s r = some (t, s')) : ∃ τ', Evo τ0 H0 τ' H ∧ Kp τ H τ' H ∧ Rel M s' τ' σ H ∧ Rp M τ' H t v := by
  cases r with
  | val t' =>
    cases p
    exact ⟨τ, ev, Kp.refl _ _, rel, h⟩
  | tmp t' =>
    cases p
    obtain ⟨a, e1, e2, e3, e4⟩ := h
    subst e1
    exact freeze_at rel ev e4 rfl (.inl ⟨e3, e2, rfl⟩)
  | plc i =>
    have p : (match s.sl[i]? with | some (some (b, t)) => some (t, if b = true then (⟨s.sl.set i (some (false, t)), s.ob⟩ : S) else s) | _ => none) = some (t, s') := p
    split at p
    · rename_i b t' q
      obtain ⟨rfl, rfl⟩ := Prod.mk.inj (Option.some.inj p)
      obtain ⟨v', e1, e2⟩ := rel.rs.at_ i b t' q
      have h : σ[i]? = some (some v) := h
      rw [h] at e1
      cases e1
      cases b with
      | true =>
        obtain ⟨a, e3, e4, e5⟩ := e2
        subst e3
        simp only [if_true]
        exact freeze_at rel ev e5 rfl (.inr ⟨i, e4, q, h, rfl⟩)
      | false =>
        simp only [Bool.false_eq_true, if_false]
        exact ⟨τ, ev, Kp.refl _ _, rel, e2⟩
    · cases p
end

/-! ### what is wanted behind a piece -/
abbrev RRel (α β : Type) := L2.St → Hp → α → S → Tg → Hp → β → Prop
def Post {α β : Type} (M : Md) (RR : RRel α β) (σ : L2.St) (τ0 : Tg) (H0 : Hp) (m : R α) (Q : β → Hp → Prop) (W : WX) : Prop :=
  match m with
  | .ok r s => ∀ v τ' H', Evo τ0 H0 τ' H' → Rel M s τ' σ H' → RR σ H0 r s τ' H' v → Q v H'
  | .exc c s => ∀ C d τ' H', M.mg c = some (.ref C) → Evo τ0 H0 τ' H' → Rel M s τ' σ H' → W (.ref C) d σ H'
  | .stuck => False
def tG {α β : Type} (M : Md) (RR : RRel α β) (f : S → R α) (W : WX) : L2.St → Hp → (β → Hp → Prop) → Prop :=
  fun σ H Q => ∃ s τ, Rel M s τ σ H ∧ Post M RR σ τ H (f s) Q W
def RRes (M : Md) : RRel Res V := fun σ H0 r s τ H v => RelR M σ H0 r s τ H v
def RBool : RRel Bool Bool := fun _ _ b _ _ _ c => c = b
def RTs (M : Md) : RRel (List T) (List V) := fun _ _ ts _ τ H vs => Rps M τ H ts vs
def RT (M : Md) : RRel T V := fun _ _ t _ τ H v => Rp M τ H t v
class Tb where
  T : List (Addr × Str)
  L : Nat → LD
variable [Tb]
abbrev Mx (X : Cx) : Md := ⟨X.K, X.mg, Tb.T, Tb.L⟩
/-- the result does not lean on the heap ahead -/
def Bas {α β : Type} (RR : RRel α β) : Prop := ∀ σ (τ0 τ1 : Tg) (H0 H1 : Hp) r s τ H v, Evo τ0 H0 τ1 H1 → RR σ H1 r s τ H v → RR σ H0 r s τ H v
theorem bRes {M : Md} : Bas (RRes M) := fun _ _ _ _ _ _ _ _ _ _ e h => RelR.base e h
theorem bBool : Bas RBool := fun _ _ _ _ _ _ _ _ _ _ _ h => h
theorem bTs {M : Md} : Bas (RTs M) := fun _ _ _ _ _ _ _ _ _ _ _ h => h
theorem bT {M : Md} : Bas (RT M) := fun _ _ _ _ _ _ _ _ _ _ _ h => h

def SE (X : Cx) (e : Expr) (f : S → R Res) : Prop := ∀ W, Takes X W → PE X e (tG (Mx X) (RRes (Mx X)) f W)
def ST (X : Cx) (e : Expr) (f : S → R Bool) : Prop := ∀ W, Takes X W → PT X e (tG (Mx X) RBool f W)
def SW (X : Cx) (e : Expr) (f : S → R Bool) : Prop := ∀ W, Takes X W → PW X e (tG (Mx X) RBool f W)
def SA (X : Cx) (es : List Expr) (f : S → R (List T)) : Prop := ∀ W, Takes X W → PA X es (tG (Mx X) (RTs (Mx X)) f W)

theorem PE.imp {X : Cx} {e : Expr} {t t' : TE} (h : PE X e t) (i : ∀ σ H Q, t' σ H Q → t σ H Q) : PE X e t' := ⟨fun pins s σ H Q I q => h.run pins s σ H Q I (i σ H Q q)⟩
theorem PT.imp {X : Cx} {e : Expr} {t t' : TT} (h : PT X e t) (i : ∀ σ H Q, t' σ H Q → t σ H Q) : PT X e t' := ⟨fun pins s σ H Q I q => h.run pins s σ H Q I (i σ H Q q)⟩
theorem PW.imp {X : Cx} {e : Expr} {t t' : TT} (h : PW X e t) (i : ∀ σ H Q, t' σ H Q → t σ H Q) : PW X e t' := ⟨fun wh pins s σ H Q I q => h.run wh pins s σ H Q I (i σ H Q q)⟩
theorem PA.imp {X : Cx} {e : List Expr} {t t' : TA} (h : PA X e t) (i : ∀ σ H Q, t' σ H Q → t σ H Q) : PA X e t' := ⟨fun pos pins s σ H Q I q => h.run pos pins s σ H Q I (i σ H Q q)⟩

section
variable {α β γ δ : Type} {M : Md} {RR : RRel α β} {RR' : RRel γ δ} {σ : L2.St} {H0 H1 : Hp} {τ0 τ1 : Tg} {W : WX}
/-- from a later heap -/
theorem Post.shift {m : R α} {Q : β → Hp → Prop} (b : Bas RR) (h : Post M RR σ τ0 H0 m Q W) (e : Evo τ0 H0 τ1 H1) : Post M RR σ τ1 H1 m Q W := by
  cases m with
  | ok r s => exact fun v τ' H' ev rel rr => h v τ' H' (e.trans ev) rel (b _ _ _ _ _ _ _ _ _ _ e rr)
  | exc c s => exact fun C d τ' H' hc ev rel => h C d τ' H' hc (e.trans ev) rel
  | stuck => exact h
/-- a first piece, then the rest -/
theorem Post.step {m : R α} {k : α → S → R γ} {Q : δ → Hp → Prop} {Q' : β → Hp → Prop} (h : Post M RR' σ τ0 H0 (m.bind k) Q W)
    (hk : ∀ r s v τ' H', Evo τ0 H0 τ' H' → Rel M s τ' σ H' → RR σ H0 r s τ' H' v → Post M RR' σ τ0 H0 (k r s) Q W → Q' v H') : Post M RR σ τ0 H0 m Q' W := by
  cases m with
  | ok r s => exact fun v τ' H' ev rel rr => hk r s v τ' H' ev rel rr h
  | exc c s => exact h
  | stuck => exact h
/-- a later piece, the base kept -/
theorem Post.next {m : R α} {k : α → S → R γ} {Q : δ → Hp → Prop} {Q' : β → Hp → Prop} (e : Evo τ0 H0 τ1 H1) (h : Post M RR' σ τ0 H0 (m.bind k) Q W)
    (hk : ∀ r s v τ' H', Evo τ1 H1 τ' H' → Rel M s τ' σ H' → RR σ H1 r s τ' H' v → Post M RR' σ τ0 H0 (k r s) Q W → Q' v H') : Post M RR σ τ1 H1 m Q' W := by
  cases m with
  | ok r s => exact fun v τ' H' ev rel rr => hk r s v τ' H' ev rel rr h
  | exc c s => exact fun C d τ' H' hc ev rel => h C d τ' H' hc (e.trans ev) rel
  | stuck => exact h
theorem Post.mono {m : R α} {Q Q' : β → Hp → Prop} (h : Post M RR σ τ0 H0 m Q W) (hq : ∀ v H, Q v H → Q' v H) : Post M RR σ τ0 H0 m Q' W := by
  cases m with
  | ok r s => exact fun v τ' H' ev rel rr => hq _ _ (h v τ' H' ev rel rr)
  | exc c s => exact h
  | stuck => exact h
/-- the end of a piece -/
theorem Post.fin {r : α} {s : S} {Q : β → Hp → Prop} {v : β} {τ' : Tg} {H' : Hp} (h : Post M RR σ τ0 H0 (.ok r s) Q W) (ev : Evo τ0 H0 τ' H') (rel : Rel M s τ' σ H') (rr : RR σ H0 r s τ' H' v) : Q v H' := h v τ' H' ev rel rr
end

/-- one piece after another, as one: both answers at hand -/
def seq2 {α β γ : Type} (f : S → R α) (g : S → R β) (k : α → β → S → R γ) : S → R γ := fun s => (f s).bind fun a s => (g s).bind fun b s => k a b s
end Sv

/-! Sv, part C: expressions. -/
namespace Sv
open PySem PySem.Spec PyProof.Rows L2
variable [Tb]

/-- the object that stands for a new container (b: a mutable one that nobody holds yet) -/
def NewAt (M : Md) (τ : Tg) (H : Hp) (b : Bool) (o : HO) (t : T) : Prop := match t with
  | .lst ts => ∃ vs, o = .lst vs ∧ Rps M τ H ts vs
  | .tup ts => b = false ∧ ∃ vs, o = .tup vs ∧ Rps M τ H ts vs
  | _ => False
theorem NewAt.ntbl {M : Md} {τ : Tg} {H : Hp} {b : Bool} {o : HO} {t : T} (h : NewAt M τ H b o t) : ∀ ps, o ≠ .tbl ps := fun ps z => by
  subst z
  cases t <;> first | exact h.elim | skip
  · obtain ⟨_, vs, e, _⟩ := h; cases e
  · obtain ⟨vs, e, _⟩ := h; cases e
def out1 (o : Option (Bool × T)) (s : S) : R Res := match o with
  | some (false, t) => .ok (.val t) s
  | some (true, t) => .ok (.tmp t) s
  | none => .stuck
/-- a result by values: it stands already, or it is a new object -/
def Gives (M : Md) (τ : Tg) (H : Hp) (b : Bool) (t : T) (Q : VK) : Prop :=
  (b = false → ∀ v, Rp M τ H t v → Q v H) ∧ ∀ p o, H p = none → NewAt M τ H b o t → Q (.ref p) (upd H p o)
section
variable {M : Md} {σ : L2.St} {H H0 H1 H2 : Hp} {τ τ0 τ1 τ2 : Tg} {s s1 s2 : S} {r : Res} {v : V} {t : T}
@[simp] theorem out1_val : out1 (some (false, t)) s = .ok (.val t) s := rfl
@[simp] theorem out1_tmp : out1 (some (true, t)) s = .ok (.tmp t) s := rfl
@[simp] theorem out1_none : out1 none s = .stuck := rfl
theorem RelR.later (h : RelR M σ H0 r s1 τ1 H1 v) (e : Evo τ1 H1 τ2 H2) : RelR M σ H0 r s2 τ2 H2 v := by
  cases r with
  | val t => exact Rp.mono e.toKp h
  | tmp t =>
    obtain ⟨a, e1, e2, e3, e4⟩ := h
    obtain ⟨o, ho⟩ := Option.ne_none_iff_exists'.mp e4.there
    obtain ⟨q1, q2⟩ := e.fr a o ho e3
    exact ⟨a, e1, e2, q1, e4.kp e.toKp (q2.trans ho.symm)⟩
  | plc i => exact h
theorem Post.out {W : WX} {b : Bool} {Q : VK} (h : Post M (RRes M) σ τ0 H0 (out1 (some (b, t)) s) Q W) (ev : Evo τ0 H0 τ H) (rel : Rel M s τ σ H) : Gives M τ H b t Q := by
  refine ⟨fun hb v hv => ?_, fun p o hp hn => ?_⟩
  · subst hb
    exact h v τ H ev rel hv
  · cases b with
    | false =>
      obtain ⟨r1, e1⟩ := rel.new (o := o) (g := .frz) hp (.inr (.inl rfl)) hn.ntbl
      refine h (.ref p) _ _ (ev.trans e1) r1 ?_
      show Rp M _ _ t (.ref p)
      cases t <;> first | exact hn.elim | skip
      · obtain ⟨_, vs, e, hv⟩ := hn
        subst e
        exact .tup (.inl ⟨tset_same, .inl upd_same⟩) (hv.mono e1.toKp)
      · obtain ⟨vs, e, hv⟩ := hn
        subst e
        exact .lst ⟨tset_same, upd_same⟩ (hv.mono e1.toKp)
    | true =>
      obtain ⟨r1, e1⟩ := rel.new (o := o) (g := .free) hp (.inl rfl) hn.ntbl
      cases t <;> first | exact hn.elim | exact absurd hn.1 (by simp) | skip
      obtain ⟨vs, e, hv⟩ := hn
      subst e
      exact h (.ref p) _ _ (ev.trans e1) r1 ⟨p, rfl, ev.back hp, tset_same, vs, upd_same, hv.mono e1.toKp⟩
end

/-! ### constants, names -/
@[simp] def eC (t : T) : S → R Res := fun s => .ok (.val t) s
def eVar (i : Nat) : S → R Res := fun s => match s.sl[i]? with
  | some (some (false, t)) => .ok (.val t) s
  | some (some (true, _)) => .ok (.plc i) s
  | _ => .stuck
section
variable {X : Cx} {pos : Pos}
theorem se_c {e : Expr} {v : V} {t : T} (h : PE X e (tC v)) (r : ∀ τ H, Rp (Mx X) τ H t v) : SE X e (eC t) := fun W tk => PE.imp h fun σ H Q ⟨s, τ, rel, post⟩ => post v τ H (.refl _ _) rel (r τ H)
theorem se_int {i : Int} {j : Nat} : SE X (.Constant (.int i) j pos) (eC (.int i)) := se_c pe_int fun _ _ => .int i
theorem se_bl {b : Bool} {j : Nat} : SE X (.Constant (.bool b) j pos) (eC (.bl b)) := se_c pe_bl fun _ _ => .bl b
theorem se_non {j : Nat} : SE X (.Constant .none j pos) (eC .non) := se_c pe_non fun _ _ => .non
theorem se_str {x : Str} {j : Nat} : SE X (.Constant (.str x) j pos) (eC (.str x)) := se_c pe_str fun _ _ => .str x
theorem se_glob {x : Str} {v : V} {u : Value} {t : T} (hg : Gl X x) (hm : X.mg x = some u) (r : RelV v u) (h : ∀ τ H, Rp (Mx X) τ H t v) (hd : (x == ("__debug__" : Str)) = false := by decide) : SE X (.Name x pos) (eC t) := se_c (pe_glob hg hm r hd) h
theorem se_gl {x : Str} {a : Addr} (hg : Gl X x) (hm : X.mg x = some (.ref a)) (hd : (x == ("__debug__" : Str)) = false := by decide) : SE X (.Name x pos) (eC (.gl x)) :=
  se_glob hg hm (v := .ref a) rfl (fun _ _ => .gl hm rfl) hd
theorem se_var (i : Nat) {x : Str} (hN : X.N[i]? = some x) (hv : Vis X.env.scope x) (hd : (x == ("__debug__" : Str)) = false := by decide) (hcd : (x == ("__classdict__" : Str)) = false := by decide) : SE X (.Name x pos) (eVar i) := fun W tk =>
  PE.imp (pe_var hN hv hd hcd) fun σ H Q ⟨s, τ, rel, post⟩ => by
    unfold eVar at post
    split at post
    · rename_i t q
      obtain ⟨v, e1, e2⟩ := rel.rs.at_ i false t q
      exact ⟨v, e1, post v τ H (.refl _ _) rel e2⟩
    · rename_i t q
      obtain ⟨v, e1, e2⟩ := rel.rs.at_ i true t q
      exact ⟨v, e1, post v τ H (.refl _ _) rel e1⟩
    · exact post.elim
end

/-! ### two operands -/
def eBin (g : T → T → Option (Bool × T)) (fa fb : S → R Res) : S → R Res := fun s => (fa s).bind fun x s => (fb s).bind fun y s => match peek s x, peek s y with
  | some tx, some ty => out1 (g tx ty) s
  | _, _ => .stuck
def eUn (g : T → Option (Bool × T)) (fa : S → R Res) : S → R Res := fun s => (fa s).bind fun x s => match peek s x with
  | some tx => out1 (g tx) s
  | _ => .stuck
/-- a rule by values serves g -/
def OpG (M : Md) (r : R2) (g : T → T → Option (Bool × T)) : Prop :=
  ∀ τ H tx ty x y b t Q, IsT M τ H tx x → IsT M τ H ty y → g tx ty = some (b, t) → Gives M τ H b t Q → r x y H Q
def UnG (M : Md) (r : V → Hp → VK → Prop) (g : T → Option (Bool × T)) : Prop :=
  ∀ τ H tx x b t Q, IsT M τ H tx x → g tx = some (b, t) → Gives M τ H b t Q → r x H Q
section
variable {X : Cx} {a b c : Expr} {fa fb fc : S → R Res} {pos : Pos} {M : Md}
/-- one piece, at a later state, the base kept -/
theorem run1 {α β γ δ : Type} {RR : RRel α β} {R1 : RRel γ δ} {W : WX} {f : S → R γ} {k : γ → S → R α} {σ : L2.St} {H H1 : Hp} {s : S} {τ τ1 : Tg} {Q : β → Hp → Prop} {C : δ → Hp → Prop} (ev : Evo τ H τ1 H1) (rel : Rel M s τ1 σ H1)
    (post : Post M RR σ τ H ((f s).bind k) Q W)
    (hk : ∀ x s2 v τ2 H2, Evo τ1 H1 τ2 H2 → Rel M s2 τ2 σ H2 → R1 σ H1 x s2 τ2 H2 v → Post M RR σ τ H (k x s2) Q W → C v H2) : tG M R1 f W σ H1 C :=
  ⟨s, τ1, rel, post.next ev hk⟩
theorem run2 {α β : Type} {RR : RRel α β} {W : WX} {f g : S → R Res} {k : Res → Res → S → R α} {σ : L2.St} {H : Hp} {s : S} {τ : Tg} {Q : β → Hp → Prop} {C : V → V → Hp → Prop} (rel : Rel M s τ σ H)
    (post : Post M RR σ τ H ((f s).bind fun x s => (g s).bind fun y s => k x y s) Q W)
    (hk : ∀ x y s2 v w τ2 H2, Evo τ H τ2 H2 → Rel M s2 τ2 σ H2 → RelR M σ H x s2 τ2 H2 v → RelR M σ H y s2 τ2 H2 w → Post M RR σ τ H (k x y s2) Q W → C v w H2) :
    tG M (RRes M) f W σ H fun v H1 => tG M (RRes M) g W σ H1 (C v) :=
  run1 (.refl _ _) rel post fun x s1 v τ1 H1 ev1 rel1 r1 p1 => run1 ev1 rel1 p1 fun y s2 w τ2 H2 ev2 rel2 r2 p2 => hk x y s2 v w τ2 H2 (ev1.trans ev2) rel2 (RelR.later r1 ev2) (RelR.base ev1 r2) p2
theorem bin_run {W : WX} {r : R2} {g : T → T → Option (Bool × T)} (hg : OpG M r g) {σ : L2.St} {H : Hp} {Q : VK} (h : tG M (RRes M) (eBin g fa fb) W σ H Q) :
    tOp r (tG M (RRes M) fa W) (tG M (RRes M) fb W) σ H Q := by
  obtain ⟨s, τ, rel, post⟩ := h
  refine run2 rel post fun x y s2 v w τ2 H2 ev rel2 r1 r2 p => ?_
  split at p
  · rename_i tx ty ex ey
    cases e : g tx ty with
    | none => rw [e] at p; exact p.elim
    | some z =>
      obtain ⟨b, t⟩ := z
      rw [e] at p
      exact hg τ2 H2 tx ty v w b t Q (r1.isT rel2 ex) (r2.isT rel2 ey) e (p.out ev rel2)
  · exact p.elim
theorem un_run {W : WX} {r : V → Hp → VK → Prop} {g : T → Option (Bool × T)} (hg : UnG M r g) {σ : L2.St} {H : Hp} {Q : VK} (h : tG M (RRes M) (eUn g fa) W σ H Q) :
    tUn r (tG M (RRes M) fa W) σ H Q := by
  obtain ⟨s, τ, rel, post⟩ := h
  refine run1 (.refl _ _) rel post fun x s2 v τ2 H2 ev rel2 r1 p => ?_
  split at p
  · rename_i tx ex
    cases e : g tx with
    | none => rw [e] at p; exact p.elim
    | some z =>
      obtain ⟨b, t⟩ := z
      rw [e] at p
      exact hg τ2 H2 tx v b t Q (RelR.isT rel2 r1 ex) e (p.out ev rel2)
  · exact p.elim
end
section
variable {X : Cx} {a b c : Expr} {fa fb fc : S → R Res} {pos : Pos}
theorem se_bin {op : Operator} {r : R2} {g : T → T → Option (Bool × T)} (ho : OpR X (binaryOp op) r) (hg : OpG (Mx X) r g) (ha : SE X a fa) (hb : SE X b fb) : SE X (.BinOp a op b pos) (eBin g fa fb) := fun W tk =>
  PE.imp (pe_op ho (ha W tk) (hb W tk)) fun _ _ _ h => bin_run hg h
theorem se_un {op : UnaryOp} {r : V → Hp → VK → Prop} {g : T → Option (Bool × T)} (ho : UnR X (unaryOp op) r) (hg : UnG (Mx X) r g) (ha : SE X a fa) : SE X (.UnaryOp op a pos) (eUn g fa) := fun W tk =>
  PE.imp (pe_un ho (ha W tk)) fun _ _ _ h => un_run hg h
/-- a comparison -/
theorem se_cmp {op : CmpOp} {r : R2} {g : T → T → Option (Bool × T)} (ho : OpR X (compareOp op) r) (hg : OpG (Mx X) r g) (ha : SE X a fa) (hb : SE X b fb) (hm : behindInMarks op b = false) : SE X (.Compare a [op] [b] pos) (eBin g fa fb) := fun W tk =>
  PE.imp (pe_cmpR ho (ha W tk) (hb W tk) hm) fun _ _ _ h => bin_run hg h
/-- an expression whose value is a bool, as a test -/
def tTst (f : S → R Res) : S → R Bool := fun s => (f s).bind fun x s => match peek s x with
  | some (.bl b) => .ok b s
  | _ => .stuck
theorem tst_run {W : WX} {M : Md} {σ : L2.St} {H : Hp} {Q : Bool → Hp → Prop} (h : tG M RBool (tTst fa) W σ H Q) : tG M (RRes M) fa W σ H fun x H' => ∃ k, x = .bl k ∧ Q k H' := by
  obtain ⟨s, τ, rel, post⟩ := h
  refine run1 (.refl _ _) rel post fun x s2 v τ2 H2 ev rel2 r1 p => ?_
  split at p
  · rename_i b ex
    exact ⟨b, (RelR.isT rel2 r1 ex).bl, p b τ2 H2 ev rel2 rfl⟩
  · exact p.elim
theorem st_cmp {op : CmpOp} {r : R2} {g : T → T → Option (Bool × T)} (ho : OpR X (compareOp op) r) (hg : OpG (Mx X) r g) (ha : SE X a fa) (hb : SE X b fb) (hm : behindInMarks op b = false) : ST X (.Compare a [op] [b] pos) (tTst (eBin g fa fb)) := fun W tk =>
  PT.imp (pt_cmpR ho (ha W tk) (hb W tk) hm) fun σ H Q h => bin_run (Q := fun x H' => ∃ k, x = .bl k ∧ Q k H') hg (tst_run h)
theorem st_val (ha : SE X a fa) (he : ∀ whole, isTrue a X.env whole = (do let v ← whole; standAt a.pos; holding [v] (truthy v)) := by intro _; rfl) : ST X a (tTst fa) := fun W tk =>
  PT.imp (pt_val (ha W tk) he) fun σ H Q h => tst_run h
end

/-! ### and, or, not, if -/
def tAndS (f g : S → R Bool) : S → R Bool := fun s => (f s).bind fun b s => if b = true then g s else .ok false s
def tOrS (f g : S → R Bool) : S → R Bool := fun s => (f s).bind fun b s => if b = true then .ok true s else g s
def tNotS (f : S → R Bool) : S → R Bool := fun s => (f s).bind fun b s => .ok (!b) s
def eIf (t : S → R Bool) (f g : S → R Res) : S → R Res := fun s => (t s).bind fun b s => if b = true then f s else g s
def eAnd (f g : S → R Res) : S → R Res := fun s => (f s).bind fun x s => match peek s x with
  | some (.bl b) => if b = true then g s else .ok (.val (.bl false)) s
  | _ => .stuck
def eOr (f g : S → R Res) : S → R Res := fun s => (f s).bind fun x s => match peek s x with
  | some (.bl b) => if b = true then .ok (.val (.bl true)) s else g s
  | _ => .stuck
def eNot (f : S → R Res) : S → R Res := fun s => (f s).bind fun x s => match peek s x with
  | some (.bl b) => .ok (.val (.bl (!b))) s
  | _ => .stuck
section
variable {X : Cx} {a b c : Expr} {rest : List Expr} {fa fb : S → R Res} {ta tb tc : S → R Bool} {pos : Pos}
theorem SW.st (h : SW X a ta) : ST X a ta := fun W tk => (h W tk).pt
theorem sw_and1 (ha : ST X a ta) : SW X (.BoolOp .And [a] pos) ta := fun W tk => pw_and1 (ha W tk)
theorem sw_or1 (ha : ST X a ta) : SW X (.BoolOp .Or [a] pos) ta := fun W tk => pw_or1 (ha W tk)
theorem sw_and (ha : ST X a ta) (hb : SW X (.BoolOp .And (b :: rest) pos) tb) : SW X (.BoolOp .And (a :: b :: rest) pos) (tAndS ta tb) := fun W tk =>
  PW.imp (pw_and (ha W tk) (hb W tk)) fun σ H Q ⟨s, τ, rel, post⟩ => run1 (.refl _ _) rel post fun x s2 v τ2 H2 ev rel2 r1 p => by
    cases (show v = x from r1)
    cases x with
    | true => exact ⟨s2, τ2, rel2, Post.shift bBool p ev⟩
    | false => exact p false τ2 H2 ev rel2 rfl
theorem sw_or (ha : ST X a ta) (hb : SW X (.BoolOp .Or (b :: rest) pos) tb) : SW X (.BoolOp .Or (a :: b :: rest) pos) (tOrS ta tb) := fun W tk =>
  PW.imp (pw_or (ha W tk) (hb W tk)) fun σ H Q ⟨s, τ, rel, post⟩ => run1 (.refl _ _) rel post fun x s2 v τ2 H2 ev rel2 r1 p => by
    cases (show v = x from r1)
    cases x with
    | false => exact ⟨s2, τ2, rel2, Post.shift bBool p ev⟩
    | true => exact p true τ2 H2 ev rel2 rfl
theorem st_not (ha : ST X a ta) : ST X (.UnaryOp .Not a pos) (tNotS ta) := fun W tk =>
  PT.imp (pt_not (ha W tk)) fun σ H Q ⟨s, τ, rel, post⟩ => run1 (.refl _ _) rel post fun x s2 v τ2 H2 ev rel2 r1 p => by
    cases (show v = x from r1)
    exact p (!x) τ2 H2 ev rel2 rfl
theorem se_if (hc : ST X c tc) (ha : SE X a fa) (hb : SE X b fb) : SE X (.IfExp c a b pos) (eIf tc fa fb) := fun W tk =>
  PE.imp (pe_ifExp (hc W tk) (ha W tk) (hb W tk)) fun σ H Q ⟨s, τ, rel, post⟩ => run1 (.refl _ _) rel post fun x s2 v τ2 H2 ev rel2 r1 p => by
    cases (show v = x from r1)
    cases x with
    | true => exact ⟨s2, τ2, rel2, Post.shift bRes p ev⟩
    | false => exact ⟨s2, τ2, rel2, Post.shift bRes p ev⟩
theorem se_one {op : BoolOp} (ha : SE X a fa) : SE X (.BoolOp op [a] pos) fa := fun W tk => pe_one (ha W tk)
theorem se_and (ha : SE X a fa) (hb : SE X (.BoolOp .And (b :: rest) pos) fb) : SE X (.BoolOp .And (a :: b :: rest) pos) (eAnd fa fb) := fun W tk =>
  PE.imp (pe_and (ha W tk) (hb W tk)) fun σ H Q ⟨s, τ, rel, post⟩ => run1 (.refl _ _) rel post fun x s2 v τ2 H2 ev rel2 r1 p => by
    split at p
    · rename_i k ex
      refine ⟨k, (RelR.isT rel2 r1 ex).bl, ?_⟩
      cases k with
      | true => exact ⟨s2, τ2, rel2, Post.shift bRes p ev⟩
      | false => exact p (.bl false) τ2 H2 ev rel2 (.bl false)
    · exact p.elim
theorem se_or (ha : SE X a fa) (hb : SE X (.BoolOp .Or (b :: rest) pos) fb) : SE X (.BoolOp .Or (a :: b :: rest) pos) (eOr fa fb) := fun W tk =>
  PE.imp (pe_or (ha W tk) (hb W tk)) fun σ H Q ⟨s, τ, rel, post⟩ => run1 (.refl _ _) rel post fun x s2 v τ2 H2 ev rel2 r1 p => by
    split at p
    · rename_i k ex
      refine ⟨k, (RelR.isT rel2 r1 ex).bl, ?_⟩
      cases k with
      | false => exact ⟨s2, τ2, rel2, Post.shift bRes p ev⟩
      | true => exact p (.bl true) τ2 H2 ev rel2 (.bl true)
    · exact p.elim
theorem se_not (ha : SE X a fa) : SE X (.UnaryOp .Not a pos) (eNot fa) := fun W tk =>
  PE.imp (pe_not (ha W tk)) fun σ H Q ⟨s, τ, rel, post⟩ => run1 (.refl _ _) rel post fun x s2 v τ2 H2 ev rel2 r1 p => by
    split at p
    · rename_i k ex
      exact ⟨k, (RelR.isT rel2 r1 ex).bl, p (.bl (!k)) τ2 H2 ev rel2 (.bl _)⟩
    · exact p.elim
end
end Sv

/-! Sv, part D: operators over trees. -/
namespace Sv
open PySem PySem.Spec PyProof.Rows L2
variable [Tb]

def szok (n : Nat) : Bool := decide (n ≤ 1000000)
theorem szok_le {n : Nat} (h : szok n = true) : n ≤ sizeLine := Nat.le_trans (of_decide_eq_true h) (by decide)
theorem szok_lt {n : Nat} (h : szok n = true) : n < sizeLine := Nat.lt_of_le_of_lt (of_decide_eq_true h) (by decide)

/-! ### + - * // % ** and the minus sign -/
def opAdd : T → T → Option (Bool × T)
  | .int i, .int j => some (false, .int (i + j))
  | .lst a, .lst b => if szok (a.length + b.length) = true then some (true, .lst (a ++ b)) else none
  | .tup a, .tup b => if szok (a.length + b.length) = true then some (false, .tup (a ++ b)) else none
  | .str a, .str b => if szok (a.length + b.length) = true then some (false, .str (a ++ b)) else none
  | _, _ => none
def opSub : T → T → Option (Bool × T)
  | .int i, .int j => some (false, .int (i - j))
  | .bl p, .bl q => some (false, .int (b2i p - b2i q))
  | _, _ => none
def mulOk (i j : Int) : Bool := decide (i.natAbs < 18446744073709551616) || decide (j.natAbs < 18446744073709551616) || decide (i.natAbs.log2 + j.natAbs.log2 < 1000000)
def opMul : T → T → Option (Bool × T)
  | .int i, .int j => if mulOk i j = true then some (false, .int (i * j)) else none
  | .lst a, .int k => if szok (a.length * k.toNat) = true ∧ k ≤ 1000000 ∧ -1000000 ≤ k then some (true, .lst (List.replicate k.toNat a).flatten) else none
  | _, _ => none
def opDiv : T → T → Option (Bool × T)
  | .int i, .int j => if 0 < j ∧ j.natAbs.log2 < 9000 then some (false, .int (i / j)) else if j < 0 ∧ j.natAbs.log2 < 9000 then some (false, .int (i.fdiv j)) else none
  | _, _ => none
def opMod : T → T → Option (Bool × T)
  | .int i, .int j => if 0 < j then some (false, .int (i % j)) else if j < 0 then some (false, .int (i.fmod j)) else none
  | _, _ => none
def opPow : T → T → Option (Bool × T)
  | .int i, .int j => if 0 ≤ j ∧ j ≤ 1000000 ∧ i.natAbs < 18446744073709551616 then some (false, .int (i ^ j.toNat)) else none
  | _, _ => none
def opNeg : T → Option (Bool × T)
  | .int i => some (false, .int (-i))
  | _ => none

section
variable {M : Md} {τ : Tg} {H : Hp} {b : Bool} {t : T} {Q : VK}
theorem Gives.at_ {v : V} (g : Gives M τ H b t Q) (hb : b = false) (h : Rp M τ H t v) : Q v H := g.1 hb v h
theorem Rps.ne_nil {ts : List T} {vs : List V} (h : Rps M τ H ts vs) : ts = [] ↔ vs = [] := by cases h <;> simp
theorem og_add : OpG M (fun x y H Q => (fun x y H Q => rI0 (fun i j => .int (i + j)) x y H Q ∨ rCat x y H Q) x y H Q ∨ (fun x y H Q => rCatA M.K x y H Q ∨ (∃ i j, x = .str i ∧ y = .str j ∧ i.length + j.length ≤ sizeLine ∧ Q (.str (i ++ j)) H)) x y H Q) opAdd := by
  intro τ H tx ty x y b t Q hx hy hg g
  unfold opAdd at hg
  split at hg
  · cases hg
    exact .inl (.inl ⟨_, _, hx.int, hy.int, g.1 rfl _ (.int _)⟩)
  · rename_i a c
    split at hg <;> cases hg
    rename_i hz
    obtain ⟨p, xs, rfl, e1, r1⟩ := hx.lst
    obtain ⟨q, ys, rfl, e2, r2⟩ := hy.lst
    have hz := szok_le hz
    rw [r1.length, r2.length] at hz
    exact .inl (.inr ⟨p, q, xs, ys, rfl, rfl, e1, e2, hz, fun n hn => g.2 n _ hn ⟨_, rfl, r1.append r2⟩⟩)
  · rename_i a c
    split at hg <;> cases hg
    rename_i hz
    obtain ⟨p, xs, rfl, e1, r1⟩ := hx.tup
    obtain ⟨q, ys, rfl, e2, r2⟩ := hy.tup
    have hz := szok_le hz
    rw [r1.length, r2.length] at hz
    refine .inr (.inl ⟨p, q, xs, ys, rfl, rfl, e1.sq, e2.sq, hz, fun z => ?_, fun _ z => ?_, fun _ _ n hn => g.2 n _ hn ⟨rfl, _, rfl, r1.append r2⟩⟩)
    · have z2 := r1.ne_nil.mpr z
      refine g.1 rfl _ ?_
      rw [z2]
      exact .tup e2 r2
    · have z2 := r2.ne_nil.mpr z
      refine g.1 rfl _ ?_
      rw [z2, List.append_nil]
      exact .tup e1 r1
  · rename_i a c
    split at hg <;> cases hg
    rename_i hz
    exact .inr (.inr ⟨a, c, hx.str, hy.str, szok_le hz, g.1 rfl _ (.str _)⟩)
  · cases hg
def rBB (f : Bool → Bool → Int) : R2 := fun x y H Q => ∃ p q, x = .bl p ∧ y = .bl q ∧ Q (.int (f p q)) H
theorem op_subB {X : Cx} : OpR X (binaryOp .Sub) (rBB fun p q => b2i p - b2i q) := by
  intro pins s σ H x y v u Q I rx ry h
  obtain ⟨p, q, rfl, rfl, k⟩ := h
  cases rx
  cases ry
  exact sub_bool ⟨.int (b2i p - b2i q), H, I.tok _, ⟨_, rfl⟩, k⟩
theorem og_sub : OpG M (fun x y H Q => rI0 (fun i j => .int (i - j)) x y H Q ∨ rBB (fun p q => b2i p - b2i q) x y H Q) opSub := by
  intro τ H tx ty x y b t Q hx hy hg g
  unfold opSub at hg
  split at hg
  · cases hg
    exact .inl ⟨_, _, hx.int, hy.int, g.1 rfl _ (.int _)⟩
  · cases hg
    exact .inr ⟨_, _, hx.bl, hy.bl, g.1 rfl _ (.int _)⟩
  · cases hg
theorem abs64 {i : Int} (h : i.natAbs < 18446744073709551616) : -(2 ^ 64) < i ∧ i < 2 ^ 64 := by
  constructor <;> omega
theorem og_mul : OpG M (fun x y H Q => (fun x y H Q => rI CMul (fun i j => .int (i * j)) x y H Q ∨ rI CMulW (fun i j => .int (i * j)) x y H Q) x y H Q ∨ rRep x y H Q) opMul := by
  intro τ H tx ty x y b t Q hx hy hg g
  unfold opMul at hg
  split at hg
  · rename_i i j
    split at hg <;> cases hg
    rename_i hz
    unfold mulOk at hz
    rw [Bool.or_eq_true, Bool.or_eq_true] at hz
    rcases hz with (hz | hz) | hz
    · exact .inl (.inl ⟨_, _, hx.int, hy.int, .inl (abs64 (of_decide_eq_true hz)), g.1 rfl _ (.int _)⟩)
    · exact .inl (.inl ⟨_, _, hx.int, hy.int, .inr (abs64 (of_decide_eq_true hz)), g.1 rfl _ (.int _)⟩)
    · have hz' : i.natAbs.log2 + j.natAbs.log2 < 1000000 := of_decide_eq_true hz
      exact .inl (.inr ⟨_, _, hx.int, hy.int, hz', g.1 rfl _ (.int _)⟩)
  · rename_i a k
    split at hg <;> cases hg
    rename_i hz
    obtain ⟨p, xs, rfl, e1, r1⟩ := hx.lst
    obtain ⟨h1, h2, h3⟩ := hz
    have h1 := szok_le h1
    rw [r1.length] at h1
    refine .inr ⟨p, k, xs, rfl, hy.int, e1, by omega, by omega, h1, fun n hn => g.2 n _ hn ⟨_, rfl, ?_⟩⟩
    have rep : ∀ m : Nat, Rps M τ H (List.replicate m a).flatten (List.replicate m xs).flatten := fun m => by
      induction m with
      | zero => exact .nil
      | succ m ih => rw [List.replicate_succ, List.replicate_succ, List.flatten_cons, List.flatten_cons]; exact r1.append ih
    exact rep _
  · cases hg
/-- a divisor that is not 0 -/
abbrev CDivA : Int → Int → Prop := fun _ j => j ≠ 0 ∧ j.natAbs.log2 < 9000
theorem op_fdivA {X : Cx} : OpR X (binaryOp .FloorDiv) (rI CDivA fun i j => .int (i.fdiv j)) := opI fun _ _ _ _ _ _ _ hc q => floordiv_int hc.1 q (.inl (PyProof.noPylong_of_log2 hc.2))
theorem og_div : OpG M (fun x y H Q => rI CDivW (fun i j => .int (i / j)) x y H Q ∨ rI CDivA (fun i j => .int (i.fdiv j)) x y H Q) opDiv := by
  intro τ H tx ty x y b t Q hx hy hg g
  unfold opDiv at hg
  split at hg
  · rename_i i j
    split at hg
    · rename_i h
      cases hg
      exact .inl ⟨_, _, hx.int, hy.int, h, g.1 rfl _ (.int _)⟩
    · split at hg <;> cases hg
      rename_i h
      exact .inr ⟨_, _, hx.int, hy.int, ⟨by omega, h.2⟩, g.1 rfl _ (.int _)⟩
  · cases hg
theorem og_mod : OpG M (fun x y H Q => rI (fun _ j => 0 < j) (fun i j => .int (i % j)) x y H Q ∨ rI (fun _ j => j ≠ 0) (fun i j => .int (i.fmod j)) x y H Q) opMod := by
  intro τ H tx ty x y b t Q hx hy hg g
  unfold opMod at hg
  split at hg
  · rename_i i j
    split at hg
    · rename_i h
      cases hg
      exact .inl ⟨_, _, hx.int, hy.int, h, g.1 rfl _ (.int _)⟩
    · split at hg <;> cases hg
      rename_i h
      exact .inr ⟨_, _, hx.int, hy.int, by omega, g.1 rfl _ (.int _)⟩
  · cases hg
theorem og_pow : OpG M (rI CPow fun i j => .int (i ^ j.toNat)) opPow := by
  intro τ H tx ty x y b t Q hx hy hg g
  unfold opPow at hg
  split at hg
  · rename_i i j
    split at hg <;> cases hg
    rename_i h
    exact ⟨_, _, hx.int, hy.int, ⟨h.1, h.2.1, by rw [show (2 : Nat) ^ 64 = 18446744073709551616 by decide]; exact h.2.2⟩, g.1 rfl _ (.int _)⟩
  · cases hg
theorem ug_neg : UnG M (rU fun i => .int (-i)) opNeg := by
  intro τ H tx x b t Q hx hg g
  unfold opNeg at hg
  split at hg
  · cases hg
    exact ⟨_, hx.int, g.1 rfl _ (.int _)⟩
  · cases hg
end
section
variable {X : Cx} {a b : Expr} {fa fb : S → R Res} {pos : Pos}
theorem se_add (ha : SE X a fa) (hb : SE X b fb) : SE X (.BinOp a .Add b pos) (eBin opAdd fa fb) := se_bin ((op_add.or op_cat).or (op_catA.or op_add_str)) og_add ha hb
theorem se_sub (ha : SE X a fa) (hb : SE X b fb) : SE X (.BinOp a .Sub b pos) (eBin opSub fa fb) := se_bin (op_sub.or op_subB) og_sub ha hb
theorem se_mul (ha : SE X a fa) (hb : SE X b fb) : SE X (.BinOp a .Mult b pos) (eBin opMul fa fb) := se_bin ((op_mul.or op_mulW).or op_rep) og_mul ha hb
theorem se_div (ha : SE X a fa) (hb : SE X b fb) : SE X (.BinOp a .FloorDiv b pos) (eBin opDiv fa fb) := se_bin (op_fdivW.or op_fdivA) og_div ha hb
theorem se_mod (ha : SE X a fa) (hb : SE X b fb) : SE X (.BinOp a .Mod b pos) (eBin opMod fa fb) := se_bin (op_mod.or op_modN) og_mod ha hb
theorem se_pow (ha : SE X a fa) (hb : SE X b fb) : SE X (.BinOp a .Pow b pos) (eBin opPow fa fb) := se_bin op_pow og_pow ha hb
theorem se_neg (ha : SE X a fa) : SE X (.UnaryOp .USub a pos) (eUn opNeg fa) := se_un un_neg ug_neg ha
end

/-! ### equality at any depth -/
mutual
def T.eqv : T → T → Bool
  | .non, .non => true
  | .bl a, .bl b => a == b
  | .bl a, .int j => (if a then 1 else 0) == j
  | .int i, .bl b => i == (if b then 1 else 0)
  | .int i, .int j => i == j
  | .str x, .str y => x == y
  | .lst xs, .lst ys => T.eqvs xs ys
  | .tup xs, .tup ys => T.eqvs xs ys
  | _, _ => false
def T.eqvs : List T → List T → Bool
  | [], [] => true
  | x :: xs, y :: ys => T.eqv x y && T.eqvs xs ys
  | _, _ => false
end
mutual
/-- plain data of at most that depth -/
def T.shp : Nat → T → Bool
  | _, .non => true
  | _, .bl _ => true
  | _, .int _ => true
  | _, .str x => PyData.strOk x
  | 0, _ => false
  | n + 1, .tup ts => T.shps n ts
  | n + 1, .lst ts => T.shps n ts
  | _, _ => false
def T.shps : Nat → List T → Bool
  | _, [] => true
  | n, t :: ts => T.shp n t && T.shps n ts
end
mutual
def T.dat : T → PyData
  | .bl b => .bool b
  | .int i => .int i
  | .str x => .str x
  | .tup ts => .tuple (T.dats ts)
  | .lst ts => .list (T.dats ts)
  | _ => .none
def T.dats : List T → List PyData
  | [] => []
  | t :: ts => T.dat t :: T.dats ts
end
mutual
theorem T.shp_ok : ∀ (n : Nat) (t : T), T.shp n t = true → (T.dat t).canLay0 = true ∧ (T.dat t).depth ≤ n
  | n, .non, _ => by cases n <;> simp [T.dat, PyData.canLay0, PyData.depth]
  | n, .bl _, _ => by cases n <;> simp [T.dat, PyData.canLay0, PyData.depth]
  | n, .int _, _ => by cases n <;> simp [T.dat, PyData.canLay0, PyData.depth]
  | n, .str x, h => by
    have h' : PyData.strOk x = true := by cases n <;> simpa [T.shp] using h
    simp [T.dat, PyData.canLay0, PyData.depth, h']
  | 0, .tup _, h => by simp [T.shp] at h
  | 0, .lst _, h => by simp [T.shp] at h
  | n + 1, .tup ts, h => by
    obtain ⟨h1, h2⟩ := T.shps_ok n ts (by simpa [T.shp] using h)
    simp only [T.dat, PyData.canLay0, PyData.depth]
    exact ⟨h1, by omega⟩
  | n + 1, .lst ts, h => by
    obtain ⟨h1, h2⟩ := T.shps_ok n ts (by simpa [T.shp] using h)
    simp only [T.dat, PyData.canLay0, PyData.depth]
    exact ⟨h1, by omega⟩
  | 0, .dct _ _, h => by simp [T.shp] at h
  | n + 1, .dct _ _, h => by simp [T.shp] at h
  | 0, .obj _, h => by simp [T.shp] at h
  | n + 1, .obj _, h => by simp [T.shp] at h
  | 0, .gl _, h => by simp [T.shp] at h
  | n + 1, .gl _, h => by simp [T.shp] at h
  | 0, .lam _, h => by simp [T.shp] at h
  | n + 1, .lam _, h => by simp [T.shp] at h
  | 0, .scr _, h => by simp [T.shp] at h
  | 0, .tupl _, h => by simp [T.shp] at h
  | n + 1, .tupl _, h => by simp [T.shp] at h
  | n + 1, .scr _, h => by simp [T.shp] at h
theorem T.shps_ok : ∀ (n : Nat) (ts : List T), T.shps n ts = true → PyData.canLayAll0 (T.dats ts) = true ∧ PyData.depthAll (T.dats ts) ≤ n
  | n, [], _ => by simp [T.dats, PyData.canLayAll0, PyData.depthAll]
  | n, t :: ts, h => by
    have h' : T.shp n t = true ∧ T.shps n ts = true := by simpa [T.shps] using h
    obtain ⟨a1, a2⟩ := T.shp_ok n t h'.1
    obtain ⟨b1, b2⟩ := T.shps_ok n ts h'.2
    simp only [T.dats, PyData.canLayAll0, PyData.depthAll]
    exact ⟨by rw [a1, b1]; rfl, by omega⟩
end
theorem T.shaped {t : T} (h : T.shp 60 t = true) : SeqAt.shaped (T.dat t) = true := by
  obtain ⟨h1, h2⟩ := T.shp_ok 60 t h
  unfold SeqAt.shaped
  rw [h1, Bool.true_and, decide_eq_true_eq]
  omega
mutual
theorem T.eqv_dat : ∀ (n m : Nat) (t u : T), T.shp n t = true → T.shp m u = true → PyData.eqv (T.dat t) (T.dat u) = T.eqv t u
  | n, m, .lst xs, .lst ys, h, k => by
    cases n with
    | zero => simp [T.shp] at h
    | succ n =>
      cases m with
      | zero => simp [T.shp] at k
      | succ m =>
        simp only [T.dat, PyData.eqv, T.eqv]
        exact T.eqvs_dat n m xs ys (by simpa [T.shp] using h) (by simpa [T.shp] using k)
  | n, m, .tup xs, .tup ys, h, k => by
    cases n with
    | zero => simp [T.shp] at h
    | succ n =>
      cases m with
      | zero => simp [T.shp] at k
      | succ m =>
        simp only [T.dat, PyData.eqv, T.eqv]
        exact T.eqvs_dat n m xs ys (by simpa [T.shp] using h) (by simpa [T.shp] using k)
  | n, m, .non, u, h, k => by cases u <;> first | (simp [T.dat, PyData.eqv, T.eqv]; done) | (cases m <;> simp [T.shp] at k)
  | n, m, .bl _, u, h, k => by cases u <;> first | (simp [T.dat, PyData.eqv, T.eqv]; done) | (cases m <;> simp [T.shp] at k)
  | n, m, .int _, u, h, k => by cases u <;> first | (simp [T.dat, PyData.eqv, T.eqv]; done) | (cases m <;> simp [T.shp] at k)
  | n, m, .str _, u, h, k => by cases u <;> first | (simp [T.dat, PyData.eqv, T.eqv]; done) | (cases m <;> simp [T.shp] at k)
  | n, m, .dct _ _, u, h, k => by cases n <;> simp [T.shp] at h
  | n, m, .obj _, u, h, k => by cases n <;> simp [T.shp] at h
  | n, m, .gl _, u, h, k => by cases n <;> simp [T.shp] at h
  | n, m, .lam _, u, h, k => by cases n <;> simp [T.shp] at h
  | n, m, .scr _, u, h, k => by cases n <;> simp [T.shp] at h
  | n, m, .tupl _, u, h, k => by cases n <;> simp [T.shp] at h
  | n, m, .lst _, .non, h, k => by simp [T.dat, PyData.eqv, T.eqv]
  | n, m, .lst _, .bl _, h, k => by simp [T.dat, PyData.eqv, T.eqv]
  | n, m, .lst _, .int _, h, k => by simp [T.dat, PyData.eqv, T.eqv]
  | n, m, .lst _, .str _, h, k => by simp [T.dat, PyData.eqv, T.eqv]
  | n, m, .lst _, .tup _, h, k => by simp [T.dat, PyData.eqv, T.eqv]
  | n, m, .lst _, .dct _ _, h, k => by cases m <;> simp [T.shp] at k
  | n, m, .lst _, .obj _, h, k => by cases m <;> simp [T.shp] at k
  | n, m, .lst _, .gl _, h, k => by cases m <;> simp [T.shp] at k
  | n, m, .lst _, .lam _, h, k => by cases m <;> simp [T.shp] at k
  | n, m, .lst _, .scr _, h, k => by cases m <;> simp [T.shp] at k
  | n, m, .lst _, .tupl _, h, k => by cases m <;> simp [T.shp] at k
  | n, m, .tup _, .non, h, k => by simp [T.dat, PyData.eqv, T.eqv]
  | n, m, .tup _, .bl _, h, k => by simp [T.dat, PyData.eqv, T.eqv]
  | n, m, .tup _, .int _, h, k => by simp [T.dat, PyData.eqv, T.eqv]
  | n, m, .tup _, .str _, h, k => by simp [T.dat, PyData.eqv, T.eqv]
  | n, m, .tup _, .lst _, h, k => by simp [T.dat, PyData.eqv, T.eqv]
  | n, m, .tup _, .dct _ _, h, k => by cases m <;> simp [T.shp] at k
  | n, m, .tup _, .obj _, h, k => by cases m <;> simp [T.shp] at k
  | n, m, .tup _, .gl _, h, k => by cases m <;> simp [T.shp] at k
  | n, m, .tup _, .lam _, h, k => by cases m <;> simp [T.shp] at k
  | n, m, .tup _, .scr _, h, k => by cases m <;> simp [T.shp] at k
  | n, m, .tup _, .tupl _, h, k => by cases m <;> simp [T.shp] at k
theorem T.eqvs_dat : ∀ (n m : Nat) (ts us : List T), T.shps n ts = true → T.shps m us = true → PyData.eqvAll (T.dats ts) (T.dats us) = T.eqvs ts us
  | _, _, [], [], _, _ => by simp [T.dats, PyData.eqvAll, T.eqvs]
  | _, _, [], _ :: _, _, _ => by simp [T.dats, PyData.eqvAll, T.eqvs]
  | _, _, _ :: _, [], _, _ => by simp [T.dats, PyData.eqvAll, T.eqvs]
  | n, m, t :: ts, u :: us, h, k => by
    have h' : T.shp n t = true ∧ T.shps n ts = true := by simpa [T.shps] using h
    have k' : T.shp m u = true ∧ T.shps m us = true := by simpa [T.shps] using k
    simp only [T.dats, PyData.eqvAll, T.eqvs, T.eqv_dat n m t u h'.1 k'.1, T.eqvs_dat n m ts us h'.2 k'.2]
end
section
variable {M : Md} {τ : Tg} {H : Hp}
mutual
theorem Rp.dp : ∀ {n : Nat} {t : T} {v : V}, Rp M τ H t v → T.shp n t = true → Dp M.K H v (T.dat t)
  | _, _, _, .non, _ => by simp only [T.dat]; exact .non
  | _, _, _, .bl b, _ => by simp only [T.dat]; exact .bl b
  | _, _, _, .int i, _ => by simp only [T.dat]; exact .int i
  | _, _, _, .str x, _ => by simp only [T.dat]; exact .str x
  | 0, _, _, .tup h r, k => by simp [T.shp] at k
  | 0, _, _, .lst h r, k => by simp [T.shp] at k
  | n + 1, _, _, .tup h r, k => by simp only [T.dat]; exact .tup h.sq (Rps.dp r (by simpa [T.shp] using k))
  | n + 1, _, _, .lst h r, k => by simp only [T.dat]; exact .lst h.sq (Rps.dp r (by simpa [T.shp] using k))
  | n, _, _, .gl _ _, k => by cases n <;> simp [T.shp] at k
  | n, _, _, .obj _, k => by cases n <;> simp [T.shp] at k
  | n, _, _, .scr _, k => by cases n <;> simp [T.shp] at k
  | n, _, _, .dct _ _ _, k => by cases n <;> simp [T.shp] at k
  | n, _, _, .tupl _ _, k => by cases n <;> simp [T.shp] at k
  | n, _, _, .lam _ _ _ _, k => by cases n <;> simp [T.shp] at k
theorem Rps.dp : ∀ {n : Nat} {ts : List T} {vs : List V}, Rps M τ H ts vs → T.shps n ts = true → DpAll M.K H vs (T.dats ts)
  | _, _, _, .nil, _ => by simp only [T.dats]; exact .nil
  | n, _, _, .cons h r, k => by
    rw [T.shps, Bool.and_eq_true] at k
    simp only [T.dats]
    exact .cons (Rp.dp h k.1) (Rps.dp r k.2)
end
theorem IsT.dp {n : Nat} {t : T} {v : V} (h : IsT M τ H t v) (k : T.shp n t = true) : Dp M.K H v (T.dat t) := by
  rcases h with h | ⟨a, rfl, h⟩
  · exact h.dp k
  · cases t <;> first | exact h.elim | skip
    obtain ⟨vs, h1, h2⟩ := h.lst
    cases n with
    | zero => simp [T.shp] at k
    | succ n =>
      simp only [T.dat]
      exact .lst (.inl (.inl h1)) (h2.dp (by simpa [T.shp] using k))
end
def opEq : T → T → Option (Bool × T) := fun x y => if T.shp 60 x = true ∧ T.shp 60 y = true then some (false, .bl (T.eqv x y)) else none
def opNe : T → T → Option (Bool × T) := fun x y => if T.shp 60 x = true ∧ T.shp 60 y = true then some (false, .bl (!T.eqv x y)) else none
theorem og_eq {M : Md} : OpG M (rEqD M.K) opEq := by
  intro τ H tx ty x y b t Q hx hy hg g
  unfold opEq at hg
  split at hg <;> cases hg
  rename_i h
  exact ⟨_, _, hx.dp h.1, hy.dp h.2, T.shaped h.1, T.shaped h.2, by rw [T.eqv_dat 60 60 _ _ h.1 h.2]; exact g.1 rfl _ (.bl _)⟩
theorem og_ne {M : Md} : OpG M (rNeD M.K) opNe := by
  intro τ H tx ty x y b t Q hx hy hg g
  unfold opNe at hg
  split at hg <;> cases hg
  rename_i h
  exact ⟨_, _, hx.dp h.1, hy.dp h.2, T.shaped h.1, T.shaped h.2, by rw [T.eqv_dat 60 60 _ _ h.1 h.2]; exact g.1 rfl _ (.bl _)⟩
def opIs : T → T → Option (Bool × T) := fun x y => match y with
  | .non => some (false, .bl (match x with | .non => true | _ => false))
  | _ => none
def opIsNot : T → T → Option (Bool × T) := fun x y => match y with
  | .non => some (false, .bl (match x with | .non => false | _ => true))
  | _ => none
end Sv

/-! Sv, part E: is None, order, in, chains, arguments, displays, places of sequences, slices, built-ins. -/
namespace Sv
open PySem PySem.Spec PyProof.Rows L2
variable [Tb]

/-! ### is None -/
def isN : T → Option Bool
  | .non => some true
  | .bl _ => some false
  | .int _ => some false
  | .str _ => some false
  | .tup _ => some false
  | .lst _ => some false
  | .obj _ => some false
  | .scr _ => some false
  | _ => none
theorem IsT.isN {M : Md} {τ : Tg} {H : Hp} {t : T} {v : V} {b : Bool} (h : IsT M τ H t v) (k : Sv.isN t = some b) : decide (v = .non) = b := by
  rcases h with h | ⟨a, rfl, h⟩
  · cases h <;> simp [Sv.isN] at k <;> subst k <;> simp
  · cases t <;> first | exact h.elim | (simp [Sv.isN] at k; subst k; simp)
def eIs (neg : Bool) (fa : S → R Res) : S → R Res := eUn (fun t => (isN t).map fun b => (false, T.bl (xor neg b))) fa
section
variable {X : Cx} {a b c : Expr} {fa fb fc : S → R Res} {pos : Pos}
theorem isN_run {W : WX} {M : Md} {neg : Bool} {σ : L2.St} {H : Hp} {Q : VK} (h : tG M (RRes M) (eIs neg fa) W σ H Q) : tG M (RRes M) fa W σ H fun x H1 => Q (.bl (xor neg (decide (x = .non)))) H1 := by
  obtain ⟨s, τ, rel, post⟩ := h
  refine run1 (.refl _ _) rel post fun x s2 v τ2 H2 ev rel2 r1 p => ?_
  split at p
  · rename_i tx ex
    dsimp only at p
    cases e : isN tx with
    | none => rw [e] at p; exact p.elim
    | some k =>
      rw [e] at p
      rw [(RelR.isT rel2 r1 ex).isN e]
      exact p (.bl (xor neg k)) τ2 H2 ev rel2 (.bl _)
  · exact p.elim
theorem se_isN {j : Nat} {p2 : Pos} (ha : SE X a fa) : SE X (.Compare a [.Is] [.Constant .none j p2] pos) (eIs false fa) := fun W tk =>
  PE.imp (pe_cmp (pc_isN (ha W tk))) fun σ H Q h => by
    have := isN_run h
    simpa [tIsN] using this
theorem se_notN {j : Nat} {p2 : Pos} (ha : SE X a fa) : SE X (.Compare a [.IsNot] [.Constant .none j p2] pos) (eIs true fa) := fun W tk =>
  PE.imp (pe_cmp (pc_notN (ha W tk))) fun σ H Q h => by
    have := isN_run h
    simpa [tNotN] using this
theorem st_isN {j : Nat} {p2 : Pos} (ha : SE X a fa) : ST X (.Compare a [.Is] [.Constant .none j p2] pos) (tTst (eIs false fa)) := fun W tk =>
  PT.imp (pt_cmp (pc_isN (ha W tk))) fun σ H Q h => by
    have := isN_run (tst_run h)
    simpa [tB, tIsN] using this
theorem st_notN {j : Nat} {p2 : Pos} (ha : SE X a fa) : ST X (.Compare a [.IsNot] [.Constant .none j p2] pos) (tTst (eIs true fa)) := fun W tk =>
  PT.imp (pt_cmp (pc_notN (ha W tk))) fun σ H Q h => by
    have := isN_run (tst_run h)
    simpa [tB, tNotN] using this
end

/-! ### order of ints, equality -/
def opLt : T → T → Option (Bool × T)
  | .int i, .int j => some (false, .bl (decide (i < j)))
  | _, _ => none
def opLe : T → T → Option (Bool × T)
  | .int i, .int j => some (false, .bl (decide (i ≤ j)))
  | _, _ => none
def opGt : T → T → Option (Bool × T)
  | .int i, .int j => some (false, .bl (decide (j < i)))
  | _, _ => none
def opGe : T → T → Option (Bool × T)
  | .int i, .int j => some (false, .bl (decide (j ≤ i)))
  | _, _ => none
section
variable {M : Md}
theorem og_cmpI {g : T → T → Option (Bool × T)} {f : Int → Int → Bool} (hg : ∀ tx ty b t, g tx ty = some (b, t) → ∃ i j, tx = .int i ∧ ty = .int j ∧ b = false ∧ t = .bl (f i j)) : OpG M (rI0 fun i j => .bl (f i j)) g := by
  intro τ H tx ty x y b t Q hx hy e g
  obtain ⟨i, j, rfl, rfl, rfl, rfl⟩ := hg _ _ _ _ e
  exact ⟨i, j, hx.int, hy.int, g.1 rfl _ (.bl _)⟩
theorem og_lt : OpG M (rI0 fun i j => .bl (decide (i < j))) opLt := og_cmpI fun tx ty b t e => by
  unfold opLt at e; split at e <;> cases e; exact ⟨_, _, rfl, rfl, rfl, rfl⟩
theorem og_le : OpG M (rI0 fun i j => .bl (decide (i ≤ j))) opLe := og_cmpI fun tx ty b t e => by
  unfold opLe at e; split at e <;> cases e; exact ⟨_, _, rfl, rfl, rfl, rfl⟩
theorem og_gt : OpG M (rI0 fun i j => .bl (decide (j < i))) opGt := og_cmpI fun tx ty b t e => by
  unfold opGt at e; split at e <;> cases e; exact ⟨_, _, rfl, rfl, rfl, rfl⟩
theorem og_ge : OpG M (rI0 fun i j => .bl (decide (j ≤ i))) opGe := og_cmpI fun tx ty b t e => by
  unfold opGe at e; split at e <;> cases e; exact ⟨_, _, rfl, rfl, rfl, rfl⟩
end

/-! ### in -/
def T.flat : T → Bool
  | .non => true
  | .bl _ => true
  | .int _ => true
  | .str _ => true
  | _ => false
def opIn (neg : Bool) : T → T → Option (Bool × T) := fun x y => match y with
  | .lst ts => if T.shp 60 x = true ∧ T.shp 60 (.lst ts) = true then some (false, .bl (xor neg (ts.any fun z => T.eqv z x))) else none
  | .tup ts => if T.flat x = true ∧ ts.all T.flat = true then some (false, .bl (xor neg (ts.any fun z => T.eqv z x))) else none
  | _ => none
section
variable {M : Md} {τ : Tg} {H : Hp}
theorem T.dats_any (n m : Nat) (x : T) (hx : T.shp n x = true) : ∀ ts : List T, T.shps m ts = true → ((T.dats ts).any fun z => PyData.eqv z (T.dat x)) = ts.any fun z => T.eqv z x
  | [], _ => by simp [T.dats]
  | t :: ts, h => by
    rw [T.shps, Bool.and_eq_true] at h
    rw [T.dats, List.any_cons, List.any_cons, T.dats_any n m x hx ts h.2, T.eqv_dat m n t x h.1 hx]
theorem T.flat_v {t : T} {v : V} (h : Rp M τ H t v) (f : T.flat t = true) : flatV v = true := by
  cases h <;> first | rfl | simp [T.flat] at f
theorem T.flat_vs : ∀ {ts : List T} {vs : List V}, Rps M τ H ts vs → ts.all T.flat = true → vs.all flatV = true
  | _, _, .nil, _ => rfl
  | _, _, .cons h r, f => by
    rw [List.all_cons, Bool.and_eq_true] at f
    rw [List.all_cons, T.flat_v h f.1, T.flat_vs r f.2]; rfl
theorem T.flat_eqv {t u : T} {v w : V} (h : Rp M τ H t v) (k : Rp M τ H u w) (f : T.flat t = true) (g : T.flat u = true) : eqV v w = T.eqv t u := by
  cases h <;> first | (simp [T.flat] at f; done) | skip
  all_goals cases k <;> first | (simp [T.flat] at g; done) | simp [eqV, T.eqv]
theorem T.flat_any {x : T} {v : V} (h : Rp M τ H x v) (f : T.flat x = true) : ∀ {ts : List T} {vs : List V}, Rps M τ H ts vs → ts.all T.flat = true → inV v vs = ts.any fun z => T.eqv z x
  | _, _, .nil, _ => rfl
  | _, _, .cons k r, g => by
    rw [List.all_cons, Bool.and_eq_true] at g
    have ih := T.flat_any h f r g.2
    unfold inV at ih ⊢
    rw [List.any_cons, List.any_cons, ih, T.flat_eqv k h g.1 f]
theorem IsT.flat {t : T} {v : V} (h : IsT M τ H t v) (f : T.flat t = true) : Rp M τ H t v := by
  rcases h with h | ⟨a, _, h⟩
  · exact h
  · cases t <;> first | exact h.elim | simp [T.flat] at f
theorem og_in : OpG M (fun x y H Q => rInD M.K x y H Q ∨ rIn M.K false x y H Q) (opIn false) := by
  intro τ H tx ty x y b t Q hx hy hg g
  unfold opIn at hg
  split at hg
  · split at hg <;> cases hg
    rename_i ts h
    refine .inl ⟨_, _, hx.dp h.1, hy.dp h.2, T.shaped h.1, T.shaped h.2, ?_⟩
    have h2 := h.2
    rw [T.shp] at h2
    have e := T.dats_any 60 59 tx h.1 ts h2
    rw [e]
    have := g.1 rfl _ (.bl _)
    simpa using this
  · split at hg <;> cases hg
    rename_i ts h
    obtain ⟨a, vs, rfl, e1, r1⟩ := hy.tup
    have hx := hx.flat h.1
    refine .inr ⟨a, vs, rfl, .inr e1.sq, T.flat_v hx h.1, T.flat_vs r1 h.2, ?_⟩
    rw [T.flat_any hx h.1 r1 h.2]
    have := g.1 rfl _ (.bl _)
    simpa using this
  · cases hg
theorem og_notIn : OpG M (fun x y H Q => rNotInD M.K x y H Q ∨ rIn M.K true x y H Q) (opIn true) := by
  intro τ H tx ty x y b t Q hx hy hg g
  unfold opIn at hg
  split at hg
  · split at hg <;> cases hg
    rename_i ts h
    refine .inl ⟨_, _, hx.dp h.1, hy.dp h.2, T.shaped h.1, T.shaped h.2, ?_⟩
    have h2 := h.2
    rw [T.shp] at h2
    have e := T.dats_any 60 59 tx h.1 ts h2
    rw [e]
    have := g.1 rfl _ (.bl _)
    simpa using this
  · split at hg <;> cases hg
    rename_i ts h
    obtain ⟨a, vs, rfl, e1, r1⟩ := hy.tup
    have hx := hx.flat h.1
    refine .inr ⟨a, vs, rfl, .inr e1.sq, T.flat_v hx h.1, T.flat_vs r1 h.2, ?_⟩
    rw [T.flat_any hx h.1 r1 h.2]
    have := g.1 rfl _ (.bl _)
    simpa using this
  · cases hg
end
section
variable {X : Cx} {a b c : Expr} {fa fb fc : S → R Res} {pos : Pos} {k : Nat}
/-- the room of a body, an except suite not entered -/
structure Rm (X : Cx) (k : Nat) : Prop where
  room : Room k X.A
  calm : X.calm = true
  nd : X.N.Nodup
theorem Rm.u65 (h : Rm X k) : X.A.units + 65 < cLine := by have := h.room.un; omega
theorem Rm.u64 (h : Rm X k) : X.A.units + 64 < cLine := by have := h.room.un; omega
/-- a comparison operator and what it makes of trees -/
inductive CmpG (X : Cx) : CmpOp → (T → T → Option (Bool × T)) → Prop
  | lt : CmpG X .Lt opLt
  | le : CmpG X .LtE opLe
  | gt : CmpG X .Gt opGt
  | ge : CmpG X .GtE opGe
  | eq : X.A.units + 64 < cLine → CmpG X .Eq opEq
  | ne : X.A.units + 64 < cLine → CmpG X .NotEq opNe
  | in_ : X.A.units + 65 < cLine → CmpG X .In (opIn false)
  | notIn : X.A.units + 65 < cLine → CmpG X .NotIn (opIn true)
theorem CmpG.ok {op : CmpOp} {g : T → T → Option (Bool × T)} (h : CmpG X op g) : ∃ r, OpR X (compareOp op) r ∧ OpG (Mx X) r g := by
  cases h with
  | lt => exact ⟨_, op_lt, og_lt⟩
  | le => exact ⟨_, op_le, og_le⟩
  | gt => exact ⟨_, op_gt, og_gt⟩
  | ge => exact ⟨_, op_ge, og_ge⟩
  | eq h => exact ⟨_, op_eqD h, og_eq⟩
  | ne h => exact ⟨_, op_neD h, og_ne⟩
  | in_ h => exact ⟨_, (op_inD h).or op_in_seq, og_in⟩
  | notIn h => exact ⟨_, (op_notInD h).or op_notIn_seq, og_notIn⟩
theorem se_cmpG {op : CmpOp} {g : T → T → Option (Bool × T)} (h : CmpG X op g) (ha : SE X a fa) (hb : SE X b fb) (hm : behindInMarks op b = false) : SE X (.Compare a [op] [b] pos) (eBin g fa fb) := by
  obtain ⟨r, h1, h2⟩ := h.ok
  exact se_cmp h1 h2 ha hb hm
theorem st_cmpG {op : CmpOp} {g : T → T → Option (Bool × T)} (h : CmpG X op g) (ha : SE X a fa) (hb : SE X b fb) (hm : behindInMarks op b = false) : ST X (.Compare a [op] [b] pos) (tTst (eBin g fa fb)) := by
  obtain ⟨r, h1, h2⟩ := h.ok
  exact st_cmp h1 h2 ha hb hm

/-! ### a op b op c -/
def eChn (g h : T → T → Option (Bool × T)) (fa fb fc : S → R Res) : S → R Res := fun s => (fa s).bind fun x s => (fb s).bind fun y s => match peek s x, peek s y with
  | some tx, some ty => (match g tx ty with
    | some (false, .bl true) => (fc s).bind fun z s => match peek s y, peek s z with
      | some ty, some tz => out1 (h ty tz) s
      | _, _ => .stuck
    | some (false, .bl false) => .ok (.val (.bl false)) s
    | _ => .stuck)
  | _, _ => .stuck
theorem chn_run {W : WX} {M : Md} {r r' : R2} {g g' : T → T → Option (Bool × T)} (hg : OpG M r g) (hg' : OpG M r' g') {σ : L2.St} {H : Hp} {Q : VK} (h : tG M (RRes M) (eChn g g' fa fb fc) W σ H Q) :
    tChain r r' (tG M (RRes M) fa W) (tG M (RRes M) fb W) (tG M (RRes M) fc W) σ H Q := by
  obtain ⟨s, τ, rel, post⟩ := h
  refine run2 rel post fun x y s2 v w τ2 H2 ev rel2 r1 r2 p => ?_
  split at p
  · rename_i tx ty ex ey
    have hx := r1.isT rel2 ex
    have hy := r2.isT rel2 ey
    split at p
    · rename_i e
      refine hg τ2 H2 tx ty v w false (.bl true) _ hx hy e ⟨fun _ u hu => ?_, fun p' o _ hn => hn.elim⟩
      cases hu
      refine ⟨true, rfl, ?_⟩
      rw [if_pos rfl]
      refine run1 ev rel2 p fun z s3 u τ3 H3 ev3 rel3 r3 p3 => ?_
      split at p3
      · rename_i ty' tz ey' ez
        have hy' := (RelR.later (s2 := s3) r2 ev3).isT rel3 ey'
        have hz := RelR.isT rel3 r3 ez
        cases e2 : g' ty' tz with
        | none => rw [e2] at p3; exact p3.elim
        | some q =>
          obtain ⟨b, t⟩ := q
          rw [e2] at p3
          exact hg' τ3 H3 ty' tz w u b t Q hy' hz e2 (p3.out (ev.trans ev3) rel3)
      · exact p3.elim
    · rename_i e
      refine hg τ2 H2 tx ty v w false (.bl false) _ hx hy e ⟨fun _ u hu => ?_, fun p' o _ hn => hn.elim⟩
      cases hu
      exact ⟨false, rfl, by rw [if_neg Bool.false_ne_true]; exact p (.bl false) τ2 H2 ev rel2 (.bl false)⟩
    · exact p.elim
  · exact p.elim
theorem se_chn {op op' : CmpOp} {g h : T → T → Option (Bool × T)} (hg : CmpG X op g) (hh : CmpG X op' h) (ha : SE X a fa) (hb : SE X b fb) (hc : SE X c fc) (hm : lastMarks [op, op'] [b, c] = false := by with_unfolding_all rfl) :
    SE X (.Compare a [op, op'] [b, c] pos) (eChn g h fa fb fc) := by
  obtain ⟨r, h1, h2⟩ := hg.ok
  obtain ⟨r', h3, h4⟩ := hh.ok
  exact fun W tk => PE.imp (pe_chain h1 h3 (ha W tk) (hb W tk) (hc W tk) hm) fun σ H Q h => chn_run h2 h4 h
theorem st_chn {op op' : CmpOp} {g h : T → T → Option (Bool × T)} (hg : CmpG X op g) (hh : CmpG X op' h) (ha : SE X a fa) (hb : SE X b fb) (hc : SE X c fc) (hm : lastMarks [op, op'] [b, c] = false := by with_unfolding_all rfl) :
    ST X (.Compare a [op, op'] [b, c] pos) (tTst (eChn g h fa fb fc)) := by
  obtain ⟨r, h1, h2⟩ := hg.ok
  obtain ⟨r', h3, h4⟩ := hh.ok
  exact fun W tk => PT.imp (pt_chain h1 h3 (ha W tk) (hb W tk) (hc W tk) hm) fun σ H Q h => chn_run (Q := fun x H' => ∃ k, x = .bl k ∧ Q k H') h2 h4 (tst_run h)
end
end Sv

/-! Sv, part F: arguments, displays, items, slices, built-in calls. -/
namespace Sv
open PySem PySem.Spec PyProof.Rows L2
variable [Tb]

/-! ### arguments: values that stay -/
def aNil : S → R (List T) := fun s => .ok [] s
def aCons (f : S → R Res) (g : S → R (List T)) : S → R (List T) := fun s => (f s).bind fun r s => match frz s r with
  | some (t, s) => (g s).bind fun ts s => .ok (t :: ts) s
  | none => .stuck
section
variable {X : Cx} {e : Expr} {es : List Expr} {f : S → R Res} {g : S → R (List T)} {pos : Pos} {M : Md}
theorem sa_nil : SA X [] aNil := fun W tk => PA.imp pa_nil fun σ H Q ⟨s, τ, rel, post⟩ => post [] τ H (.refl _ _) rel .nil
theorem cons_run {W : WX} {σ : L2.St} {H : Hp} {Q : List V → Hp → Prop} (h : tG M (RTs M) (aCons f g) W σ H Q) : tCons (tG M (RRes M) f W) (tG M (RTs M) g W) σ H Q := by
  obtain ⟨s, τ, rel, post⟩ := h
  refine run1 (.refl _ _) rel post fun x s2 v τ2 H2 ev rel2 r1 p => ?_
  split at p
  · rename_i t s3 ef
    obtain ⟨τ3, ev3, _, rel3, rp⟩ := RelR.frz rel2 ev r1 ef
    refine run1 (R1 := RTs M) ev3 rel3 p fun ts s4 vs τ4 H4 ev4 rel4 r4 p4 => ?_
    exact p4 (v :: vs) τ4 H4 (ev3.trans ev4) rel4 (.cons (rp.mono ev4.toKp) r4)
  · exact p.elim
theorem sa_cons (h : SE X e f) (hr : SA X es g) (hs : starEach (e :: es) X.env = (false, eval e X.env) :: starEach es X.env := by rfl) : SA X (e :: es) (aCons f g) := fun W tk =>
  PA.imp (pa_cons (h W tk) (hr W tk) hs) fun _ _ _ h => cons_run h

/-! ### displays -/
def eTup (g : S → R (List T)) : S → R Res := fun s => (g s).bind fun ts s => if szok ts.length = true then .ok (.val (.tup ts)) s else .stuck
def eLst (g : S → R (List T)) : S → R Res := fun s => (g s).bind fun ts s => if szok ts.length = true then .ok (.tmp (.lst ts)) s else .stuck
/-- a list held by reference -/
def eLstO (g : S → R (List T)) : S → R Res := fun s => (g s).bind fun ts s => if szok ts.length = true then .ok (.val (.obj s.ob.length)) ⟨s.sl, s.ob ++ [.ls ts]⟩ else .stuck
theorem se_tup {k : Nat} (h : SA X es g) : SE X (.Tuple es k pos) (eTup g) := fun W tk => PE.imp (pe_tup (h W tk)) fun σ H Q ⟨s, τ, rel, post⟩ =>
  run1 (R1 := RTs (Mx X)) (.refl _ _) rel post fun ts s2 vs τ2 H2 ev rel2 r1 p => by
    split at p
    · rename_i hz
      have hz := szok_le hz
      rw [Rps.length r1] at hz
      exact ⟨hz, fun n hn => (Post.out (b := false) p ev rel2).2 n _ hn ⟨rfl, vs, rfl, r1⟩⟩
    · exact p.elim
theorem se_lst (h : SA X es g) : SE X (.List es pos) (eLst g) := fun W tk => PE.imp (pe_lst (h W tk)) fun σ H Q ⟨s, τ, rel, post⟩ =>
  run1 (R1 := RTs (Mx X)) (.refl _ _) rel post fun ts s2 vs τ2 H2 ev rel2 r1 p => by
    split at p
    · rename_i hz
      have hz := szok_le hz
      rw [Rps.length r1] at hz
      exact ⟨hz, fun n hn => (Post.out (b := true) p ev rel2).2 n _ hn ⟨vs, rfl, r1⟩⟩
    · exact p.elim
/-- a new object held by reference -/
theorem Rel.newOb {s : S} {σ : L2.St} {τ : Tg} {H : Hp} {p : Addr} {o : HO} {ov : OV} (h : Rel M s τ σ H) (hp : H p = none) (ho : OvAt M (tset τ p (.ob s.ob.length)) (upd H p o) p s.ob.length ov) :
    Rel M ⟨s.sl, s.ob ++ [ov]⟩ (tset τ p (.ob s.ob.length)) σ (upd H p o) ∧ Evo τ H (tset τ p (.ob s.ob.length)) (upd H p o) := by
  have hh : ∀ a u, H a = some u → upd H p o a = some u ∧ tset τ p (.ob s.ob.length) a = τ a := fun a u q => ⟨by rw [upd_ne (ne_of_none q hp)]; exact q, tset_ne (ne_of_none q hp)⟩
  have ev := Evo.ext hh h.ro.al
  have old : ∀ a r, τ a = .ob r → a ≠ p ∧ r < s.ob.length := fun a r q => by
    obtain ⟨u, e, _⟩ := h.ro.at_ a r q
    refine ⟨fun z => ?_, (List.getElem?_eq_some_iff.mp e).1⟩
    subst z
    exact h.ro.al a (by rw [q]; simp) hp
  have cases_ : ∀ a r, tset τ p (.ob s.ob.length) a = .ob r → (a = p ∧ r = s.ob.length) ∨ (τ a = .ob r ∧ a ≠ p ∧ r < s.ob.length) := fun a r q => by
    by_cases e : a = p
    · subst e; rw [tset_same] at q; cases q; exact .inl ⟨rfl, rfl⟩
    · rw [tset_ne e] at q; exact .inr ⟨q, old a r q⟩
  refine ⟨⟨h.rs.kp ev.toKp fun a i t n => ?_, ⟨fun a r t => ?_, fun a b r ta tb => ?_, fun a t => ?_, h.ro.tb.mono (fun a q t => ?_) (fun a q t => ?_) ev.toKp (fun a q ps _ z => (hh a _ z).1) fun a ps e => ?_⟩⟩, ev⟩
  · obtain ⟨u, q⟩ := Option.ne_none_iff_exists'.mp n
    exact ⟨(hh a u q).2.trans t, (hh a u q).1.trans q.symm⟩
  · rcases cases_ a r t with ⟨rfl, rfl⟩ | ⟨q, ne, lt⟩
    · exact ⟨ov, by simp, ho⟩
    · obtain ⟨u, e, k⟩ := h.ro.at_ a r q
      exact ⟨u, by rw [List.getElem?_append_left lt]; exact e, k.kp ev.toKp (upd_ne ne)⟩
  · rcases cases_ a r ta with ⟨e0, e3⟩ | ⟨q, ne, lt⟩ <;> rcases cases_ b r tb with ⟨e1, e2⟩ | ⟨q', ne', lt'⟩
    · exact e0.trans e1.symm
    · omega
    · omega
    · exact h.ro.one a b r q q'
  · by_cases e : a = p
    · subst e; rw [upd_same]; simp
    · rw [tset_ne e] at t; rw [upd_ne e]; exact h.ro.al a t
  · rw [tset_ne fun z => by subst z; exact h.ro.al a (by rw [t]; simp) hp]; exact t
  · by_cases e : a = p
    · subst e; rw [tset_same] at t; cases t
    · rw [tset_ne e] at t
      exact t
  · by_cases e2 : a = p
    · subst e2; exact absurd e (ho.ntbl ps)
    · rw [upd_ne e2] at e; exact e
theorem se_lstO (h : SA X es g) : SE X (.List es pos) (eLstO g) := fun W tk => PE.imp (pe_lst (h W tk)) fun σ H Q ⟨s, τ, rel, post⟩ =>
  run1 (R1 := RTs (Mx X)) (.refl _ _) rel post fun ts s2 vs τ2 H2 ev rel2 r1 p => by
    split at p
    · rename_i hz
      have hz := szok_le hz
      rw [Rps.length r1] at hz
      refine ⟨hz, fun n hn => ?_⟩
      have ho : OvAt (Mx X) (tset τ2 n (.ob s2.ob.length)) (upd H2 n (.lst vs)) n s2.ob.length (.ls ts) := ⟨vs, upd_same, r1.mono (Evo.ext (fun a u q => ⟨by rw [upd_ne (ne_of_none q hn)]; exact q, tset_ne (ne_of_none q hn)⟩) rel2.ro.al).toKp⟩
      obtain ⟨r3, e3⟩ := rel2.newOb hn ho
      exact p (.ref n) _ _ (ev.trans e3) r3 (.obj tset_same)
    · exact p.elim
end

/-! ### items, slices -/
theorem atI_rps {M : Md} {τ : Tg} {H : Hp} {ts : List T} {vs : List V} {i : Int} {t : T} (h : Rps M τ H ts vs) (e : atI ts i = some t) : ∃ v, atI vs i = some v ∧ Rp M τ H t v := by
  unfold atI at e ⊢
  rw [h.length] at e
  cases q : ixN vs.length i with
  | none => rw [q] at e; cases e
  | some j => rw [q] at e; exact h.get e
def opIx : T → T → Option (Bool × T)
  | .lst ts, .int i => (atI ts i).map fun t => (false, t)
  | .tup ts, .int i => (atI ts i).map fun t => (false, t)
  | .str z, .int i => if szok z.length = true then (atI z.cps.toList i).map fun c => (false, .str ⟨#[c]⟩) else none
  | _, _ => none
theorem og_ix {M : Md} : OpG M (rIx M.K) opIx := by
  intro τ H tx ty x y b t Q hx hy hg g
  unfold opIx at hg
  split at hg
  · rename_i ts i
    obtain ⟨a, vs, rfl, e1, r1⟩ := hx.lst
    cases e : atI ts i with
    | none => rw [e] at hg; cases hg
    | some u =>
      rw [e] at hg
      cases hg
      obtain ⟨v, e2, e3⟩ := atI_rps r1 e
      exact .inl ⟨a, vs, i, v, rfl, hy.int, .inl (.inl e1), e2, g.1 rfl _ e3⟩
  · rename_i ts i
    obtain ⟨a, vs, rfl, e1, r1⟩ := hx.tup
    cases e : atI ts i with
    | none => rw [e] at hg; cases hg
    | some u =>
      rw [e] at hg
      cases hg
      obtain ⟨v, e2, e3⟩ := atI_rps r1 e
      exact .inr (.inl ⟨a, vs, i, v, rfl, hy.int, e1.sq, e2, g.1 rfl _ e3⟩)
  · rename_i z i
    split at hg
    · rename_i hz
      cases e : atI z.cps.toList i with
      | none => rw [e] at hg; cases hg
      | some u =>
        rw [e] at hg
        cases hg
        exact .inr (.inr ⟨z, i, u, hx.str, hy.int, szok_le hz, e, g.1 rfl _ (.str _)⟩)
    · cases hg
  · cases hg
section
variable {X : Cx} {a b : Expr} {fa fb : S → R Res} {pos : Pos}
theorem se_ix (ha : SE X a fa) (hb : SE X b fb) (hs : PlainIx b := by exact fun _ _ => rfl) : SE X (.Subscript a b pos) (eBin opIx fa fb) := fun W tk =>
  PE.imp (pe_ix ix_seq (ha W tk) (hb W tk) hs) fun _ _ _ h => bin_run og_ix h
end
def cutT {α : Type} (xs : List α) (lo hi : Option Int) : List α := (xs.drop (HT.sIx xs.length 0 lo)).take (HT.sIx xs.length xs.length hi - HT.sIx xs.length 0 lo)
theorem cut_rps {M : Md} {τ : Tg} {H : Hp} {ts : List T} {vs : List V} {lo hi : Option Int} (h : Rps M τ H ts vs) : Rps M τ H (cutT ts lo hi) (cutV vs lo hi) := by
  unfold cutT cutV
  rw [h.length]
  exact (h.drop _).take _
theorem cut_whole {α : Type} {xs : List α} {lo hi : Option Int} (h : HT.sIx xs.length 0 lo = 0 ∧ HT.sIx xs.length xs.length hi = xs.length) : cutT xs lo hi = xs := by
  unfold cutT
  rw [h.1, h.2, List.drop_zero, Nat.sub_zero, List.take_length]
def opCut (lo hi : Option Int) : T → Option (Bool × T)
  | .lst ts => some (true, .lst (cutT ts lo hi))
  | .tup ts => some (false, .tup (cutT ts lo hi))
  | .scr ns => some (true, .lst ((cutT ns lo hi).map T.int))
  | _ => none
/-- a part of a slice -/
def ROp : RRel (Option Int) (Option Int) := fun _ _ o _ _ _ p => p = o
theorem bOp : Bas ROp := fun _ _ _ _ _ _ _ _ _ _ _ h => h
def SO (X : Cx) (e : Option Expr) (f : S → R (Option Int)) : Prop := ∀ W, Takes X W → PO X e (tG (Mx X) ROp f W)
def oNone : S → R (Option Int) := fun s => .ok none s
def oSome (f : S → R Res) : S → R (Option Int) := fun s => (f s).bind fun r s => match peek s r with
  | some (.int i) => .ok (some i) s
  | _ => .stuck
def eCut (f : S → R Res) (lo hi : S → R (Option Int)) : S → R Res := fun s => (f s).bind fun r s => (lo s).bind fun l s => (hi s).bind fun h s => match peek s r with
  | some t => out1 (opCut l h t) s
  | none => .stuck
theorem PO.imp {X : Cx} {e : Option Expr} {t t' : TO} (h : PO X e t) (i : ∀ σ H Q, t' σ H Q → t σ H Q) : PO X e t' := ⟨fun pins s σ H Q I q => h.run pins s σ H Q I (i σ H Q q)⟩
section
variable {X : Cx} {e : Expr} {lo hi : Option Expr} {f : S → R Res} {g h : S → R (Option Int)} {pos p2 : Pos}
theorem so_none : SO X none oNone := fun W tk => PO.imp po_none fun σ H Q ⟨s, τ, rel, post⟩ => post none τ H (.refl _ _) rel rfl
theorem so_some (he : SE X e f) : SO X (some e) (oSome f) := fun W tk => PO.imp (po_some (he W tk)) fun σ H Q ⟨s, τ, rel, post⟩ =>
  run1 (.refl _ _) rel post fun x s2 v τ2 H2 ev rel2 r1 p => by
    split at p
    · rename_i i ex
      exact ⟨i, (RelR.isT rel2 r1 ex).int, p (some i) τ2 H2 ev rel2 rfl⟩
    · exact p.elim
theorem cut_scr {ns : List Int} {lo hi : Option Int} : cutV (ns.map V.int) lo hi = (cutT ns lo hi).map V.int := by
  unfold cutV cutT
  rw [List.length_map, List.map_take, List.map_drop]
theorem se_cut (he : SE X e f) (hl : SO X lo g) (hh : SO X hi h) : SE X (.Subscript e (.Slice lo hi none p2) pos) (eCut f g h) := fun W tk =>
  PE.imp (pe_slice (sl_list.or sl_tupA) (he W tk) (hl W tk) (hh W tk)) fun σ H Q ⟨s, τ, rel, post⟩ =>
    run1 (.refl _ _) rel post fun x s2 v τ2 H2 ev rel2 r1 p => run1 (R1 := ROp) ev rel2 p fun l s3 l' τ3 H3 ev3 rel3 r3 p3 => run1 (R1 := ROp) (ev.trans ev3) rel3 p3 fun u s4 u' τ4 H4 ev4 rel4 r4 p4 => by
      cases (show l' = l from r3)
      cases (show u' = u from r4)
      split at p4
      · rename_i t ex
        have hx := (RelR.later (s2 := s4) r1 (ev3.trans ev4)).isT rel4 ex
        have ev' := (ev.trans ev3).trans ev4
        unfold opCut at p4
        split at p4
        · rename_i ts
          obtain ⟨a, vs, rfl, e1, rr⟩ := hx.lst
          exact .inl ⟨a, vs, rfl, .inl (.inl e1), fun n hn => (Post.out (b := true) p4 ev' rel4).2 n _ hn ⟨_, rfl, cut_rps rr⟩⟩
        · rename_i ts
          obtain ⟨a, vs, rfl, e1, rr⟩ := hx.tup
          refine .inr ⟨a, vs, rfl, e1.sq, fun z => ?_, fun z n hn => (Post.out (b := false) p4 ev' rel4).2 n _ hn ⟨rfl, _, rfl, cut_rps rr⟩⟩
          refine (Post.out (b := false) p4 ev' rel4).1 rfl _ ?_
          rw [cut_whole (by rw [rr.length]; exact z)]
          exact .tup e1 rr
        · rename_i ns
          obtain ⟨a, rfl, e1⟩ := hx.scr
          exact .inl ⟨a, _, rfl, e1, fun n hn => (Post.out (b := true) p4 ev' rel4).2 n _ hn ⟨_, rfl, by rw [cut_scr]; exact Rps.ints _⟩⟩
        · exact p4.elim
      · exact p4.elim
end
end Sv

/-! Sv, part G: built-in calls, writing, methods of lists. -/
namespace Sv
open PySem PySem.Spec PyProof.Rows L2
variable [Tb]

/-! ### built-ins of one and of two arguments that are read -/
def CallG1 (M : Md) (r : List V → Hp → VK → Prop) (g : T → Option (Bool × T)) : Prop :=
  ∀ τ H tx x b t Q, IsT M τ H tx x → g tx = some (b, t) → Gives M τ H b t Q → r [x] H Q
def CallG2 (M : Md) (r : List V → Hp → VK → Prop) (g : T → T → Option (Bool × T)) : Prop :=
  ∀ τ H tx ty x y b t Q, IsT M τ H tx x → IsT M τ H ty y → g tx ty = some (b, t) → Gives M τ H b t Q → r [x, y] H Q
section
variable {X : Cx} {e e2 : Expr} {f f2 : S → R Res} {x : Str} {p pos : Pos} {id Ty : String} {r : List V → Hp → VK → Prop}
theorem call1_run {M : Md} {W : WX} {g : T → Option (Bool × T)} (hg : CallG1 M r g) {σ : L2.St} {H : Hp} {Q : VK} (h : tG M (RRes M) (eUn g f) W σ H Q) : tCB r (tCons (tG M (RRes M) f W) tNil) σ H Q :=
  un_run (r := fun x H Q => r [x] H Q) (fun τ H tx x b t Q a c d => hg τ H tx x b t Q a c d) h
theorem call2_run {M : Md} {W : WX} {g : T → T → Option (Bool × T)} (hg : CallG2 M r g) {σ : L2.St} {H : Hp} {Q : VK} (h : tG M (RRes M) (eBin g f f2) W σ H Q) : tCB r (tCons (tG M (RRes M) f W) (tCons (tG M (RRes M) f2 W) tNil)) σ H Q :=
  bin_run (r := fun x y H Q => r [x, y] H Q) (fun τ H tx ty x y b t Q a c d e => hg τ H tx ty x y b t Q a c d e) h
theorem se_callB1 {g : T → Option (Bool × T)} (hc : CallR X (.builtin id) r) (hg : CallG1 (Mx X) r g) (hG : Gl X x) (hm : X.mg x = none) (hv : bootBuiltins x = some (.builtin id)) (he : SE X e f) (hn : x ≠ "__name__" := by decide) (hdb : (x == ("__debug__" : Str)) = false := by decide)
    (hs : starEach [e] X.env = (false, eval e X.env) :: starEach [] X.env := by rfl) : SE X (.Call (.Name x p) [e] [] pos) (eUn g f) := fun W tk =>
  PE.imp (pe_callB hc hG hm hv (pa_cons (he W tk) pa_nil hs) hn hdb hs) fun _ _ _ h => call1_run hg h
theorem se_callT1 {g : T → Option (Bool × T)} (hc : CallR X (.type Ty) r) (hg : CallG1 (Mx X) r g) (hG : Gl X x) (hm : X.mg x = none) (hv : bootBuiltins x = some (.type Ty)) (he : SE X e f) (hn : x ≠ "__name__" := by decide) (hdb : (x == ("__debug__" : Str)) = false := by decide)
    (hs : starEach [e] X.env = (false, eval e X.env) :: starEach [] X.env := by rfl) : SE X (.Call (.Name x p) [e] [] pos) (eUn g f) := fun W tk =>
  PE.imp (pe_callTy hc hG hm hv (pa_cons (he W tk) pa_nil hs) hn hdb hs) fun _ _ _ h => call1_run hg h
theorem se_callB2 {g : T → T → Option (Bool × T)} (hc : CallR X (.builtin id) r) (hg : CallG2 (Mx X) r g) (hG : Gl X x) (hm : X.mg x = none) (hv : bootBuiltins x = some (.builtin id)) (he : SE X e f) (he2 : SE X e2 f2) (hn : x ≠ "__name__" := by decide) (hdb : (x == ("__debug__" : Str)) = false := by decide)
    (hs : starEach [e, e2] X.env = (false, eval e X.env) :: starEach [e2] X.env := by rfl) (hs2 : starEach [e2] X.env = (false, eval e2 X.env) :: starEach [] X.env := by rfl) (hpl : (backTo pos (starEach [e2] X.env)).any (·.1) = false := by rfl) : SE X (.Call (.Name x p) [e, e2] [] pos) (eBin g f f2) := fun W tk =>
  PE.imp (pe_callB hc hG hm hv (pa_cons (he W tk) (pa_cons (he2 W tk) pa_nil hs2) hs) hn hdb hs hpl) fun _ _ _ h => call2_run hg h
end
def opLen : T → Option (Bool × T)
  | .lst ts => some (false, .int ts.length)
  | .tup ts => some (false, .int ts.length)
  | .str z => if szok z.length = true then some (false, .int z.length) else none
  | .scr ns => some (false, .int ns.length)
  | _ => none
def opAbs : T → Option (Bool × T)
  | .int i => some (false, .int (if i < 0 then -i else i))
  | _ => none
def opInt : T → Option (Bool × T)
  | .int i => some (false, .int i)
  | .bl b => some (false, .int (if b then 1 else 0))
  | _ => none
def opList : T → Option (Bool × T)
  | .lst ts => some (true, .lst ts)
  | .tup ts => some (true, .lst ts)
  | .scr ns => some (true, .lst (ns.map T.int))
  | _ => none
def opTuple : T → Option (Bool × T)
  | .lst ts => some (false, .tup ts)
  | .tup ts => some (false, .tup ts)
  | _ => none
def opMax2 : T → T → Option (Bool × T)
  | .int i, .int j => some (false, .int (if j > i then j else i))
  | _, _ => none
def opMin2 : T → T → Option (Bool × T)
  | .int i, .int j => some (false, .int (if j < i then j else i))
  | _, _ => none
section
variable {M : Md}
theorem cg_len : CallG1 M (fun xs H Q => (∃ p ys, xs = [.ref p] ∧ (SqL M.K H p ys ∨ SqT M.K H p ys) ∧ Q (.int ys.length) H) ∨ (∃ z, xs = [.str z] ∧ z.length ≤ sizeLine ∧ Q (.int z.length) H)) opLen := by
  intro τ H tx x b t Q hx hg g
  unfold opLen at hg
  split at hg
  · cases hg
    obtain ⟨a, vs, rfl, e1, r1⟩ := hx.lst
    exact .inl ⟨a, vs, rfl, .inl (.inl (.inl e1)), by rw [← r1.length]; exact g.1 rfl _ (.int _)⟩
  · cases hg
    obtain ⟨a, vs, rfl, e1, r1⟩ := hx.tup
    exact .inl ⟨a, vs, rfl, .inr e1.sq, by rw [← r1.length]; exact g.1 rfl _ (.int _)⟩
  · split at hg <;> cases hg
    rename_i h
    exact .inr ⟨_, by rw [hx.str], szok_le h, g.1 rfl _ (.int _)⟩
  · cases hg
    obtain ⟨a, rfl, e1⟩ := hx.scr
    refine .inl ⟨a, _, rfl, .inl e1, ?_⟩
    have := g.1 rfl _ (.int _)
    simpa using this
  · cases hg
theorem cg_abs : CallG1 M (fun xs H Q => ∃ i, xs = [.int i] ∧ Q (.int (if i < 0 then -i else i)) H) opAbs := by
  intro τ H tx x b t Q hx hg g
  unfold opAbs at hg
  split at hg <;> cases hg
  exact ⟨_, by rw [hx.int], g.1 rfl _ (.int _)⟩
theorem cg_int : CallG1 M (fun xs H Q => (∃ i, xs = [.int i] ∧ Q (.int i) H) ∨ ∃ k, xs = [.bl k] ∧ Q (.int (if k then 1 else 0)) H) opInt := by
  intro τ H tx x b t Q hx hg g
  unfold opInt at hg
  split at hg <;> cases hg
  · exact .inl ⟨_, by rw [hx.int], g.1 rfl _ (.int _)⟩
  · exact .inr ⟨_, by rw [hx.bl], g.1 rfl _ (.int _)⟩
theorem cg_list : CallG1 M (fun xs H Q => ∃ p ys, xs = [.ref p] ∧ (SqL M.K H p ys ∨ SqT M.K H p ys) ∧ ∀ l, H l = none → Q (.ref l) (upd H l (.lst ys))) opList := by
  intro τ H tx x b t Q hx hg g
  unfold opList at hg
  split at hg <;> cases hg
  · obtain ⟨a, vs, rfl, e1, r1⟩ := hx.lst
    exact ⟨a, vs, rfl, .inl (.inl (.inl e1)), fun n hn => g.2 n _ hn ⟨_, rfl, r1⟩⟩
  · obtain ⟨a, vs, rfl, e1, r1⟩ := hx.tup
    exact ⟨a, vs, rfl, .inr e1.sq, fun n hn => g.2 n _ hn ⟨_, rfl, r1⟩⟩
  · obtain ⟨a, rfl, e1⟩ := hx.scr
    exact ⟨a, _, rfl, .inl e1, fun n hn => g.2 n _ hn ⟨_, rfl, Rps.ints _⟩⟩
theorem cg_tuple : CallG1 M (fun xs H Q => ∃ p ys, xs = [.ref p] ∧ ((SqL M.K H p ys ∧ ∀ l, H l = none → Q (.ref l) (upd H l (.tup ys))) ∨ (SqT M.K H p ys ∧ Q (.ref p) H))) opTuple := by
  intro τ H tx x b t Q hx hg g
  unfold opTuple at hg
  split at hg <;> cases hg
  · obtain ⟨a, vs, rfl, e1, r1⟩ := hx.lst
    exact ⟨a, vs, rfl, .inl ⟨.inl (.inl e1), fun n hn => g.2 n _ hn ⟨rfl, _, rfl, r1⟩⟩⟩
  · obtain ⟨a, vs, rfl, e1, r1⟩ := hx.tup
    exact ⟨a, vs, rfl, .inr ⟨e1.sq, g.1 rfl _ (.tup e1 r1)⟩⟩
theorem cg_max2 : CallG2 M (fun xs H Q => ∃ i j, xs = [.int i, .int j] ∧ Q (.int (if j > i then j else i)) H) opMax2 := by
  intro τ H tx ty x y b t Q hx hy hg g
  unfold opMax2 at hg
  split at hg <;> cases hg
  exact ⟨_, _, by rw [hx.int, hy.int], g.1 rfl _ (.int _)⟩
theorem cg_min2 : CallG2 M (fun xs H Q => ∃ i j, xs = [.int i, .int j] ∧ Q (.int (if j < i then j else i)) H) opMin2 := by
  intro τ H tx ty x y b t Q hx hy hg g
  unfold opMin2 at hg
  split at hg <;> cases hg
  exact ⟨_, _, by rw [hx.int, hy.int], g.1 rfl _ (.int _)⟩
end
section
variable {X : Cx} {e e2 : Expr} {f f2 : S → R Res} {p pos : Pos}
theorem se_len (hG : Gl X "len") (hm : X.mg "len" = none) (he : SE X e f) (hs : starEach [e] X.env = (false, eval e X.env) :: starEach [] X.env := by rfl) : SE X (.Call (.Name "len" p) [e] [] pos) (eUn opLen f) :=
  se_callB1 (call_len_seq.or call_len_str) cg_len hG hm PySem.boot_len he (by decide) (by decide) hs
theorem se_abs (hG : Gl X "abs") (hm : X.mg "abs" = none) (he : SE X e f) (hs : starEach [e] X.env = (false, eval e X.env) :: starEach [] X.env := by rfl) : SE X (.Call (.Name "abs" p) [e] [] pos) (eUn opAbs f) :=
  se_callB1 call_abs cg_abs hG hm (by decide +kernel) he (by decide) (by decide) hs
theorem se_intc (hG : Gl X "int") (hm : X.mg "int" = none) (he : SE X e f) (hs : starEach [e] X.env = (false, eval e X.env) :: starEach [] X.env := by rfl) : SE X (.Call (.Name "int" p) [e] [] pos) (eUn opInt f) :=
  se_callT1 call_int1 cg_int hG hm (by decide +kernel) he (by decide) (by decide) hs
theorem se_listc (hG : Gl X "list") (hm : X.mg "list" = none) (he : SE X e f) (hs : starEach [e] X.env = (false, eval e X.env) :: starEach [] X.env := by rfl) : SE X (.Call (.Name "list" p) [e] [] pos) (eUn opList f) :=
  se_callT1 call_list_of cg_list hG hm (by decide +kernel) he (by decide) (by decide) hs
theorem se_tuplec (hG : Gl X "tuple") (hm : X.mg "tuple" = none) (he : SE X e f) (hs : starEach [e] X.env = (false, eval e X.env) :: starEach [] X.env := by rfl) : SE X (.Call (.Name "tuple" p) [e] [] pos) (eUn opTuple f) :=
  se_callT1 call_tuple_of cg_tuple hG hm (by decide +kernel) he (by decide) (by decide) hs
theorem se_max2 {k : Nat} (rm : Rm X k) (hG : Gl X "max") (hm : X.mg "max" = none) (he : SE X e f) (he2 : SE X e2 f2) (hs : starEach [e, e2] X.env = (false, eval e X.env) :: starEach [e2] X.env := by rfl) (hs2 : starEach [e2] X.env = (false, eval e2 X.env) :: starEach [] X.env := by rfl) (hpl : (backTo pos (starEach [e2] X.env)).any (·.1) = false := by rfl) :
    SE X (.Call (.Name "max" p) [e, e2] [] pos) (eBin opMax2 f f2) := se_callB2 (call_max2 rm.calm) cg_max2 hG hm (by decide +kernel) he he2 (by decide) (by decide) hs hs2 hpl
theorem se_min2 {k : Nat} (rm : Rm X k) (hG : Gl X "min") (hm : X.mg "min" = none) (he : SE X e f) (he2 : SE X e2 f2) (hs : starEach [e, e2] X.env = (false, eval e X.env) :: starEach [e2] X.env := by rfl) (hs2 : starEach [e2] X.env = (false, eval e2 X.env) :: starEach [] X.env := by rfl) (hpl : (backTo pos (starEach [e2] X.env)).any (·.1) = false := by rfl) :
    SE X (.Call (.Name "min" p) [e, e2] [] pos) (eBin opMin2 f f2) := se_callB2 (call_min2 rm.calm) cg_min2 hG hm (by decide +kernel) he he2 (by decide) (by decide) hs hs2 hpl
end

/-! ### writing -/
/-- the container at a place, written -/
def wr (s : S) (r : Res) (t : T) : Option S := match r with
  | .plc i => match s.sl[i]? with
    | some (some (true, _)) => some ⟨s.sl.set i (some (true, t)), s.ob⟩
    | some (some (false, .obj k)) => match t with
      | .lst ts => if k < s.ob.length then some ⟨s.sl, s.ob.set k (.ls ts)⟩ else none
      | _ => none
    | _ => none
  | .val (.obj k) => match t with
    | .lst ts => if k < s.ob.length then some ⟨s.sl, s.ob.set k (.ls ts)⟩ else none
    | _ => none
  | _ => none
section
variable {M : Md} {σ : L2.St} {H H0 H1 H2 : Hp} {τ τ0 τ1 τ2 : Tg} {s s1 s2 : S} {r : Res} {v : V} {t : T}
theorem Evo.write {a : Addr} {o : HO} (ev : Evo τ0 H0 τ H) (h1 : τ a ≠ .free) (h2 : τ a ≠ .frz) : Evo τ0 H0 τ (upd H a o) := by
  refine ⟨⟨fun b u q t => ?_, ev.ob⟩, fun b u q t => ?_, fun b q => ?_, ev.sl⟩
  · obtain ⟨t1, q1⟩ := ev.fz b u q t
    have e : b ≠ a := fun z => h2 (z ▸ t1)
    exact ⟨t1, by rw [upd_ne e]; exact q1⟩
  · obtain ⟨t1, q1⟩ := ev.fr b u q t
    have e : b ≠ a := fun z => h1 (z ▸ t1)
    exact ⟨t1, by rw [upd_ne e]; exact q1⟩
  · by_cases e : b = a
    · rw [e, upd_same]; simp
    · rw [upd_ne e]; exact ev.th b q
theorem codeO_lst {c : Addr} {q : Str} {vs : List V} : LamX.CodeO c q ≠ .lst vs := fun z => by
  unfold LamX.CodeO at z
  cases z
/-- what leans on an address of one's own that is written -/
theorem RelO.write {ob : List OV} {a : Addr} {o o0 : HO} (h : RelO M ob τ H) (ha : H a = some o0) (hno : ∀ c q, LamX.CodeO c q ≠ o0) (h1 : τ a ≠ .free) (h2 : τ a ≠ .frz) (hq : ∀ q, τ a ≠ .tb q) (hob : ∀ k, τ a ≠ .ob k) (hot : ∀ ps, o ≠ .tbl ps) : RelO M ob τ (upd H a o) := by
  have kp : Kp τ H τ (upd H a o) := (Evo.write (Evo.refl τ H) h1 h2).toKp
  refine ⟨fun b k hb' => ?_, h.one, fun b hb' => ?_, h.tb.mono (fun _ _ t => t) (fun _ _ t => t) kp (fun b q ps hb' z => ?_) fun b ps e => ?_⟩
  · obtain ⟨o', e1, e2⟩ := h.at_ b k hb'
    exact ⟨o', e1, e2.kp kp (upd_ne fun z => hob k (z ▸ hb'))⟩
  · by_cases e : b = a
    · rw [e, upd_same]; simp
    · rw [upd_ne e]; exact h.al b hb'
  · have e : b ≠ a := fun z => hq q (z ▸ hb')
    rw [upd_ne e]; exact z
  · by_cases e2 : b = a
    · subst e2; rw [upd_same] at e; exact absurd (Option.some.inj e) (hot ps)
    · rw [upd_ne e2] at e; exact e
theorem wr_slot {a : Addr} {o : HO} {vs0 : List V} {i : Nat} (rel : Rel M s τ σ H) (hi : s.sl[i]? = some (some (true, t1))) (hs : σ[i]? = some (some (.ref a))) (ht : τ a = .slot i) (hn : H a = some (.lst vs0))
    (hb : Box M τ (upd H a o) a t) : Rel M ⟨s.sl.set i (some (true, t)), s.ob⟩ τ σ (upd H a o) := by
  have kp : Kp τ H τ (upd H a o) := (Evo.write (Evo.refl τ H) (by rw [ht]; simp) (by rw [ht]; simp)).toKp
  refine ⟨⟨by rw [List.length_set]; exact rel.rs.len, fun j b t' q => ?_⟩, rel.ro.write hn (fun _ _ => codeO_lst) (by rw [ht]; simp) (by rw [ht]; simp) (by rw [ht]; simp) (by rw [ht]; simp) fun ps z => hb.ntbl ps (by rw [upd_same, z])⟩
  by_cases hj : j = i
  · subst hj
    have hlt : j < s.sl.length := (List.getElem?_eq_some_iff.mp hi).1
    rw [List.getElem?_set_self hlt] at q
    cases q
    exact ⟨_, hs, a, rfl, ht, hb⟩
  · rw [List.getElem?_set_ne (Ne.symm hj)] at q
    obtain ⟨v', e1, e2⟩ := rel.rs.at_ j b t' q
    refine ⟨v', e1, e2.kp kp fun b' hb' _ => ⟨hb', upd_ne fun z => ?_⟩⟩
    subst z
    rw [ht] at hb'
    cases hb'
    exact hj rfl
theorem wr_ob {a : Addr} {o : HO} {vs0 : List V} {k : Nat} {ov : OV} (rel : Rel M s τ σ H) (hk : k < s.ob.length) (ht : τ a = .ob k) (hn : H a = some (.lst vs0))
    (hb : OvAt M τ (upd H a o) a k ov) : Rel M ⟨s.sl, s.ob.set k ov⟩ τ σ (upd H a o) := by
  have kp : Kp τ H τ (upd H a o) := (Evo.write (Evo.refl τ H) (by rw [ht]; simp) (by rw [ht]; simp)).toKp
  refine ⟨rel.rs.kp kp fun b i hb' _ => ⟨hb', upd_ne fun z => by subst z; rw [ht] at hb'; cases hb'⟩, ⟨fun b j hb' => ?_, rel.ro.one, fun b hb' => ?_, rel.ro.tb.mono (fun _ _ t => t) (fun _ _ t => t) kp (fun b q ps hq z => ?_) fun b ps e => ?_⟩⟩
  · by_cases hj : j = k
    · subst hj
      have e := rel.ro.one a b j ht hb'
      subst e
      exact ⟨ov, by simp [hk], hb⟩
    · obtain ⟨o', h1, h2⟩ := rel.ro.at_ b j hb'
      have e : b ≠ a := fun z => by subst z; rw [ht] at hb'; cases hb'; exact hj rfl
      exact ⟨o', by rw [List.getElem?_set_ne (Ne.symm hj)]; exact h1, h2.kp kp (upd_ne e)⟩
  · by_cases e : b = a
    · rw [e, upd_same]; simp
    · rw [upd_ne e]; exact rel.ro.al b hb'
  · have e : b ≠ a := fun z => by subst z; rw [ht] at hq; cases hq
    rw [upd_ne e]; exact z
  · by_cases e2 : b = a
    · subst e2; exact absurd e (hb.ntbl ps)
    · rw [upd_ne e2] at e; exact e
/-- a list at a place is written -/
theorem wr_lst {ts : List T} {s' : S} (rel : Rel M s τ σ H) (ev : Evo τ0 H0 τ H) (h : RelR M σ H1 r s τ H v) (w : wr s r (.lst ts) = some s') :
    ∃ a vs0, v = .ref a ∧ H a = some (.lst vs0) ∧ (∀ ts0, peek s r = some (.lst ts0) → Rps M τ H ts0 vs0) ∧
      ∀ vs, Rps M τ H ts vs → Rel M s' τ σ (upd H a (.lst vs)) ∧ Evo τ0 H0 τ (upd H a (.lst vs)) ∧ Kp τ H τ (upd H a (.lst vs)) := by
  have pk : ∀ {a vs0 ts0}, v = .ref a → H a = some (.lst vs0) → peek s r = some (.lst ts0) → Rps M τ H ts0 vs0 := fun {a vs0 ts0} e1 e2 p => by
    obtain ⟨a', vs', q1, q2, q3⟩ := (h.isT rel p).lst
    rw [e1] at q1
    cases q1
    rw [e2] at q2
    cases q2
    exact q3
  have onOb : ∀ k, Rp M τ H (.obj k) v → k < s.ob.length → s' = ⟨s.sl, s.ob.set k (.ls ts)⟩ → ∃ a vs0, v = .ref a ∧ H a = some (.lst vs0) ∧ (∀ ts0, peek s r = some (.lst ts0) → Rps M τ H ts0 vs0) ∧
      ∀ vs, Rps M τ H ts vs → Rel M s' τ σ (upd H a (.lst vs)) ∧ Evo τ0 H0 τ (upd H a (.lst vs)) ∧ Kp τ H τ (upd H a (.lst vs)) := fun k hk lt e => by
    subst e
    cases hk with
    | @obj _ a hk =>
      obtain ⟨o, h1, h2⟩ := rel.ro.at_ a k hk
      cases o with
      | ls ts0 =>
        obtain ⟨vs0, h3, h4⟩ := h2
        have kp := fun vs => (Evo.write (o := .lst vs) (Evo.refl τ H) (a := a) (by rw [hk]; simp) (by rw [hk]; simp)).toKp
        exact ⟨a, vs0, rfl, h3, fun ts0 p => pk rfl h3 p, fun vs hv => ⟨wr_ob rel lt hk h3 ⟨vs, upd_same, hv.mono (kp vs)⟩, ev.write (by rw [hk]; simp) (by rw [hk]; simp), kp vs⟩⟩
  unfold wr at w
  cases r with
  | tmp t => simp at w
  | plc i =>
    simp only at w
    split at w
    · rename_i t0 hi
      cases w
      obtain ⟨v', e1, e2⟩ := rel.rs.at_ i true t0 hi
      have h' : σ[i]? = some (some v) := h
      rw [h'] at e1
      cases e1
      obtain ⟨a, rfl, h2, h3⟩ := e2
      cases t0 <;> first | exact h3.elim | skip
      obtain ⟨vs0, h4, h5⟩ := h3.lst
      have kp := fun vs => (Evo.write (o := .lst vs) (Evo.refl τ H) (a := a) (by rw [h2]; simp) (by rw [h2]; simp)).toKp
      exact ⟨a, vs0, rfl, h4, fun ts0 p => pk rfl h4 p, fun vs hv => ⟨wr_slot rel hi h' h2 h4 ⟨vs, upd_same, hv.mono (kp vs)⟩, ev.write (by rw [h2]; simp) (by rw [h2]; simp), kp vs⟩⟩
    · rename_i k hi
      split at w
      · rename_i lt
        cases w
        obtain ⟨v', e1, e2⟩ := rel.rs.at_ i false _ hi
        have h' : σ[i]? = some (some v) := h
        rw [h'] at e1
        cases e1
        exact onOb k e2 lt rfl
      · cases w
    · cases w
  | val t =>
    cases t with
    | obj k =>
      simp only at w
      split at w
      · rename_i lt
        cases w
        exact onOb k h lt rfl
      · cases w
    | _ => cases w
end

/-! ### methods of lists -/
def isL (o : Option T) : Bool := match o with
  | some (.lst _) => true
  | _ => false
/-- x.append(e) -/
def eApp (f g : S → R Res) : S → R Res := fun s => (f s).bind fun r s => if isL (peek s r) = true then (g s).bind fun q s => match frz s q with
  | some (t, s) => (match peek s r with
    | some (.lst ts) => if szok (ts.length + 1) = true then (match wr s r (.lst (ts ++ [t])) with
      | some s => .ok (.val .non) s
      | none => .stuck) else .stuck
    | _ => .stuck)
  | none => .stuck else .stuck
/-- x.pop() -/
def ePop (f : S → R Res) : S → R Res := fun s => (f s).bind fun r s => match peek s r with
  | some (.lst ts) => (match ts[ts.length - 1]?, wr s r (.lst ts.dropLast) with
    | some t, some s => .ok (.val t) s
    | _, _ => .stuck)
  | _ => .stuck
/-- x.pop(e) -/
def ePopAt (f g : S → R Res) : S → R Res := fun s => (f s).bind fun r s => if isL (peek s r) = true then (g s).bind fun q s => match peek s r, peek s q with
  | some (.lst ts), some (.int i) => if -9223372036854775808 ≤ i ∧ i < 9223372036854775808 then (match seqIndex? i ts.length with
    | some k => (match ts[k]?, wr s r (.lst (ts.eraseIdx k)) with
      | some t, some s => .ok (.val t) s
      | _, _ => .stuck)
    | none => .stuck) else .stuck
  | _, _ => .stuck else .stuck
section
variable {M : Md} {σ : L2.St} {H H0 H1 H2 : Hp} {τ τ0 τ1 τ2 : Tg} {s s1 s2 : S} {r : Res} {v : V} {t : T}
theorem isL_ty (rel : Rel M s τ σ H) (h : RelR M σ H1 r s τ H v) (p : isL (peek s r) = true) : tyV M.K "list" v H := by
  unfold isL at p
  split at p
  · rename_i ts e
    obtain ⟨a, vs, rfl, e1, r1⟩ := (h.isT rel e).lst
    exact .inl ⟨rfl, vs, .inl (.inl e1)⟩
  · cases p
theorem Rps.dropLast : ∀ {ts : List T} {vs : List V}, Rps M τ H ts vs → Rps M τ H ts.dropLast vs.dropLast
  | _, _, .nil => .nil
  | _, _, .cons r .nil => .nil
  | _, _, .cons r (.cons q t) => .cons r (Rps.dropLast (.cons q t))
theorem Rps.eraseIdx : ∀ {ts : List T} {vs : List V} (k : Nat), Rps M τ H ts vs → Rps M τ H (ts.eraseIdx k) (vs.eraseIdx k)
  | _, _, _, .nil => .nil
  | _, _, 0, .cons _ t => t
  | _, _, k + 1, .cons r t => .cons r (Rps.eraseIdx k t)
end
section
variable {X : Cx} {o e : Expr} {f g : S → R Res} {apos cpos : Pos}
theorem se_append (ho : SE X o f) (he : SE X e g) (hbase : attributeBase o "append" X.env (eval o X.env) = eval o X.env := by rfl)
    (hfew : ((backTo cpos (starEach [e] X.env)).all (fun x => !x.1) && (backToKw cpos (keywordEach [] X.env)).all (fun x => x.1.isSome)
      && decide ([e].length + ([] : List Keyword).length + (if ([] : List Keyword).isEmpty then 0 else 1) < 30)) = true := by rfl)
    (hline : (apos.endLine == cpos.line) = true := by rfl) (hs : starEach [e] X.env = (false, eval e X.env) :: starEach [] X.env := by rfl) (hplain : (backTo cpos (starEach [] X.env)).any (·.1) = false := by rfl) :
    SE X (.Call (.Attribute o "append" apos) [e] [] cpos) (eApp f g) := fun W tk =>
  PE.imp (pe_bm PySem.F.plainAttrs_list PySem.F.slot_list_append PySem.F.type_list_append mt_append (ho W tk) (pa_cons (he W tk) pa_nil hs) hbase hfew hline hs hplain) fun σ H Q ⟨s, τ, rel, post⟩ =>
    run1 (.refl _ _) rel post fun r s2 v τ2 H2 ev rel2 r1 p => by
      split at p
      · rename_i hl
        refine ⟨isL_ty rel2 r1 hl, ?_⟩
        refine run1 (R1 := RRes (Mx X)) ev rel2 p fun q s3 w τ3 H3 ev3 rel3 r3 p3 => ?_
        split at p3
        · rename_i t s4 ef
          obtain ⟨τ4, ev4, kp4, rel4, rp⟩ := RelR.frz rel3 ev3 r3 ef
          have r4 := RelR.later (s2 := s4) r1 ev4
          split at p3
          · rename_i ts ep
            split at p3
            · rename_i hz
              split at p3
              · rename_i s5 ew
                obtain ⟨a, vs0, rfl, h1, h2, h3⟩ := wr_lst rel4 (ev.trans ev4) r4 ew
                have rs := h2 ts ep
                obtain ⟨rel5, ev5, kp5⟩ := h3 (vs0 ++ [w]) (rs.append (.cons rp .nil))
                refine ⟨a, vs0, w, rfl, rfl, h1, ?_, p3 .non _ _ ev5 rel5 .non⟩
                have hz := szok_le hz
                rw [rs.length] at hz
                omega
              · exact p3.elim
            · exact p3.elim
          · exact p3.elim
        · exact p3.elim
      · exact p.elim
theorem se_pop (ho : SE X o f) (hbase : attributeBase o "pop" X.env (eval o X.env) = eval o X.env := by rfl) (hline : (apos.endLine == cpos.line) = true := by rfl) :
    SE X (.Call (.Attribute o "pop" apos) [] [] cpos) (ePop f) := fun W tk =>
  PE.imp (pe_bm0 PySem.F.plainAttrs_list PySem.F.slot_list_pop PySem.F.type_list_pop mt_pop (ho W tk) hbase hline) fun σ H Q ⟨s, τ, rel, post⟩ =>
    run1 (.refl _ _) rel post fun r s2 v τ2 H2 ev rel2 r1 p => by
      split at p
      · rename_i ts ep
        split at p
        · rename_i t s3 et ew
          obtain ⟨a, vs0, rfl, h1, h2, h3⟩ := wr_lst rel2 ev r1 ew
          have rs := h2 ts ep
          obtain ⟨v, e1, e2⟩ := rs.get et
          obtain ⟨rel5, ev5, kp5⟩ := h3 vs0.dropLast rs.dropLast
          exact ⟨.inl ⟨rfl, vs0, .inl (.inl h1)⟩, a, vs0, v, rfl, rfl, h1, by rw [← rs.length]; exact e1, p v _ _ ev5 rel5 (e2.mono kp5)⟩
        · exact p.elim
      · exact p.elim
theorem se_popAt (ho : SE X o f) (he : SE X e g) (hbase : attributeBase o "pop" X.env (eval o X.env) = eval o X.env := by rfl)
    (hfew : ((backTo cpos (starEach [e] X.env)).all (fun x => !x.1) && (backToKw cpos (keywordEach [] X.env)).all (fun x => x.1.isSome)
      && decide ([e].length + ([] : List Keyword).length + (if ([] : List Keyword).isEmpty then 0 else 1) < 30)) = true := by rfl)
    (hline : (apos.endLine == cpos.line) = true := by rfl) (hs : starEach [e] X.env = (false, eval e X.env) :: starEach [] X.env := by rfl) (hplain : (backTo cpos (starEach [] X.env)).any (·.1) = false := by rfl) :
    SE X (.Call (.Attribute o "pop" apos) [e] [] cpos) (ePopAt f g) := fun W tk =>
  PE.imp (pe_bm PySem.F.plainAttrs_list PySem.F.slot_list_pop PySem.F.type_list_pop mt_popAt (ho W tk) (pa_cons (he W tk) pa_nil hs) hbase hfew hline hs hplain) fun σ H Q ⟨s, τ, rel, post⟩ =>
    run1 (.refl _ _) rel post fun r s2 v τ2 H2 ev rel2 r1 p => by
      split at p
      · rename_i hl
        refine ⟨isL_ty rel2 r1 hl, ?_⟩
        refine run1 (R1 := RRes (Mx X)) ev rel2 p fun q s3 w τ3 H3 ev3 rel3 r3 p3 => ?_
        split at p3
        · rename_i ts i ep eq
          have r4 := RelR.later (s2 := s3) r1 ev3
          split at p3
          · rename_i hi
            split at p3
            · rename_i k ek
              split at p3
              · rename_i t s4 et ew
                obtain ⟨a, vs0, rfl, h1, h2, h3⟩ := wr_lst rel3 (ev.trans ev3) r4 ew
                have rs := h2 ts ep
                obtain ⟨v, e1, e2⟩ := rs.get et
                obtain ⟨rel5, ev5, kp5⟩ := h3 (vs0.eraseIdx k) (rs.eraseIdx k)
                exact ⟨a, vs0, i, k, v, rfl, by rw [(RelR.isT rel3 r3 eq).int], h1, by omega, by omega, by rw [← rs.length]; exact ek, e1, p3 v _ _ ev5 rel5 (e2.mono kp5)⟩
              · exact p3.elim
            · exact p3.elim
          · exact p3.elim
        · exact p3.elim
      · exact p.elim
end
end Sv

/-! Sv, part H: statements. -/
namespace Sv
open PySem PySem.Spec PyProof.Rows L2
variable [Tb]

inductive RS where
  | nxt (s : S) | ret (b : Bool) (t : T) (ob : List OV) | brk (s : S) | cnt (s : S) | exc (c : Str) (s : S) | stuck
@[reducible] def R.bindS {α : Type} (m : R α) (k : α → S → RS) : RS := match m with
  | .ok a s => k a s
  | .exc c s => .exc c s
  | .stuck => .stuck
def RetV (M : Md) (τ : Tg) (H H0 : Hp) (b : Bool) (t : T) (v : V) : Prop :=
  if b = true then ∃ a, v = .ref a ∧ ((τ a = .free ∧ H0 a = none) ∨ ∃ i, τ a = .slot i) ∧ Box M τ H a t else Rp M τ H t v
def PostS (M : Md) (τ0 : Tg) (H0 : Hp) (m : RS) (D : Ends) (W : WX) : Prop := match m with
  | .nxt s => ∀ σ' τ' H', Evo τ0 H0 τ' H' → Rel M s τ' σ' H' → D.nx σ' H'
  | .brk s => ∀ σ' τ' H', Evo τ0 H0 τ' H' → Rel M s τ' σ' H' → D.bk σ' H'
  | .cnt s => ∀ σ' τ' H', Evo τ0 H0 τ' H' → Rel M s τ' σ' H' → D.ct σ' H'
  | .ret b t ob => ∀ v τ' H', Evo τ0 H0 τ' H' → RelO M ob τ' H' → RetV M τ' H' H0 b t v → D.rt v H'
  | .exc c s => ∀ C d σ' τ' H', M.mg c = some (.ref C) → Evo τ0 H0 τ' H' → Rel M s τ' σ' H' → W (.ref C) d σ' H'
  | .stuck => False
def tS (M : Md) (g : S → RS) (W : WX) : TS := fun D σ H => ∃ s τ, Rel M s τ σ H ∧ PostS M τ H (g s) D W
def SS (X : Cx) (st : Stmt) (g : S → RS) : Prop := ∀ W, Takes X W → PS X st (tS (Mx X) g W)
def SSs (X : Cx) (st : List Stmt) (g : S → RS) : Prop := ∀ W, Takes X W → PSs X st (tS (Mx X) g W)
theorem PS.imp {X : Cx} {e : Stmt} {t t' : TS} (h : PS X e t) (i : ∀ D σ H, t' D σ H → t D σ H) : PS X e t' := ⟨fun pins s σ H D I q => h.run pins s σ H D I (i D σ H q)⟩
theorem PSs.imp {X : Cx} {e : List Stmt} {t t' : TS} (h : PSs X e t) (i : ∀ D σ H, t' D σ H → t D σ H) : PSs X e t' := ⟨fun pins s σ H D I q => h.run pins s σ H D I (i D σ H q)⟩
section
variable {M : Md} {σ : L2.St} {H H0 H1 H2 : Hp} {τ τ0 τ1 τ2 : Tg} {s s1 s2 : S} {r : Res} {v : V} {t : T} {W : WX} {D : Ends}
theorem RetV.base {b : Bool} (e : Evo τ0 H0 τ1 H1) (h : RetV M τ H H1 b t v) : RetV M τ H H0 b t v := by
  cases b with
  | true =>
    obtain ⟨a, e1, e2, e3⟩ := h
    exact ⟨a, e1, e2.elim (fun z => .inl ⟨z.1, e.back z.2⟩) .inr, e3⟩
  | false => exact h
theorem PostS.shift {m : RS} (h : PostS M τ0 H0 m D W) (e : Evo τ0 H0 τ1 H1) : PostS M τ1 H1 m D W := by
  cases m with
  | nxt s => exact fun σ' τ' H' ev rel => h σ' τ' H' (e.trans ev) rel
  | brk s => exact fun σ' τ' H' ev rel => h σ' τ' H' (e.trans ev) rel
  | cnt s => exact fun σ' τ' H' ev rel => h σ' τ' H' (e.trans ev) rel
  | ret b t ob => exact fun v τ' H' ev rel rv => h v τ' H' (e.trans ev) rel (rv.base e)
  | exc c s => exact fun C d σ' τ' H' hc ev rel => h C d σ' τ' H' hc (e.trans ev) rel
  | stuck => exact h
theorem PostS.next {γ δ : Type} {RR : RRel γ δ} {m : R γ} {k : γ → S → RS} {Q' : δ → Hp → Prop} (e : Evo τ0 H0 τ1 H1) (h : PostS M τ0 H0 (m.bindS k) D W)
    (hk : ∀ r s v τ' H', Evo τ1 H1 τ' H' → Rel M s τ' σ H' → RR σ H1 r s τ' H' v → PostS M τ0 H0 (k r s) D W → Q' v H') : Post M RR σ τ1 H1 m Q' W := by
  cases m with
  | ok r s => exact fun v τ' H' ev rel rr => hk r s v τ' H' ev rel rr h
  | exc c s => exact fun C d τ' H' hc ev rel => h C d σ τ' H' hc (e.trans ev) rel
  | stuck => exact h
/-- one expression of a statement -/
theorem runS {γ δ : Type} {R1 : RRel γ δ} {f : S → R γ} {k : γ → S → RS} {C : δ → Hp → Prop} (ev : Evo τ0 H0 τ1 H1) (rel : Rel M s τ1 σ H1) (post : PostS M τ0 H0 ((f s).bindS k) D W)
    (hk : ∀ x s2 v τ2 H2, Evo τ1 H1 τ2 H2 → Rel M s2 τ2 σ H2 → R1 σ H1 x s2 τ2 H2 v → PostS M τ0 H0 (k x s2) D W → C v H2) : tG M R1 f W σ H1 C := ⟨s, τ1, rel, post.next ev hk⟩
/-- a slot is set -/
theorem Rel.set {i : Nat} {b : Bool} (rel : Rel M s τ σ H) (h : VAt M τ H (.slot i) b t v) : Rel M ⟨s.sl.set i (some (b, t)), s.ob⟩ τ (σ.set i (some v)) H := by
  refine ⟨⟨by rw [List.length_set, List.length_set]; exact rel.rs.len, fun j b' t' q => ?_⟩, rel.ro⟩
  by_cases hj : j = i
  · subst hj
    by_cases hlt : j < s.sl.length
    · rw [List.getElem?_set_self hlt] at q
      cases q
      exact ⟨v, by rw [List.getElem?_set_self (by rw [rel.rs.len]; exact hlt)], h⟩
    · rw [List.getElem?_eq_none (by rw [List.length_set]; omega)] at q
      cases q
  · rw [List.getElem?_set_ne (Ne.symm hj)] at q
    obtain ⟨v', e1, e2⟩ := rel.rs.at_ j b' t' q
    exact ⟨v', by rw [List.getElem?_set_ne (Ne.symm hj)]; exact e1, e2⟩
/-- a new container is taken by a slot -/
theorem own_at {a : Addr} {i : Nat} (rel : Rel M s τ σ H) (ev : Evo τ0 H0 τ H) (hb : Box M τ H a t) (h1 : τ a = .free) (h2 : H0 a = none) :
    ∃ τ', Evo τ0 H0 τ' H ∧ Kp τ H τ' H ∧ Rel M s τ' σ H ∧ OwnAt M τ' H (.slot i) t (.ref a) ∧ (∀ b, b ≠ a → τ' b = τ b) := by
  have kp : Kp τ H (tset τ a (.slot i)) H := ⟨fun b o q h => by
    by_cases e : b = a
    · subst e; rw [h1] at h; cases h
    · exact ⟨by rw [tset_ne e]; exact h, q⟩, fun b r h => by
    by_cases e : b = a
    · subst e; rw [h1] at h; cases h
    · rw [tset_ne e]; exact h⟩
  refine ⟨tset τ a (.slot i), ⟨ev.toKp.trans kp, fun b o q h => ?_, ev.th, fun b j h => ?_⟩, kp, ⟨rel.rs.kp kp fun b j h _ => ?_, ?_⟩, ⟨a, rfl, tset_same, hb.kp kp rfl⟩, fun b e => tset_ne e⟩
  · obtain ⟨h3, h4⟩ := ev.fr b o q h
    have e : b ≠ a := fun z => by subst z; rw [h2] at q; cases q
    exact ⟨by rw [tset_ne e]; exact h3, h4⟩
  · by_cases e : b = a
    · subst e; exact .inl h2
    · rw [tset_ne e] at h; exact ev.sl b j h
  · have e : b ≠ a := fun z => by subst z; rw [h1] at h; cases h
    exact ⟨by rw [tset_ne e]; exact h, rfl⟩
  · have back : ∀ b g, tset τ a (.slot i) b = g → (∀ j, g ≠ .slot j) → τ b = g ∧ b ≠ a := fun b g h n => by
      by_cases e : b = a
      · subst e; rw [tset_same] at h; exact absurd h.symm (n i)
      · rw [tset_ne e] at h; exact ⟨h, e⟩
    refine ⟨fun b r h => ?_, fun b c r e1 e2 => ?_, fun b h => ?_, rel.ro.tb.mono (fun b q h => ?_) (fun b q h => (back b _ h (by simp)).1) kp (fun _ _ _ _ z => z) fun _ _ z => z⟩
    · obtain ⟨o, e1, e2⟩ := rel.ro.at_ b r (back b _ h (by simp)).1
      exact ⟨o, e1, e2.kp kp rfl⟩
    · exact rel.ro.one b c r (back b _ e1 (by simp)).1 (back c _ e2 (by simp)).1
    · by_cases e : b = a
      · subst e; exact hb.there
      · rw [tset_ne e] at h; exact rel.ro.al b h
    · rw [tset_ne fun z => by subst z; rw [h1] at h; cases h]; exact h
end

/-! ### blocks -/
def sNil : S → RS := fun s => .nxt s
def sCons (g h : S → RS) : S → RS := fun s => match g s with
  | .nxt s => h s
  | r => r
def sExpr (f : S → R Res) : S → RS := fun s => (f s).bindS fun _ s => .nxt s
def retOf (r : Res) (s : S) : RS := match r with
  | .val t => .ret false t s.ob
  | .tmp t => .ret true t s.ob
  | .plc i => match s.sl[i]? with
    | some (some (b, t)) => .ret b t s.ob
    | _ => .stuck
def sRet (f : S → R Res) : S → RS := fun s => (f s).bindS retOf
def sRetN : S → RS := fun s => .ret false .non s.ob
/-- x = e -/
def setOf (i : Nat) (r : Res) (s : S) : RS := match r with
  | .tmp t => .nxt ⟨s.sl.set i (some (true, t)), s.ob⟩
  | r => match frz s r with
    | some (t, s) => .nxt ⟨s.sl.set i (some (false, t)), s.ob⟩
    | none => .stuck
def sSet (i : Nat) (f : S → R Res) : S → RS := fun s => (f s).bindS (setOf i)
def sIf (c : S → R Bool) (g h : S → RS) : S → RS := fun s => (c s).bindS fun b s => if b = true then g s else h s
def sRaise (c : Str) : S → RS := fun s => .exc c s
/-- x op= e -/
def sAug (op : T → T → Option (Bool × T)) (i : Nat) (f : S → R Res) : S → RS := fun s => match s.sl[i]? with
  | some (some (false, x)) => (f s).bindS fun r s => match peek s r with
    | some y => (match op x y with
      | some (false, t) => .nxt ⟨s.sl.set i (some (false, t)), s.ob⟩
      | _ => .stuck)
    | none => .stuck
  | _ => .stuck
def whileL (c : S → R Bool) (g : S → RS) : Nat → S → RS
  | 0, _ => .stuck
  | n + 1, s => (c s).bindS fun b s => if b = true then (match g s with
    | .nxt s => whileL c g n s
    | .cnt s => whileL c g n s
    | .brk s => .nxt s
    | r => r) else .nxt s
/-- the most turns of a while loop -/
def fuel : Nat := 2 ^ 200
def sWhile (c : S → R Bool) (g : S → RS) : S → RS := fun s => whileL c g fuel s
section
variable {X : Cx} {st : Stmt} {rest sts a b : List Stmt} {e c : Expr} {g h : S → RS} {f : S → R Res} {tc : S → R Bool} {pos : Pos}
theorem sss_nil : SSs X [] sNil := fun W tk => PSs.imp pss_nil fun D σ H ⟨s, τ, rel, post⟩ => post σ τ H (.refl _ _) rel
theorem cons_runS {M : Md} {W : WX} {D : Ends} {σ : L2.St} {H : Hp} (q : tS M (sCons g h) W D σ H) : tS M g W { D with nx := tS M h W D } σ H := by
  obtain ⟨s, τ, rel, post⟩ := q
  refine ⟨s, τ, rel, ?_⟩
  unfold sCons at post
  cases k : g s with
  | nxt s1 =>
    rw [k] at post
    exact fun σ' τ' H' ev rel' => ⟨s1, τ', rel', post.shift ev⟩
  | _ => rw [k] at post; exact post
theorem sss_cons (h1 : SS X st g) (h2 : SSs X rest h) : SSs X (st :: rest) (sCons g h) := fun W tk => PSs.imp (pss_cons (h1 W tk) (h2 W tk)) fun _ _ _ q => cons_runS q
theorem sss_one (h1 : SS X st g) : SSs X [st] g := fun W tk => pss_one (h1 W tk)
theorem ss_pass : SS X (.Pass pos) sNil := fun W tk => PS.imp ps_pass fun D σ H ⟨s, τ, rel, post⟩ => post σ τ H (.refl _ _) rel
theorem ss_brk : SS X (.Break pos) (fun s => .brk s) := fun W tk => PS.imp ps_break fun D σ H ⟨s, τ, rel, post⟩ => post σ τ H (.refl _ _) rel
theorem ss_cnt : SS X (.Continue pos) (fun s => .cnt s) := fun W tk => PS.imp ps_continue fun D σ H ⟨s, τ, rel, post⟩ => post σ τ H (.refl _ _) rel
theorem ss_expr (he : SE X e f) (hs : swapsWith e none pos.line X.env = pure false := by rfl) : SS X (.Expr e pos) (sExpr f) := fun W tk => PS.imp (ps_expr (he W tk) hs) fun D σ H ⟨s, τ, rel, post⟩ =>
  runS (R1 := RRes (Mx X)) (.refl _ _) rel post fun x s2 v τ2 H2 ev rel2 r1 p => p σ τ2 H2 ev rel2
theorem ret_run {M : Md} {W : WX} {D : Ends} {σ : L2.St} {H H0 : Hp} {τ τ0 : Tg} {s : S} {r : Res} {v : V} (ev : Evo τ0 H0 τ H) (rel : Rel M s τ σ H) (h : RelR M σ H0 r s τ H v) (p : PostS M τ0 H0 (retOf r s) D W) : D.rt v H := by
  cases r with
  | val t => exact p v τ H ev rel.ro h
  | tmp t =>
    obtain ⟨a, rfl, h2, h3, h4⟩ := h
    exact p (.ref a) τ H ev rel.ro ⟨a, rfl, .inl ⟨h3, h2⟩, h4⟩
  | plc i =>
    have p : PostS M τ0 H0 (match s.sl[i]? with | some (some (b, t)) => .ret b t s.ob | _ => .stuck) D W := p
    split at p
    · rename_i b t q
      obtain ⟨v', e1, e2⟩ := rel.rs.at_ i b t q
      have h : σ[i]? = some (some v) := h
      rw [h] at e1
      cases e1
      refine p v τ H ev rel.ro ?_
      cases b with
      | true =>
        obtain ⟨a, rfl, h2, h3⟩ := e2
        exact ⟨a, rfl, .inr ⟨i, h2⟩, h3⟩
      | false => exact e2
    · exact p.elim
theorem ss_ret (he : SE X e f) : SS X (.Return (some e) pos) (sRet f) := fun W tk => PS.imp (ps_ret (he W tk)) fun D σ H ⟨s, τ, rel, post⟩ =>
  runS (R1 := RRes (Mx X)) (.refl _ _) rel post fun x s2 v τ2 H2 ev rel2 r1 p => ret_run ev rel2 r1 p
theorem ss_retN : SS X (.Return none pos) sRetN := fun W tk => PS.imp ps_retN fun D σ H ⟨s, τ, rel, post⟩ => post .non τ H (.refl _ _) rel.ro .non
theorem set_run {M : Md} {W : WX} {D : Ends} {σ : L2.St} {H H0 : Hp} {τ τ0 : Tg} {s : S} {r : Res} {v : V} {i : Nat} (ev : Evo τ0 H0 τ H) (rel : Rel M s τ σ H) (h : RelR M σ H0 r s τ H v) (p : PostS M τ0 H0 (setOf i r s) D W) : D.nx (σ.set i (some v)) H := by
  have other : ∀ {t s'}, frz s r = some (t, s') → PostS M τ0 H0 (.nxt ⟨s'.sl.set i (some (false, t)), s'.ob⟩) D W → D.nx (σ.set i (some v)) H := fun {t s'} ef p => by
    obtain ⟨τ', e1, e2, e3, e4⟩ := RelR.frz rel ev h ef
    exact p _ τ' H e1 (e3.set (b := false) e4)
  cases r with
  | tmp t =>
    obtain ⟨a, rfl, h2, h3, h4⟩ := h
    obtain ⟨τ', e1, e2, e3, e4, _⟩ := own_at (i := i) rel ev h4 h3 h2
    exact p _ τ' H e1 (e3.set (b := true) e4)
  | val t =>
    exact other (s' := s) rfl p
  | plc j =>
    have p : PostS M τ0 H0 (match frz s (.plc j) with | some (t, s) => .nxt ⟨s.sl.set i (some (false, t)), s.ob⟩ | none => .stuck) D W := p
    split at p
    · rename_i t s' ef
      exact other ef p
    · exact p.elim
theorem ss_set {i : Nat} {x : Str} {pos' : Pos} (hN : X.N.Nodup) (hi : X.N[i]? = some x) (hx : Loc X.env.scope x) (he : SE X e f) (hs : swapsWith e (some (.Name x pos')) pos.line X.env = pure false := by rfl) (hf : X.fn x = true ∨ X.env.scope.names.lookup x = some .local := by first | exact .inl rfl | exact .inr rfl | assumption) :
    SS X (.Assign [.Name x pos'] e pos) (sSet i f) := fun W tk => PS.imp (ps_set hN hi hx (he W tk) hs hf) fun D σ H ⟨s, τ, rel, post⟩ =>
  runS (R1 := RRes (Mx X)) (.refl _ _) rel post fun x s2 v τ2 H2 ev rel2 r1 p => set_run ev rel2 r1 p
theorem ss_if (hc : ST X c tc) (ha : SSs X a g) (hb : SSs X b h) : SS X (.If c a b pos) (sIf tc g h) := fun W tk => PS.imp (ps_if (hc W tk) (ha W tk) (hb W tk)) fun D σ H ⟨s, τ, rel, post⟩ =>
  runS (R1 := RBool) (.refl _ _) rel post fun x s2 v τ2 H2 ev rel2 r1 p => by
    cases (show v = x from r1)
    cases x with
    | true => exact ⟨s2, τ2, rel2, p.shift ev⟩
    | false => exact ⟨s2, τ2, rel2, p.shift ev⟩
theorem ss_raise {pm : L2.St → Hp → XK → Prop} {C : Addr} {cn : Str} (hc : X.calm = true) (hm : X.mg cn = some (.ref C)) (he : PMk X e pm) (hp : ∀ σ H Q, Q (.ref C) none H → pm σ H Q) : SS X (.Raise (some e) none pos) (sRaise cn) := fun W tk =>
  PS.imp (ps_raise hc tk he) fun D σ H ⟨s, τ, rel, post⟩ => hp σ H (fun cls d H' => W cls d σ H') (post C none σ τ H hm (.refl _ _) rel)
theorem iop_mulW : OpR X (inplaceOp .Mult) (rI CMulW fun i j => .int (i * j)) := opI fun _ _ _ _ _ _ _ hc q => imul_int q hc.ok
theorem ss_aug {i : Nat} {x : Str} {op : Operator} {r : R2} {o : T → T → Option (Bool × T)} {pos' : Pos} (hN : X.N.Nodup) (hi : X.N[i]? = some x) (hx : Loc X.env.scope x) (he : SE X e f) (ho : OpR X (inplaceOp op) r)
    (hg : ∀ τ H tx ty x y t Q, Rp (Mx X) τ H tx x → IsT (Mx X) τ H ty y → o tx ty = some (false, t) → (∀ v, Rp (Mx X) τ H t v → Q v H) → r x y H Q)
    (hf : X.fn x = true ∨ X.env.scope.names.lookup x = some .local := by first | exact .inl rfl | exact .inr rfl | assumption) :
    SS X (.AugAssign (.Name x pos') op e pos) (sAug o i f) := fun W tk => PS.imp (ps_aug hN hi hx (he W tk) (ti := r) ho hf) fun D σ H ⟨s, τ, rel, post⟩ => by
  unfold sAug at post
  split at post
  · rename_i t0 q
    obtain ⟨v0, e1, e2⟩ := rel.rs.at_ i false t0 q
    refine ⟨v0, e1, runS (R1 := RRes (Mx X)) (.refl _ _) rel post fun x s2 v τ2 H2 ev rel2 r1 p => ?_⟩
    split at p
    · rename_i y ey
      split at p
      · rename_i t et
        refine hg τ2 H2 t0 y v0 v t _ (Rp.mono ev.toKp e2) (RelR.isT rel2 r1 ey) et fun z hz => ?_
        exact p _ τ2 H2 ev (rel2.set (b := false) hz)
      · exact p.elim
    · exact p.elim
  · exact post.elim
def opIAdd : T → T → Option (Bool × T)
  | .int i, .int j => some (false, .int (i + j))
  | _, _ => none
def opISub : T → T → Option (Bool × T)
  | .int i, .int j => some (false, .int (i - j))
  | _, _ => none
def opIMul : T → T → Option (Bool × T)
  | .int i, .int j => if mulOk i j = true then some (false, .int (i * j)) else none
  | _, _ => none
def opIDiv : T → T → Option (Bool × T)
  | .int i, .int j => if 0 < j ∧ j.natAbs.log2 < 9000 then some (false, .int (i / j)) else none
  | _, _ => none
def opIMod : T → T → Option (Bool × T)
  | .int i, .int j => if 0 < j then some (false, .int (i % j)) else none
  | _, _ => none
section
variable {i : Nat} {x : Str} {pos' : Pos}
theorem Rp.toInt {M : Md} {τ : Tg} {H : Hp} {k : Int} {v : V} (h : Rp M τ H (.int k) v) : v = .int k := by cases h; rfl
theorem ss_augAdd (hN : X.N.Nodup) (hi : X.N[i]? = some x) (hx : Loc X.env.scope x) (he : SE X e f) (hf : X.fn x = true ∨ X.env.scope.names.lookup x = some .local := by first | exact .inl rfl | exact .inr rfl | assumption) :
    SS X (.AugAssign (.Name x pos') .Add e pos) (sAug opIAdd i f) := ss_aug hN hi hx he iop_add (fun τ H tx ty x y t Q hx hy e g => by
    unfold opIAdd at e
    split at e <;> cases e
    exact ⟨_, _, hx.toInt, hy.int, g _ (.int _)⟩) hf
theorem ss_augSub (hN : X.N.Nodup) (hi : X.N[i]? = some x) (hx : Loc X.env.scope x) (he : SE X e f) (hf : X.fn x = true ∨ X.env.scope.names.lookup x = some .local := by first | exact .inl rfl | exact .inr rfl | assumption) :
    SS X (.AugAssign (.Name x pos') .Sub e pos) (sAug opISub i f) := ss_aug hN hi hx he iop_sub (fun τ H tx ty x y t Q hx hy e g => by
    unfold opISub at e
    split at e <;> cases e
    exact ⟨_, _, hx.toInt, hy.int, g _ (.int _)⟩) hf
theorem ss_augMul (hN : X.N.Nodup) (hi : X.N[i]? = some x) (hx : Loc X.env.scope x) (he : SE X e f) (hf : X.fn x = true ∨ X.env.scope.names.lookup x = some .local := by first | exact .inl rfl | exact .inr rfl | assumption) :
    SS X (.AugAssign (.Name x pos') .Mult e pos) (sAug opIMul i f) := ss_aug hN hi hx he (iop_mul.or iop_mulW) (fun τ H tx ty x y t Q hx hy e g => by
    unfold opIMul at e
    split at e
    · rename_i i j
      split at e <;> cases e
      rename_i hz
      unfold mulOk at hz
      rw [Bool.or_eq_true, Bool.or_eq_true] at hz
      rcases hz with (hz | hz) | hz
      · exact .inl ⟨_, _, hx.toInt, hy.int, .inl (abs64 (of_decide_eq_true hz)), g _ (.int _)⟩
      · exact .inl ⟨_, _, hx.toInt, hy.int, .inr (abs64 (of_decide_eq_true hz)), g _ (.int _)⟩
      · have hz' : i.natAbs.log2 + j.natAbs.log2 < 1000000 := of_decide_eq_true hz
        exact .inr ⟨_, _, hx.toInt, hy.int, hz', g _ (.int _)⟩
    · cases e) hf
theorem ss_augDiv (hN : X.N.Nodup) (hi : X.N[i]? = some x) (hx : Loc X.env.scope x) (he : SE X e f) (hf : X.fn x = true ∨ X.env.scope.names.lookup x = some .local := by first | exact .inl rfl | exact .inr rfl | assumption) :
    SS X (.AugAssign (.Name x pos') .FloorDiv e pos) (sAug opIDiv i f) := ss_aug hN hi hx he iop_fdivW (fun τ H tx ty x y t Q hx hy e g => by
    unfold opIDiv at e
    split at e
    · split at e <;> cases e
      rename_i hz
      exact ⟨_, _, hx.toInt, hy.int, hz, g _ (.int _)⟩
    · cases e) hf
theorem ss_augMod (hN : X.N.Nodup) (hi : X.N[i]? = some x) (hx : Loc X.env.scope x) (he : SE X e f) (hf : X.fn x = true ∨ X.env.scope.names.lookup x = some .local := by first | exact .inl rfl | exact .inr rfl | assumption) :
    SS X (.AugAssign (.Name x pos') .Mod e pos) (sAug opIMod i f) := ss_aug hN hi hx he iop_mod (fun τ H tx ty x y t Q hx hy e g => by
    unfold opIMod at e
    split at e
    · split at e <;> cases e
      rename_i hz
      exact ⟨_, _, hx.toInt, hy.int, hz, g _ (.int _)⟩
    · cases e) hf
end
/-- a while loop -/
theorem ss_while (hp : PassesOwn (model X.prog X.w) X.A X.env X.xe) (hc : ST X c tc) (hb : SSs X sts g) : SS X (.While c sts [] pos) (sWhile tc g) := fun W tk =>
  PS.imp (ps_while hp (hc W tk) (hb W tk)) fun D σ H ⟨s, τ, rel, post⟩ => by
    refine ⟨fun m σ H => ∃ s τ, Rel (Mx X) s τ σ H ∧ PostS (Mx X) τ H (whileL tc g m s) D W, ⟨fuel, s, τ, rel, post⟩, ?_⟩
    rintro m σ H ⟨s, τ, rel, post⟩
    cases m with
    | zero => exact post.elim
    | succ m =>
      unfold whileL at post
      refine runS (R1 := RBool) (.refl _ _) rel post fun x s2 v τ2 H2 ev rel2 r1 p => ?_
      cases (show v = x from r1)
      cases x with
      | false => exact p σ τ2 H2 ev rel2
      | true =>
        refine ⟨fun σ' H' => ∃ s τ, Rel (Mx X) s τ σ' H' ∧ PostS (Mx X) τ H' (whileL tc g m s) D W, fun σ' H' q => ⟨m, Nat.lt_succ_self m, q⟩, s2, τ2, rel2, ?_⟩
        have p := p.shift ev
        simp only [if_true] at p
        cases k : g s2 with
        | nxt s3 => rw [k] at p; exact fun σ' τ' H' ev rel => ⟨s3, τ', rel, p.shift ev⟩
        | cnt s3 => rw [k] at p; exact fun σ' τ' H' ev rel => ⟨s3, τ', rel, p.shift ev⟩
        | brk s3 => rw [k] at p; exact p
        | ret b t ob => rw [k] at p; exact p
        | exc cn s3 => rw [k] at p; exact p
        | stuck => rw [k] at p; exact p
end
end Sv

/-! Sv, part I: targets, tuples assigned, what is walked, for, comprehensions. -/
namespace Sv
open PySem PySem.Spec PyProof.Rows L2
variable [Tb]

/-! ### targets -/
def PostT (M : Md) (τ0 : Tg) (H0 : Hp) (m : R Unit) (Q : L2.St → Hp → Prop) (W : WX) : Prop := match m with
  | .ok _ s => ∀ σ' τ' H', Evo τ0 H0 τ' H' → Rel M s τ' σ' H' → Q σ' H'
  | .exc c s => ∀ C d σ' τ' H', M.mg c = some (.ref C) → Evo τ0 H0 τ' H' → Rel M s τ' σ' H' → W (.ref C) d σ' H'
  | .stuck => False
def tGt (M : Md) (g : T → S → R Unit) (W : WX) : TG := fun v σ H Q => ∃ s τ t, Rel M s τ σ H ∧ Rp M τ H t v ∧ PostT M τ H (g t s) Q W
def tGts (M : Md) (g : List T → S → R Unit) (W : WX) : TGs := fun vs σ H Q => ∃ s τ ts, Rel M s τ σ H ∧ Rps M τ H ts vs ∧ PostT M τ H (g ts s) Q W
def SG (X : Cx) (e : Expr) (g : T → S → R Unit) : Prop := ∀ W, Takes X W → PG X e (tGt (Mx X) g W)
def SGs (X : Cx) (e : List Expr) (g : List T → S → R Unit) : Prop := ∀ W, Takes X W → PGs X e (tGts (Mx X) g W)
theorem PG.imp {X : Cx} {e : Expr} {t t' : TG} (h : PG X e t) (i : ∀ v σ H Q, t' v σ H Q → t v σ H Q) : PG X e t' := ⟨fun pins s σ H v u Q I r q => h.run pins s σ H v u Q I r (i v σ H Q q)⟩
theorem PGs.imp {X : Cx} {e : List Expr} {t t' : TGs} (h : PGs X e t) (i : ∀ v σ H Q, t' v σ H Q → t v σ H Q) : PGs X e t' := ⟨fun pins s σ H v u Q I r q => h.run pins s σ H v u Q I r (i v σ H Q q)⟩
theorem PostT.shift {M : Md} {τ0 τ1 : Tg} {H0 H1 : Hp} {m : R Unit} {Q : L2.St → Hp → Prop} {W : WX} (h : PostT M τ0 H0 m Q W) (e : Evo τ0 H0 τ1 H1) : PostT M τ1 H1 m Q W := by
  cases m with
  | ok r s => exact fun σ' τ' H' ev rel => h σ' τ' H' (e.trans ev) rel
  | exc c s => exact fun C d σ' τ' H' hc ev rel => h C d σ' τ' H' hc (e.trans ev) rel
  | stuck => exact h
def gSet (i : Nat) : T → S → R Unit := fun t s => .ok () ⟨s.sl.set i (some (false, t)), s.ob⟩
def gNil : List T → S → R Unit := fun ts s => match ts with
  | [] => .ok () s
  | _ => .stuck
def gCons (g : T → S → R Unit) (h : List T → S → R Unit) : List T → S → R Unit := fun ts s => match ts with
  | t :: r => (g t s).bind fun _ s => h r s
  | [] => .stuck
def gTup (n : Nat) (g : List T → S → R Unit) : T → S → R Unit := fun t s => match t with
  | .tup ts => if ts.length = n then g ts s else .stuck
  | _ => .stuck
def gLst (n : Nat) (g : List T → S → R Unit) : T → S → R Unit := fun t s => match t with
  | .lst ts => if ts.length = n then g ts s else .stuck
  | _ => .stuck
/-- o[i] = v -/
def gSub (fo fi : S → R Res) : T → S → R Unit := fun t s => (fo s).bind fun r s => (fi s).bind fun q s => match peek s r, peek s q with
  | some (.lst ts), some (.int k) => (match ixN ts.length k with
    | some j => (match wr s r (.lst (ts.set j t)) with
      | some s => .ok () s
      | none => .stuck)
    | none => .stuck)
  | _, _ => .stuck
section
variable {X : Cx} {e o i : Expr} {es : List Expr} {g : T → S → R Unit} {h : List T → S → R Unit} {fo fi f : S → R Res} {pos : Pos}
theorem sg_name {i : Nat} {x : Str} (hN : X.N.Nodup) (hi : X.N[i]? = some x) (hx : Loc X.env.scope x) (hf : X.fn x = true ∨ X.env.scope.names.lookup x = some .local := by first | exact .inl rfl | exact .inr rfl | assumption) : SG X (.Name x pos) (gSet i) := fun W tk =>
  PG.imp (pg_name hN hi hx hf) fun v σ H Q ⟨s, τ, t, rel, rp, post⟩ => post _ τ H (.refl _ _) (rel.set (b := false) rp)
theorem sgs_nil : SGs X [] gNil := fun W tk => PGs.imp pgs_nil fun vs σ H Q ⟨s, τ, ts, rel, rp, post⟩ => by
  cases rp with
  | nil => exact ⟨rfl, post σ τ H (.refl _ _) rel⟩
  | cons _ _ => exact post.elim
theorem sgs_cons (h1 : SG X e g) (h2 : SGs X es h) (hs : (assignEach (e :: es) X.env).map (·.2) = assign e X.env :: (assignEach es X.env).map (·.2) := by rfl) : SGs X (e :: es) (gCons g h) := fun W tk =>
  PGs.imp (pgs_cons (h1 W tk) (h2 W tk) hs) fun vs σ H Q ⟨s, τ, ts, rel, rp, post⟩ => by
    cases rp with
    | nil => exact post.elim
    | @cons t v ts vs r rs =>
      refine ⟨v, vs, rfl, s, τ, t, rel, r, ?_⟩
      have post : PostT (Mx X) τ H ((g t s).bind fun _ s => h ts s) Q W := post
      cases k : g t s with
      | ok u s1 =>
        rw [k] at post
        exact fun σ' τ' H' ev rel' => ⟨s1, τ', ts, rel', rs.mono ev.toKp, post.shift ev⟩
      | exc c s1 => rw [k] at post; exact post
      | stuck => rw [k] at post; exact post
theorem sg_tup {n k : Nat} (hc : X.calm = true) (h1 : SGs X es h) (hn : (assignEach es X.env).length = n := by rfl) (hst : (assignEach es X.env).findIdx? (·.1) = none := by rfl) : SG X (.Tuple es k pos) (gTup n h) := fun W tk =>
  PG.imp (pg_tup hc (h1 W tk) hn hst) fun v σ H Q ⟨s, τ, t, rel, rp, post⟩ => by
    unfold gTup at post
    split at post
    · split at post
      · rename_i hl
        cases rp with
        | tup q1 q2 => exact ⟨_, _, rfl, q1.sq, by rw [← q2.length]; exact hl, s, τ, _, rel, q2, post⟩
      · exact post.elim
    · exact post.elim
theorem sg_lst {n k : Nat} (hc : X.calm = true) (h1 : SGs X es h) (hn : (assignEach es X.env).length = n := by rfl) (hst : (assignEach es X.env).findIdx? (·.1) = none := by rfl) : SG X (.Tuple es k pos) (gLst n h) := fun W tk =>
  PG.imp (pg_lst hc (h1 W tk) hn hst) fun v σ H Q ⟨s, τ, t, rel, rp, post⟩ => by
    unfold gLst at post
    split at post
    · split at post
      · rename_i hl
        cases rp with
        | lst q1 q2 => exact ⟨_, _, rfl, q1.sq, by rw [← q2.length]; exact hl, s, τ, _, rel, q2, post⟩
      · exact post.elim
    · exact post.elim
theorem sg_sub (ho : SE X o fo) (hi : SE X i fi) (ha : ∀ v, assign (.Subscript o i pos) X.env v = (do
      let ov ← holding [v] (eval o X.env)
      let iv ← holding [v, ov] (eval i X.env)
      standAt pos
      holding [v, ov, iv] (setItem ov iv v)
      release [v, ov, iv] []) := by intro _; rfl) : SG X (.Subscript o i pos) (gSub fo fi) := fun W tk =>
  PG.imp (pg_sub (ho W tk) (hi W tk) set_list ha) fun v σ H Q ⟨s, τ, t, rel, rp, post⟩ => by
    unfold gSub at post
    have conv : ∀ {m : R Unit}, PostT (Mx X) τ H m Q W → Post (Mx X) (fun σ _ (_ : Unit) _ _ _ (ρ : L2.St) => ρ = σ) σ τ H m (fun ρ H' => Q ρ H') W := fun {m} h => by
      cases m with
      | ok r s => intro ρ τ' H' ev rel' e; subst e; exact h _ τ' H' ev rel'
      | exc c s => exact fun C d τ' H' hc ev rel' => h C d σ τ' H' hc ev rel'
      | stuck => exact h
    have post := conv post
    refine run2 rel post fun x y s2 w u τ2 H2 ev rel2 r1 r2 p => ?_
    split at p
    · rename_i ts k ex ey
      split at p
      · rename_i j ej
        split at p
        · rename_i s3 ew
          obtain ⟨a, vs0, rfl, h1, h2, h3⟩ := wr_lst rel2 ev r1 ew
          have rs := h2 ts ex
          obtain ⟨rel3, ev3, _⟩ := h3 (vs0.set j v) (Rps.set (rp.mono ev.toKp) j rs)
          exact ⟨a, vs0, k, j, rfl, (r2.isT rel2 ey).int, h1, by rw [← rs.length]; exact ej, p σ τ2 _ ev3 rel3 rfl⟩
        · exact p.elim
      · exact p.elim
    · exact p.elim
end

/-! ### assignments to targets -/
def toS (m : R Unit) : RS := match m with
  | .ok _ s => .nxt s
  | .exc c s => .exc c s
  | .stuck => .stuck
def sAsg (f : S → R Res) (g : T → S → R Unit) : S → RS := fun s => (f s).bindS fun r s => match frz s r with
  | some (t, s) => toS (g t s)
  | none => .stuck
theorem PostS.toT {M : Md} {τ : Tg} {H : Hp} {m : R Unit} {D : Ends} {W : WX} (h : PostS M τ H (toS m) D W) : PostT M τ H m D.nx W := by
  cases m with
  | ok r s => exact h
  | exc c s => exact h
  | stuck => exact h
section
variable {X : Cx} {e tg : Expr} {f : S → R Res} {g : T → S → R Unit} {pos : Pos}
theorem ss_asg (he : SE X e f) (hg : SG X tg g) (hs : swapsWithSole [tg] e pos.line X.env = pure false := by rfl) (hw : swappedStores [tg] e X.env = pure none := by rfl)
    (h1 : (assignEach [tg] X.env).map (·.2) = [assign tg X.env] := by rfl) : SS X (.Assign [tg] e pos) (sAsg f g) := fun W tk => PS.imp (ps_asg (he W tk) (hg W tk) hs hw h1) fun D σ H ⟨s, τ, rel, post⟩ =>
  runS (R1 := RRes (Mx X)) (.refl _ _) rel post fun x s2 v τ2 H2 ev rel2 r1 p => by
    split at p
    · rename_i t s3 ef
      obtain ⟨τ3, e1, e2, e3, e4⟩ := RelR.frz rel2 ev r1 ef
      exact ⟨s3, τ3, t, e3, e4, (PostS.toT p).shift e1⟩
    · exact p.elim
end

/-! ### several values at once, new containers not yet held -/
def VO (M : Md) (H0 : Hp) (τ : Tg) (H : Hp) (b : Bool) (t : T) (v : V) : Prop := if b = true then ∃ a, v = .ref a ∧ H0 a = none ∧ τ a = .free ∧ Box M τ H a t else Rp M τ H t v
inductive VOs (M : Md) (H0 : Hp) (τ : Tg) (H : Hp) : List (Bool × T) → List V → Prop
  | nil : VOs M H0 τ H [] []
  | cons {b : Bool} {t : T} {v : V} {bts : List (Bool × T)} {vs : List V} : VO M H0 τ H b t v → (b = true → ∀ (j : Nat) (t' : T), bts[j]? = some (true, t') → vs[j]? ≠ some v) → VOs M H0 τ H bts vs → VOs M H0 τ H ((b, t) :: bts) (v :: vs)
def RVOs (M : Md) : RRel (List (Bool × T)) (List V) := fun _ H0 ts _ τ H vs => VOs M H0 τ H ts vs
def SAo (X : Cx) (es : List Expr) (f : S → R (List (Bool × T))) : Prop := ∀ W, Takes X W → PA X es (tG (Mx X) (RVOs (Mx X)) f W)
/-- a result, its container kept apart where it is new -/
def own (s : S) : Res → Option ((Bool × T) × S)
  | .tmp t => some ((true, t), s)
  | r => (frz s r).map fun p => ((false, p.1), p.2)
def aoNil : S → R (List (Bool × T)) := fun s => .ok [] s
def aoCons (f : S → R Res) (g : S → R (List (Bool × T))) : S → R (List (Bool × T)) := fun s => (f s).bind fun r s => match own s r with
  | some (t, s) => (g s).bind fun ts s => .ok (t :: ts) s
  | none => .stuck
section
variable {M : Md} {σ : L2.St} {H H0 H1 H2 : Hp} {τ τ0 τ1 τ2 : Tg} {s s1 s2 : S} {r : Res} {v : V} {t : T}
theorem VO.base {b : Bool} (e : Evo τ0 H0 τ1 H1) (h : VO M H1 τ H b t v) : VO M H0 τ H b t v := by
  cases b with
  | true => obtain ⟨a, e1, e2, e3⟩ := h; exact ⟨a, e1, e.back e2, e3⟩
  | false => exact h
theorem VOs.base (e : Evo τ0 H0 τ1 H1) : ∀ {bts : List (Bool × T)} {vs : List V}, VOs M H1 τ H bts vs → VOs M H0 τ H bts vs
  | _, _, .nil => .nil
  | _, _, .cons h n r => .cons (h.base e) n (VOs.base e r)
theorem bVOs : Bas (RVOs M) := fun _ _ _ _ _ _ _ _ _ _ e h => VOs.base e h
theorem VO.later {b : Bool} (h : VO M H0 τ1 H1 b t v) (e : Evo τ1 H1 τ2 H2) : VO M H0 τ2 H2 b t v := by
  cases b with
  | true =>
    obtain ⟨a, e1, e2, e3, e4⟩ := h
    obtain ⟨o, ho⟩ := Option.ne_none_iff_exists'.mp e4.there
    obtain ⟨q1, q2⟩ := e.fr a o ho e3
    exact ⟨a, e1, e2, q1, e4.kp e.toKp (q2.trans ho.symm)⟩
  | false => exact Rp.mono e.toKp h
theorem VOs.length : ∀ {bts : List (Bool × T)} {vs : List V}, VOs M H0 τ H bts vs → bts.length = vs.length
  | _, _, .nil => rfl
  | _, _, .cons _ _ r => congrArg (· + 1) (VOs.length r)
/-- later ones are other objects -/
theorem VOs.apart (hv : ∀ a, v = .ref a → H0 a ≠ none) : ∀ {bts : List (Bool × T)} {vs : List V}, VOs M H0 τ H bts vs → ∀ (j : Nat) (t' : T), bts[j]? = some (true, t') → vs[j]? ≠ some v
  | _, _, .nil, j, t', e => by simp at e
  | _, _, .cons h _ r, 0, t', e => fun z => by
    simp at e z
    obtain ⟨rfl, rfl⟩ := e
    subst z
    obtain ⟨a, e1, e2, _⟩ := h
    exact hv a e1 e2
  | _, _, .cons _ _ r, j + 1, t', e => by simpa using VOs.apart hv r j t' (by simpa using e)
theorem RelR.own {bt : Bool × T} {s' : S} (rel : Rel M s τ σ H) (ev : Evo τ0 H0 τ H) (h : RelR M σ H0 r s τ H v) (p : own s r = some (bt, s')) : ∃ τ', Evo τ0 H0 τ' H ∧ Kp τ H τ' H ∧ Rel M s' τ' σ H ∧ VO M H0 τ' H bt.1 bt.2 v := by
  have other : ∀ {r}, RelR M σ H0 r s τ H v → (Sv.frz s r).map (fun p => ((false, p.1), p.2)) = some (bt, s') → ∃ τ', Evo τ0 H0 τ' H ∧ Kp τ H τ' H ∧ Rel M s' τ' σ H ∧ VO M H0 τ' H bt.1 bt.2 v := fun {r} h p => by
    cases q : Sv.frz s r with
    | none => rw [q] at p; cases p
    | some z =>
      rw [q] at p
      cases p
      obtain ⟨τ', e1, e2, e3, e4⟩ := RelR.frz rel ev h (show Sv.frz s r = some (z.1, z.2) from q)
      exact ⟨τ', e1, e2, e3, e4⟩
  cases r with
  | tmp t => cases p; exact ⟨τ, ev, Kp.refl _ _, rel, h⟩
  | val t => exact other h p
  | plc i => exact other h p
end
section
variable {X : Cx} {e : Expr} {es : List Expr} {f : S → R Res} {g : S → R (List (Bool × T))} {pos : Pos} {M : Md}
theorem sao_nil : SAo X [] aoNil := fun W tk => PA.imp pa_nil fun σ H Q ⟨s, τ, rel, post⟩ => post [] τ H (.refl _ _) rel .nil
theorem consO_run {W : WX} {σ : L2.St} {H : Hp} {Q : List V → Hp → Prop} (h : tG M (RVOs M) (aoCons f g) W σ H Q) : tCons (tG M (RRes M) f W) (tG M (RVOs M) g W) σ H Q := by
  obtain ⟨s, τ, rel, post⟩ := h
  refine run1 (.refl _ _) rel post fun x s2 v τ2 H2 ev rel2 r1 p => ?_
  split at p
  · rename_i bt s3 ef
    obtain ⟨τ3, ev3, _, rel3, vo⟩ := RelR.own rel2 ev r1 ef
    refine run1 (R1 := RVOs M) ev3 rel3 p fun ts s4 vs τ4 H4 ev4 rel4 r4 p4 => ?_
    have r4 : VOs M H2 τ4 H4 ts vs := r4
    refine p4 (v :: vs) τ4 H4 (ev3.trans ev4) rel4 (.cons (vo.later ev4) (fun hb => VOs.apart (fun a e => ?_) r4) (r4.base ev3))
    obtain ⟨b, t⟩ := bt
    cases hb
    obtain ⟨a', e1, _, _, e4⟩ := vo
    rw [e] at e1
    cases e1
    exact e4.there
  · exact p.elim
theorem sao_cons (h : SE X e f) (hr : SAo X es g) (hs : starEach (e :: es) X.env = (false, eval e X.env) :: starEach es X.env := by rfl) : SAo X (e :: es) (aoCons f g) := fun W tk =>
  PA.imp (pa_cons (h W tk) (hr W tk) hs) fun _ _ _ h => consO_run h
end
/-- values into slots -/
def storeAll : List Nat → List (Bool × T) → S → S
  | i :: is, bt :: bts, s => storeAll is bts ⟨s.sl.set i (some bt), s.ob⟩
  | _, _, s => s
def setAll : List Nat → List V → L2.St → L2.St
  | i :: is, v :: vs, σ => setAll is vs (σ.set i (some v))
  | _, _, σ => σ
theorem VOs.kp {M : Md} {H0 H : Hp} {τ τ' : Tg} {a : Addr} (hk : Kp τ H τ' H) (hb : ∀ b, b ≠ a → τ' b = τ b) : ∀ {bts : List (Bool × T)} {vs : List V}, VOs M H0 τ H bts vs → (∀ (j : Nat) (t' : T), bts[j]? = some (true, t') → vs[j]? ≠ some (V.ref a)) → VOs M H0 τ' H bts vs
  | _, _, .nil, _ => .nil
  | _, _, .cons (b := b) h n r, d => by
    refine .cons ?_ n (VOs.kp hk hb r fun j t' e => by simpa using d (j + 1) t' (by simpa using e))
    cases b with
    | true =>
      obtain ⟨c, e1, e2, e3, e4⟩ := h
      have ne : c ≠ a := fun z => d 0 _ rfl (by rw [e1, z]; rfl)
      exact ⟨c, e1, e2, (hb c ne).trans e3, e4.kp hk rfl⟩
    | false => exact Rp.mono hk h
theorem par_store {M : Md} {H0 H : Hp} {τ0 : Tg} : ∀ {is : List Nat} {bts : List (Bool × T)} {vs : List V} {s : S} {τ : Tg} {σ : L2.St}, VOs M H0 τ H bts vs → Rel M s τ σ H → Evo τ0 H0 τ H →
    ∃ τ', Evo τ0 H0 τ' H ∧ Rel M (storeAll is bts s) τ' (setAll is vs σ) H
  | [], bts, vs, s, τ, σ, h, rel, ev => ⟨τ, ev, by cases bts <;> cases vs <;> exact rel⟩
  | i :: is, _, _, s, τ, σ, .nil, rel, ev => ⟨τ, ev, rel⟩
  | i :: is, _, _, s, τ, σ, .cons (b := b) (t := t) (v := v) h n r, rel, ev => by
    cases b with
    | false =>
      have z := par_store (is := is) r (rel.set (i := i) (b := false) h) ev
      exact z
    | true =>
      obtain ⟨a, rfl, e2, e3, e4⟩ := h
      obtain ⟨τ1, k1, k2, k3, k4, k5⟩ := own_at (i := i) rel ev e4 e3 e2
      have z := par_store (is := is) (r.kp k2 k5 (n rfl)) (k3.set (i := i) (b := true) k4) k1
      exact z
/-- x, y, .. = e, f, .. into slots -/
def sPar (is : List Nat) (g : S → R (List (Bool × T))) : S → RS := fun s => (g s).bindS fun bts s => if bts.length = is.length then .nxt (storeAll is bts s) else .stuck
section
variable {X : Cx} {a b c : Expr} {g : S → R (List (Bool × T))} {pos px py pz pt pt2 : Pos} {kt k2 : Nat}
theorem ss_par2 {i j : Nat} {x y : Str} (hc : X.calm = true) (hN : X.N.Nodup) (hi : X.N[i]? = some x) (hj : X.N[j]? = some y) (hij : i ≠ j)
    (hx : X.env.scope.names.lookup x = some .local) (hy : X.env.scope.names.lookup y = some .local) (ha : SAo X [a, b] g)
    (hw : swappedStores [.Tuple [.Name x px, .Name y py] kt pt] (.Tuple [a, b] k2 pt2) X.env = pure (some [x, y]) := by rfl)
    (hs : swapsWithSole [.Tuple [.Name x px, .Name y py] kt pt] (.Tuple [a, b] k2 pt2) pos.line X.env = pure false := by rfl) :
    SS X (.Assign [.Tuple [.Name x px, .Name y py] kt pt] (.Tuple [a, b] k2 pt2) pos) (sPar [i, j] g) := fun W tk => PS.imp (ps_par hc hN hi hj hij hx hy (ha W tk) hw hs) fun D σ H ⟨s, τ, rel, post⟩ =>
  runS (R1 := RVOs (Mx X)) (.refl _ _) rel post fun bts s2 vs τ2 H2 ev rel2 r1 p => by
    split at p
    · rename_i hl
      have r1 : VOs (Mx X) H τ2 H2 bts vs := r1
      obtain ⟨τ3, e1, e2⟩ := par_store (is := [i, j]) r1 rel2 ev
      have hv : vs.length = 2 := by rw [← r1.length]; exact hl
      match vs, hv with
      | [v, w], _ => exact ⟨v, w, rfl, p _ τ3 H2 e1 e2⟩
    · exact p.elim
theorem ss_par3 {i j l : Nat} {x y z : Str} (hc : X.calm = true) (hN : X.N.Nodup) (hi : X.N[i]? = some x) (hj : X.N[j]? = some y) (hl : X.N[l]? = some z) (hij : i ≠ j) (hil : i ≠ l) (hjl : j ≠ l)
    (hx : X.env.scope.names.lookup x = some .local) (hy : X.env.scope.names.lookup y = some .local) (hz : X.env.scope.names.lookup z = some .local) (ha : SAo X [a, b, c] g)
    (hw : swappedStores [.Tuple [.Name x px, .Name y py, .Name z pz] kt pt] (.Tuple [a, b, c] k2 pt2) X.env = pure (some [x, y, z]) := by rfl)
    (hs : swapsWithSole [.Tuple [.Name x px, .Name y py, .Name z pz] kt pt] (.Tuple [a, b, c] k2 pt2) pos.line X.env = pure false := by rfl) :
    SS X (.Assign [.Tuple [.Name x px, .Name y py, .Name z pz] kt pt] (.Tuple [a, b, c] k2 pt2) pos) (sPar [i, j, l] g) := fun W tk => PS.imp (ps_par3 hc hN hi hj hl hij hil hjl hx hy hz (ha W tk) hw hs) fun D σ H ⟨s, τ, rel, post⟩ =>
  runS (R1 := RVOs (Mx X)) (.refl _ _) rel post fun bts s2 vs τ2 H2 ev rel2 r1 p => by
    split at p
    · rename_i hl
      have r1 : VOs (Mx X) H τ2 H2 bts vs := r1
      obtain ⟨τ3, e1, e2⟩ := par_store (is := [i, j, l]) r1 rel2 ev
      have hv : vs.length = 3 := by rw [← r1.length]; exact hl
      match vs, hv with
      | [v, w, u], _ => exact ⟨v, w, u, rfl, p _ τ3 H2 e1 e2⟩
    · exact p.elim
/-- the names of a tuple of targets, with their slots -/
inductive Nms (X : Cx) : List Expr → List Nat → Prop
  | nil : Nms X [] []
  | cons {i : Nat} {x : Str} {p : Pos} {es : List Expr} {is : List Nat} : X.N[i]? = some x → Loc X.env.scope x → (X.fn x = true ∨ X.env.scope.names.lookup x = some .local) →
      ((assignEach (.Name x p :: es) X.env).map (·.2) = assign (.Name x p) X.env :: (assignEach es X.env).map (·.2)) → Nms X es is → Nms X (.Name x p :: es) (i :: is)
def tStore (is : List Nat) : TGs := fun vs σ H Q => vs.length = is.length ∧ Q (setAll is vs σ) H
theorem Nms.pgs (hN : X.N.Nodup) : ∀ {es : List Expr} {is : List Nat}, Nms X es is → PGs X es (tStore is)
  | _, _, .nil => PGs.imp pgs_nil fun vs σ H Q ⟨h1, h2⟩ => by
    have e : vs = [] := List.length_eq_zero_iff.mp h1
    subst e
    exact ⟨rfl, h2⟩
  | _, _, .cons h1 h2 h3 h4 r => PGs.imp (pgs_cons (pg_name hN h1 h2 h3) (Nms.pgs hN r) h4) fun vs σ H Q ⟨k1, k2⟩ => by
    cases vs with
    | nil => cases k1
    | cons v vs => exact ⟨v, vs, rfl, Nat.succ.inj k1, k2⟩
theorem ss_parN {ts es : List Expr} {is : List Nat} {n : Nat} (hc : X.calm = true) (hN : X.N.Nodup) (hn : Nms X ts is) (ha : SAo X es g)
    (hw : swappedStores [.Tuple ts kt pt] (.Tuple es k2 pt2) X.env = pure none := by rfl) (hs : swapsWithSole [.Tuple ts kt pt] (.Tuple es k2 pt2) pos.line X.env = pure false := by rfl)
    (h1 : (assignEach [.Tuple ts kt pt] X.env).map (·.2) = [assign (.Tuple ts kt pt) X.env] := by rfl) (hl : (assignEach ts X.env).length = n := by rfl) (hst : (assignEach ts X.env).findIdx? (·.1) = none := by rfl)
    (hz : szok n = true := by rfl) (hni : n = is.length := by rfl) : SS X (.Assign [.Tuple ts kt pt] (.Tuple es k2 pt2) pos) (sPar is g) := fun W tk =>
  PS.imp (ps_asg (pe_tup (ha W tk)) (pg_tup hc (hn.pgs hN) hl hst) hs hw h1) fun D σ H ⟨s, τ, rel, post⟩ =>
    runS (R1 := RVOs (Mx X)) (.refl _ _) rel post fun bts s2 vs τ2 H2 ev rel2 r1 p => by
      split at p
      · rename_i hl
        have r1 : VOs (Mx X) H τ2 H2 bts vs := r1
        have hv : vs.length = is.length := by rw [← r1.length]; exact hl
        refine ⟨by rw [hv, ← hni]; exact szok_le hz, fun q hq => ⟨q, vs, rfl, .inl (.inl upd_same), by rw [hv, hni], hv, ?_⟩⟩
        obtain ⟨rel3, ev3⟩ := rel2.new (o := .tup vs) (g := .free) hq (.inl rfl) fun _ z => nomatch z
        have r3 : VOs (Mx X) H (tset τ2 q .free) (upd H2 q (.tup vs)) bts vs := by
          have go : ∀ {bts : List (Bool × T)} {ws : List V}, VOs (Mx X) H τ2 H2 bts ws → VOs (Mx X) H (tset τ2 q .free) (upd H2 q (.tup vs)) bts ws := by
            intro bts ws r
            induction r with
            | nil => exact .nil
            | cons h n r ih => exact .cons (h.later ev3) n ih
          exact go r1
        obtain ⟨τ4, e1, e2⟩ := par_store (is := is) r3 rel3 (ev.trans ev3)
        exact p _ τ4 _ e1 e2
      · exact p.elim
end
end Sv

/-! Sv, part J: what is walked, for, comprehensions. -/
namespace Sv
open PySem PySem.Spec PyProof.Rows L2
variable [Tb]

/-- the iterator J goes through the trees ts -/
def Walks (M : Md) (J : It) (ts : List T) (τ : Tg) (H : Hp) : Prop := ∀ (i : Nat) (τ2 : Tg) (H2 : Hp), Kp τ H τ2 H2 → (ts.length ≤ i → J.stop i H2) ∧
  ∀ t, ts[i]? = some t → J.go i H2 ∧ ∀ x H', J.yld i H2 x H' → (H' = H2 ∧ Rp M τ2 H2 t x) ∨ (∃ p o, x = .ref p ∧ H2 p = none ∧ H' = upd H2 p o ∧ NewAt M τ2 H2 false o t)
def RW (M : Md) : RRel (List T) It := fun _ _ ts _ τ H J => Walks M J ts τ H
theorem bW {M : Md} : Bas (RW M) := fun _ _ _ _ _ _ _ _ _ _ _ h => h
def SI (X : Cx) (tg iter : Expr) (f : S → R (List T)) : Prop := ∀ W, Takes X W → PI X tg iter (tG (Mx X) (RW (Mx X)) f W)
theorem PI.imp {X : Cx} {tg e : Expr} {t t' : TI} (h : PI X tg e t) (i : ∀ σ H Q, t' σ H Q → t σ H Q) : PI X tg e t' := ⟨fun pins s σ H Q I q => h.run pins s σ H Q I (i σ H Q q)⟩
theorem PI.or {X : Cx} {tg e : Expr} {t t' : TI} (h : PI X tg e t) (h' : PI X tg e t') : PI X tg e (fun σ H Q => t σ H Q ∨ t' σ H Q) :=
  ⟨fun pins s σ H Q I q => q.elim (h.run pins s σ H Q I) (h'.run pins s σ H Q I)⟩

section
variable {M : Md} {σ : L2.St} {H H0 H1 H2 : Hp} {τ τ0 τ1 τ2 : Tg} {s s1 s2 : S} {r : Res} {v : V} {t : T}
theorem walks_list {a : Addr} {vs : List V} {ts : List T} (h : LstAt M τ H a vs) (r : Rps M τ H ts vs) : Walks M (Itl M.K a) ts τ H := fun i τ2 H2 kp => by
  have h2 := (h.mono kp).sq
  refine ⟨fun hi => ⟨vs, h2, by rw [← r.length]; exact hi⟩, fun t ht => ?_⟩
  obtain ⟨v, e1, e2⟩ := r.get ht
  refine ⟨⟨vs, v, h2, e1⟩, fun x H' y => ?_⟩
  obtain ⟨rfl, y⟩ := y
  have := y vs h2
  rw [e1] at this
  cases this
  exact .inl ⟨rfl, e2.mono kp⟩
theorem walks_tup {a : Addr} {vs : List V} {ts : List T} (h : TupAt M τ H a vs) (r : Rps M τ H ts vs) : Walks M (Itt M.K a) ts τ H := fun i τ2 H2 kp => by
  have h2 := (h.mono kp).sq
  refine ⟨fun hi => ⟨vs, h2, by rw [← r.length]; exact hi⟩, fun t ht => ?_⟩
  obtain ⟨v, e1, e2⟩ := r.get ht
  refine ⟨⟨vs, v, h2, e1⟩, fun x H' y => ?_⟩
  obtain ⟨rfl, y⟩ := y
  have := y vs h2
  rw [e1] at this
  cases this
  exact .inl ⟨rfl, e2.mono kp⟩
theorem walks_scr {a : Addr} {ns : List Int} (h : ScrAt M τ H a (ns.map V.int)) : Walks M (Itl M.K a) (ns.map T.int) τ H := fun i τ2 H2 kp => by
  have h2 : SqL M.K H2 a (ns.map V.int) := h.elim (fun h => .inl (Rd.kp kp h.1 h.2).2) .inr
  refine ⟨fun hi => ⟨_, h2, by simpa using hi⟩, fun t ht => ?_⟩
  rw [List.getElem?_map] at ht
  cases q : ns[i]? with
  | none => rw [q] at ht; cases ht
  | some n =>
    rw [q] at ht
    cases ht
    have e1 : (ns.map V.int)[i]? = some (.int n) := by rw [List.getElem?_map, q]; rfl
    refine ⟨⟨_, _, h2, e1⟩, fun x H' y => ?_⟩
    obtain ⟨rfl, y⟩ := y
    have := y _ h2
    rw [e1] at this
    cases this
    exact .inl ⟨rfl, .int n⟩
def rngT (lo : Int) (n : Nat) : List T := (List.range n).map fun k => T.int (lo + (k : Nat))
theorem walks_rng {lo : Int} {n : Nat} : Walks M (Itr lo n) (rngT lo n) τ H := fun i τ2 H2 kp => by
  refine ⟨fun hi => show n ≤ i by simpa [rngT] using hi, fun t ht => ?_⟩
  unfold rngT at ht
  rw [List.getElem?_map] at ht
  by_cases hi : i < n
  · rw [List.getElem?_range hi] at ht
    cases ht
    refine ⟨hi, fun x H' y => ?_⟩
    obtain ⟨rfl, rfl⟩ := y
    exact .inl ⟨rfl, .int _⟩
  · rw [List.getElem?_eq_none (by simpa using hi)] at ht
    cases ht
end

/-! ### iterables -/
def itemsOf : T → Option (List T)
  | .lst ts => some ts
  | .tup ts => some ts
  | .scr ns => some (ns.map T.int)
  | _ => none
/-- a list that is walked stays as it is -/
def iSeq (f : S → R Res) : S → R (List T) := fun s => (f s).bind fun r s => match frz s r with
  | some (t, s) => (match itemsOf t with
    | some ts => .ok ts s
    | none => .stuck)
  | none => .stuck
def iRng1 (f : S → R Res) : S → R (List T) := fun s => (f s).bind fun r s => match peek s r with
  | some (.int j) => if -4611686018427387904 ≤ j ∧ j < 4611686018427387904 then .ok (rngT 0 j.toNat) s else .stuck
  | _ => .stuck
def iRng2 (f g : S → R Res) : S → R (List T) := fun s => (f s).bind fun r s => (g s).bind fun q s => match peek s r, peek s q with
  | some (.int i), some (.int j) => if (-4611686018427387904 ≤ i ∧ i < 4611686018427387904) ∧ (-4611686018427387904 ≤ j ∧ j < 4611686018427387904) then .ok (rngT i (j - i).toNat) s else .stuck
  | _, _ => .stuck
section
variable {X : Cx} {e e2 tg : Expr} {f g : S → R Res} {p pos : Pos}
theorem si_seq (he : SE X e f) : SI X tg e (iSeq f) := fun W tk => PI.imp (PI.or (pi_list (he W tk)) (pi_tup (he W tk))) fun σ H Q ⟨s, τ, rel, post⟩ => by
  unfold iSeq at post
  cases k : f s with
  | stuck => rw [k] at post; exact post.elim
  | exc c s1 => exact .inl ⟨s, τ, rel, by rw [k] at post ⊢; exact post⟩
  | ok r s1 =>
    rw [k] at post
    simp only [R.bind] at post
    split at post
    · rename_i t s2 ef
      split at post
      · rename_i ts et
        -- one of three kinds
        unfold itemsOf at et
        split at et
        · cases et
          refine .inl ⟨s, τ, rel, ?_⟩
          rw [k]
          intro v τ' H' ev rel' rr
          obtain ⟨τ2, e1, e2, e3, e4⟩ := RelR.frz rel' ev rr ef
          cases e4 with
          | lst q1 q2 => exact ⟨_, rfl, ⟨_, q1.sq⟩, post _ τ2 H' e1 e3 (walks_list q1 q2)⟩
        · cases et
          refine .inr ⟨s, τ, rel, ?_⟩
          rw [k]
          intro v τ' H' ev rel' rr
          obtain ⟨τ2, e1, e2, e3, e4⟩ := RelR.frz rel' ev rr ef
          cases e4 with
          | tup q1 q2 => exact ⟨_, rfl, ⟨_, q1.sq⟩, post _ τ2 H' e1 e3 (walks_tup q1 q2)⟩
        · cases et
          refine .inl ⟨s, τ, rel, ?_⟩
          rw [k]
          intro v τ' H' ev rel' rr
          obtain ⟨τ2, e1, e2, e3, e4⟩ := RelR.frz rel' ev rr ef
          cases e4 with
          | scr q1 => exact ⟨_, rfl, ⟨_, q1.sq⟩, post _ τ2 H' e1 e3 (walks_scr q1)⟩
        · cases et
      · exact post.elim
    · exact post.elim
theorem si_rng1 (hg : Gl X "range") (hm : X.mg "range" = none) (he : SE X e f) (hs : starEach [e] X.env = [(false, eval e X.env)] := by rfl) (hs2 : starEach [e] X.env = (false, eval e X.env) :: starEach [] X.env := by rfl) :
    SI X tg (.Call (.Name "range" p) [e] [] pos) (iRng1 f) := fun W tk => PI.imp (pi_range1 hg hm (pa_cons (he W tk) pa_nil hs2) hs) fun σ H Q ⟨s, τ, rel, post⟩ =>
  run1 (R1 := RRes (Mx X)) (.refl _ _) rel post fun x s2 v τ2 H2 ev rel2 r1 p => by
    split at p
    · rename_i j ex
      split at p
      · rename_i hj
        exact ⟨j, by rw [(RelR.isT rel2 r1 ex).int], by omega, by omega, p _ τ2 H2 ev rel2 walks_rng⟩
      · exact p.elim
    · exact p.elim
theorem si_rng2 (hg : Gl X "range") (hm : X.mg "range" = none) (he : SE X e f) (he2 : SE X e2 g) (hs : starEach [e, e2] X.env = [(false, eval e X.env), (false, eval e2 X.env)] := by rfl) (hs1 : starEach [e2] X.env = [(false, eval e2 X.env)] := by rfl)
    (hs2 : starEach [e, e2] X.env = (false, eval e X.env) :: starEach [e2] X.env := by rfl) (hs3 : starEach [e2] X.env = (false, eval e2 X.env) :: starEach [] X.env := by rfl) :
    SI X tg (.Call (.Name "range" p) [e, e2] [] pos) (iRng2 f g) := fun W tk => PI.imp (pi_range2 hg hm (pa_cons (he W tk) (pa_cons (he2 W tk) pa_nil hs3) hs2) hs hs1) fun σ H Q ⟨s, τ, rel, post⟩ =>
  run2 rel post fun x y s2 v w τ2 H2 ev rel2 r1 r2 p => by
    split at p
    · rename_i i j ex ey
      split at p
      · rename_i hj
        exact ⟨i, j, by rw [(r1.isT rel2 ex).int, (r2.isT rel2 ey).int], by omega, p _ τ2 H2 ev rel2 walks_rng⟩
      · exact p.elim
    · exact p.elim
end

/-! ### for -/
def forL (g : T → S → R Unit) (b : S → RS) : List T → S → RS
  | [], s => .nxt s
  | t :: ts, s => match g t s with
    | .ok _ s => (match b s with
      | .nxt s => forL g b ts s
      | .cnt s => forL g b ts s
      | .brk s => .nxt s
      | r => r)
    | .exc c s => .exc c s
    | .stuck => .stuck
def sFor (f : S → R (List T)) (g : T → S → R Unit) (b : S → RS) : S → RS := fun s => (f s).bindS fun ts s => forL g b ts s
section
variable {X : Cx} {tg iter : Expr} {body : List Stmt} {f : S → R (List T)} {g : T → S → R Unit} {b : S → RS} {pos : Pos}
/-- an item has come: it stands, or it is a new pair -/
theorem item_in {M : Md} {s : S} {τ2 : Tg} {σ : L2.St} {H2 H' : Hp} {t : T} {x : V} (rel : Rel M s τ2 σ H2) (h : (H' = H2 ∧ Rp M τ2 H2 t x) ∨ (∃ p o, x = .ref p ∧ H2 p = none ∧ H' = upd H2 p o ∧ NewAt M τ2 H2 false o t)) :
    ∃ τ', Evo τ2 H2 τ' H' ∧ Rel M s τ' σ H' ∧ Rp M τ' H' t x ∧ ∀ D, τ2 D = .free → H2 D ≠ none → τ' D = .free := by
  rcases h with ⟨rfl, h⟩ | ⟨p, o, rfl, hp, rfl, hn⟩
  · exact ⟨τ2, .refl _ _, rel, h, fun D h _ => h⟩
  · obtain ⟨r1, e1⟩ := rel.new (o := o) (g := .frz) hp (.inr (.inl rfl)) hn.ntbl
    refine ⟨_, e1, r1, ?_, fun D h n => ?_⟩
    · cases t <;> first | exact hn.elim | skip
      · obtain ⟨_, vs, e, hv⟩ := hn
        subst e
        exact .tup (.inl ⟨tset_same, .inl upd_same⟩) (hv.mono e1.toKp)
      · obtain ⟨vs, e, hv⟩ := hn
        subst e
        exact .lst ⟨tset_same, upd_same⟩ (hv.mono e1.toKp)
    · have ne : D ≠ p := fun z => by subst z; exact n hp
      rw [tset_ne ne]; exact h
theorem ss_for (hp : PassesOwn (model X.prog X.w) X.A X.env X.xe) (hc : X.calm = true) (hi : SI X tg iter f) (hg : SG X tg g) (hb : SSs X body b)
    (hs : ∀ x, foldedSetIterable iter X.env x = pure x := by intro _; rfl) : SS X (.For tg iter body [] pos) (sFor f g b) := fun W tk => PS.imp (ps_for hp hc (hi W tk) (hg W tk) (hb W tk) hs) fun D σ H ⟨s, τ, rel, post⟩ =>
  runS (R1 := RW (Mx X)) (.refl _ _) rel post fun ts s2 J τ2 H2 ev rel2 wk p => by
    have wk : Walks (Mx X) J ts τ2 H2 := wk
    refine ⟨fun i m σ' H' => m = ts.length - i ∧ i ≤ ts.length ∧ ∃ s' τ', Kp τ2 H2 τ' H' ∧ Rel (Mx X) s' τ' σ' H' ∧ PostS (Mx X) τ' H' (forL g b (ts.drop i) s') D W, ⟨_, rfl, Nat.zero_le _, s2, τ2, Kp.refl _ _, rel2, p.shift ev⟩, ?_⟩
    rintro i m σ' H' ⟨rfl, hle, s', τ', kp, rel', post'⟩
    obtain ⟨w1, w2⟩ := wk i τ' H' kp
    by_cases hlt : i < ts.length
    · have ht : ts[i]? = some ts[i] := List.getElem?_eq_getElem hlt
      obtain ⟨go, yl⟩ := w2 _ ht
      refine .inr ⟨go, fun σ'' H'' => ∃ s' τ', Kp τ2 H2 τ' H'' ∧ Rel (Mx X) s' τ' σ'' H'' ∧ PostS (Mx X) τ' H'' (forL g b (ts.drop (i + 1)) s') D W, fun σ'' H'' q => ⟨ts.length - (i + 1), by omega, rfl, hlt, q⟩, fun x H'' y => ?_⟩
      obtain ⟨τ3, e3, rel3, rp3, _⟩ := item_in rel' (yl x H'' y)
      refine ⟨s', τ3, ts[i], rel3, rp3, ?_⟩
      rw [List.drop_eq_getElem_cons hlt, forL] at post'
      have post' := post'.shift e3
      cases k : g ts[i] s' with
      | stuck => rw [k] at post'; exact post'.elim
      | exc c s4 => rw [k] at post'; exact post'
      | ok u s4 =>
        rw [k] at post'
        simp only at post'
        intro σ4 τ4 H4 ev4 rel4
        refine ⟨s4, τ4, rel4, ?_⟩
        have kp4 := (kp.trans e3.toKp).trans ev4.toKp
        have post' := post'.shift ev4
        cases k2 : b s4 with
        | nxt s5 => rw [k2] at post'; exact fun σ5 τ5 H5 ev5 rel5 => ⟨s5, τ5, kp4.trans ev5.toKp, rel5, post'.shift ev5⟩
        | cnt s5 => rw [k2] at post'; exact fun σ5 τ5 H5 ev5 rel5 => ⟨s5, τ5, kp4.trans ev5.toKp, rel5, post'.shift ev5⟩
        | brk s5 => rw [k2] at post'; exact post'
        | ret b t ob => rw [k2] at post'; exact post'
        | exc cn s5 => rw [k2] at post'; exact post'
        | stuck => rw [k2] at post'; exact post'
    · have e : i = ts.length := by omega
      subst e
      rw [List.drop_length, forL] at post'
      exact .inl ⟨w1 (Nat.le_refl _), post' σ' τ' H' (.refl _ _) rel'⟩
end
end Sv

/-! Sv, part K: hidden slots; list comprehensions. -/
namespace Sv
open PySem PySem.Spec PyProof.Rows L2
variable [Tb]

/-! ### slots hidden, and shown again -/
def hid (P : Nat → Prop) [DecidablePred P] (τ : Tg) : Tg := fun a => match τ a with
  | .slot i => if P i then .free else .slot i
  | g => g
def shw (P : Nat → Prop) [DecidablePred P] (τ τ' : Tg) : Tg := fun a => match τ a with
  | .slot i => if P i then .slot i else τ' a
  | _ => τ' a
section
variable {M : Md} {σ σ' : L2.St} {H H0 H1 H' : Hp} {τ τ0 τ1 τ' : Tg} {s s' : S} {P : Nat → Prop} [DecidablePred P] {a : Addr}
theorem hid_slot {i : Nat} (h : τ a = .slot i) : hid P τ a = if P i then .free else .slot i := by unfold hid; rw [h]
theorem hid_other (h : ∀ i, τ a ≠ .slot i) : hid P τ a = τ a := by
  unfold hid
  cases e : τ a <;> first | rfl | exact absurd e (h _)
theorem shw_slot {i : Nat} (h : τ a = .slot i) : shw P τ τ' a = if P i then .slot i else τ' a := by unfold shw; rw [h]
theorem shw_other (h : ∀ i, τ a ≠ .slot i) : shw P τ τ' a = τ' a := by
  unfold shw
  cases e : τ a <;> first | rfl | exact absurd e (h _)
theorem shw_cases : (∃ i, τ a = .slot i ∧ P i ∧ shw P τ τ' a = .slot i) ∨ (shw P τ τ' a = τ' a ∧ ∀ i, τ a = .slot i → ¬ P i) := by
  cases e : τ a with
  | slot i =>
    by_cases h : P i
    · exact .inl ⟨i, rfl, h, by rw [shw_slot e, if_pos h]⟩
    · exact .inr ⟨by rw [shw_slot e, if_neg h], fun j q => by cases q; exact h⟩
  | _ => exact .inr ⟨shw_other (by rw [e]; simp), fun j q => by cases q⟩
theorem hid_cases : (∃ i, τ a = .slot i ∧ P i ∧ hid P τ a = .free) ∨ (hid P τ a = τ a ∧ ∀ i, τ a = .slot i → ¬ P i) := by
  cases e : τ a with
  | slot i =>
    by_cases h : P i
    · exact .inl ⟨i, rfl, h, by rw [hid_slot e, if_pos h]⟩
    · exact .inr ⟨by rw [hid_slot e, if_neg h], fun j q => by cases q; exact h⟩
  | _ => exact .inr ⟨by rw [hid_other (by rw [e]; simp), e], fun j q => by cases q⟩
theorem kp_hid : Kp τ H (hid P τ) H := ⟨fun b o q h => ⟨by rw [hid_other (by rw [h]; simp)]; exact h, q⟩, fun b r h => by rw [hid_other (by rw [h]; simp)]; exact h⟩
theorem RelO.hid {ob : List OV} (h : RelO M ob τ H) : RelO M ob (hid P τ) H := by
  have back : ∀ b g, Sv.hid P τ b = g → g ≠ .free → τ b = g := fun b g e n => by
    rcases hid_cases (P := P) (τ := τ) (a := b) with ⟨i, _, _, q⟩ | ⟨q, _⟩
    · exact absurd (e.symm.trans q) n
    · exact q.symm.trans e
  refine ⟨fun b r e => ?_, fun b c r e1 e2 => ?_, fun b e => ?_, h.tb.mono (fun b q e => by rw [hid_other (by rw [e]; simp)]; exact e) (fun b q e => back b _ e (by simp)) kp_hid (fun _ _ _ _ z => z) fun _ _ z => z⟩
  · obtain ⟨o, h1, h2⟩ := h.at_ b r (back b _ e (by simp))
    exact ⟨o, h1, h2.kp kp_hid rfl⟩
  · exact h.one b c r (back b _ e1 (by simp)) (back c _ e2 (by simp))
  · exact h.al b fun z => e (by rw [hid_other (by rw [z]; simp)]; exact z)
theorem Rel.hid (rel : Rel M s τ σ H) (hob : s'.ob = s.ob) (hl : σ'.length = s'.sl.length) (hs : ∀ (i : Nat) b t, s'.sl[i]? = some (some (b, t)) → ¬ P i ∧ s.sl[i]? = some (some (b, t)) ∧ σ'[i]? = σ[i]?) : Rel M s' (hid P τ) σ' H := by
  refine ⟨⟨hl, fun i b t q => ?_⟩, by rw [hob]; exact rel.ro.hid⟩
  obtain ⟨h1, h2, h3⟩ := hs i b t q
  obtain ⟨v, e1, e2⟩ := rel.rs.at_ i b t h2
  refine ⟨v, h3.trans e1, e2.kp kp_hid fun c hc _ => ⟨?_, rfl⟩⟩
  rw [hid_slot hc, if_neg h1]
/-- behind the hidden part -/
theorem hidden_kept (al : ∀ a, τ a ≠ .free → H a ≠ none) (e : Evo (hid P τ) H τ' H') {i : Nat} (h : τ a = .slot i) (hp : P i) : τ' a = .free ∧ H' a = H a := by
  obtain ⟨o, ho⟩ := Option.ne_none_iff_exists'.mp (al a (by rw [h]; simp))
  obtain ⟨h1, h2⟩ := e.fr a o ho (by rw [hid_slot h, if_pos hp])
  exact ⟨h1, h2.trans ho.symm⟩
theorem kp_shw (al : ∀ a, τ a ≠ .free → H a ≠ none) (e : Evo (hid P τ) H τ' H') : Kp τ' H' (shw P τ τ') H' := by
  have key : ∀ b, τ' b ≠ .free → shw P τ τ' b = τ' b := fun b n => by
    rcases shw_cases (P := P) (τ := τ) (τ' := τ') (a := b) with ⟨i, h1, h2, _⟩ | ⟨q, _⟩
    · exact absurd (hidden_kept al e h1 h2).1 n
    · exact q
  exact ⟨fun b o q h => ⟨by rw [key b (by rw [h]; simp)]; exact h, q⟩, fun b r h => by rw [key b (by rw [h]; simp)]; exact h⟩
theorem Evo.shw (al : ∀ a, τ a ≠ .free → H a ≠ none) (e : Evo (hid P τ) H τ' H') : Evo τ H (shw P τ τ') H' := by
  refine ⟨(kp_hid.trans e.toKp).trans (kp_shw al e), fun b o q h => ?_, e.th, fun b i h => ?_⟩
  · obtain ⟨h1, h2⟩ := e.fr b o q (by rw [hid_other (by rw [h]; simp)]; exact h)
    exact ⟨by rw [shw_other (by rw [h]; simp)]; exact h1, h2⟩
  · rcases shw_cases (P := P) (τ := τ) (τ' := τ') (a := b) with ⟨j, h1, _, _⟩ | ⟨q, _⟩
    · exact .inr ⟨j, h1⟩
    · rw [q] at h
      rcases e.sl b i h with z | ⟨j, z⟩
      · exact .inl z
      · rcases hid_cases (P := P) (τ := τ) (a := b) with ⟨k, h1, _, _⟩ | ⟨q2, _⟩
        · exact .inr ⟨k, h1⟩
        · exact .inr ⟨j, q2.symm.trans z⟩
theorem RelO.shw {ob : List OV} (al : ∀ a, τ a ≠ .free → H a ≠ none) (e : Evo (Sv.hid P τ) H τ' H') (h : RelO M ob τ' H') : RelO M ob (shw P τ τ') H' := by
  have kp := kp_shw al e
  have back : ∀ b g, Sv.shw P τ τ' b = g → (∀ i, g ≠ .slot i) → τ' b = g := fun b g e1 n => by
    rcases shw_cases (P := P) (τ := τ) (τ' := τ') (a := b) with ⟨j, h1, _, q⟩ | ⟨q, _⟩
    · exact absurd (e1.symm.trans q) (n j)
    · exact q.symm.trans e1
  refine ⟨fun b r e1 => ?_, fun b c r e1 e2 => ?_, fun b e1 => ?_, h.tb.mono (fun b q e1 => ?_) (fun b q e1 => back b _ e1 (by simp)) kp (fun _ _ _ _ z => z) fun _ _ z => z⟩
  · obtain ⟨o, h1, h2⟩ := h.at_ b r (back b _ e1 (by simp))
    exact ⟨o, h1, h2.kp kp rfl⟩
  · exact h.one b c r (back b _ e1 (by simp)) (back c _ e2 (by simp))
  · rcases shw_cases (P := P) (τ := τ) (τ' := τ') (a := b) with ⟨j, h1, h2, _⟩ | ⟨q, _⟩
    · rw [(hidden_kept al e h1 h2).2]
      exact al b (by rw [h1]; simp)
    · exact h.al b (by rw [← q]; exact e1)
  · rcases shw_cases (P := P) (τ := τ) (τ' := τ') (a := b) with ⟨j, h1, h2, _⟩ | ⟨q2, _⟩
    · have := (hidden_kept al e h1 h2).1
      rw [e1] at this
      cases this
    · exact q2.trans e1
/-- the hidden slots as they were, the others as they have become -/
theorem Rel.shw {s0 s1 : S} {σ1 : L2.St} (rel : Rel M s0 τ σ H) (e : Evo (Sv.hid P τ) H τ' H') (rel1 : Rel M s1 τ' σ1 H') (hob : s'.ob = s1.ob) (hl : σ.length = s'.sl.length)
    (hs : ∀ (i : Nat) b t, s'.sl[i]? = some (some (b, t)) → (P i ∧ s0.sl[i]? = some (some (b, t))) ∨ (¬ P i ∧ s1.sl[i]? = some (some (b, t)) ∧ σ1[i]? = σ[i]?)) : Rel M s' (shw P τ τ') σ H' := by
  have al := rel.ro.al
  refine ⟨⟨hl, fun i b t q => ?_⟩, by rw [hob]; exact RelO.shw al e rel1.ro⟩
  rcases hs i b t q with ⟨hp, h1⟩ | ⟨hp, h1, h2⟩
  · obtain ⟨v, e1, e2⟩ := rel.rs.at_ i b t h1
    refine ⟨v, e1, e2.kp (Evo.shw al e).toKp fun c hc _ => ?_⟩
    exact ⟨by rw [shw_slot hc, if_pos hp], (hidden_kept al e hc hp).2⟩
  · obtain ⟨v, e1, e2⟩ := rel1.rs.at_ i b t h1
    refine ⟨v, h2.symm.trans e1, e2.kp (kp_shw al e) fun c hc _ => ⟨?_, rfl⟩⟩
    rcases shw_cases (P := P) (τ := τ) (τ' := τ') (a := c) with ⟨j, h3, h4, _⟩ | ⟨q2, _⟩
    · have := (hidden_kept al e h3 h4).1
      rw [hc] at this
      cases this
    · exact q2.trans hc
end

/-! ### the slots of a comprehension's own names -/
def wipeS (sl : List (Option (Bool × T))) : List Nat → List (Option (Bool × T))
  | [] => sl
  | v :: vs => (wipeS sl vs).set v none
def backS (sl0 sl1 : List (Option (Bool × T))) : List Nat → List (Option (Bool × T))
  | [] => sl1
  | v :: vs => (backS sl0 sl1 vs).set v (match sl0[v]? with | some x => x | none => none)
theorem wipeS_length (sl : List (Option (Bool × T))) : ∀ vs : List Nat, (wipeS sl vs).length = sl.length
  | [] => rfl
  | v :: vs => by unfold wipeS; rw [List.length_set, wipeS_length sl vs]
theorem backS_length (sl0 sl1 : List (Option (Bool × T))) : ∀ vs : List Nat, (backS sl0 sl1 vs).length = sl1.length
  | [] => rfl
  | v :: vs => by unfold backS; rw [List.length_set, backS_length sl0 sl1 vs]
theorem wipeS_some {sl : List (Option (Bool × T))} {i : Nat} {x : Bool × T} : ∀ {vs : List Nat}, (wipeS sl vs)[i]? = some (some x) → sl[i]? = some (some x) ∧ i ∉ vs
  | [], h => ⟨h, by simp⟩
  | v :: vs, h => by
    unfold wipeS at h
    by_cases hi : v = i
    · subst hi
      by_cases hv : v < (wipeS sl vs).length
      · rw [List.getElem?_set_self hv] at h; cases h
      · rw [List.getElem?_eq_none (by simpa using hv)] at h; cases h
    · rw [List.getElem?_set_ne hi] at h
      obtain ⟨h1, h2⟩ := wipeS_some h
      exact ⟨h1, by simp only [List.mem_cons, not_or]; exact ⟨fun e => hi e.symm, h2⟩⟩
theorem backS_some {sl0 sl1 : List (Option (Bool × T))} {i : Nat} {x : Bool × T} : ∀ {vs : List Nat}, (backS sl0 sl1 vs)[i]? = some (some x) → (i ∈ vs ∧ sl0[i]? = some (some x)) ∨ (i ∉ vs ∧ sl1[i]? = some (some x))
  | [], h => .inr ⟨by simp, h⟩
  | v :: vs, h => by
    unfold backS at h
    by_cases hi : v = i
    · subst hi
      by_cases hv : v < (backS sl0 sl1 vs).length
      · rw [List.getElem?_set_self hv] at h
        refine .inl ⟨by simp, ?_⟩
        split at h
        · rename_i y e
          rw [e]
          exact h
        · cases h
      · rw [List.getElem?_eq_none (by simpa using hv)] at h; cases h
    · rw [List.getElem?_set_ne hi] at h
      rcases backS_some h with ⟨h1, h2⟩ | ⟨h1, h2⟩
      · exact .inl ⟨by simp [h1], h2⟩
      · exact .inr ⟨by simp only [List.mem_cons, not_or]; exact ⟨fun e => hi e.symm, h1⟩, h2⟩
theorem wipe_in {σ : L2.St} {i : Nat} : ∀ {vs : List Nat}, i ∈ vs → (wipe σ vs)[i]? = if i < σ.length then some none else none
  | [], h => by simp at h
  | v :: vs, h => by
    unfold wipe
    by_cases e : v = i
    · subst e
      by_cases hv : v < σ.length
      · rw [if_pos hv, List.getElem?_set_self (by rw [wipe_length]; exact hv)]
      · rw [if_neg hv, List.getElem?_eq_none (by rw [List.length_set, wipe_length]; omega)]
    · rw [List.getElem?_set_ne e]
      exact wipe_in (by simpa [Ne.symm e] using h)
theorem wipe_eq {σ σ' : L2.St} {vs : List Nat} (hl : σ'.length = σ.length) (h : ∀ i, i ∉ vs → σ'[i]? = σ[i]?) : wipe σ' vs = wipe σ vs := by
  apply List.ext_getElem?
  intro i
  by_cases hi : i ∈ vs
  · rw [wipe_in hi, wipe_in hi, hl]
  · rw [wipe_out hi, wipe_out hi, h i hi]
theorem wipe_idem {σ : L2.St} {vs : List Nat} : wipe (wipe σ vs) vs = wipe σ vs := wipe_eq (wipe_length σ vs) fun i hi => wipe_out hi
theorem wipe_at {σ σ' : L2.St} {vs : List Nat} (h : wipe σ' vs = wipe σ vs) {i : Nat} (hi : i ∉ vs) : σ'[i]? = σ[i]? := by
  have e1 : (wipe σ' vs)[i]? = (wipe σ vs)[i]? := by rw [h]
  rwa [wipe_out hi, wipe_out hi] at e1

/-! ### targets that are names of the comprehension -/
def tGw (M : Md) (vs : List Nat) (g : T → S → R Unit) : TG := fun v σ H Q => ∃ s τ t s', Rel M s τ σ H ∧ Rp M τ H t v ∧ g t s = .ok () s' ∧ (∀ σ', wipe σ' vs = wipe σ vs → Rel M s' τ σ' H → Q σ' H)
def tGws (M : Md) (vs : List Nat) (g : List T → S → R Unit) : TGs := fun ws σ H Q => ∃ s τ ts s', Rel M s τ σ H ∧ Rps M τ H ts ws ∧ g ts s = .ok () s' ∧ (∀ σ', wipe σ' vs = wipe σ vs → Rel M s' τ σ' H → Q σ' H)
def SGw (X : Cx) (vs : List Nat) (e : Expr) (g : T → S → R Unit) : Prop := PG X e (tGw (Mx X) vs g)
def SGws (X : Cx) (vs : List Nat) (e : List Expr) (g : List T → S → R Unit) : Prop := PGs X e (tGws (Mx X) vs g)
section
variable {X : Cx} {e : Expr} {es : List Expr} {g : T → S → R Unit} {h : List T → S → R Unit} {pos : Pos} {vs : List Nat}
theorem sgw_name {i : Nat} {x : Str} (hN : X.N.Nodup) (hi : X.N[i]? = some x) (hx : Loc X.env.scope x) (hv : i ∈ vs) (hf : X.fn x = true ∨ X.env.scope.names.lookup x = some .local := by first | exact .inl rfl | exact .inr rfl | assumption) : SGw X vs (.Name x pos) (gSet i) :=
  PG.imp (pg_name hN hi hx hf) fun v σ H Q ⟨s, τ, t, s', rel, rp, e, q⟩ => by
    cases e
    refine q _ (wipe_eq (List.length_set ..) fun j hj => ?_) (rel.set (b := false) rp)
    have ne : i ≠ j := fun z => by subst z; exact hj hv
    rw [List.getElem?_set_ne ne]
theorem sgws_nil : SGws X vs [] gNil := PGs.imp pgs_nil fun ws σ H Q ⟨s, τ, ts, s', rel, rp, e, q⟩ => by
  cases rp with
  | nil => cases e; exact ⟨rfl, q σ rfl rel⟩
  | cons _ _ => cases e
theorem sgws_cons (h1 : SGw X vs e g) (h2 : SGws X vs es h) (hs : (assignEach (e :: es) X.env).map (·.2) = assign e X.env :: (assignEach es X.env).map (·.2) := by rfl) : SGws X vs (e :: es) (gCons g h) :=
  PGs.imp (pgs_cons h1 h2 hs) fun ws σ H Q ⟨s, τ, ts, s', rel, rp, e, q⟩ => by
    cases rp with
    | nil => cases e
    | @cons t v ts ws r rs =>
      have e : (g t s).bind (fun _ s => h ts s) = .ok () s' := e
      cases k : g t s with
      | ok u s1 =>
        rw [k] at e
        exact ⟨v, ws, rfl, s, τ, t, s1, rel, r, k, fun σ' hw rel' => ⟨s1, τ, ts, s', rel', rs, e, fun σ'' hw' rel'' => q σ'' (hw'.trans hw) rel''⟩⟩
      | exc c s1 => rw [k] at e; cases e
      | stuck => rw [k] at e; cases e
theorem sgw_tup {n k : Nat} (hc : X.calm = true) (h1 : SGws X vs es h) (hn : (assignEach es X.env).length = n := by rfl) (hst : (assignEach es X.env).findIdx? (·.1) = none := by rfl) : SGw X vs (.Tuple es k pos) (gTup n h) :=
  PG.imp (pg_tup hc h1 hn hst) fun v σ H Q ⟨s, τ, t, s', rel, rp, e, q⟩ => by
    unfold gTup at e
    split at e
    · split at e
      · rename_i hl
        cases rp with
        | tup q1 q2 => exact ⟨_, _, rfl, q1.sq, by rw [← q2.length]; exact hl, s, τ, _, s', rel, q2, e, q⟩
      · cases e
    · cases e
end

/-! ### list comprehensions -/
def compL (vs : List Nat) (g : T → S → R Unit) (c : S → R Bool) (e : S → R Res) : List T → List T → S → R (List T)
  | [], acc, s => .ok acc s
  | t :: ts, acc, s => match g t s with
    | .ok _ s => (match c s with
      | .ok true s => (match e s with
        | .ok r s => (match frz s r with
          | some (y, s) => if szok (acc.length + 1) = true then compL vs g c e ts (acc ++ [y]) ⟨wipeS s.sl vs, s.ob⟩ else .stuck
          | none => .stuck)
        | _ => .stuck)
      | .ok false s => compL vs g c e ts acc ⟨wipeS s.sl vs, s.ob⟩
      | _ => .stuck)
    | _ => .stuck
def eLC (vs : List Nat) (fi : S → R (List T)) (g : T → S → R Unit) (c : S → R Bool) (e : S → R Res) : S → R Res := fun s => (fi s).bind fun ts s1 => match compL vs g c e ts [] ⟨wipeS s1.sl vs, s1.ob⟩ with
  | .ok l s2 => .ok (.tmp (.lst l)) ⟨backS s1.sl s2.sl vs, s2.ob⟩
  | _ => .stuck
def cYes : S → R Bool := fun s => .ok true s
def STs (X : Cx) (es : List Expr) (f : S → R Bool) : Prop := ∀ W, Takes X W → PTs X es (tG (Mx X) RBool f W)
theorem PTs.imp {X : Cx} {e : List Expr} {t t' : TT} (h : PTs X e t) (i : ∀ σ H Q, t' σ H Q → t σ H Q) : PTs X e t' := ⟨fun pins s σ H Q I q => h.run pins s σ H Q I (i σ H Q q)⟩
theorem sts_nil {X : Cx} : STs X [] cYes := fun W tk => PTs.imp pts_nil fun σ H Q ⟨s, τ, rel, post⟩ => post true τ H (.refl _ _) rel rfl
theorem sts_one {X : Cx} {c : Expr} {f : S → R Bool} (h : ST X c f) : STs X [c] f := fun W tk => pts_one (h W tk)
section
variable {M : Md} {σ : L2.St} {H : Hp} {τ : Tg} {s : S}
/-- a container that no tree holds is written -/
theorem Rel.wrFree {D : Addr} {o : HO} {xs : List V} (rel : Rel M s τ σ H) (h1 : τ D = .free) (h2 : H D = some (.lst xs)) (ho : ∀ ps, o ≠ .tbl ps := by intro _ z; cases z) : Rel M s τ σ (upd H D o) ∧ Kp τ H τ (upd H D o) := by
  have kp : Kp τ H τ (upd H D o) := ⟨fun b u q h => ⟨h, by rw [upd_ne fun z => by subst z; rw [h1] at h; cases h]; exact q⟩, fun b r h => h⟩
  refine ⟨⟨rel.rs.kp kp fun b i h _ => ⟨h, upd_ne fun z => by subst z; rw [h1] at h; cases h⟩, ⟨fun b r h => ?_, rel.ro.one, fun b h => ?_, rel.ro.tb.mono (fun _ _ t => t) (fun _ _ t => t) kp (fun b q ps h z => ?_) fun b ps e => ?_⟩⟩, kp⟩
  · obtain ⟨ov, e1, e2⟩ := rel.ro.at_ b r h
    exact ⟨ov, e1, e2.kp kp (upd_ne fun z => by subst z; rw [h1] at h; cases h)⟩
  · by_cases e : b = D
    · rw [e, upd_same]; simp
    · rw [upd_ne e]; exact rel.ro.al b h
  · rw [upd_ne fun z => by subst z; rw [h1] at h; cases h]; exact z
  · by_cases e2 : b = D
    · subst e2; rw [upd_same] at e; exact absurd (Option.some.inj e) (ho ps)
    · rw [upd_ne e2] at e; exact e
theorem Rel.wiped {vs : List Nat} {σ' : L2.St} (rel : Rel M s τ σ H) (hw : wipe σ vs = wipe σ' vs) : Rel M ⟨wipeS s.sl vs, s.ob⟩ τ (wipe σ' vs) H := by
  refine ⟨⟨by rw [← hw, wipe_length, wipeS_length]; exact rel.rs.len, fun i b t q => ?_⟩, rel.ro⟩
  obtain ⟨h1, h2⟩ := wipeS_some q
  obtain ⟨v, e1, e2⟩ := rel.rs.at_ i b t h1
  exact ⟨v, by rw [← hw, wipe_out h2]; exact e1, e2⟩
end
section
variable {X : Cx} {elt tg iter : Expr} {ifs : List Expr} {scope : Scope} {own : List (Str × Nat)} {pos : Pos} {fi : S → R (List T)} {g : T → S → R Unit} {c : S → R Bool} {e : S → R Res}
theorem lc_run {M : Md} {vs : List Nat} {W : WX} {σ : L2.St} {H : Hp} {Q : VK} (h : tG M (RRes M) (eLC vs fi g c e) W σ H Q) :
    tLc (tG M (RW M) fi W) (tGw M vs g) (tG M RBool c fun _ _ _ _ => False) (tG M (RRes M) e fun _ _ _ _ => False) vs σ H Q := by
  obtain ⟨s, τ, rel, post⟩ := h
  refine run1 (R1 := RW M) (.refl _ _) rel post fun ts s1 J τ1 H1 ev1 rel1 wk p => ?_
  have wk : Walks M J ts τ1 H1 := wk
  intro D hD
  -- the whole run
  cases hfin : compL vs g c e ts [] ⟨wipeS s1.sl vs, s1.ob⟩ with
  | stuck => rw [hfin] at p; exact p.elim
  | exc cn s2 => rw [hfin] at p; exact p.elim
  | ok l s2 =>
    rw [hfin] at p
    obtain ⟨relD, evD⟩ := rel1.new (o := .lst []) (g := .free) hD (.inl rfl) fun _ z => nomatch z
    have tD : τ1 D = .free := Classical.byContradiction fun z => rel1.ro.al D z hD
    have eqD : tset τ1 D .free = τ1 := by
      funext b
      by_cases z : b = D
      · rw [z, tset_same, tD]
      · rw [tset_ne z]
    rw [eqD] at relD evD
    have rel0 : Rel M ⟨wipeS s1.sl vs, s1.ob⟩ (hid (· ∈ vs) τ1) (wipe σ vs) (upd H1 D (.lst [])) := by
      refine relD.hid rfl (by rw [wipe_length, wipeS_length]; exact rel1.rs.len) fun i b t q => ?_
      obtain ⟨h1, h2⟩ := wipeS_some q
      exact ⟨h2, h1, wipe_out h2⟩
    have evH : Evo (hid (· ∈ vs) τ1) H1 (hid (· ∈ vs) τ1) (upd H1 D (.lst [])) := Evo.ext (fun a o q => ⟨by rw [upd_ne (ne_of_none q hD)]; exact q, rfl⟩) rel1.ro.hid.al
    have hDf : hid (· ∈ vs) τ1 D = .free := by rw [hid_other (by rw [tD]; simp)]; exact tD
    refine ⟨fun i m H' => m = ts.length - i ∧ i ≤ ts.length ∧ ∃ s' τ' accT accV, Evo (hid (· ∈ vs) τ1) H1 τ' H' ∧ Rel M s' τ' (wipe σ vs) H' ∧ τ' D = .free ∧ H' D = some (.lst accV) ∧ Rps M τ' H' accT accV ∧ compL vs g c e (ts.drop i) accT s' = .ok l s2,
      ⟨_, rfl, Nat.zero_le _, _, _, [], [], evH, rel0, hDf, upd_same, .nil, hfin⟩, ?_⟩
    rintro i m H' ⟨rfl, hle, s', τ', accT, accV, ev', rel', tD', hD', rs', fin'⟩
    have kpw : Kp τ1 H1 τ' H' := kp_hid.trans ev'.toKp
    obtain ⟨w1, w2⟩ := wk i τ' H' kpw
    by_cases hlt : i < ts.length
    · have ht : ts[i]? = some ts[i] := List.getElem?_eq_getElem hlt
      obtain ⟨go, yl⟩ := w2 _ ht
      rw [List.drop_eq_getElem_cons hlt, compL] at fin'
      refine .inr ⟨go, fun H'' => ∃ s' τ' accT accV, Evo (hid (· ∈ vs) τ1) H1 τ' H'' ∧ Rel M s' τ' (wipe σ vs) H'' ∧ τ' D = .free ∧ H'' D = some (.lst accV) ∧ Rps M τ' H'' accT accV ∧ compL vs g c e (ts.drop (i + 1)) accT s' = .ok l s2,
        fun H'' q => ⟨ts.length - (i + 1), by omega, rfl, hlt, q⟩, fun x H'' y => ?_⟩
      obtain ⟨τ3, e3, rel3, rp3, fD⟩ := item_in rel' (yl x H'' y)
      have tD3 := fD D tD' (by rw [hD']; simp)
      have hD3 : H'' D = some (.lst accV) := (e3.fr D _ hD' tD').2
      cases k : g ts[i] s' with
      | stuck => rw [k] at fin'; cases fin'
      | exc cn s4 => rw [k] at fin'; cases fin'
      | ok u s4 =>
        rw [k] at fin'
        simp only at fin'
        refine ⟨s', τ3, ts[i], s4, rel3, rp3, k, fun σ4 hw rel4 => ⟨hw.trans wipe_idem, s4, τ3, rel4, ?_⟩⟩
        rw [wipe_idem] at hw
        cases k2 : c s4 with
        | stuck => rw [k2] at fin'; cases fin'
        | exc cn s5 => rw [k2] at fin'; cases fin'
        | ok b s5 =>
          rw [k2] at fin'
          intro b' τ5 H5 ev5 rel5 eb
          have eb : b' = b := eb
          subst eb
          have tD5 := ev5.fr D _ hD3 tD3
          have evA := (ev'.trans e3).trans ev5
          have rs5 := rs'.mono (e3.toKp.trans ev5.toKp)
          cases b' with
          | false =>
            simp only at fin'
            rw [if_neg Bool.false_ne_true]
            exact ⟨_, τ5, accT, accV, evA, rel5.wiped hw, tD5.1, tD5.2, rs5, fin'⟩
          | true =>
            simp only at fin'
            rw [if_pos rfl]
            cases k3 : e s5 with
            | stuck => rw [k3] at fin'; cases fin'
            | exc cn s6 => rw [k3] at fin'; cases fin'
            | ok r s6 =>
              rw [k3] at fin'
              simp only at fin'
              refine ⟨s5, τ5, rel5, ?_⟩
              rw [k3]
              intro yv τ6 H6 ev6 rel6 r6
              have tD6 := ev6.fr D _ tD5.2 tD5.1
              split at fin'
              · rename_i y s7 ef
                split at fin'
                · rename_i hz
                  obtain ⟨τ7, e7, kp7, rel7, rp7⟩ := RelR.frz rel6 ev6 r6 ef
                  have tD7 := e7.fr D _ tD5.2 tD5.1
                  have rs7 := (rs5.mono e7.toKp).append (Rps.cons rp7 .nil)
                  obtain ⟨rel8, kp8⟩ := rel7.wrFree (o := .lst (accV ++ [yv])) tD7.1 tD6.2
                  refine ⟨accV, tD6.2, ?_, _, τ7, accT ++ [y], accV ++ [yv], ?_, rel8.wiped hw, tD7.1, upd_same, rs7.mono kp8, fin'⟩
                  · have := szok_le hz
                    rw [rs'.length] at this
                    omega
                  · have evB := evA.trans e7
                    refine ⟨evB.toKp.trans kp8, fun b o q h => ?_, fun b q => ?_, evB.sl⟩
                    · obtain ⟨h1, h2⟩ := evB.fr b o q h
                      exact ⟨h1, by rw [upd_ne (ne_of_none q hD)]; exact h2⟩
                    · by_cases z : b = D
                      · rw [z, upd_same]; simp
                      · rw [upd_ne z]; exact evB.th b q
                · cases fin'
              · cases fin'
    · have e : i = ts.length := by omega
      subst e
      rw [List.drop_length, compL] at fin'
      cases fin'
      refine .inl ⟨w1 (Nat.le_refl _), ?_⟩
      have al := rel1.ro.al
      have evF := Evo.shw al ev'
      refine p (.ref D) (shw (· ∈ vs) τ1 τ') H' (ev1.trans evF) ?_ ⟨D, rfl, ev1.back hD, ?_, accV, hD', rs'.mono (kp_shw al ev')⟩
      · refine Rel.shw rel1 ev' rel' rfl (by rw [backS_length, ← rel'.rs.len, wipe_length]) fun i b t q => ?_
        rcases backS_some q with h | ⟨h1, h2⟩
        · exact .inl h
        · exact .inr ⟨h1, h2, wipe_out h1⟩
      · rw [shw_other (by rw [tD]; simp)]; exact tD'
theorem se_lc (hc : X.calm = true) (hN : X.N.Nodup) (hi : SI X tg iter fi) (ok : BlkOk X.N X.env.scope scope own)
    (hg : ∀ (s : Shared) (H : Hp) (C : Addr) (cl : List (Str × Addr)) (fp : List Addr), SGw (X.blk s H scope (compEnvC scope cl C X.env) fp) (own.map (·.2)) tg g)
    (ht : ∀ (s : Shared) (H : Hp) (C : Addr) (cl : List (Str × Addr)) (fp : List Addr), STs (X.blk s H scope (compEnvC scope cl C X.env) fp) ifs c)
    (he : ∀ (s : Shared) (H : Hp) (C : Addr) (cl : List (Str × Addr)) (fp : List Addr), SE (X.blk s H scope (compEnvC scope cl C X.env) fp) elt e) (hs : ∀ x, foldedSetIterable iter X.env x = pure x := by intro _; rfl) :
    SE X (.ListComp elt [⟨tg, iter, ifs, 0⟩] scope pos) (eLC (own.map (·.2)) fi g c e) := fun W tk =>
  PE.imp (pe_lc (g := tGw (Mx X) (List.map (fun x : Str × Nat => x.snd) own) g) (tt := tG (Mx X) RBool c fun _ _ _ _ => False) (te := tG (Mx X) (RRes (Mx X)) e fun _ _ _ _ => False) hc hN (hi W tk) ok (fun s H C cl fp => hg s H C cl fp) (fun s H C cl fp => ht s H C cl fp _ takes0) (fun s H C cl fp => he s H C cl fp _ takes0) hs) fun σ H Q h => lc_run h
end
end Sv

/-! Sv, part L: defs, their calls, what is raised, what a law is told. -/
namespace Sv
open PySem PySem.Spec PyProof.Rows L2
variable [Tb]

inductive FR where
  | ok (b : Bool) (t : T) (ob : List OV) | exc (c : Str) (ob : List OV) | stuck
abbrev Fn := List T → List OV → FR
def spF (M : Md) (n : Nat) (G : Fn) : Sp := fun vs H Q E => ∃ τ ob ts, (∀ a i, τ a ≠ Tag.slot i) ∧ RelO M ob τ H ∧ Rps M τ H ts vs ∧ ts.length = n ∧ (match G ts ob with
  | .ok b t ob' => ∀ v τ' H', Evo τ H τ' H' → RelO M ob' τ' H' → VO M H τ' H' b t v → Q v H'
  | .exc c ob' => ∀ C d τ' H', M.mg c = some (.ref C) → Evo τ H τ' H' → RelO M ob' τ' H' → E (.ref C) d H'
  | .stuck => False)
def mkFn (n k : Nat) (body : S → RS) : Fn := fun ts ob => if ts.length = n then (match body ⟨ts.map (fun t => some (false, t)) ++ List.replicate (k - n) none, ob⟩ with
  | .nxt s => .ok false .non s.ob
  | .ret b t ob => .ok b t ob
  | .exc c s => .exc c s.ob
  | _ => .stuck) else .stuck
section
variable {M : Md} {τ τ' : Tg} {H H' : Hp}
theorem retV_VO {ob : List OV} {b : Bool} {t : T} {v : V} (ns : ∀ a i, τ a ≠ .slot i) (ev : Evo τ H τ' H') (ro : RelO M ob τ' H') (h : RetV M τ' H' H b t v) : ∃ τ'', Evo τ H τ'' H' ∧ RelO M ob τ'' H' ∧ VO M H τ'' H' b t v := by
  cases b with
  | false => exact ⟨τ', ev, ro, h⟩
  | true =>
    obtain ⟨a, rfl, e2, e3⟩ := h
    rcases e2 with ⟨e2, e4⟩ | ⟨i, e2⟩
    · exact ⟨τ', ev, ro, a, rfl, e4, e2, e3⟩
    · have hn : H a = none := by
        rcases ev.sl a i e2 with z | ⟨j, z⟩
        · exact z
        · exact absurd z (ns a j)
      have kp : Kp τ' H' (tset τ' a .free) H' := ⟨fun b o q h => ⟨by rw [tset_ne fun z => by subst z; rw [e2] at h; cases h]; exact h, q⟩, fun b r h => by rw [tset_ne fun z => by subst z; rw [e2] at h; cases h]; exact h⟩
      have back : ∀ b g, tset τ' a .free b = g → g ≠ .free → τ' b = g ∧ b ≠ a := fun b g h n => by
        by_cases e : b = a
        · subst e; rw [tset_same] at h; exact absurd h.symm n
        · rw [tset_ne e] at h; exact ⟨h, e⟩
      refine ⟨tset τ' a .free, ⟨ev.toKp.trans kp, fun b o q h => ?_, ev.th, fun b j h => ev.sl b j (back b _ h (by simp)).1⟩, ⟨fun b r h => ?_, fun b c r h1 h2 => ?_, fun b h => ?_, ro.tb.mono (fun b q h => by rw [tset_ne fun z => by subst z; rw [e2] at h; cases h]; exact h) (fun b q h => (back b _ h (by simp)).1) kp (fun _ _ _ _ z => z) fun _ _ z => z⟩, a, rfl, hn, tset_same, e3.kp kp rfl⟩
      · obtain ⟨h1, h2⟩ := ev.fr b o q h
        exact ⟨by rw [tset_ne (ne_of_none q hn)]; exact h1, h2⟩
      · obtain ⟨o, h1, h2⟩ := ro.at_ b r (back b _ h (by simp)).1
        exact ⟨o, h1, h2.kp kp rfl⟩
      · exact ro.one b c r (back b _ h1 (by simp)).1 (back c _ h2 (by simp)).1
      · exact ro.al b fun z => h (by
          by_cases e : b = a
          · subst e; exact tset_same
          · rw [tset_ne e]; exact z)
end
section
variable {P : Program} {w : World} {K : PySem.W.Frag} {mg : Str → Option Value} {base : Heap}
/-- a def whose body is served -/
theorem fn_okAt {x qual : Str} {params : Arguments} {bd : List Stmt} {scope : Scope} {dV kV doc pm cdv ct oc : Value} {an od : Option Addr} {osl : Array (Option Value)} {f : Addr} {N ps : List Str} {k : Nat} {body : S → RS}
    (lk : K.lookup f = some ⟨oc, od, .func (PySem.W.fnOf x qual params bd scope dV kV doc pm an cdv ct), osl⟩) (hcd : PySem.W.codeIn K cdv qual = true) (Sc : FnScope N ps scope) (hl : ps.length ≤ N.length)
    (hb : ∀ (A : Around) (outer : List Env) (s : Shared) (H : Hp) (E : XK), Rm (cxOf (L2.CX P w) P w K mg base N qual scope f cdv A outer s H E) k → PassesOwn (model P w) (A.deeper (envOfC qual scope s.heap.objs.size f cdv)) (envOfC qual scope s.heap.objs.size f cdv) (cxOf (L2.CX P w) P w K mg base N qual scope f cdv A outer s H E).xe →
      SSs (cxOf (L2.CX P w) P w K mg base N qual scope f cdv A outer s H E) bd body) :
    FnOk P w K mg base (L2.CX P w) (k + 1) f (PySem.W.fnOf x qual params bd scope dV kV doc pm an cdv ct) ps (spF ⟨K, mg, Tb.T, Tb.L⟩ ps.length (mkFn ps.length N.length body)) := by
  refine fn_of lk hcd Sc (fun vs H Q E h => ?_) (fun A outer s H vs Q E hr h => ?_)
  · obtain ⟨τ, ob, ts, _, _, h1, h2, _⟩ := h
    rw [← h1.length, h2]
  · obtain ⟨τ, ob, ts, ns, ro, rs, hn, h⟩ := h
    refine ⟨_, hb A outer s H E ⟨hr, rfl, Sc.nd⟩ (passes_of (E₁ := fun e' s'' => L2.CX P w outer H s E e' s'') (K := fun e s'' => L2.CX P w outer H s E e s'') rfl) _ (takes_of (E₁ := fun e' s'' => L2.CX P w outer H s E e' s'') rfl rfl rfl rfl), ⟨ts.map (fun t => some (false, t)) ++ List.replicate (N.length - ps.length) none, ob⟩, τ, ⟨⟨?_, fun i b t q => ?_⟩, ro⟩, ?_⟩
    · have hv := rs.length
      simp only [L2.start, List.length_append, List.length_map, List.length_replicate]
      omega
    · have hv := rs.length
      have hi : i < ts.length := by
        refine Classical.byContradiction fun z => ?_
        rw [List.getElem?_append_right (by simpa using z)] at q
        rw [List.getElem?_replicate] at q
        split at q <;> cases q
      rw [List.getElem?_append_left (by simpa using hi), List.getElem?_map] at q
      cases e : ts[i]? with
      | none => rw [e] at q; cases q
      | some t' =>
        rw [e] at q
        cases q
        obtain ⟨v, e1, e2⟩ := rs.get e
        refine ⟨v, ?_, e2⟩
        have hi2 : i < vs.length := by omega
        unfold L2.start
        rw [List.getElem?_append_left (by simpa using hi2), List.getElem?_map, e1]
        rfl
    · unfold mkFn at h
      rw [if_pos hn] at h
      cases e : body ⟨ts.map (fun t => some (false, t)) ++ List.replicate (N.length - ps.length) none, ob⟩ with
      | nxt s1 => rw [e] at h; exact fun σ' τ' H' ev rel => h .non τ' H' ev rel.ro .non
      | brk s1 => rw [e] at h; exact h.elim
      | cnt s1 => rw [e] at h; exact h.elim
      | stuck => rw [e] at h; exact h
      | exc c s1 => rw [e] at h; exact fun C d σ' τ' H' hc ev rel => h C d τ' H' hc ev rel.ro
      | ret b t ob1 =>
        rw [e] at h
        intro v τ' H' ev ro' rv
        obtain ⟨τ'', e1, e2, e3⟩ := retV_VO ns ev ro' rv
        exact h v τ'' H' e1 e2 e3
theorem fn_ok {x qual : Str} {st : Stmt} {f : Addr} {fd : FuncData} {N ps : List Str} {k : Nat} {body : S → RS} (F : Fun K x qual st f fd) (Sc : FnScope N ps (defScope st)) (hl : ps.length ≤ N.length)
    (hb : ∀ (cdv : Value) (A : Around) (outer : List Env) (s : Shared) (H : Hp) (E : XK), Rm (cxOf (L2.CX P w) P w K mg base N qual (defScope st) f cdv A outer s H E) k → PassesOwn (model P w) (A.deeper (envOfC qual (defScope st) s.heap.objs.size f cdv)) (envOfC qual (defScope st) s.heap.objs.size f cdv) (cxOf (L2.CX P w) P w K mg base N qual (defScope st) f cdv A outer s H E).xe →
      SSs (cxOf (L2.CX P w) P w K mg base N qual (defScope st) f cdv A outer s H E) (defBody st) body) :
    FnOk P w K mg base (L2.CX P w) (k + 1) f fd ps (spF ⟨K, mg, Tb.T, Tb.L⟩ ps.length (mkFn ps.length N.length body)) := by
  obtain ⟨oc, od, kV, doc, pm, an, cdv, ct, osl, e, lk, hcd⟩ := F.ex
  subst e
  exact fn_okAt lk hcd Sc hl fun A outer s H E => hb cdv A outer s H E
end

/-! ### calls -/
def afterF (r : FR) (s : S) : R Res := match r with
  | .ok b t ob => .ok (if b = true then .tmp t else .val t) ⟨s.sl, ob⟩
  | .exc c ob => .exc c ⟨s.sl, ob⟩
  | .stuck => .stuck
def eCall (G : Fn) (fa : S → R (List T)) : S → R Res := fun s => (fa s).bind fun ts s => afterF (G ts s.ob) s
section
variable {M : Md} {σ : L2.St} {H H0 : Hp} {τ τ0 : Tg} {s : S}
/-- the promise of a callee, from what is wanted -/
theorem call_spF {W : WX} {Q : VK} {G : Fn} {n : Nat} {ts : List T} {vs : List V} (rel : Rel M s τ σ H) (rs : Rps M τ H ts vs) (ev : Evo τ0 H0 τ H) (hn : ts.length ≠ n → G ts s.ob = .stuck) (p : Post M (RRes M) σ τ0 H0 (afterF (G ts s.ob) s) Q W) :
    spF M n G vs H Q (WE W σ) := by
  have len : ts.length = n := Classical.byContradiction fun z => by rw [hn z] at p; exact p
  refine ⟨hid (fun _ => True) τ, s.ob, ts, fun a i e => ?_, rel.ro.hid, rs.mono kp_hid, len, ?_⟩
  · rcases hid_cases (P := fun _ => True) (τ := τ) (a := a) with ⟨j, _, _, q⟩ | ⟨q, h⟩
    · rw [q] at e; cases e
    · exact h i (q.symm.trans e) trivial
  · have al := rel.ro.al
    have shown : ∀ {τ' : Tg} {H' : Hp} {ob' : List OV}, Evo (hid (fun _ => True) τ) H τ' H' → RelO M ob' τ' H' → Evo τ H (shw (fun _ => True) τ τ') H' ∧ Kp τ' H' (shw (fun _ => True) τ τ') H' ∧ Rel M ⟨s.sl, ob'⟩ (shw (fun _ => True) τ τ') σ H' := fun {τ' H' ob'} e ro => by
      refine ⟨Evo.shw al e, kp_shw al e, ⟨⟨rel.rs.len, fun i b t q => ?_⟩, RelO.shw al e ro⟩⟩
      obtain ⟨v, e1, e2⟩ := rel.rs.at_ i b t q
      refine ⟨v, e1, e2.kp (Evo.shw al e).toKp fun c hc _ => ⟨by rw [shw_slot hc, if_pos trivial], (hidden_kept al e hc trivial).2⟩⟩
    cases e : G ts s.ob with
    | stuck => rw [e] at p; exact p
    | exc c ob' =>
      rw [e] at p
      intro C d τ' H' hc ev' ro'
      obtain ⟨e1, e2, e3⟩ := shown ev' ro'
      exact p C d _ H' hc (ev.trans e1) e3
    | ok b t ob' =>
      rw [e] at p
      intro v τ' H' ev' ro' vo
      obtain ⟨e1, e2, e3⟩ := shown ev' ro'
      cases b with
      | false => exact p v _ H' (ev.trans e1) e3 (Rp.mono e2 vo)
      | true =>
        obtain ⟨a, rfl, k1, k2, k3⟩ := vo
        refine p (.ref a) _ H' (ev.trans e1) e3 ⟨a, rfl, ev.back k1, ?_, k3.kp e2 rfl⟩
        rw [shw_other fun i z => al a (by rw [z]; simp) k1]
        exact k2
end
section
variable {X : Cx} {x : Str} {e : Expr} {es : List Expr} {f : Addr} {fd : FuncData} {ps : List Str} {k kX : Nat} {G : Fn} {fa : S → R (List T)} {p pos : Pos}
theorem se_call (F : FnOk X.prog X.w X.K X.mg X.base (L2.CX X.prog X.w) k f fd ps (spF (Mx X) ps.length G)) (rm : Rm X kX) (hk : k ≤ kX) (hg : Gl X x) (hm : X.mg x = some (.ref f)) (kp : PySem.W.keepIn X.K (.ref f) = true) (hb : Binds X.K fd ps [])
    (hG : ∀ ts ob, ts.length ≠ ps.length → G ts ob = .stuck) (ha : SA X (e :: es) fa) (hdb : (x == ("__debug__" : Str)) = false := by decide) (he : starEach (e :: es) X.env = (false, eval e X.env) :: starEach es X.env := by rfl) (hpl : (backTo pos (starEach es X.env)).any (·.1) = false := by rfl) :
    SE X (.Call (.Name x p) (e :: es) [] pos) (eCall G fa) := fun W tk =>
  PE.imp (pe_callS F (rm.room.mono hk) hg hm kp hb (passAt tk) (ha W tk) hdb he hpl) fun σ H Q ⟨s, τ, rel, post⟩ =>
    run1 (R1 := RTs (Mx X)) (.refl _ _) rel post fun ts s2 vs τ2 H2 ev rel2 r1 p => call_spF rel2 r1 ev (hG ts s2.ob) p
theorem mkFn_len {n k : Nat} {body : S → RS} : ∀ ts ob, ts.length ≠ n → mkFn n k body ts ob = .stuck := fun ts ob h => by
  unfold mkFn
  rw [if_neg h]
end

/-! ### raise X('m') -/
/-- what is known of an own exception class -/
structure ExcF (K : PySem.W.Frag) (mg : Str → Option Value) (cn : Str) (C : Addr) : Prop where
  g : mg cn = some (.ref C)
  x : PySem.W.excIn K C [.type "ValueError", .type "Exception", .type "BaseException", .type "object"] "ValueError.__new__" = true
  k : PySem.W.keepIn K (.ref C) = true
  b : PySem.W.subIn K (.ref C) (.type "BaseException") = some true
  t : PySem.W.typeIn K (.ref C) = some (.type "type")
  m : PySem.W.exmOne K (.ref C) (.ref C) = some true
theorem ss_raiseX {X : Cx} {cn m : Str} {C : Addr} {j : Nat} {p p2 p3 pos : Pos} (F : ExcF X.K X.mg cn C) (hc : X.calm = true) (hg : Gl X cn) (hdb : (cn == ("__debug__" : Str)) = false := by decide) :
    SS X (.Raise (some (.Call (.Name cn p) [.Constant (.str m) j p2] [] p3)) none pos) (sRaise cn) :=
  ss_raise hc F.g (pmk_own PySem.F.excBase_ValueError F.x F.g F.k (raises_own F.b F.t) hg hdb) fun σ H Q h => h

/-! ### told(lambda: e): try, or the name of the error -/
def eTold (cn : Str) (f : S → R Res) : S → R Res := fun s => match f s with
  | .ok r s => (match frz s r with
    | some (t, s) => .ok (.val t) s
    | none => .stuck)
  | .exc c s => if c = cn then .ok (.val (.str cn)) s else .stuck
  | .stuck => .stuck
end Sv

/-! Sv, part M: lambdas without parameters, and the def that is told them. -/
namespace Sv
open PySem PySem.Spec PyProof.Rows L2
variable [Tb]
section
variable {M : Md} {st : S} {τ : Tg} {σ : L2.St} {H : Hp}
/-- a table grows by a code object -/
theorem Rel.table {P c : Addr} {q : Str} {ps : Array Value} {l cl : Value} (rel : Rel M st τ σ H) (hP : H P = some (.tbl ps)) (tP : τ P = .tb q) (nC : H c = none)
    (ok : ∀ (pos : Pos) (cv : Value), codeAmong pos (ps ++ #[l, cl, .ref c]).toList = some cv → codeAmong pos ps.toList = some cv ∨ cv = .ref c) (tr : TriplesOk (ps ++ #[l, cl, .ref c]).toList) :
    Rel M st (tset τ c .frz) σ (upd (upd H P (.tbl (ps ++ #[l, cl, .ref c]))) c (LamX.CodeO c q)) ∧ Evo τ H (tset τ c .frz) (upd (upd H P (.tbl (ps ++ #[l, cl, .ref c]))) c (LamX.CodeO c q)) := by
  have nPc : P ≠ c := ne_of_none hP nC
  have tC : τ c = .free := Classical.byContradiction fun z => rel.ro.al c z nC
  have hh : ∀ a, a ≠ P → a ≠ c → upd (upd H P (.tbl (ps ++ #[l, cl, .ref c]))) c (LamX.CodeO c q) a = H a ∧ tset τ c .frz a = τ a := fun a h1 h2 => ⟨by rw [upd_ne h2, upd_ne h1], tset_ne h2⟩
  have atP : upd (upd H P (.tbl (ps ++ #[l, cl, .ref c]))) c (LamX.CodeO c q) P = some (.tbl (ps ++ #[l, cl, .ref c])) := by rw [upd_ne nPc, upd_same]
  have neC : ∀ a o, H a = some o → a ≠ c := fun a o e => ne_of_none e nC
  have neT : ∀ a g, τ a = g → g ≠ .free → a ≠ c := fun a g e n z => n (by rw [← e, z, tC])
  have neP : ∀ a g, τ a = g → (∀ q, g ≠ .tb q) → a ≠ P := fun a g e n z => n q (by rw [← e, z, tP])
  have kp : Kp τ H (tset τ c .frz) (upd (upd H P (.tbl (ps ++ #[l, cl, .ref c]))) c (LamX.CodeO c q)) := ⟨fun a o e t => by
    obtain ⟨h1, h2⟩ := hh a (neP a _ t (by simp)) (neC a o e)
    exact ⟨h2.trans t, h1.trans e⟩, fun a r t => (tset_ne (neT a _ t (by simp))).trans t⟩
  have ev : Evo τ H (tset τ c .frz) (upd (upd H P (.tbl (ps ++ #[l, cl, .ref c]))) c (LamX.CodeO c q)) := ⟨kp, fun a o e t => by
    obtain ⟨h1, h2⟩ := hh a (neP a _ t (by simp)) (neC a o e)
    exact ⟨h2.trans t, h1.trans e⟩, fun a n => by
    by_cases e : a = P
    · rw [e, atP]; simp
    · obtain ⟨o, ho⟩ := Option.ne_none_iff_exists'.mp n
      rw [(hh a e (neC a o ho)).1]; exact n, fun a i t => by
    by_cases e : a = c
    · rw [e]; exact .inl nC
    · rw [tset_ne e] at t; exact .inr ⟨i, t⟩⟩
  have old : ∀ a g, tset τ c .frz a = g → g ≠ .frz → τ a = g ∧ a ≠ c := fun a g t n => by
    by_cases e : a = c
    · subst e; rw [tset_same] at t; exact absurd t.symm n
    · exact ⟨(tset_ne e).symm.trans t, e⟩
  refine ⟨⟨rel.rs.kp kp fun a i t _ => ?_, ⟨fun a r t => ?_, fun a b r ta tb => rel.ro.one a b r (old a _ ta (by simp)).1 (old b _ tb (by simp)).1, fun a t => ?_, ⟨fun p hp => ?_, fun a q' t => ?_, trivial⟩⟩⟩, ev⟩
  · obtain ⟨h1, h2⟩ := hh a (neP a _ t (by simp)) (neT a _ t (by simp))
    exact ⟨h2.trans t, h1⟩
  · obtain ⟨t0, n0⟩ := old a _ t (by simp)
    obtain ⟨o, h1, h2⟩ := rel.ro.at_ a r t0
    exact ⟨o, h1, h2.kp kp (hh a (neP a _ t0 (by simp)) n0).1⟩
  · by_cases e : a = c
    · rw [e, upd_same]; simp
    · rw [upd_ne e]
      by_cases e2 : a = P
      · rw [e2, upd_same]; simp
      · rw [upd_ne e2]; rw [tset_ne e] at t; exact rel.ro.al a t
  · have t := rel.ro.tb.1 p hp
    rw [tset_ne (neT _ _ t (by simp))]; exact t
  · obtain ⟨t0, n0⟩ := old a _ t (by simp)
    obtain ⟨m, tf⟩ := rel.ro.tb.2.1 a q' t0
    refine ⟨m, ?_⟩
    by_cases e : a = P
    · subst e
      rw [tP] at t0
      cases t0
      obtain ⟨ps0, e0, _, e2⟩ := tf
      refine ⟨_, atP, tr, e2.imp id fun e2 pos cv hc => ?_⟩
      rcases ok pos cv hc with z | z
      · rw [hP] at e0
        cases e0
        obtain ⟨c0, k1, k2, k3⟩ := e2 pos cv z
        obtain ⟨k4, k5⟩ := kp.fz c0 _ k2 k3
        exact ⟨c0, k1, k5, k4⟩
      · exact ⟨c, z, upd_same, tset_same⟩
    · exact tf.mono kp fun ps0 h0 => (hh a e n0).1.trans h0
theorem lam_gx (q : Str) : q ++ "<lambda>" ≠ gxQ := fun h => by
  have e : (q.cps ++ ("<lambda>" : Str).cps).size = (#[] : Array Nat).size := congrArg (fun x : Str => x.cps.size) h
  rw [Array.size_append] at e
  have e2 : ("<lambda>" : Str).cps.size = 8 := by decide
  simp only [e2, List.size_toArray, List.length_nil] at e
  omega
theorem lamO_ne {f c : Addr} {F : LD} (ps : Array Value) : LamO f c F ≠ .tbl ps := fun z => by
  unfold LamO at z
  cases z
end
section
variable {X : Cx} {pins : List (Addr × Obj)} {σ : L2.St} {H : Hp} {s : Shared} {st : S} {τ : Tg}
theorem inv_lam {F : LD} {c : Addr} {pm ctv : Value} {t' : Nat} (I : Inv X pins σ H s) :
    Inv X pins σ (upd H s.heap.objs.size (LamO s.heap.objs.size c F)) { s with heap := s.heap.push (PySem.W.kla_obj "<lambda>" F.q noArgs F.body F.scope F.cl pm c ctv), toks := t' } := by
  refine I.laid (a := s.heap.objs.size) (fun _ _ e => Heap.get?_push_of_some _ e) (Nat.le_refl _) ?_
  have e : (s.heap.push (PySem.W.kla_obj "<lambda>" F.q noArgs F.body F.scope F.cl pm c ctv)).get? s.heap.objs.size = some (PySem.W.kla_obj "<lambda>" F.q noArgs F.body F.scope F.cl pm c ctv) := Heap.get?_push_size _ rfl
  exact ⟨⟨pm, ctv, e⟩, ⟨_, e⟩, fun h1 h2 ⟨p, t, z⟩ k => ⟨p, t, k _ z⟩⟩
/-- a lambda is made -/
theorem lam_made {c P : Addr} {body : Expr} {scope : Scope} {pos : Pos} {E Q : Value → Shared → Prop} (I : Inv X pins σ H s) (rel : Rel (Mx X) st τ σ H) (TB : LamX.TabB X.base X.mg c P) (hcode : X.env.code = .ref c)
    (hm : (P, X.env.qual ++ "<lambda>") ∈ Tb.T) (hfree : ∀ y ∈ scope.names, y.2 = .free → ∃ c, X.env.cells.lookup y.1 = some c)
    (h : ∀ (f c' : Addr) (H1 : Hp) (τ1 : Tg) (s' : Shared), Inv X pins σ H1 s' → Evo τ H τ1 H1 → Rel (Mx X) st τ1 σ H1 → τ1 f = .frz → H1 f = some (LamO f c' ⟨X.env.qual ++ "<lambda>", body, scope, cloFrom X.env.cells scope.names []⟩) →
      τ1 c' = .frz → H1 c' = some (LamX.CodeO c' (X.env.qual ++ "<lambda>")) → Q (.ref f) s') :
    wpAny (model X.prog X.w) X.A (eval (.Lambda noArgs body scope pos) X.env) Q E s := by
  have tP := rel.ro.tb.1 _ hm
  obtain ⟨_, ps, hP, ht, ha⟩ := rel.ro.tb.2.1 _ _ tP
  refine PySem.W.kla_eval rfl ?_
  have bP := TB.bm.keeps I.bk
  have hP' : s.heap.get? P = some { cls := .none, data := .fields ps } := I.hok P _ hP
  cases hc : codeAmong pos ps.toList with
  | some cv =>
    have ha := ha.resolve_left (lam_gx _)
    obtain ⟨c', e, hco, tco⟩ := ha pos cv hc
    subst e
    refine PySem.W.kla_makeFunctionHit (mg := X.mg) (c := c) (P := P) (ps := ps) (closure_ok hfree) I.ok.glob (I.mod.glob.keeps I.bk) hcode (TB.code.keeps I.bk) hP' ht hc bP fun ctv h' tk hx _ => ?_
    have I1 : Inv X pins σ H { s with heap := h', toks := tk } := I.kept hx
    have nF : H h'.objs.size = none := I1.hok.fresh (Nat.le_refl _)
    have I2 := inv_lam (F := ⟨X.env.qual ++ "<lambda>", body, scope, cloFrom X.env.cells scope.names []⟩) (c := c') (pm := (X.mg "__name__").getD .none) (ctv := ctv) (t' := tk) I1
    obtain ⟨rel2, ev2⟩ := rel.new (o := LamO h'.objs.size c' ⟨X.env.qual ++ "<lambda>", body, scope, cloFrom X.env.cells scope.names []⟩) (g := .frz) nF (.inr (.inl rfl)) lamO_ne
    obtain ⟨k1, k2⟩ := ev2.fz c' _ hco tco
    exact h h'.objs.size c' _ _ _ I2 ev2 rel2 tset_same upd_same k1 k2
  | none =>
    refine PySem.W.kla_makeFunction (mg := X.mg) (c := c) (P := P) (ps := ps) (closure_ok hfree) I.ok.glob (I.mod.glob.keeps I.bk) hcode (TB.code.keeps I.bk) hP' ht hc TB.gP bP fun c' ctv h' tk hx hge hlt hrec htb => ?_
    obtain ⟨c2, oc, vs, t, e2, hoc, hd, hv⟩ := hrec
    cases e2
    have nC : H c' = none := I.hok.fresh hge
    have eL : (ps ++ #[rawInt pos.line, rawInt pos.col, .ref c']).toList = ps.toList ++ [rawInt pos.line, rawInt pos.col, .ref c'] := by simp
    have I1 := LamX.inv_table (t' := tk) (more := #[rawInt pos.line, rawInt pos.col, .ref c']) (h' := h') I hP (fun b o hb e => hx b o hb e) htb hge ⟨oc, vs, t, hoc, hd, hv⟩
    obtain ⟨rel1, ev1⟩ := rel.table (c := c') hP tP nC (fun p' cv e => by rw [eL] at e; exact LamX.among_app _ ht e) (by rw [eL]; exact PySem.TriplesOk_snoc _ _ _ _ ht)
    have nF := I1.hok.fresh (Nat.le_refl _)
    have I2 := inv_lam (F := ⟨X.env.qual ++ "<lambda>", body, scope, cloFrom X.env.cells scope.names []⟩) (c := c') (pm := (X.mg "__name__").getD .none) (ctv := ctv) (t' := tk) I1
    obtain ⟨rel2, ev2⟩ := rel1.new (o := LamO h'.objs.size c' ⟨X.env.qual ++ "<lambda>", body, scope, cloFrom X.env.cells scope.names []⟩) (g := .frz) nF (.inr (.inl rfl)) lamO_ne
    obtain ⟨k1, k2⟩ := ev2.fz c' _ upd_same tset_same
    exact h h'.objs.size c' _ _ _ I2 (ev1.trans ev2) rel2 tset_same upd_same k1 k2
/-- a lambda that is known is called, in the def that got it -/
theorem act_lam {Eg : XK} {Ng : List Str} {qg : Str} {sg : Scope} {g f c' : Addr} {cdg : Value} {body : Expr} {scope : Scope} {k : Nat} {a : Str} {pn : List (Addr × Obj)} {xe : Value → Shared → Prop} {W : WX} {E : XK} {tb : TE} {p1 p2 : Pos}
    (I : Inv X pins σ H s) (L : LamX.LamS X.env.scope scope)
    (tk : Takes ((cxOf C8.CX0 X.prog X.w X.K X.mg X.base Ng qg sg g cdg X.A X.stack s H Eg).tr pn xe) W) (hW : ∀ cls d σ' H', E cls d H' → W cls d σ' H') (hr : Room (k + 1) (X.A.deeper (envOfC qg sg s.heap.objs.size g cdg)))
    (hbody : ∀ (A : Around) (outer : List Env) (s : Shared) (H : Hp), Room k (A.deeper (LamX.lamEnv X scope s.heap.objs.size f c')) → PE (LamX.lamCx X A outer s H E scope f c') body tb)
    (hN : Ng[0]? = some a) (hv : Vis sg a) (hd : (a == ("__debug__" : Str)) = false) (hcd : (a == ("__classdict__" : Str)) = false) :
    PE ((cxOf C8.CX0 X.prog X.w X.K X.mg X.base Ng qg sg g cdg X.A X.stack s H Eg).tr pn xe) (.Call (.Name a p1) [] [] p2)
      (fun σZ HZ Q => σZ[0]? = some (some (.ref f)) ∧ HZ c' = some (LamX.CodeO c' (X.env.qual ++ "<lambda>")) ∧ HZ f = some (LamO f c' ⟨X.env.qual ++ "<lambda>", body, scope, cloFrom X.env.cells scope.names []⟩) ∧ tb σ HZ Q) := by
  refine ⟨fun pinsZ sZ σZ HZ Q IZ h => ?_⟩
  obtain ⟨hs, hc, hf, hb⟩ := h
  refine wpAny_Call_Name_kw (thn ((pe_var (pos := p1) (i := 0) hN hv hd hcd).run pinsZ sZ σZ HZ (fun v H1 => v = .ref f ∧ H1 = HZ) IZ ⟨_, hs, rfl, rfl⟩) fun u s1 ⟨v, H1, I1, r1, e1, e2⟩ => ?_)
  rw [e2] at I1
  rw [e1] at r1
  obtain rfl : u = Value.ref f := r1
  obtain ⟨⟨pm, ctv, of1⟩, _, _⟩ := I1.hok f _ hf
  obtain ⟨⟨oc, us, t, ho1, ho2, ho3⟩, _, _⟩ := I1.hok c' _ hc
  refine PySem.W.callWith_F0 ⟨_, _, _, _, of1⟩ ?_
  have un : Un (frs X.stack) [] H HZ s.heap s1.heap := I1.base
  have run : codeAny (model X.prog X.w) (X.A.deeper (envOfC qg sg s.heap.objs.size g cdg)) (.call (.ref f) ⟨[], []⟩) (CR (L2.CX X.prog X.w) (envOfC qg sg s.heap.objs.size g cdg :: X.stack) X.prog X.w HZ s1 Q E) s1 := by
    refine PySem.W.kla_callFunE hr.depth of1 rfl L.co L.gen rfl ⟨c', oc, us, t, rfl, ho1, ho2, ho3⟩ ?_
    refine wpAny_pure (wpAny_newFunctionEnv (fun y hy => (L.own y hy).2) (fun y hy => nomatch hy) (fun h₁ hns hsb => ⟨I1.nolimit.fresh _ hsb, ?_⟩) L.kind)
    have kept : ∀ b o, s1.heap.get? b = some o → h₁.get? b = some o := fun b o e => hsb.extBut b o (Nat.ne_of_lt (Heap.lt_size e)) (Heap.get?_push_of_some _ e)
    have J := LamX.lam_start2 (E := E) (c' := c') (f := f) (tk := s1.toks + ([] : List (Str × Value)).length) I L I1.env0 hr.hd un hns kept
    refine PySem.W.kla_codeExpr (wpAny_mono ((hbody _ _ s1 HZ (hr.deeper _)).run [] _ _ HZ Q J hb) (fun v s' hq => ?_) fun _ _ hq => hq)
    obtain ⟨w', H', J', rv, q⟩ := hq
    exact ⟨w', H', J'.os, J'.bare, J'.base, J'.hok, rv, q⟩
  refine wpAny_call (codeAny_mono run fun r s' hq => ?_)
  match r with
  | .error e => exact passes_call tk hW pinsZ σZ HZ s1 e s' I1 hq
  | .ok (.ret u) => exact I1.after hq
  | .ok .next => exact False.elim hq
  | .ok .brk => exact False.elim hq
  | .ok .cont => exact False.elim hq
end

/-- the def that is told: what is known of it -/
structure ToldC (K : PySem.W.Frag) (mg : Str → Option Value) (x cn : Str) where
  (g CS : Addr) (a : Str) (Ng : List Str) (pg : Arguments) (sg : Scope) (dV kV doc pm cdv ct oc : Value) (an od : Option Addr) (osl : Array (Option Value)) (j : Nat) (p1 p2 p3 p4 p5 p6 p7 p8 : Pos)
  hm : mg x = some (.ref g)
  hk : PySem.W.keepIn K (.ref g) = true
  lk : K.lookup g = some ⟨oc, od, .func (PySem.W.fnOf x x pg [.Try [.Return (some (.Call (.Name a p1) [] [] p2)) p3] [.ExceptHandler (some (.Name cn p4)) none [.Return (some (.Constant (.str cn) j p5)) p6] p7] [] [] p8] sg dV kV doc pm an cdv ct), osl⟩
  hcg : PySem.W.codeIn K cdv x = true
  hb : L2.Binds K (PySem.W.fnOf x x pg [.Try [.Return (some (.Call (.Name a p1) [] [] p2)) p3] [.ExceptHandler (some (.Name cn p4)) none [.Return (some (.Constant (.str cn) j p5)) p6] p7] [] [] p8] sg dV kV doc pm an cdv ct) [a] []
  Sg : FnScope Ng [a] sg
  hNg : Ng = [a]
  hva : Vis sg a
  hge : sg.names.lookup cn = some .globalImplicit
  hme : mg cn = some (.ref CS)
  hde : (cn == ("__debug__" : Str)) = false
  hx : PySem.W.exmOne K (.ref CS) (.ref CS) = some true
  hd : (a == ("__debug__" : Str)) = false
  hcd : (a == ("__classdict__" : Str)) = false
  hdb : (x == ("__debug__" : Str)) = false
section
variable {X : Cx} {pins : List (Addr × Obj)} {σ : L2.St} {H : Hp} {s : Shared} {st : S} {τ τ0 : Tg} {H0 : Hp} {fE : S → R Res} {x cn : Str}
/-- the body of a lambda, wherever it is called -/
def SLam (X : Cx) (k : Nat) (scope : Scope) (body : Expr) (fE : S → R Res) : Prop :=
  ∀ (A : Around) (outer : List Env) (s : Shared) (H : Hp) (E : XK) (f c' : Addr), Room k (A.deeper (LamX.lamEnv X scope s.heap.objs.size f c')) → SE (LamX.lamCx X A outer s H E scope f c') body fE
theorem told_run (T : ToldC X.K X.mg x cn) {f c' : Addr} {body : Expr} {scope : Scope} {k : Nat} {Q : VK} {W : WX} (I : Inv X pins σ H s) (hr : Room (k + 2) X.A) (L : LamX.LamS X.env.scope scope) (rel : Rel (Mx X) st τ σ H)
    (hf : H f = some (LamO f c' ⟨X.env.qual ++ "<lambda>", body, scope, cloFrom X.env.cells scope.names []⟩)) (hc : H c' = some (LamX.CodeO c' (X.env.qual ++ "<lambda>"))) (ev : Evo τ0 H0 τ H)
    (hbody : SLam X k scope body fE) (p : Post (Mx X) (RRes (Mx X)) σ τ0 H0 (eTold cn fE st) Q W) :
    codeAny (model X.prog X.w) X.A (.call (.ref T.g) ⟨[.ref f], []⟩) (CR C8.CX0 X.stack X.prog X.w H s Q C8.E0) s := by
  refine LamX.run_ofS (N := T.Ng) (ps := [T.a]) (us := [.ref f]) (vs := [.ref f]) T.lk T.hcg T.Sg hr I.env0 (T.hb s [.ref f] I.kIn rfl) (.cons rfl .nil) rfl fun hr' => ?_
  have hN0 : T.Ng[0]? = some T.a := by rw [T.hNg]; rfl
  have h0 : ∀ f : Addr, (L2.start T.Ng [V.ref f])[0]? = some (some (V.ref f)) := fun f => by rw [T.hNg]; rfl
  have hT : LamX.TTold X.K T.CS cn (fun E HZ Q' => HZ f = some (LamO f c' ⟨X.env.qual ++ "<lambda>", body, scope, cloFrom X.env.cells scope.names []⟩) ∧ tG (Mx X) (RRes (Mx X)) fE (fun cls d _ H => E cls d H) σ HZ Q') H Q := by
    refine ⟨hf, st, τ, rel, ?_⟩
    unfold eTold at p
    cases e : fE st with
    | stuck => rw [e] at p; exact p
    | exc c s2 =>
      rw [e] at p
      simp only at p
      split at p
      · rename_i ec
        subst ec
        intro C d τ' H' hC ev' rel'
        have hC : X.mg c = some (.ref C) := hC
        rw [T.hme] at hC
        cases hC
        exact ⟨true, T.hx, fun _ => p (.str c) τ' H' (ev.trans ev') rel' (.str c), fun z => nomatch z⟩
      · exact p.elim
    | ok r s2 =>
      rw [e] at p
      simp only at p
      split at p
      · rename_i t s3 ef
        intro v τ' H' ev' rel' rr
        obtain ⟨τ2, e2, kp2, rel2, rp2⟩ := RelR.frz rel' ev' rr ef
        exact p v τ2 H' (ev.trans e2) rel2 rp2
      · exact p.elim
  obtain ⟨t', ht', hq'⟩ := LamX.told_gives (X := X) (x := x) (g := T.g) (cdg := T.cdv) (a := T.a) (j := T.j) (p1 := T.p1) (p2 := T.p2) (p3 := T.p3) (p4 := T.p4) (p5 := T.p5) (p6 := T.p6) (p7 := T.p7) (p8 := T.p8) (q := X.env.qual ++ "<lambda>") (ret := cn) T.hge T.hme T.hde h0 f c' s H Q
    (fun E HZ Q' => HZ f = some (LamO f c' ⟨X.env.qual ++ "<lambda>", body, scope, cloFrom X.env.cells scope.names []⟩) ∧ tG (Mx X) (RRes (Mx X)) fE (fun cls d _ H => E cls d H) σ HZ Q')
    (fun W' pn xe E p1 p2 tk hW => act_lam I L tk hW hr' (fun A outer s2 H2 hr2 => hbody A outer s2 H2 E f c' hr2 _ (takes_of (E₁ := fun e' s'' => L2.CX X.prog X.w outer H2 s2 E e' s'') rfl rfl rfl rfl)) hN0 T.hva T.hd T.hcd) hc hT
  exact ⟨t', ht'.nox, hq'⟩
theorem told_out {pos : Pos} (T : ToldC X.K X.mg x cn) {f : Addr} {Q : VK} (I : Inv X pins σ H s) {E : Value → Shared → Prop} (run : codeAny (model X.prog X.w) X.A (.call (.ref T.g) ⟨[.ref f], []⟩) (CR C8.CX0 X.stack X.prog X.w H s Q C8.E0) s) :
    wpAny (model X.prog X.w) X.A (PySem.call (.ref T.g) [.ref f] []) (fun u s' => ∃ v H', Inv X pins σ H' s' ∧ RelV v u ∧ Q v H') E s := by
  refine wpAny_call (codeAny_mono run fun r s2 hq => ?_)
  match r with
  | .error e => exact (show False from hq).elim
  | .ok (.ret u) => exact I.after hq
  | .ok .next => exact False.elim hq
  | .ok .brk => exact False.elim hq
  | .ok .cont => exact False.elim hq
/-- told(lambda: e) -/
theorem se_told (T : ToldC X.K X.mg x cn) {c P : Addr} {body : Expr} {scope : Scope} {k kX : Nat} {p lpos pos : Pos} (rm : Rm X kX) (hk2 : k + 2 ≤ kX) (hg : Gl X x) (TB : LamX.TabB X.base X.mg c P) (hcode : X.env.code = .ref c) (hmT : (P, X.env.qual ++ "<lambda>") ∈ Tb.T)
    (L : LamX.LamS X.env.scope scope) (hbody : SLam X k scope body fE) : SE X (.Call (.Name x p) [.Lambda noArgs body scope lpos] [] pos) (eTold cn fE) := by
  refine fun W tk => ⟨fun pins s σ H Q I h => ?_⟩
  obtain ⟨st, τ, rel, post⟩ := h
  refine wpAny_Call_Name_kw (ld_glob I hg T.hm ?_ T.hdb)
  refine PySem.W.callWith_K (h₀ := X.base) I.ok.mod.kin T.hk ?_ (by rfl) (by rfl)
  show wpAny _ _ (spliced ((false, eval (.Lambda noArgs body scope lpos) X.env) :: backTo pos (starEach [] X.env))) _ _ s
  refine Calls.spliced_cons (lam_made I rel TB hcode hmT (L.has I.ok) fun f c' H1 τ1 s' I1 ev1 rel1 _ hf _ hc => ?_)
  exact Calls.spliced_nil ⟨I1.kIn, told_out (pos := pos) T I1 (told_run T I1 (rm.room.mono hk2) L rel1 hf hc ev1 hbody post)⟩
end
end Sv

/-! Sv, part N: lambdas as values; enumerate. -/
namespace Sv
open PySem PySem.Spec PyProof.Rows L2
variable [Tb]

/-! ### a lambda that captures nothing, as a value -/
theorem clo_closed {cells : List (Str × Addr)} : ∀ {names : List (Str × NameKind)} {acc : List (Str × Addr)}, (∀ y ∈ names, y.2 ≠ .free) → cloFrom cells names acc = acc
  | [], _, _ => rfl
  | (n, k) :: r, acc, h => by
    have hk : k ≠ .free := h (n, k) List.mem_cons_self
    have e : (k == NameKind.free) = false := by cases k <;> first | rfl | exact absurd rfl hk
    unfold cloFrom
    rw [e]
    exact clo_closed fun y hy => h y (List.mem_cons_of_mem _ hy)
def closedB (scope : Scope) : Bool := scope.names.all fun y => !decide (y.2 = .free)
theorem closed_by {scope : Scope} (h : closedB scope = true) : ∀ y ∈ scope.names, y.2 ≠ .free := by
  unfold closedB at h
  simpa using h
def eToldV (cn : Str) (n : Nat) (G : Nat → S → R Res) (fa : S → R Res) : S → R Res := fun s => (fa s).bind fun r s => match r with
  | .val (.lam i) => if i < n then eTold cn (G i) s else .stuck
  | _ => .stuck
section
variable {X : Cx} {x cn : Str}
theorem se_lam {c P : Addr} {body : Expr} {scope : Scope} {n : Nat} {pos : Pos} (TB : LamX.TabB X.base X.mg c P) (hcode : X.env.code = .ref c) (hmT : (P, X.env.qual ++ "<lambda>") ∈ Tb.T) (cl : closedB scope = true)
    (hL : Tb.L n = ⟨X.env.qual ++ "<lambda>", body, scope, []⟩) : SE X (.Lambda noArgs body scope pos) (eC (.lam n)) := fun W tk => ⟨fun pins s σ H Q I ⟨st, τ, rel, post⟩ => by
  have cl := closed_by cl
  refine lam_made I rel TB hcode hmT (fun y hy e => absurd e (cl y hy)) fun f c' H1 τ1 s' I1 ev1 rel1 t1 hf t2 hc => ?_
  rw [clo_closed cl] at hf
  refine ⟨.ref f, H1, I1, rfl, post (.ref f) τ1 H1 ev1 rel1 (.lam t1 ?_ t2 ?_)⟩
  · show H1 f = some (LamO f c' (Tb.L n))
    rw [hL]; exact hf
  · show H1 c' = some (LamX.CodeO c' (Tb.L n).q)
    rw [hL]; exact hc⟩
/-- told(e), e a lambda of the table -/
theorem se_toldV (T : ToldC X.K X.mg x cn) {e : Expr} {fa : S → R Res} {n k kX : Nat} {G : Nat → S → R Res} {p pos : Pos} (rm : Rm X kX) (hk2 : k + 2 ≤ kX) (hg : Gl X x) (he : SE X e fa)
    (hL : ∀ i, i < n → (Tb.L i).q = X.env.qual ++ "<lambda>" ∧ (Tb.L i).cl = [] ∧ closedB (Tb.L i).scope = true ∧ LamX.LamS X.env.scope (Tb.L i).scope ∧ SLam X k (Tb.L i).scope (Tb.L i).body (G i))
    (hst : starEach [e] X.env = (false, eval e X.env) :: starEach [] X.env := by rfl) : SE X (.Call (.Name x p) [e] [] pos) (eToldV cn n G fa) := by
  refine fun W tk => ⟨fun pins s σ H Q I h => ?_⟩
  obtain ⟨st, τ, rel, post⟩ := h
  refine wpAny_Call_Name_kw (ld_glob I hg T.hm ?_ T.hdb)
  refine PySem.W.callWith_K (h₀ := X.base) I.ok.mod.kin T.hk ?_ hst (by rfl)
  rw [hst]
  show wpAny _ _ (spliced ((false, eval e X.env) :: backTo pos (starEach [] X.env))) _ _ s
  have g := run1 (R1 := RRes (Mx X)) (C := fun v H1 => ∃ st τ1 i f, v = .ref f ∧ i < n ∧ Evo τ H τ1 H1 ∧ Rel (Mx X) st τ1 σ H1 ∧ Rp (Mx X) τ1 H1 (.lam i) (.ref f) ∧ Post (Mx X) (RRes (Mx X)) σ τ H (eTold cn (G i) st) Q W) (.refl _ _) rel post fun r s2 v τ2 H2 ev2 rel2 r2 p2 => by
    split at p2
    · rename_i i
      split at p2
      · rename_i hi
        have r2 : Rp (Mx X) τ2 H2 (.lam i) v := r2
        cases r2 with
        | lam a b c d => exact ⟨s2, τ2, i, _, rfl, hi, ev2, rel2, .lam a b c d, p2⟩
      · exact p2.elim
    · exact p2.elim
  refine Calls.spliced_cons (thn ((he W tk).run pins s σ H _ I g) fun u s1 ⟨v, H1, I1, r1, q1⟩ => ?_)
  obtain ⟨st1, τ1, i, f, rfl, hi, ev1, rel1, rp, p1⟩ := q1
  obtain rfl : u = Value.ref f := r1
  refine Calls.spliced_nil ⟨I1.kIn, ?_⟩
  cases rp with
  | lam _ hf _ hc =>
    obtain ⟨k1, k2, k3, k4, k5⟩ := hL i hi
    have hf : H1 f = some (LamO f _ (Tb.L i)) := hf
    have e2 : Tb.L i = ⟨X.env.qual ++ "<lambda>", (Tb.L i).body, (Tb.L i).scope, cloFrom X.env.cells (Tb.L i).scope.names []⟩ := by
      rw [clo_closed (closed_by k3), ← k1, ← k2]
    rw [e2] at hf
    have hc : H1 _ = some (LamX.CodeO _ (Tb.L i).q) := hc
    rw [k1] at hc
    exact told_out (pos := pos) T I1 (told_run T I1 (rm.room.mono hk2) k4 rel1 hf hc ev1 k5 p1)
end

/-! ### enumerate -/
theorem meets_enum1 {v : Value} {o : Obj} {Hh : Heap → Prop} (B : Begins v o Hh) :
    Meets (Builtin.«enumerate.__new__» ⟨[.type "enumerate", v], []⟩) (fun _ R s => Hh s.heap ∧
      R (.ok (.ret (.ref (s.heap.push o).objs.size))) { s with heap := (s.heap.push o).push { cls := .type "enumerate", data := .fields #[.none, .bool false, .ref s.heap.objs.size, rawInt 0, .none, .none] } }) :=
  .of_wp fun P w A R s ⟨h1, h⟩ => by
    obtain ⟨hp, g, d, tk, os⟩ := s
    have hsub := PySem.sub_enumerate
    have step : ∀ {A' : Around} {E Q : Value → Shared → Prop}, Q (.ref hp.objs.size) ⟨hp.push o, g, d, tk, os⟩ → wpAny (model P w) A' (pyIter v) Q E ⟨hp, g, d, tk, os⟩ := fun q => B.iter P w _ _ ⟨hp, g, d, tk, os⟩ _ h1 q
    wp_walk using step
    refine wpAny_stack_any fun st => wpAny_pure ?_
    split
    · rename_i c _ _ _ _ _
      cases (c == Value.type "enumerate") <;> (wp_walk using step; exact ⟨_, rfl, h⟩)
    · wp_walk using step
      exact ⟨_, rfl, h⟩
theorem enum_made {P : Program} {w : World} {A : Around} {E : Value → Shared → Prop} {s : Shared} {v : Value} {o : Obj} {Hh : Heap → Prop} {Q : Value → Shared → Prop} (B : Begins v o Hh) (h1 : Hh s.heap)
    (h : ∀ h', IsEnum h' (s.heap.objs.size + 1) s.heap.objs.size 0 .none → h'.get? s.heap.objs.size = some o → (∀ b o, s.heap.get? b = some o → h'.get? b = some o) → Q (.ref (s.heap.objs.size + 1)) { s with heap := h' }) :
    wpAny (model P w) A (PySem.call (.type "enumerate") [v]) Q E s := by
  refine callType_new F.called_enumerate (by decide) (F.typeCall_enumerate_1 _) (F.newCall_enumerate_1 _) (fun obj => F.args_object_init_2 obj _) F.entry_enumerate_new (meets_enum1 B) ⟨h1, ?_⟩
  have hz : (s.heap.push o).objs.size = s.heap.objs.size + 1 := Heap.size_push ..
  show _ ∧ _
  rw [hz]
  have he := Heap.get?_push_size (s.heap.push o) (o := { cls := .type "enumerate", data := .fields #[.none, .bool false, .ref s.heap.objs.size, rawInt 0, .none, .none] }) rfl
  rw [hz] at he
  exact ⟨⟨_, he, rfl⟩, h _ he (Heap.get?_push_of_some _ (Heap.get?_push_size _ B.free)) fun b o x => Heap.get?_push_of_some _ (Heap.get?_push_of_some _ x)⟩
/-- the tuple at a, each item in a new pair -/
def Itet (K : PySem.W.Frag) (a : Addr) : It :=
  ⟨fun i H => ∃ (xs : List V) (x : V), SqT K H a xs ∧ xs[i]? = some x, fun i H v H' => ∃ T x, v = .ref T ∧ H T = none ∧ H' = upd H T (.tup [.int (i : Nat), x]) ∧ ∀ xs, SqT K H a xs → xs[i]? = some x, fun i H => ∃ xs : List V, SqT K H a xs ∧ xs.length ≤ i⟩
theorem enumT_end {P : Program} {w : World} {A : Around} {E : Value → Shared → Prop} {s : Shared} {e it a : Addr} {i : Nat} {old : Value} {items : Array Value} {Q : Option Value → Shared → Prop} (hh : A.handled = none) (he : IsEnum s.heap e it ((i : Nat) : Int) old) (hit : s.heap.IsTupleIter it a i) (ht : s.heap.IsTuple a items) (hx : items[i]? = none)
    (hQ : ∀ h', Heap.ExtBut it s.heap h' → Q none { s with heap := h' }) : wpAny (model P w) A (pyNext (.ref e)) Q E s := by
  refine wpAny_pyNext_enum_endD (fp := [it, a]) (n := i) (P := fun _ _ => True) (St := fun j h => j = i ∧ h.IsTupleIter it a i ∧ h.IsTuple a items) ⟨fun j h st => ?_, fun j h h' st hk => ?_, fun j s Q E hj st _ => ?_, fun s Q E st hE => ?_⟩ he ⟨rfl, hit, ht⟩ hQ
  · obtain ⟨o, ho, _⟩ := st.2.1
    exact ⟨o, ho⟩
  · exact ⟨st.1, st.2.1.at fun o e => hk it (by simp) o e, st.2.2.at fun o e => hk a (by simp) o e⟩
  · have := st.1; omega
  · exact wpAny_nextOf_tuple_end (A := A.in1) hh st.2.1 st.2.2 hx hE
theorem turn_enumT {P : Program} {w : World} {K : PySem.W.Frag} {elts : List Expr} {kk : Nat} {tpos : Pos} (a e it : Addr) :
    Turn P w K (.Tuple elts kk tpos) (Itet K a) [e, it] e (fun i h => ((∃ old, IsEnum h e it ((i : Nat) : Int) old) ∧ h.IsTupleIter it a i) ∧ e ≠ it ∧ a ≠ it ∧ e ≠ a) where
  mem := by simp
  obj := fun i h st b hb => by
    obtain ⟨⟨⟨old, he⟩, o, ho, hc, hd⟩, _⟩ := st
    rcases (by simpa using hb : b = e ∨ b = it) with z | z <;> subst z
    · exact ⟨_, he, fun v q => nomatch q⟩
    · exact ⟨o, ho, fun v q => by rw [hd] at q; cases q⟩
  keep := fun i h h' st k => let ⟨⟨⟨old, he⟩, hi⟩, hne⟩ := st; ⟨⟨⟨old, k e (by simp) _ he⟩, hi.at fun o q => k it (by simp) o q⟩, hne⟩
  item := by
    intro X hP hw hK hc i pins s σ H E I hf st hg
    subst hP hw hK
    obtain ⟨⟨⟨old, he⟩, hit⟩, hne, hna, hea⟩ := st
    obtain ⟨xs, x, hq, hx⟩ := hg
    obtain ⟨its, rv, p, hz⟩ := I.tuple hq
    obtain ⟨u, hu, ru⟩ := rv.get hx
    have hel := Heap.lt_size he
    have hil : it < s.heap.objs.size := let ⟨_, q, _⟩ := hit; Heap.lt_size q
    have pt : s.heap.IsTuple a its.toArray := p
    have hiu : i < its.toArray.size := by
      have := (List.getElem?_eq_some_iff.mp hu).1
      simpa using this
    refine wpAny_pyNext_enum_itemD (Draws.tuple (A := X.A.in1) (show X.A.in1.handled = none from I.ok.hd hc) it a hna its.toArray) he ⟨hit, pt⟩ hiu hne (by simp [hne, hea]) fun x' h' tk hx' ho hst hT hsz hk => ?_
    have ex : x' = u := by
      have z : its.toArray[i]? = some x' := hx'
      rw [List.getElem?_toArray, hu] at z
      exact (Option.some.inj z).symm
    subst ex
    refine ⟨_, rfl, wpAny_letOwnedTupleGo_enum (s := { s with heap := h', toks := tk + 1 }) ho fun h'' he' sb => ?_⟩
    have hT2 := (sb.2 _ (Nat.ne_of_gt hel)).trans hT
    have new : ObjOk X.prog X.w (upd H s.heap.objs.size (.tup [.int (i : Nat), x])) h'' s.heap.objs.size (.tup [.int (i : Nat), x]) :=
      ⟨by show 2 ≤ sizeLine; decide, [.int i tk, x'], .cons ⟨_, rfl⟩ (.cons ru .nil), ⟨_, hT2, rfl, _, rfl⟩⟩
    have I1 : Inv X pins σ (upd H s.heap.objs.size (.tup [.int (i : Nat), x])) { s with heap := h'', toks := tk + 1 } :=
      I.turnedNew (ch := [e, it]) (fun b ob hb q => (sb.2 b (fun z => hb (by simp [z]))).trans (hk b ob (fun z => hb (by simp [z])) (fun z => hb (by simp [z])) q)) hf (Nat.le_refl _) new
    refine ⟨.ref s.heap.objs.size, _, I1, rfl, ⟨_, x, rfl, I.hok.fresh (Nat.le_refl _), rfl, fun ys hy => by rw [I.tuple_inj hy hq]; exact hx⟩, ⟨⟨⟨x', ?_⟩, hst.1.at fun o q => (sb.2 it (Ne.symm hne)).trans q⟩, hne, hna, hea⟩, fun b hb => ?_⟩
    · rw [show ((i + 1 : Nat) : Int) = (i : Int) + 1 by omega]; exact he'
    · have hb' : b < s.heap.objs.size := by rcases (by simpa using hb : b = e ∨ b = it) with z | z <;> subst z <;> assumption
      rw [upd_ne (Nat.ne_of_lt hb')]
      exact (hf b hb).1
  done := by
    intro X hP hw hK hc i pins s σ H E I hf st hg
    subst hP hw hK
    obtain ⟨⟨⟨old, he⟩, hit⟩, hne, hna, hea⟩ := st
    obtain ⟨xs, hq, hx⟩ := hg
    obtain ⟨its, rv, p, hz⟩ := I.tuple hq
    obtain ⟨f0, f1, f2, f3, f4, f5⟩ := hf it (by simp)
    have hl := rv.length
    exact enumT_end (I.ok.hd hc) he hit p (by simp; omega) fun h' eb => ⟨rfl, I.turned (t' := s.toks) (fun b o hb q => eb b o hb q) f0 f1 f3 f4 f5⟩
  self := fun A i s Q E st h => let ⟨⟨⟨_, he⟩, _⟩, _⟩ := st; wpAny_pyIter_enum he h
def iEnumT (K : PySem.W.Frag) (ta : TA) : TI := fun σ H R => ta σ H fun vs H1 => ∃ a xs, vs = [.ref a] ∧ SqT K H1 a xs ∧ R (Itet K a) H1
theorem pi_enumT {X : Cx} {e : Expr} {ta : TA} {p pos tpos : Pos} {elts : List Expr} {kk : Nat} (hg : Gl X "enumerate") (hm : X.mg "enumerate" = none) (ha : PA X [e] ta) (hs : starEach [e] X.env = [(false, eval e X.env)] := by rfl) :
    PI X (.Tuple elts kk tpos) (.Call (.Name "enumerate" p) [e] [] pos) (iEnumT X.K ta) := by
  refine ⟨fun pins s σ H R I h => ?_⟩
  refine Call_ (ld_blt I hg hm boot_enumerate (PyProof.Rows.callWith_type1 (thn (ha.run pos pins s σ H _ I h) fun us s1 ⟨vs, H1, I1, r1, a, xs, ex, hq, q⟩ => ?_) hs rfl))
  subst ex
  obtain ⟨u, rfl, ru⟩ : ∃ u, us = [u] ∧ RelV (.ref a) u := by
    cases r1 with
    | cons r rr => cases rr; exact ⟨_, rfl, r⟩
  obtain rfl : u = Value.ref a := ru
  obtain ⟨its, rv, p', hz⟩ := I1.tuple hq
  have pt : s1.heap.IsTuple a its.toArray := p'
  have hal : a < s1.heap.objs.size := let ⟨_, q, _⟩ := pt; Heap.lt_size q
  refine enum_made (begins_tuple a its.toArray) pt fun h' he hit hk => wpAny_pyIter_enum he ?_
  have I2 : Inv X pins σ H1 { s1 with heap := h' } := I1.kept (t' := s1.toks) hk
  refine ⟨s1.heap.objs.size + 1, [s1.heap.objs.size + 1, s1.heap.objs.size], _, _, H1, rfl, I2, turn_enumT a (s1.heap.objs.size + 1) s1.heap.objs.size, ⟨⟨⟨.none, he⟩, ⟨_, hit, rfl, rfl⟩⟩, Nat.succ_ne_self _, Nat.ne_of_lt hal, Nat.ne_of_gt (Nat.lt_succ_of_lt hal)⟩, fun b hb => ?_, q⟩
  have hle : s1.heap.objs.size ≤ b := by
    rcases (by simpa using hb : b = s1.heap.objs.size + 1 ∨ b = s1.heap.objs.size) with z | z <;> rw [z]
    · exact Nat.le_add_right _ _
    · exact Nat.le_refl _
  exact I1.fpOk hle (I1.hok.fresh hle)
section
variable {M : Md} {H : Hp} {τ : Tg}
def enumT (i : Nat) : List T → List T
  | [] => []
  | t :: ts => .tup [.int (i : Nat), t] :: enumT (i + 1) ts
theorem enumT_get : ∀ {ts : List T} {k i : Nat}, (enumT k ts)[i]? = (ts[i]?).map fun t => .tup [.int ((k + i : Nat) : Int), t]
  | [], _, _ => by simp [enumT]
  | t :: ts, k, 0 => by simp [enumT]
  | t :: ts, k, i + 1 => by
    have e : k + 1 + i = k + (i + 1) := by omega
    simp only [enumT, List.getElem?_cons_succ]
    rw [enumT_get, e]
theorem enumT_length : ∀ {ts : List T} {k : Nat}, (enumT k ts).length = ts.length
  | [], _ => rfl
  | t :: ts, k => by simp [enumT, enumT_length]
theorem walks_enumL {a : Addr} {vs : List V} {ts : List T} (h : LstAt M τ H a vs) (r : Rps M τ H ts vs) : Walks M (Ite M.K a) (enumT 0 ts) τ H := fun i τ2 H2 kp => by
  have h2 := (h.mono kp).sq
  refine ⟨fun hi => ⟨vs, h2, by rw [← r.length]; rw [enumT_length] at hi; exact hi⟩, fun t ht => ?_⟩
  rw [enumT_get, Nat.zero_add] at ht
  cases q : ts[i]? with
  | none => rw [q] at ht; cases ht
  | some t0 =>
    rw [q] at ht
    cases ht
    obtain ⟨v, e1, e2⟩ := r.get q
    refine ⟨⟨vs, v, h2, e1⟩, fun x H' y => ?_⟩
    obtain ⟨p, x0, rfl, hp, rfl, hy⟩ := y
    have := hy vs h2
    rw [e1] at this
    cases this
    exact .inr ⟨p, _, rfl, hp, rfl, rfl, _, rfl, .cons (.int _) (.cons (e2.mono kp) .nil)⟩
theorem walks_enumT {a : Addr} {vs : List V} {ts : List T} (h : TupAt M τ H a vs) (r : Rps M τ H ts vs) : Walks M (Itet M.K a) (enumT 0 ts) τ H := fun i τ2 H2 kp => by
  have h2 := (h.mono kp).sq
  refine ⟨fun hi => ⟨vs, h2, by rw [← r.length]; rw [enumT_length] at hi; exact hi⟩, fun t ht => ?_⟩
  rw [enumT_get, Nat.zero_add] at ht
  cases q : ts[i]? with
  | none => rw [q] at ht; cases ht
  | some t0 =>
    rw [q] at ht
    cases ht
    obtain ⟨v, e1, e2⟩ := r.get q
    refine ⟨⟨vs, v, h2, e1⟩, fun x H' y => ?_⟩
    obtain ⟨p, x0, rfl, hp, rfl, hy⟩ := y
    have := hy vs h2
    rw [e1] at this
    cases this
    exact .inr ⟨p, _, rfl, hp, rfl, rfl, _, rfl, .cons (.int _) (.cons (e2.mono kp) .nil)⟩
end
/-- enumerate(e) -/
def iEnu (f : S → R Res) : S → R (List T) := fun s => (f s).bind fun r s => match frz s r with
  | some (.lst ts, s) => .ok (enumT 0 ts) s
  | some (.tup ts, s) => .ok (enumT 0 ts) s
  | _ => .stuck
section
variable {X : Cx} {e : Expr} {f : S → R Res} {p pos tpos : Pos} {elts : List Expr} {kk : Nat}
theorem si_enum (hg : Gl X "enumerate") (hm : X.mg "enumerate" = none) (he : SE X e f) (hs : starEach [e] X.env = [(false, eval e X.env)] := by rfl) (hs2 : starEach [e] X.env = (false, eval e X.env) :: starEach [] X.env := by rfl) :
    SI X (.Tuple elts kk tpos) (.Call (.Name "enumerate" p) [e] [] pos) (iEnu f) := fun W tk =>
  PI.imp (PI.or (pi_enum hg hm (pa_cons (he W tk) pa_nil hs2) hs) (pi_enumT hg hm (pa_cons (he W tk) pa_nil hs2) hs)) fun σ H Q ⟨s, τ, rel, post⟩ => by
    unfold iEnu at post
    cases k : f s with
    | stuck => rw [k] at post; exact post.elim
    | exc c s1 => exact .inl ⟨s, τ, rel, by rw [k] at post ⊢; exact post⟩
    | ok r s1 =>
      rw [k] at post
      simp only [R.bind] at post
      split at post
      · rename_i ts s2 ef
        refine .inl ⟨s, τ, rel, ?_⟩
        rw [k]
        intro v τ' H' ev rel' rr
        obtain ⟨τ2, e1, e2, e3, e4⟩ := RelR.frz rel' ev rr ef
        cases e4 with
        | lst q1 q2 => exact ⟨_, _, rfl, q1.sq, post _ τ2 H' e1 e3 (walks_enumL q1 q2)⟩
      · rename_i ts s2 ef
        refine .inr ⟨s, τ, rel, ?_⟩
        rw [k]
        intro v τ' H' ev rel' rr
        obtain ⟨τ2, e1, e2, e3, e4⟩ := RelR.frz rel' ev rr ef
        cases e4 with
        | tup q1 q2 => exact ⟨_, _, rfl, q1.sq, post _ τ2 H' e1 e3 (walks_enumT q1 q2)⟩
      · exact post.elim
end
end Sv

/-! Sv, part O: sorted. -/
namespace Sv
open PySem PySem.Spec PyProof.Rows L2
variable [Tb]
section
variable {P : Program} {w : World} {A : Around} {E : Value → Shared → Prop} {s : Shared}
/-- the items of a tuple, in a new list -/
theorem collect_tup {l : Addr} {vs : List Value} {Q : List Value → Shared → Prop} (hl : s.heap.IsTuple l vs.toArray) (hsz : vs.length ≤ sizeLine)
    (h : Q vs { s with heap := (s.heap.push (seqObj "list" #[] 0)).update s.heap.objs.size (Obj.mapSeq (· ++ vs.toArray)) }) : wpAny (model P w) A (collect (.ref l)) Q E s := by
  obtain ⟨o, ho, hc, n, hd⟩ := id hl
  have ho' := Heap.get?_push_of_some (seqObj "list" #[] 0) ho
  unfold collect
  refine wpAny_bind (wpAny_runValue (codeAny_builtin entry_proto_collect' ?_))
  show wpAny _ _ (do again (.builtin "list.__iadd__" ⟨[← newList [], .ref l], []⟩)) _ _ s
  refine wpAny_bind (wpAny_newList (wpAny_pure ⟨Code.quiet_builtin _ (by decide +kernel), codeAny_builtin entry_list_iadd' ?_⟩))
  show wpAny _ _ (Builtin.List.listExtendWith (.ref s.heap.objs.size) (.ref l) (.ref s.heap.objs.size)) _ _ { s with heap := s.heap.push (seqObj "list" #[] 0) }
  unfold Builtin.List.listExtendWith
  refine wpAny_bind (wpAny_typeOf (T := "tuple") ⟨o, ho', hc⟩ ?_)
  rw [if_pos (by have ht : (Value.type "tuple" == Value.type "tuple") = true := by rfl
                 rw [ht]; simp)]
  refine wpAny_bind (listItems_at ho' hd (wpAny_bind (listItems_at (xs := #[]) (n := 0) (Heap.get?_push_size _ rfl) rfl ?_)))
  rw [if_neg (by simp)]
  refine wpAny_bind (listUpdate_at (xs := #[]) (n := 0) (Heap.get?_push_size _ rfl) rfl (wpAny_pure ?_) (Nat.zero_le _) (by simp only [Array.size_append, List.size_toArray, List.length_nil]; omega))
  show wpAny (model P w) A (do
      let o ← load s.heap.objs.size
      match o.data with
      | .seq xs _ => pure xs.toList
      | _ => unsupported "internal:collect") Q E _
  refine wpAny_bind (wpAny_load (get?_update_seq (Heap.get?_push_size _ rfl) _) ?_)
  show wpAny _ _ (pure ((#[] : Array Value) ++ vs.toArray).toList) Q E _
  have e : ((#[] : Array Value) ++ vs.toArray).toList = vs := by simp
  rw [e]
  exact wpAny_pure h
/-- sorted(a tuple) -/
theorem sorted_tup {κ : PyProof.Rows.KeyKind} {l : Addr} {vs : List Value} {Q : Value → Shared → Prop} (hl : s.heap.IsTuple l vs.toArray) (S : PySem.W.SortsAt P w A.in1.in1 { s with heap := PySem.W.sortingHeap (PySem.W.copyHeap s.heap vs) (s.heap.objs.size + 1) vs } κ vs) (hL : vs.length ≤ sizeLine)
    (h : Q (.ref (s.heap.objs.size + 1)) { s with heap := sortedAll s.heap vs (PySem.W.sortVals κ false vs vs).toArray }) : wpAny (model P w) A (PySem.call (.builtin "sorted") [.ref l]) Q E s := by
  refine Calls.call_function_entry kind_sorted plain_sorted entry_sorted (args_sorted1 _) ?_
  unfold Builtin.«sorted»
  refine wpAny_bind (m := checkCount "sorted" 1 1 _) (wpAny_pure (wpAny_bind (collect_tup hl hL (wpAny_bind (wpAny_newList ?_ hL)))))
  have hsz : ((s.heap.push (seqObj "list" #[] 0)).update s.heap.objs.size (Obj.mapSeq (· ++ vs.toArray))).objs.size = s.heap.objs.size + 1 := by rw [Heap.size_update, size_push']
  show wpAny _ _ _ _ _ { s with heap := PySem.W.copyHeap s.heap vs }
  rw [hsz]
  refine wpAny_bind (wpAny_holding (wpAny_call_entry slot_list_sort ⟨_, PySem.W.copyHeap_at s.heap vs, rfl⟩ entry_list_sort ?_ (args_list_sort _)))
  exact wpAny_mono (PySem.W.list_sort_vals (P := fun f s' => f = .done (.ret .none) ∧ Q (.ref (s.heap.objs.size + 1)) s') (s := { s with heap := PySem.W.copyHeap s.heap vs }) (PySem.W.copyHeap_at s.heap vs) S hL ⟨rfl, h⟩) (fun f s' ⟨e, q⟩ => ⟨_, e, wpAny_pure ⟨_, rfl, q⟩⟩) fun _ _ e => e
end

theorem Vals.of_each {β : Type} {val : β → V} : ∀ {us : List Value} {bs : List β}, PySem.W.EachIs (fun u b => RelV (val b) u) us bs → Vals (bs.map val) us
  | _, _, .nil => .nil
  | _, _, .cons h r => .cons h (Vals.of_each r)
theorem each_vals {β : Type} {val : β → V} {R : Value → β → Prop} : ∀ {us : List Value} {bs : List β}, Vals (bs.map val) us → (∀ u b, b ∈ bs → RelV (val b) u → R u b) → PySem.W.EachIs R us bs
  | _, [], h, _ => by cases h; exact .nil
  | _, b :: bs, h, k => by
    cases h with
    | cons h r => exact .cons (k _ b List.mem_cons_self h) (each_vals r fun u b hb => k u b (List.mem_cons_of_mem _ hb))
/-- sorted(xs), xs a list or a tuple of data that compare -/
def rSortD (K : PySem.W.Frag) : List V → Hp → VK → Prop := fun vs H Q => ∃ (a : Addr) (β : Type) (bs : List β) (val : β → V) (enc : β → PyData), vs = [.ref a] ∧ (SqL K H a (bs.map val) ∨ SqT K H a (bs.map val)) ∧ (∀ b ∈ bs, Dp K H (val b) (enc b)) ∧
  PySem.W.AllAlike (bs.map enc) ∧ PySem.W.Sortable (bs.map enc) ∧ (∀ b ∈ bs, (enc b).depth ≤ 60) ∧ ∀ p, H p = none → Q (.ref p) (upd H p (.lst ((bs.mergeSort (PySem.W.dataLe false enc)).map val)))
section
variable {X : Cx}
theorem cr_sortD (hu : X.A.units + 65 < cLine) : CallR X (.builtin "sorted") (rSortD X.K) := by
  intro pins s σ H vs us Q I r h
  obtain ⟨a, β, bs, val, enc, rfl, hs, hd, hal, hk, hdp, q⟩ := h
  rw [Vals.ref1 r]
  have hu2 : ∀ b, b ∈ bs → X.A.units + 2 + (enc b).depth < cLine := fun b hb => by have := hdp b hb; omega
  have fin : ∀ {its : List Value}, Vals (bs.map val) its → (bs.map val).length ≤ sizeLine → ∀ out : List Value, PySem.W.EachIs (fun u b => RelV (val b) u) out (bs.mergeSort (PySem.W.dataLe false enc)) → EP X pins σ Q (.ref (s.heap.objs.size + 1)) { s with heap := sortedAll s.heap its out.toArray } := fun {its} rv hz out ho => by
    obtain ⟨ep, he⟩ := PyProof.Rows.sortedAll_at s.heap its out.toArray
    have hl : ((bs.mergeSort (PySem.W.dataLe false enc)).map val).length ≤ sizeLine := by rw [List.length_map, List.length_mergeSort]; rw [List.length_map] at hz; exact hz
    exact ⟨.ref _, upd H (s.heap.objs.size + 1) (.lst ((bs.mergeSort (PySem.W.dataLe false enc)).map val)), I.laid (t' := s.toks) (fun _ _ => PyProof.Rows.sortedAll_old) (Nat.le_succ _) ⟨hl, out, ep, Vals.of_each ho, he⟩, rfl, q _ (I.hok.fresh (Nat.le_succ _))⟩
  rcases hs with hs | hs
  · obtain ⟨its, rv, hl, hz⟩ := I.list hs
    refine PySem.W.sorted_data (R := fun u b => RelV (val b) u) hl.isList (each_vals rv fun u b _ h => h) (each_vals rv fun u b hb h => Dp.reads I _ _ _ (hd b hb) h) hal hk (by rw [List.length_map] at hz; exact hz) hu2 fun out _ ho => fin rv hz out ho
  · obtain ⟨its, rv, hl, hz⟩ := I.tuple hs
    have hl' : s.heap.IsTuple a its.toArray := hl
    have e : PySem.W.EachIs (fun u b => RelV (val b) u) its bs := each_vals rv fun u b _ h => h
    have er : PySem.W.EachIs (fun u b => ∃ as, Reads (PySem.W.sortingHeap (PySem.W.copyHeap s.heap its) (s.heap.objs.size + 1) its) u (enc b) as) its bs := each_vals rv fun u b hb h => by
      obtain ⟨as, r⟩ := Dp.reads I _ _ _ (hd b hb) h
      exact ⟨as, PyProof.Rows.Reads.keeps (fun _ _ => PySem.W.sorting_copy_old) r⟩
    refine sorted_tup hl' (PySem.W.SortsAt.data (s := { s with heap := PySem.W.sortingHeap (PySem.W.copyHeap s.heap its) (s.heap.objs.size + 1) its }) (PySem.W.each_map (R := fun v d => ∃ as, Reads (PySem.W.sortingHeap (PySem.W.copyHeap s.heap its) (s.heap.objs.size + 1) its) v d as) enc er) hal hk (PySem.W.bound_map (A := X.A.in1.in1) hu2)) (by rw [← rv.length]; exact hz) ?_
    exact fin rv hz _ (PySem.W.sortVals_data false e er hal)
end
def noTup : PyData → Bool
  | .none => false
  | .tuple _ => false
  | _ => true
def conTup : PyData → Bool
  | .tuple (_ :: _) => true
  | _ => false
/-- sorted: the items are data of one kind -/
def sortOk (ts : List T) : Bool := T.shps 60 ts && ts.all (fun t => ts.all fun u => PySem.W.alike (T.dat t) (T.dat u)) && (ts.all (fun t => conTup (T.dat t)) || ts.all fun t => noTup (T.dat t))
def srt (ts : List T) : List T := ts.mergeSort (PySem.W.dataLe false T.dat)
def opSrt : T → Option (Bool × T)
  | .lst ts => if sortOk ts = true then some (true, .lst (srt ts)) else none
  | .tup ts => if sortOk ts = true then some (true, .lst (srt ts)) else none
  | _ => none
section
variable {M : Md} {τ : Tg} {H : Hp}
theorem Rps.dpEach : ∀ {ts : List T} {vs : List V}, Rps M τ H ts vs → T.shps 60 ts = true → ∀ b ∈ ts.zip vs, Dp M.K H b.2 (T.dat b.1) ∧ Rp M τ H b.1 b.2 ∧ (T.dat b.1).depth ≤ 60
  | _, _, .nil, _, b, hb => by simp at hb
  | _, _, .cons h r, k, b, hb => by
    rw [T.shps, Bool.and_eq_true] at k
    rw [List.zip_cons_cons] at hb
    rcases List.mem_cons.mp hb with z | z
    · subst z
      exact ⟨h.dp k.1, h, (T.shp_ok 60 _ k.1).2⟩
    · exact Rps.dpEach r k.2 b z
theorem zip_fst : ∀ {ts : List T} {vs : List V}, ts.length = vs.length → (ts.zip vs).map Prod.fst = ts
  | [], [], _ => rfl
  | t :: ts, v :: vs, h => by
    rw [List.zip_cons_cons, List.map_cons, zip_fst (by simpa using h)]
theorem zip_snd : ∀ {ts : List T} {vs : List V}, ts.length = vs.length → (ts.zip vs).map Prod.snd = vs
  | [], [], _ => rfl
  | t :: ts, v :: vs, h => by
    rw [List.zip_cons_cons, List.map_cons, zip_snd (by simpa using h)]
theorem Rps.of_pairs : ∀ {bs : List (T × V)}, (∀ b ∈ bs, Rp M τ H b.1 b.2) → Rps M τ H (bs.map Prod.fst) (bs.map Prod.snd)
  | [], _ => .nil
  | b :: bs, h => .cons (h b List.mem_cons_self) (Rps.of_pairs fun c hc => h c (List.mem_cons_of_mem _ hc))
theorem sort_pairs {ts : List T} {vs : List V} (r : Rps M τ H ts vs) (ok : sortOk ts = true) :
    (∀ b ∈ ts.zip vs, Dp M.K H b.2 (T.dat b.1)) ∧ PySem.W.AllAlike ((ts.zip vs).map fun b => T.dat b.1) ∧ PySem.W.Sortable ((ts.zip vs).map fun b => T.dat b.1) ∧ (∀ b ∈ ts.zip vs, (T.dat b.1).depth ≤ 60) ∧
      Rps M τ H (srt ts) (((ts.zip vs).mergeSort (PySem.W.dataLe false fun b => T.dat b.1)).map Prod.snd) := by
  unfold sortOk at ok
  simp only [Bool.and_eq_true, Bool.or_eq_true, List.all_eq_true] at ok
  obtain ⟨⟨h1, h2⟩, h3⟩ := ok
  have each := Rps.dpEach r h1
  have em : (ts.zip vs).map (fun b => T.dat b.1) = ts.map T.dat := by
    rw [show (fun b : T × V => T.dat b.1) = T.dat ∘ Prod.fst from rfl, ← List.map_map, zip_fst r.length]
  refine ⟨fun b hb => (each b hb).1, ?_, ?_, fun b hb => (each b hb).2.2, ?_⟩
  · rw [em]
    intro d hd d' hd'
    obtain ⟨t, ht, rfl⟩ := List.mem_map.mp hd
    obtain ⟨u, hu, rfl⟩ := List.mem_map.mp hd'
    exact h2 t ht u hu
  · rw [em]
    rcases h3 with h3 | h3
    · refine .inl fun d hd => ?_
      obtain ⟨t, ht, rfl⟩ := List.mem_map.mp hd
      have := h3 t ht
      revert this
      cases T.dat t with
      | tuple xs => cases xs with
        | nil => intro z; cases z
        | cons x r => intro _; exact ⟨x, r, rfl⟩
      | _ => intro z; cases z
    · refine .inr fun d hd => ?_
      obtain ⟨t, ht, rfl⟩ := List.mem_map.mp hd
      have := h3 t ht
      revert this
      cases T.dat t <;> intro z <;> first | (cases z; done) | exact ⟨by simp, by simp⟩
  · have e : srt ts = ((ts.zip vs).mergeSort (PySem.W.dataLe false fun b => T.dat b.1)).map Prod.fst := by
      rw [List.map_mergeSort (r := PySem.W.dataLe false fun b : T × V => T.dat b.1) (s := PySem.W.dataLe false T.dat) (f := Prod.fst) (fun a _ b _ => rfl), zip_fst r.length]
      rfl
    rw [e]
    exact Rps.of_pairs fun b hb => (each b (List.mem_mergeSort.mp hb)).2.1
theorem cg_sort : CallG1 M (rSortD M.K) opSrt := by
  intro τ H tx x b t Q hx hg g
  unfold opSrt at hg
  split at hg
  · rename_i ts
    split at hg <;> cases hg
    rename_i ok
    obtain ⟨a, vs, rfl, e1, r1⟩ := hx.lst
    obtain ⟨k1, k2, k3, k4, k5⟩ := sort_pairs r1 ok
    refine ⟨a, T × V, ts.zip vs, Prod.snd, fun b => T.dat b.1, rfl, .inl ?_, k1, k2, k3, k4, fun p hp => g.2 p _ hp ⟨_, rfl, k5⟩⟩
    rw [zip_snd r1.length]
    exact .inl (.inl e1)
  · rename_i ts
    split at hg <;> cases hg
    rename_i ok
    obtain ⟨a, vs, rfl, e1, r1⟩ := hx.tup
    obtain ⟨k1, k2, k3, k4, k5⟩ := sort_pairs r1 ok
    refine ⟨a, T × V, ts.zip vs, Prod.snd, fun b => T.dat b.1, rfl, .inr ?_, k1, k2, k3, k4, fun p hp => g.2 p _ hp ⟨_, rfl, k5⟩⟩
    rw [zip_snd r1.length]
    exact e1.sq
  · cases hg
end
theorem se_sort {X : Cx} {k : Nat} {e : Expr} {f : S → R Res} {p pos : Pos} (rm : Rm X k) (hG : Gl X "sorted") (hm : X.mg "sorted" = none) (he : SE X e f) (hs : starEach [e] X.env = (false, eval e X.env) :: starEach [] X.env := by rfl) :
    SE X (.Call (.Name "sorted" p) [e] [] pos) (eUn opSrt f) := se_callB1 (cr_sortD rm.u65) cg_sort hG hm (by decide +kernel) he (by decide) (by decide) hs
end Sv

/-! Sv, part P: what a generated text leans on. -/
namespace Sv
open PySem PySem.Spec PyProof.Rows L2
variable [Tb]

theorem Rm.blk {X : Cx} {k : Nat} (rm : Rm X k) {s : Shared} {H : Hp} {scope : Scope} {env : Env} {fp : List Addr} : Rm (X.blk s H scope env fp) k := ⟨rm.room, rm.calm, rm.nd⟩
def stuckF : Fn := fun _ _ => .stuck
/-- a def that is called by its name -/
structure Cal (P : Program) (w : World) (K : PySem.W.Frag) (mg : Str → Option Value) (base : Heap) (x : Str) (k n : Nat) (G : Fn) : Prop where
  ex : ∃ (f : Addr) (fd : FuncData) (ps : List Str), FnOk P w K mg base (L2.CX P w) k f fd ps (spF ⟨K, mg, Tb.T, Tb.L⟩ ps.length G) ∧ mg x = some (.ref f) ∧ PySem.W.keepIn K (.ref f) = true ∧ Binds K fd ps [] ∧ ps.length = n
  len : ∀ ts ob, ts.length ≠ n → G ts ob = .stuck
theorem Cal.mono {P : Program} {w : World} {K : PySem.W.Frag} {mg : Str → Option Value} {base : Heap} {x : Str} {k k' n : Nat} {G : Fn} (C : Cal P w K mg base x k n G) (h : k ≤ k') : Cal P w K mg base x k' n G := by
  obtain ⟨f, fd, ps, h1, h2⟩ := C.ex
  exact ⟨⟨f, fd, ps, h1.mono h, h2⟩, C.len⟩
/-- called a level too deep -/
theorem FnOk.stuck {P : Program} {w : World} {K : PySem.W.Frag} {mg : Str → Option Value} {base : Heap} {k : Nat} {f : Addr} {fd : FuncData} {ps : List Str} : FnOk P w K mg base (L2.CX P w) k f fd ps (spF ⟨K, mg, Tb.T, Tb.L⟩ ps.length stuckF) :=
  ⟨fun vs H Q E h => by obtain ⟨τ, ob, ts, _, _, _, _, h⟩ := h; exact h.elim, fun A outer s H args us vs Q E _ _ _ _ h => by obtain ⟨τ, ob, ts, _, _, _, _, h⟩ := h; exact h.elim⟩
section
variable {X : Cx} {x : Str} {e : Expr} {es : List Expr} {k n kX : Nat} {G : Fn} {fa : S → R (List T)} {p pos : Pos}
theorem se_callC (C : Cal X.prog X.w X.K X.mg X.base x k n G) (rm : Rm X kX) (hk : k ≤ kX) (hg : Gl X x) (ha : SA X (e :: es) fa) (hdb : (x == ("__debug__" : Str)) = false := by decide)
    (he : starEach (e :: es) X.env = (false, eval e X.env) :: starEach es X.env := by rfl) (hpl : (backTo pos (starEach es X.env)).any (·.1) = false := by rfl) : SE X (.Call (.Name x p) (e :: es) [] pos) (eCall G fa) := by
  obtain ⟨f, fd, ps, h1, h2, h3, h4, h5⟩ := C.ex
  exact se_call h1 rm hk hg h2 h3 h4 (by rw [h5]; exact C.len) ha hdb he hpl
/-- a name of the module that is a whole number -/
theorem se_gint {i : Int} (hm : ∃ t, X.mg x = some (.int i t)) (hg : Gl X x) (hd : (x == ("__debug__" : Str)) = false := by decide) : SE X (.Name x pos) (eC (.int i)) := by
  obtain ⟨t, ht⟩ := hm
  exact se_glob (v := .int i) hg ht ⟨t, rfl⟩ (fun _ _ => .int i) hd
/-- a def of the module, as a value -/
theorem se_gfn (C : Cal X.prog X.w X.K X.mg X.base x k n G) (hg : Gl X x) (hd : (x == ("__debug__" : Str)) = false := by decide) : SE X (.Name x pos) (eC (.gl x)) := by
  obtain ⟨f, fd, ps, h1, h2, _⟩ := C.ex
  exact se_gl hg h2 hd
/-- the value of a local name, called -/
def eCallV (i : Nat) (D : Str → Option Fn) (fa : S → R (List T)) : S → R Res := fun s => match s.sl[i]? with
  | some (some (false, .gl x)) => (match D x with
    | some G => eCall G fa s
    | none => .stuck)
  | _ => .stuck
theorem se_callV {i : Nat} {y : Str} {D : Str → Option Fn} (hD : ∀ x G, D x = some G → ∃ n, Cal X.prog X.w X.K X.mg X.base x k n G) (rm : Rm X kX) (hk : k ≤ kX) (hN : X.N[i]? = some y) (hv : Vis X.env.scope y) (ha : SA X (e :: es) fa)
    (hd : (y == ("__debug__" : Str)) = false := by decide) (hcd : (y == ("__classdict__" : Str)) = false := by decide)
    (he : starEach (e :: es) X.env = (false, eval e X.env) :: starEach es X.env := by rfl) (hpl : (backTo pos (starEach es X.env)).any (·.1) = false := by rfl) : SE X (.Call (.Name y p) (e :: es) [] pos) (eCallV i D fa) := fun W tk => ⟨fun pins s σ H Q I h => by
  obtain ⟨st, τ, rel, post⟩ := h
  unfold eCallV at post
  split at post
  · rename_i x hx
    split at post
    · rename_i G hG
      obtain ⟨n, C⟩ := hD x G hG
      obtain ⟨f, fd, ps, h1, h2, h3, h4, h5⟩ := C.ex
      obtain ⟨v, e1, e2⟩ := rel.rs.at_ i false _ hx
      have e2 : Rp (Mx X) τ H (.gl x) v := e2
      have ev : v = .ref f := by
        cases e2 with
        | gl k1 k2 =>
          have k1 : X.mg x = _ := k1
          rw [h2] at k1
          cases k1
          have k2 : RelV v (.ref f) := k2
          cases v with
          | ref a => cases k2; rfl
          | int i => obtain ⟨_, z⟩ := k2; cases z
          | str x => obtain ⟨_, z⟩ := k2; cases z
          | non => cases k2
          | bl b => cases k2
          | byt x => obtain ⟨_, z⟩ := k2; cases z
          | flt x => obtain ⟨_, z⟩ := k2; cases z
          | ty x => cases k2
      subst ev
      refine wpAny_Call_Name_kw (thn ((pe_var (pos := p) (i := i) hN hv hd hcd).run pins s σ H (fun v H1 => v = .ref f ∧ H1 = H) I ⟨_, e1, rfl, rfl⟩) fun u s1 ⟨v, H1, I1, r1, z1, z2⟩ => ?_)
      rw [z1] at r1
      rw [z2] at I1
      obtain rfl : u = Value.ref f := r1
      have pa := ha W tk
      have g := run1 (R1 := RTs (Mx X)) (C := fun vs H2 => spF (Mx X) ps.length G vs H2 Q (WE W σ)) (.refl _ _) rel post fun ts s2 vs τ2 H2 ev rel2 r1 p => call_spF rel2 r1 ev (by rw [h5]; exact C.len ts s2.ob) p
      refine PySem.W.callWith_K (h₀ := X.base) I1.ok.mod.kin h3 (thn (pa.run pos pins s1 σ H _ I1 g) fun us s2 ⟨vs, H2, I2, r, q⟩ => ⟨I2.kIn, ?_⟩) he hpl
      exact run_fnS h1 (rm.room.mono hk) h4 (passAt tk σ) I2 r q
    · exact post.elim
  · exact post.elim⟩
end
section
variable {P : Program} {w : World} {K : PySem.W.Frag} {mg : Str → Option Value} {base : Heap}
/-- a def of the module whose body is served -/
theorem cal_of {x : Str} {st : Stmt} {f : Addr} {fd : FuncData} {N ps : List Str} {k : Nat} {body : S → RS} (F : FunD K x x (defArgs st) (defBody st) (defScope st) [] [] f fd) (hm : mg x = some (.ref f)) (Sc : FnScope N ps (defScope st)) (hl : ps.length ≤ N.length)
    (hbd : ∀ (kV doc pm : Value) (an : Option Addr) (cdv ct : Value) (us : List Value), us.length = ps.length → bindArgs (PySem.W.fnOf x x (defArgs st) (defBody st) (defScope st) .none kV doc pm an cdv ct) ⟨us, []⟩ = pure (ps.zip us))
    (hb : ∀ (cdv : Value) (A : Around) (outer : List Env) (s : Shared) (H : Hp) (E : XK), Rm (cxOf (L2.CX P w) P w K mg base N x (defScope st) f cdv A outer s H E) k → PassesOwn (model P w) (A.deeper (envOfC x (defScope st) s.heap.objs.size f cdv)) (envOfC x (defScope st) s.heap.objs.size f cdv) (cxOf (L2.CX P w) P w K mg base N x (defScope st) f cdv A outer s H E).xe →
      SSs (cxOf (L2.CX P w) P w K mg base N x (defScope st) f cdv A outer s H E) (defBody st) body) : Cal P w K mg base x (k + 1) ps.length (mkFn ps.length N.length body) :=
  ⟨⟨f, fd, ps, fn_ok (He5.fun_of F) Sc hl hb, hm, F.kp, F.bindsN hbd, rfl⟩, mkFn_len⟩
theorem cal_stuck {x : Str} {st : Stmt} {f : Addr} {fd : FuncData} {ps : List Str} {k : Nat} (F : FunD K x x (defArgs st) (defBody st) (defScope st) [] [] f fd) (hm : mg x = some (.ref f))
    (hbd : ∀ (kV doc pm : Value) (an : Option Addr) (cdv ct : Value) (us : List Value), us.length = ps.length → bindArgs (PySem.W.fnOf x x (defArgs st) (defBody st) (defScope st) .none kV doc pm an cdv ct) ⟨us, []⟩ = pure (ps.zip us)) : Cal P w K mg base x k ps.length stuckF :=
  ⟨⟨f, fd, ps, FnOk.stuck, hm, F.kp, F.bindsN hbd, rfl⟩, fun _ _ _ => rfl⟩
end

section
variable {X : Cx} {elt tg iter : Expr} {ifs : List Expr} {scope : Scope} {own : List (Str × Nat)} {pos spos py : Pos} {fi : S → R (List T)} {g : T → S → R Unit} {c : S → R Bool} {e : S → R Res} {i : Nat} {y : Str}
/-- name = [..] on one line -/
theorem ss_setLc (hc : X.calm = true) (hN : X.N.Nodup) (hy : X.N[i]? = some y) (hyl : X.env.scope.names.lookup y = some .local) (hk : X.env.scope.kind = .function) (hln : (py.line == pos.line) = true) (han : (scope.names.any fun (n, k) => n == y && (k == .local || k == .cell)) = false)
    (hi : SI X tg iter fi) (ok : BlkOk X.N X.env.scope scope own)
    (hg : ∀ (s : Shared) (H : Hp) (C : Addr) (cl : List (Str × Addr)) (fp : List Addr), SGw (X.blk s H scope (compEnvC scope cl C X.env) fp) (own.map (·.2)) tg g)
    (ht : ∀ (s : Shared) (H : Hp) (C : Addr) (cl : List (Str × Addr)) (fp : List Addr), STs (X.blk s H scope (compEnvC scope cl C X.env) fp) ifs c)
    (he : ∀ (s : Shared) (H : Hp) (C : Addr) (cl : List (Str × Addr)) (fp : List Addr), SE (X.blk s H scope (compEnvC scope cl C X.env) fp) elt e) (hs : ∀ x, foldedSetIterable iter X.env x = pure x := by intro _; rfl) :
    SS X (.Assign [.Name y py] (.ListComp elt [⟨tg, iter, ifs, 0⟩] scope pos) spos) (sSet i (eLC (own.map (·.2)) fi g c e)) := fun W tk =>
  PS.imp (ps_setLc (g := tGw (Mx X) (List.map (fun x : Str × Nat => x.snd) own) g) (tt := tG (Mx X) RBool c fun _ _ _ _ => False) (te := tG (Mx X) (RRes (Mx X)) e fun _ _ _ _ => False) hc hN hy hyl (sw_true hk hyl hln han) (hi W tk) ok (fun s H C cl fp => hg s H C cl fp) (fun s H C cl fp => ht s H C cl fp _ takes0) (fun s H C cl fp => he s H C cl fp _ takes0) hs) fun D σ H ⟨s, τ, rel, post⟩ =>
    lc_run (M := Mx X) (W := W) (runS (R1 := RRes (Mx X)) (.refl _ _) rel post fun x s2 v τ2 H2 ev rel2 r1 p => set_run ev rel2 r1 p)
end

theorem slam {X : Cx} {k kX : Nat} {scope : Scope} {body : Expr} {fE : S → R Res} (rm : Rm X kX) (h : ∀ (A : Around) (outer : List Env) (s : Shared) (H : Hp) (E : XK) (f c' : Addr), Rm (LamX.lamCx X A outer s H E scope f c') k → SE (LamX.lamCx X A outer s H E scope f c') body fE) : SLam X k scope body fE :=
  fun A outer s H E f c' hr => h A outer s H E f c' ⟨hr, rfl, rm.nd⟩
section
variable {P : Program} {w : World} {K : PySem.W.Frag} {mg : Str → Option Value} {base : Heap}
/-- a def of the module with a code object that is known -/
theorem cal_ofC {x : Str} {st : Stmt} {fd : FuncData} {N ps : List Str} {k : Nat} {body : S → RS} {p : Str × Option Str} (F : FunD K x x (defArgs st) (defBody st) (defScope st) [] [] (He.fAd K p) fd) (hm : mg x = some (.ref (He.fAd K p))) (Sc : FnScope N ps (defScope st)) (hl : ps.length ≤ N.length)
    (hbd : ∀ (kV doc pm : Value) (an : Option Addr) (cdv ct : Value) (us : List Value), us.length = ps.length → bindArgs (PySem.W.fnOf x x (defArgs st) (defBody st) (defScope st) .none kV doc pm an cdv ct) ⟨us, []⟩ = pure (ps.zip us))
    (hb : ∀ (cdv : Value) (A : Around) (outer : List Env) (s : Shared) (H : Hp) (E : XK), cdv = .ref (He.cT K p).1 → Rm (cxOf (L2.CX P w) P w K mg base N x (defScope st) (He.fAd K p) cdv A outer s H E) k → PassesOwn (model P w) (A.deeper (envOfC x (defScope st) s.heap.objs.size (He.fAd K p) cdv)) (envOfC x (defScope st) s.heap.objs.size (He.fAd K p) cdv) (cxOf (L2.CX P w) P w K mg base N x (defScope st) (He.fAd K p) cdv A outer s H E).xe →
      SSs (cxOf (L2.CX P w) P w K mg base N x (defScope st) (He.fAd K p) cdv A outer s H E) (defBody st) body) : FnOk P w K mg base (L2.CX P w) (k + 1) (He.fAd K p) fd ps (spF ⟨K, mg, Tb.T, Tb.L⟩ ps.length (mkFn ps.length N.length body)) := by
  have F' := He5.fun_of F
  obtain ⟨oc, od, kV, doc, pm, an, cdv, ct, osl, e, lk, hcd⟩ := F'.ex
  subst e
  obtain ⟨c, ec⟩ := He.codeIn_ref hcd
  have e1 : cdv = .ref (He.cT K p).1 := by
    rw [ec]
    have := He.codeOf_eq lk (c := c) ec
    show Value.ref c = Value.ref (He.codeOf K p)
    rw [this]
  exact fn_okAt lk hcd Sc hl fun A outer s H E => hb cdv A outer s H E e1
end

/-! ### where a lambda stands -/
def eSub : Expr → Nat → Expr
  | .List es p, i => es.getD i (.List [] p)
  | .Tuple es _ p, i => es.getD i (.List [] p)
  | .BoolOp _ es p, i => es.getD i (.List [] p)
  | .Compare l _ cs _, i => (l :: cs).getD i l
  | .ListComp e gs _ _, i => (match gs with
    | g :: _ => if i = 0 then g.iter else e
    | [] => e)
  | .Call f as _ _, i => as.getD i f
  | .UnaryOp _ a _, _ => a
  | e, _ => e
def ePath (e : Expr) (p : List Nat) : Expr := p.foldl eSub e
def stE : Stmt → Expr
  | .Assign _ v _ => v
  | .Return (some v) _ => v
  | .Expr v _ => v
  | .If t _ _ _ => t
  | _ => .List [] ⟨0, 0, 0, 0⟩
def stB : Stmt → Nat → List Stmt
  | .If _ a b _, i => if i = 0 then a else b
  | .For _ _ a _ _, _ => a
  | .While _ a _ _, _ => a
  | _, _ => []
def lamLD (q : Str) : Expr → LD
  | .Lambda _ b s _ => ⟨q, b, s, []⟩
  | e => ⟨q, e, { kind := .function, names := [], isGenerator := false, isCoroutine := false, more := [] }, []⟩
theorem lamOk {X : Cx} {i k : Nat} {q : Str} {body : Expr} {scope : Scope} {fE : S → R Res} (h : Tb.L i = ⟨q, body, scope, []⟩) (hq : q = X.env.qual ++ "<lambda>") (cl : closedB scope = true) (L : LamX.LamS X.env.scope scope) (hb : SLam X k scope body fE) :
    (Tb.L i).q = X.env.qual ++ "<lambda>" ∧ (Tb.L i).cl = [] ∧ closedB (Tb.L i).scope = true ∧ LamX.LamS X.env.scope (Tb.L i).scope ∧ SLam X k (Tb.L i).scope (Tb.L i).body fE := by
  rw [h]
  exact ⟨hq, rfl, cl, L, hb⟩
theorem toldC_of {K : PySem.W.Frag} {mg : Str → Option Value} {x cn a : Str} {st : Stmt} {g CS : Addr} {fd : FuncData} {j : Nat} {p1 p2 p3 p4 p5 p6 p7 p8 : Pos} (F : FunD K x x (defArgs st) (defBody st) (defScope st) [] [] g fd) (hm : mg x = some (.ref g))
    (hst : defBody st = [.Try [.Return (some (.Call (.Name a p1) [] [] p2)) p3] [.ExceptHandler (some (.Name cn p4)) none [.Return (some (.Constant (.str cn) j p5)) p6] p7] [] [] p8]) (Sg : FnScope [a] [a] (defScope st)) (hva : Vis (defScope st) a)
    (hge : (defScope st).names.lookup cn = some .globalImplicit) (E : ExcF K mg cn CS)
    (hbd : ∀ (kV doc pm : Value) (an : Option Addr) (cdv ct : Value) (us : List Value), us.length = 1 → bindArgs (PySem.W.fnOf x x (defArgs st) (defBody st) (defScope st) .none kV doc pm an cdv ct) ⟨us, []⟩ = pure ([a].zip us))
    (hde : (cn == ("__debug__" : Str)) = false := by decide) (hd : (a == ("__debug__" : Str)) = false := by decide) (hcd : (a == ("__classdict__" : Str)) = false := by decide) (hdb : (x == ("__debug__" : Str)) = false := by decide) : Nonempty (ToldC K mg x cn) := by
  have F' := He5.fun_of F
  obtain ⟨oc, od, kV, doc, pm, an, cdv, ct, osl, e, lk, hcd2⟩ := F'.ex
  have hb := F.bindsN (ps := [a]) fun kV doc pm an cdv ct us hl => hbd kV doc pm an cdv ct us hl
  subst e
  rw [hst] at lk hb
  exact ⟨⟨g, CS, a, [a], defArgs st, defScope st, .none, kV, doc, pm, cdv, ct, oc, an, od, osl, j, p1, p2, p3, p4, p5, p6, p7, p8, hm, F.kp, lk, hcd2, hb, Sg, rfl, hva, hge, E.g, hde, E.m, hd, hcd, hdb⟩⟩
theorem excF_of {K : PySem.W.Frag} {mg : Str → Option Value} {h : Heap} (X : K.In h) (G : h.Ns mainGlobals mg) {x : Str} (c1 : (He.Fa.glo x).ok K = true) (c2 : (He.Fa.exc x).ok K = true) (c3 : (He.Fa.exm x x true).ok K = true) : ExcF K mg x (He.ga K x) := by
  obtain ⟨a, b, d, e⟩ := He.exc_ok c2
  exact ⟨He.glo_ok X G c1, a, b, d, e, He.exm_ok c3⟩
end Sv

/-! Sv, part Q: a law's end. -/
namespace Sv
open PySem PySem.Spec PyProof.Rows L2
open Classical in
noncomputable def tau0 (P a : Addr) (q : Str) (H : Hp) : Tg := fun b => if b = P then .tb q else if b = a ∧ H a ≠ none then .frz else .free
theorem tau0_c {P a : Addr} {q : Str} {H : Hp} (b : Addr) : (tau0 P a q H b = .tb q ∧ b = P) ∨ (tau0 P a q H b = .frz ∧ b = a ∧ H a ≠ none) ∨ tau0 P a q H b = .free := by
  unfold tau0
  split
  · rename_i e; exact .inl ⟨rfl, e⟩
  · split
    · rename_i e; exact .inr (.inl ⟨rfl, e⟩)
    · exact .inr (.inr rfl)
theorem sp_law {K : PySem.W.Frag} {mg : Str → Option Value} {P a : Addr} {q : Str} {L : Nat → LD} {H : Hp} {ns : List Int} {G : Fn} {ob : List OV} (hP : H P = some (.tbl #[])) (hS : SqL K H a (ns.map V.int)) (hG : G [.scr ns] [] = .ok false (.bl true) ob) :
    spF ⟨K, mg, [(P, q)], L⟩ 1 G [.ref a] H (fun v _ => v = .bl true) fun _ _ _ => False := by
  have no : ∀ b g, tau0 P a q H b = g → (g ≠ .tb q ∧ g ≠ .frz ∧ g ≠ .free) → False := fun b g e n => by
    rcases tau0_c (P := P) (a := a) (q := q) (H := H) b with ⟨h, _⟩ | ⟨h, _⟩ | h
    · exact n.1 (e.symm.trans h)
    · exact n.2.1 (e.symm.trans h)
    · exact n.2.2 (e.symm.trans h)
  refine ⟨tau0 P a q H, [], [.scr ns], fun b i z => no b _ z (by simp), ⟨fun b r z => (no b _ z (by simp)).elim, fun b c r z _ => (no b _ z (by simp)).elim, fun b z => ?_, ⟨fun p hp => ?_, fun b q' z => ?_, trivial⟩⟩, .cons (.scr ?_) .nil, rfl, ?_⟩
  · rcases tau0_c (P := P) (a := a) (q := q) (H := H) b with ⟨_, h⟩ | ⟨_, h, h2⟩ | h
    · rw [h, hP]; simp
    · rw [h]; exact h2
    · exact absurd h z
  · obtain rfl := List.mem_singleton.mp hp
    exact if_pos rfl
  · rcases tau0_c (P := P) (a := a) (q := q) (H := H) b with ⟨h, h2⟩ | ⟨h, h1, h2⟩ | h
    · rw [h] at z
      cases z
      subst h2
      exact ⟨List.mem_singleton.mpr rfl, #[], hP, True.intro, .inr fun pos cv hc => by
        have z : codeAmong pos [] = some cv := hc
        simp [codeAmong] at z⟩
    · rw [h] at z; cases z
    · rw [h] at z; cases z
  · rcases hS with h | h
    · refine .inl ⟨?_, h⟩
      have hn : a ≠ P ∧ H a ≠ none := by
        rcases h with h | ⟨o, h⟩
        · refine ⟨fun e => ?_, by rw [h]; simp⟩
          rw [e, hP] at h; cases h
        · refine ⟨fun e => ?_, by rw [h]; simp⟩
          rw [e, hP] at h; cases h
      unfold tau0
      rw [if_neg hn.1, if_pos ⟨rfl, hn.2⟩]
    · exact .inr h
  · show (match G [.scr ns] [] with | .ok b t ob' => _ | .exc c ob' => _ | .stuck => False)
    rw [hG]
    intro v τ' H' _ _ hv
    have hv : Rp _ τ' H' (.bl true) v := hv
    cases hv
    rfl
theorem law_at {l : PySem.W.OpenLaw} {w : World} {K : PySem.W.Frag} {k n : Nat} {x : Str} {mg : Str → Option Value} {fa : Addr} {h : Heap} {fd : FuncData} {q : Str} {L : Nat → LD} {G : Fn} {cP : Addr × Addr}
    (hT : h.get? cP.2 = some { cls := .none, data := .fields #[] }) (nT : K.lookup cP.2 = none) (C : PySem.W.CodeHd h cP.1 cP.2) (hb : ∀ (s : Shared) (v : Value), BindsTo s fd ⟨[v], []⟩ [(x, v)])
    (plain : ∀ ns : List Int, ns.length ≤ n → (∀ z ∈ ns, Builtin.Int.intBits z ≤ 1048576) → ∃ ob, G [.scr ns] [] = .ok false (.bl true) ob)
    (F : ∀ base : Heap, K.In base → base.Ns mainGlobals mg → LamX.TabB base mg cP.1 cP.2 → FnOk l.prog w K mg base (L2.CX l.prog w) k fa fd [x] (spF ⟨K, mg, [(cP.2, q)], L⟩ 1 G)) : LamX.LawAtS l w K (L2.CX l.prog w) k n x mg fa h := by
  refine ⟨fd, [cP], _, fun p hp => ?_, fun p hp => ?_, fun p hp => ?_, hb, fun H a ns h1 h2 h3 h4 => ?_, fun base h1 h2 h3 => F base h1 h2 (h3 cP (List.mem_singleton.mpr rfl))⟩
  · obtain rfl := List.mem_singleton.mp hp; exact hT
  · obtain rfl := List.mem_singleton.mp hp; exact nT
  · obtain rfl := List.mem_singleton.mp hp; exact C
  · obtain ⟨ob, hG⟩ := plain ns h1 h2
    exact sp_law (h3 cP (List.mem_singleton.mpr rfl)) h4 hG
theorem cx_none {P : Program} {w : World} {H : Hp} {s s' : Shared} {e : Value} (h : L2.CX P w [] H s (fun _ _ _ => False) e s') : False := by
  unfold L2.CX at h
  obtain ⟨_, _, _, _, _, _, _, _, _, _, _, _, z⟩ := h
  exact z.elim
end Sv

/-! Sv, part R: plain reasoning over the combinators. -/
namespace Sv
open PySem PySem.Spec PyProof.Rows L2
theorem sCons_assoc (a b c : S → RS) : sCons (sCons a b) c = sCons a (sCons b c) := by
  funext s
  unfold sCons
  cases a s <;> rfl
theorem sCons_nxt {a b : S → RS} {s s' : S} (h : a s = .nxt s') : sCons a b s = b s' := by unfold sCons; rw [h]
theorem sCons_cnt {a b : S → RS} {s s' : S} (h : a s = .cnt s') : sCons a b s = .cnt s' := by unfold sCons; rw [h]
/-- a while loop that comes to its end: I, what holds at each turn, with the turns left -/
theorem while_inv {c : S → R Bool} {g : S → RS} (I : Nat → S → Prop) (Z : S → Prop) (h : ∀ m s, I m s → (c s = .ok false s ∧ Z s) ∨ (c s = .ok true s ∧ ∃ s' m', g s = .nxt s' ∧ m' < m ∧ I m' s')) :
    ∀ (n m : Nat) (s : S), I m s → m < n → ∃ s', whileL c g n s = .nxt s' ∧ Z s'
  | 0, m, s, _, hn => absurd hn (Nat.not_lt_zero m)
  | n + 1, m, s, hI, hn => by
    rcases h m s hI with ⟨h1, h2⟩ | ⟨h1, s', m', h2, h3, h4⟩
    · exact ⟨s, by unfold whileL; rw [h1]; rfl, h2⟩
    · obtain ⟨s2, e1, e2⟩ := while_inv I Z h n m' s' h4 (by omega)
      refine ⟨s2, ?_, e2⟩
      unfold whileL
      rw [h1]
      show (match g s with | .nxt s => whileL c g n s | .cnt s => whileL c g n s | .brk s => .nxt s | r => r) = _
      rw [h2]
      exact e1
theorem sWhile_inv {c : S → R Bool} {g : S → RS} (I : Nat → S → Prop) (Z : S → Prop) (h : ∀ m s, I m s → (c s = .ok false s ∧ Z s) ∨ (c s = .ok true s ∧ ∃ s' m', g s = .nxt s' ∧ m' < m ∧ I m' s'))
    {m : Nat} {s : S} (hI : I m s) (hm : m < fuel) : ∃ s', sWhile c g s = .nxt s' ∧ Z s' := while_inv I Z h fuel m s hI hm
/-- a for loop without a way out: I, what holds ahead of the items that are left -/
theorem forL_inv {g : T → S → R Unit} {b : S → RS} (I : List T → S → Prop) (h : ∀ t ts s, I (t :: ts) s → ∃ s1 s2, g t s = .ok () s1 ∧ (b s1 = .nxt s2 ∨ b s1 = .cnt s2) ∧ I ts s2) :
    ∀ (ts : List T) (s : S), I ts s → ∃ s', forL g b ts s = .nxt s' ∧ I [] s'
  | [], s, hI => ⟨s, rfl, hI⟩
  | t :: ts, s, hI => by
    obtain ⟨s1, s2, h1, h2, h3⟩ := h t ts s hI
    obtain ⟨s', e1, e2⟩ := forL_inv I h ts s2 h3
    refine ⟨s', ?_, e2⟩
    unfold forL
    rw [h1]
    show (match b s1 with | .nxt s => forL g b ts s | .cnt s => forL g b ts s | .brk s => .nxt s | r => r) = _
    rcases h2 with h2 | h2 <;> rw [h2] <;> exact e1
/-- the same, told by the result: P of the rest is P of the whole -/
theorem forL_cons_nxt {g : T → S → R Unit} {b : S → RS} {t : T} {ts : List T} {s s1 s2 : S} (h1 : g t s = .ok () s1) (h2 : b s1 = .nxt s2) : forL g b (t :: ts) s = forL g b ts s2 := by
  rw [forL, h1]
  show (match b s1 with | .nxt s => forL g b ts s | .cnt s => forL g b ts s | .brk s => .nxt s | r => r) = _
  rw [h2]
theorem forL_cons_cnt {g : T → S → R Unit} {b : S → RS} {t : T} {ts : List T} {s s1 s2 : S} (h1 : g t s = .ok () s1) (h2 : b s1 = .cnt s2) : forL g b (t :: ts) s = forL g b ts s2 := by
  rw [forL, h1]
  show (match b s1 with | .nxt s => forL g b ts s | .cnt s => forL g b ts s | .brk s => .nxt s | r => r) = _
  rw [h2]
theorem forL_cons_ret {g : T → S → R Unit} {b : S → RS} {t : T} {ts : List T} {s s1 : S} {k : Bool} {u : T} {ob : List OV} (h1 : g t s = .ok () s1) (h2 : b s1 = .ret k u ob) : forL g b (t :: ts) s = .ret k u ob := by
  rw [forL, h1]
  show (match b s1 with | .nxt s => forL g b ts s | .cnt s => forL g b ts s | .brk s => .nxt s | r => r) = _
  rw [h2]
theorem shp_int (n : Nat) (i : Int) : T.shp n (.int i) = true := by cases n <;> rfl
theorem shp_bl (n : Nat) (i : Bool) : T.shp n (.bl i) = true := by cases n <;> rfl
theorem shp_non (n : Nat) : T.shp n .non = true := by cases n <;> rfl
theorem opEq_int (i j : Int) : opEq (.int i) (.int j) = some (false, .bl (decide (i = j))) := by
  unfold opEq
  rw [if_pos ⟨shp_int _ _, shp_int _ _⟩]
  rfl
theorem opNe_int (i j : Int) : opNe (.int i) (.int j) = some (false, .bl (!decide (i = j))) := by
  unfold opNe
  rw [if_pos ⟨shp_int _ _, shp_int _ _⟩]
  rfl
/-- a comprehension whose pieces change nothing but its own names -/
theorem compL_pure {vs : List Nat} {g : T → S → R Unit} {c : S → R Bool} {e : S → R Res} {s0 : S} (f : T → Option T) : ∀ (ts acc : List T),
    (∀ t ∈ ts, ∃ s1, g t s0 = .ok () s1 ∧ (⟨wipeS s1.sl vs, s1.ob⟩ : S) = s0 ∧ ((f t = none ∧ c s1 = .ok false s1) ∨ (∃ y, f t = some y ∧ c s1 = .ok true s1 ∧ e s1 = .ok (.val y) s1))) → acc.length + ts.length ≤ 1000000 →
      compL vs g c e ts acc s0 = .ok (acc ++ ts.filterMap f) s0
  | [], acc, _, _ => by rw [compL, List.filterMap_nil, List.append_nil]
  | t :: ts, acc, h, hz => by
    obtain ⟨s1, h1, h2, h3⟩ := h t List.mem_cons_self
    have hr := fun u hu => h u (List.mem_cons_of_mem _ hu)
    rw [List.length_cons] at hz
    rw [compL, h1]
    simp only
    rcases h3 with ⟨k1, k2⟩ | ⟨y, k1, k2, k3⟩
    · rw [k2]
      simp only
      rw [h2, compL_pure f ts acc hr (by omega), List.filterMap_cons, k1]
    · rw [k2]
      simp only
      rw [k3]
      simp only [frz]
      have z : szok (acc.length + 1) = true := decide_eq_true (by omega)
      rw [if_pos z, h2, compL_pure f ts (acc ++ [y]) hr (by rw [List.length_append]; show acc.length + 1 + ts.length ≤ 1000000; omega), List.filterMap_cons, k1, List.append_assoc]
      rfl
theorem rngT_succ (lo : Int) (n : Nat) : rngT lo (n + 1) = .int lo :: rngT (lo + 1) n := by
  unfold rngT
  rw [List.range_succ_eq_map, List.map_cons, List.map_map]
  congr 1
  · simp
  · refine List.map_congr_left fun k _ => ?_
    show T.int (lo + ((k + 1 : Nat) : Int)) = T.int (lo + 1 + (k : Int))
    congr 1
    omega
theorem rngT_zero (lo : Int) : rngT lo 0 = [] := rfl
theorem rngT_length (lo : Int) (n : Nat) : (rngT lo n).length = n := by unfold rngT; rw [List.length_map, List.length_range]
theorem rngT_mem {lo : Int} {n : Nat} {t : T} (h : t ∈ rngT lo n) : ∃ i : Int, t = .int i ∧ lo ≤ i ∧ i < lo + n := by
  unfold rngT at h
  obtain ⟨k, hk, rfl⟩ := List.mem_map.mp h
  have := List.mem_range.mp hk
  exact ⟨_, rfl, by omega, by omega⟩
end Sv

/-! Sv, part S: generator expressions that are consumed at once (the layer below the trees). -/
namespace Gx
open PySem PySem.Spec PyProof.Rows L2
/-- the context of a generator expression's code as it runs: made at s by X's code, woken within A -/
def cx (X : Cx) (A : Around) (s : Shared) (H : Hp) (env : Env) (fp : List Addr) : Cx :=
  { X with A := A.deeper env, s_0 := s, H_0 := H, env := env, outer := X.stack, stack := env :: X.stack, ex := fp, fn := fun _ => false, calm := true, pn := [], xe := fun _ _ => False }
theorem over_start {A : Around} {elt : Expr} {gs : List Comprehension} {scope : Scope} {pos : Pos} {it acc : Value} {env : Env} : A.over (.compStart (.GeneratorExp elt gs scope pos) 0 it acc env) [] = A.deeper env := by
  first
    | rfl
    | (obtain ⟨hd, d, fr, gs, u⟩ := A; simp [Around.over, Around.deeper, marksOver, frameCount, unitsOf, envsOf, guardsOf, pushEnvs, pushGuards, Code.envs, Code.env?, Code.isFrame, Code.guards, Code.isGuard, Code.weight, Code.frames, Code.isCreation, Code.isCaller, Code.cUnits])
theorem over_loop {A : Around} {elt : Expr} {gs : List Comprehension} {scope : Scope} {pos : Pos} {it acc : Value} {env : Env} : A.over (.compLoop (.GeneratorExp elt gs scope pos) 0 it acc env) [] = A.deeper env := by
  first
    | rfl
    | (obtain ⟨hd, d, fr, gs, u⟩ := A; simp [Around.over, Around.deeper, marksOver, frameCount, unitsOf, envsOf, guardsOf, pushEnvs, pushGuards, Code.envs, Code.env?, Code.isFrame, Code.guards, Code.isGuard, Code.weight, Code.frames, Code.isCreation, Code.isCaller, Code.cUnits])

/-- the names of a generator expression -/
structure Ok (N : List Str) (sc scope : Scope) (own : List (Str × Nat)) : Prop where
  blk : BlkOk N sc scope own
  co : scope.isCoroutine = false
  cell : ∀ y ∈ scope.names, y.2 ≠ .cell
  dot : scope.names.lookup (".0" : Str) = some NameKind.local

section
variable {X : Cx} {pins : List (Addr × Obj)} {σ : L2.St} {H : Hp} {s : Shared}
theorem start {A : Around} {scope : Scope} {own : List (Str × Nat)} {fp : List Addr} {code : Value} {h5 : Heap} {g' : Array GenState} {t' : Nat} {d' : Drawn} {m : Str → Option Value} (I : Inv X pins σ H s) (ok : Ok X.N X.env.scope scope own) (hN : X.N.Nodup)
    (hfr : A.frames = some X.stack) (hd : A.handled = none) (hfp : ∀ b ∈ fp, FpOk X pins H b ∧ b < s.heap.objs.size) (hns : h5.Ns s.heap.objs.size m) (kp : ∀ b o, s.heap.get? b = some o → h5.get? b = some o) (hg : AllBare g') :
    Inv (cx X A s H (genEnv scope (cloFrom X.env.cells scope.names []) s.heap.objs.size code builtinsNs X.env) fp) [] (wipe σ (own.map (·.2))) H { s with heap := h5, gens := g', drawn := d', toks := t' } := by
  have hfree : ∀ y ∈ scope.names, y.2 = .free → ∃ c, X.env.cells.lookup y.1 = some c := fun y hy e => by
    rcases ok.blk.free y hy e with k | k
    · exact I.ok.has _ (.inl k)
    · exact I.ok.has _ (.inr k)
  have cm : ∀ {y c}, (cloFrom X.env.cells scope.names []).lookup y = some c → X.env.cells.lookup y = some c := fun {y c} e => by
    rcases cloFrom_mem (PySem.mem_of_lookup e) with hm | ⟨h1, h2⟩
    · cases hm
    · obtain ⟨c1, hc⟩ := hfree _ h1 rfl
      have hc : X.env.cells.lookup y = some c1 := hc
      have e2 : c = c1 := by
        rw [h2, hc] <;> rfl
      rw [e2]
      exact hc
  have look : ∀ {y}, scope.names.lookup y = some .free → ∃ c, (cloFrom X.env.cells scope.names []).lookup y = some c := fun {y} hl => by
    have hy : (y, NameKind.free) ∈ scope.names := PySem.mem_of_lookup hl
    exact mem_lookup (cloFrom_has (cells := X.env.cells) (acc := []) hy)
  refine ⟨⟨I.ok.mod, ok.blk.kind, I.ok.glob, rfl, Nat.le_refl _, fun y z c e1 e2 => I.ok.inj y z c (cm e1) (cm e2), fun y hy => ?_, fun y c z _ => ?_, fun _ => hd, Around.frames_deeper hfr, .inr ⟨rfl, rfl⟩, fun b hb => ⟨Nat.ne_of_lt (hfp b hb).2, fun y c e => (hfp b hb).1.2.2.2.2.1 y c (cm e)⟩,
      I.bs, Nat.le_trans I.ok.bsz I.sz, fun b o e hb => ?_, fun b hb z => ?_, I.stack, I.stkFree⟩,
    rfl, hg, Un.kept kp, ⟨_, hns, fun i y v e1 e2 e3 => ?_⟩, fun y c e => ?_, I.hok.fresh (Nat.le_refl _), fun y c e => I.freeC y c (cm e), fun q hq => absurd (show q ∈ ([] : List (Addr × Obj)) ++ [] from hq) (by simp), I.hok.kept kp, by rw [wipe_length]; exact I.len⟩
  · have hy : scope.names.lookup y = some .cell ∨ scope.names.lookup y = some .free := hy
    rcases hy with hy | hy
    · exact absurd rfl (ok.cell _ (PySem.mem_of_lookup hy))
    · exact look hy
  · have z : false = true := z
    cases z
  · rcases (hfp b hb).1.2.2.2.1 with z | z
    · exact I.ok.noex b o e z
    · exact absurd (Nat.lt_of_lt_of_le (Heap.lt_size e) (Nat.le_trans I.ok.bsz z)) (Nat.lt_irrefl _)
  · rcases List.mem_cons.mp (I.stkSub b z) with z | z
    · exact (hfp b hb).1.2.1 z
    · exact (hfp b hb).1.2.2.1 z
  · obtain ⟨e2, hne⟩ := wipe_some e2
    have e3 : Vis scope y := e3
    have fr : scope.names.lookup y = some .free := by
      rcases e3 with k | k | k
      · rcases ok.blk.own _ (PySem.mem_of_lookup k) (.inl rfl) with e' | e'
        · obtain ⟨p, hp, hpy⟩ := List.mem_map.mp e'
          have e4 := ok.blk.ix p hp
          have hpy : p.1 = y := hpy
          rw [hpy] at e4
          exact absurd (List.mem_map.mpr ⟨p, hp, nodup_ix hN e4 e1⟩) hne
        · exact absurd (List.mem_of_getElem? e1) e'
      · exact absurd rfl (ok.cell _ (PySem.mem_of_lookup k))
      · exact k
    obtain ⟨m', hn, hl⟩ := I.loc
    have hvis : Vis X.env.scope y := (ok.blk.free _ (PySem.mem_of_lookup fr) rfl).elim (fun k => .inr (.inl k)) (fun k => .inr (.inr k))
    obtain ⟨w', r, q⟩ := hl i y v e1 e2 hvis
    obtain ⟨c2, h2⟩ := look fr
    refine ⟨w', r, .inr ⟨.inr fr, c2, h2, ?_⟩⟩
    have c1 := cm h2
    rcases q with ⟨k', _⟩ | ⟨_, c3, e', z⟩
    · have k' : X.env.scope.names.lookup y = some .local := k'
      rcases ok.blk.free _ (PySem.mem_of_lookup fr) rfl with k2 | k2 <;> rw [show X.env.scope.names.lookup y = _ from k2] at k' <;> cases k'
    · rw [c1] at e'
      cases e'
      exact z.keeps kp
  · obtain ⟨w', z⟩ := I.cell y c (cm e)
    exact ⟨w', z.keeps kp⟩

/-- while the generator sleeps: what stands at Ss is the consumer's -/
structure Sl (Ss : List Addr) (s s' : Shared) : Prop where
  os : s'.os = s.os
  bare : AllBare s'.gens
  keep : ∀ b o, b ∉ Ss → s.heap.get? b = some o → s'.heap.get? b = some o
  own : ∀ b ∈ Ss, ∃ o, s'.heap.get? b = some o ∧ ∀ v, o.data ≠ .cell v
theorem pinsAt_mem {fp : List Addr} {h : Heap} {p : Addr × Obj} : p ∈ pinsAt fp h → p.1 ∈ fp ∧ h.get? p.1 = some p.2 := of_pinsAt
/-- the consumer's own things -/
structure Cons (Z : Cx) (a : Addr) (fp Ss : List Addr) : Prop where
  old : ∀ b ∈ Ss, Z.s_0.heap.objs.size ≤ b
  loc : ∀ b ∈ Ss, b ≠ Z.env.locals
  cell : ∀ b ∈ Ss, ∀ x c, Z.env.cells.lookup x = some c → c ≠ b
  ne : ∀ b ∈ Ss, b ≠ a
  fp : ∀ b ∈ Ss, b ∉ fp
theorem woken {Z : Cx} {a : Addr} {go : Obj} {fp Ss : List Addr} {s s0 s' : Shared} {σ : L2.St} {H : Hp} (hpn : Z.pn = []) (cn : Cons Z a fp Ss) (I : Inv Z ((a, go) :: pinsAt Ss s0.heap) σ H s) (hS : ∀ b ∈ Ss, ∃ o, s0.heap.get? b = some o) (z : Sl Ss s s') :
    Inv Z ((a, go) :: pinsAt Ss s'.heap) σ H s' := by
  have pS : ∀ b ∈ Ss, ∃ o, s.heap.get? b = some o ∧ H b = none ∧ b ≠ Z.env.locals ∧ b ∉ Z.fs := fun b hb => by
    obtain ⟨o, ho⟩ := hS b hb
    obtain ⟨h1, h2, h3, h4, _⟩ := I.pin (b, o) (List.mem_append_right _ (List.mem_cons_of_mem _ (mem_pinsAt hb ho)))
    exact ⟨o, h1, h2, h3, h4⟩
  obtain ⟨q1, q2, q3, q4, q5⟩ := I.pin (a, go) (List.mem_append_right _ List.mem_cons_self)
  have I0 : Inv Z [(a, go)] σ H s := I.pins_of fun p hp => by
    rw [List.mem_singleton.mp hp]
    exact ⟨q1, q2, q3, q4, q5⟩
  have nt : ∀ b u, H b = some u → b ∉ Ss := fun b u q hb => by
    obtain ⟨_, _, n, _⟩ := pS b hb
    rw [n] at q; cases q
  obtain ⟨z1, z2, z3, z4⟩ := z
  obtain ⟨hh, g, d, t, o⟩ := s'
  have ho : o = s.os := z1
  subst ho
  have J : Inv Z [(a, go)] σ H { s with heap := hh, gens := g, drawn := d, toks := t } := by
    refine I0.step (g' := g) (t' := t) (d' := d) (ch := Ss) (fun b hb => ?_)
      (fun b ob _ _ hc q _ => z3 b ob hc q) (fun b ob _ _ hc q _ => ⟨ob.slots, z3 b ob hc q⟩) (fun _ _ _ _ n => n) (fun b ob hc q => ⟨ob, z3 b ob hc q⟩)
      (fun _ _ q => q) (fun _ _ _ q => q) (fun b ps q => ⟨#[], by rw [q]; simp⟩) (fun m hm => ?_) (fun b u q => ?_) z2
    · refine ⟨.inr (cn.old b hb), cn.loc b hb, cn.cell b hb, fun p hp => ?_⟩
      rw [hpn] at hp
      rw [List.mem_singleton.mp (show p ∈ [(a, go)] from hp)]
      exact Ne.symm (cn.ne b hb)
    · obtain ⟨ob, es, ep, ho, r⟩ := hm
      exact ⟨ob, es, ep, z3 _ ob (fun q => cn.loc _ q rfl) ho, r⟩
    · refine (I0.hok b u q).stay (fun c v hc y => z3 c v ?_ y) (fun _ y => y) fun _ _ y => y
      rcases hc with y | y
      · rw [y]; exact nt b u q
      · exact nt c _ y
  refine J.pins_of fun p hp => ?_
  rcases List.mem_cons.mp hp with hp | hp
  · rw [hp]
    exact J.pin (a, go) (List.mem_append_right _ List.mem_cons_self)
  · obtain ⟨hb, e⟩ := of_pinsAt hp
    obtain ⟨_, _, n, l, f⟩ := pS p.1 hb
    obtain ⟨o2, e2, dd⟩ := z4 p.1 hb
    have e : hh.get? p.1 = some p.2 := e
    have e2 : hh.get? p.1 = some o2 := e2
    rw [e] at e2
    cases e2
    exact ⟨e, n, l, f, dd⟩

/-! ### the code runs -/
abbrev CK := List V → V → Hp → (List V → Hp → Prop) → Prop
/-- it hands out x; acc: what came before, by the consumer's own account -/
abbrev AK := List V → Heap → Prop
def GY (Z : Cx) (a : Addr) (go : Obj) (Ss : List Addr) (Ac : AK) (C : CK) : Protocol := fun n s₀ v s kap =>
  ∃ x acc σ H Nx, RelV x v ∧ Ac acc s₀.heap ∧ Inv Z ((a, go) :: pinsAt Ss s₀.heap) σ H s ∧ C acc x H Nx ∧ ∀ acc' s', Nx acc' H → Ac acc' s'.heap → Sl Ss s s' → kap (.send .none) s'
def GP (Z : Cx) (a : Addr) (go : Obj) (Ss : List Addr) (Ac : AK) (Qe : List V → Hp → Prop) : Nat → Shared → Shared → Prop := fun _ s₀ s =>
  ∃ acc σ H, Ac acc s₀.heap ∧ Inv Z ((a, go) :: pinsAt Ss s₀.heap) σ H s ∧ Qe acc H
abbrev GE (Z : Cx) (a : Addr) (go : Obj) (Ss : List Addr) (Ac : AK) (Qe : List V → Hp → Prop) : GenEnd := fun n s₀ r s₁ => r = .ok .next ∧ GP Z a go Ss Ac Qe n s₀ s₁
/-- the turns -/
def Turns (J : It) (g : TG) (tt : TT) (te : TE) (vs : List Nat) (σ : L2.St) (C : CK) (Qe : List V → Hp → Prop) (W : Nat → Nat → List V → Hp → Prop) : Prop :=
  ∀ i m acc H, W i m acc H → (J.stop i H ∧ Qe acc H) ∨ (J.go i H ∧ ∃ Nx : List V → Hp → Prop, (∀ acc' H', Nx acc' H' → ∃ m', m' < m ∧ W (i + 1) m' acc' H') ∧ ∀ x H', J.yld i H x H' → g x (wipe σ vs) H' fun σ2 H2 => wipe σ2 vs = wipe σ vs ∧ tt σ2 H2 fun b H3 =>
    if b = true then te σ2 H3 fun y H4 => C acc y H4 Nx else Nx acc H3)
theorem seg_loop {Z : Cx} {A : Around} {a it : Addr} {go : Obj} {fp Ss : List Addr} {tn : Nat → Heap → Prop} {J : It} {elt tg iter : Expr} {ifs : List Expr} {scope : Scope} {pos : Pos} {g : TG} {tt : TT} {te : TE} {vs : List Nat} {Ac : AK} {C : CK} {Qe : List V → Hp → Prop} {W : Nat → Nat → List V → Hp → Prop}
    (hA : Z.A = A.deeper Z.env) (hx : Z.xe = fun _ _ => False) (hc : Z.calm = true) (hpn : Z.pn = []) (hex : Z.ex = fp) (hco : Z.env.scope.isCoroutine = false) (haf : a ∉ fp) (cn : Cons Z a fp Ss)
    (T : Turn Z.prog Z.w Z.K tg J fp it tn) (pg : PG Z tg g) (pt : PTs Z ifs tt) (pe : PE Z elt te) (tu : Turns J g tt te vs σ C Qe W) :
    ∀ (m i n : Nat) (acc : List V) (s₀ s : Shared) (H : Hp), m < n → W i m acc H → Ac acc s₀.heap → Inv Z ((a, go) :: pinsAt Ss s₀.heap) (wipe σ vs) H s → (∀ b ∈ Ss, ∃ o, s₀.heap.get? b = some o) → tn i s.heap → (∀ b ∈ fp, H b = none) →
      Seg (model Z.prog Z.w) A (GE Z a go Ss Ac Qe) (GY Z a go Ss Ac C) n s₀ (.compLoop (.GeneratorExp elt [⟨tg, iter, ifs, 0⟩] scope pos) 0 (.ref it) .none Z.env)
        ((model Z.prog Z.w).den (.compLoop (.GeneratorExp elt [⟨tg, iter, ifs, 0⟩] scope pos) 0 (.ref it) .none Z.env)) [] s := by
  have aIn : ∀ {i : Nat} {s' s0 : Shared} {σ' : L2.St} {H' : Hp}, Inv Z ((a, go) :: pinsAt Ss s0.heap) σ' H' s' → (∀ b ∈ fp, H' b = none) → ∀ b ∈ fp, FpOk Z ((a, go) :: pinsAt Ss s0.heap) H' b := fun I' hn b hb =>
    ⟨hn b hb, (I'.ok.exf b (hex ▸ hb)).1, I'.ok.exfs b (hex ▸ hb), .inl (hex ▸ hb), fun x c e => (I'.ok.exf b (hex ▸ hb)).2 x c e, fun p hp => by
      rw [hpn] at hp
      rcases List.mem_cons.mp (show p ∈ (a, go) :: pinsAt Ss _ from hp) with z | z
      · rw [z]; intro e; have e : a = b := e; rw [e] at haf; exact haf hb
      · intro e; exact cn.fp p.1 (of_pinsAt z).1 (by rw [e]; exact hb)⟩
  intro m
  induction m using Nat.strongRecOn with
  | ind m ih =>
    intro i n acc s₀ s H hmn w hac I hS st fr
    show Seg _ A _ _ _ s₀ _ ((compTurn (.GeneratorExp elt [⟨tg, iter, ifs, 0⟩] scope pos) 0 (.ref it) .none Z.env).onRaise (leaving Z.env)) [] s
    rw [compTurn_gen, Sem.onRaise_eq_wrap]
    refine seg_bind_wrap (wpAny_standAt ?_)
    rcases tu i m acc H w with ⟨stop, q⟩ | ⟨go', Nx, hNx, step⟩
    · refine seg_bind_wrap ?_
      rw [over_loop, ← hA]
      refine thnF (T.done Z rfl rfl rfl hc i _ s _ H (fun _ _ => False) I (aIn (i := i) I fr) st stop) fun r s1 ⟨hr, I1⟩ => ?_
      subst hr
      exact seg_end (.ok .next) ⟨rfl, acc, _, H, hac, I1, q⟩
    · refine seg_bind_wrap ?_
      rw [over_loop, ← hA]
      refine thnF (T.item Z rfl rfl rfl hc i _ s _ H (fun _ _ => False) I (aIn (i := i) I fr) st go') fun r s1 ⟨u, hr, h1⟩ => ?_
      subst hr
      refine seg_bind_wrap ?_
      rw [over_loop, ← hA]
      refine thnF h1 fun _ s2 ⟨x, H2, I2, r2, y2, st2, fr2⟩ => ?_
      have I2' := I2.pinned (aIn (i := i) I2 fr2) (T.obj _ _ st2)
      refine seg_bind_wrap ?_
      rw [over_loop, ← hA]
      have rg := pg.run _ s2 _ H2 x u _ I2' r2 (step x H2 y2)
      rw [hx] at rg
      refine thnF rg fun _ s3 ⟨σ3, H3, I3, hw3, q3⟩ => ?_
      refine seg_bind_wrap ?_
      rw [over_loop, ← hA]
      have rt := pt.run _ s3 σ3 H3 _ I3 q3
      rw [hx] at rt
      refine thnF rt fun b s4 ⟨H4, I4, q4⟩ => ?_
      have hl : (wipe σ vs).length = σ3.length := by rw [← hw3, wipe_length]
      have back : ∀ {s' : Shared} {H' : Hp} {s0' : Shared}, Inv Z ((a, go) :: pinsAt Ss s0'.heap) σ3 H' s' → Inv Z ((a, go) :: pinsAt Ss s0'.heap) (wipe σ vs) H' s' := fun I' => I'.weak hl fun j v e => by
        rw [← hw3] at e
        exact (wipe_some e).1
      cases b with
      | false =>
        simp only [Bool.false_eq_true, if_false]
        have q4 : Nx acc H4 := by simpa using q4
        obtain ⟨m', hm, w'⟩ := hNx _ _ q4
        refine seg_again rfl (ih m' hm (i + 1) n acc s₀ s4 H4 (by omega) w' hac (back (s0' := s₀) I4.unpinned) hS (T.keep _ _ _ st2 fun b hb o e => (I4.pin (b, o) (List.mem_append_right _ (List.mem_append_right _ (mem_pinsAt hb e)))).1) fun b hb => ?_)
        obtain ⟨o, e, d⟩ := T.obj _ _ st2 b hb
        exact (I4.pin (b, o) (List.mem_append_right _ (List.mem_append_right _ (mem_pinsAt hb e)))).2.1
      | true =>
        simp only [if_true]
        have q4 : te σ3 H4 fun y H5 => C acc y H5 Nx := by simpa using q4
        have hy : ∀ v, yieldOut Z.env v = yieldValue v := fun v => by simp only [yieldOut, hco, Bool.false_eq_true, if_false]
        simp only [hy]
        rw [Sem.bind_eq_wrap', Sem.bind_eq_wrap', Sem.wrap_wrap, Sem.wrap_wrap]
        have re := pe.run _ s4 σ3 H4 _ I4 q4
        rw [hx] at re
        refine seg_wrap ?_
        rw [over_loop, ← hA]
        refine thnF re fun v s5 ⟨y, H5, I5, r5, q5⟩ => ?_
        obtain ⟨n', rfl⟩ : ∃ n', n = n' + 1 := ⟨n - 1, by omega⟩
        have fpk : ∀ b ∈ fp, ∀ o, s2.heap.get? b = some o → s5.heap.get? b = some o ∧ H5 b = none := fun b hb o e =>
          let z := I5.pin (b, o) (List.mem_append_right _ (List.mem_append_right _ (mem_pinsAt hb e)))
          ⟨z.1, z.2.1⟩
        have I5' : Inv Z ((a, go) :: pinsAt Ss s₀.heap) σ3 H5 s5 := I5.unpinned
        refine seg_at (seg_yield rfl rfl rfl ⟨y, acc, σ3, H5, Nx, r5, hac, I5', q5, fun acc' s' hq hac' hz => ?_⟩)
        obtain ⟨m', hm, w'⟩ := hNx _ _ hq
        refine seg_again rfl (ih m' hm (i + 1) n' acc' s' s' H5 (by omega) w' hac' (back (s0' := s') (woken hpn cn I5' hS hz)) (fun b hb => let ⟨o, e, _⟩ := hz.own b hb; ⟨o, e⟩) (T.keep _ _ _ st2 fun b hb o e => hz.keep b o (fun q => cn.fp b q hb) (fpk b hb o e).1) fun b hb => ?_)
        obtain ⟨o, e, d⟩ := T.obj _ _ st2 b hb
        exact (fpk b hb o e).2
theorem seg_begin {Z : Cx} {A : Around} {a it : Addr} {go : Obj} {fp Ss : List Addr} {tn : Nat → Heap → Prop} {J : It} {elt tg iter : Expr} {ifs : List Expr} {scope : Scope} {pos : Pos} {g : TG} {tt : TT} {te : TE} {vs : List Nat} {Ac : AK} {C : CK} {Qe : List V → Hp → Prop} {W : Nat → Nat → List V → Hp → Prop}
    (hA : Z.A = A.deeper Z.env) (hx : Z.xe = fun _ _ => False) (hc : Z.calm = true) (hpn : Z.pn = []) (hex : Z.ex = fp) (hco : Z.env.scope.isCoroutine = false) (haf : a ∉ fp) (cn : Cons Z a fp Ss)
    (T : Turn Z.prog Z.w Z.K tg J fp it tn) (pg : PG Z tg g) (pt : PTs Z ifs tt) (pe : PE Z elt te) (tu : Turns J g tt te vs σ C Qe W) {m n : Nat} {acc : List V} {s₀ s : Shared} {H : Hp} (hmn : m < n) (w : W 0 m acc H) (hac : Ac acc s₀.heap) (I : Inv Z ((a, go) :: pinsAt Ss s₀.heap) (wipe σ vs) H s)
    (hS : ∀ b ∈ Ss, ∃ o, s₀.heap.get? b = some o) (st : tn 0 s.heap) (fr : ∀ b ∈ fp, H b = none) :
      Seg (model Z.prog Z.w) A (GE Z a go Ss Ac Qe) (GY Z a go Ss Ac C) n s₀ (.compStart (.GeneratorExp elt [⟨tg, iter, ifs, 0⟩] scope pos) 0 (.ref it) .none Z.env)
        ((model Z.prog Z.w).den (.compStart (.GeneratorExp elt [⟨tg, iter, ifs, 0⟩] scope pos) 0 (.ref it) .none Z.env)) [] s := by
  have loop := seg_loop (iter := iter) (scope := scope) (pos := pos) hA hx hc hpn hex hco haf cn T pg pt pe tu m 0 n acc s₀ s H hmn w hac I hS st fr
  show Seg _ A _ _ _ s₀ _ ((compStart (.GeneratorExp elt [⟨tg, iter, ifs, 0⟩] scope pos) 0 (.ref it) .none Z.env).onRaise (leaving Z.env)) [] s
  unfold compStart
  rw [Sem.onRaise_eq_wrap]
  show Seg _ A _ _ _ s₀ _ ((ask >>= _).wrap _ _ _ _) [] s
  refine seg_bind_wrap (wpAny_askSetting ?_)
  split
  · exact seg_again rfl loop
  · first
      | exact seg_bind_wrap (wpAny_rule (seg_bind_wrap (wpAny_standAt (seg_bind_wrap (T.self _ 0 s _ _ st (seg_again rfl loop))))))
      | (refine seg_bind_wrap (wpAny_rule ?_); show Seg _ A _ _ _ s₀ _ ((standAt iter.pos >>= _).wrap _ _ _ _) [] s; exact seg_bind_wrap (wpAny_standAt (seg_bind_wrap (T.self _ 0 s _ _ st (seg_again rfl loop)))))

/-! ### the next item, for the consumer -/
def Rdy (Z : Cx) (A : Around) (a : Addr) (g : Nat) (go : Obj) (Ss : List Addr) (Ac : AK) (C : CK) (Qe : List V → Hp → Prop) (n : Nat) (s : Shared) : Prop :=
  s.heap.IsGen a g ∧ s.heap.NoLimit ∧ ∃ gs, s.gens[g]? = some gs ∧ gs.Goes (model Z.prog Z.w) A (GE Z a go Ss Ac Qe) (GY Z a go Ss Ac C) n (.send .none) (s.setGen g .running)
/-- all is well around -/
def Out (Z : Cx) (H : Hp) (s : Shared) : Prop := s.os = Z.s_0.os ∧ AllBare s.gens ∧ Un Z.fs Z.ex Z.H_0 H Z.s_0.heap s.heap ∧ HOk Z.prog Z.w H s.heap
theorem Out.of {Z : Cx} {pins : List (Addr × Obj)} {σ : L2.St} {H : Hp} {s : Shared} {g : Nat} {gs : GenState} (I : Inv Z pins σ H s) (hb : gs.bare = true) : Out Z H (s.setGen g gs) := ⟨I.os, allBare_setGen I.bare hb, I.base, I.hok⟩
theorem next {Z : Cx} {A : Around} {a : Addr} {g n : Nat} {go : Obj} {Ss : List Addr} {Ac : AK} {C : CK} {Qe : List V → Hp → Prop} {s : Shared} {Q : Option Value → Shared → Prop} {E : Value → Shared → Prop} (hh : A.handled = none) (hroom : A.depth < recursionLimit)
    (hgen : ∀ h : Heap, h.get? a = some go → h.IsGen a g) (haS : a ∉ Ss) (hcS : cStatics ∉ Ss) (hpn : Z.pn = []) (rd : Rdy Z A.in1 a g go Ss Ac C Qe n s)
    (hY : ∀ v x acc H Nx s1, RelV x v → Ac acc s.heap → C acc x H Nx → Out Z H s1 → (∀ b ∈ Ss, ∀ o, s.heap.get? b = some o → s1.heap.get? b = some o ∧ H b = none) →
      (∀ acc' s2, Nx acc' H → Ac acc' s2.heap → s2.os = s1.os → s2.gens = s1.gens → (∀ b o, b ∉ Ss → s1.heap.get? b = some o → s2.heap.get? b = some o) → (∀ b ∈ Ss, ∃ o, s2.heap.get? b = some o ∧ ∀ v, o.data ≠ .cell v) → ∃ n', n = n' + 1 ∧ Rdy Z A.in1 a g go Ss Ac C Qe n' s2) → Q (some v) s1)
    (hP : ∀ acc H s1, Ac acc s.heap → Qe acc H → Out Z H s1 → (∀ b ∈ Ss, ∀ o, s.heap.get? b = some o → s1.heap.get? b = some o ∧ H b = none) → Q none s1) : wpAny (model Z.prog Z.w) A (pyNext (.ref a)) Q E s := by
  obtain ⟨hg, hl, gs, hgs, hgo⟩ := rd
  have hgl : g < s.gens.size := (Array.getElem?_eq_some_iff.mp hgs).1
  refine GenW.wpAny_gsz (n := g + 1) hgl ?_
  refine wpAny_pyNext_genexpQ (P := GP Z a go Ss Ac Qe) hh hl hroom hg hgs hgo (fun v s₁ gs' hb hv hsz => ?_) fun s₁ hp h' hk _ => ?_
  · obtain ⟨x, acc, σ, H, Nx, rv, hac, I, hC, hkap⟩ := hv
    have hsz1 : g < s₁.gens.size := by
      have q : (s₁.setGen g gs').gens.size = s₁.gens.size := GenW.setGen_size _ _ _
      have hsz' : g + 1 ≤ (s₁.setGen g gs').gens.size := hsz
      omega
    refine hY v x acc H Nx _ rv hac hC (Out.of I hb) (fun b hb o e => ?_) fun acc' s2 hN hac' ho hgn hk hw => ?_
    · have z := I.pin (b, o) (List.mem_append_right _ (List.mem_cons_of_mem _ (mem_pinsAt hb e)))
      exact ⟨z.1, z.2.1⟩
    · have hz : Sl Ss s₁ (s2.setGen g .running) := ⟨ho, allBare_setGen (by rw [hgn]; exact allBare_setGen I.bare hb) rfl, hk, hw⟩
      have kk := hkap acc' (s2.setGen g .running) hN hac' hz
      cases n with
      | zero => exact kk.elim
      | succ n' =>
        refine ⟨n', rfl, ?_, ?_, gs', ?_, kk⟩
        · exact hgen _ (hk a go haS (I.pin (a, go) (List.mem_append_right _ List.mem_cons_self)).1)
        · obtain ⟨mc, hns, hnn⟩ := I.nolimit
          exact ⟨mc, hns.at' fun o e => hk _ o hcS e, hnn⟩
        · rw [hgn]; exact setGen_at hsz1
  · obtain ⟨acc, σ, H, hac, I, q⟩ := hp
    refine hP acc H _ hac q ?_ fun b hb o e => ?_
    · obtain ⟨o1, o2, o3, o4⟩ := Out.of (g := g) (gs := .finished) I rfl
      exact ⟨o1, o2, o3.trans (Un.kept hk), o4.kept hk⟩
    · have z := I.pin (b, o) (List.mem_append_right _ (List.mem_cons_of_mem _ (mem_pinsAt hb e)))
      exact ⟨hk _ _ z.1, z.2.1⟩

/-! ### a generator is made -/
abbrev env (X : Cx) (scope : Scope) (L : Addr) (code : Value) : Env := genEnv scope (cloFrom X.env.cells scope.names []) L code builtinsNs X.env
/-- a: the generator, not begun; J: what it will walk -/
def Made (X : Cx) (pins : List (Addr × Obj)) (σ : L2.St) (elt tg : Expr) (ifs : List Expr) (scope : Scope) (own : List (Str × Nat)) (J : It) (H2 : Hp) (a : Addr) (s5 : Shared) : Prop :=
  ∃ (g : Nat) (go : Obj) (fp : List Addr) (code : Value) (s4 : Shared), Inv X pins σ H2 s4 ∧ (∀ b o, s4.heap.get? b = some o → s5.heap.get? b = some o) ∧ (∀ b ∈ fp, FpOk X pins H2 b) ∧ (∀ h : Heap, h.get? a = some go → h.IsGen a g) ∧ s5.heap.get? a = some go ∧ s5.heap.NoLimit ∧
    s5.os = s4.os ∧ AllBare s5.gens ∧
    ∀ (A : Around) (gg : TG) (tt : TT) (te : TE) (Ac : AK) (C : CK) (Qe : List V → Hp → Prop) (W : Nat → Nat → List V → Hp → Prop) (Ss : List Addr) (s6 : Shared), A.handled = none → A.frames = some X.stack →
      PG (cx X A s4 H2 (env X scope s4.heap.objs.size code) fp) tg gg → PTs (cx X A s4 H2 (env X scope s4.heap.objs.size code) fp) ifs tt → PE (cx X A s4 H2 (env X scope s4.heap.objs.size code) fp) elt te →
      (∀ b ∈ Ss, s5.heap.objs.size ≤ b ∧ ∃ o, s6.heap.get? b = some o ∧ ∀ v, o.data ≠ .cell v) → (∀ b o, s5.heap.get? b = some o → s6.heap.get? b = some o) → s6.os = s5.os → s6.gens = s5.gens →
      Turns J gg tt te (own.map (·.2)) σ C Qe W → (∃ m, W 0 m [] H2) → Ac [] s6.heap → ∃ n, Rdy (cx X A s4 H2 (env X scope s4.heap.objs.size code) fp) A a g go Ss Ac C Qe n s6
theorem make {c P : Addr} {elt tg iter : Expr} {ifs : List Expr} {scope : Scope} {own : List (Str × Nat)} {gpos : Pos} {wi : TI} {k : Nat} {Q : Value → Shared → Prop} {Rj : It → Hp → Prop}
    (hr : Room k X.A) (hN : X.N.Nodup) (TB : LamX.TabB X.base X.mg c P) (hcode : X.env.code = .ref c) (ok : Ok X.N X.env.scope scope own) (hi : PI X tg iter wi) (hs : ∀ v, genFold iter X.env v = pure v) (I : Inv X pins σ H s)
    (h : wi σ H fun J H1 => ∃ ps, H1 P = some (.tbl ps) ∧ TriplesOk ps.toList ∧ ∀ ps', TriplesOk ps'.toList → (∃ more, ps' = ps ++ more) → Rj J (upd H1 P (.tbl ps')))
    (hQ : ∀ J H2 a s5, Rj J H2 → Made X pins σ elt tg ifs scope own J H2 a s5 → Q (.ref a) s5) :
    wpAny (model X.prog X.w) X.A (eval (.GeneratorExp elt [⟨tg, iter, ifs, 0⟩] scope gpos) X.env) Q X.xe s := by
  have hfree : ∀ y ∈ scope.names, y.2 = .free → ∃ c, X.env.cells.lookup y.1 = some c := fun y hy e => by
    rcases ok.blk.free y hy e with k | k
    · exact I.ok.has _ (.inl k)
    · exact I.ok.has _ (.inr k)
  refine wpAny_GeneratorExp_make ok.co (closure_ok hfree) ok.cell ok.dot ok.blk.kind hr.depth (thn (hi.run pins s σ H _ I h) fun xv s1 hx => thn hx fun itv s2 h2 => ?_) hs
  obtain ⟨it, fp, tn, J, H1, e, I1, T, st2, f2, ps, hP, ht, q⟩ := h2
  subst e
  have hPs : s2.heap.get? P = some { cls := .none, data := .fields ps } := I1.hok P _ hP
  have cd : PySem.W.CodeHd s2.heap c P := TB.code.keeps I1.bk
  refine ⟨I1.nolimit, ?_⟩
  have cont : ∀ (code : Value) (h3 : Heap) (tk : Nat) (ps' : Array Value), Heap.ExtBut P s2.heap h3 → s2.heap.objs.size ≤ h3.objs.size → h3.get? P = some { cls := .none, data := .fields ps' } → (∃ more, ps' = ps ++ more) → TriplesOk ps'.toList →
      wpAny (model X.prog X.w) X.A (builtinsFor X.env.globals X.env.builtins) (fun bi s₄ =>
        ∀ h', h'.Ns s₄.heap.objs.size (fun y => if y = ".0" then some (.ref it) else none) → Heap.SameBut s₄.heap.objs.size (s₄.heap.push { cls := .type "frame", data := .dict #[] }) h' →
          Q (.ref h'.objs.size) { s₄ with
            gens := s₄.gens.push (.fresh (.compStart (.GeneratorExp elt [⟨tg, iter, ifs, 0⟩] scope gpos) 0 (.ref it) .none (genEnv scope (cloFrom X.env.cells scope.names []) s₄.heap.objs.size code bi X.env))),
            toks := s₄.toks + 1 + 1 + 1,
            heap := h'.push { cls := .type "generator", data := .fields #[.int s₄.gens.size 0, .str "<genexpr>" (s₄.toks + 1), .str (X.env.qual ++ "<genexpr>") (s₄.toks + 1 + 1)] } }) X.xe { s2 with heap := h3, toks := tk } := by
    intro code h3 tk ps' hx hsz hP3 hmore ht3
    obtain ⟨bm, ob, e1, e2, e3, e4, e5, e6, e7, e8⟩ := TB.bm
    have keep3 : ∀ b u, b ≠ P → s2.heap.get? b = some u → h3.get? b = some u := fun b u hb e => hx b u hb e
    refine wpAny_builtinsFor (m := X.mg) (by rw [I1.ok.glob]; exact (I1.mod.glob.keeps I1.bk).extBut hx TB.gP) e1 e2 (keep3 _ _ e4 (I1.bk _ _ e5)) e6 e7 e8 ?_
    intro h' hn' hs'
    obtain ⟨more, em⟩ := hmore
    have I4 := GxR.inv_tab (more := more) (h' := h3) (g' := s2.gens) (d' := s2.drawn) (t' := tk) I1 hP keep3 (by rw [← em]; exact hP3) I1.bare
    rw [← em] at I4
    generalize es4 : ({ s2 with heap := h3, toks := tk } : Shared) = s4 at hn' hs' I4 ⊢
    have e4h : s4.heap = h3 := by rw [← es4]
    have I4 : Inv X pins σ (upd H1 P (.tbl ps')) s4 := by rw [← es4]; rw [← es4] at I4; exact I4
    have keep' : ∀ b o, s4.heap.get? b = some o → h'.get? b = some o := fun b o e => hs'.extBut b o (Nat.ne_of_lt (Heap.lt_size e)) (Heap.get?_push_of_some _ e)
    have hsz' : h'.objs.size = s4.heap.objs.size + 1 := by rw [hs'.1, Heap.size_push]
    generalize hgo : ({ cls := .type "generator", data := .fields #[.int s4.gens.size 0, .str "<genexpr>" (s4.toks + 1), .str (X.env.qual ++ "<genexpr>") (s4.toks + 1 + 1)] } : Obj) = go
    have hgen : ∀ h : Heap, h.get? h'.objs.size = some go → h.IsGen h'.objs.size s4.gens.size := fun h e => ⟨go, _, _, e, by rw [← hgo], by rw [← hgo], by rw [← hgo]⟩
    have hgd : ∀ v, go.data ≠ .cell v := fun v z => by
      rw [← hgo] at z
      cases z
    have hnf : go.isFreed = false := by rw [← hgo]; rfl
    have hpu : (h'.push go).get? h'.objs.size = some go := Heap.get?_push_size _ hnf
    have fpo : ∀ b ∈ fp, ∃ o, s2.heap.get? b = some o ∧ ∀ v, o.data ≠ .cell v := fun b hb => T.obj _ _ st2 b hb
    have fpP : ∀ b ∈ fp, b ≠ P := fun b hb z => by
      have n := (f2 b hb).1
      rw [z, hP] at n; cases n
    have f4 : ∀ b ∈ fp, FpOk X pins (upd H1 P (.tbl ps')) b := fun b hb => ⟨by rw [upd_ne (fpP b hb)]; exact (f2 b hb).1, (f2 b hb).2⟩
    have sz4 : ∀ b ∈ fp, b < s4.heap.objs.size := fun b hb => by
      obtain ⟨o, e, _⟩ := fpo b hb
      rw [e4h]
      exact Heap.lt_size (keep3 b o (fpP b hb) e)
    have st4 : tn 0 s4.heap := T.keep _ _ _ st2 fun b hb o e => by rw [e4h]; exact keep3 b o (fpP b hb) e
    have bare5 : AllBare (s4.gens.push (.fresh (.compStart (.GeneratorExp elt [⟨tg, iter, ifs, 0⟩] scope gpos) 0 (.ref it) .none (genEnv scope (cloFrom X.env.cells scope.names []) s4.heap.objs.size code builtinsNs X.env)))) := I4.bare.push rfl
    refine hQ J _ _ _ (q ps' ht3 ⟨more, em⟩) ⟨s4.gens.size, go, fp, code, s4, I4, fun b o e => Heap.get?_push_of_some _ (keep' b o e), f4, hgen, hpu, I4.nolimit.keeps fun b o e => Heap.get?_push_of_some _ (keep' b o e), rfl, bare5, ?_⟩
    intro A gg tt te Ac C Qe W Ss s6 hh hfr pg pt pe hSs hk6 ho6 hg6 tu ⟨m0, w0⟩ hac
    have hk6 : ∀ b o, (h'.push go).get? b = some o → s6.heap.get? b = some o := hk6
    have hSs : ∀ b ∈ Ss, (h'.push go).objs.size ≤ b ∧ ∃ o, s6.heap.get? b = some o ∧ ∀ v, o.data ≠ .cell v := hSs
    have szS : ∀ b ∈ Ss, s4.heap.objs.size + 2 ≤ b := fun b hb => by
      have := (hSs b hb).1
      rw [Heap.size_push, hsz'] at this
      exact this
    have kp6 : ∀ b o, s4.heap.get? b = some o → s6.heap.get? b = some o := fun b o e => hk6 b o (Heap.get?_push_of_some _ (keep' b o e))
    have hea : s6.heap.get? h'.objs.size = some go := hk6 _ _ hpu
    have g6 : s6.gens = s4.gens.push (.fresh (.compStart (.GeneratorExp elt [⟨tg, iter, ifs, 0⟩] scope gpos) 0 (.ref it) .none (genEnv scope (cloFrom X.env.cells scope.names []) s4.heap.objs.size code builtinsNs X.env))) := hg6
    refine ⟨m0 + 1, hgen _ hea, I4.nolimit.keeps kp6, .fresh (.compStart (.GeneratorExp elt [⟨tg, iter, ifs, 0⟩] scope gpos) 0 (.ref it) .none (genEnv scope (cloFrom X.env.cells scope.names []) s4.heap.objs.size code builtinsNs X.env)), by rw [g6]; exact Array.getElem?_push_size .., rfl, ?_⟩
    have hns6 : s6.heap.Ns s4.heap.objs.size (fun y => if y = ".0" then some (.ref it) else none) := hn'.keeps fun b o e => hk6 b o (Heap.get?_push_of_some _ e)
    have I6 := start (h5 := s6.heap) (g' := (s6.setGen s4.gens.size .running).gens) (d' := s6.drawn) (t' := s6.toks) (A := A) (code := code) I4 ok hN hfr hh (fun b hb => ⟨f4 b hb, sz4 b hb⟩) hns6 kp6 (allBare_setGen (by rw [g6]; exact bare5) rfl)
    have eS : ({ s4 with heap := s6.heap, gens := (s6.setGen s4.gens.size .running).gens, drawn := s6.drawn, toks := s6.toks } : Shared) = s6.setGen s4.gens.size .running := GxR.sh_eta s4 (s6.setGen s4.gens.size .running) ho6
    rw [eS] at I6
    have young : ∀ b, s4.heap.objs.size < b → upd H1 P (.tbl ps') b = none ∧ b ≠ s4.heap.objs.size ∧ b ∉ frs X.stack := fun b hb => by
      refine ⟨I4.hok.fresh (Nat.le_of_lt hb), Nat.ne_of_gt hb, fun z => ?_⟩
      obtain ⟨_, o, ho, _⟩ := I4.stack.mem z
      exact absurd (Nat.lt_trans (Heap.lt_size ho) hb) (Nat.lt_irrefl _)
    have ltA : s4.heap.objs.size < h'.objs.size := by rw [hsz']; exact Nat.lt_succ_self _
    have ltS : ∀ b ∈ Ss, s4.heap.objs.size < b := fun b hb => Nat.lt_of_lt_of_le (by omega) (szS b hb)
    have cellLt : ∀ y c, (cloFrom X.env.cells scope.names []).lookup y = some c → c < s4.heap.objs.size := fun y c e => by
      rcases cloFrom_mem (PySem.mem_of_lookup e) with hm | ⟨h1, h2⟩
      · cases hm
      · obtain ⟨c1, hc⟩ := hfree _ h1 rfl
        have hc : X.env.cells.lookup y = some c1 := hc
        have e2 : c = c1 := by
          rw [h2, hc] <;> rfl
        rw [e2]
        obtain ⟨v, z⟩ := I4.cell y c1 hc
        exact z.lt
    have cn : Cons (cx X A s4 (upd H1 P (.tbl ps')) (env X scope s4.heap.objs.size code) fp) h'.objs.size fp Ss :=
      ⟨fun b hb => Nat.le_of_lt (ltS b hb), fun b hb => Nat.ne_of_gt (ltS b hb), fun b hb y c e => Nat.ne_of_lt (Nat.lt_trans (cellLt y c e) (ltS b hb)), fun b hb z => by
        have := szS b hb
        rw [z, hsz'] at this
        omega, fun b hb z => absurd (Nat.lt_trans (sz4 b z) (ltS b hb)) (Nat.lt_irrefl _)⟩
    have haf : h'.objs.size ∉ fp := fun z => absurd (Nat.lt_trans (sz4 _ z) ltA) (Nat.lt_irrefl _)
    have I7 : Inv (cx X A s4 (upd H1 P (.tbl ps')) (env X scope s4.heap.objs.size code) fp) ((h'.objs.size, go) :: pinsAt Ss (s6.setGen s4.gens.size .running).heap) (wipe σ (own.map (·.2))) (upd H1 P (.tbl ps')) (s6.setGen s4.gens.size .running) := I6.pins_of fun p hp => by
      rcases List.mem_cons.mp hp with z | z
      · rw [z]
        obtain ⟨y1, y2, y3⟩ := young _ ltA
        exact ⟨hea, y1, y2, y3, hgd⟩
      · obtain ⟨hb, e⟩ := of_pinsAt z
        obtain ⟨y1, y2, y3⟩ := young _ (ltS _ hb)
        obtain ⟨_, o, e2, d⟩ := hSs _ hb
        have e : s6.heap.get? p.1 = some p.2 := e
        rw [e] at e2
        cases e2
        exact ⟨e, y1, y2, y3, d⟩
    exact seg_begin (Z := cx X A s4 (upd H1 P (.tbl ps')) (env X scope s4.heap.objs.size code) fp) rfl rfl rfl rfl rfl ok.co haf cn T pg pt pe tu (Nat.lt_succ_self m0) w0 hac I7 (fun b hb => let ⟨_, o, e, _⟩ := hSs b hb; ⟨o, e⟩) (T.keep _ _ _ st4 fun b _ o e => kp6 b o e) fun b hb => (f4 b hb).1
  cases hf : codeAmong gpos ps.toList with
  | none =>
    refine wpAny_genexprCodeX hcode (cd.code hPs ht) (cd.tab hPs) hf fun c' h' tk hx hge hlt hco' _ htab' _ => ?_
    obtain ⟨o1, vs, f1, tf, fl, tg, inF, tx, tt, op, _, _, _, _, _, _, _, _, _, htr, _⟩ := hco'
    exact cont _ h' tk _ hx (Nat.le_trans hge (Nat.le_of_lt hlt)) htab'.2 ⟨_, rfl⟩ htr
  | some cv =>
    refine wpAny_genexprCode_hit hcode (cd.code hPs ht) hf ?_
    exact cont cv s2.heap s2.toks ps (Heap.ExtBut.refl _ _) (Nat.le_refl _) hPs ⟨#[], by simp⟩ ht

/-! ### consumers -/
def CAny (Qt : Hp → Prop) : CK := fun _ y H Nx => ∃ b, y = .bl b ∧ if b = true then Qt H else Nx [] H
def CAll (Qf : Hp → Prop) : CK := fun _ y H Nx => ∃ b, y = .bl b ∧ if b = true then Nx [] H else Qf H
abbrev noA : AK := fun _ _ => True
theorem any_loop {Z : Cx} {A : Around} {a : Addr} {g : Nat} {go : Obj} {Qt Qf : Hp → Prop} {R : Result → Shared → Prop} (hh : A.handled = none) (hroom : A.depth < recursionLimit) (hgen : ∀ h : Heap, h.get? a = some go → h.IsGen a g) (hpn : Z.pn = [])
    (h1 : ∀ H s', Qt H → Out Z H s' → R (.ok (.ret (.bool true))) s') (h2 : ∀ H s', Qf H → Out Z H s' → R (.ok (.ret (.bool false))) s') :
    ∀ (n : Nat) (s : Shared), Rdy Z A.in1.in1 a g go [] noA (CAny Qt) (fun _ H => Qf H) n s → codeAny (model Z.prog Z.w) A (.builtin "any.loop" ⟨[.ref a], []⟩) R s := by
  intro n
  induction n with
  | zero =>
    intro s rd
    refine codeAny_builtin F.entry_any_loop ?_
    rw [Around.under_plainId F.plain_any_loop _]
    show wpAny _ A.in1 (pyNext (.ref a) >>= _) _ _ s
    refine wpAny_bind (next (A := A.in1) hh hroom hgen (by simp) (by simp) hpn rd (fun v x acc H Nx s1 rv _ hC ho _ res => ?_) fun acc H s1 _ q ho _ => ?_)
    · obtain ⟨b, rfl, hC⟩ := hC
      obtain rfl : v = Value.bool b := rv
      refine wpAny_bind (wpAny_holding (wpAny_truthy_bool ?_))
      refine wpAny_bind (wpAny_letGo ?_)
      cases b with
      | false =>
        rw [if_neg Bool.false_ne_true] at hC
        obtain ⟨n', z, _⟩ := res [] s1 hC trivial rfl rfl (fun _ _ _ e => e) (by simp)
        cases z
      | true =>
        simp only [if_true]
        rw [if_pos rfl] at hC
        exact wpAny_bind (wpAny_rule (wpAny_pure (h1 H s1 hC ho)))
    · exact wpAny_bind (wpAny_rule (wpAny_pure (h2 H s1 q ho)))
  | succ n ih =>
    intro s rd
    refine codeAny_builtin F.entry_any_loop ?_
    rw [Around.under_plainId F.plain_any_loop _]
    show wpAny _ A.in1 (pyNext (.ref a) >>= _) _ _ s
    refine wpAny_bind (next (A := A.in1) hh hroom hgen (by simp) (by simp) hpn rd (fun v x acc H Nx s1 rv _ hC ho _ res => ?_) fun acc H s1 _ q ho _ => ?_)
    · obtain ⟨b, rfl, hC⟩ := hC
      obtain rfl : v = Value.bool b := rv
      refine wpAny_bind (wpAny_holding (wpAny_truthy_bool ?_))
      refine wpAny_bind (wpAny_letGo ?_)
      cases b with
      | false =>
        simp only [Bool.false_eq_true, if_false]
        rw [if_neg Bool.false_ne_true] at hC
        obtain ⟨n', z, rd'⟩ := res [] s1 hC trivial rfl rfl (fun _ _ _ e => e) (by simp)
        obtain rfl : n' = n := by omega
        exact wpAny_pure ⟨plainId_quiet F.plain_any_loop _, ih s1 rd'⟩
      | true =>
        simp only [if_true]
        rw [if_pos rfl] at hC
        exact wpAny_bind (wpAny_rule (wpAny_pure (h1 H s1 hC ho)))
    · exact wpAny_bind (wpAny_rule (wpAny_pure (h2 H s1 q ho)))
theorem all_loop {Z : Cx} {A : Around} {a : Addr} {g : Nat} {go : Obj} {Qt Qf : Hp → Prop} {R : Result → Shared → Prop} (hh : A.handled = none) (hroom : A.depth < recursionLimit) (hgen : ∀ h : Heap, h.get? a = some go → h.IsGen a g) (hpn : Z.pn = [])
    (h1 : ∀ H s', Qt H → Out Z H s' → R (.ok (.ret (.bool true))) s') (h2 : ∀ H s', Qf H → Out Z H s' → R (.ok (.ret (.bool false))) s') :
    ∀ (n : Nat) (s : Shared), Rdy Z A.in1.in1 a g go [] noA (CAll Qf) (fun _ H => Qt H) n s → codeAny (model Z.prog Z.w) A (.builtin "all.loop" ⟨[.ref a], []⟩) R s := by
  intro n
  induction n with
  | zero =>
    intro s rd
    refine codeAny_builtin F.entry_all_loop ?_
    rw [Around.under_plainId F.plain_all_loop _]
    show wpAny _ A.in1 (pyNext (.ref a) >>= _) _ _ s
    refine wpAny_bind (next (A := A.in1) hh hroom hgen (by simp) (by simp) hpn rd (fun v x acc H Nx s1 rv _ hC ho _ res => ?_) fun acc H s1 _ q ho _ => ?_)
    · obtain ⟨b, rfl, hC⟩ := hC
      obtain rfl : v = Value.bool b := rv
      refine wpAny_bind (wpAny_holding (wpAny_truthy_bool ?_))
      refine wpAny_bind (wpAny_letGo ?_)
      cases b with
      | true =>
        rw [if_pos rfl] at hC
        obtain ⟨n', z, _⟩ := res [] s1 hC trivial rfl rfl (fun _ _ _ e => e) (by simp)
        cases z
      | false =>
        simp only [Bool.false_eq_true, if_false]
        rw [if_neg Bool.false_ne_true] at hC
        exact wpAny_bind (wpAny_rule (wpAny_pure (h2 H s1 hC ho)))
    · exact wpAny_bind (wpAny_rule (wpAny_pure (h1 H s1 q ho)))
  | succ n ih =>
    intro s rd
    refine codeAny_builtin F.entry_all_loop ?_
    rw [Around.under_plainId F.plain_all_loop _]
    show wpAny _ A.in1 (pyNext (.ref a) >>= _) _ _ s
    refine wpAny_bind (next (A := A.in1) hh hroom hgen (by simp) (by simp) hpn rd (fun v x acc H Nx s1 rv _ hC ho _ res => ?_) fun acc H s1 _ q ho _ => ?_)
    · obtain ⟨b, rfl, hC⟩ := hC
      obtain rfl : v = Value.bool b := rv
      refine wpAny_bind (wpAny_holding (wpAny_truthy_bool ?_))
      refine wpAny_bind (wpAny_letGo ?_)
      cases b with
      | true =>
        simp only [if_true]
        rw [if_pos rfl] at hC
        obtain ⟨n', z, rd'⟩ := res [] s1 hC trivial rfl rfl (fun _ _ _ e => e) (by simp)
        obtain rfl : n' = n := by omega
        exact wpAny_pure ⟨plainId_quiet F.plain_all_loop _, ih s1 rd'⟩
      | false =>
        simp only [Bool.false_eq_true, if_false]
        rw [if_neg Bool.false_ne_true] at hC
        exact wpAny_bind (wpAny_rule (wpAny_pure (h2 H s1 hC ho)))
    · exact wpAny_bind (wpAny_rule (wpAny_pure (h1 H s1 q ho)))
/-- the list that is filled -/
def AList (S : Addr) : AK := fun acc h => ∃ (xs : Array Value) (c : Nat), h.get? S = some (lstObj xs c) ∧ Vals acc xs.toList
def CApp : CK := fun acc y H Nx => acc.length < sizeLine ∧ Nx (acc ++ [y]) H
theorem ext_loop {Z : Cx} {A : Around} {a S : Addr} {g : Nat} {go : Obj} {Qe : List V → Hp → Prop} {res : Value} {R : Result → Shared → Prop} (hh : A.handled = none) (hroom : A.depth < recursionLimit) (hgen : ∀ h : Heap, h.get? a = some go → h.IsGen a g) (hpn : Z.pn = [])
    (haS : a ≠ S) (hcS : cStatics ≠ S) (h1 : ∀ acc xs c H s', Qe acc H → Out Z H s' → s'.heap.get? S = some (lstObj xs c) → H S = none → Vals acc xs.toList → R (.ok (.ret res)) s') :
    ∀ (n : Nat) (s : Shared), Rdy Z A.in1.in1 a g go [S] (AList S) CApp Qe n s → (∃ o, s.heap.get? S = some o) → codeAny (model Z.prog Z.w) A (.builtin "list.extend.loop" ⟨[.ref S, .ref a, res], []⟩) R s := by
  intro n
  induction n with
  | zero =>
    intro s rd hS
    refine codeAny_builtin F.entry_extend_loop ?_
    rw [Around.under_plainId F.plain_extend_loop _]
    show wpAny _ A.in1 (pyNext (.ref a) >>= _) _ _ s
    refine wpAny_bind (next (A := A.in1) hh hroom hgen (by simpa using haS) (by simpa using hcS) hpn rd (fun v x acc H Nx s1 rv hac hC ho hk res => ?_) fun acc H s1 hac q ho hk => ?_)
    · obtain ⟨xs, c, e, vs⟩ := hac
      obtain ⟨e1, _⟩ := hk S (by simp) _ e
      obtain ⟨hlt, hN⟩ := hC
      have hz : xs.size < sizeLine := by have := vs.length; simp at this; omega
      have e2 := Heap.get?_update_self (h := s1.heap) (Obj.mapSeq (·.push v)) e1 rfl
      obtain ⟨n', z, _⟩ := res _ { s1 with heap := s1.heap.update S (Obj.mapSeq (·.push v)) } hN ⟨_, _, e2, by rw [Array.toList_push]; exact vs.append (.cons rv .nil)⟩ rfl rfl (fun b o hb q => (Heap.get?_update_other _ _ (fun z => hb (by simp [z]))).trans q)
        (fun b hb => by obtain rfl := List.mem_singleton.mp hb; exact ⟨_, e2, fun v z => by cases z⟩)
      cases z
    · obtain ⟨xs, c, e, vs⟩ := hac
      obtain ⟨e1, e2⟩ := hk S (by simp) _ e
      exact wpAny_pure (h1 acc xs c H s1 q ho e1 e2 vs)
  | succ n ih =>
    intro s rd hS
    refine codeAny_builtin F.entry_extend_loop ?_
    rw [Around.under_plainId F.plain_extend_loop _]
    show wpAny _ A.in1 (pyNext (.ref a) >>= _) _ _ s
    refine wpAny_bind (next (A := A.in1) hh hroom hgen (by simpa using haS) (by simpa using hcS) hpn rd (fun v x acc H Nx s1 rv hac hC ho hk res => ?_) fun acc H s1 hac q ho hk => ?_)
    · obtain ⟨xs, c, e, vs⟩ := hac
      obtain ⟨e1, _⟩ := hk S (by simp) _ e
      obtain ⟨hlt, hN⟩ := hC
      have hz : xs.size < sizeLine := by have := vs.length; simp at this; omega
      have e2 := Heap.get?_update_self (h := s1.heap) (Obj.mapSeq (·.push v)) e1 rfl
      obtain ⟨n', z, rd'⟩ := res _ { s1 with heap := s1.heap.update S (Obj.mapSeq (·.push v)) } hN ⟨_, _, e2, by rw [Array.toList_push]; exact vs.append (.cons rv .nil)⟩ rfl rfl (fun b o hb q => (Heap.get?_update_other _ _ (fun z => hb (by simp [z]))).trans q)
        (fun b hb => by obtain rfl := List.mem_singleton.mp hb; exact ⟨_, e2, fun v z => by cases z⟩)
      obtain rfl : n' = n := by omega
      show wpAny _ A.in1 (updateSeq S (·.push v) >>= _) _ _ _
      refine wpAny_bind ?_
      refine wpAny_updateSeq e1 rfl (wpAny_pure ⟨plainId_quiet F.plain_extend_loop _, ih _ rd' ⟨_, e2⟩⟩) (Nat.le_of_lt hz) (by show (xs.push v).size ≤ sizeLine + 1; rw [Array.size_push]; omega)
    · obtain ⟨xs, c, e, vs⟩ := hac
      obtain ⟨e1, e2⟩ := hk S (by simp) _ e
      exact wpAny_pure (h1 acc xs c H s1 q ho e1 e2 vs)
end
end Gx

/-! Sv, part T: any, all, tuple of a generator expression. -/
namespace Gx
open PySem PySem.Spec PyProof.Rows L2
open AutoSeq1 (wpAny_loadPart')
section
variable {X : Cx} {pins : List (Addr × Obj)} {σ : L2.St} {H H2 : Hp} {s s4 : Shared}
theorem Out.inv {A : Around} {e : Env} {fp : List Addr} {s' : Shared} (I4 : Inv X pins σ H2 s4) (hf : ∀ b ∈ fp, FpOk X pins H2 b) (o : Out (cx X A s4 H2 e fp) H s') : Inv X pins σ H s' :=
  I4.call' (ch := fp) o.1 o.2.2.1 o.2.2.2 o.2.1 fun b hb => ⟨(hf b hb).2.2.2.1, (hf b hb).2.1, (hf b hb).2.2.2.2.1, (hf b hb).2.2.2.2.2⟩
/-- what is wanted of the turns -/
def RJ (g : TG) (tt : TT) (te : TE) (vs : List Nat) (σ : L2.St) (C : CK) (Qe : List V → Hp → Prop) (J : It) (H2 : Hp) : Prop := ∃ W : Nat → Nat → List V → Hp → Prop, (∃ m, W 0 m [] H2) ∧ Turns J g tt te vs σ C Qe W
def tGx (P : Addr) (wi : TI) (g : TG) (tt : TT) (te : TE) (vs : List Nat) (C : VK → CK) (Qe : VK → List V → Hp → Prop) : TE := fun σ H Q => wi σ H fun J H1 => ∃ ps, H1 P = some (.tbl ps) ∧ TriplesOk ps.toList ∧
  ∀ ps', TriplesOk ps'.toList → (∃ more, ps' = ps ++ more) → RJ g tt te vs σ (C Q) (Qe Q) J (upd H1 P (.tbl ps'))
/-- the parts of the generator's code are served -/
structure Srv (X : Cx) (k : Nat) (scope : Scope) (tg : Expr) (ifs : List Expr) (elt : Expr) (g : TG) (tt : TT) (te : TE) : Prop where
  g : ∀ (A : Around) (s : Shared) (H : Hp) (L : Addr) (code : Value) (fp : List Addr), Room k (A.deeper (env X scope L code)) → PG (cx X A s H (env X scope L code) fp) tg g
  t : ∀ (A : Around) (s : Shared) (H : Hp) (L : Addr) (code : Value) (fp : List Addr), Room k (A.deeper (env X scope L code)) → PTs (cx X A s H (env X scope L code) fp) ifs tt
  e : ∀ (A : Around) (s : Shared) (H : Hp) (L : Addr) (code : Value) (fp : List Addr), Room k (A.deeper (env X scope L code)) → PE (cx X A s H (env X scope L code) fp) elt te
theorem room4 {k : Nat} {A : Around} (hr : Room (k + 1) A) (e : Env) : Room k (A.in1.in1.in1.in1.deeper e) :=
  ⟨hr.hd, by have := hr.dp; show A.depth + 1 + 3 * k + 5 < _; omega, by have := hr.un; show A.units + 1 + 1 + 1 + 1 + 3 + 16 * k + 200 < _; omega⟩
theorem room2 {k : Nat} {A : Around} (hr : Room (k + 1) A) (e : Env) : Room k (A.in1.in1.deeper e) :=
  ⟨hr.hd, by have := hr.dp; show A.depth + 1 + 3 * k + 5 < _; omega, by have := hr.un; show A.units + 1 + 1 + 3 + 16 * k + 200 < _; omega⟩
section
variable {c P : Addr} {elt tg iter : Expr} {ifs : List Expr} {scope : Scope} {own : List (Str × Nat)} {p pos gpos : Pos} {wi : TI} {g : TG} {tt : TT} {te : TE} {k : Nat}
theorem pe_any (hr : Room (k + 1) X.A) (hg : Gl X "any") (hm : X.mg "any" = none) (hN : X.N.Nodup) (TB : LamX.TabB X.base X.mg c P) (hcode : X.env.code = .ref c) (ok : Ok X.N X.env.scope scope own) (hi : PI X tg iter wi) (sv : Srv X k scope tg ifs elt g tt te)
    (hs : ∀ v, genFold iter X.env v = pure v) (he : starEach [.GeneratorExp elt [⟨tg, iter, ifs, 0⟩] scope gpos] X.env = (false, eval (.GeneratorExp elt [⟨tg, iter, ifs, 0⟩] scope gpos) X.env) :: starEach [] X.env := by rfl) :
    PE X (.Call (.Name "any" p) [.GeneratorExp elt [⟨tg, iter, ifs, 0⟩] scope gpos] [] pos) (tGx P wi g tt te (own.map (·.2)) (fun Q => CAny (Q (.bl true))) fun Q _ H => Q (.bl false) H) := by
  refine ⟨fun pins s σ H Q I h => ?_⟩
  refine wpAny_Call_Name_kw (ld_blt I hg hm boot_any ?_)
  refine PyProof.Rows.callWith_builtin1 ?_ he (by rfl)
  rw [he]
  show wpAny _ _ (spliced ((false, eval (.GeneratorExp elt [⟨tg, iter, ifs, 0⟩] scope gpos) X.env) :: backTo pos (starEach [] X.env))) _ _ s
  refine Calls.spliced_cons (make hr hN TB hcode ok hi hs I h fun J H2 a s5 rj md => ?_)
  obtain ⟨gn, go, fp, code, s4, I4, kp, hf, hgen, hgo, hl, hos, hb, wake⟩ := md
  obtain ⟨W, hw, tu⟩ := rj
  refine Calls.spliced_nil ?_
  refine call_function_tree F.kind_any F.plain_any F.entry_any (F.args_any1 _) ?_
  unfold Builtin.«any»
  refine wpAny_bind (m := oneArg "any" _) (wpAny_pure ?_)
  refine wpAny_bind (wpAny_pyIter_gen (hgen _ hgo) ?_)
  obtain ⟨n, rd⟩ := wake X.A.in1.in1 g tt te noA _ _ W [] s5 hr.hd I.ok.frames (sv.g _ _ _ _ _ _ (room2 hr _)) (sv.t _ _ _ _ _ _ (room2 hr _)) (sv.e _ _ _ _ _ _ (room2 hr _)) (by simp) (fun _ _ e => e) rfl rfl tu hw trivial
  refine wpAny_pure ⟨plainId_quiet F.plain_any_loop _, any_loop (Z := cx X X.A.in1.in1 s4 H2 (env X scope s4.heap.objs.size code) fp) (A := X.A) hr.hd hr.depth hgen rfl (fun H' s' q o => ?_) (fun H' s' q o => ?_) n s5 rd⟩
  · exact ⟨.bl true, H', o.inv I4 hf, rfl, q⟩
  · exact ⟨.bl false, H', o.inv I4 hf, rfl, q⟩
theorem pe_all (hr : Room (k + 1) X.A) (hg : Gl X "all") (hm : X.mg "all" = none) (hb : bootBuiltins "all" = some (.builtin "all")) (hN : X.N.Nodup) (TB : LamX.TabB X.base X.mg c P) (hcode : X.env.code = .ref c) (ok : Ok X.N X.env.scope scope own) (hi : PI X tg iter wi) (sv : Srv X k scope tg ifs elt g tt te)
    (hs : ∀ v, genFold iter X.env v = pure v) (he : starEach [.GeneratorExp elt [⟨tg, iter, ifs, 0⟩] scope gpos] X.env = (false, eval (.GeneratorExp elt [⟨tg, iter, ifs, 0⟩] scope gpos) X.env) :: starEach [] X.env := by rfl) :
    PE X (.Call (.Name "all" p) [.GeneratorExp elt [⟨tg, iter, ifs, 0⟩] scope gpos] [] pos) (tGx P wi g tt te (own.map (·.2)) (fun Q => CAll (Q (.bl false))) fun Q _ H => Q (.bl true) H) := by
  refine ⟨fun pins s σ H Q I h => ?_⟩
  refine wpAny_Call_Name_kw (ld_blt I hg hm hb ?_)
  refine PyProof.Rows.callWith_builtin1 ?_ he (by rfl)
  rw [he]
  show wpAny _ _ (spliced ((false, eval (.GeneratorExp elt [⟨tg, iter, ifs, 0⟩] scope gpos) X.env) :: backTo pos (starEach [] X.env))) _ _ s
  refine Calls.spliced_cons (make hr hN TB hcode ok hi hs I h fun J H2 a s5 rj md => ?_)
  obtain ⟨gn, go, fp, code, s4, I4, kp, hf, hgen, hgo, hl, hos, hb, wake⟩ := md
  obtain ⟨W, hw, tu⟩ := rj
  refine Calls.spliced_nil ?_
  refine call_function_tree F.kind_all F.plain_all F.entry_all (F.args_all1 _) ?_
  unfold Builtin.«all»
  refine wpAny_bind (m := oneArg "all" _) (wpAny_pure ?_)
  refine wpAny_bind (wpAny_pyIter_gen (hgen _ hgo) ?_)
  obtain ⟨n, rd⟩ := wake X.A.in1.in1 g tt te noA _ _ W [] s5 hr.hd I.ok.frames (sv.g _ _ _ _ _ _ (room2 hr _)) (sv.t _ _ _ _ _ _ (room2 hr _)) (sv.e _ _ _ _ _ _ (room2 hr _)) (by simp) (fun _ _ e => e) rfl rfl tu hw trivial
  refine wpAny_pure ⟨plainId_quiet F.plain_all_loop _, all_loop (Z := cx X X.A.in1.in1 s4 H2 (env X scope s4.heap.objs.size code) fp) (A := X.A) hr.hd hr.depth hgen rfl (fun H' s' q o => ?_) (fun H' s' q o => ?_) n s5 rd⟩
  · exact ⟨.bl true, H', o.inv I4 hf, rfl, q⟩
  · exact ⟨.bl false, H', o.inv I4 hf, rfl, q⟩
/-- all that it hands out, in a list of the model's own -/
theorem collect_gx {Z : Cx} {A : Around} {a : Addr} {gn : Nat} {go : Obj} {Qe : List V → Hp → Prop} {Q : List Value → Shared → Prop} {E : Value → Shared → Prop} (hh : A.handled = none) (hroom : A.depth < recursionLimit) (hgen : ∀ h : Heap, h.get? a = some go → h.IsGen a gn) (hpn : Z.pn = []) (hgo : s.heap.get? a = some go) (hl : s.heap.NoLimit)
    (wake : ∀ (S : Addr) (s6 : Shared), s.heap.objs.size ≤ S → (∃ c, s6.heap.get? S = some (lstObj #[] c)) → (∀ b o, s.heap.get? b = some o → s6.heap.get? b = some o) → s6.os = s.os → s6.gens = s.gens → ∃ n, Rdy Z A.in1.in1 a gn go [S] (AList S) CApp Qe n s6)
    (hQ : ∀ acc (xs : Array Value) H s', Qe acc H → Out Z H s' → Vals acc xs.toList → Q xs.toList s') : wpAny (model Z.prog Z.w) A (collect (.ref a)) Q E s := by
  have hal : a < s.heap.objs.size := Heap.lt_size hgo
  have hcl : cStatics < s.heap.objs.size := let ⟨_, hn, _⟩ := hl; hn.lt
  unfold collect
  refine wpAny_bind (wpAny_runValue (codeAny_builtin F.entry_proto_collect ?_))
  rw [Around.under_plainId F.plain_proto_collect _]
  show wpAny _ A.in1 (newList [] >>= fun l => again (.builtin "list.__iadd__" ⟨[l, .ref a], []⟩)) _ _ s
  refine wpAny_bind (wpAny_newObj_type ?_)
  refine wpAny_pure ⟨plainId_quiet F.plain_list_iadd _, codeAny_builtin F.entry_list_iadd ?_⟩
  rw [Around.under_plainId F.plain_list_iadd _]
  have gk : ∀ {h : Heap}, (∀ b o, s.heap.get? b = some o → h.get? b = some o) → h.IsGen a gn := fun q => hgen _ (q a go hgo)
  show wpAny _ A.in1 (Builtin.List.listExtendWith (.ref s.heap.objs.size) (.ref a) (.ref s.heap.objs.size)) _ _ _
  unfold Builtin.List.listExtendWith
  have k1 : ∀ b o, s.heap.get? b = some o → (s.heap.push { cls := .type "list", data := .seq ([] : List Value).toArray }).get? b = some o := fun b o e => Heap.get?_push_of_some _ e
  refine wpAny_bind (wpAny_typeOf (Heap.IsGen.typeIs (s := { s with heap := _ }) (gk k1)) ?_)
  have h1 : Builtin.List.listSameRef (.ref s.heap.objs.size) (.ref a) = false := by simp [Builtin.List.listSameRef, Nat.ne_of_gt hal]
  have h2 : (Value.type "generator" == Value.type "list") = false := by decide
  have h3 : (Value.type "generator" == Value.type "tuple") = false := by decide
  simp only [h1, h2, h3, Bool.or_false, Bool.false_eq_true, if_false]
  refine wpAny_bind (wpAny_pyIter_gen (s := { s with heap := _ }) (gk k1) ?_)
  refine wpAny_bind (wpAny_holding ?_)
  unfold Builtin.List.listLengthHint
  refine wpAny_bind (wpAny_specialOf (Heap.IsGen.typeIs (s := { s with heap := _ }) (gk k1)) F.gen_no_len ?_)
  show wpAny _ A.in1 (specialOf (Value.ref a) (Str.ofString "__length_hint__") >>= _) _ _ _
  refine wpAny_bind (wpAny_specialOf (Heap.IsGen.typeIs (s := { s with heap := _ }) (gk k1)) F.gen_no_hint ?_)
  refine wpAny_pure ?_
  show wpAny _ A.in1 (rule "list.extend.makes-room" >>= fun _ => Builtin.List.listTouch (.ref s.heap.objs.size) >>= fun _ =>
    again (.builtin "list.extend.loop" ⟨[.ref s.heap.objs.size, .ref a, .ref s.heap.objs.size], []⟩)) _ _ _
  refine wpAny_bind (wpAny_rule ?_)
  have hS₁ : (s.heap.push { cls := .type "list", data := .seq ([] : List Value).toArray }).get? s.heap.objs.size = some { cls := .type "list", data := .seq ([] : List Value).toArray } := Heap.get?_push_size _ rfl
  refine wpAny_bind ?_
  show wpAny _ A.in1 (updateSeq s.heap.objs.size (·.push .none) >>= fun _ => updateSeq s.heap.objs.size (·.pop)) _ _ _
  refine wpAny_bind (wpAny_updateSeq hS₁ rfl ?_)
  have hS₂ := Heap.get?_update_self (Obj.mapSeq (·.push Value.none)) hS₁ rfl
  refine wpAny_updateSeq hS₂ rfl ?_
  have hS₃ := Heap.get?_update_self (Obj.mapSeq (·.pop)) hS₂ rfl
  have up : ∀ (h : Heap) (f : Obj → Obj), (∀ b o, s.heap.get? b = some o → h.get? b = some o) → ∀ b o, s.heap.get? b = some o → (h.update s.heap.objs.size f).get? b = some o := fun h f q b o e =>
    (Heap.get?_update_other _ _ (Ne.symm (Nat.ne_of_lt (Heap.lt_size e)))).trans (q b o e)
  have k3 := up _ (Obj.mapSeq (·.pop)) (up _ (Obj.mapSeq (·.push Value.none)) k1)
  obtain ⟨n, rd⟩ := wake s.heap.objs.size { s with heap := ((s.heap.push { cls := .type "list", data := .seq ([] : List Value).toArray }).update s.heap.objs.size (Obj.mapSeq (·.push Value.none))).update s.heap.objs.size (Obj.mapSeq (·.pop)) } (Nat.le_refl _) ⟨_, hS₃⟩ k3 rfl rfl
  refine wpAny_pure ⟨plainId_quiet F.plain_extend_loop _, ext_loop (A := A) hh hroom hgen hpn (Nat.ne_of_lt hal) (Nat.ne_of_lt hcl) (fun acc xs c H s' q o e n vs => ?_) n _ rd ⟨_, hS₃⟩⟩
  show wpAny _ A (load s.heap.objs.size >>= _) _ _ s'
  refine wpAny_bind (wpAny_load e ?_)
  exact wpAny_pure (hQ acc xs H s' q o vs)
theorem tuple_gx {Z : Cx} {A : Around} {a : Addr} {gn : Nat} {go : Obj} {Qe : List V → Hp → Prop} {Q : Value → Shared → Prop} {E : Value → Shared → Prop} (hh : A.handled = none) (hroom : A.depth < recursionLimit) (hgen : ∀ h : Heap, h.get? a = some go → h.IsGen a gn) (hpn : Z.pn = []) (hgo : s.heap.get? a = some go) (hl : s.heap.NoLimit)
    (wake : ∀ (S : Addr) (s6 : Shared), s.heap.objs.size ≤ S → (∃ c, s6.heap.get? S = some (lstObj #[] c)) → (∀ b o, s.heap.get? b = some o → s6.heap.get? b = some o) → s6.os = s.os → s6.gens = s.gens → ∃ n, Rdy Z A.in1.in1.in1.in1 a gn go [S] (AList S) CApp Qe n s6)
    (hQ : ∀ acc (xs : Array Value) H s', Qe acc H → Out Z H s' → Vals acc xs.toList → xs.size ≤ sizeLine ∧ Q (.ref s'.heap.objs.size) { s' with heap := s'.heap.push { cls := .type "tuple", data := .seq xs } }) : wpAny (model Z.prog Z.w) A (call (.type "tuple") [.ref a]) Q E s := by
  refine callType_codes (Q₁ := fun obj s₁ => s₁.TypeIs obj "tuple" ∧ Q obj s₁) F.called_tuple (F.typeCall_tuple_1 _) F.entry_object_init ?_ fun obj s₁ h₁ => ?_
  · refine codeAny_of_tree ?_
    show wpAny _ A.in1.in1 (do checkBuiltinCall "tuple.__new__" ⟨[.type "tuple", .ref a], []⟩; again (.builtin "tuple.__new__" ⟨[.type "tuple", .ref a], []⟩)) _ _ s
    refine wpAny_bind (wpAny_of_eq (F.newCall_tuple_1 _) (wpAny_pure ⟨plainId_quiet F.plain_tuple_new _, codeAny_builtin F.entry_tuple_new ?_⟩))
    rw [Around.under_plainId F.plain_tuple_new _]
    have hsub := sub_tuple_self
    have hinit := init_tuple_lookup
    have hmh := madeHere_tuple
    have hTI := (hgen _ hgo).typeIs (s := s)
    have hcl : ∀ {Q' : List Value → Shared → Prop} {E' : Value → Shared → Prop}, (∀ acc (xs : Array Value) H s', Qe acc H → Out Z H s' → Vals acc xs.toList → Q' xs.toList s') → wpAny (model Z.prog Z.w) A.in1.in1 (collect (.ref a)) Q' E' s := fun hq => collect_gx (Z := Z) (A := A.in1.in1) hh hroom hgen hpn hgo hl wake hq
    wp_walk using wpAny_typeOf hTI, hcl
    intro acc xs H s' q o vs
    obtain ⟨hz, hq⟩ := hQ acc xs H s' q o vs
    show wpAny _ _ (Builtin.Tuple.tupleExact xs.toList.toArray >>= fun v => ret v) _ _ _
    unfold Builtin.Tuple.tupleExact
    refine wpAny_bind (wpAny_newObj_type ?_ (by show xs.toList.toArray.size ≤ sizeLine; simpa using hz))
    refine wpAny_pure ?_
    have e : xs.toList.toArray = xs := by simp
    rw [e]
    exact ⟨⟨_, Heap.get?_push_size _ rfl, rfl⟩, hq⟩
  · exact ⟨h₁.1, F.args_object_init_2 obj _, object_init_meets F.called_tuple.init.lookup F.called_tuple.made (by decide) Z.prog Z.w A.in1 _ s₁ ⟨h₁.1, rfl, h₁.2⟩⟩
theorem pe_tupG (hr : Room (k + 1) X.A) (hg : Gl X "tuple") (hm : X.mg "tuple" = none) (hN : X.N.Nodup) (TB : LamX.TabB X.base X.mg c P) (hcode : X.env.code = .ref c) (ok : Ok X.N X.env.scope scope own) (hi : PI X tg iter wi) (sv : Srv X k scope tg ifs elt g tt te)
    (hs : ∀ v, genFold iter X.env v = pure v) (he : starEach [.GeneratorExp elt [⟨tg, iter, ifs, 0⟩] scope gpos] X.env = [(false, eval (.GeneratorExp elt [⟨tg, iter, ifs, 0⟩] scope gpos) X.env)] := by rfl) :
    PE X (.Call (.Name "tuple" p) [.GeneratorExp elt [⟨tg, iter, ifs, 0⟩] scope gpos] [] pos) (tGx P wi g tt te (own.map (·.2)) (fun _ => CApp) fun Q acc H => acc.length ≤ sizeLine ∧ ∀ q, H q = none → Q (.ref q) (upd H q (.tup acc))) := by
  refine ⟨fun pins s σ H Q I h => ?_⟩
  refine Call_ (ld_blt I hg hm PyProof.Rows.boot_tuple (PyProof.Rows.callWith_type1 ?_ he rfl))
  rw [he]
  show wpAny _ _ (spliced ((false, eval (.GeneratorExp elt [⟨tg, iter, ifs, 0⟩] scope gpos) X.env) :: backTo pos [])) _ _ s
  refine Calls.spliced_cons (make hr hN TB hcode ok hi hs I h fun J H2 a s5 rj md => ?_)
  obtain ⟨gn, go, fp, code, s4, I4, kp, hf, hgen, hgo, hl, hos, hb, wake⟩ := md
  obtain ⟨W, hw, tu⟩ := rj
  refine Calls.spliced_nil ?_
  refine tuple_gx (Z := cx X X.A.in1.in1.in1.in1 s4 H2 (env X scope s4.heap.objs.size code) fp) (Qe := fun acc H => acc.length ≤ sizeLine ∧ ∀ q, H q = none → Q (.ref q) (upd H q (.tup acc))) hr.hd hr.depth hgen rfl hgo hl (fun S s6 hS hc hk ho hgn => ?_) fun acc xs H' s' q o vs => ?_
  · obtain ⟨c0, hc⟩ := hc
    exact wake X.A.in1.in1.in1.in1 g tt te (AList S) _ _ W [S] s6 hr.hd I.ok.frames (sv.g _ _ _ _ _ _ (room4 hr _)) (sv.t _ _ _ _ _ _ (room4 hr _)) (sv.e _ _ _ _ _ _ (room4 hr _))
      (fun b hb => by obtain rfl := List.mem_singleton.mp hb; exact ⟨hS, _, hc, fun v z => by cases z⟩) hk ho hgn tu hw ⟨_, _, hc, .nil⟩
  · obtain ⟨hz, hq⟩ := q
    have I6 : Inv X pins σ H' s' := o.inv I4 hf
    have hlen := vs.length
    refine ⟨by simp at hlen; omega, .ref s'.heap.objs.size, upd H' s'.heap.objs.size (.tup acc), I6.laid (t' := s'.toks) (fun b u e => Heap.get?_push_of_some _ e) (Nat.le_refl _) ?_, rfl, hq _ (I6.hok.fresh (Nat.le_refl _))⟩
    refine ⟨hz, xs.toList, vs, ?_⟩
    have e : xs.toList.toArray = xs := by simp
    rw [e]
    exact IsTup.new _ _
end
end
end Gx

/-! Sv, part U: generator expressions that are consumed at once. -/
namespace Sv
open PySem PySem.Spec PyProof.Rows L2
variable [Tb]
section
variable {M : Md} {st : S} {τ : Tg} {σ : L2.St} {H : Hp}
/-- a table of generators' code grows -/
theorem Rel.tableG {P : Addr} {ps ps' : Array Value} (rel : Rel M st τ σ H) (hP : H P = some (.tbl ps)) (tP : τ P = .tb gxQ) (tr : TriplesOk ps'.toList) : Rel M st τ σ (upd H P (.tbl ps')) ∧ Evo τ H τ (upd H P (.tbl ps')) := by
  have neP : ∀ a g, τ a = g → (∀ q, g ≠ .tb q) → a ≠ P := fun a g e n z => n gxQ (by rw [← e, z, tP])
  have hh : ∀ a, a ≠ P → upd H P (.tbl ps') a = H a := fun a h => upd_ne h
  have kp : Kp τ H τ (upd H P (.tbl ps')) := ⟨fun a o e t => ⟨t, (hh a (neP a _ t (by simp))).trans e⟩, fun a r t => t⟩
  have ev : Evo τ H τ (upd H P (.tbl ps')) := ⟨kp, fun a o e t => ⟨t, (hh a (neP a _ t (by simp))).trans e⟩, fun a n => by
    by_cases e : a = P
    · rw [e, upd_same]; simp
    · rw [hh a e]; exact n, fun a i t => .inr ⟨i, t⟩⟩
  refine ⟨⟨rel.rs.kp kp fun a i t _ => ⟨t, hh a (neP a _ t (by simp))⟩, ⟨fun a r t => ?_, rel.ro.one, fun a t => ev.th a (rel.ro.al a t), ⟨rel.ro.tb.1, fun a q t => ?_, trivial⟩⟩⟩, ev⟩
  · obtain ⟨o, h1, h2⟩ := rel.ro.at_ a r t
    exact ⟨o, h1, h2.kp kp (hh a (neP a _ t (by simp)))⟩
  · obtain ⟨m, tf⟩ := rel.ro.tb.2.1 a q t
    refine ⟨m, ?_⟩
    by_cases e : a = P
    · subst e
      rw [tP] at t
      cases t
      exact ⟨_, upd_same, tr, .inl rfl⟩
    · exact tf.mono kp fun ps0 h0 => (hh a e).trans h0
end
/-- any (stop: true), all (stop: false) -/
def compB (stop : Bool) (vs : List Nat) (g : T → S → R Unit) (c : S → R Bool) (e : S → R Res) : List T → S → R Bool
  | [], s => .ok (!stop) s
  | t :: ts, s => match g t s with
    | .ok _ s => (match c s with
      | .ok true s => (match e s with
        | .ok r s => (match frz s r with
          | some (.bl b, s) => if b = stop then .ok stop ⟨wipeS s.sl vs, s.ob⟩ else compB stop vs g c e ts ⟨wipeS s.sl vs, s.ob⟩
          | _ => .stuck)
        | _ => .stuck)
      | .ok false s => compB stop vs g c e ts ⟨wipeS s.sl vs, s.ob⟩
      | _ => .stuck)
    | _ => .stuck
def eTupG (vs : List Nat) (fi : S → R (List T)) (g : T → S → R Unit) (c : S → R Bool) (e : S → R Res) : S → R Res := fun s => (fi s).bind fun ts s1 => match compL vs g c e ts [] ⟨wipeS s1.sl vs, s1.ob⟩ with
  | .ok l s2 => .ok (.val (.tup l)) ⟨backS s1.sl s2.sl vs, s2.ob⟩
  | _ => .stuck
def eBoolG (stop : Bool) (vs : List Nat) (fi : S → R (List T)) (g : T → S → R Unit) (c : S → R Bool) (e : S → R Res) : S → R Res := fun s => (fi s).bind fun ts s1 => match compB stop vs g c e ts ⟨wipeS s1.sl vs, s1.ob⟩ with
  | .ok b s2 => .ok (.val (.bl b)) ⟨backS s1.sl s2.sl vs, s2.ob⟩
  | _ => .stuck
section
variable {M : Md} {vs : List Nat} {fi : S → R (List T)} {g : T → S → R Unit} {c : S → R Bool} {e : S → R Res} {W : WX} {σ : L2.St} {H : Hp} {Q : VK} {P : Addr}
theorem gx_back {s1 s' : S} {τ1 τ' : Tg} {H2 H' : Hp} (rel1 : Rel M s1 τ1 σ H2) (ev' : Evo (hid (· ∈ vs) τ1) H2 τ' H') (rel' : Rel M s' τ' (wipe σ vs) H') : Evo τ1 H2 (shw (· ∈ vs) τ1 τ') H' ∧ Rel M ⟨backS s1.sl s'.sl vs, s'.ob⟩ (shw (· ∈ vs) τ1 τ') σ H' := by
  refine ⟨Evo.shw rel1.ro.al ev', Rel.shw rel1 ev' rel' rfl (by rw [backS_length, ← rel'.rs.len, wipe_length]) fun i b t q => ?_⟩
  rcases backS_some q with h | ⟨h1, h2⟩
  · exact .inl h
  · exact .inr ⟨h1, h2, wipe_out h1⟩
theorem gx_pre {s1 : S} {τ1 : Tg} {H2 : Hp} (rel1 : Rel M s1 τ1 σ H2) : Rel M ⟨wipeS s1.sl vs, s1.ob⟩ (hid (· ∈ vs) τ1) (wipe σ vs) H2 := by
  refine rel1.hid rfl (by rw [wipe_length, wipeS_length]; exact rel1.rs.len) fun i b t q => ?_
  obtain ⟨h1, h2⟩ := wipeS_some q
  exact ⟨h2, h1, wipe_out h2⟩
theorem tup_run (hT : (P, gxQ) ∈ M.T) (h : tG M (RRes M) (eTupG vs fi g c e) W σ H Q) :
    Gx.tGx P (tG M (RW M) fi W) (tGw M vs g) (tG M RBool c fun _ _ _ _ => False) (tG M (RRes M) e fun _ _ _ _ => False) vs (fun _ => Gx.CApp) (fun Q acc H => acc.length ≤ sizeLine ∧ ∀ q, H q = none → Q (.ref q) (upd H q (.tup acc))) σ H Q := by
  obtain ⟨s, τ, rel, post⟩ := h
  refine run1 (R1 := RW M) (.refl _ _) rel post fun ts s1 J τ1 H1 ev1 rel1 wk p => ?_
  have wk : Walks M J ts τ1 H1 := wk
  have tP := rel1.ro.tb.1 _ hT
  obtain ⟨_, ps, hP, ht, _⟩ := rel1.ro.tb.2.1 _ _ tP
  refine ⟨ps, hP, ht, fun ps' tr' _ => ?_⟩
  cases hfin : compL vs g c e ts [] ⟨wipeS s1.sl vs, s1.ob⟩ with
  | stuck => rw [hfin] at p; exact p.elim
  | exc cn s2 => rw [hfin] at p; exact p.elim
  | ok l s2 =>
    rw [hfin] at p
    obtain ⟨rel2, ev2⟩ := rel1.tableG hP tP tr'
    have rel0 := gx_pre (vs := vs) rel2
    refine ⟨fun i m accV H' => m = ts.length - i ∧ i ≤ ts.length ∧ ∃ s' τ' accT, Evo (hid (· ∈ vs) τ1) (upd H1 P (.tbl ps')) τ' H' ∧ Rel M s' τ' (wipe σ vs) H' ∧ Rps M τ' H' accT accV ∧ szok accT.length = true ∧ compL vs g c e (ts.drop i) accT s' = .ok l s2,
      ⟨_, rfl, Nat.zero_le _, _, _, [], .refl _ _, rel0, .nil, by decide, hfin⟩, ?_⟩
    rintro i m accV H' ⟨rfl, hle, s', τ', accT, ev', rel', rs', sz', fin'⟩
    have kpw : Kp τ1 H1 τ' H' := ev2.toKp.trans (kp_hid.trans ev'.toKp)
    obtain ⟨w1, w2⟩ := wk i τ' H' kpw
    by_cases hlt : i < ts.length
    · have ht : ts[i]? = some ts[i] := List.getElem?_eq_getElem hlt
      obtain ⟨go, yl⟩ := w2 _ ht
      rw [List.drop_eq_getElem_cons hlt, compL] at fin'
      refine .inr ⟨go, fun accV H'' => ∃ s' τ' accT, Evo (hid (· ∈ vs) τ1) (upd H1 P (.tbl ps')) τ' H'' ∧ Rel M s' τ' (wipe σ vs) H'' ∧ Rps M τ' H'' accT accV ∧ szok accT.length = true ∧ compL vs g c e (ts.drop (i + 1)) accT s' = .ok l s2,
        fun accV H'' q => ⟨ts.length - (i + 1), by omega, rfl, hlt, q⟩, fun x H'' y => ?_⟩
      obtain ⟨τ3, e3, rel3, rp3, _⟩ := item_in rel' (yl x H'' y)
      cases k : g ts[i] s' with
      | stuck => rw [k] at fin'; cases fin'
      | exc cn s4 => rw [k] at fin'; cases fin'
      | ok u s4 =>
        rw [k] at fin'
        simp only at fin'
        refine ⟨s', τ3, ts[i], s4, rel3, rp3, k, fun σ4 hw rel4 => ⟨hw.trans wipe_idem, s4, τ3, rel4, ?_⟩⟩
        rw [wipe_idem] at hw
        cases k2 : c s4 with
        | stuck => rw [k2] at fin'; cases fin'
        | exc cn s5 => rw [k2] at fin'; cases fin'
        | ok b s5 =>
          rw [k2] at fin'
          intro b' τ5 H5 ev5 rel5 eb
          have eb : b' = b := eb
          subst eb
          have evA := (ev'.trans e3).trans ev5
          have rs5 := rs'.mono (e3.toKp.trans ev5.toKp)
          cases b' with
          | false =>
            simp only at fin'
            rw [if_neg Bool.false_ne_true]
            exact ⟨_, τ5, accT, evA, rel5.wiped hw, rs5, sz', fin'⟩
          | true =>
            simp only at fin'
            rw [if_pos rfl]
            cases k3 : e s5 with
            | stuck => rw [k3] at fin'; cases fin'
            | exc cn s6 => rw [k3] at fin'; cases fin'
            | ok r s6 =>
              rw [k3] at fin'
              simp only at fin'
              refine ⟨s5, τ5, rel5, ?_⟩
              rw [k3]
              intro yv τ6 H6 ev6 rel6 r6
              split at fin'
              · rename_i y s7 ef
                split at fin'
                · rename_i hz
                  obtain ⟨τ7, e7, kp7, rel7, rp7⟩ := RelR.frz rel6 ev6 r6 ef
                  have rs7 := (rs5.mono e7.toKp).append (Rps.cons rp7 .nil)
                  refine ⟨?_, _, τ7, accT ++ [y], evA.trans e7, rel7.wiped hw, rs7, by rw [List.length_append]; exact hz, fin'⟩
                  have := szok_le hz
                  rw [rs'.length] at this
                  omega
                · cases fin'
              · cases fin'
    · have e : i = ts.length := by omega
      subst e
      rw [List.drop_length, compL] at fin'
      cases fin'
      obtain ⟨evF, relF⟩ := gx_back rel2 ev' rel'
      refine .inl ⟨w1 (Nat.le_refl _), by rw [← rs'.length]; exact szok_le sz', fun q hq => ?_⟩
      obtain ⟨relN, evN⟩ := relF.new (o := .tup accV) (g := .frz) hq (.inr (.inl rfl)) fun _ z => nomatch z
      exact p (.ref q) _ _ (((ev1.trans ev2).trans evF).trans evN) relN (.tup (.inl ⟨tset_same, .inl upd_same⟩) ((rs'.mono (kp_shw rel2.ro.al ev')).mono evN.toKp))
theorem bool_run {stop : Bool} (hT : (P, gxQ) ∈ M.T) (h : tG M (RRes M) (eBoolG stop vs fi g c e) W σ H Q) :
    Gx.tGx P (tG M (RW M) fi W) (tGw M vs g) (tG M RBool c fun _ _ _ _ => False) (tG M (RRes M) e fun _ _ _ _ => False) vs (fun Q => if stop = true then Gx.CAny (Q (.bl true)) else Gx.CAll (Q (.bl false))) (fun Q _ H => Q (.bl (!stop)) H) σ H Q := by
  obtain ⟨s, τ, rel, post⟩ := h
  refine run1 (R1 := RW M) (.refl _ _) rel post fun ts s1 J τ1 H1 ev1 rel1 wk p => ?_
  have wk : Walks M J ts τ1 H1 := wk
  have tP := rel1.ro.tb.1 _ hT
  obtain ⟨_, ps, hP, ht, _⟩ := rel1.ro.tb.2.1 _ _ tP
  refine ⟨ps, hP, ht, fun ps' tr' _ => ?_⟩
  cases hfin : compB stop vs g c e ts ⟨wipeS s1.sl vs, s1.ob⟩ with
  | stuck => rw [hfin] at p; exact p.elim
  | exc cn s2 => rw [hfin] at p; exact p.elim
  | ok l s2 =>
    rw [hfin] at p
    obtain ⟨rel2, ev2⟩ := rel1.tableG hP tP tr'
    have rel0 := gx_pre (vs := vs) rel2
    have outB : ∀ {s' : S} {τ' : Tg} {H' : Hp}, Evo (hid (· ∈ vs) τ1) (upd H1 P (.tbl ps')) τ' H' → Rel M s' τ' (wipe σ vs) H' → s' = s2 → Q (.bl l) H' := fun {s' τ' H'} ev' rel' es => by
      subst es
      obtain ⟨evF, relF⟩ := gx_back rel2 ev' rel'
      exact p (.bl l) _ _ ((ev1.trans ev2).trans evF) relF (.bl l)
    refine ⟨fun i m accV H' => m = ts.length - i ∧ i ≤ ts.length ∧ ∃ s' τ', Evo (hid (· ∈ vs) τ1) (upd H1 P (.tbl ps')) τ' H' ∧ Rel M s' τ' (wipe σ vs) H' ∧ compB stop vs g c e (ts.drop i) s' = .ok l s2,
      ⟨_, rfl, Nat.zero_le _, _, _, .refl _ _, rel0, hfin⟩, ?_⟩
    rintro i m accV H' ⟨rfl, hle, s', τ', ev', rel', fin'⟩
    have kpw : Kp τ1 H1 τ' H' := ev2.toKp.trans (kp_hid.trans ev'.toKp)
    obtain ⟨w1, w2⟩ := wk i τ' H' kpw
    by_cases hlt : i < ts.length
    · have ht : ts[i]? = some ts[i] := List.getElem?_eq_getElem hlt
      obtain ⟨go, yl⟩ := w2 _ ht
      rw [List.drop_eq_getElem_cons hlt, compB] at fin'
      refine .inr ⟨go, fun accV H'' => ∃ s' τ', Evo (hid (· ∈ vs) τ1) (upd H1 P (.tbl ps')) τ' H'' ∧ Rel M s' τ' (wipe σ vs) H'' ∧ compB stop vs g c e (ts.drop (i + 1)) s' = .ok l s2,
        fun accV H'' q => ⟨ts.length - (i + 1), by omega, rfl, hlt, q⟩, fun x H'' y => ?_⟩
      obtain ⟨τ3, e3, rel3, rp3, _⟩ := item_in rel' (yl x H'' y)
      cases k : g ts[i] s' with
      | stuck => rw [k] at fin'; cases fin'
      | exc cn s4 => rw [k] at fin'; cases fin'
      | ok u s4 =>
        rw [k] at fin'
        simp only at fin'
        refine ⟨s', τ3, ts[i], s4, rel3, rp3, k, fun σ4 hw rel4 => ⟨hw.trans wipe_idem, s4, τ3, rel4, ?_⟩⟩
        rw [wipe_idem] at hw
        cases k2 : c s4 with
        | stuck => rw [k2] at fin'; cases fin'
        | exc cn s5 => rw [k2] at fin'; cases fin'
        | ok b s5 =>
          rw [k2] at fin'
          intro b' τ5 H5 ev5 rel5 eb
          have eb : b' = b := eb
          subst eb
          have evA := (ev'.trans e3).trans ev5
          cases b' with
          | false =>
            simp only at fin'
            rw [if_neg Bool.false_ne_true]
            exact ⟨_, τ5, evA, rel5.wiped hw, fin'⟩
          | true =>
            simp only at fin'
            rw [if_pos rfl]
            cases k3 : e s5 with
            | stuck => rw [k3] at fin'; cases fin'
            | exc cn s6 => rw [k3] at fin'; cases fin'
            | ok r s6 =>
              rw [k3] at fin'
              simp only at fin'
              refine ⟨s5, τ5, rel5, ?_⟩
              rw [k3]
              intro yv τ6 H6 ev6 rel6 r6
              split at fin'
              · rename_i b s7 ef
                obtain ⟨τ7, e7, kp7, rel7, rp7⟩ := RelR.frz rel6 ev6 r6 ef
                cases rp7
                have evB := evA.trans e7
                have relB := rel7.wiped hw
                cases stop with
                | true =>
                  rw [if_pos rfl]
                  refine ⟨b, rfl, ?_⟩
                  cases b with
                  | true =>
                    rw [if_pos rfl] at fin' ⊢
                    cases fin'
                    exact outB evB relB rfl
                  | false =>
                    rw [if_neg Bool.false_ne_true] at fin' ⊢
                    exact ⟨_, τ7, evB, relB, fin'⟩
                | false =>
                  rw [if_neg Bool.false_ne_true]
                  refine ⟨b, rfl, ?_⟩
                  cases b with
                  | true =>
                    rw [if_pos rfl]
                    rw [if_neg (by simp)] at fin'
                    exact ⟨_, τ7, evB, relB, fin'⟩
                  | false =>
                    rw [if_neg Bool.false_ne_true]
                    rw [if_pos rfl] at fin'
                    cases fin'
                    exact outB evB relB rfl
              · cases fin'
    · have e : i = ts.length := by omega
      subst e
      rw [List.drop_length, compB] at fin'
      cases fin'
      exact .inl ⟨w1 (Nat.le_refl _), outB ev' rel' rfl⟩
end
/-- the parts of the generator's code are served -/
structure SrvT (X : Cx) (k : Nat) (scope : Scope) (vs : List Nat) (tg : Expr) (ifs : List Expr) (elt : Expr) (g : T → S → R Unit) (c : S → R Bool) (e : S → R Res) : Prop where
  g : ∀ (A : Around) (s : Shared) (H : Hp) (L : Addr) (code : Value) (fp : List Addr), Rm (Gx.cx X A s H (Gx.env X scope L code) fp) k → SGw (Gx.cx X A s H (Gx.env X scope L code) fp) vs tg g
  t : ∀ (A : Around) (s : Shared) (H : Hp) (L : Addr) (code : Value) (fp : List Addr), Rm (Gx.cx X A s H (Gx.env X scope L code) fp) k → STs (Gx.cx X A s H (Gx.env X scope L code) fp) ifs c
  e : ∀ (A : Around) (s : Shared) (H : Hp) (L : Addr) (code : Value) (fp : List Addr), Rm (Gx.cx X A s H (Gx.env X scope L code) fp) k → SE (Gx.cx X A s H (Gx.env X scope L code) fp) elt e
theorem SrvT.srv {X : Cx} {k : Nat} {scope : Scope} {vs : List Nat} {tg : Expr} {ifs : List Expr} {elt : Expr} {g : T → S → R Unit} {c : S → R Bool} {e : S → R Res} (h : SrvT X k scope vs tg ifs elt g c e) (nd : X.N.Nodup) :
    Gx.Srv X k scope tg ifs elt (tGw (Mx X) vs g) (tG (Mx X) RBool c fun _ _ _ _ => False) (tG (Mx X) (RRes (Mx X)) e fun _ _ _ _ => False) :=
  ⟨fun A s H L code fp hr => h.g A s H L code fp ⟨hr, rfl, nd⟩, fun A s H L code fp hr => h.t A s H L code fp ⟨hr, rfl, nd⟩ _ takes0, fun A s H L code fp hr => h.e A s H L code fp ⟨hr, rfl, nd⟩ _ takes0⟩
section
variable {X : Cx} {c P : Addr} {elt tg iter : Expr} {ifs : List Expr} {scope : Scope} {own : List (Str × Nat)} {p pos gpos : Pos} {k kX : Nat} {fi : S → R (List T)} {g : T → S → R Unit} {cc : S → R Bool} {e : S → R Res}
theorem se_tupG (rm : Rm X kX) (hk : k + 1 ≤ kX) (hg : Gl X "tuple") (hm : X.mg "tuple" = none) (TB : LamX.TabB X.base X.mg c P) (hcode : X.env.code = .ref c) (hT : (P, gxQ) ∈ Tb.T) (ok : Gx.Ok X.N X.env.scope scope own) (hi : SI X tg iter fi)
    (sv : SrvT X k scope (own.map (·.2)) tg ifs elt g cc e) (hs : ∀ v, genFold iter X.env v = pure v := by intro _; rfl)
    (he : starEach [.GeneratorExp elt [⟨tg, iter, ifs, 0⟩] scope gpos] X.env = [(false, eval (.GeneratorExp elt [⟨tg, iter, ifs, 0⟩] scope gpos) X.env)] := by rfl) :
    SE X (.Call (.Name "tuple" p) [.GeneratorExp elt [⟨tg, iter, ifs, 0⟩] scope gpos] [] pos) (eTupG (own.map (·.2)) fi g cc e) := fun W tk =>
  PE.imp (Gx.pe_tupG (rm.room.mono hk) hg hm rm.nd TB hcode ok (hi W tk) (sv.srv rm.nd) hs he) fun σ H Q h => tup_run (M := Mx X) hT h
theorem se_anyG (rm : Rm X kX) (hk : k + 1 ≤ kX) (hg : Gl X "any") (hm : X.mg "any" = none) (TB : LamX.TabB X.base X.mg c P) (hcode : X.env.code = .ref c) (hT : (P, gxQ) ∈ Tb.T) (ok : Gx.Ok X.N X.env.scope scope own) (hi : SI X tg iter fi)
    (sv : SrvT X k scope (own.map (·.2)) tg ifs elt g cc e) (hs : ∀ v, genFold iter X.env v = pure v := by intro _; rfl)
    (he : starEach [.GeneratorExp elt [⟨tg, iter, ifs, 0⟩] scope gpos] X.env = (false, eval (.GeneratorExp elt [⟨tg, iter, ifs, 0⟩] scope gpos) X.env) :: starEach [] X.env := by rfl) :
    SE X (.Call (.Name "any" p) [.GeneratorExp elt [⟨tg, iter, ifs, 0⟩] scope gpos] [] pos) (eBoolG true (own.map (·.2)) fi g cc e) := fun W tk =>
  PE.imp (Gx.pe_any (rm.room.mono hk) hg hm rm.nd TB hcode ok (hi W tk) (sv.srv rm.nd) hs he) fun σ H Q h => bool_run (M := Mx X) (stop := true) hT h
theorem se_allG (rm : Rm X kX) (hk : k + 1 ≤ kX) (hg : Gl X "all") (hm : X.mg "all" = none) (TB : LamX.TabB X.base X.mg c P) (hcode : X.env.code = .ref c) (hT : (P, gxQ) ∈ Tb.T) (ok : Gx.Ok X.N X.env.scope scope own) (hi : SI X tg iter fi)
    (sv : SrvT X k scope (own.map (·.2)) tg ifs elt g cc e) (hs : ∀ v, genFold iter X.env v = pure v := by intro _; rfl)
    (he : starEach [.GeneratorExp elt [⟨tg, iter, ifs, 0⟩] scope gpos] X.env = (false, eval (.GeneratorExp elt [⟨tg, iter, ifs, 0⟩] scope gpos) X.env) :: starEach [] X.env := by rfl) :
    SE X (.Call (.Name "all" p) [.GeneratorExp elt [⟨tg, iter, ifs, 0⟩] scope gpos] [] pos) (eBoolG false (own.map (·.2)) fi g cc e) := fun W tk =>
  PE.imp (Gx.pe_all (rm.room.mono hk) hg hm (by decide +kernel) rm.nd TB hcode ok (hi W tk) (sv.srv rm.nd) hs he) fun σ H Q h => bool_run (M := Mx X) (stop := false) hT h
end
end Sv

/-! Sv, part V: zip of two, comprehensions of two clauses. -/
namespace Sv
open PySem PySem.Spec PyProof.Rows L2
variable [Tb]
section
variable {M : Md} {H : Hp} {τ : Tg}
def zipT (xs ys : List T) : List T := List.zipWith (fun a b => T.tup [a, b]) xs ys
theorem zipT_get {xs ys : List T} {i : Nat} {t : T} (h : (zipT xs ys)[i]? = some t) : ∃ a b, xs[i]? = some a ∧ ys[i]? = some b ∧ t = .tup [a, b] := by
  unfold zipT at h
  rw [List.getElem?_zipWith] at h
  cases ha : xs[i]? with
  | none => rw [ha] at h; cases h
  | some a =>
    cases hb : ys[i]? with
    | none => rw [ha, hb] at h; cases h
    | some b =>
      rw [ha, hb] at h
      cases h
      exact ⟨a, b, rfl, rfl, rfl⟩
theorem walks_zipL {a b : Addr} {vs ws : List V} {xs ys : List T} (h : LstAt M τ H a vs) (r : Rps M τ H xs vs) (h' : LstAt M τ H b ws) (r' : Rps M τ H ys ws) : Walks M (Itz M.K a b) (zipT xs ys) τ H := fun i τ2 H2 kp => by
  have h2 := (h.mono kp).sq
  have h3 := (h'.mono kp).sq
  refine ⟨fun hi => ⟨vs, ws, h2, h3, ?_⟩, fun t ht => ?_⟩
  · unfold zipT at hi
    rw [List.length_zipWith, r.length, r'.length] at hi
    omega
  · obtain ⟨x, y, e1, e2, rfl⟩ := zipT_get ht
    obtain ⟨v, f1, f2⟩ := r.get e1
    obtain ⟨w, g1, g2⟩ := r'.get e2
    refine ⟨⟨vs, ws, v, w, h2, h3, f1, g1⟩, fun z H' y => ?_⟩
    obtain ⟨p, x0, y0, rfl, hp, rfl, q1, q2⟩ := y
    have q1 := q1 vs h2
    have q2 := q2 ws h3
    rw [f1] at q1
    rw [g1] at q2
    cases q1
    cases q2
    exact .inr ⟨p, _, rfl, hp, rfl, rfl, _, rfl, .cons (f2.mono kp) (.cons (g2.mono kp) .nil)⟩
theorem walks_zipT {a b : Addr} {vs ws : List V} {xs ys : List T} (h : TupAt M τ H a vs) (r : Rps M τ H xs vs) (h' : TupAt M τ H b ws) (r' : Rps M τ H ys ws) : Walks M (RZ.ItzT M.K a b) (zipT xs ys) τ H := fun i τ2 H2 kp => by
  have h2 := (h.mono kp).sq
  have h3 := (h'.mono kp).sq
  refine ⟨fun hi => ⟨vs, ws, h2, h3, ?_⟩, fun t ht => ?_⟩
  · unfold zipT at hi
    rw [List.length_zipWith, r.length, r'.length] at hi
    omega
  · obtain ⟨x, y, e1, e2, rfl⟩ := zipT_get ht
    obtain ⟨v, f1, f2⟩ := r.get e1
    obtain ⟨w, g1, g2⟩ := r'.get e2
    refine ⟨⟨vs, ws, v, w, h2, h3, f1, g1⟩, fun z H' y => ?_⟩
    obtain ⟨p, x0, y0, rfl, hp, rfl, q1, q2⟩ := y
    have q1 := q1 vs h2
    have q2 := q2 ws h3
    rw [f1] at q1
    rw [g1] at q2
    cases q1
    cases q2
    exact .inr ⟨p, _, rfl, hp, rfl, rfl, _, rfl, .cons (f2.mono kp) (.cons (g2.mono kp) .nil)⟩
end
/-- zip(e, e2): two lists, two tuples -/
def iZip (fa : S → R (List T)) : S → R (List T) := fun s => (fa s).bind fun ts s => match ts with
  | [.lst xs, .lst ys] => .ok (zipT xs ys) s
  | [.tup xs, .tup ys] => .ok (zipT xs ys) s
  | _ => .stuck
section
variable {X : Cx} {e e2 : Expr} {fa : S → R (List T)} {p pos tpos : Pos} {elts : List Expr} {kk : Nat}
theorem si_zip (hg : Gl X "zip") (hm : X.mg "zip" = none) (ha : SA X [e, e2] fa)
    (hs : starEach [e, e2] X.env = (false, eval e X.env) :: starEach [e2] X.env := by rfl) (hpl : (backTo pos (starEach [e2] X.env)).any (·.1) = false := by rfl) :
    SI X (.Tuple elts kk tpos) (.Call (.Name "zip" p) [e, e2] [] pos) (iZip fa) := fun W tk => PI.imp (RZ.pi_zipA hg hm (ha W tk) hs hpl) fun σ H Q ⟨s, τ, rel, post⟩ =>
  run1 (R1 := RTs (Mx X)) (.refl _ _) rel post fun ts s2 vs τ2 H2 ev rel2 r1 p => by
    have r1 : Rps (Mx X) τ2 H2 ts vs := r1
    split at p
    · cases r1 with
      | cons a r =>
        cases r with
        | cons b r =>
          cases r
          cases a with
          | lst a1 a2 =>
            cases b with
            | lst b1 b2 => exact ⟨_, _, _, _, rfl, .inl ⟨a1.sq, b1.sq, p _ τ2 H2 ev rel2 (walks_zipL a1 a2 b1 b2)⟩⟩
    · cases r1 with
      | cons a r =>
        cases r with
        | cons b r =>
          cases r
          cases a with
          | tup a1 a2 =>
            cases b with
            | tup b1 b2 => exact ⟨_, _, _, _, rfl, .inr ⟨a1.sq, b1.sq, p _ τ2 H2 ev rel2 (walks_zipT a1 a2 b1 b2)⟩⟩
    · exact p.elim
end

/-! ### two clauses -/
def compL2 (vs vs1 : List Nat) (g : T → S → R Unit) (c : S → R Bool) (fi1 : S → R (List T)) (g1 : T → S → R Unit) (c1 : S → R Bool) (e : S → R Res) : List T → List T → S → R (List T)
  | [], acc, s => .ok acc s
  | t :: ts, acc, s => match g t s with
    | .ok _ s => (match c s with
      | .ok true s => (match fi1 s with
        | .ok ts1 s => (match compL vs1 g1 c1 e ts1 acc ⟨wipeS s.sl vs1, s.ob⟩ with
          | .ok acc s => compL2 vs vs1 g c fi1 g1 c1 e ts acc ⟨wipeS s.sl vs, s.ob⟩
          | _ => .stuck)
        | _ => .stuck)
      | .ok false s => compL2 vs vs1 g c fi1 g1 c1 e ts acc ⟨wipeS s.sl vs, s.ob⟩
      | _ => .stuck)
    | _ => .stuck
def eLC2 (vs vs1 : List Nat) (fi : S → R (List T)) (g : T → S → R Unit) (c : S → R Bool) (fi1 : S → R (List T)) (g1 : T → S → R Unit) (c1 : S → R Bool) (e : S → R Res) : S → R Res := fun s => (fi s).bind fun ts s1 => match compL2 vs vs1 g c fi1 g1 c1 e ts [] ⟨wipeS s1.sl vs, s1.ob⟩ with
  | .ok l s2 => .ok (.tmp (.lst l)) ⟨backS s1.sl s2.sl vs, s2.ob⟩
  | _ => .stuck
theorem wipe_wipe {σ : L2.St} {vs vs1 : List Nat} (h : ∀ i ∈ vs1, i ∈ vs) : wipe (wipe σ vs1) vs = wipe σ vs := wipe_eq (wipe_length σ vs1) fun i hi => wipe_out fun z => hi (h i z)
section
variable {X : Cx} {fi : S → R (List T)} {g : T → S → R Unit} {c : S → R Bool} {fi1 : S → R (List T)} {g1 : T → S → R Unit} {c1 : S → R Bool} {e : S → R Res}
theorem lc2_run {M : Md} {vs vs1 : List Nat} {W : WX} {σ : L2.St} {H : Hp} {Q : VK} (hv : ∀ i ∈ vs1, i ∈ vs) (h : tG M (RRes M) (eLC2 vs vs1 fi g c fi1 g1 c1 e) W σ H Q) :
    tLc2 (tG M (RW M) fi W) (tGw M vs g) (tG M RBool c fun _ _ _ _ => False) (tG M (RW M) fi1 fun _ _ _ _ => False) (tGw M vs1 g1) (tG M RBool c1 fun _ _ _ _ => False) (tG M (RRes M) e fun _ _ _ _ => False) vs vs1 σ H Q := by
  obtain ⟨s, τ, rel, post⟩ := h
  refine run1 (R1 := RW M) (.refl _ _) rel post fun ts s1 J τ1 H1 ev1 rel1 wk p => ?_
  have wk : Walks M J ts τ1 H1 := wk
  intro D hD
  cases hfin : compL2 vs vs1 g c fi1 g1 c1 e ts [] ⟨wipeS s1.sl vs, s1.ob⟩ with
  | stuck => rw [hfin] at p; exact p.elim
  | exc cn s2 => rw [hfin] at p; exact p.elim
  | ok l s2 =>
    rw [hfin] at p
    obtain ⟨relD, evD⟩ := rel1.new (o := .lst []) (g := .free) hD (.inl rfl) fun _ z => nomatch z
    have tD : τ1 D = .free := Classical.byContradiction fun z => rel1.ro.al D z hD
    have eqD : tset τ1 D .free = τ1 := by
      funext b
      by_cases z : b = D
      · rw [z, tset_same, tD]
      · rw [tset_ne z]
    rw [eqD] at relD evD
    have rel0 : Rel M ⟨wipeS s1.sl vs, s1.ob⟩ (hid (· ∈ vs) τ1) (wipe σ vs) (upd H1 D (.lst [])) := gx_pre (vs := vs) relD
    have evH : Evo (hid (· ∈ vs) τ1) H1 (hid (· ∈ vs) τ1) (upd H1 D (.lst [])) := Evo.ext (fun a o q => ⟨by rw [upd_ne (ne_of_none q hD)]; exact q, rfl⟩) rel1.ro.hid.al
    have hDf : hid (· ∈ vs) τ1 D = .free := by rw [hid_other (by rw [tD]; simp)]; exact tD
    refine ⟨fun i m H' => m = ts.length - i ∧ i ≤ ts.length ∧ ∃ s' τ' accT accV, Evo (hid (· ∈ vs) τ1) H1 τ' H' ∧ Rel M s' τ' (wipe σ vs) H' ∧ τ' D = .free ∧ H' D = some (.lst accV) ∧ Rps M τ' H' accT accV ∧ compL2 vs vs1 g c fi1 g1 c1 e (ts.drop i) accT s' = .ok l s2,
      ⟨_, rfl, Nat.zero_le _, _, _, [], [], evH, rel0, hDf, upd_same, .nil, hfin⟩, ?_⟩
    rintro i m H' ⟨rfl, hle, s', τ', accT, accV, ev', rel', tD', hD', rs', fin'⟩
    have kpw : Kp τ1 H1 τ' H' := kp_hid.trans ev'.toKp
    obtain ⟨w1, w2⟩ := wk i τ' H' kpw
    by_cases hlt : i < ts.length
    · have ht : ts[i]? = some ts[i] := List.getElem?_eq_getElem hlt
      obtain ⟨go, yl⟩ := w2 _ ht
      rw [List.drop_eq_getElem_cons hlt, compL2] at fin'
      refine .inr ⟨go, fun H'' => ∃ s' τ' accT accV, Evo (hid (· ∈ vs) τ1) H1 τ' H'' ∧ Rel M s' τ' (wipe σ vs) H'' ∧ τ' D = .free ∧ H'' D = some (.lst accV) ∧ Rps M τ' H'' accT accV ∧ compL2 vs vs1 g c fi1 g1 c1 e (ts.drop (i + 1)) accT s' = .ok l s2,
        fun H'' q => ⟨ts.length - (i + 1), by omega, rfl, hlt, q⟩, fun x H'' y => ?_⟩
      obtain ⟨τ3, e3, rel3, rp3, fD⟩ := item_in rel' (yl x H'' y)
      have tD3 := fD D tD' (by rw [hD']; simp)
      have hD3 : H'' D = some (.lst accV) := (e3.fr D _ hD' tD').2
      cases k : g ts[i] s' with
      | stuck => rw [k] at fin'; cases fin'
      | exc cn s4 => rw [k] at fin'; cases fin'
      | ok u s4 =>
        rw [k] at fin'
        simp only at fin'
        refine ⟨s', τ3, ts[i], s4, rel3, rp3, k, fun σ4 hw rel4 => ⟨hw.trans wipe_idem, s4, τ3, rel4, ?_⟩⟩
        rw [wipe_idem] at hw
        cases k2 : c s4 with
        | stuck => rw [k2] at fin'; cases fin'
        | exc cn s5 => rw [k2] at fin'; cases fin'
        | ok b s5 =>
          rw [k2] at fin'
          intro b' τ5 H5 ev5 rel5 eb
          have eb : b' = b := eb
          subst eb
          have tD5 := ev5.fr D _ hD3 tD3
          have evA := (ev'.trans e3).trans ev5
          have rs5 := rs'.mono (e3.toKp.trans ev5.toKp)
          cases b' with
          | false =>
            simp only at fin'
            rw [if_neg Bool.false_ne_true]
            exact ⟨_, τ5, accT, accV, evA, rel5.wiped hw, tD5.1, tD5.2, rs5, fin'⟩
          | true =>
            simp only at fin'
            rw [if_pos rfl]
            cases kI : fi1 s5 with
            | stuck => rw [kI] at fin'; cases fin'
            | exc cn s6 => rw [kI] at fin'; cases fin'
            | ok ts1 s6 =>
              rw [kI] at fin'
              simp only at fin'
              refine ⟨s5, τ5, rel5, ?_⟩
              rw [kI]
              intro J1 τ6 H6 ev6 rel6 wk6
              have wk6 : Walks M J1 ts1 τ6 H6 := wk6
              have tD6 := ev6.fr D _ tD5.2 tD5.1
              have evB := evA.trans ev6
              have rs6 := rs5.mono ev6.toKp
              cases kF : compL vs1 g1 c1 e ts1 accT ⟨wipeS s6.sl vs1, s6.ob⟩ with
              | stuck => rw [kF] at fin'; cases fin'
              | exc cn s7 => rw [kF] at fin'; cases fin'
              | ok acc2 s7 =>
                rw [kF] at fin'
                simp only at fin'
                have hwv : wipe (wipe σ4 vs1) vs = wipe σ vs := (wipe_wipe hv).trans hw
                refine ⟨fun j m H' => m = ts1.length - j ∧ j ≤ ts1.length ∧ ∃ s' τ' aT aV, Evo (hid (· ∈ vs) τ1) H1 τ' H' ∧ Kp τ6 H6 τ' H' ∧ Rel M s' τ' (wipe σ4 vs1) H' ∧ τ' D = .free ∧ H' D = some (.lst aV) ∧ Rps M τ' H' aT aV ∧ compL vs1 g1 c1 e (ts1.drop j) aT s' = .ok acc2 s7,
                  ⟨_, rfl, Nat.zero_le _, _, τ6, accT, accV, evB, Kp.refl _ _, rel6.wiped rfl, tD6.1, tD6.2, rs6, kF⟩, ?_⟩
                rintro j m H7 ⟨rfl, hle1, s8, τ8, aT, aV, ev8, kp8, rel8, tD8, hD8, rs8, fin8⟩
                obtain ⟨v1, v2⟩ := wk6 j τ8 H7 kp8
                by_cases hlt1 : j < ts1.length
                · have ht1 : ts1[j]? = some ts1[j] := List.getElem?_eq_getElem hlt1
                  obtain ⟨go1, yl1⟩ := v2 _ ht1
                  rw [List.drop_eq_getElem_cons hlt1, compL] at fin8
                  refine .inr ⟨go1, fun H' => ∃ s' τ' aT aV, Evo (hid (· ∈ vs) τ1) H1 τ' H' ∧ Kp τ6 H6 τ' H' ∧ Rel M s' τ' (wipe σ4 vs1) H' ∧ τ' D = .free ∧ H' D = some (.lst aV) ∧ Rps M τ' H' aT aV ∧ compL vs1 g1 c1 e (ts1.drop (j + 1)) aT s' = .ok acc2 s7,
                    fun H' q => ⟨ts1.length - (j + 1), by omega, rfl, hlt1, q⟩, fun x1 H9 y1 => ?_⟩
                  obtain ⟨τ9, e9, rel9, rp9, fD9⟩ := item_in rel8 (yl1 x1 H9 y1)
                  have tD9 := fD9 D tD8 (by rw [hD8]; simp)
                  have hD9 : H9 D = some (.lst aV) := (e9.fr D _ hD8 tD8).2
                  cases kg : g1 ts1[j] s8 with
                  | stuck => rw [kg] at fin8; cases fin8
                  | exc cn s4 => rw [kg] at fin8; cases fin8
                  | ok u1 sA =>
                    rw [kg] at fin8
                    simp only at fin8
                    refine ⟨s8, τ9, ts1[j], sA, rel9, rp9, kg, fun σA hwA relA => ⟨hwA.trans wipe_idem, sA, τ9, relA, ?_⟩⟩
                    rw [wipe_idem] at hwA
                    cases kc : c1 sA with
                    | stuck => rw [kc] at fin8; cases fin8
                    | exc cn s5 => rw [kc] at fin8; cases fin8
                    | ok bb sB =>
                      rw [kc] at fin8
                      intro b' τB HB evBB relB eb
                      have eb : b' = bb := eb
                      subst eb
                      have tDB := evBB.fr D _ hD9 tD9
                      have evC := (ev8.trans e9).trans evBB
                      have kpC := (kp8.trans e9.toKp).trans evBB.toKp
                      have rsB := rs8.mono (e9.toKp.trans evBB.toKp)
                      cases b' with
                      | false =>
                        simp only at fin8
                        rw [if_neg Bool.false_ne_true]
                        exact ⟨_, τB, aT, aV, evC, kpC, relB.wiped hwA, tDB.1, tDB.2, rsB, fin8⟩
                      | true =>
                        simp only at fin8
                        rw [if_pos rfl]
                        cases ke : e sB with
                        | stuck => rw [ke] at fin8; cases fin8
                        | exc cn s6 => rw [ke] at fin8; cases fin8
                        | ok r sC =>
                          rw [ke] at fin8
                          simp only at fin8
                          refine ⟨sB, τB, relB, ?_⟩
                          rw [ke]
                          intro yv τC HC evCC relC rC
                          have tDC := evCC.fr D _ tDB.2 tDB.1
                          split at fin8
                          · rename_i y sE ef
                            split at fin8
                            · rename_i hz
                              obtain ⟨τE, eE, kpE, relE, rpE⟩ := RelR.frz relC evCC rC ef
                              have tDE := eE.fr D _ tDB.2 tDB.1
                              have rsE := (rsB.mono eE.toKp).append (Rps.cons rpE .nil)
                              obtain ⟨relF, kpF⟩ := relE.wrFree (o := .lst (aV ++ [yv])) tDE.1 tDC.2
                              have evE := evC.trans eE
                              refine ⟨aV, tDC.2, ?_, _, τE, aT ++ [y], aV ++ [yv], ?_, (kpC.trans eE.toKp).trans kpF, relF.wiped hwA, tDE.1, upd_same, rsE.mono kpF, fin8⟩
                              · have := szok_le hz
                                rw [rs8.length] at this
                                omega
                              · refine ⟨evE.toKp.trans kpF, fun b o q h => ?_, fun b q => ?_, evE.sl⟩
                                · obtain ⟨h1, h2⟩ := evE.fr b o q h
                                  exact ⟨h1, by rw [upd_ne (ne_of_none q hD)]; exact h2⟩
                                · by_cases z : b = D
                                  · rw [z, upd_same]; simp
                                  · rw [upd_ne z]; exact evE.th b q
                            · cases fin8
                          · cases fin8
                · have ej : j = ts1.length := by omega
                  subst ej
                  rw [List.drop_length, compL] at fin8
                  cases fin8
                  exact .inl ⟨v1 (Nat.le_refl _), _, τ8, _, aV, ev8, rel8.wiped hwv, tD8, hD8, rs8, fin'⟩
    · have e : i = ts.length := by omega
      subst e
      rw [List.drop_length, compL2] at fin'
      cases fin'
      refine .inl ⟨w1 (Nat.le_refl _), ?_⟩
      have al := rel1.ro.al
      have evF := Evo.shw al ev'
      refine p (.ref D) (shw (· ∈ vs) τ1 τ') H' (ev1.trans evF) ?_ ⟨D, rfl, ev1.back hD, ?_, accV, hD', rs'.mono (kp_shw al ev')⟩
      · refine Rel.shw rel1 ev' rel' rfl (by rw [backS_length, ← rel'.rs.len, wipe_length]) fun i b t q => ?_
        rcases backS_some q with h | ⟨h1, h2⟩
        · exact .inl h
        · exact .inr ⟨h1, h2, wipe_out h1⟩
      · rw [shw_other (by rw [tD]; simp)]; exact tD'
variable {elt tg iter tg1 iter1 : Expr} {ifs ifs1 : List Expr} {scope : Scope} {own : List (Str × Nat)} {vs1 : List Nat} {pos spos py : Pos} {i : Nat} {y : Str}
theorem se_lc2 (hc : X.calm = true) (hN : X.N.Nodup) (hi : SI X tg iter fi) (ok : BlkOk X.N X.env.scope scope own) (hv : ∀ i ∈ vs1, i ∈ own.map (·.2))
    (hg : ∀ (s : Shared) (H : Hp) (C : Addr) (cl : List (Str × Addr)) (fp : List Addr), SGw (X.blk s H scope (compEnvC scope cl C X.env) fp) (own.map (·.2)) tg g)
    (ht : ∀ (s : Shared) (H : Hp) (C : Addr) (cl : List (Str × Addr)) (fp : List Addr), STs (X.blk s H scope (compEnvC scope cl C X.env) fp) ifs c)
    (hi1 : ∀ (s : Shared) (H : Hp) (C : Addr) (cl : List (Str × Addr)) (fp : List Addr), SI (X.blk s H scope (compEnvC scope cl C X.env) fp) tg1 iter1 fi1)
    (hg1 : ∀ (s : Shared) (H : Hp) (C : Addr) (cl : List (Str × Addr)) (fp : List Addr), SGw (X.blk s H scope (compEnvC scope cl C X.env) fp) vs1 tg1 g1)
    (ht1 : ∀ (s : Shared) (H : Hp) (C : Addr) (cl : List (Str × Addr)) (fp : List Addr), STs (X.blk s H scope (compEnvC scope cl C X.env) fp) ifs1 c1)
    (he : ∀ (s : Shared) (H : Hp) (C : Addr) (cl : List (Str × Addr)) (fp : List Addr), SE (X.blk s H scope (compEnvC scope cl C X.env) fp) elt e) (hs : ∀ x, foldedSetIterable iter X.env x = pure x := by intro _; rfl) (hs1 : ∀ env x, foldedSetIterable iter1 env x = pure x := by intro _ _; rfl) :
    SE X (.ListComp elt [⟨tg, iter, ifs, 0⟩, ⟨tg1, iter1, ifs1, 0⟩] scope pos) (eLC2 (own.map (·.2)) vs1 fi g c fi1 g1 c1 e) := fun W tk =>
  PE.imp (pe_lc2 (g := tGw (Mx X) (List.map (fun x : Str × Nat => x.snd) own) g) (tt := tG (Mx X) RBool c fun _ _ _ _ => False) (wi1 := tG (Mx X) (RW (Mx X)) fi1 fun _ _ _ _ => False) (g1 := tGw (Mx X) vs1 g1) (tt1 := tG (Mx X) RBool c1 fun _ _ _ _ => False) (te := tG (Mx X) (RRes (Mx X)) e fun _ _ _ _ => False) hc hN (hi W tk) ok hv (fun s H C cl fp => hg s H C cl fp) (fun s H C cl fp => ht s H C cl fp _ takes0) (fun s H C cl fp => hi1 s H C cl fp _ takes0) (fun s H C cl fp => hg1 s H C cl fp) (fun s H C cl fp => ht1 s H C cl fp _ takes0) (fun s H C cl fp => he s H C cl fp _ takes0) hs hs1) fun σ H Q h => lc2_run hv h
theorem ss_setLc2 (hc : X.calm = true) (hN : X.N.Nodup) (hy : X.N[i]? = some y) (hyl : X.env.scope.names.lookup y = some .local) (hk : X.env.scope.kind = .function) (hln : (py.line == pos.line) = true) (han : (scope.names.any fun (n, k) => n == y && (k == .local || k == .cell)) = false)
    (hi : SI X tg iter fi) (ok : BlkOk X.N X.env.scope scope own) (hv : ∀ i ∈ vs1, i ∈ own.map (·.2))
    (hg : ∀ (s : Shared) (H : Hp) (C : Addr) (cl : List (Str × Addr)) (fp : List Addr), SGw (X.blk s H scope (compEnvC scope cl C X.env) fp) (own.map (·.2)) tg g)
    (ht : ∀ (s : Shared) (H : Hp) (C : Addr) (cl : List (Str × Addr)) (fp : List Addr), STs (X.blk s H scope (compEnvC scope cl C X.env) fp) ifs c)
    (hi1 : ∀ (s : Shared) (H : Hp) (C : Addr) (cl : List (Str × Addr)) (fp : List Addr), SI (X.blk s H scope (compEnvC scope cl C X.env) fp) tg1 iter1 fi1)
    (hg1 : ∀ (s : Shared) (H : Hp) (C : Addr) (cl : List (Str × Addr)) (fp : List Addr), SGw (X.blk s H scope (compEnvC scope cl C X.env) fp) vs1 tg1 g1)
    (ht1 : ∀ (s : Shared) (H : Hp) (C : Addr) (cl : List (Str × Addr)) (fp : List Addr), STs (X.blk s H scope (compEnvC scope cl C X.env) fp) ifs1 c1)
    (he : ∀ (s : Shared) (H : Hp) (C : Addr) (cl : List (Str × Addr)) (fp : List Addr), SE (X.blk s H scope (compEnvC scope cl C X.env) fp) elt e) (hs : ∀ x, foldedSetIterable iter X.env x = pure x := by intro _; rfl) (hs1 : ∀ env x, foldedSetIterable iter1 env x = pure x := by intro _ _; rfl) :
    SS X (.Assign [.Name y py] (.ListComp elt [⟨tg, iter, ifs, 0⟩, ⟨tg1, iter1, ifs1, 0⟩] scope pos) spos) (sSet i (eLC2 (own.map (·.2)) vs1 fi g c fi1 g1 c1 e)) := fun W tk =>
  PS.imp (ps_setLc2 (g := tGw (Mx X) (List.map (fun x : Str × Nat => x.snd) own) g) (tt := tG (Mx X) RBool c fun _ _ _ _ => False) (wi1 := tG (Mx X) (RW (Mx X)) fi1 fun _ _ _ _ => False) (g1 := tGw (Mx X) vs1 g1) (tt1 := tG (Mx X) RBool c1 fun _ _ _ _ => False) (te := tG (Mx X) (RRes (Mx X)) e fun _ _ _ _ => False) hc hN hy hyl (sw_true hk hyl hln han) (hi W tk) ok hv (fun s H C cl fp => hg s H C cl fp) (fun s H C cl fp => ht s H C cl fp _ takes0) (fun s H C cl fp => hi1 s H C cl fp _ takes0) (fun s H C cl fp => hg1 s H C cl fp) (fun s H C cl fp => ht1 s H C cl fp _ takes0) (fun s H C cl fp => he s H C cl fp _ takes0) hs hs1) fun D σ H ⟨s, τ, rel, post⟩ =>
    lc2_run (M := Mx X) (W := W) hv (runS (R1 := RRes (Mx X)) (.refl _ _) rel post fun x s2 v τ2 H2 ev rel2 r1 p => set_run ev rel2 r1 p)
end
end Sv

/-! Sv, part W: the module's tuples, plain tuples, dicts that stay, texts of numbers, nested targets. -/
namespace Sv
open PySem PySem.Spec PyProof.Rows L2
variable [Tb]
/-! ### the module's tuples of whole numbers -/
theorem kt_of {K : PySem.W.Frag} {x : Str} {vs : List He.Dv} (h : He.tupB K x vs = true) : KT K (He.ga K x) (vs.map (He.Dv.v K)) := by
  rcases He.tupB_ok h (fun _ => none) with z | z
  · rcases z with (z | ⟨o, z⟩) | ⟨o, z⟩ <;> cases z
  · obtain ⟨o, its, n, h1, h2, h3, h4, h5⟩ := z
    exact ⟨o, its, n, h1, h2, h3, h4, h5⟩
theorem rps_ints {M : Md} {τ : Tg} {H : Hp} : ∀ is : List Int, Rps M τ H (is.map T.int) (is.map V.int) := Rps.ints
section
variable {X : Cx} {e e2 : Expr} {f f2 : S → R Res} {p pos : Pos}
theorem se_gtup {x : Str} {is : List Int} (hm : X.mg x = some (.ref (He.ga X.K x))) (hk : He.tupB X.K x (is.map He.Dv.int) = true) (hg : Gl X x) (hd : (x == ("__debug__" : Str)) = false := by decide) : SE X (.Name x pos) (eC (.tup (is.map T.int))) := by
  have k := kt_of hk
  have e : (is.map He.Dv.int).map (He.Dv.v X.K) = is.map V.int := by rw [List.map_map]; rfl
  rw [e] at k
  exact se_glob (v := .ref (He.ga X.K x)) hg hm rfl (fun τ H => .tup (.inr k) (rps_ints is)) hd

/-! ### plain tuples -/
/-- as any tuple -/
def eUnl (f : S → R Res) : S → R Res := fun s => (f s).bind fun r s => match r with
  | .val (.tupl ts) => .ok (.val (.tup ts)) s
  | r => .ok r s
theorem se_unl (he : SE X e f) : SE X e (eUnl f) := fun W tk => PE.imp (he W tk) fun σ H Q ⟨s, τ, rel, post⟩ =>
  run1 (R1 := RRes (Mx X)) (.refl _ _) rel post fun x s2 v τ2 H2 ev rel2 r1 p => by
    split at p
    · have r1 : Rp (Mx X) τ2 H2 _ v := r1
      cases r1 with
      | tupl h r => exact p _ τ2 H2 ev rel2 (.tup h.tup r)
    · exact p v τ2 H2 ev rel2 r1
/-- tuple(e) of a list, known to be no more than a tuple -/
def eTupL (f : S → R Res) : S → R Res := fun s => (f s).bind fun r s => match peek s r with
  | some (.lst ts) => .ok (.val (.tupl ts)) s
  | _ => .stuck
theorem call_tupleL : CallR X (.type "tuple") (fun xs H Q => ∃ p ys, xs = [.ref p] ∧ SqL X.K H p ys ∧ ∀ (l : Addr) (o : Obj), o.dict = none → H l = none → Q (.ref l) (upd H l (.frz o (.tup ys)))) := by
  intro pins s σ H xs us Q I r h
  obtain ⟨p, ys, rfl, hq, q⟩ := h
  obtain ⟨u, rfl, rx⟩ := vals1 r
  cases rx
  obtain ⟨its, r', pl, hz⟩ := I.list hq
  have hlen := r'.length
  refine call_tuple_list pl.isList (fun h' kp => ?_) (by simp only [List.size_toArray] <;> omega)
  have I1 : Inv X pins σ H { s with heap := h' } := I.kept (t' := s.toks) kp
  have I2 : Inv X pins σ (upd H h'.objs.size (.frz { cls := .type "tuple", data := .seq its.toArray } (.tup ys))) { s with heap := h'.push { cls := .type "tuple", data := .seq its.toArray } } :=
    I1.laid (t' := s.toks) (fun b o e => Heap.get?_push_of_some _ e) (Nat.le_refl _) (show ObjOk X.prog X.w _ _ _ (.frz _ (.tup ys)) from ⟨Heap.get?_push_size _ rfl, hz, its, r', IsTup.new _ _⟩)
  exact ⟨.ref h'.objs.size, _, I2, rfl, q _ _ rfl (I1.hok.fresh (Nat.le_refl _))⟩
theorem se_tupleL (hG : Gl X "tuple") (hm : X.mg "tuple" = none) (he : SE X e f) (hs : starEach [e] X.env = (false, eval e X.env) :: starEach [] X.env := by rfl) : SE X (.Call (.Name "tuple" p) [e] [] pos) (eTupL f) := fun W tk =>
  PE.imp (pe_callTy call_tupleL hG hm PyProof.Rows.boot_tuple (pa_cons (he W tk) pa_nil hs) (by decide) (by decide) hs) fun σ H Q ⟨s, τ, rel, post⟩ =>
    run1 (R1 := RRes (Mx X)) (.refl _ _) rel post fun x s2 v τ2 H2 ev rel2 r1 p => by
      split at p
      · rename_i ts ex
        obtain ⟨a, vs, rfl, e1, r2⟩ := (RelR.isT rel2 r1 ex).lst
        refine ⟨a, vs, rfl, .inl (.inl e1), fun l o ho hl => ?_⟩
        obtain ⟨rel3, ev3⟩ := rel2.new (o := .frz o (.tup vs)) (g := .frz) hl (.inr (.inl rfl)) fun _ z => nomatch z
        exact p (.ref l) _ _ (ev.trans ev3) rel3 (.tupl ⟨tset_same, o, upd_same, ho⟩ (r2.mono ev3.toKp))
      · exact p.elim

/-! ### dicts that stay -/
def kOf : T → Option Key
  | .int i => some (.inl i)
  | .str x => some (.inr x)
  | _ => none
theorem kT_of {t : T} {k : Key} (h : kOf t = some k) : t = kT k := by
  unfold kOf at h
  split at h <;> cases h <;> rfl
theorem rp_key {M : Md} {τ : Tg} {H : Hp} {k : Key} {v : V} (h : Rp M τ H (kT k) v) : v = kV k := by
  cases k with
  | inl i => have h : Rp M τ H (.int i) v := h; cases h; rfl
  | inr x => have h : Rp M τ H (.str x) v := h; cases h; rfl
def putT (l : List (Key × T)) (k : Key) (t : T) : List (Key × T) := if (l.any fun p => decide (p.1 = k)) = true then l.map (fun p => if p.1 = k then (p.1, t) else p) else l ++ [(k, t)]
def mergeT (l more : List (Key × T)) : List (Key × T) := more.foldl (fun acc p => putT acc p.1 p.2) l
def dctOf (l : List (Key × T)) : T := .dct (l.map fun p => kT p.1) (l.map (·.2))
abbrev KR (M : Md) (τ : Tg) (H : Hp) : List (Key × T) → List (Key × V) → Prop := Paired fun p q => p.1 = q.1 ∧ Rp M τ H p.2 q.2
section
variable {M : Md} {τ τ' : Tg} {H H' : Hp}
theorem KR.mono (e : Kp τ H τ' H') {l : List (Key × T)} {kvs : List (Key × V)} (r : KR M τ H l kvs) : KR M τ' H' l kvs := Paired.mapP r fun _ _ h => ⟨h.1, h.2.mono e⟩
theorem KR.any {k : Key} : ∀ {l : List (Key × T)} {kvs : List (Key × V)}, KR M τ H l kvs → (l.any fun p => decide (p.1 = k)) = kvs.any fun p => decide (p.1 = k)
  | _, _, .nil => rfl
  | _, _, .cons h t => by rw [List.any_cons, List.any_cons, h.1, KR.any t]
theorem KR.repl {k : Key} {t : T} {v : V} (ht : Rp M τ H t v) : ∀ {l : List (Key × T)} {kvs : List (Key × V)}, KR M τ H l kvs → KR M τ H (l.map fun p => if p.1 = k then (p.1, t) else p) (kvs.map fun p => if p.1 = k then (p.1, v) else p)
  | _, _, .nil => .nil
  | _, _, .cons (a := a) (b := b) h r => by
    rw [List.map_cons, List.map_cons]
    refine .cons ?_ (KR.repl ht r)
    have h1 := h.1
    show (if a.1 = k then (a.1, t) else a).1 = (if b.1 = k then (b.1, v) else b).1 ∧ Rp M τ H (if a.1 = k then (a.1, t) else a).2 (if b.1 = k then (b.1, v) else b).2
    rw [h1]
    split
    · exact ⟨rfl, ht⟩
    · exact h
theorem KR.app {l l2 : List (Key × T)} {kvs kvs2 : List (Key × V)} : KR M τ H l kvs → KR M τ H l2 kvs2 → KR M τ H (l ++ l2) (kvs ++ kvs2)
  | .nil, s => s
  | .cons h r, s => .cons h (KR.app r s)
theorem KR.put {k : Key} {t : T} {v : V} {l : List (Key × T)} {kvs : List (Key × V)} (r : KR M τ H l kvs) (ht : Rp M τ H t v) : KR M τ H (putT l k t) (putK kvs k v) := by
  unfold putT putK
  rw [r.any]
  split
  · exact r.repl ht
  · exact r.app (.cons ⟨rfl, ht⟩ .nil)
theorem KR.merge : ∀ {more : List (Key × T)} {mv : List (Key × V)}, KR M τ H more mv → ∀ {l : List (Key × T)} {kvs : List (Key × V)}, KR M τ H l kvs → KR M τ H (mergeT l more) (mergeK kvs mv)
  | _, _, .nil, _, _, s => s
  | _, _, .cons (a := a) (b := b) h r, l, kvs, s => by
    have h1 : a.1 = b.1 := h.1
    have z : KR M τ H (mergeT (putT l b.1 a.2) _) (mergeK (putK kvs b.1 b.2) _) := KR.merge r (KR.put (k := b.1) s h.2)
    show KR M τ H (mergeT (putT l a.1 a.2) _) (mergeK (putK kvs b.1 b.2) _)
    rw [h1]
    exact z
theorem KR.keys : ∀ {l : List (Key × T)} {kvs : List (Key × V)}, KR M τ H l kvs → (l.map fun p => kT p.1) = kvs.map fun p => kT p.1
  | _, _, .nil => rfl
  | _, _, .cons h r => by rw [List.map_cons, List.map_cons, h.1, KR.keys r]
theorem KR.vals : ∀ {l : List (Key × T)} {kvs : List (Key × V)}, KR M τ H l kvs → Rps M τ H (l.map (·.2)) (kvs.map (·.2))
  | _, _, .nil => .nil
  | _, _, .cons h r => .cons h.2 (KR.vals r)
theorem KR.rp {a : Addr} {l : List (Key × T)} {kvs : List (Key × V)} (r : KR M τ H l kvs) (ht : τ a = .frz) (h : H a = some (.dK kvs)) : Rp M τ H (dctOf l) (.ref a) := by
  unfold dctOf
  rw [r.keys]
  exact .dct ht h r.vals
end
/-- the value at a key -/
def getT : List T → List T → Key → Option T
  | k :: ks, v :: vs, x => if kOf k = some x then some v else getT ks vs x
  | _, _, _ => none
theorem kOf_kT (k : Key) : kOf (kT k) = some k := by cases k <;> rfl
theorem getT_ok {M : Md} {τ : Tg} {H : Hp} {x : Key} {t : T} : ∀ {kvs : List (Key × V)} {vs : List T}, Rps M τ H vs (kvs.map (·.2)) → getT (kvs.map fun p => kT p.1) vs x = some t → ∃ v, valV kvs x = some v ∧ Rp M τ H t v
  | [], _, .nil, h => by cases h
  | p :: r, _, .cons h1 h2, h => by
    have h : (if kOf (kT p.1) = some x then _ else _) = some t := h
    rw [kOf_kT] at h
    by_cases e : p.1 = x
    · rw [if_pos (by rw [e])] at h
      cases h
      exact ⟨p.2, valV_pos e, h1⟩
    · rw [if_neg (fun z => e (Option.some.inj z))] at h
      obtain ⟨v, h3, h4⟩ := getT_ok h2 h
      exact ⟨v, by rw [valV_neg e]; exact h3, h4⟩
def eDGet (f g : S → R Res) : S → R Res := fun s => (f s).bind fun x s => (g s).bind fun y s => match peek s x, (peek s y).bind kOf with
  | some (.dct ks vs), some k => (match getT ks vs k with
    | some t => .ok (.val t) s
    | none => .stuck)
  | _, _ => .stuck
theorem se_dget {k : Nat} (rm : Rm X k) (he : SE X e f) (he2 : SE X e2 f2) (hs : NoSl e2 := by intro _ _; rfl) : SE X (.Subscript e e2 pos) (eDGet f f2) := fun W tk =>
  PE.imp (pe_dget (by have := rm.u64; omega) (he W tk) (he2 W tk) hs) fun σ H Q ⟨s, τ, rel, post⟩ =>
    run2 rel post fun x y s2 v w τ2 H2 ev rel2 r1 r2 p => by
      split at p
      · rename_i ks vs kk ex ey
        split at p
        · rename_i t ht
          cases hy : peek s2 y with
          | none => rw [hy] at ey; cases ey
          | some ty =>
            rw [hy] at ey
            have ey : kOf ty = some kk := ey
            have i1 := r1.isT rel2 ex
            have i2 := r2.isT rel2 hy
            rw [kT_of ey] at i2
            have ew : w = kV kk := by
              rcases i2 with z | ⟨a, _, z⟩
              · exact rp_key z
              · cases kk <;> exact z.elim
            rcases i1 with z | ⟨a, _, z⟩
            · cases z with
              | @dct a kvs _ h1 h2 h3 =>
                obtain ⟨v2, h4, h5⟩ := getT_ok h3 ht
                exact ⟨a, v2, rfl, by rw [ew, ← h4]; exact DGet.k h2, p v2 τ2 H2 ev rel2 h5⟩
            · exact z.elim
        · exact p.elim
      · exact p.elim
/-! a display -/
def pNil : S → R (List (T × T)) := fun s => .ok [] s
def pCons (f g : S → R Res) (h : S → R (List (T × T))) : S → R (List (T × T)) := fun s => (f s).bind fun r s => match frz s r with
  | some (t, s) => (g s).bind fun q s => match frz s q with
    | some (u, s) => (h s).bind fun l s => .ok ((t, u) :: l) s
    | none => .stuck
  | none => .stuck
abbrev RPs (M : Md) : RRel (List (T × T)) (List (V × V)) := fun _ _ l _ τ H ps => Paired (fun (p : T × T) (q : V × V) => Rp M τ H p.1 q.1 ∧ Rp M τ H p.2 q.2) l ps
def SPs (X : Cx) (pos : Pos) (ks : List (Option Expr)) (vs : List Expr) (f : S → R (List (T × T))) : Prop := ∀ W, Takes X W → ∃ trs, PPs X pos ks vs trs ∧ ∀ σ H Q, tG (Mx X) (RPs (Mx X)) f W σ H Q → tPairs trs σ H Q
theorem sps_nil : SPs X pos [] [] pNil := fun W tk => ⟨[], pps_nil, fun σ H Q ⟨s, τ, rel, post⟩ => post [] τ H (.refl _ _) rel .nil⟩
theorem sps_cons {k v : Expr} {ks : List (Option Expr)} {vs : List Expr} {h : S → R (List (T × T))} (hk : SE X k f) (hv : SE X v f2) (hr : SPs X pos ks vs h) : SPs X pos (some k :: ks) (v :: vs) (pCons f f2 h) := fun W tk => by
  obtain ⟨trs, h1, h2⟩ := hr W tk
  refine ⟨_, pps_cons (hk W tk) (hv W tk) h1, fun σ H Q ⟨s, τ, rel, post⟩ => ?_⟩
  refine run1 (R1 := RRes (Mx X)) (.refl _ _) rel post fun x s2 v1 τ2 H2 ev rel2 r1 p => ?_
  split at p
  · rename_i t s3 ef
    obtain ⟨τ3, e3, kp3, rel3, rp3⟩ := RelR.frz rel2 ev r1 ef
    refine run1 (R1 := RRes (Mx X)) e3 rel3 p fun y s4 w τ4 H4 ev4 rel4 r4 p4 => ?_
    split at p4
    · rename_i u s5 eg
      obtain ⟨τ5, e5, kp5, rel5, rp5⟩ := RelR.frz rel4 ev4 r4 eg
      have rp3' := rp3.mono e5.toKp
      refine h2 _ _ _ (run1 (R1 := RPs (Mx X)) (e3.trans e5) rel5 p4 fun l s6 ps τ6 H6 ev6 rel6 r6 p6 => ?_)
      exact p6 ((v1, w) :: ps) τ6 H6 ((e3.trans e5).trans ev6) rel6 (.cons ⟨rp3'.mono ev6.toKp, rp5.mono ev6.toKp⟩ r6)
    · exact p4.elim
  · exact p.elim
def keysOf : List (T × T) → Option (List (Key × T))
  | [] => some []
  | (k, t) :: r => match kOf k, keysOf r with
    | some k, some l => some ((k, t) :: l)
    | _, _ => none
theorem keysOf_ok {M : Md} {τ : Tg} {H : Hp} : ∀ {l : List (T × T)} {ps : List (V × V)} {kl : List (Key × T)}, Paired (fun (p : T × T) (q : V × V) => Rp M τ H p.1 q.1 ∧ Rp M τ H p.2 q.2) l ps → keysOf l = some kl → ∃ kvs : List (Key × V), ps = kvs.map (fun kv => (kV kv.1, kv.2)) ∧ KR M τ H kl kvs
  | _, _, _, .nil, h => by cases h; exact ⟨[], rfl, .nil⟩
  | _, _, kl, .cons (a := (k, t)) (b := (x, y)) h r, hk => by
    unfold keysOf at hk
    split at hk
    · rename_i k2 l2 e1 e2
      cases hk
      obtain ⟨kvs, h1, h2⟩ := keysOf_ok r e2
      obtain ⟨h3, h4⟩ := h
      rw [kT_of e1] at h3
      have ex := rp_key h3
      exact ⟨(k2, y) :: kvs, by rw [List.map_cons, h1, show x = kV k2 from ex], .cons ⟨rfl, h4⟩ h2⟩
    · cases hk
/-- {k: v, ..} as a dict that stays -/
def eDisp (h : S → R (List (T × T))) : S → R Res := fun s => (h s).bind fun l s => match keysOf l with
  | some kl => if kl.length ≤ 15 then .ok (.val (dctOf (mergeT [] kl))) s else .stuck
  | none => .stuck
theorem se_disp {ks : List (Option Expr)} {vs : List Expr} {h : S → R (List (T × T))} (hp : SPs X pos ks vs h) (hall : ks.all (·.isSome) = true) (hl : ks.length = vs.length) (h0 : ks ≠ []) (h15 : ks.length ≤ 15) : SE X (.Dict ks vs pos) (eDisp h) := fun W tk => by
  obtain ⟨trs, h1, h2⟩ := hp W tk
  refine PE.imp (pe_disp h1 hall hl h0 h15) fun σ H Q ⟨s, τ, rel, post⟩ q hq => ?_
  obtain ⟨relD, evD⟩ := rel.new (o := .dK []) (g := .free) hq (.inl rfl) fun _ z => nomatch z
  refine h2 _ _ _ (run1 (R1 := RPs (Mx X)) evD relD post fun l s2 ps τ2 H2 ev2 rel2 r2 p => ?_)
  have hq2 := ev2.fr q _ upd_same tset_same
  split at p
  · rename_i kl ek
    split at p
    · rename_i hlen
      obtain ⟨kvs, e1, r3⟩ := keysOf_ok r2 ek
      have r3l : kl.length = kvs.length := Paired.length r3
      refine ⟨hq2.2, kvs, e1, by omega, ?_⟩
      have rm3 := KR.merge r3 (Paired.nil : KR (Mx X) τ2 H2 [] [])
      -- the dict at q is written, and stays from now on
      have back : ∀ b g, tset τ2 q .frz b = g → g ≠ .frz → τ2 b = g ∧ b ≠ q := fun b g h n => by
        by_cases e : b = q
        · subst e; rw [tset_same] at h; exact absurd h.symm n
        · rw [tset_ne e] at h; exact ⟨h, e⟩
      have hh : ∀ b, b ≠ q → upd H2 q (.dK (mergeK [] kvs)) b = H2 b ∧ tset τ2 q .frz b = τ2 b := fun b e => ⟨upd_ne e, tset_ne e⟩
      have neq : ∀ b g, τ2 b = g → g ≠ .free → b ≠ q := fun b g e n z => n (by rw [← e, z, hq2.1])
      have kp : Kp τ2 H2 (tset τ2 q .frz) (upd H2 q (.dK (mergeK [] kvs))) := ⟨fun b o e t => by
        obtain ⟨k1, k2⟩ := hh b (neq b _ t (by simp))
        exact ⟨k2.trans t, k1.trans e⟩, fun b r t => (hh b (neq b _ t (by simp))).2.trans t⟩
      have relF : Rel (Mx X) s2 (tset τ2 q .frz) σ (upd H2 q (.dK (mergeK [] kvs))) := by
        refine ⟨rel2.rs.kp kp fun b i t _ => ?_, ⟨fun b r t => ?_, fun b c r t1 t2 => rel2.ro.one b c r (back b _ t1 (by simp)).1 (back c _ t2 (by simp)).1, fun b t => ?_, rel2.ro.tb.mono (fun b q' t => (hh b (neq b _ t (by simp))).2.trans t) (fun b q' t => (back b _ t (by simp)).1) kp (fun b q' ps t z => (hh b (neq b _ t (by simp))).1.trans z) fun b ps z => ?_⟩⟩
        · obtain ⟨k1, k2⟩ := hh b (neq b _ t (by simp))
          exact ⟨k2.trans t, k1⟩
        · obtain ⟨t0, n0⟩ := back b _ t (by simp)
          obtain ⟨o, h3, h4⟩ := rel2.ro.at_ b r t0
          exact ⟨o, h3, h4.kp kp (hh b n0).1⟩
        · by_cases e : b = q
          · rw [e, upd_same]; simp
          · rw [(hh b e).1]; exact rel2.ro.al b fun z => t ((hh b e).2.trans z)
        · by_cases e : b = q
          · rw [e, upd_same] at z; cases z
          · rw [(hh b e).1] at z; exact z
      have evF : Evo τ H (tset τ2 q .frz) (upd H2 q (.dK (mergeK [] kvs))) := by
        have evA := evD.trans ev2
        refine ⟨evA.toKp.trans kp, fun b o e t => ?_, fun b n => ?_, fun b i t => ?_⟩
        · obtain ⟨k1, k2⟩ := evA.fr b o e t
          have ne : b ≠ q := fun z => by rw [z, hq] at e; cases e
          exact ⟨(hh b ne).2.trans k1, (hh b ne).1.trans k2⟩
        · by_cases e : b = q
          · rw [e, upd_same]; simp
          · rw [(hh b e).1]; exact evA.th b n
        · exact evA.sl b i (back b _ t (by simp)).1
      exact p (.ref q) _ _ evF relF ((rm3.mono kp).rp tset_same upd_same)
    · exact p.elim
  · exact p.elim
end
end Sv

/-! Sv, part X: dict(..) of pairs, its length, texts of numbers, nested targets of a tuple display. -/
namespace Sv
open PySem PySem.Spec PyProof.Rows L2
variable [Tb]
/-! ### dict(pairs) -/
def pairsOf : List T → Option (List (Key × T))
  | [] => some []
  | .tup [k, t] :: r => match kOf k, pairsOf r with
    | some k, some l => some ((k, t) :: l)
    | _, _ => none
  | _ => none
theorem pairsOf_ok {M : Md} {τ : Tg} {H : Hp} : ∀ {ts : List T} {xs : List V} {kl : List (Key × T)}, Rps M τ H ts xs → pairsOf ts = some kl →
    ∃ (ps : List Addr) (kvs : List (Key × V)), xs = ps.map V.ref ∧ Paired (fun p kv => SqT M.K H p [kV kv.1, kv.2]) ps kvs ∧ KR M τ H kl kvs
  | _, _, _, .nil, h => by cases h; exact ⟨[], [], rfl, .nil, .nil⟩
  | t :: ts, _, kl, .cons (v := v) (vs := vs) h r, hk => by
    unfold pairsOf at hk
    split at hk
    · rename_i z; cases z
    · rename_i k t1 r1 z
      cases z
      split at hk
      · rename_i k2 l2 e1 e2
        cases hk
        obtain ⟨ps, kvs, h1, h2, h3⟩ := pairsOf_ok r e2
        cases h with
        | @tup a ys _ q1 q2 =>
          cases q2 with
          | @cons _ x _ _ w1 w2 =>
            cases w2 with
            | @cons _ y _ _ w3 w4 =>
              cases w4
              rw [kT_of e1] at w1
              have ex := rp_key w1
              subst ex
              exact ⟨a :: ps, (k2, y) :: kvs, by rw [List.map_cons, h1], .cons q1.sq h2, .cons ⟨rfl, w3⟩ h3⟩
      · cases hk
    · cases hk
section
variable {X : Cx} {pins : List (Addr × Obj)} {σ : L2.St} {H : Hp} {s : Shared}
theorem pairs2 (I : Inv X pins σ H s) : ∀ {ps : List Addr} {kvs : List (Key × V)}, Paired (fun p kv => SqT X.K H p [kV kv.1, kv.2]) ps kvs →
    ∃ (prs : List (Key × Value)) (uvs : List (Value × Value)), KV kvs prs ∧ prs.length = ps.length ∧ uvs.length = ps.length ∧
      ∀ (j : Nat) (k v : Value), uvs[j]? = some (k, v) → ∃ (b : Addr) (kk : Key), ps[j]? = some b ∧ IsTup s.heap b #[k, v] ∧ prs[j]? = some (kk, v) ∧ keyIs kk k = true
  | _, _, .nil => ⟨[], [], .nil, rfl, rfl, fun j k v e => by simp at e⟩
  | _, _, .cons (a := p) (b := kv) h t => by
    obtain ⟨prs, uvs, r, hl, hl2, hp⟩ := pairs2 I t
    obtain ⟨its, rv, ht, _⟩ := I.tuple h
    obtain ⟨u, y, ei, ru, ry⟩ := vals2 rv
    subst ei
    refine ⟨(kv.1, y) :: prs, (u, y) :: uvs, .cons ⟨rfl, ry⟩ r, by rw [List.length_cons, List.length_cons, hl], by rw [List.length_cons, List.length_cons, hl2], fun j k v e => ?_⟩
    cases j with
    | zero =>
      have e' : (u, y) = (k, v) := Option.some.inj e
      cases e'
      exact ⟨p, kv.1, rfl, ht, rfl, kV_is (P := X.prog) (w := X.w) ru⟩
    | succ j =>
      obtain ⟨b, kk, e1, e2, e3, e4⟩ := hp j k v (by simpa using e)
      exact ⟨b, kk, by simpa using e1, e2, by simpa using e3, e4⟩
theorem call_dictL (hcalm : X.calm = true) : CallR X (.type "dict") (fun xs H Q => ∃ (a : Addr) (o : Obj) (ps : List Addr) (kvs : List (Key × V)), xs = [.ref a] ∧ H a = some (.frz o (.tup (ps.map V.ref))) ∧ o.dict = none ∧ Paired (fun p kv => SqT X.K H p [kV kv.1, kv.2]) ps kvs ∧
    ∀ p, H p = none → Q (.ref p) (upd H p (.dK (mergeK [] kvs)))) := by
  intro pins s σ H xs us Q I r q
  obtain ⟨a, o, ps, kvs, ex, ha, hd, hp, q⟩ := q
  subst ex
  obtain ⟨u, eu, rx⟩ := vals1 r
  subst eu
  cases rx
  obtain ⟨ho, hz, its, rv, o2, ho2, hc, n, hdat⟩ := I.hok a _ ha
  rw [ho] at ho2
  cases ho2
  have ei := refs_at rv
  subst ei
  rw [List.length_map] at hz
  obtain ⟨prs, uvs, rel, hl, hl2, hpr⟩ := pairs2 I hp
  have ok : PlainSeq "tuple" s.heap a (ps.map Value.ref).toArray ∧ PairItems s.heap (ps.map Value.ref).toArray (fun j => ps.getD j 0) uvs := by
    refine ⟨⟨o, n, ho, hc, hd, hdat⟩, by simp [hl2], fun j k v e => ?_⟩
    obtain ⟨b, kk, e1, e2, _, _⟩ := hpr j k v e
    have eb : ps.getD j 0 = b := by rw [List.getD_eq_getElem?_getD, e1]; rfl
    show (ps.map Value.ref).toArray[j]? = some (.ref (ps.getD j 0)) ∧ PairAt s.heap (ps.getD j 0) k v
    rw [eb]
    exact ⟨by simp [e1], .inl e2⟩
  refine PySem.call_dict_pairs (prog := X.prog) (w := X.w) (knd := mixKind X.prog X.w) (kvs := prs) (PairArg.tuple a (ps.map Value.ref).toArray (fun j => ps.getD j 0) uvs) (I.ok.hd hcalm) ok ⟨by rw [hl, hl2], fun i k v e => ?_⟩ (by rw [hl2]; exact hz) fun h' tk hd' k => ?_
  · obtain ⟨b, kk, _, _, e3, e4⟩ := hpr i k v e
    exact ⟨kk, e3, e4⟩
  · have hm : (s.heap.objs.size == sysModules) = false := beq_eq_false_iff_ne.mpr (Nat.ne_of_gt I.big)
    have hlen : (mergeK [] kvs).length ≤ sizeLine := by
      refine Nat.le_trans (length_mergeK kvs []) ?_
      rw [List.length_nil, Nat.zero_add, rel.length, hl]
      exact hz
    exact ⟨.ref s.heap.objs.size, upd H s.heap.objs.size (.dK (mergeK [] kvs)), I.laid (t' := tk) (fun b o e => k b o (by simp) e) (Nat.le_refl _) (show ObjOk X.prog X.w _ _ _ (.dK (mergeK [] kvs)) from ⟨hlen, hm, merged [] prs, KV.merge rel .nil, hd'⟩), rfl, q _ (I.hok.fresh (Nat.le_refl _))⟩
end
/-- dict(e): of a list, or of a plain tuple, of pairs -/
def eDictP (f : S → R Res) : S → R Res := fun s => (f s).bind fun r s => match frz s r with
  | some (.lst ts, s) => (match pairsOf ts with
    | some kl => .ok (.val (dctOf (mergeT [] kl))) s
    | none => .stuck)
  | some (.tupl ts, s) => (match pairsOf ts with
    | some kl => .ok (.val (dctOf (mergeT [] kl))) s
    | none => .stuck)
  | _ => .stuck
def opLenD : T → Option (Bool × T)
  | .dct ks _ => some (false, .int ks.length)
  | _ => none
def opStr : T → Option (Bool × T)
  | .int i => if i.natAbs.log2 < 1920 then some (false, .str (toString i : String)) else none
  | _ => none
section
variable {X : Cx} {e : Expr} {f : S → R Res} {p pos : Pos}
theorem se_dictP (hc : X.calm = true) (hG : Gl X "dict") (hm : X.mg "dict" = none) (he : SE X e f) (hs : starEach [e] X.env = (false, eval e X.env) :: starEach [] X.env := by rfl) : SE X (.Call (.Name "dict" p) [e] [] pos) (eDictP f) := fun W tk =>
  PE.imp (pe_callTy ((call_dictP hc).or (call_dictL hc)) hG hm (by decide +kernel) (pa_cons (he W tk) pa_nil hs) (by decide) (by decide) hs) fun σ H Q ⟨s, τ, rel, post⟩ =>
    run1 (R1 := RRes (Mx X)) (.refl _ _) rel post fun x s2 v τ2 H2 ev rel2 r1 p => by
      split at p
      · rename_i ts s3 ef
        obtain ⟨τ3, e3, kp3, rel3, rp3⟩ := RelR.frz rel2 ev r1 ef
        split at p
        · rename_i kl ek
          cases rp3 with
          | @lst a vs _ h1 h2 =>
            obtain ⟨ps, kvs, e4, e5, e6⟩ := pairsOf_ok h2 ek
            refine .inl ⟨a, ps, kvs, rfl, by rw [← e4]; exact h1.sq, e5, fun q hq => ?_⟩
            obtain ⟨rel4, ev4⟩ := rel3.new (o := .dK (mergeK [] kvs)) (g := .frz) hq (.inr (.inl rfl)) fun _ z => nomatch z
            exact p (.ref q) _ _ (e3.trans ev4) rel4 (((KR.merge e6 (Paired.nil : KR (Mx X) τ3 H2 [] [])).mono ev4.toKp).rp tset_same upd_same)
        · exact p.elim
      · rename_i ts s3 ef
        obtain ⟨τ3, e3, kp3, rel3, rp3⟩ := RelR.frz rel2 ev r1 ef
        split at p
        · rename_i kl ek
          cases rp3 with
          | @tupl a vs _ h1 h2 =>
            obtain ⟨ps, kvs, e4, e5, e6⟩ := pairsOf_ok h2 ek
            obtain ⟨h3, o, h4, h5⟩ := h1
            refine .inr ⟨a, o, ps, kvs, rfl, by rw [← e4]; exact h4, h5, e5, fun q hq => ?_⟩
            obtain ⟨rel4, ev4⟩ := rel3.new (o := .dK (mergeK [] kvs)) (g := .frz) hq (.inr (.inl rfl)) fun _ z => nomatch z
            exact p (.ref q) _ _ (e3.trans ev4) rel4 (((KR.merge e6 (Paired.nil : KR (Mx X) τ3 H2 [] [])).mono ev4.toKp).rp tset_same upd_same)
        · exact p.elim
      · exact p.elim
theorem cg_lenD {M : Md} : CallG1 M (fun xs H Q => ∃ a kvs, xs = [V.ref a] ∧ H a = some (.dK kvs) ∧ Q (.int kvs.length) H) opLenD := by
  intro τ H tx x b t Q hx hg g
  unfold opLenD at hg
  split at hg <;> cases hg
  rename_i ks vs
  rcases hx with z | ⟨a, _, z⟩
  · cases z with
    | @dct a kvs _ h1 h2 h3 => exact ⟨a, kvs, rfl, h2, by have := g.1 rfl _ (.int _); simpa using this⟩
  · exact z.elim
theorem se_lenD (hG : Gl X "len") (hm : X.mg "len" = none) (he : SE X e f) (hs : starEach [e] X.env = (false, eval e X.env) :: starEach [] X.env := by rfl) : SE X (.Call (.Name "len" p) [e] [] pos) (eUn opLenD f) :=
  se_callB1 call_lenD cg_lenD hG hm PySem.boot_len he (by decide) (by decide) hs
theorem cg_str {M : Md} : CallG1 M (fun xs H Q => ∃ i, xs = [.int i] ∧ i.natAbs.log2 < 1920 ∧ Q (.str (toString i : String)) H) opStr := by
  intro τ H tx x b t Q hx hg g
  unfold opStr at hg
  split at hg
  · split at hg <;> cases hg
    rename_i h
    exact ⟨_, by rw [hx.int], h, g.1 rfl _ (.str _)⟩
  · cases hg
theorem se_strc (hG : Gl X "str") (hm : X.mg "str" = none) (he : SE X e f) (hs : starEach [e] X.env = (false, eval e X.env) :: starEach [] X.env := by rfl) : SE X (.Call (.Name "str" p) [e] [] pos) (eUn opStr f) :=
  se_callT1 call_str_int cg_str hG hm (by decide +kernel) he (by decide) (by decide) hs
end

/-! ### f-strings -/
def eFmt (f : S → R Res) : S → R Res := fun s => (f s).bind fun r s => match peek s r with
  | some (.str y) => if szok y.length = true then .ok (.val (.str y)) s else .stuck
  | some (.int i) => if i.natAbs.log2 < 1920 then .ok (.val (.str (toString i : String))) s else .stuck
  | _ => .stuck
def eJs : List (S → R Res) → Str → S → R Res
  | [], acc, s => .ok (.val (.str acc)) s
  | f :: fs, acc, s => (f s).bind fun r s => match peek s r with
    | some (.str y) => if szok (acc ++ y).length = true then eJs fs (acc ++ y) s else .stuck
    | _ => .stuck
section
variable {X : Cx} {e v1 v2 : Expr} {es : List Expr} {f : S → R Res} {fs : List (S → R Res)} {p pos : Pos}
theorem se_fmt (he : SE X e f) : SE X (.FormattedValue e (-1) none pos) (eFmt f) := fun W tk => PE.imp (pe_fmt (he W tk)) fun σ H Q ⟨s, τ, rel, post⟩ =>
  run1 (R1 := RRes (Mx X)) (.refl _ _) rel post fun x s2 v τ2 H2 ev rel2 r1 p => by
    split at p
    · rename_i y ex
      split at p
      · rename_i hz
        exact .inl ⟨y, (RelR.isT rel2 r1 ex).str, szok_le hz, p _ τ2 H2 ev rel2 (.str y)⟩
      · exact p.elim
    · rename_i i ex
      split at p
      · rename_i hz
        exact .inr ⟨i, (RelR.isT rel2 r1 ex).int, hz, p _ τ2 H2 ev rel2 (.str _)⟩
      · exact p.elim
    · exact p.elim
def SJ (X : Cx) (es : List Expr) (fs : List (S → R Res)) : Prop := ∀ W, Takes X W → PJ X es (fs.map fun f => tG (Mx X) (RRes (Mx X)) f W)
theorem sj_nil : SJ X [] [] := fun W tk => .nil
theorem sj_cons (he : SE X e f) (hr : SJ X es fs) : SJ X (e :: es) (f :: fs) := fun W tk => .cons (he W tk) (hr W tk)
theorem js_run {M : Md} {W : WX} {σ : L2.St} : ∀ {fs : List (S → R Res)} {acc : Str} {H H0 : Hp} {τ τ0 : Tg} {s : S} {Q : VK}, Evo τ0 H0 τ H → Rel M s τ σ H → Post M (RRes M) σ τ0 H0 (eJs fs acc s) Q W → tJs (fs.map fun f => tG M (RRes M) f W) acc σ H fun out H1 => Q (.str out) H1
  | [], acc, H, H0, τ, τ0, s, Q, ev, rel, p => p (.str acc) τ H ev rel (.str acc)
  | f :: fs, acc, H, H0, τ, τ0, s, Q, ev, rel, p => run1 (R1 := RRes M) ev rel p fun x s2 v τ2 H2 ev2 rel2 r1 p2 => by
    split at p2
    · rename_i y ex
      split at p2
      · rename_i hz
        exact ⟨y, (RelR.isT rel2 r1 ex).str, szok_le hz, js_run (ev.trans ev2) rel2 p2⟩
      · exact p2.elim
    · exact p2.elim
theorem se_joined (h : SJ X (v1 :: v2 :: es) fs) : SE X (.JoinedStr (v1 :: v2 :: es) pos) (eJs fs Str.empty) := fun W tk =>
  PE.imp (pe_joined (h W tk)) fun σ H Q ⟨s, τ, rel, post⟩ => js_run (.refl _ _) rel post
end

/-! ### nested targets of a tuple display -/
abbrev Tgt := Nat ⊕ List Nat
inductive Nmt (X : Cx) : List Expr → List Tgt → Prop
  | nil : Nmt X [] []
  | name {i : Nat} {x : Str} {p : Pos} {es : List Expr} {is : List Tgt} : X.N[i]? = some x → Loc X.env.scope x → (X.fn x = true ∨ X.env.scope.names.lookup x = some .local) →
      ((assignEach (.Name x p :: es) X.env).map (·.2) = assign (.Name x p) X.env :: (assignEach es X.env).map (·.2)) → Nmt X es is → Nmt X (.Name x p :: es) (.inl i :: is)
  | tup {ts : List Expr} {js : List Nat} {k : Nat} {p : Pos} {es : List Expr} {is : List Tgt} : Nms X ts js → (assignEach ts X.env).length = js.length → (assignEach ts X.env).findIdx? (·.1) = none →
      ((assignEach (.Tuple ts k p :: es) X.env).map (·.2) = assign (.Tuple ts k p) X.env :: (assignEach es X.env).map (·.2)) → Nmt X es is → Nmt X (.Tuple ts k p :: es) (.inr js :: is)
def stT (K : PySem.W.Frag) : List Tgt → TGs
  | [] => fun vs σ H Q => vs = [] ∧ Q σ H
  | .inl i :: is => fun vs σ H Q => ∃ v ws, vs = v :: ws ∧ stT K is ws (σ.set i (some v)) H Q
  | .inr js :: is => fun vs σ H Q => ∃ a xs ws, vs = .ref a :: ws ∧ SqT K H a xs ∧ xs.length = js.length ∧ stT K is ws (setAll js xs σ) H Q
theorem Nmt.pgs {X : Cx} (hc : X.calm = true) (hN : X.N.Nodup) : ∀ {es : List Expr} {is : List Tgt}, Nmt X es is → PGs X es (stT X.K is)
  | _, _, .nil => PGs.imp pgs_nil fun vs σ H Q ⟨h1, h2⟩ => ⟨h1, h2⟩
  | _, _, .name h1 h2 h3 h4 r => PGs.imp (pgs_cons (pg_name hN h1 h2 h3) (Nmt.pgs hc hN r) h4) fun vs σ H Q ⟨v, ws, k1, k2⟩ => ⟨v, ws, k1, k2⟩
  | _, _, .tup h1 h2 h3 h4 r => PGs.imp (pgs_cons (pg_tup hc (h1.pgs hN) h2 h3) (Nmt.pgs hc hN r) h4) fun vs σ H Q ⟨a, xs, ws, k1, k2, k3, k4⟩ => ⟨.ref a, ws, k1, a, xs, rfl, k2, k3, k3, k4⟩
def storeT : List Tgt → List (Bool × T) → S → Option S
  | [], [], s => some s
  | .inl i :: is, bt :: bts, s => storeT is bts ⟨s.sl.set i (some bt), s.ob⟩
  | .inr js :: is, (false, .tup ts) :: bts, s => if ts.length = js.length then storeT is bts (storeAll js (ts.map fun t => (false, t)) s) else none
  | _, _, _ => none
theorem rel_all {M : Md} {H : Hp} {τ : Tg} : ∀ {js : List Nat} {ts : List T} {xs : List V} {s : S} {σ : L2.St}, Rps M τ H ts xs → Rel M s τ σ H → Rel M (storeAll js (ts.map fun t => (false, t)) s) τ (setAll js xs σ) H
  | [], ts, xs, s, σ, r, rel => by cases ts <;> cases xs <;> exact rel
  | j :: js, _, _, s, σ, .nil, rel => rel
  | j :: js, _, _, s, σ, .cons h r, rel => rel_all (js := js) r (rel.set (i := j) (b := false) h)
theorem parT {M : Md} {H0 H : Hp} {τ0 : Tg} {Q : L2.St → Hp → Prop} {s' : S} : ∀ {is : List Tgt} {bts : List (Bool × T)} {vs : List V} {s : S} {τ : Tg} {σ : L2.St}, VOs M H0 τ H bts vs → Rel M s τ σ H → Evo τ0 H0 τ H → storeT is bts s = some s' →
    (∀ τ' σ', Evo τ0 H0 τ' H → Rel M s' τ' σ' H → Q σ' H) → stT M.K is vs σ H Q
  | [], _, _, s, τ, σ, .nil, rel, ev, e, q => by cases e; exact ⟨rfl, q τ σ ev rel⟩
  | [], _, _, s, τ, σ, .cons _ _ _, rel, ev, e, q => by cases e
  | .inl i :: is, _, _, s, τ, σ, .nil, rel, ev, e, q => by cases e
  | .inr js :: is, _, _, s, τ, σ, .nil, rel, ev, e, q => by cases e
  | .inl i :: is, _, _, s, τ, σ, .cons (b := b) (t := t) (v := v) h n r, rel, ev, e, q => by
    cases b with
    | false => exact ⟨v, _, rfl, parT (is := is) r (rel.set (i := i) (b := false) h) ev e q⟩
    | true =>
      obtain ⟨a, rfl, e2, e3, e4⟩ := h
      obtain ⟨τ1, k1, k2, k3, k4, k5⟩ := own_at (i := i) rel ev e4 e3 e2
      exact ⟨_, _, rfl, parT (is := is) (r.kp k2 k5 (n rfl)) (k3.set (i := i) (b := true) k4) k1 e q⟩
  | .inr js :: is, _, _, s, τ, σ, .cons (b := b) (t := t) (v := v) h n r, rel, ev, e, q => by
    cases b with
    | true => simp [storeT] at e
    | false =>
      cases t with
      | tup ts =>
        have e : (if ts.length = js.length then storeT is _ (storeAll js (ts.map fun t => (false, t)) s) else none) = some s' := e
        split at e
        · rename_i hl
          have h : Rp M τ H (.tup _) v := h
          cases h with
          | @tup a xs _ q1 q2 => exact ⟨a, xs, _, rfl, q1.sq, by rw [← q2.length]; exact hl, parT (is := is) r (rel_all (js := js) q2 rel) ev e q⟩
        · cases e
      | _ => simp [storeT] at e
def sParT (is : List Tgt) (g : S → R (List (Bool × T))) : S → RS := fun s => (g s).bindS fun bts s => match storeT is bts s with
  | some s => if bts.length = is.length then .nxt s else .stuck
  | none => .stuck
section
variable {X : Cx} {g : S → R (List (Bool × T))} {pos pt pt2 : Pos} {kt k2 : Nat}
theorem ss_parT {ts es : List Expr} {is : List Tgt} {n : Nat} (hc : X.calm = true) (hN : X.N.Nodup) (hn : Nmt X ts is) (ha : SAo X es g)
    (hw : swappedStores [.Tuple ts kt pt] (.Tuple es k2 pt2) X.env = pure none := by rfl) (hs : swapsWithSole [.Tuple ts kt pt] (.Tuple es k2 pt2) pos.line X.env = pure false := by rfl)
    (h1 : (assignEach [.Tuple ts kt pt] X.env).map (·.2) = [assign (.Tuple ts kt pt) X.env] := by rfl) (hl : (assignEach ts X.env).length = n := by rfl) (hst : (assignEach ts X.env).findIdx? (·.1) = none := by rfl)
    (hz : szok n = true := by rfl) (hni : n = is.length := by rfl) : SS X (.Assign [.Tuple ts kt pt] (.Tuple es k2 pt2) pos) (sParT is g) := fun W tk =>
  PS.imp (ps_asg (pe_tup (ha W tk)) (pg_tup hc (hn.pgs hc hN) hl hst) hs hw h1) fun D σ H ⟨s, τ, rel, post⟩ =>
    runS (R1 := RVOs (Mx X)) (.refl _ _) rel post fun bts s2 vs τ2 H2 ev rel2 r1 p => by
      split at p
      · rename_i s3 e3
        split at p
        · rename_i hl
          have r1 : VOs (Mx X) H τ2 H2 bts vs := r1
          have hv : vs.length = is.length := by rw [← r1.length]; exact hl
          refine ⟨by rw [hv, ← hni]; exact szok_le hz, fun q hq => ⟨q, vs, rfl, .inl (.inl upd_same), by rw [hv, hni], ?_⟩⟩
          obtain ⟨rel3, ev3⟩ := rel2.new (o := .tup vs) (g := .free) hq (.inl rfl) fun _ z => nomatch z
          have r3 : VOs (Mx X) H (tset τ2 q .free) (upd H2 q (.tup vs)) bts vs := by
            have go : ∀ {bts : List (Bool × T)} {ws : List V}, VOs (Mx X) H τ2 H2 bts ws → VOs (Mx X) H (tset τ2 q .free) (upd H2 q (.tup vs)) bts ws := by
              intro bts ws r
              induction r with
              | nil => exact .nil
              | cons h n r ih => exact .cons (h.later ev3) n ih
            exact go r1
          exact parT (M := Mx X) r3 rel3 (ev.trans ev3) e3 fun τ' σ' e1 e2 => p σ' τ' _ e1 e2
        · exact p.elim
      · exact p.elim
end
end Sv

/-! Sv, part Y: defs with code that is known, defs with defaults, a law's end with several tables. -/
namespace Sv
open PySem PySem.Spec PyProof.Rows L2
variable [Tb]
section
variable {P : Program} {w : World} {K : PySem.W.Frag} {mg : Str → Option Value} {base : Heap}
/-- a def of the module with a code object that is known -/
theorem cal_ofC2 {x : Str} {st : Stmt} {fd : FuncData} {N ps : List Str} {k : Nat} {body : S → RS} {p : Str × Option Str} (F : FunD K x x (defArgs st) (defBody st) (defScope st) [] [] (He.fAd K p) fd) (hm : mg x = some (.ref (He.fAd K p))) (Sc : FnScope N ps (defScope st)) (hl : ps.length ≤ N.length)
    (hbd : ∀ (kV doc pm : Value) (an : Option Addr) (cdv ct : Value) (us : List Value), us.length = ps.length → bindArgs (PySem.W.fnOf x x (defArgs st) (defBody st) (defScope st) .none kV doc pm an cdv ct) ⟨us, []⟩ = pure (ps.zip us))
    (hb : ∀ (cdv : Value) (A : Around) (outer : List Env) (s : Shared) (H : Hp) (E : XK), cdv = .ref (He.cT K p).1 → Rm (cxOf (L2.CX P w) P w K mg base N x (defScope st) (He.fAd K p) cdv A outer s H E) k → PassesOwn (model P w) (A.deeper (envOfC x (defScope st) s.heap.objs.size (He.fAd K p) cdv)) (envOfC x (defScope st) s.heap.objs.size (He.fAd K p) cdv) (cxOf (L2.CX P w) P w K mg base N x (defScope st) (He.fAd K p) cdv A outer s H E).xe →
      SSs (cxOf (L2.CX P w) P w K mg base N x (defScope st) (He.fAd K p) cdv A outer s H E) (defBody st) body) : Cal P w K mg base x (k + 1) ps.length (mkFn ps.length N.length body) :=
  ⟨⟨He.fAd K p, fd, ps, cal_ofC F hm Sc hl hbd hb, hm, F.kp, F.bindsN hbd, rfl⟩, mkFn_len⟩
/-- a def of the module with defaults, of which no call makes use -/
theorem cal_ofDf {x : Str} {st : Stmt} {f : Addr} {fd : FuncData} {N ps : List Str} {k : Nat} {body : S → RS} {dvs : List V} (F : FunD K x x (defArgs st) (defBody st) (defScope st) dvs [] f fd) (hm : mg x = some (.ref f)) (Sc : FnScope N ps (defScope st)) (hl : ps.length ≤ N.length) (hd : dvs ≠ [])
    (hbd : ∀ (T : Addr) (kV doc pm : Value) (an : Option Addr) (cdv ct : Value) (us its : List Value), us.length = ps.length → its.length = dvs.length →
      ∃ k, bindArgs (PySem.W.fnOf x x (defArgs st) (defBody st) (defScope st) (.ref T) kV doc pm an cdv ct) ⟨us, []⟩ = seqItems? (.ref T) >>= k ∧ k (some its.toArray) = pure (ps.zip (us ++ its.drop dvs.length)))
    (hb : ∀ (cdv : Value) (A : Around) (outer : List Env) (s : Shared) (H : Hp) (E : XK), Rm (cxOf (L2.CX P w) P w K mg base N x (defScope st) f cdv A outer s H E) k → PassesOwn (model P w) (A.deeper (envOfC x (defScope st) s.heap.objs.size f cdv)) (envOfC x (defScope st) s.heap.objs.size f cdv) (cxOf (L2.CX P w) P w K mg base N x (defScope st) f cdv A outer s H E).xe →
      SSs (cxOf (L2.CX P w) P w K mg base N x (defScope st) f cdv A outer s H E) (defBody st) body) : Cal P w K mg base x (k + 1) ps.length (mkFn ps.length N.length body) := by
  obtain ⟨ds, h1, h2⟩ := F.binds1 ps.length dvs.length hd (by omega) hbd
  rw [List.drop_length] at h1
  cases h1
  obtain ⟨oc, od, dV, kV, doc, pm, an, cdv, ct, osl, e, lk, hcd, _, _⟩ := F.ex
  have kp := F.kp
  subst e
  exact ⟨⟨f, _, ps, fn_okAt lk hcd Sc hl fun A outer s H E => hb cdv A outer s H E, hm, kp, h2, rfl⟩, mkFn_len⟩
end
/-! ### the end -/
open Classical in
noncomputable def tauM (cs : List (Addr × Str)) (a : Addr) (H : Hp) : Tg := fun b => match cs.lookup b with
  | some q => .tb q
  | none => if b = a ∧ H a ≠ none then .frz else .free
theorem lookup_nd {p : Addr × Str} : ∀ {cs : List (Addr × Str)}, (cs.map (·.1)).Nodup → p ∈ cs → cs.lookup p.1 = some p.2
  | (b, q) :: r, nd, h => by
    rw [List.map_cons, List.nodup_cons] at nd
    rw [List.lookup_cons]
    rcases List.mem_cons.mp h with e | h
    · subst e; simp
    · have ne : (p.1 == b) = false := by
        rw [beq_eq_false_iff_ne]
        intro e
        exact nd.1 (List.mem_map.mpr ⟨p, h, e⟩)
      rw [ne]
      exact lookup_nd nd.2 h
theorem lookup_mem2 {a : Addr} {q : Str} : ∀ {cs : List (Addr × Str)}, cs.lookup a = some q → (a, q) ∈ cs
  | (b, u) :: r, h => by
    rw [List.lookup_cons] at h
    cases e : (a == b) with
    | true =>
      rw [e] at h
      cases h
      rw [beq_iff_eq.mp e]
      exact List.mem_cons_self
    | false =>
      rw [e] at h
      exact List.mem_cons_of_mem _ (lookup_mem2 h)
theorem tauM_c {cs : List (Addr × Str)} {a : Addr} {H : Hp} (b : Addr) : (∃ q, tauM cs a H b = .tb q ∧ (b, q) ∈ cs) ∨ (tauM cs a H b = .frz ∧ b = a ∧ H a ≠ none ∧ cs.lookup b = none) ∨ tauM cs a H b = .free := by
  unfold tauM
  split
  · rename_i q e; exact .inl ⟨q, rfl, lookup_mem2 e⟩
  · rename_i e
    split
    · rename_i h; exact .inr (.inl ⟨rfl, h.1, h.2, e⟩)
    · exact .inr (.inr rfl)
theorem sp_lawM {K : PySem.W.Frag} {mg : Str → Option Value} {cs : List (Addr × Str)} {a : Addr} {L : Nat → LD} {H : Hp} {ns : List Int} {G : Fn} {ob : List OV} (nd : (cs.map (·.1)).Nodup) (hP : ∀ p ∈ cs, H p.1 = some (.tbl #[])) (hS : SqL K H a (ns.map V.int)) (hG : G [.scr ns] [] = .ok false (.bl true) ob) :
    spF ⟨K, mg, cs, L⟩ 1 G [.ref a] H (fun v _ => v = .bl true) fun _ _ _ => False := by
  have no : ∀ b g, tauM cs a H b = g → ((∀ q, g ≠ .tb q) ∧ g ≠ .frz ∧ g ≠ .free) → False := fun b g e n => by
    rcases tauM_c (cs := cs) (a := a) (H := H) b with ⟨q, h, _⟩ | ⟨h, _⟩ | h
    · exact n.1 q (e.symm.trans h)
    · exact n.2.1 (e.symm.trans h)
    · exact n.2.2 (e.symm.trans h)
  refine ⟨tauM cs a H, [], [.scr ns], fun b i z => no b _ z (by simp), ⟨fun b r z => (no b _ z (by simp)).elim, fun b c r z _ => (no b _ z (by simp)).elim, fun b z => ?_, ⟨fun p hp => ?_, fun b q' z => ?_, trivial⟩⟩, .cons (.scr ?_) .nil, rfl, ?_⟩
  · rcases tauM_c (cs := cs) (a := a) (H := H) b with ⟨q, _, h⟩ | ⟨_, h, h2, _⟩ | h
    · rw [hP (b, q) h]; simp
    · rw [h]; exact h2
    · exact absurd h z
  · unfold tauM
    rw [lookup_nd nd hp]
  · rcases tauM_c (cs := cs) (a := a) (H := H) b with ⟨q, h, h2⟩ | ⟨h, h1, h2⟩ | h
    · rw [h] at z
      cases z
      exact ⟨h2, #[], hP _ h2, True.intro, .inr fun pos cv hc => by
        have z : codeAmong pos [] = some cv := hc
        simp [codeAmong] at z⟩
    · rw [h] at z; cases z
    · rw [h] at z; cases z
  · rcases hS with h | h
    · have hn : cs.lookup a = none ∧ H a ≠ none := by
        have nt : H a ≠ some (.tbl #[]) := fun z => by
          rcases h with h | ⟨o, h⟩ <;> rw [z] at h <;> cases h
        refine ⟨?_, ?_⟩
        · cases e : cs.lookup a with
          | none => rfl
          | some q => exact absurd (hP _ (lookup_mem2 e)) nt
        · rcases h with h | ⟨o, h⟩ <;> rw [h] <;> simp
      refine .inl ⟨?_, h⟩
      unfold tauM
      rw [hn.1]
      exact if_pos ⟨rfl, hn.2⟩
    · exact .inr h
  · show (match G [.scr ns] [] with | .ok b t ob' => _ | .exc c ob' => _ | .stuck => False)
    rw [hG]
    intro v τ' H' _ _ hv
    have hv : Rp _ τ' H' (.bl true) v := hv
    cases hv
    rfl
theorem law_atM {l : PySem.W.OpenLaw} {w : World} {K : PySem.W.Frag} {k n : Nat} {x : Str} {mg : Str → Option Value} {fa : Addr} {h : Heap} {fd : FuncData} {L : Nat → LD} {G : Fn} {cs : List ((Addr × Addr) × Str)}
    (nd : (cs.map fun p => p.1.2).Nodup) (hT : ∀ p ∈ cs, h.get? p.1.2 = some { cls := .none, data := .fields #[] }) (nT : ∀ p ∈ cs, K.lookup p.1.2 = none) (C : ∀ p ∈ cs, PySem.W.CodeHd h p.1.1 p.1.2) (hb : ∀ (s : Shared) (v : Value), BindsTo s fd ⟨[v], []⟩ [(x, v)])
    (plain : ∀ ns : List Int, ns.length ≤ n → (∀ z ∈ ns, Builtin.Int.intBits z ≤ 1048576) → ∃ ob, G [.scr ns] [] = .ok false (.bl true) ob)
    (F : ∀ base : Heap, K.In base → base.Ns mainGlobals mg → (∀ p ∈ cs, LamX.TabB base mg p.1.1 p.1.2) → FnOk l.prog w K mg base (L2.CX l.prog w) k fa fd [x] (spF ⟨K, mg, cs.map fun p => (p.1.2, p.2), L⟩ 1 G)) : LamX.LawAtS l w K (L2.CX l.prog w) k n x mg fa h := by
  have inv : ∀ p ∈ cs.map (·.1), ∃ q, (p, q) ∈ cs := fun p hp => by
    obtain ⟨z, hz, e⟩ := List.mem_map.mp hp
    exact ⟨z.2, by rw [← e]; exact hz⟩
  refine ⟨fd, cs.map (·.1), _, fun p hp => ?_, fun p hp => ?_, fun p hp => ?_, hb, fun H a ns h1 h2 h3 h4 => ?_, fun base h1 h2 h3 => F base h1 h2 fun p hp => h3 p.1 (List.mem_map.mpr ⟨p, hp, rfl⟩)⟩
  · obtain ⟨q, hq⟩ := inv p hp; exact hT _ hq
  · obtain ⟨q, hq⟩ := inv p hp; exact nT _ hq
  · obtain ⟨q, hq⟩ := inv p hp; exact C _ hq
  · obtain ⟨ob, hG⟩ := plain ns h1 h2
    refine sp_lawM (by rw [List.map_map]; exact nd) (fun p hp => ?_) h4 hG
    obtain ⟨z, hz, e⟩ := List.mem_map.mp hp
    rw [← e]
    exact h3 z.1 (List.mem_map.mpr ⟨z, hz, rfl⟩)
/-- the names of a generator expression, by one check -/
def gxOkB (N : List Str) (sc scope : Scope) (own : List (Str × Nat)) : Bool :=
  !scope.isCoroutine && (scope.names.all fun y => decide (y.2 ≠ .cell)) && decide (scope.names.lookup (".0" : Str) = some NameKind.local)
theorem gxOk {N : List Str} {sc scope : Scope} {own : List (Str × Nat)} (h : BlkOk N sc scope own) (b : gxOkB N sc scope own = true) : Gx.Ok N sc scope own := by
  unfold gxOkB at b
  simp only [Bool.and_eq_true, Bool.not_eq_true', decide_eq_true_eq, List.all_eq_true] at b
  exact ⟨h, b.1.1, fun y hy => b.1.2 y hy, b.2⟩
theorem Rm.gx {X : Cx} {k : Nat} {A : Around} {s : Shared} {H : Hp} {scope : Scope} {L : Addr} {code : Value} {fp : List Addr} (h : Rm (Gx.cx X A s H (Gx.env X scope L code) fp) k) : Rm (Gx.cx X A s H (Gx.env X scope L code) fp) k := h
end Sv

namespace K01
open PySem PySem.Spec PyProof.Rows L2 Sv
/-! ### the text -/
def topS (i : Nat) : Stmt := PySem.Challenge.pw_algebrastack_k01_whole_numbers_and_fract.main.body.getD i (.Pass ⟨0, 0, 0, 0⟩)
/-! ### what each def does -/
abbrev s__law_dice : Stmt := topS 31
abbrev N__law_dice : List Str := ["cell"]
abbrev P__law_dice : List Str := ["cell"]
theorem sc__law_dice : FnScope N__law_dice P__law_dice (defScope s__law_dice) := ⟨rfl, rfl, rfl, by decide +kernel, rfl, by decide +kernel, by decide +kernel⟩
def b__law_dice : S → RS :=
    (sCons (sIf (tTst (eChn opLt opLt (eBin opSub (eC (.int 0)) (eC (.int 10))) (eVar 0) (eC (.int 10)))) (sRet (eLstO (aCons (eUn opAbs (eVar 0)) (aCons (eC (.int 0)) (aCons (eC (.int 2)) aNil))))) sNil)
    (sRet (eLstO (aCons (eVar 0) (aCons (eBin opAdd (eC (.int 1)) (eBin opMod (eUn opInt (eVar 0)) (eC (.int 1009)))) (aCons (eUn opInt (eBin opGe (eVar 0) (eBin opPow (eC (.int 10)) (eC (.int 18))))) aNil))))))
def F__law_dice : Fn := mkFn 1 1 b__law_dice
abbrev s__law_rounds : Stmt := topS 33
abbrev N__law_rounds : List Str := ["script", "most", "cells", "cell"]
abbrev P__law_rounds : List Str := ["script", "most"]
theorem sc__law_rounds : FnScope N__law_rounds P__law_rounds (defScope s__law_rounds) := ⟨rfl, rfl, rfl, by decide +kernel, rfl, by decide +kernel, by decide +kernel⟩
def bb__law_rounds (F__law_dice : Fn) : S → RS :=
    (sCons (sSet 2 (eCut (eVar 0) oNone (oSome (eVar 1))))
    (sCons (sIf (tTst (eBin opEq (eVar 2) (eLst aNil))) (sSet 2 (eLst (aCons (eC (.int 0)) aNil))) sNil)
    (sRet (eLC [3] (iSeq (eVar 2)) (gSet 3) cYes (eCall F__law_dice (aCons (eVar 3) aNil))))))
def b__law_rounds : S → RS :=
    bb__law_rounds F__law_dice
def F__law_rounds : Fn := mkFn 2 4 b__law_rounds
abbrev s_bezout : Stmt := topS 6
abbrev N_bezout : List Str := ["one", "other", "rows", "times", "found", "first", "second", "part"]
abbrev P_bezout : List Str := ["one", "other"]
theorem sc_bezout : FnScope N_bezout P_bezout (defScope s_bezout) := ⟨rfl, rfl, rfl, by decide +kernel, rfl, by decide +kernel, by decide +kernel⟩
def b_bezout : S → RS :=
    (sCons (sSet 2 (eLst (aCons (eTup (aCons (eVar 0) (aCons (eC (.int 1)) (aCons (eC (.int 0)) aNil)))) (aCons (eTup (aCons (eVar 1) (aCons (eC (.int 0)) (aCons (eC (.int 1)) aNil)))) aNil))))
    (sCons (sWhile (tTst (eBin opNe (eBin opIx (eBin opIx (eVar 2) (eC (.int 1))) (eC (.int 0))) (eC (.int 0)))) (sCons (sSet 3 (eBin opDiv (eBin opIx (eBin opIx (eVar 2) (eC (.int 0))) (eC (.int 0))) (eBin opIx (eBin opIx (eVar 2) (eC (.int 1))) (eC (.int 0)))))
      (sSet 2 (eLst (aCons (eBin opIx (eVar 2) (eC (.int 1))) (aCons (eTupG [5, 6] (iZip (aCons (eBin opIx (eVar 2) (eC (.int 0))) (aCons (eBin opIx (eVar 2) (eC (.int 1))) aNil))) (gTup 2 (gCons (gSet 5) (gCons (gSet 6) gNil))) cYes (eBin opSub (eVar 5) (eBin opMul (eVar 3) (eVar 6)))) aNil))))))
    (sCons (sSet 4 (eBin opIx (eVar 2) (eC (.int 0))))
    (sRet (eIf (tTst (eBin opLt (eBin opIx (eVar 4) (eC (.int 0))) (eC (.int 0)))) (eTupG [7] (iSeq (eVar 4)) (gSet 7) cYes (eBin opSub (eC (.int 0)) (eVar 7))) (eVar 4))))))
def F_bezout : Fn := mkFn 2 8 b_bezout
abbrev s_prime_factors : Stmt := topS 9
abbrev N_prime_factors : List Str := ["number", "found", "trial", "many"]
abbrev P_prime_factors : List Str := ["number"]
theorem sc_prime_factors : FnScope N_prime_factors P_prime_factors (defScope s_prime_factors) := ⟨rfl, rfl, rfl, by decide +kernel, rfl, by decide +kernel, by decide +kernel⟩
def b_prime_factors : S → RS :=
    (sCons (sIf (tTst (eBin opEq (eVar 0) (eC (.int 0)))) (sRaise "NumberError") sNil)
    (sCons (sPar [0, 1, 2] (aoCons (eUn opAbs (eVar 0)) (aoCons (eLst aNil) (aoCons (eC (.int 2)) aoNil))))
    (sCons (sWhile (tAndS (tTst (eBin opLe (eBin opMul (eVar 2) (eVar 2)) (eVar 0))) (tTst (eBin opLe (eVar 2) (eC (.int 1000000))))) (sCons (sSet 3 (eC (.int 0)))
      (sCons (sWhile (tTst (eBin opEq (eBin opMod (eVar 0) (eVar 2)) (eC (.int 0)))) (sCons (sAug opIDiv 0 (eVar 2))
        (sAug opIAdd 3 (eC (.int 1)))))
      (sCons (sIf (tTst (eBin opGt (eVar 3) (eC (.int 0)))) (sExpr (eApp (eVar 1) (eTup (aCons (eVar 2) (aCons (eVar 3) aNil))))) sNil)
      (sAug opIAdd 2 (eC (.int 1)))))))
    (sCons (sIf (tTst (eBin opGt (eVar 0) (eC (.int 1)))) (sCons (sIf (tTst (eBin opGt (eVar 0) (eBin opMul (eC (.int 1000000)) (eC (.int 1000000))))) (sRaise "NumberError") sNil)
      (sExpr (eApp (eVar 1) (eTup (aCons (eVar 0) (aCons (eC (.int 1)) aNil)))))) sNil)
    (sRet (eTupL (eVar 1)))))))
def F_prime_factors : Fn := mkFn 1 4 b_prime_factors
abbrev s_power : Stmt := topS 14
abbrev N_power : List Str := ["number", "exponent", "found", "step"]
abbrev P_power : List Str := ["number", "exponent"]
theorem sc_power : FnScope N_power P_power (defScope s_power) := ⟨rfl, rfl, rfl, by decide +kernel, rfl, by decide +kernel, by decide +kernel⟩
def b_power : S → RS :=
    (sCons (sSet 2 (eC (.int 1)))
    (sCons (sFor (iRng1 (eVar 1)) (gSet 3) (sAug opIMul 2 (eVar 0)))
    (sRet (eVar 2))))
def F_power : Fn := mkFn 2 4 b_power
abbrev s_root_below : Stmt := topS 13
abbrev N_root_below : List Str := ["number", "many", "low", "high", "middle"]
abbrev P_root_below : List Str := ["number", "many"]
theorem sc_root_below : FnScope N_root_below P_root_below (defScope s_root_below) := ⟨rfl, rfl, rfl, by decide +kernel, rfl, by decide +kernel, by decide +kernel⟩
def bb_root_below (F_power : Fn) : S → RS :=
    (sCons (sIf (tOrS (tTst (eBin opLt (eVar 0) (eC (.int 0)))) (tTst (eBin opLt (eVar 1) (eC (.int 1))))) (sRaise "NumberError") sNil)
    (sCons (sPar [2, 3] (aoCons (eC (.int 0)) (aoCons (eC (.int 1)) aoNil)))
    (sCons (sWhile (tTst (eBin opLe (eCall F_power (aCons (eVar 3) (aCons (eVar 1) aNil))) (eVar 0))) (sAug opIMul 3 (eC (.int 2))))
    (sCons (sWhile (tTst (eBin opGt (eBin opSub (eVar 3) (eVar 2)) (eC (.int 1)))) (sCons (sSet 4 (eBin opDiv (eBin opAdd (eVar 2) (eVar 3)) (eC (.int 2))))
      (sIf (tTst (eBin opLe (eCall F_power (aCons (eVar 4) (aCons (eVar 1) aNil))) (eVar 0))) (sSet 2 (eVar 4)) (sSet 3 (eVar 4)))))
    (sRet (eVar 2))))))
def b_root_below : S → RS :=
    bb_root_below F_power
def F_root_below : Fn := mkFn 2 5 b_root_below
abbrev s_convergents : Stmt := topS 16
abbrev N_convergents : List Str := ["one", "other", "rows", "found", "whole"]
abbrev P_convergents : List Str := ["one", "other"]
theorem sc_convergents : FnScope N_convergents P_convergents (defScope s_convergents) := ⟨rfl, rfl, rfl, by decide +kernel, rfl, by decide +kernel, by decide +kernel⟩
def b_convergents : S → RS :=
    (sCons (sIf (tTst (eBin opLt (eVar 1) (eC (.int 1)))) (sRaise "NumberError") sNil)
    (sCons (sPar [2, 3] (aoCons (eLst (aCons (eTup (aCons (eC (.int 0)) (aCons (eC (.int 1)) aNil))) (aCons (eTup (aCons (eC (.int 1)) (aCons (eC (.int 0)) aNil))) aNil))) (aoCons (eLst aNil) aoNil)))
    (sCons (sWhile (tTst (eBin opNe (eVar 1) (eC (.int 0)))) (sCons (sSet 4 (eBin opDiv (eVar 0) (eVar 1)))
      (sCons (sSet 2 (eLst (aCons (eBin opIx (eVar 2) (eC (.int 1))) (aCons (eTup (aCons (eBin opAdd (eBin opMul (eVar 4) (eBin opIx (eBin opIx (eVar 2) (eC (.int 1))) (eC (.int 0)))) (eBin opIx (eBin opIx (eVar 2) (eC (.int 0))) (eC (.int 0)))) (aCons (eBin opAdd (eBin opMul (eVar 4) (eBin opIx (eBin opIx (eVar 2) (eC (.int 1))) (eC (.int 1)))) (eBin opIx (eBin opIx (eVar 2) (eC (.int 0))) (eC (.int 1)))) aNil))) aNil))))
      (sCons (sExpr (eApp (eVar 3) (eBin opIx (eVar 2) (eC (.int 1)))))
      (sPar [0, 1] (aoCons (eVar 1) (aoCons (eBin opSub (eVar 0) (eBin opMul (eVar 4) (eVar 1))) aoNil)))))))
    (sRet (eUn opTuple (eVar 3))))))
def F_convergents : Fn := mkFn 2 5 b_convergents
abbrev s__law_roll : Stmt := topS 32
abbrev N__law_roll : List Str := ["dice", "many", "found"]
abbrev P__law_roll : List Str := ["dice", "many"]
theorem sc__law_roll : FnScope N__law_roll P__law_roll (defScope s__law_roll) := ⟨rfl, rfl, rfl, by decide +kernel, rfl, by decide +kernel, by decide +kernel⟩
def b__law_roll (F : Fn) : S → RS :=
    (sCons (sIf (tOrS (tTst (eBin opEq (eBin opIx (eVar 0) (eC (.int 2))) (eC (.int 2)))) (tAndS (tTst (eBin opEq (eBin opIx (eVar 0) (eC (.int 2))) (eC (.int 1)))) (tTst (eBin opGt (eBin opIx (eVar 0) (eC (.int 0))) (eC (.int 0)))))) (sCons (sSet 2 (eBin opMod (eUn opInt (eBin opIx (eVar 0) (eC (.int 0)))) (eVar 1)))
      (sCons (sAsg (eBin opDiv (eBin opIx (eVar 0) (eC (.int 0))) (eVar 1)) (gSub (eVar 0) (eC (.int 0))))
      (sRet (eVar 2)))) sNil)
    (sCons (sAsg (eC (.int 0)) (gSub (eVar 0) (eC (.int 2))))
    (sCons (sIf (tTst (eBin opGt (eVar 1) (eC (.int 100000000)))) (sRet (eBin opMod (eUn opInt (eBin opAdd (eBin opMul (eCall F (aCons (eVar 0) (aCons (eBin opAdd (eBin opDiv (eVar 1) (eC (.int 100000000))) (eC (.int 1))) aNil))) (eC (.int 100000000))) (eCall F (aCons (eVar 0) (aCons (eC (.int 100000000)) aNil))))) (eVar 1))) sNil)
    (sCons (sAsg (eBin opMod (eUn opInt (eBin opAdd (eBin opAdd (eBin opMul (eBin opIx (eVar 0) (eC (.int 0))) (eC (.int 48271))) (eBin opMul (eBin opIx (eVar 0) (eC (.int 1))) (eC (.int 69621)))) (eC (.int 11)))) (eC (.int 2147483647))) (gSub (eVar 0) (eC (.int 0))))
    (sCons (sAsg (eBin opAdd (eBin opIx (eVar 0) (eC (.int 1))) (eC (.int 1))) (gSub (eVar 0) (eC (.int 1))))
    (sRet (eBin opMod (eUn opInt (eBin opDiv (eBin opIx (eVar 0) (eC (.int 0))) (eC (.int 7)))) (eVar 1))))))))
def F__law_roll : Nat → Fn
  | 0 => stuckF
  | n + 1 => mkFn 2 3 (b__law_roll (F__law_roll n))
abbrev s__law_large : Stmt := topS 41
abbrev N__law_large : List Str := ["script", "dice", "number", "due"]
abbrev P__law_large : List Str := ["script"]
theorem sc__law_large : FnScope N__law_large P__law_large (defScope s__law_large) := ⟨rfl, rfl, rfl, by decide +kernel, rfl, by decide +kernel, by decide +kernel⟩
def bb__law_large (F__law_rounds : Fn) (F__law_roll : Nat → Fn) (F_prime_factors : Fn) : S → RS :=
    (sCons (sFor (iSeq (eCall F__law_rounds (aCons (eVar 0) (aCons (eC (.int 1)) aNil)))) (gSet 1) (sCons (sSet 2 (eIf (tTst (eBin opEq (eCall (F__law_roll 1) (aCons (eVar 1) (aCons (eC (.int 9)) aNil))) (eC (.int 0)))) (eBin opIx (eLst (aCons (eC (.int 999999999989)) (aCons (eBin opMul (eC (.int 999983)) (eC (.int 1000003))) (aCons (eBin opAdd (eBin opPow (eC (.int 10)) (eC (.int 30))) (eC (.int 57))) (aCons (eC (.int 999979)) aNil))))) (eCall (F__law_roll 1) (aCons (eVar 1) (aCons (eC (.int 4)) aNil)))) (eC (.int 7))))
      (sCons (sSet 3 (eDisp (pCons (eC (.int 999999999989)) (eTup (aCons (eTup (aCons (eC (.int 999999999989)) (aCons (eC (.int 1)) aNil))) aNil)) (pCons (eBin opMul (eC (.int 999983)) (eC (.int 1000003))) (eTup (aCons (eTup (aCons (eC (.int 999983)) (aCons (eC (.int 1)) aNil))) (aCons (eTup (aCons (eC (.int 1000003)) (aCons (eC (.int 1)) aNil))) aNil))) (pCons (eBin opAdd (eBin opPow (eC (.int 10)) (eC (.int 30))) (eC (.int 57))) (eC (.str "NumberError")) (pCons (eC (.int 999979)) (eTup (aCons (eTup (aCons (eC (.int 999979)) (aCons (eC (.int 1)) aNil))) aNil)) (pCons (eC (.int 7)) (eTup (aCons (eTup (aCons (eC (.int 7)) (aCons (eC (.int 1)) aNil))) aNil)) pNil)))))))
      (sIf (tTst (eBin opNe (eTold "NumberError" (eUnl (eCall F_prime_factors (aCons (eVar 2) aNil)))) (eDGet (eVar 3) (eVar 2)))) (sRet (eC (.bl false))) sNil))))
    (sRet (eC (.bl true))))
def b__law_large : S → RS :=
    bb__law_large F__law_rounds F__law_roll F_prime_factors
def F__law_large : Fn := mkFn 1 4 b__law_large
abbrev s__law_convergents : Stmt := topS 39
abbrev N__law_convergents : List Str := ["one", "below", "a", "b", "c", "d", "found", "part"]
abbrev P__law_convergents : List Str := ["one", "below"]
theorem sc__law_convergents : FnScope N__law_convergents P__law_convergents (defScope s__law_convergents) := ⟨rfl, rfl, rfl, by decide +kernel, rfl, by decide +kernel, by decide +kernel⟩
def b__law_convergents : S → RS :=
    (sCons (sParT [.inr [2, 3], .inr [4, 5], .inl 6] (aoCons (eTup (aCons (eC (.int 1)) (aCons (eC (.int 0)) aNil))) (aoCons (eTup (aCons (eC (.int 0)) (aCons (eC (.int 1)) aNil))) (aoCons (eLst aNil) aoNil))))
    (sCons (sWhile (tTst (eBin opNe (eVar 1) (eC (.int 0)))) (sCons (sSet 7 (eBin opDiv (eVar 0) (eVar 1)))
      (sCons (sParT [.inr [2, 3], .inr [4, 5], .inl 0, .inl 1] (aoCons (eTup (aCons (eBin opAdd (eBin opMul (eVar 7) (eVar 2)) (eVar 4)) (aCons (eBin opAdd (eBin opMul (eVar 7) (eVar 3)) (eVar 5)) aNil))) (aoCons (eTup (aCons (eVar 2) (aCons (eVar 3) aNil))) (aoCons (eVar 1) (aoCons (eBin opSub (eVar 0) (eBin opMul (eVar 7) (eVar 1))) aoNil)))))
      (sExpr (eApp (eVar 6) (eTup (aCons (eVar 2) (aCons (eVar 3) aNil))))))))
    (sRet (eVar 6))))
def F__law_convergents : Fn := mkFn 2 8 b__law_convergents
abbrev s__law_gcd : Stmt := topS 35
abbrev N__law_gcd : List Str := ["one", "other"]
abbrev P__law_gcd : List Str := ["one", "other"]
theorem sc__law_gcd : FnScope N__law_gcd P__law_gcd (defScope s__law_gcd) := ⟨rfl, rfl, rfl, by decide +kernel, rfl, by decide +kernel, by decide +kernel⟩
def b__law_gcd : S → RS :=
    (sCons (sPar [0, 1] (aoCons (eUn opAbs (eVar 0)) (aoCons (eUn opAbs (eVar 1)) aoNil)))
    (sCons (sWhile (tTst (eBin opNe (eVar 1) (eC (.int 0)))) (sPar [0, 1] (aoCons (eVar 1) (aoCons (eBin opSub (eVar 0) (eBin opMul (eBin opDiv (eVar 0) (eVar 1)) (eVar 1))) aoNil))))
    (sRet (eVar 0))))
def F__law_gcd : Fn := mkFn 2 2 b__law_gcd
abbrev s__law_frac : Stmt := topS 36
abbrev N__law_frac : List Str := ["one", "other", "divisor"]
abbrev P__law_frac : List Str := ["one", "other"]
theorem sc__law_frac : FnScope N__law_frac P__law_frac (defScope s__law_frac) := ⟨rfl, rfl, rfl, by decide +kernel, rfl, by decide +kernel, by decide +kernel⟩
def bb__law_frac (F__law_gcd : Fn) : S → RS :=
    (sCons (sSet 2 (eBin opMul (eCall F__law_gcd (aCons (eVar 0) (aCons (eVar 1) aNil))) (eIf (tTst (eBin opGt (eVar 1) (eC (.int 0)))) (eC (.int 1)) (eUn opNeg (eC (.int 1))))))
    (sRet (eTup (aCons (eBin opDiv (eVar 0) (eVar 2)) (aCons (eBin opDiv (eVar 1) (eVar 2)) aNil)))))
def b__law_frac : S → RS :=
    bb__law_frac F__law_gcd
def F__law_frac : Fn := mkFn 2 3 b__law_frac
abbrev s__law_times : Stmt := topS 38
abbrev N__law_times : List Str := ["one", "other"]
abbrev P__law_times : List Str := ["one", "other"]
theorem sc__law_times : FnScope N__law_times P__law_times (defScope s__law_times) := ⟨rfl, rfl, rfl, by decide +kernel, rfl, by decide +kernel, by decide +kernel⟩
def bb__law_times (F__law_frac : Fn) : S → RS :=
    (sRet (eCall F__law_frac (aCons (eBin opMul (eBin opIx (eVar 0) (eC (.int 0))) (eBin opIx (eVar 1) (eC (.int 0)))) (aCons (eBin opMul (eBin opIx (eVar 0) (eC (.int 1))) (eBin opIx (eVar 1) (eC (.int 1)))) aNil))))
def b__law_times : S → RS :=
    bb__law_times F__law_frac
def F__law_times : Fn := mkFn 2 2 b__law_times
abbrev s_is_prime : Stmt := topS 10
abbrev N_is_prime : List Str := ["number"]
abbrev P_is_prime : List Str := ["number"]
theorem sc_is_prime : FnScope N_is_prime P_is_prime (defScope s_is_prime) := ⟨rfl, rfl, rfl, by decide +kernel, rfl, by decide +kernel, by decide +kernel⟩
def bb_is_prime (F_prime_factors : Fn) : S → RS :=
    (sRet (eAnd (eBin opGt (eVar 0) (eC (.int 1))) (eBin opEq (eUnl (eCall F_prime_factors (aCons (eVar 0) aNil))) (eTup (aCons (eTup (aCons (eVar 0) (aCons (eC (.int 1)) aNil))) aNil)))))
def b_is_prime : S → RS :=
    bb_is_prime F_prime_factors
def F_is_prime : Fn := mkFn 1 1 b_is_prime
abbrev s_common_divisor : Stmt := topS 5
abbrev N_common_divisor : List Str := ["one", "other"]
abbrev P_common_divisor : List Str := ["one", "other"]
theorem sc_common_divisor : FnScope N_common_divisor P_common_divisor (defScope s_common_divisor) := ⟨rfl, rfl, rfl, by decide +kernel, rfl, by decide +kernel, by decide +kernel⟩
def b_common_divisor : S → RS :=
    (sCons (sPar [0, 1] (aoCons (eUn opAbs (eVar 0)) (aoCons (eUn opAbs (eVar 1)) aoNil)))
    (sCons (sWhile (tTst (eBin opNe (eVar 1) (eC (.int 0)))) (sPar [0, 1] (aoCons (eVar 1) (aoCons (eBin opMod (eVar 0) (eVar 1)) aoNil))))
    (sRet (eVar 0))))
def F_common_divisor : Fn := mkFn 2 2 b_common_divisor
abbrev s_inverse : Stmt := topS 7
abbrev N_inverse : List Str := ["number", "base", "divisor", "one", "other"]
abbrev P_inverse : List Str := ["number", "base"]
theorem sc_inverse : FnScope N_inverse P_inverse (defScope s_inverse) := ⟨rfl, rfl, rfl, by decide +kernel, rfl, by decide +kernel, by decide +kernel⟩
def bb_inverse (F_bezout : Fn) : S → RS :=
    (sCons (sIf (tTst (eBin opLt (eVar 1) (eC (.int 2)))) (sRaise "NumberError") sNil)
    (sCons (sAsg (eCall F_bezout (aCons (eBin opMod (eVar 0) (eVar 1)) (aCons (eVar 1) aNil))) (gTup 3 (gCons (gSet 2) (gCons (gSet 3) (gCons (gSet 4) gNil)))))
    (sCons (sIf (tTst (eBin opNe (eVar 2) (eC (.int 1)))) (sRaise "NumberError") sNil)
    (sRet (eBin opMod (eVar 3) (eVar 1))))))
def b_inverse : S → RS :=
    bb_inverse F_bezout
def F_inverse : Fn := mkFn 2 5 b_inverse
abbrev s_power_by : Stmt := topS 8
abbrev N_power_by : List Str := ["number", "exponent", "base", "found"]
abbrev P_power_by : List Str := ["number", "exponent", "base"]
theorem sc_power_by : FnScope N_power_by P_power_by (defScope s_power_by) := ⟨rfl, rfl, rfl, by decide +kernel, rfl, by decide +kernel, by decide +kernel⟩
def b_power_by : S → RS :=
    (sCons (sIf (tOrS (tTst (eBin opLt (eVar 1) (eC (.int 0)))) (tTst (eBin opLt (eVar 2) (eC (.int 1))))) (sRaise "NumberError") sNil)
    (sCons (sPar [3, 0] (aoCons (eBin opMod (eC (.int 1)) (eVar 2)) (aoCons (eBin opMod (eVar 0) (eVar 2)) aoNil)))
    (sCons (sWhile (tTst (eBin opGt (eVar 1) (eC (.int 0)))) (sCons (sIf (tTst (eBin opEq (eBin opMod (eVar 1) (eC (.int 2))) (eC (.int 1)))) (sSet 3 (eBin opMod (eBin opMul (eVar 3) (eVar 0)) (eVar 2))) sNil)
      (sCons (sSet 0 (eBin opMod (eBin opMul (eVar 0) (eVar 0)) (eVar 2)))
      (sAug opIDiv 1 (eC (.int 2))))))
    (sRet (eVar 3)))))
def F_power_by : Fn := mkFn 3 4 b_power_by
abbrev s__law_prime : Stmt := topS 40
abbrev N__law_prime : List Str := ["number", "k"]
abbrev P__law_prime : List Str := ["number"]
theorem sc__law_prime : FnScope N__law_prime P__law_prime (defScope s__law_prime) := ⟨rfl, rfl, rfl, by decide +kernel, rfl, by decide +kernel, by decide +kernel⟩
def b__law_prime : S → RS :=
    (sRet (eAnd (eBin opGt (eVar 0) (eC (.int 1))) (eBin opEq (eLC [1] (iRng2 (eC (.int 2)) (eVar 0)) (gSet 1) (tAndS (tTst (eBin opLe (eBin opMul (eVar 1) (eVar 1)) (eVar 0))) (tTst (eBin opEq (eBin opMul (eBin opDiv (eVar 0) (eVar 1)) (eVar 1)) (eVar 0)))) (eVar 1)) (eLst aNil))))
def F__law_prime : Fn := mkFn 1 2 b__law_prime
abbrev s_divisors : Stmt := topS 15
abbrev N_divisors : List Str := ["number", "found", "prime", "many", "one", "step"]
abbrev P_divisors : List Str := ["number"]
theorem sc_divisors : FnScope N_divisors P_divisors (defScope s_divisors) := ⟨rfl, rfl, rfl, by decide +kernel, rfl, by decide +kernel, by decide +kernel⟩
def bb_divisors (F_prime_factors : Fn) (F_power : Fn) (opSrt : T → Option (Bool × T)) : S → RS :=
    (sCons (sSet 1 (eLst (aCons (eC (.int 1)) aNil)))
    (sCons (sFor (iSeq (eUnl (eCall F_prime_factors (aCons (eVar 0) aNil)))) (gTup 2 (gCons (gSet 2) (gCons (gSet 3) gNil))) (sSet 1 (eLC2 [4, 5] [5] (iSeq (eVar 1)) (gSet 4) cYes (iRng1 (eBin opAdd (eVar 3) (eC (.int 1)))) (gSet 5) cYes (eBin opMul (eVar 4) (eCall F_power (aCons (eVar 2) (aCons (eVar 5) aNil)))))))
    (sRet (eUn opTuple (eUn opSrt (eVar 1))))))
def b_divisors : S → RS :=
    bb_divisors F_prime_factors F_power opSrt
def F_divisors : Fn := mkFn 1 6 b_divisors
abbrev s_rational : Stmt := topS 20
abbrev N_rational : List Str := ["one", "other", "divisor"]
abbrev P_rational : List Str := ["one", "other"]
theorem sc_rational : FnScope N_rational P_rational (defScope s_rational) := ⟨rfl, rfl, rfl, by decide +kernel, rfl, by decide +kernel, by decide +kernel⟩
def bb_rational (F_common_divisor : Fn) : S → RS :=
    (sCons (sIf (tTst (eBin opEq (eVar 1) (eC (.int 0)))) (sRaise "NumberError") sNil)
    (sCons (sSet 2 (eCall F_common_divisor (aCons (eVar 0) (aCons (eVar 1) aNil))))
    (sCons (sIf (tTst (eBin opLt (eVar 1) (eC (.int 0)))) (sSet 2 (eBin opSub (eC (.int 0)) (eVar 2))) sNil)
    (sRet (eTup (aCons (eBin opDiv (eVar 0) (eVar 2)) (aCons (eBin opDiv (eVar 1) (eVar 2)) aNil)))))))
def b_rational : S → RS :=
    bb_rational F_common_divisor
def F_rational : Fn := mkFn 2 3 b_rational
abbrev s_sum_of : Stmt := topS 21
abbrev N_sum_of : List Str := ["one", "other"]
abbrev P_sum_of : List Str := ["one", "other"]
theorem sc_sum_of : FnScope N_sum_of P_sum_of (defScope s_sum_of) := ⟨rfl, rfl, rfl, by decide +kernel, rfl, by decide +kernel, by decide +kernel⟩
def bb_sum_of (F_rational : Fn) : S → RS :=
    (sRet (eCall F_rational (aCons (eBin opAdd (eBin opMul (eBin opIx (eVar 0) (eC (.int 0))) (eBin opIx (eVar 1) (eC (.int 1)))) (eBin opMul (eBin opIx (eVar 1) (eC (.int 0))) (eBin opIx (eVar 0) (eC (.int 1))))) (aCons (eBin opMul (eBin opIx (eVar 0) (eC (.int 1))) (eBin opIx (eVar 1) (eC (.int 1)))) aNil))))
def b_sum_of : S → RS :=
    bb_sum_of F_rational
def F_sum_of : Fn := mkFn 2 2 b_sum_of
abbrev s__law_plus : Stmt := topS 37
abbrev N__law_plus : List Str := ["one", "other"]
abbrev P__law_plus : List Str := ["one", "other"]
theorem sc__law_plus : FnScope N__law_plus P__law_plus (defScope s__law_plus) := ⟨rfl, rfl, rfl, by decide +kernel, rfl, by decide +kernel, by decide +kernel⟩
def bb__law_plus (F__law_frac : Fn) : S → RS :=
    (sRet (eCall F__law_frac (aCons (eBin opAdd (eBin opMul (eBin opIx (eVar 0) (eC (.int 0))) (eBin opIx (eVar 1) (eC (.int 1)))) (eBin opMul (eBin opIx (eVar 1) (eC (.int 0))) (eBin opIx (eVar 0) (eC (.int 1))))) (aCons (eBin opMul (eBin opIx (eVar 0) (eC (.int 1))) (eBin opIx (eVar 1) (eC (.int 1)))) aNil))))
def b__law_plus : S → RS :=
    bb__law_plus F__law_frac
def F__law_plus : Fn := mkFn 2 2 b__law_plus
abbrev s_product_of : Stmt := topS 23
abbrev N_product_of : List Str := ["one", "other"]
abbrev P_product_of : List Str := ["one", "other"]
theorem sc_product_of : FnScope N_product_of P_product_of (defScope s_product_of) := ⟨rfl, rfl, rfl, by decide +kernel, rfl, by decide +kernel, by decide +kernel⟩
def bb_product_of (F_rational : Fn) : S → RS :=
    (sRet (eCall F_rational (aCons (eBin opMul (eBin opIx (eVar 0) (eC (.int 0))) (eBin opIx (eVar 1) (eC (.int 0)))) (aCons (eBin opMul (eBin opIx (eVar 0) (eC (.int 1))) (eBin opIx (eVar 1) (eC (.int 1)))) aNil))))
def b_product_of : S → RS :=
    bb_product_of F_rational
def F_product_of : Fn := mkFn 2 2 b_product_of
abbrev s_difference_of : Stmt := topS 22
abbrev N_difference_of : List Str := ["one", "other"]
abbrev P_difference_of : List Str := ["one", "other"]
theorem sc_difference_of : FnScope N_difference_of P_difference_of (defScope s_difference_of) := ⟨rfl, rfl, rfl, by decide +kernel, rfl, by decide +kernel, by decide +kernel⟩
def bb_difference_of (F_rational : Fn) : S → RS :=
    (sRet (eCall F_rational (aCons (eBin opSub (eBin opMul (eBin opIx (eVar 0) (eC (.int 0))) (eBin opIx (eVar 1) (eC (.int 1)))) (eBin opMul (eBin opIx (eVar 1) (eC (.int 0))) (eBin opIx (eVar 0) (eC (.int 1))))) (aCons (eBin opMul (eBin opIx (eVar 0) (eC (.int 1))) (eBin opIx (eVar 1) (eC (.int 1)))) aNil))))
def b_difference_of : S → RS :=
    bb_difference_of F_rational
def F_difference_of : Fn := mkFn 2 2 b_difference_of
abbrev s_sign : Stmt := topS 25
abbrev N_sign : List Str := ["one"]
abbrev P_sign : List Str := ["one"]
theorem sc_sign : FnScope N_sign P_sign (defScope s_sign) := ⟨rfl, rfl, rfl, by decide +kernel, rfl, by decide +kernel, by decide +kernel⟩
def b_sign : S → RS :=
    (sRet (eBin opSub (eBin opGt (eBin opIx (eVar 0) (eC (.int 0))) (eC (.int 0))) (eBin opLt (eBin opIx (eVar 0) (eC (.int 0))) (eC (.int 0)))))
def F_sign : Fn := mkFn 1 1 b_sign
abbrev s_compared : Stmt := topS 26
abbrev N_compared : List Str := ["one", "other"]
abbrev P_compared : List Str := ["one", "other"]
theorem sc_compared : FnScope N_compared P_compared (defScope s_compared) := ⟨rfl, rfl, rfl, by decide +kernel, rfl, by decide +kernel, by decide +kernel⟩
def bb_compared (F_sign : Fn) (F_difference_of : Fn) : S → RS :=
    (sRet (eCall F_sign (aCons (eCall F_difference_of (aCons (eVar 0) (aCons (eVar 1) aNil))) aNil)))
def b_compared : S → RS :=
    bb_compared F_sign F_difference_of
def F_compared : Fn := mkFn 2 2 b_compared
abbrev s_check_short : Stmt := topS 27
abbrev N_check_short : List Str := ["one"]
abbrev P_check_short : List Str := ["one"]
theorem sc_check_short : FnScope N_check_short P_check_short (defScope s_check_short) := ⟨rfl, rfl, rfl, by decide +kernel, rfl, by decide +kernel, by decide +kernel⟩
def b_check_short : S → RS :=
    (sIf (tOrS (tTst (eBin opGe (eUn opAbs (eBin opIx (eVar 0) (eC (.int 0)))) (eC (.int 100000000000000000000000000000000000000000000000000000000000000000000000000000000000000000000000000000000000000000000000000000000000000000000000000000000000000000000000000000000000000000000000000000000000000000000000000000000000000000000000000000000000000000000000000000000000000000000000000000000000000000000000000000000000000000000000000000000000000000000000000000000000000000000000000000000000000000000000000000000000000000000000000000000000000000000000000000000000000000000000000000000000000000000000000000000000000000000000000000000000000000000000000000000000000000000000000000000000000000000000000000000000000000000000000000000000000000000000000000000000000000000000000000000000000000000000000000000000000000000000000000000000000000000000000000000000000000000000000000000000000000000000000000000000000000000000000000000000000000000000000000000000000000000000000000000000000000000000000000000000000000000000000000000000000000000000000000000000000000000000000000000000000000000000000000000000000000000000000000000000000000000000000000000000000000000000000000000000000000000000000000000000000000000000000000000000000000000000000000000000000000000000000000000000000000000000000000000000000000000000000000000000000000000000000000000000000000000000000000000000000000000000000000000000000000000000000000000000000000000000000000000000000000000000000000000000000000000000000000000000000000000000000000000000000000000000000000000000000000000000000000000000000000000000000000000000000000000000000000000000000000000000000000000000000000000000000000000000000000000000000000000000000000000000000000000000000000000000000000000000000000000000000000000000000000000000000000000000000000000000000000000000000000000000000000000000000000000000000000000000000000000000000000000000000000000000000000000000000000000000000000000000000000000000000000000000000000000000000000000000000000000000000000000000000000000000000000000000000000000000000000000000000000000000000000000000000000000000000000000000000000000000000000000)))) (tTst (eBin opGe (eBin opIx (eVar 0) (eC (.int 1))) (eC (.int 100000000000000000000000000000000000000000000000000000000000000000000000000000000000000000000000000000000000000000000000000000000000000000000000000000000000000000000000000000000000000000000000000000000000000000000000000000000000000000000000000000000000000000000000000000000000000000000000000000000000000000000000000000000000000000000000000000000000000000000000000000000000000000000000000000000000000000000000000000000000000000000000000000000000000000000000000000000000000000000000000000000000000000000000000000000000000000000000000000000000000000000000000000000000000000000000000000000000000000000000000000000000000000000000000000000000000000000000000000000000000000000000000000000000000000000000000000000000000000000000000000000000000000000000000000000000000000000000000000000000000000000000000000000000000000000000000000000000000000000000000000000000000000000000000000000000000000000000000000000000000000000000000000000000000000000000000000000000000000000000000000000000000000000000000000000000000000000000000000000000000000000000000000000000000000000000000000000000000000000000000000000000000000000000000000000000000000000000000000000000000000000000000000000000000000000000000000000000000000000000000000000000000000000000000000000000000000000000000000000000000000000000000000000000000000000000000000000000000000000000000000000000000000000000000000000000000000000000000000000000000000000000000000000000000000000000000000000000000000000000000000000000000000000000000000000000000000000000000000000000000000000000000000000000000000000000000000000000000000000000000000000000000000000000000000000000000000000000000000000000000000000000000000000000000000000000000000000000000000000000000000000000000000000000000000000000000000000000000000000000000000000000000000000000000000000000000000000000000000000000000000000000000000000000000000000000000000000000000000000000000000000000000000000000000000000000000000000000000000000000000000000000000000000000000000000000000000000000000000000000000000000000000000000))))) (sRaise "NumberError") sNil)
def F_check_short : Fn := mkFn 1 1 b_check_short
abbrev s_rational_text : Stmt := topS 29
abbrev N_rational_text : List Str := ["one"]
abbrev P_rational_text : List Str := ["one"]
theorem sc_rational_text : FnScope N_rational_text P_rational_text (defScope s_rational_text) := ⟨rfl, rfl, rfl, by decide +kernel, rfl, by decide +kernel, by decide +kernel⟩
def bb_rational_text (F_check_short : Fn) : S → RS :=
    (sCons (sExpr (eCall F_check_short (aCons (eVar 0) aNil)))
    (sRet (eIf (tTst (eBin opEq (eBin opIx (eVar 0) (eC (.int 1))) (eC (.int 1)))) (eUn opStr (eBin opIx (eVar 0) (eC (.int 0)))) (eJs [(eFmt (eBin opIx (eVar 0) (eC (.int 0)))), (eC (.str "/")), (eFmt (eBin opIx (eVar 0) (eC (.int 1))))] Str.empty))))
def b_rational_text : S → RS :=
    bb_rational_text F_check_short
def F_rational_text : Fn := mkFn 1 1 b_rational_text
abbrev s_next_prime : Stmt := topS 11
abbrev N_next_prime : List Str := ["number"]
abbrev P_next_prime : List Str := ["number"]
theorem sc_next_prime : FnScope N_next_prime P_next_prime (defScope s_next_prime) := ⟨rfl, rfl, rfl, by decide +kernel, rfl, by decide +kernel, by decide +kernel⟩
def bb_next_prime (F_is_prime : Fn) : S → RS :=
    (sCons (sSet 0 (eBin opMax2 (eC (.int 1)) (eVar 0)))
    (sWhile (tTst (eC (.bl true))) (sCons (sAug opIAdd 0 (eC (.int 1)))
      (sIf (tTst (eCall F_is_prime (aCons (eVar 0) aNil))) (sRet (eVar 0)) sNil))))
def b_next_prime : S → RS :=
    bb_next_prime F_is_prime
def F_next_prime : Fn := mkFn 1 1 b_next_prime
abbrev s_remainders_joined : Stmt := topS 12
abbrev N_remainders_joined : List Str := ["rows", "found", "base", "remainder", "other", "divisor", "one", "two"]
abbrev P_remainders_joined : List Str := ["rows"]
theorem sc_remainders_joined : FnScope N_remainders_joined P_remainders_joined (defScope s_remainders_joined) := ⟨rfl, rfl, rfl, by decide +kernel, rfl, by decide +kernel, by decide +kernel⟩
def bb_remainders_joined (F_bezout : Fn) : S → RS :=
    (sCons (sPar [1, 2] (aoCons (eC (.int 0)) (aoCons (eC (.int 1)) aoNil)))
    (sCons (sFor (iSeq (eVar 0)) (gTup 2 (gCons (gSet 3) (gCons (gSet 4) gNil))) (sCons (sIf (tTst (eBin opLt (eVar 4) (eC (.int 1)))) (sRaise "NumberError") sNil)
      (sCons (sAsg (eCall F_bezout (aCons (eVar 2) (aCons (eVar 4) aNil))) (gTup 3 (gCons (gSet 5) (gCons (gSet 6) (gCons (gSet 7) gNil)))))
      (sCons (sIf (tTst (eBin opNe (eBin opMod (eBin opSub (eVar 3) (eVar 1)) (eVar 5)) (eC (.int 0)))) (sRaise "NumberError") sNil)
      (sCons (sAug opIAdd 1 (eBin opMul (eVar 2) (eBin opMod (eBin opMul (eBin opDiv (eBin opSub (eVar 3) (eVar 1)) (eVar 5)) (eVar 6)) (eBin opDiv (eVar 4) (eVar 5)))))
      (sCons (sSet 2 (eBin opMul (eBin opDiv (eVar 2) (eVar 5)) (eVar 4)))
      (sAug opIMod 1 (eVar 2))))))))
    (sRet (eTup (aCons (eVar 1) (aCons (eVar 2) aNil))))))
def b_remainders_joined : S → RS :=
    bb_remainders_joined F_bezout
def F_remainders_joined : Fn := mkFn 1 8 b_remainders_joined
abbrev s_quotient_of : Stmt := topS 24
abbrev N_quotient_of : List Str := ["one", "other"]
abbrev P_quotient_of : List Str := ["one", "other"]
theorem sc_quotient_of : FnScope N_quotient_of P_quotient_of (defScope s_quotient_of) := ⟨rfl, rfl, rfl, by decide +kernel, rfl, by decide +kernel, by decide +kernel⟩
def bb_quotient_of (F_rational : Fn) : S → RS :=
    (sRet (eCall F_rational (aCons (eBin opMul (eBin opIx (eVar 0) (eC (.int 0))) (eBin opIx (eVar 1) (eC (.int 1)))) (aCons (eBin opMul (eBin opIx (eVar 0) (eC (.int 1))) (eBin opIx (eVar 1) (eC (.int 0)))) aNil))))
def b_quotient_of : S → RS :=
    bb_quotient_of F_rational
def F_quotient_of : Fn := mkFn 2 2 b_quotient_of
abbrev s_raised : Stmt := topS 28
abbrev N_raised : List Str := ["one", "exponent", "found", "step"]
abbrev P_raised : List Str := ["one", "exponent"]
theorem sc_raised : FnScope N_raised P_raised (defScope s_raised) := ⟨rfl, rfl, rfl, by decide +kernel, rfl, by decide +kernel, by decide +kernel⟩
def bb_raised (F_product_of : Fn) (F_check_short : Fn) (F_quotient_of : Fn) : S → RS :=
    (sCons (sSet 2 (eC (.tup [.int 1, .int 1])))
    (sCons (sFor (iRng1 (eUn opAbs (eVar 1))) (gSet 3) (sCons (sSet 2 (eCall F_product_of (aCons (eVar 2) (aCons (eVar 0) aNil))))
      (sExpr (eCall F_check_short (aCons (eVar 2) aNil)))))
    (sRet (eIf (tTst (eBin opGe (eVar 1) (eC (.int 0)))) (eVar 2) (eCall F_quotient_of (aCons (eC (.tup [.int 1, .int 1])) (aCons (eVar 2) aNil)))))))
def b_raised : S → RS :=
    bb_raised F_product_of F_check_short F_quotient_of
def F_raised : Fn := mkFn 2 4 b_raised
abbrev s__law_long : Stmt := topS 42
abbrev N__law_long : List Str := ["dice", "size"]
abbrev P__law_long : List Str := ["dice", "size"]
theorem sc__law_long : FnScope N__law_long P__law_long (defScope s__law_long) := ⟨rfl, rfl, rfl, by decide +kernel, rfl, by decide +kernel, by decide +kernel⟩
def b__law_long (F : Fn) : S → RS :=
    (sCons (sIf (tTst (eBin opLe (eVar 1) (eBin opPow (eC (.int 10)) (eC (.int 6))))) (sRet (eCall (F__law_roll 1) (aCons (eVar 0) (aCons (eVar 1) aNil)))) sNil)
    (sRet (eBin opAdd (eBin opMul (eCall F (aCons (eVar 0) (aCons (eBin opDiv (eVar 1) (eBin opPow (eC (.int 10)) (eC (.int 6)))) aNil))) (eBin opPow (eC (.int 10)) (eC (.int 6)))) (eCall (F__law_roll 1) (aCons (eVar 0) (aCons (eBin opPow (eC (.int 10)) (eC (.int 6))) aNil))))))
def F__law_long : Nat → Fn
  | 0 => stuckF
  | n + 1 => mkFn 2 2 (b__law_long (F__law_long n))
abbrev s_law : Stmt := topS 43
abbrev N_law : List Str := ["script", "dice", "sizes", "one", "other", "divisor", "first", "second", "base", "exponent", "told_now", "small", "rows", "product", "prime", "many", "rests", "whole", "rest", "part", "fits", "number", "root", "below", "found", "a", "b", "times", "due", "turn", "k"]
abbrev P_law : List Str := ["script"]
theorem sc_law : FnScope N_law P_law (defScope s_law) := ⟨rfl, rfl, rfl, by decide +kernel, rfl, by decide +kernel, by decide +kernel⟩
def bb_law (F__law_rounds : Fn) (F_bezout : Fn) (F_prime_factors : Fn) (F_root_below : Fn) (F_convergents : Fn) (F__law_large : Fn) (F__law_roll : Nat → Fn) (F__law_convergents : Fn) (F__law_frac : Fn) (F__law_times : Fn) (F_is_prime : Fn) (F__law_gcd : Fn) (F_common_divisor : Fn) (F_inverse : Fn) (F_power : Fn) (F_power_by : Fn) (F__law_prime : Fn) (F_divisors : Fn) (F_rational : Fn) (F_sum_of : Fn) (F__law_plus : Fn) (F_product_of : Fn) (F_difference_of : Fn) (F_compared : Fn) (F_sign : Fn) (F_rational_text : Fn) (F_next_prime : Fn) (F_remainders_joined : Fn) (F_raised : Fn) (F__law_long : Nat → Fn) (F_quotient_of : Fn) (opSrt : T → Option (Bool × T)) : S → RS :=
    (sCons (sFor (iSeq (eCall F__law_rounds (aCons (eVar 0) (aCons (eC (.int 1)) aNil)))) (gSet 1) (sCons (sSet 2 (eLst (aCons (eC (.int 12)) (aCons (eC (.int 1000)) (aCons (eBin opPow (eC (.int 10)) (eC (.int 20))) (aCons (eBin opPow (eC (.int 10)) (eC (.int 40))) aNil))))))
      (sCons (sAsg (eLC [30] (iRng1 (eC (.int 2))) (gSet 30) cYes (eBin opMul (eBin opMul (eBin opAdd (eCall (F__law_long 8) (aCons (eVar 1) (aCons (eBin opIx (eVar 2) (eCall (F__law_roll 1) (aCons (eVar 1) (aCons (eC (.int 4)) aNil)))) aNil))) (eC (.int 1))) (eBin opIx (eLst (aCons (eC (.int 1)) (aCons (eUn opNeg (eC (.int 1))) aNil))) (eCall (F__law_roll 1) (aCons (eVar 1) (aCons (eC (.int 2)) aNil))))) (eUn opInt (eBin opGt (eCall (F__law_roll 1) (aCons (eVar 1) (aCons (eC (.int 9)) aNil))) (eC (.int 0)))))) (gLst 2 (gCons (gSet 3) (gCons (gSet 4) gNil))))
      (sCons (sAsg (eCall F_bezout (aCons (eVar 3) (aCons (eVar 4) aNil))) (gTup 3 (gCons (gSet 5) (gCons (gSet 6) (gCons (gSet 7) gNil)))))
      (sCons (sIf (tOrS (tTst (eBin opNe (eVar 5) (eCall F__law_gcd (aCons (eVar 3) (aCons (eVar 4) aNil))))) (tOrS (tTst (eBin opNe (eCall F_common_divisor (aCons (eVar 3) (aCons (eVar 4) aNil))) (eVar 5))) (tTst (eBin opNe (eBin opAdd (eBin opMul (eVar 3) (eVar 6)) (eBin opMul (eVar 4) (eVar 7))) (eVar 5))))) (sRet (eC (.bl false))) sNil)
      (sCons (sPar [8, 9] (aoCons (eBin opAdd (eC (.int 2)) (eCall (F__law_roll 1) (aCons (eVar 1) (aCons (eC (.int 200)) aNil)))) (aoCons (eCall (F__law_roll 1) (aCons (eVar 1) (aCons (eC (.int 30)) aNil))) aoNil)))
      (sCons (sSet 10 (eTold "NumberError" (eCall F_inverse (aCons (eVar 3) (aCons (eVar 8) aNil)))))
      (sCons (sIf (tOrS (tTst (eBin opNe (eBin opEq (eVar 10) (eC (.str "NumberError"))) (eBin opNe (eCall F__law_gcd (aCons (eVar 3) (aCons (eVar 8) aNil))) (eC (.int 1))))) (tAndS (tTst (eBin opNe (eVar 10) (eC (.str "NumberError")))) (tTst (eBin opNe (eBin opMod (eBin opSub (eBin opMul (eVar 3) (eVar 10)) (eC (.int 1))) (eVar 8)) (eC (.int 0)))))) (sRet (eC (.bl false))) sNil)
      (sCons (sIf (tOrS (tTst (eBin opNe (eCall F_power (aCons (eVar 8) (aCons (eBin opAdd (eVar 9) (eC (.int 1))) aNil))) (eBin opMul (eVar 8) (eCall F_power (aCons (eVar 8) (aCons (eVar 9) aNil)))))) (tOrS (tTst (eBin opNe (eCall F_power (aCons (eVar 8) (aCons (eC (.int 0)) aNil))) (eC (.int 1)))) (tTst (eBin opNe (eCall F_power_by (aCons (eVar 3) (aCons (eVar 9) (aCons (eVar 8) aNil)))) (eBin opMod (eCall F_power (aCons (eVar 3) (aCons (eVar 9) aNil))) (eVar 8)))))) (sRet (eC (.bl false))) sNil)
      (sCons (sSet 11 (eBin opAdd (eC (.int 1)) (eCall (F__law_roll 1) (aCons (eVar 1) (aCons (eC (.int 5000)) aNil)))))
      (sCons (sSet 12 (eCall F_prime_factors (aCons (eVar 11) aNil)))
      (sCons (sSet 13 (eC (.int 1)))
      (sCons (sFor (iSeq (eUnl (eVar 12))) (gTup 2 (gCons (gSet 14) (gCons (gSet 15) gNil))) (sSet 13 (eBin opMul (eVar 13) (eCall F_power (aCons (eVar 14) (aCons (eVar 15) aNil))))))
      (sCons (sIf (tOrS (tTst (eBin opNe (eVar 13) (eVar 11))) (tOrS (tTst (eBin opNe (eLC [14, 15] (iSeq (eUnl (eVar 12))) (gTup 2 (gCons (gSet 14) (gCons (gSet 15) gNil))) (tOrS (tNotS (tTst (eCall F__law_prime (aCons (eVar 14) aNil)))) (tTst (eBin opLt (eVar 15) (eC (.int 1))))) (eC (.int 1))) (eLst aNil))) (tOrS (tTst (eBin opNe (eUn opList (eUnl (eVar 12))) (eUn opSrt (eUnl (eVar 12))))) (tTst (eBin opNe (eUn opLenD (eDictP (eVar 12))) (eUn opLen (eUnl (eVar 12)))))))) (sRet (eC (.bl false))) sNil)
      (sCons (sIf (tOrS (tTst (eBin opNe (eCall F_is_prime (aCons (eVar 11) aNil)) (eCall F__law_prime (aCons (eVar 11) aNil)))) (tOrS (tNotS (tTst (eCall F__law_prime (aCons (eCall F_next_prime (aCons (eVar 11) aNil)) aNil)))) (tTst (eBin opNe (eLC [30] (iRng2 (eBin opAdd (eVar 11) (eC (.int 1))) (eCall F_next_prime (aCons (eVar 11) aNil))) (gSet 30) (tTst (eCall F__law_prime (aCons (eVar 30) aNil))) (eVar 30)) (eLst aNil))))) (sRet (eC (.bl false))) sNil)
      (sCons (sIf (tTst (eBin opNe (eUn opList (eCall F_divisors (aCons (eVar 11) aNil))) (eLC [30] (iRng2 (eC (.int 1)) (eBin opAdd (eVar 11) (eC (.int 1)))) (gSet 30) (tTst (eBin opEq (eBin opMul (eBin opDiv (eVar 11) (eVar 30)) (eVar 30)) (eVar 11))) (eVar 30)))) (sRet (eC (.bl false))) sNil)
      (sCons (sSet 16 (eLC [30] (iRng1 (eCall (F__law_roll 1) (aCons (eVar 1) (aCons (eC (.int 4)) aNil)))) (gSet 30) cYes (eTup (aCons (eCall (F__law_roll 1) (aCons (eVar 1) (aCons (eC (.int 40)) aNil))) (aCons (eBin opAdd (eC (.int 1)) (eCall (F__law_roll 1) (aCons (eVar 1) (aCons (eC (.int 30)) aNil)))) aNil)))))
      (sCons (sSet 17 (eC (.int 1)))
      (sCons (sFor (iSeq (eVar 16)) (gTup 2 (gCons (gSet 18) (gCons (gSet 19) gNil))) (sSet 17 (eBin opMul (eBin opDiv (eVar 17) (eCall F__law_gcd (aCons (eVar 17) (aCons (eVar 19) aNil)))) (eVar 19))))
      (sCons (sSet 20 (eLC [30] (iRng1 (eVar 17)) (gSet 30) (tTst (eBin opEq (eLC [18, 19] (iSeq (eVar 16)) (gTup 2 (gCons (gSet 18) (gCons (gSet 19) gNil))) (tTst (eBin opNe (eBin opMod (eBin opSub (eVar 30) (eVar 18)) (eVar 19)) (eC (.int 0)))) (eC (.int 1))) (eLst aNil))) (eVar 30)))
      (sCons (sIf (tTst (eBin opNe (eTold "NumberError" (eCall F_remainders_joined (aCons (eVar 16) aNil))) (eIf (tTst (eBin opNe (eVar 20) (eLst aNil))) (eTup (aCons (eBin opIx (eVar 20) (eC (.int 0))) (aCons (eVar 17) aNil))) (eC (.str "NumberError"))))) (sRet (eC (.bl false))) sNil)
      (sCons (sPar [21, 15] (aoCons (eUn opAbs (eVar 3)) (aoCons (eBin opAdd (eC (.int 1)) (eCall (F__law_roll 1) (aCons (eVar 1) (aCons (eC (.int 4)) aNil)))) aoNil)))
      (sCons (sSet 22 (eCall F_root_below (aCons (eVar 21) (aCons (eVar 15) aNil))))
      (sCons (sIf (tNotS (tTst (eChn opLe opLt (eCall F_power (aCons (eVar 22) (aCons (eVar 15) aNil))) (eVar 21) (eCall F_power (aCons (eBin opAdd (eVar 22) (eC (.int 1))) (aCons (eVar 15) aNil)))))) (sRet (eC (.bl false))) sNil)
      (sCons (sSet 23 (eBin opAdd (eC (.int 1)) (eCall (F__law_roll 1) (aCons (eVar 1) (aCons (eC (.int 500)) aNil)))))
      (sCons (sSet 24 (eCall F_convergents (aCons (eVar 3) (aCons (eVar 23) aNil))))
      (sCons (sIf (tTst (eBin opNe (eUn opList (eVar 24)) (eCall F__law_convergents (aCons (eVar 3) (aCons (eVar 23) aNil))))) (sRet (eC (.bl false))) sNil)
      (sCons (sPar [25, 26] (aoCons (eCall F__law_frac (aCons (eBin opSub (eCall (F__law_roll 1) (aCons (eVar 1) (aCons (eC (.int 99)) aNil))) (eC (.int 50))) (aCons (eBin opAdd (eC (.int 1)) (eCall (F__law_roll 1) (aCons (eVar 1) (aCons (eC (.int 20)) aNil)))) aNil))) (aoCons (eCall F__law_frac (aCons (eBin opSub (eCall (F__law_roll 1) (aCons (eVar 1) (aCons (eC (.int 99)) aNil))) (eC (.int 50))) (aCons (eBin opAdd (eC (.int 1)) (eCall (F__law_roll 1) (aCons (eVar 1) (aCons (eC (.int 20)) aNil)))) aNil))) aoNil)))
      (sCons (sIf (tOrS (tTst (eBin opNe (eCall F_rational (aCons (eBin opMul (eBin opIx (eVar 25) (eC (.int 0))) (eC (.int 6))) (aCons (eBin opMul (eBin opIx (eVar 25) (eC (.int 1))) (eUn opNeg (eC (.int 6)))) aNil))) (eTup (aCons (eUn opNeg (eBin opIx (eVar 25) (eC (.int 0)))) (aCons (eBin opIx (eVar 25) (eC (.int 1))) aNil))))) (tOrS (tTst (eBin opNe (eCall F_sum_of (aCons (eVar 25) (aCons (eVar 26) aNil))) (eCall F__law_plus (aCons (eVar 25) (aCons (eVar 26) aNil))))) (tOrS (tTst (eBin opNe (eCall F_product_of (aCons (eVar 25) (aCons (eVar 26) aNil))) (eCall F__law_times (aCons (eVar 25) (aCons (eVar 26) aNil))))) (tTst (eBin opNe (eCall F_difference_of (aCons (eVar 25) (aCons (eVar 26) aNil))) (eCall F__law_plus (aCons (eVar 25) (aCons (eTup (aCons (eUn opNeg (eBin opIx (eVar 26) (eC (.int 0)))) (aCons (eBin opIx (eVar 26) (eC (.int 1))) aNil))) aNil)))))))) (sRet (eC (.bl false))) sNil)
      (sCons (sIf (tOrS (tTst (eBin opNe (eTold "NumberError" (eCall F_quotient_of (aCons (eVar 25) (aCons (eVar 26) aNil)))) (eIf (tTst (eBin opNe (eBin opIx (eVar 26) (eC (.int 0))) (eC (.int 0)))) (eCall F__law_frac (aCons (eBin opMul (eBin opIx (eVar 25) (eC (.int 0))) (eBin opIx (eVar 26) (eC (.int 1)))) (aCons (eBin opMul (eBin opIx (eVar 25) (eC (.int 1))) (eBin opIx (eVar 26) (eC (.int 0)))) aNil))) (eC (.str "NumberError"))))) (tTst (eBin opNe (eCall F_compared (aCons (eVar 25) (aCons (eVar 26) aNil))) (eCall F_sign (aCons (eCall F__law_plus (aCons (eVar 25) (aCons (eTup (aCons (eUn opNeg (eBin opIx (eVar 26) (eC (.int 0)))) (aCons (eBin opIx (eVar 26) (eC (.int 1))) aNil))) aNil))) aNil))))) (sRet (eC (.bl false))) sNil)
      (sCons (sIf (tOrS (tTst (eBin opNe (eCall F_sign (aCons (eVar 25) aNil)) (eBin opSub (eBin opGt (eBin opIx (eVar 25) (eC (.int 0))) (eC (.int 0))) (eBin opLt (eBin opIx (eVar 25) (eC (.int 0))) (eC (.int 0)))))) (tTst (eBin opNe (eCall F_rational_text (aCons (eVar 25) aNil)) (eIf (tTst (eBin opEq (eBin opIx (eVar 25) (eC (.int 1))) (eC (.int 1)))) (eUn opStr (eBin opIx (eVar 25) (eC (.int 0)))) (eBin opAdd (eBin opAdd (eUn opStr (eBin opIx (eVar 25) (eC (.int 0)))) (eC (.str "/"))) (eUn opStr (eBin opIx (eVar 25) (eC (.int 1))))))))) (sRet (eC (.bl false))) sNil)
      (sCons (sSet 27 (eBin opSub (eCall (F__law_roll 1) (aCons (eVar 1) (aCons (eC (.int 9)) aNil))) (eC (.int 4))))
      (sCons (sSet 28 (eTup (aCons (eC (.int 1)) (aCons (eC (.int 1)) aNil))))
      (sCons (sFor (iRng1 (eUn opAbs (eVar 27))) (gSet 29) (sSet 28 (eCall F__law_times (aCons (eVar 28) (aCons (eVar 25) aNil)))))
      (sIf (tTst (eBin opNe (eTold "NumberError" (eCall F_raised (aCons (eVar 25) (aCons (eVar 27) aNil)))) (eIf (tTst (eBin opGe (eVar 27) (eC (.int 0)))) (eVar 28) (eIf (tTst (eBin opNe (eBin opIx (eVar 28) (eC (.int 0))) (eC (.int 0)))) (eCall F__law_frac (aCons (eBin opIx (eVar 28) (eC (.int 1))) (aCons (eBin opIx (eVar 28) (eC (.int 0))) aNil))) (eC (.str "NumberError")))))) (sRet (eC (.bl false))) sNil)))))))))))))))))))))))))))))))))))
    (sCons (sSet 10 (eLst (aCons (eTold "NumberError" (eCall F_inverse (aCons (eC (.int 3)) (aCons (eC (.int 1)) aNil)))) (aCons (eTold "NumberError" (eUnl (eCall F_prime_factors (aCons (eC (.int 0)) aNil)))) (aCons (eTold "NumberError" (eCall F_rational (aCons (eC (.int 1)) (aCons (eC (.int 0)) aNil)))) aNil)))))
    (sCons (sSet 10 (eBin opAdd (eVar 10) (eLst (aCons (eTold "NumberError" (eCall F_power_by (aCons (eC (.int 2)) (aCons (eUn opNeg (eC (.int 1))) (aCons (eC (.int 5)) aNil))))) (aCons (eTold "NumberError" (eCall F_root_below (aCons (eUn opNeg (eC (.int 1))) (aCons (eC (.int 2)) aNil)))) (aCons (eTold "NumberError" (eCall F_root_below (aCons (eC (.int 4)) (aCons (eC (.int 0)) aNil)))) aNil))))))
    (sRet (eAnd (eCall F__law_large (aCons (eVar 0) aNil)) (eAnd (eBin opEq (eVar 10) (eBin opMul (eLst (aCons (eC (.str "NumberError")) aNil)) (eC (.int 6)))) (eAnd (eBin opEq (eUnl (eCall F_prime_factors (aCons (eC (.int 1)) aNil))) (eTup aNil)) (eAnd (eNot (eCall F_is_prime (aCons (eC (.int 1)) aNil))) (eBin opEq (eUnl (eCall F_prime_factors (aCons (eUn opNeg (eC (.int 12))) aNil))) (eTup (aCons (eTup (aCons (eC (.int 2)) (aCons (eC (.int 2)) aNil))) (aCons (eTup (aCons (eC (.int 3)) (aCons (eC (.int 1)) aNil))) aNil))))))))))))
def lb0_law (F__law_rounds : Fn) (F_bezout : Fn) (F_prime_factors : Fn) (F_root_below : Fn) (F_convergents : Fn) (F__law_large : Fn) (F__law_roll : Nat → Fn) (F__law_convergents : Fn) (F__law_frac : Fn) (F__law_times : Fn) (F_is_prime : Fn) (F__law_gcd : Fn) (F_common_divisor : Fn) (F_inverse : Fn) (F_power : Fn) (F_power_by : Fn) (F__law_prime : Fn) (F_divisors : Fn) (F_rational : Fn) (F_sum_of : Fn) (F__law_plus : Fn) (F_product_of : Fn) (F_difference_of : Fn) (F_compared : Fn) (F_sign : Fn) (F_rational_text : Fn) (F_next_prime : Fn) (F_remainders_joined : Fn) (F_raised : Fn) (F__law_long : Nat → Fn) (F_quotient_of : Fn) (opSrt : T → Option (Bool × T)) : S → RS :=
    (sCons (sSet 2 (eLst (aCons (eC (.int 12)) (aCons (eC (.int 1000)) (aCons (eBin opPow (eC (.int 10)) (eC (.int 20))) (aCons (eBin opPow (eC (.int 10)) (eC (.int 40))) aNil))))))
      (sAsg (eLC [30] (iRng1 (eC (.int 2))) (gSet 30) cYes (eBin opMul (eBin opMul (eBin opAdd (eCall (F__law_long 8) (aCons (eVar 1) (aCons (eBin opIx (eVar 2) (eCall (F__law_roll 1) (aCons (eVar 1) (aCons (eC (.int 4)) aNil)))) aNil))) (eC (.int 1))) (eBin opIx (eLst (aCons (eC (.int 1)) (aCons (eUn opNeg (eC (.int 1))) aNil))) (eCall (F__law_roll 1) (aCons (eVar 1) (aCons (eC (.int 2)) aNil))))) (eUn opInt (eBin opGt (eCall (F__law_roll 1) (aCons (eVar 1) (aCons (eC (.int 9)) aNil))) (eC (.int 0)))))) (gLst 2 (gCons (gSet 3) (gCons (gSet 4) gNil)))))
def lb1_law (F__law_rounds : Fn) (F_bezout : Fn) (F_prime_factors : Fn) (F_root_below : Fn) (F_convergents : Fn) (F__law_large : Fn) (F__law_roll : Nat → Fn) (F__law_convergents : Fn) (F__law_frac : Fn) (F__law_times : Fn) (F_is_prime : Fn) (F__law_gcd : Fn) (F_common_divisor : Fn) (F_inverse : Fn) (F_power : Fn) (F_power_by : Fn) (F__law_prime : Fn) (F_divisors : Fn) (F_rational : Fn) (F_sum_of : Fn) (F__law_plus : Fn) (F_product_of : Fn) (F_difference_of : Fn) (F_compared : Fn) (F_sign : Fn) (F_rational_text : Fn) (F_next_prime : Fn) (F_remainders_joined : Fn) (F_raised : Fn) (F__law_long : Nat → Fn) (F_quotient_of : Fn) (opSrt : T → Option (Bool × T)) : S → RS :=
    (sCons (sAsg (eCall F_bezout (aCons (eVar 3) (aCons (eVar 4) aNil))) (gTup 3 (gCons (gSet 5) (gCons (gSet 6) (gCons (gSet 7) gNil)))))
      (sIf (tOrS (tTst (eBin opNe (eVar 5) (eCall F__law_gcd (aCons (eVar 3) (aCons (eVar 4) aNil))))) (tOrS (tTst (eBin opNe (eCall F_common_divisor (aCons (eVar 3) (aCons (eVar 4) aNil))) (eVar 5))) (tTst (eBin opNe (eBin opAdd (eBin opMul (eVar 3) (eVar 6)) (eBin opMul (eVar 4) (eVar 7))) (eVar 5))))) (sRet (eC (.bl false))) sNil))
def lb2_law (F__law_rounds : Fn) (F_bezout : Fn) (F_prime_factors : Fn) (F_root_below : Fn) (F_convergents : Fn) (F__law_large : Fn) (F__law_roll : Nat → Fn) (F__law_convergents : Fn) (F__law_frac : Fn) (F__law_times : Fn) (F_is_prime : Fn) (F__law_gcd : Fn) (F_common_divisor : Fn) (F_inverse : Fn) (F_power : Fn) (F_power_by : Fn) (F__law_prime : Fn) (F_divisors : Fn) (F_rational : Fn) (F_sum_of : Fn) (F__law_plus : Fn) (F_product_of : Fn) (F_difference_of : Fn) (F_compared : Fn) (F_sign : Fn) (F_rational_text : Fn) (F_next_prime : Fn) (F_remainders_joined : Fn) (F_raised : Fn) (F__law_long : Nat → Fn) (F_quotient_of : Fn) (opSrt : T → Option (Bool × T)) : S → RS :=
    (sCons (sPar [8, 9] (aoCons (eBin opAdd (eC (.int 2)) (eCall (F__law_roll 1) (aCons (eVar 1) (aCons (eC (.int 200)) aNil)))) (aoCons (eCall (F__law_roll 1) (aCons (eVar 1) (aCons (eC (.int 30)) aNil))) aoNil)))
      (sCons (sSet 10 (eTold "NumberError" (eCall F_inverse (aCons (eVar 3) (aCons (eVar 8) aNil)))))
      (sIf (tOrS (tTst (eBin opNe (eBin opEq (eVar 10) (eC (.str "NumberError"))) (eBin opNe (eCall F__law_gcd (aCons (eVar 3) (aCons (eVar 8) aNil))) (eC (.int 1))))) (tAndS (tTst (eBin opNe (eVar 10) (eC (.str "NumberError")))) (tTst (eBin opNe (eBin opMod (eBin opSub (eBin opMul (eVar 3) (eVar 10)) (eC (.int 1))) (eVar 8)) (eC (.int 0)))))) (sRet (eC (.bl false))) sNil)))
def lb3_law (F__law_rounds : Fn) (F_bezout : Fn) (F_prime_factors : Fn) (F_root_below : Fn) (F_convergents : Fn) (F__law_large : Fn) (F__law_roll : Nat → Fn) (F__law_convergents : Fn) (F__law_frac : Fn) (F__law_times : Fn) (F_is_prime : Fn) (F__law_gcd : Fn) (F_common_divisor : Fn) (F_inverse : Fn) (F_power : Fn) (F_power_by : Fn) (F__law_prime : Fn) (F_divisors : Fn) (F_rational : Fn) (F_sum_of : Fn) (F__law_plus : Fn) (F_product_of : Fn) (F_difference_of : Fn) (F_compared : Fn) (F_sign : Fn) (F_rational_text : Fn) (F_next_prime : Fn) (F_remainders_joined : Fn) (F_raised : Fn) (F__law_long : Nat → Fn) (F_quotient_of : Fn) (opSrt : T → Option (Bool × T)) : S → RS :=
    (sIf (tOrS (tTst (eBin opNe (eCall F_power (aCons (eVar 8) (aCons (eBin opAdd (eVar 9) (eC (.int 1))) aNil))) (eBin opMul (eVar 8) (eCall F_power (aCons (eVar 8) (aCons (eVar 9) aNil)))))) (tOrS (tTst (eBin opNe (eCall F_power (aCons (eVar 8) (aCons (eC (.int 0)) aNil))) (eC (.int 1)))) (tTst (eBin opNe (eCall F_power_by (aCons (eVar 3) (aCons (eVar 9) (aCons (eVar 8) aNil)))) (eBin opMod (eCall F_power (aCons (eVar 3) (aCons (eVar 9) aNil))) (eVar 8)))))) (sRet (eC (.bl false))) sNil)
def lb4_law (F__law_rounds : Fn) (F_bezout : Fn) (F_prime_factors : Fn) (F_root_below : Fn) (F_convergents : Fn) (F__law_large : Fn) (F__law_roll : Nat → Fn) (F__law_convergents : Fn) (F__law_frac : Fn) (F__law_times : Fn) (F_is_prime : Fn) (F__law_gcd : Fn) (F_common_divisor : Fn) (F_inverse : Fn) (F_power : Fn) (F_power_by : Fn) (F__law_prime : Fn) (F_divisors : Fn) (F_rational : Fn) (F_sum_of : Fn) (F__law_plus : Fn) (F_product_of : Fn) (F_difference_of : Fn) (F_compared : Fn) (F_sign : Fn) (F_rational_text : Fn) (F_next_prime : Fn) (F_remainders_joined : Fn) (F_raised : Fn) (F__law_long : Nat → Fn) (F_quotient_of : Fn) (opSrt : T → Option (Bool × T)) : S → RS :=
    (sCons (sSet 11 (eBin opAdd (eC (.int 1)) (eCall (F__law_roll 1) (aCons (eVar 1) (aCons (eC (.int 5000)) aNil)))))
      (sCons (sSet 12 (eCall F_prime_factors (aCons (eVar 11) aNil)))
      (sCons (sSet 13 (eC (.int 1)))
      (sCons (sFor (iSeq (eUnl (eVar 12))) (gTup 2 (gCons (gSet 14) (gCons (gSet 15) gNil))) (sSet 13 (eBin opMul (eVar 13) (eCall F_power (aCons (eVar 14) (aCons (eVar 15) aNil))))))
      (sIf (tOrS (tTst (eBin opNe (eVar 13) (eVar 11))) (tOrS (tTst (eBin opNe (eLC [14, 15] (iSeq (eUnl (eVar 12))) (gTup 2 (gCons (gSet 14) (gCons (gSet 15) gNil))) (tOrS (tNotS (tTst (eCall F__law_prime (aCons (eVar 14) aNil)))) (tTst (eBin opLt (eVar 15) (eC (.int 1))))) (eC (.int 1))) (eLst aNil))) (tOrS (tTst (eBin opNe (eUn opList (eUnl (eVar 12))) (eUn opSrt (eUnl (eVar 12))))) (tTst (eBin opNe (eUn opLenD (eDictP (eVar 12))) (eUn opLen (eUnl (eVar 12)))))))) (sRet (eC (.bl false))) sNil)))))
def lb5_law (F__law_rounds : Fn) (F_bezout : Fn) (F_prime_factors : Fn) (F_root_below : Fn) (F_convergents : Fn) (F__law_large : Fn) (F__law_roll : Nat → Fn) (F__law_convergents : Fn) (F__law_frac : Fn) (F__law_times : Fn) (F_is_prime : Fn) (F__law_gcd : Fn) (F_common_divisor : Fn) (F_inverse : Fn) (F_power : Fn) (F_power_by : Fn) (F__law_prime : Fn) (F_divisors : Fn) (F_rational : Fn) (F_sum_of : Fn) (F__law_plus : Fn) (F_product_of : Fn) (F_difference_of : Fn) (F_compared : Fn) (F_sign : Fn) (F_rational_text : Fn) (F_next_prime : Fn) (F_remainders_joined : Fn) (F_raised : Fn) (F__law_long : Nat → Fn) (F_quotient_of : Fn) (opSrt : T → Option (Bool × T)) : S → RS :=
    (sIf (tOrS (tTst (eBin opNe (eCall F_is_prime (aCons (eVar 11) aNil)) (eCall F__law_prime (aCons (eVar 11) aNil)))) (tOrS (tNotS (tTst (eCall F__law_prime (aCons (eCall F_next_prime (aCons (eVar 11) aNil)) aNil)))) (tTst (eBin opNe (eLC [30] (iRng2 (eBin opAdd (eVar 11) (eC (.int 1))) (eCall F_next_prime (aCons (eVar 11) aNil))) (gSet 30) (tTst (eCall F__law_prime (aCons (eVar 30) aNil))) (eVar 30)) (eLst aNil))))) (sRet (eC (.bl false))) sNil)
def lb6_law (F__law_rounds : Fn) (F_bezout : Fn) (F_prime_factors : Fn) (F_root_below : Fn) (F_convergents : Fn) (F__law_large : Fn) (F__law_roll : Nat → Fn) (F__law_convergents : Fn) (F__law_frac : Fn) (F__law_times : Fn) (F_is_prime : Fn) (F__law_gcd : Fn) (F_common_divisor : Fn) (F_inverse : Fn) (F_power : Fn) (F_power_by : Fn) (F__law_prime : Fn) (F_divisors : Fn) (F_rational : Fn) (F_sum_of : Fn) (F__law_plus : Fn) (F_product_of : Fn) (F_difference_of : Fn) (F_compared : Fn) (F_sign : Fn) (F_rational_text : Fn) (F_next_prime : Fn) (F_remainders_joined : Fn) (F_raised : Fn) (F__law_long : Nat → Fn) (F_quotient_of : Fn) (opSrt : T → Option (Bool × T)) : S → RS :=
    (sIf (tTst (eBin opNe (eUn opList (eCall F_divisors (aCons (eVar 11) aNil))) (eLC [30] (iRng2 (eC (.int 1)) (eBin opAdd (eVar 11) (eC (.int 1)))) (gSet 30) (tTst (eBin opEq (eBin opMul (eBin opDiv (eVar 11) (eVar 30)) (eVar 30)) (eVar 11))) (eVar 30)))) (sRet (eC (.bl false))) sNil)
def lb7_law (F__law_rounds : Fn) (F_bezout : Fn) (F_prime_factors : Fn) (F_root_below : Fn) (F_convergents : Fn) (F__law_large : Fn) (F__law_roll : Nat → Fn) (F__law_convergents : Fn) (F__law_frac : Fn) (F__law_times : Fn) (F_is_prime : Fn) (F__law_gcd : Fn) (F_common_divisor : Fn) (F_inverse : Fn) (F_power : Fn) (F_power_by : Fn) (F__law_prime : Fn) (F_divisors : Fn) (F_rational : Fn) (F_sum_of : Fn) (F__law_plus : Fn) (F_product_of : Fn) (F_difference_of : Fn) (F_compared : Fn) (F_sign : Fn) (F_rational_text : Fn) (F_next_prime : Fn) (F_remainders_joined : Fn) (F_raised : Fn) (F__law_long : Nat → Fn) (F_quotient_of : Fn) (opSrt : T → Option (Bool × T)) : S → RS :=
    (sCons (sSet 16 (eLC [30] (iRng1 (eCall (F__law_roll 1) (aCons (eVar 1) (aCons (eC (.int 4)) aNil)))) (gSet 30) cYes (eTup (aCons (eCall (F__law_roll 1) (aCons (eVar 1) (aCons (eC (.int 40)) aNil))) (aCons (eBin opAdd (eC (.int 1)) (eCall (F__law_roll 1) (aCons (eVar 1) (aCons (eC (.int 30)) aNil)))) aNil)))))
      (sCons (sSet 17 (eC (.int 1)))
      (sCons (sFor (iSeq (eVar 16)) (gTup 2 (gCons (gSet 18) (gCons (gSet 19) gNil))) (sSet 17 (eBin opMul (eBin opDiv (eVar 17) (eCall F__law_gcd (aCons (eVar 17) (aCons (eVar 19) aNil)))) (eVar 19))))
      (sCons (sSet 20 (eLC [30] (iRng1 (eVar 17)) (gSet 30) (tTst (eBin opEq (eLC [18, 19] (iSeq (eVar 16)) (gTup 2 (gCons (gSet 18) (gCons (gSet 19) gNil))) (tTst (eBin opNe (eBin opMod (eBin opSub (eVar 30) (eVar 18)) (eVar 19)) (eC (.int 0)))) (eC (.int 1))) (eLst aNil))) (eVar 30)))
      (sIf (tTst (eBin opNe (eTold "NumberError" (eCall F_remainders_joined (aCons (eVar 16) aNil))) (eIf (tTst (eBin opNe (eVar 20) (eLst aNil))) (eTup (aCons (eBin opIx (eVar 20) (eC (.int 0))) (aCons (eVar 17) aNil))) (eC (.str "NumberError"))))) (sRet (eC (.bl false))) sNil)))))
def lb8_law (F__law_rounds : Fn) (F_bezout : Fn) (F_prime_factors : Fn) (F_root_below : Fn) (F_convergents : Fn) (F__law_large : Fn) (F__law_roll : Nat → Fn) (F__law_convergents : Fn) (F__law_frac : Fn) (F__law_times : Fn) (F_is_prime : Fn) (F__law_gcd : Fn) (F_common_divisor : Fn) (F_inverse : Fn) (F_power : Fn) (F_power_by : Fn) (F__law_prime : Fn) (F_divisors : Fn) (F_rational : Fn) (F_sum_of : Fn) (F__law_plus : Fn) (F_product_of : Fn) (F_difference_of : Fn) (F_compared : Fn) (F_sign : Fn) (F_rational_text : Fn) (F_next_prime : Fn) (F_remainders_joined : Fn) (F_raised : Fn) (F__law_long : Nat → Fn) (F_quotient_of : Fn) (opSrt : T → Option (Bool × T)) : S → RS :=
    (sCons (sPar [21, 15] (aoCons (eUn opAbs (eVar 3)) (aoCons (eBin opAdd (eC (.int 1)) (eCall (F__law_roll 1) (aCons (eVar 1) (aCons (eC (.int 4)) aNil)))) aoNil)))
      (sCons (sSet 22 (eCall F_root_below (aCons (eVar 21) (aCons (eVar 15) aNil))))
      (sIf (tNotS (tTst (eChn opLe opLt (eCall F_power (aCons (eVar 22) (aCons (eVar 15) aNil))) (eVar 21) (eCall F_power (aCons (eBin opAdd (eVar 22) (eC (.int 1))) (aCons (eVar 15) aNil)))))) (sRet (eC (.bl false))) sNil)))
def lb9_law (F__law_rounds : Fn) (F_bezout : Fn) (F_prime_factors : Fn) (F_root_below : Fn) (F_convergents : Fn) (F__law_large : Fn) (F__law_roll : Nat → Fn) (F__law_convergents : Fn) (F__law_frac : Fn) (F__law_times : Fn) (F_is_prime : Fn) (F__law_gcd : Fn) (F_common_divisor : Fn) (F_inverse : Fn) (F_power : Fn) (F_power_by : Fn) (F__law_prime : Fn) (F_divisors : Fn) (F_rational : Fn) (F_sum_of : Fn) (F__law_plus : Fn) (F_product_of : Fn) (F_difference_of : Fn) (F_compared : Fn) (F_sign : Fn) (F_rational_text : Fn) (F_next_prime : Fn) (F_remainders_joined : Fn) (F_raised : Fn) (F__law_long : Nat → Fn) (F_quotient_of : Fn) (opSrt : T → Option (Bool × T)) : S → RS :=
    (sCons (sSet 23 (eBin opAdd (eC (.int 1)) (eCall (F__law_roll 1) (aCons (eVar 1) (aCons (eC (.int 500)) aNil)))))
      (sCons (sSet 24 (eCall F_convergents (aCons (eVar 3) (aCons (eVar 23) aNil))))
      (sIf (tTst (eBin opNe (eUn opList (eVar 24)) (eCall F__law_convergents (aCons (eVar 3) (aCons (eVar 23) aNil))))) (sRet (eC (.bl false))) sNil)))
def lb10_law (F__law_rounds : Fn) (F_bezout : Fn) (F_prime_factors : Fn) (F_root_below : Fn) (F_convergents : Fn) (F__law_large : Fn) (F__law_roll : Nat → Fn) (F__law_convergents : Fn) (F__law_frac : Fn) (F__law_times : Fn) (F_is_prime : Fn) (F__law_gcd : Fn) (F_common_divisor : Fn) (F_inverse : Fn) (F_power : Fn) (F_power_by : Fn) (F__law_prime : Fn) (F_divisors : Fn) (F_rational : Fn) (F_sum_of : Fn) (F__law_plus : Fn) (F_product_of : Fn) (F_difference_of : Fn) (F_compared : Fn) (F_sign : Fn) (F_rational_text : Fn) (F_next_prime : Fn) (F_remainders_joined : Fn) (F_raised : Fn) (F__law_long : Nat → Fn) (F_quotient_of : Fn) (opSrt : T → Option (Bool × T)) : S → RS :=
    (sCons (sPar [25, 26] (aoCons (eCall F__law_frac (aCons (eBin opSub (eCall (F__law_roll 1) (aCons (eVar 1) (aCons (eC (.int 99)) aNil))) (eC (.int 50))) (aCons (eBin opAdd (eC (.int 1)) (eCall (F__law_roll 1) (aCons (eVar 1) (aCons (eC (.int 20)) aNil)))) aNil))) (aoCons (eCall F__law_frac (aCons (eBin opSub (eCall (F__law_roll 1) (aCons (eVar 1) (aCons (eC (.int 99)) aNil))) (eC (.int 50))) (aCons (eBin opAdd (eC (.int 1)) (eCall (F__law_roll 1) (aCons (eVar 1) (aCons (eC (.int 20)) aNil)))) aNil))) aoNil)))
      (sCons (sIf (tOrS (tTst (eBin opNe (eCall F_rational (aCons (eBin opMul (eBin opIx (eVar 25) (eC (.int 0))) (eC (.int 6))) (aCons (eBin opMul (eBin opIx (eVar 25) (eC (.int 1))) (eUn opNeg (eC (.int 6)))) aNil))) (eTup (aCons (eUn opNeg (eBin opIx (eVar 25) (eC (.int 0)))) (aCons (eBin opIx (eVar 25) (eC (.int 1))) aNil))))) (tOrS (tTst (eBin opNe (eCall F_sum_of (aCons (eVar 25) (aCons (eVar 26) aNil))) (eCall F__law_plus (aCons (eVar 25) (aCons (eVar 26) aNil))))) (tOrS (tTst (eBin opNe (eCall F_product_of (aCons (eVar 25) (aCons (eVar 26) aNil))) (eCall F__law_times (aCons (eVar 25) (aCons (eVar 26) aNil))))) (tTst (eBin opNe (eCall F_difference_of (aCons (eVar 25) (aCons (eVar 26) aNil))) (eCall F__law_plus (aCons (eVar 25) (aCons (eTup (aCons (eUn opNeg (eBin opIx (eVar 26) (eC (.int 0)))) (aCons (eBin opIx (eVar 26) (eC (.int 1))) aNil))) aNil)))))))) (sRet (eC (.bl false))) sNil)
      (sCons (sIf (tOrS (tTst (eBin opNe (eTold "NumberError" (eCall F_quotient_of (aCons (eVar 25) (aCons (eVar 26) aNil)))) (eIf (tTst (eBin opNe (eBin opIx (eVar 26) (eC (.int 0))) (eC (.int 0)))) (eCall F__law_frac (aCons (eBin opMul (eBin opIx (eVar 25) (eC (.int 0))) (eBin opIx (eVar 26) (eC (.int 1)))) (aCons (eBin opMul (eBin opIx (eVar 25) (eC (.int 1))) (eBin opIx (eVar 26) (eC (.int 0)))) aNil))) (eC (.str "NumberError"))))) (tTst (eBin opNe (eCall F_compared (aCons (eVar 25) (aCons (eVar 26) aNil))) (eCall F_sign (aCons (eCall F__law_plus (aCons (eVar 25) (aCons (eTup (aCons (eUn opNeg (eBin opIx (eVar 26) (eC (.int 0)))) (aCons (eBin opIx (eVar 26) (eC (.int 1))) aNil))) aNil))) aNil))))) (sRet (eC (.bl false))) sNil)
      (sIf (tOrS (tTst (eBin opNe (eCall F_sign (aCons (eVar 25) aNil)) (eBin opSub (eBin opGt (eBin opIx (eVar 25) (eC (.int 0))) (eC (.int 0))) (eBin opLt (eBin opIx (eVar 25) (eC (.int 0))) (eC (.int 0)))))) (tTst (eBin opNe (eCall F_rational_text (aCons (eVar 25) aNil)) (eIf (tTst (eBin opEq (eBin opIx (eVar 25) (eC (.int 1))) (eC (.int 1)))) (eUn opStr (eBin opIx (eVar 25) (eC (.int 0)))) (eBin opAdd (eBin opAdd (eUn opStr (eBin opIx (eVar 25) (eC (.int 0)))) (eC (.str "/"))) (eUn opStr (eBin opIx (eVar 25) (eC (.int 1))))))))) (sRet (eC (.bl false))) sNil))))
def lb11_law (F__law_rounds : Fn) (F_bezout : Fn) (F_prime_factors : Fn) (F_root_below : Fn) (F_convergents : Fn) (F__law_large : Fn) (F__law_roll : Nat → Fn) (F__law_convergents : Fn) (F__law_frac : Fn) (F__law_times : Fn) (F_is_prime : Fn) (F__law_gcd : Fn) (F_common_divisor : Fn) (F_inverse : Fn) (F_power : Fn) (F_power_by : Fn) (F__law_prime : Fn) (F_divisors : Fn) (F_rational : Fn) (F_sum_of : Fn) (F__law_plus : Fn) (F_product_of : Fn) (F_difference_of : Fn) (F_compared : Fn) (F_sign : Fn) (F_rational_text : Fn) (F_next_prime : Fn) (F_remainders_joined : Fn) (F_raised : Fn) (F__law_long : Nat → Fn) (F_quotient_of : Fn) (opSrt : T → Option (Bool × T)) : S → RS :=
    (sCons (sSet 27 (eBin opSub (eCall (F__law_roll 1) (aCons (eVar 1) (aCons (eC (.int 9)) aNil))) (eC (.int 4))))
      (sCons (sSet 28 (eTup (aCons (eC (.int 1)) (aCons (eC (.int 1)) aNil))))
      (sCons (sFor (iRng1 (eUn opAbs (eVar 27))) (gSet 29) (sSet 28 (eCall F__law_times (aCons (eVar 28) (aCons (eVar 25) aNil)))))
      (sIf (tTst (eBin opNe (eTold "NumberError" (eCall F_raised (aCons (eVar 25) (aCons (eVar 27) aNil)))) (eIf (tTst (eBin opGe (eVar 27) (eC (.int 0)))) (eVar 28) (eIf (tTst (eBin opNe (eBin opIx (eVar 28) (eC (.int 0))) (eC (.int 0)))) (eCall F__law_frac (aCons (eBin opIx (eVar 28) (eC (.int 1))) (aCons (eBin opIx (eVar 28) (eC (.int 0))) aNil))) (eC (.str "NumberError")))))) (sRet (eC (.bl false))) sNil))))
def lt_law (F__law_rounds : Fn) (F_bezout : Fn) (F_prime_factors : Fn) (F_root_below : Fn) (F_convergents : Fn) (F__law_large : Fn) (F__law_roll : Nat → Fn) (F__law_convergents : Fn) (F__law_frac : Fn) (F__law_times : Fn) (F_is_prime : Fn) (F__law_gcd : Fn) (F_common_divisor : Fn) (F_inverse : Fn) (F_power : Fn) (F_power_by : Fn) (F__law_prime : Fn) (F_divisors : Fn) (F_rational : Fn) (F_sum_of : Fn) (F__law_plus : Fn) (F_product_of : Fn) (F_difference_of : Fn) (F_compared : Fn) (F_sign : Fn) (F_rational_text : Fn) (F_next_prime : Fn) (F_remainders_joined : Fn) (F_raised : Fn) (F__law_long : Nat → Fn) (F_quotient_of : Fn) (opSrt : T → Option (Bool × T)) : S → RS :=
    (sCons (sSet 10 (eLst (aCons (eTold "NumberError" (eCall F_inverse (aCons (eC (.int 3)) (aCons (eC (.int 1)) aNil)))) (aCons (eTold "NumberError" (eUnl (eCall F_prime_factors (aCons (eC (.int 0)) aNil)))) (aCons (eTold "NumberError" (eCall F_rational (aCons (eC (.int 1)) (aCons (eC (.int 0)) aNil)))) aNil)))))
    (sCons (sSet 10 (eBin opAdd (eVar 10) (eLst (aCons (eTold "NumberError" (eCall F_power_by (aCons (eC (.int 2)) (aCons (eUn opNeg (eC (.int 1))) (aCons (eC (.int 5)) aNil))))) (aCons (eTold "NumberError" (eCall F_root_below (aCons (eUn opNeg (eC (.int 1))) (aCons (eC (.int 2)) aNil)))) (aCons (eTold "NumberError" (eCall F_root_below (aCons (eC (.int 4)) (aCons (eC (.int 0)) aNil)))) aNil))))))
    (sRet (eAnd (eCall F__law_large (aCons (eVar 0) aNil)) (eAnd (eBin opEq (eVar 10) (eBin opMul (eLst (aCons (eC (.str "NumberError")) aNil)) (eC (.int 6)))) (eAnd (eBin opEq (eUnl (eCall F_prime_factors (aCons (eC (.int 1)) aNil))) (eTup aNil)) (eAnd (eNot (eCall F_is_prime (aCons (eC (.int 1)) aNil))) (eBin opEq (eUnl (eCall F_prime_factors (aCons (eUn opNeg (eC (.int 12))) aNil))) (eTup (aCons (eTup (aCons (eC (.int 2)) (aCons (eC (.int 2)) aNil))) (aCons (eTup (aCons (eC (.int 3)) (aCons (eC (.int 1)) aNil))) aNil)))))))))))
def b_law : S → RS :=
    bb_law F__law_rounds F_bezout F_prime_factors F_root_below F_convergents F__law_large F__law_roll F__law_convergents F__law_frac F__law_times F_is_prime F__law_gcd F_common_divisor F_inverse F_power F_power_by F__law_prime F_divisors F_rational F_sum_of F__law_plus F_product_of F_difference_of F_compared F_sign F_rational_text F_next_prime F_remainders_joined F_raised F__law_long F_quotient_of opSrt
def F_law : Fn := mkFn 1 31 b_law
abbrev s__law_told : Stmt := topS 34
/-! ### the head -/
def d__law_dice : He.DefD := ⟨("_law_dice", none), "_law_dice", "_law_dice", defArgs s__law_dice, defBody s__law_dice, defScope s__law_dice, [], []⟩
def d__law_rounds : He.DefD := ⟨("_law_rounds", none), "_law_rounds", "_law_rounds", defArgs s__law_rounds, defBody s__law_rounds, defScope s__law_rounds, [], []⟩
def d_bezout : He.DefD := ⟨("bezout", none), "bezout", "bezout", defArgs s_bezout, defBody s_bezout, defScope s_bezout, [], []⟩
def d_prime_factors : He.DefD := ⟨("prime_factors", none), "prime_factors", "prime_factors", defArgs s_prime_factors, defBody s_prime_factors, defScope s_prime_factors, [], []⟩
def d_power : He.DefD := ⟨("power", none), "power", "power", defArgs s_power, defBody s_power, defScope s_power, [], []⟩
def d_root_below : He.DefD := ⟨("root_below", none), "root_below", "root_below", defArgs s_root_below, defBody s_root_below, defScope s_root_below, [], []⟩
def d_convergents : He.DefD := ⟨("convergents", none), "convergents", "convergents", defArgs s_convergents, defBody s_convergents, defScope s_convergents, [], []⟩
def d__law_roll : He.DefD := ⟨("_law_roll", none), "_law_roll", "_law_roll", defArgs s__law_roll, defBody s__law_roll, defScope s__law_roll, [], []⟩
def d__law_large : He.DefD := ⟨("_law_large", none), "_law_large", "_law_large", defArgs s__law_large, defBody s__law_large, defScope s__law_large, [], []⟩
def d__law_convergents : He.DefD := ⟨("_law_convergents", none), "_law_convergents", "_law_convergents", defArgs s__law_convergents, defBody s__law_convergents, defScope s__law_convergents, [], []⟩
def d__law_gcd : He.DefD := ⟨("_law_gcd", none), "_law_gcd", "_law_gcd", defArgs s__law_gcd, defBody s__law_gcd, defScope s__law_gcd, [], []⟩
def d__law_frac : He.DefD := ⟨("_law_frac", none), "_law_frac", "_law_frac", defArgs s__law_frac, defBody s__law_frac, defScope s__law_frac, [], []⟩
def d__law_times : He.DefD := ⟨("_law_times", none), "_law_times", "_law_times", defArgs s__law_times, defBody s__law_times, defScope s__law_times, [], []⟩
def d_is_prime : He.DefD := ⟨("is_prime", none), "is_prime", "is_prime", defArgs s_is_prime, defBody s_is_prime, defScope s_is_prime, [], []⟩
def d_common_divisor : He.DefD := ⟨("common_divisor", none), "common_divisor", "common_divisor", defArgs s_common_divisor, defBody s_common_divisor, defScope s_common_divisor, [], []⟩
def d_inverse : He.DefD := ⟨("inverse", none), "inverse", "inverse", defArgs s_inverse, defBody s_inverse, defScope s_inverse, [], []⟩
def d_power_by : He.DefD := ⟨("power_by", none), "power_by", "power_by", defArgs s_power_by, defBody s_power_by, defScope s_power_by, [], []⟩
def d__law_prime : He.DefD := ⟨("_law_prime", none), "_law_prime", "_law_prime", defArgs s__law_prime, defBody s__law_prime, defScope s__law_prime, [], []⟩
def d_divisors : He.DefD := ⟨("divisors", none), "divisors", "divisors", defArgs s_divisors, defBody s_divisors, defScope s_divisors, [], []⟩
def d_rational : He.DefD := ⟨("rational", none), "rational", "rational", defArgs s_rational, defBody s_rational, defScope s_rational, [.int 1], []⟩
def d_sum_of : He.DefD := ⟨("sum_of", none), "sum_of", "sum_of", defArgs s_sum_of, defBody s_sum_of, defScope s_sum_of, [], []⟩
def d__law_plus : He.DefD := ⟨("_law_plus", none), "_law_plus", "_law_plus", defArgs s__law_plus, defBody s__law_plus, defScope s__law_plus, [], []⟩
def d_product_of : He.DefD := ⟨("product_of", none), "product_of", "product_of", defArgs s_product_of, defBody s_product_of, defScope s_product_of, [], []⟩
def d_difference_of : He.DefD := ⟨("difference_of", none), "difference_of", "difference_of", defArgs s_difference_of, defBody s_difference_of, defScope s_difference_of, [], []⟩
def d_sign : He.DefD := ⟨("sign", none), "sign", "sign", defArgs s_sign, defBody s_sign, defScope s_sign, [], []⟩
def d_compared : He.DefD := ⟨("compared", none), "compared", "compared", defArgs s_compared, defBody s_compared, defScope s_compared, [], []⟩
def d_check_short : He.DefD := ⟨("check_short", none), "check_short", "check_short", defArgs s_check_short, defBody s_check_short, defScope s_check_short, [], []⟩
def d_rational_text : He.DefD := ⟨("rational_text", none), "rational_text", "rational_text", defArgs s_rational_text, defBody s_rational_text, defScope s_rational_text, [], []⟩
def d_next_prime : He.DefD := ⟨("next_prime", none), "next_prime", "next_prime", defArgs s_next_prime, defBody s_next_prime, defScope s_next_prime, [], []⟩
def d_remainders_joined : He.DefD := ⟨("remainders_joined", none), "remainders_joined", "remainders_joined", defArgs s_remainders_joined, defBody s_remainders_joined, defScope s_remainders_joined, [], []⟩
def d_quotient_of : He.DefD := ⟨("quotient_of", none), "quotient_of", "quotient_of", defArgs s_quotient_of, defBody s_quotient_of, defScope s_quotient_of, [], []⟩
def d_raised : He.DefD := ⟨("raised", none), "raised", "raised", defArgs s_raised, defBody s_raised, defScope s_raised, [], []⟩
def d__law_long : He.DefD := ⟨("_law_long", none), "_law_long", "_law_long", defArgs s__law_long, defBody s__law_long, defScope s__law_long, [], []⟩
def d_law : He.DefD := ⟨("law", none), "law", "law", defArgs s_law, defBody s_law, defScope s_law, [], []⟩
def d__law_told : He.DefD := ⟨("_law_told", none), "_law_told", "_law_told", defArgs s__law_told, defBody s__law_told, defScope s__law_told, [], []⟩
def fn : List He.DefD := [d__law_dice, d__law_rounds, d_bezout, d_prime_factors, d_power, d_root_below, d_convergents, d__law_roll, d__law_large, d__law_convergents, d__law_gcd, d__law_frac, d__law_times, d_is_prime, d_common_divisor, d_inverse, d_power_by, d__law_prime, d_divisors, d_rational, d_sum_of, d__law_plus, d_product_of, d_difference_of, d_sign, d_compared, d_check_short, d_rational_text, d_next_prime, d_remainders_joined, d_quotient_of, d_raised, d__law_long, d_law, d__law_told]
def fa : List He.Fa := [.glo "_law_dice", .glo "_law_rounds", .glo "bezout", .glo "prime_factors", .glo "power", .glo "root_below", .glo "convergents", .glo "_law_roll", .glo "_law_large", .glo "_law_convergents", .glo "_law_gcd", .glo "_law_frac", .glo "_law_times", .glo "is_prime", .glo "common_divisor", .glo "inverse", .glo "power_by", .glo "_law_prime", .glo "divisors", .glo "rational", .glo "sum_of", .glo "_law_plus", .glo "product_of", .glo "difference_of", .glo "sign", .glo "compared", .glo "check_short", .glo "rational_text", .glo "next_prime", .glo "remainders_joined", .glo "quotient_of", .glo "raised", .glo "_law_long", .glo "law", .glo "_law_told", .glo "ONE", .free "abs", .free "dict", .free "int", .free "len", .free "list", .free "max", .free "range", .free "sorted", .free "str", .free "tuple", .free "zip", .int "MOST_TRIAL" 1000000, .int "LARGE" 100000000000000000000000000000000000000000000000000000000000000000000000000000000000000000000000000000000000000000000000000000000000000000000000000000000000000000000000000000000000000000000000000000000000000000000000000000000000000000000000000000000000000000000000000000000000000000000000000000000000000000000000000000000000000000000000000000000000000000000000000000000000000000000000000000000000000000000000000000000000000000000000000000000000000000000000000000000000000000000000000000000000000000000000000000000000000000000000000000000000000000000000000000000000000000000000000000000000000000000000000000000000000000000000000000000000000000000000000000000000000000000000000000000000000000000000000000000000000000000000000000000000000000000000000000000000000000000000000000000000000000000000000000000000000000000000000000000000000000000000000000000000000000000000000000000000000000000000000000000000000000000000000000000000000000000000000000000000000000000000000000000000000000000000000000000000000000000000000000000000000000000000000000000000000000000000000000000000000000000000000000000000000000000000000000000000000000000000000000000000000000000000000000000000000000000000000000000000000000000000000000000000000000000000000000000000000000000000000000000000000000000000000000000000000000000000000000000000000000000000000000000000000000000000000000000000000000000000000000000000000000000000000000000000000000000000000000000000000000000000000000000000000000000000000000000000000000000000000000000000000000000000000000000000000000000000000000000000000000000000000000000000000000000000000000000000000000000000000000000000000000000000000000000000000000000000000000000000000000000000000000000000000000000000000000000000000000000000000000000000000000000000000000000000000000000000000000000000000000000000000000000000000000000000000000000000000000000000000000000000000000000000000000000000000000000000000000000000000000000000000000000000000000000000000000000000000000000000000000000000000000000000000000000, .glo "NumberError", .exc "NumberError", .exm "NumberError" "NumberError" true]
def lamQ__law_large : Str := "_law_large.<locals>." ++ "<lambda>"
def lamQ_law : Str := "law.<locals>." ++ "<lambda>"
structure Tbs [Tb] (K : PySem.W.Frag) (mg : Str → Option Value) (base : Heap) : Prop where
  b_bezout : LamX.TabB base mg (He.cT K ("bezout", none)).1 (He.cT K ("bezout", none)).2
  t_bezout : ((He.cT K ("bezout", none)).2, gxQ) ∈ Tb.T
  b__law_large : LamX.TabB base mg (He.cT K ("_law_large", none)).1 (He.cT K ("_law_large", none)).2
  t__law_large : ((He.cT K ("_law_large", none)).2, lamQ__law_large) ∈ Tb.T
  b_law : LamX.TabB base mg (He.cT K ("law", none)).1 (He.cT K ("law", none)).2
  t_law : ((He.cT K ("law", none)).2, lamQ_law) ∈ Tb.T
  k_ONE : He.tupB K "ONE" (([1, 1] : List Int).map He.Dv.int) = true

section
variable [Tb] {P : Program} {w : World} {K : PySem.W.Frag} {mg : Str → Option Value} {base : Heap}
theorem m_abs (KX : K.In base) (G : base.Ns mainGlobals mg) (c : He.SaysD fa fn K) : mg "abs" = none := He.free_ok KX G (c.fact 36 (f := .free "abs") rfl)
theorem m_dict (KX : K.In base) (G : base.Ns mainGlobals mg) (c : He.SaysD fa fn K) : mg "dict" = none := He.free_ok KX G (c.fact 37 (f := .free "dict") rfl)
theorem m_int (KX : K.In base) (G : base.Ns mainGlobals mg) (c : He.SaysD fa fn K) : mg "int" = none := He.free_ok KX G (c.fact 38 (f := .free "int") rfl)
theorem m_len (KX : K.In base) (G : base.Ns mainGlobals mg) (c : He.SaysD fa fn K) : mg "len" = none := He.free_ok KX G (c.fact 39 (f := .free "len") rfl)
theorem m_list (KX : K.In base) (G : base.Ns mainGlobals mg) (c : He.SaysD fa fn K) : mg "list" = none := He.free_ok KX G (c.fact 40 (f := .free "list") rfl)
theorem m_max (KX : K.In base) (G : base.Ns mainGlobals mg) (c : He.SaysD fa fn K) : mg "max" = none := He.free_ok KX G (c.fact 41 (f := .free "max") rfl)
theorem m_range (KX : K.In base) (G : base.Ns mainGlobals mg) (c : He.SaysD fa fn K) : mg "range" = none := He.free_ok KX G (c.fact 42 (f := .free "range") rfl)
theorem m_sorted (KX : K.In base) (G : base.Ns mainGlobals mg) (c : He.SaysD fa fn K) : mg "sorted" = none := He.free_ok KX G (c.fact 43 (f := .free "sorted") rfl)
theorem m_str (KX : K.In base) (G : base.Ns mainGlobals mg) (c : He.SaysD fa fn K) : mg "str" = none := He.free_ok KX G (c.fact 44 (f := .free "str") rfl)
theorem m_tuple (KX : K.In base) (G : base.Ns mainGlobals mg) (c : He.SaysD fa fn K) : mg "tuple" = none := He.free_ok KX G (c.fact 45 (f := .free "tuple") rfl)
theorem m_zip (KX : K.In base) (G : base.Ns mainGlobals mg) (c : He.SaysD fa fn K) : mg "zip" = none := He.free_ok KX G (c.fact 46 (f := .free "zip") rfl)
theorem k_MOST_TRIAL (KX : K.In base) (G : base.Ns mainGlobals mg) (c : He.SaysD fa fn K) : ∃ t, mg "MOST_TRIAL" = some (.int 1000000 t) := He.int_ok KX G (c.fact 47 (f := .int "MOST_TRIAL" 1000000) rfl)
theorem k_LARGE (KX : K.In base) (G : base.Ns mainGlobals mg) (c : He.SaysD fa fn K) : ∃ t, mg "LARGE" = some (.int 100000000000000000000000000000000000000000000000000000000000000000000000000000000000000000000000000000000000000000000000000000000000000000000000000000000000000000000000000000000000000000000000000000000000000000000000000000000000000000000000000000000000000000000000000000000000000000000000000000000000000000000000000000000000000000000000000000000000000000000000000000000000000000000000000000000000000000000000000000000000000000000000000000000000000000000000000000000000000000000000000000000000000000000000000000000000000000000000000000000000000000000000000000000000000000000000000000000000000000000000000000000000000000000000000000000000000000000000000000000000000000000000000000000000000000000000000000000000000000000000000000000000000000000000000000000000000000000000000000000000000000000000000000000000000000000000000000000000000000000000000000000000000000000000000000000000000000000000000000000000000000000000000000000000000000000000000000000000000000000000000000000000000000000000000000000000000000000000000000000000000000000000000000000000000000000000000000000000000000000000000000000000000000000000000000000000000000000000000000000000000000000000000000000000000000000000000000000000000000000000000000000000000000000000000000000000000000000000000000000000000000000000000000000000000000000000000000000000000000000000000000000000000000000000000000000000000000000000000000000000000000000000000000000000000000000000000000000000000000000000000000000000000000000000000000000000000000000000000000000000000000000000000000000000000000000000000000000000000000000000000000000000000000000000000000000000000000000000000000000000000000000000000000000000000000000000000000000000000000000000000000000000000000000000000000000000000000000000000000000000000000000000000000000000000000000000000000000000000000000000000000000000000000000000000000000000000000000000000000000000000000000000000000000000000000000000000000000000000000000000000000000000000000000000000000000000000000000000000000000000000000000000000000000 t) := He.int_ok KX G (c.fact 48 (f := .int "LARGE" 100000000000000000000000000000000000000000000000000000000000000000000000000000000000000000000000000000000000000000000000000000000000000000000000000000000000000000000000000000000000000000000000000000000000000000000000000000000000000000000000000000000000000000000000000000000000000000000000000000000000000000000000000000000000000000000000000000000000000000000000000000000000000000000000000000000000000000000000000000000000000000000000000000000000000000000000000000000000000000000000000000000000000000000000000000000000000000000000000000000000000000000000000000000000000000000000000000000000000000000000000000000000000000000000000000000000000000000000000000000000000000000000000000000000000000000000000000000000000000000000000000000000000000000000000000000000000000000000000000000000000000000000000000000000000000000000000000000000000000000000000000000000000000000000000000000000000000000000000000000000000000000000000000000000000000000000000000000000000000000000000000000000000000000000000000000000000000000000000000000000000000000000000000000000000000000000000000000000000000000000000000000000000000000000000000000000000000000000000000000000000000000000000000000000000000000000000000000000000000000000000000000000000000000000000000000000000000000000000000000000000000000000000000000000000000000000000000000000000000000000000000000000000000000000000000000000000000000000000000000000000000000000000000000000000000000000000000000000000000000000000000000000000000000000000000000000000000000000000000000000000000000000000000000000000000000000000000000000000000000000000000000000000000000000000000000000000000000000000000000000000000000000000000000000000000000000000000000000000000000000000000000000000000000000000000000000000000000000000000000000000000000000000000000000000000000000000000000000000000000000000000000000000000000000000000000000000000000000000000000000000000000000000000000000000000000000000000000000000000000000000000000000000000000000000000000000000000000000000000000000000000000000000000000) rfl)
theorem x_NumberError (KX : K.In base) (G : base.Ns mainGlobals mg) (c : He.SaysD fa fn K) : ExcF K mg "NumberError" (He.ga K "NumberError") := excF_of KX G (c.fact 49 (f := .glo "NumberError") rfl) (c.fact 50 (f := .exc "NumberError") rfl) (c.fact 51 (f := .exm "NumberError" "NumberError" true) rfl)
theorem told0 (KX : K.In base) (G : base.Ns mainGlobals mg) (c : He.SaysD fa fn K) : Nonempty (ToldC K mg "_law_told" "NumberError") := by
  obtain ⟨fd, hFd⟩ := c.def_ 34 (d := d__law_told) rfl
  exact toldC_of (st := s__law_told) (a := "what") (cn := "NumberError") hFd (He.glo_ok KX G (c.fact 34 (f := .glo "_law_told") rfl)) rfl ⟨rfl, rfl, rfl, by decide +kernel, rfl, by decide +kernel, by decide +kernel⟩ (.inl rfl) rfl (x_NumberError KX G c) (fun _ _ _ _ _ _ us hl => match us, hl with | [_], _ => rfl)
theorem cal__law_dice (KX : K.In base) (G : base.Ns mainGlobals mg) (c : He.SaysD fa fn K) (tb : Tbs K mg base) : Cal P w K mg base "_law_dice" 1 1 F__law_dice := by
  obtain ⟨fd, hFd⟩ := (c.def_ 0 (d := d__law_dice) rfl)
  exact cal_of (st := s__law_dice) (N := N__law_dice) (ps := P__law_dice) (k := 0) (body := b__law_dice) hFd (He.glo_ok KX G (c.fact 0 (f := .glo "_law_dice") rfl)) sc__law_dice (by decide) (fun _ _ _ _ _ _ us hl => match us, hl with | [_], _ => rfl) fun cdv A outer s H E rm hp =>
    (sss_cons (ss_if (st_chn .lt .lt (se_sub se_int se_int) (se_var 0 rfl (by first | exact .inl rfl | exact .inr (.inl rfl) | exact .inr (.inr rfl))) se_int) (sss_one (ss_ret (se_lstO (sa_cons (se_abs (by rfl) (m_abs KX G c) (se_var 0 rfl (by first | exact .inl rfl | exact .inr (.inl rfl) | exact .inr (.inr rfl)))) (sa_cons se_int (sa_cons se_int sa_nil)))))) sss_nil)
    (sss_one (ss_ret (se_lstO (sa_cons (se_var 0 rfl (by first | exact .inl rfl | exact .inr (.inl rfl) | exact .inr (.inr rfl))) (sa_cons (se_add se_int (se_mod (se_intc (by rfl) (m_int KX G c) (se_var 0 rfl (by first | exact .inl rfl | exact .inr (.inl rfl) | exact .inr (.inr rfl)))) se_int)) (sa_cons (se_intc (by rfl) (m_int KX G c) (se_cmpG .ge (se_var 0 rfl (by first | exact .inl rfl | exact .inr (.inl rfl) | exact .inr (.inr rfl))) (se_pow se_int se_int) (by first | rfl | with_unfolding_all rfl))) sa_nil)))))))
theorem cal__law_rounds (KX : K.In base) (G : base.Ns mainGlobals mg) (c : He.SaysD fa fn K) (tb : Tbs K mg base) : Cal P w K mg base "_law_rounds" 2 2 F__law_rounds := by
  obtain ⟨fd, hFd⟩ := (c.def_ 1 (d := d__law_rounds) rfl)
  exact cal_of (st := s__law_rounds) (N := N__law_rounds) (ps := P__law_rounds) (k := 1) (body := b__law_rounds) hFd (He.glo_ok KX G (c.fact 1 (f := .glo "_law_rounds") rfl)) sc__law_rounds (by decide) (fun _ _ _ _ _ _ us hl => match us, hl with | [_, _], _ => rfl) fun cdv A outer s H E rm hp =>
    (sss_cons (ss_set rm.nd rfl (by first | exact .inl rfl | exact .inr rfl) (se_cut (se_var 0 rfl (by first | exact .inl rfl | exact .inr (.inl rfl) | exact .inr (.inr rfl))) so_none (so_some (se_var 1 rfl (by first | exact .inl rfl | exact .inr (.inl rfl) | exact .inr (.inr rfl))))))
    (sss_cons (ss_if (st_cmpG (.eq rm.u64) (se_var 2 rfl (by first | exact .inl rfl | exact .inr (.inl rfl) | exact .inr (.inr rfl))) (se_lst sa_nil) (by first | rfl | with_unfolding_all rfl)) (sss_one (ss_set rm.nd rfl (by first | exact .inl rfl | exact .inr rfl) (se_lst (sa_cons se_int sa_nil)))) sss_nil)
    (sss_one (ss_ret (se_lc (own := [("cell", 3)]) rm.calm rm.nd (si_seq (se_var 2 rfl (by first | exact .inl rfl | exact .inr (.inl rfl) | exact .inr (.inr rfl)))) (blkOk_by (by kernel_rfl)) (fun s1 H1 C1 cl1 fp1 => (sgw_name (rm.blk).nd rfl (by first | exact .inl rfl | exact .inr rfl) (by decide))) (fun s1 H1 C1 cl1 fp1 => sts_nil) (fun s1 H1 C1 cl1 fp1 => (se_callC (cal__law_dice KX G c tb) (rm.blk) (by decide) (by rfl) (sa_cons (se_var 3 rfl (by first | exact .inl rfl | exact .inr (.inl rfl) | exact .inr (.inr rfl))) sa_nil))))))))
theorem cal_bezout (KX : K.In base) (G : base.Ns mainGlobals mg) (c : He.SaysD fa fn K) (tb : Tbs K mg base) : Cal P w K mg base "bezout" 2 2 F_bezout := by
  obtain ⟨fd, hFd⟩ := (c.def_ 2 (d := d_bezout) rfl)
  obtain ⟨T0⟩ := told0 KX G c
  have TB := tb.b_bezout
  have hT := tb.t_bezout
  exact cal_ofC2 (st := s_bezout) (N := N_bezout) (ps := P_bezout) (k := 1) (body := b_bezout) (p := ("bezout", none)) hFd (He.glo_ok KX G (c.fact 2 (f := .glo "bezout") rfl)) sc_bezout (by decide) (fun _ _ _ _ _ _ us hl => match us, hl with | [_, _], _ => rfl) fun cdv A outer s H E hcode rm hp =>
    (sss_cons (ss_set rm.nd rfl (by first | exact .inl rfl | exact .inr rfl) (se_lst (sa_cons (se_tup (sa_cons (se_var 0 rfl (by first | exact .inl rfl | exact .inr (.inl rfl) | exact .inr (.inr rfl))) (sa_cons se_int (sa_cons se_int sa_nil)))) (sa_cons (se_tup (sa_cons (se_var 1 rfl (by first | exact .inl rfl | exact .inr (.inl rfl) | exact .inr (.inr rfl))) (sa_cons se_int (sa_cons se_int sa_nil)))) sa_nil))))
    (sss_cons (ss_while hp (st_cmpG (.ne rm.u64) (se_ix (se_ix (se_var 2 rfl (by first | exact .inl rfl | exact .inr (.inl rfl) | exact .inr (.inr rfl))) se_int) se_int) se_int (by first | rfl | with_unfolding_all rfl)) (sss_cons (ss_set rm.nd rfl (by first | exact .inl rfl | exact .inr rfl) (se_div (se_ix (se_ix (se_var 2 rfl (by first | exact .inl rfl | exact .inr (.inl rfl) | exact .inr (.inr rfl))) se_int) se_int) (se_ix (se_ix (se_var 2 rfl (by first | exact .inl rfl | exact .inr (.inl rfl) | exact .inr (.inr rfl))) se_int) se_int)))
      (sss_one (ss_set rm.nd rfl (by first | exact .inl rfl | exact .inr rfl) (se_lst (sa_cons (se_ix (se_var 2 rfl (by first | exact .inl rfl | exact .inr (.inl rfl) | exact .inr (.inr rfl))) se_int) (sa_cons (se_tupG (own := [("first", 5), ("second", 6)]) (k := 0) rm (by decide) (by rfl) (m_tuple KX G c) TB hcode hT (gxOk (blkOk_by (by kernel_rfl)) (by kernel_rfl)) (si_zip (by rfl) (m_zip KX G c) (sa_cons (se_ix (se_var 2 rfl (by first | exact .inl rfl | exact .inr (.inl rfl) | exact .inr (.inr rfl))) se_int) (sa_cons (se_ix (se_var 2 rfl (by first | exact .inl rfl | exact .inr (.inl rfl) | exact .inr (.inr rfl))) se_int) sa_nil))) ⟨fun A1 s1 H1 L1 cd1 fp1 rg1 => (sgw_tup rg1.calm (sgws_cons (sgw_name rg1.nd rfl (by first | exact .inl rfl | exact .inr rfl) (by decide)) (sgws_cons (sgw_name rg1.nd rfl (by first | exact .inl rfl | exact .inr rfl) (by decide)) sgws_nil))), fun A1 s1 H1 L1 cd1 fp1 rg1 => sts_nil, fun A1 s1 H1 L1 cd1 fp1 rg1 => (se_sub (se_var 5 rfl (by first | exact .inl rfl | exact .inr (.inl rfl) | exact .inr (.inr rfl))) (se_mul (se_var 3 rfl (by first | exact .inl rfl | exact .inr (.inl rfl) | exact .inr (.inr rfl))) (se_var 6 rfl (by first | exact .inl rfl | exact .inr (.inl rfl) | exact .inr (.inr rfl)))))⟩) sa_nil)))))))
    (sss_cons (ss_set rm.nd rfl (by first | exact .inl rfl | exact .inr rfl) (se_ix (se_var 2 rfl (by first | exact .inl rfl | exact .inr (.inl rfl) | exact .inr (.inr rfl))) se_int))
    (sss_one (ss_ret (se_if (st_cmpG .lt (se_ix (se_var 4 rfl (by first | exact .inl rfl | exact .inr (.inl rfl) | exact .inr (.inr rfl))) se_int) se_int (by first | rfl | with_unfolding_all rfl)) (se_tupG (own := [("part", 7)]) (k := 0) rm (by decide) (by rfl) (m_tuple KX G c) TB hcode hT (gxOk (blkOk_by (by kernel_rfl)) (by kernel_rfl)) (si_seq (se_var 4 rfl (by first | exact .inl rfl | exact .inr (.inl rfl) | exact .inr (.inr rfl)))) ⟨fun A1 s1 H1 L1 cd1 fp1 rg1 => (sgw_name rg1.nd rfl (by first | exact .inl rfl | exact .inr rfl) (by decide)), fun A1 s1 H1 L1 cd1 fp1 rg1 => sts_nil, fun A1 s1 H1 L1 cd1 fp1 rg1 => (se_sub se_int (se_var 7 rfl (by first | exact .inl rfl | exact .inr (.inl rfl) | exact .inr (.inr rfl))))⟩) (se_var 4 rfl (by first | exact .inl rfl | exact .inr (.inl rfl) | exact .inr (.inr rfl)))))))))
theorem cal_prime_factors (KX : K.In base) (G : base.Ns mainGlobals mg) (c : He.SaysD fa fn K) (tb : Tbs K mg base) : Cal P w K mg base "prime_factors" 1 1 F_prime_factors := by
  obtain ⟨fd, hFd⟩ := (c.def_ 3 (d := d_prime_factors) rfl)
  exact cal_of (st := s_prime_factors) (N := N_prime_factors) (ps := P_prime_factors) (k := 0) (body := b_prime_factors) hFd (He.glo_ok KX G (c.fact 3 (f := .glo "prime_factors") rfl)) sc_prime_factors (by decide) (fun _ _ _ _ _ _ us hl => match us, hl with | [_], _ => rfl) fun cdv A outer s H E rm hp =>
    (sss_cons (ss_if (st_cmpG (.eq rm.u64) (se_var 0 rfl (by first | exact .inl rfl | exact .inr (.inl rfl) | exact .inr (.inr rfl))) se_int (by first | rfl | with_unfolding_all rfl)) (sss_one (ss_raiseX (x_NumberError KX G c) rm.calm (by rfl))) sss_nil)
    (sss_cons (ss_par3 rm.calm rm.nd rfl rfl rfl (by decide) (by decide) (by decide) rfl rfl rfl (sao_cons (se_abs (by rfl) (m_abs KX G c) (se_var 0 rfl (by first | exact .inl rfl | exact .inr (.inl rfl) | exact .inr (.inr rfl)))) (sao_cons (se_lst sa_nil) (sao_cons se_int sao_nil))))
    (sss_cons (ss_while hp (SW.st (sw_and (st_cmpG .le (se_mul (se_var 2 rfl (by first | exact .inl rfl | exact .inr (.inl rfl) | exact .inr (.inr rfl))) (se_var 2 rfl (by first | exact .inl rfl | exact .inr (.inl rfl) | exact .inr (.inr rfl)))) (se_var 0 rfl (by first | exact .inl rfl | exact .inr (.inl rfl) | exact .inr (.inr rfl))) (by first | rfl | with_unfolding_all rfl)) (sw_and1 (st_cmpG .le (se_var 2 rfl (by first | exact .inl rfl | exact .inr (.inl rfl) | exact .inr (.inr rfl))) (se_gint (k_MOST_TRIAL KX G c) (by rfl)) (by first | rfl | with_unfolding_all rfl))))) (sss_cons (g := (sSet 3 (eC (.int 0)))) (ss_set rm.nd rfl (by first | exact .inl rfl | exact .inr rfl) se_int)
      (sss_cons (ss_while hp (st_cmpG (.eq rm.u64) (se_mod (se_var 0 rfl (by first | exact .inl rfl | exact .inr (.inl rfl) | exact .inr (.inr rfl))) (se_var 2 rfl (by first | exact .inl rfl | exact .inr (.inl rfl) | exact .inr (.inr rfl)))) se_int (by first | rfl | with_unfolding_all rfl)) (sss_cons (ss_augDiv rm.nd rfl (by first | exact .inl rfl | exact .inr rfl) (se_var 2 rfl (by first | exact .inl rfl | exact .inr (.inl rfl) | exact .inr (.inr rfl))))
        (sss_one (ss_augAdd rm.nd rfl (by first | exact .inl rfl | exact .inr rfl) se_int))))
      (sss_cons (ss_if (st_cmpG .gt (se_var 3 rfl (by first | exact .inl rfl | exact .inr (.inl rfl) | exact .inr (.inr rfl))) se_int (by first | rfl | with_unfolding_all rfl)) (sss_one (ss_expr (se_append (se_var 1 rfl (by first | exact .inl rfl | exact .inr (.inl rfl) | exact .inr (.inr rfl))) (se_tup (sa_cons (se_var 2 rfl (by first | exact .inl rfl | exact .inr (.inl rfl) | exact .inr (.inr rfl))) (sa_cons (se_var 3 rfl (by first | exact .inl rfl | exact .inr (.inl rfl) | exact .inr (.inr rfl))) sa_nil)))))) sss_nil)
      (sss_one (ss_augAdd rm.nd rfl (by first | exact .inl rfl | exact .inr rfl) se_int))))))
    (sss_cons (ss_if (st_cmpG .gt (se_var 0 rfl (by first | exact .inl rfl | exact .inr (.inl rfl) | exact .inr (.inr rfl))) se_int (by first | rfl | with_unfolding_all rfl)) (sss_cons (ss_if (st_cmpG .gt (se_var 0 rfl (by first | exact .inl rfl | exact .inr (.inl rfl) | exact .inr (.inr rfl))) (se_mul (se_gint (k_MOST_TRIAL KX G c) (by rfl)) (se_gint (k_MOST_TRIAL KX G c) (by rfl))) (by first | rfl | with_unfolding_all rfl)) (sss_one (ss_raiseX (x_NumberError KX G c) rm.calm (by rfl))) sss_nil)
      (sss_one (ss_expr (se_append (se_var 1 rfl (by first | exact .inl rfl | exact .inr (.inl rfl) | exact .inr (.inr rfl))) (se_tup (sa_cons (se_var 0 rfl (by first | exact .inl rfl | exact .inr (.inl rfl) | exact .inr (.inr rfl))) (sa_cons se_int sa_nil))))))) sss_nil)
    (sss_one (ss_ret (se_tupleL (by rfl) (m_tuple KX G c) (se_var 1 rfl (by first | exact .inl rfl | exact .inr (.inl rfl) | exact .inr (.inr rfl))))))))))
theorem cal_power (KX : K.In base) (G : base.Ns mainGlobals mg) (c : He.SaysD fa fn K) (tb : Tbs K mg base) : Cal P w K mg base "power" 1 2 F_power := by
  obtain ⟨fd, hFd⟩ := (c.def_ 4 (d := d_power) rfl)
  exact cal_of (st := s_power) (N := N_power) (ps := P_power) (k := 0) (body := b_power) hFd (He.glo_ok KX G (c.fact 4 (f := .glo "power") rfl)) sc_power (by decide) (fun _ _ _ _ _ _ us hl => match us, hl with | [_, _], _ => rfl) fun cdv A outer s H E rm hp =>
    (sss_cons (g := (sSet 2 (eC (.int 1)))) (ss_set rm.nd rfl (by first | exact .inl rfl | exact .inr rfl) se_int)
    (sss_cons (ss_for hp rm.calm (si_rng1 (by rfl) (m_range KX G c) (se_var 1 rfl (by first | exact .inl rfl | exact .inr (.inl rfl) | exact .inr (.inr rfl)))) (sg_name rm.nd rfl (by first | exact .inl rfl | exact .inr rfl)) (sss_one (ss_augMul rm.nd rfl (by first | exact .inl rfl | exact .inr rfl) (se_var 0 rfl (by first | exact .inl rfl | exact .inr (.inl rfl) | exact .inr (.inr rfl))))))
    (sss_one (ss_ret (se_var 2 rfl (by first | exact .inl rfl | exact .inr (.inl rfl) | exact .inr (.inr rfl)))))))
theorem cal_root_below (KX : K.In base) (G : base.Ns mainGlobals mg) (c : He.SaysD fa fn K) (tb : Tbs K mg base) : Cal P w K mg base "root_below" 2 2 F_root_below := by
  obtain ⟨fd, hFd⟩ := (c.def_ 5 (d := d_root_below) rfl)
  exact cal_of (st := s_root_below) (N := N_root_below) (ps := P_root_below) (k := 1) (body := b_root_below) hFd (He.glo_ok KX G (c.fact 5 (f := .glo "root_below") rfl)) sc_root_below (by decide) (fun _ _ _ _ _ _ us hl => match us, hl with | [_, _], _ => rfl) fun cdv A outer s H E rm hp =>
    (sss_cons (ss_if (SW.st (sw_or (st_cmpG .lt (se_var 0 rfl (by first | exact .inl rfl | exact .inr (.inl rfl) | exact .inr (.inr rfl))) se_int (by first | rfl | with_unfolding_all rfl)) (sw_or1 (st_cmpG .lt (se_var 1 rfl (by first | exact .inl rfl | exact .inr (.inl rfl) | exact .inr (.inr rfl))) se_int (by first | rfl | with_unfolding_all rfl))))) (sss_one (ss_raiseX (x_NumberError KX G c) rm.calm (by rfl))) sss_nil)
    (sss_cons (g := (sPar [2, 3] (aoCons (eC (.int 0)) (aoCons (eC (.int 1)) aoNil)))) (ss_parN rm.calm rm.nd (.cons rfl (by first | exact .inl rfl | exact .inr rfl) (by first | exact .inl rfl | exact .inr rfl) rfl (.cons rfl (by first | exact .inl rfl | exact .inr rfl) (by first | exact .inl rfl | exact .inr rfl) rfl .nil)) (sao_cons se_int (sao_cons se_int sao_nil)))
    (sss_cons (ss_while hp (st_cmpG .le (se_callC (cal_power KX G c tb) rm (by decide) (by rfl) (sa_cons (se_var 3 rfl (by first | exact .inl rfl | exact .inr (.inl rfl) | exact .inr (.inr rfl))) (sa_cons (se_var 1 rfl (by first | exact .inl rfl | exact .inr (.inl rfl) | exact .inr (.inr rfl))) sa_nil))) (se_var 0 rfl (by first | exact .inl rfl | exact .inr (.inl rfl) | exact .inr (.inr rfl))) (by first | rfl | with_unfolding_all rfl)) (sss_one (ss_augMul rm.nd rfl (by first | exact .inl rfl | exact .inr rfl) se_int)))
    (sss_cons (ss_while hp (st_cmpG .gt (se_sub (se_var 3 rfl (by first | exact .inl rfl | exact .inr (.inl rfl) | exact .inr (.inr rfl))) (se_var 2 rfl (by first | exact .inl rfl | exact .inr (.inl rfl) | exact .inr (.inr rfl)))) se_int (by first | rfl | with_unfolding_all rfl)) (sss_cons (ss_set rm.nd rfl (by first | exact .inl rfl | exact .inr rfl) (se_div (se_add (se_var 2 rfl (by first | exact .inl rfl | exact .inr (.inl rfl) | exact .inr (.inr rfl))) (se_var 3 rfl (by first | exact .inl rfl | exact .inr (.inl rfl) | exact .inr (.inr rfl)))) se_int))
      (sss_one (ss_if (st_cmpG .le (se_callC (cal_power KX G c tb) rm (by decide) (by rfl) (sa_cons (se_var 4 rfl (by first | exact .inl rfl | exact .inr (.inl rfl) | exact .inr (.inr rfl))) (sa_cons (se_var 1 rfl (by first | exact .inl rfl | exact .inr (.inl rfl) | exact .inr (.inr rfl))) sa_nil))) (se_var 0 rfl (by first | exact .inl rfl | exact .inr (.inl rfl) | exact .inr (.inr rfl))) (by first | rfl | with_unfolding_all rfl)) (sss_one (ss_set rm.nd rfl (by first | exact .inl rfl | exact .inr rfl) (se_var 4 rfl (by first | exact .inl rfl | exact .inr (.inl rfl) | exact .inr (.inr rfl))))) (sss_one (ss_set rm.nd rfl (by first | exact .inl rfl | exact .inr rfl) (se_var 4 rfl (by first | exact .inl rfl | exact .inr (.inl rfl) | exact .inr (.inr rfl)))))))))
    (sss_one (ss_ret (se_var 2 rfl (by first | exact .inl rfl | exact .inr (.inl rfl) | exact .inr (.inr rfl)))))))))
theorem cal_convergents (KX : K.In base) (G : base.Ns mainGlobals mg) (c : He.SaysD fa fn K) (tb : Tbs K mg base) : Cal P w K mg base "convergents" 1 2 F_convergents := by
  obtain ⟨fd, hFd⟩ := (c.def_ 6 (d := d_convergents) rfl)
  exact cal_of (st := s_convergents) (N := N_convergents) (ps := P_convergents) (k := 0) (body := b_convergents) hFd (He.glo_ok KX G (c.fact 6 (f := .glo "convergents") rfl)) sc_convergents (by decide) (fun _ _ _ _ _ _ us hl => match us, hl with | [_, _], _ => rfl) fun cdv A outer s H E rm hp =>
    (sss_cons (ss_if (st_cmpG .lt (se_var 1 rfl (by first | exact .inl rfl | exact .inr (.inl rfl) | exact .inr (.inr rfl))) se_int (by first | rfl | with_unfolding_all rfl)) (sss_one (ss_raiseX (x_NumberError KX G c) rm.calm (by rfl))) sss_nil)
    (sss_cons (g := (sPar [2, 3] (aoCons (eLst (aCons (eTup (aCons (eC (.int 0)) (aCons (eC (.int 1)) aNil))) (aCons (eTup (aCons (eC (.int 1)) (aCons (eC (.int 0)) aNil))) aNil))) (aoCons (eLst aNil) aoNil)))) (ss_par2 rm.calm rm.nd rfl rfl (by decide) rfl rfl (sao_cons (se_lst (sa_cons (se_tup (sa_cons se_int (sa_cons se_int sa_nil))) (sa_cons (se_tup (sa_cons se_int (sa_cons se_int sa_nil))) sa_nil))) (sao_cons (se_lst sa_nil) sao_nil)))
    (sss_cons (ss_while hp (st_cmpG (.ne rm.u64) (se_var 1 rfl (by first | exact .inl rfl | exact .inr (.inl rfl) | exact .inr (.inr rfl))) se_int (by first | rfl | with_unfolding_all rfl)) (sss_cons (ss_set rm.nd rfl (by first | exact .inl rfl | exact .inr rfl) (se_div (se_var 0 rfl (by first | exact .inl rfl | exact .inr (.inl rfl) | exact .inr (.inr rfl))) (se_var 1 rfl (by first | exact .inl rfl | exact .inr (.inl rfl) | exact .inr (.inr rfl)))))
      (sss_cons (ss_set rm.nd rfl (by first | exact .inl rfl | exact .inr rfl) (se_lst (sa_cons (se_ix (se_var 2 rfl (by first | exact .inl rfl | exact .inr (.inl rfl) | exact .inr (.inr rfl))) se_int) (sa_cons (se_tup (sa_cons (se_add (se_mul (se_var 4 rfl (by first | exact .inl rfl | exact .inr (.inl rfl) | exact .inr (.inr rfl))) (se_ix (se_ix (se_var 2 rfl (by first | exact .inl rfl | exact .inr (.inl rfl) | exact .inr (.inr rfl))) se_int) se_int)) (se_ix (se_ix (se_var 2 rfl (by first | exact .inl rfl | exact .inr (.inl rfl) | exact .inr (.inr rfl))) se_int) se_int)) (sa_cons (se_add (se_mul (se_var 4 rfl (by first | exact .inl rfl | exact .inr (.inl rfl) | exact .inr (.inr rfl))) (se_ix (se_ix (se_var 2 rfl (by first | exact .inl rfl | exact .inr (.inl rfl) | exact .inr (.inr rfl))) se_int) se_int)) (se_ix (se_ix (se_var 2 rfl (by first | exact .inl rfl | exact .inr (.inl rfl) | exact .inr (.inr rfl))) se_int) se_int)) sa_nil))) sa_nil))))
      (sss_cons (ss_expr (se_append (se_var 3 rfl (by first | exact .inl rfl | exact .inr (.inl rfl) | exact .inr (.inr rfl))) (se_ix (se_var 2 rfl (by first | exact .inl rfl | exact .inr (.inl rfl) | exact .inr (.inr rfl))) se_int)))
      (sss_one (ss_par2 rm.calm rm.nd rfl rfl (by decide) rfl rfl (sao_cons (se_var 1 rfl (by first | exact .inl rfl | exact .inr (.inl rfl) | exact .inr (.inr rfl))) (sao_cons (se_sub (se_var 0 rfl (by first | exact .inl rfl | exact .inr (.inl rfl) | exact .inr (.inr rfl))) (se_mul (se_var 4 rfl (by first | exact .inl rfl | exact .inr (.inl rfl) | exact .inr (.inr rfl))) (se_var 1 rfl (by first | exact .inl rfl | exact .inr (.inl rfl) | exact .inr (.inr rfl))))) sao_nil))))))))
    (sss_one (ss_ret (se_tuplec (by rfl) (m_tuple KX G c) (se_var 3 rfl (by first | exact .inl rfl | exact .inr (.inl rfl) | exact .inr (.inr rfl)))))))))
theorem cal__law_roll (KX : K.In base) (G : base.Ns mainGlobals mg) (c : He.SaysD fa fn K) (tb : Tbs K mg base) : ∀ n : Nat, Cal P w K mg base "_law_roll" (0 + n) 2 (F__law_roll n)
  | 0 => by
    obtain ⟨fd, hFd⟩ := (c.def_ 7 (d := d__law_roll) rfl)
    exact cal_stuck (st := s__law_roll) (ps := P__law_roll) hFd (He.glo_ok KX G (c.fact 7 (f := .glo "_law_roll") rfl)) (fun _ _ _ _ _ _ us hl => match us, hl with | [_, _], _ => rfl)
  | n + 1 => by
    obtain ⟨fd, hFd⟩ := (c.def_ 7 (d := d__law_roll) rfl)
    have hF := cal__law_roll KX G c tb n
    have hk : 0 + n ≤ 0 + n := Nat.le_refl _
    exact cal_of (st := s__law_roll) (N := N__law_roll) (ps := P__law_roll) (k := 0 + n) (body := b__law_roll (F__law_roll n)) hFd (He.glo_ok KX G (c.fact 7 (f := .glo "_law_roll") rfl)) sc__law_roll (by decide) (fun _ _ _ _ _ _ us hl => match us, hl with | [_, _], _ => rfl) fun cdv A outer s H E rm hp =>
    (sss_cons (ss_if (SW.st (sw_or (st_cmpG (.eq rm.u64) (se_ix (se_var 0 rfl (by first | exact .inl rfl | exact .inr (.inl rfl) | exact .inr (.inr rfl))) se_int) se_int (by first | rfl | with_unfolding_all rfl)) (sw_or1 (SW.st (sw_and (st_cmpG (.eq rm.u64) (se_ix (se_var 0 rfl (by first | exact .inl rfl | exact .inr (.inl rfl) | exact .inr (.inr rfl))) se_int) se_int (by first | rfl | with_unfolding_all rfl)) (sw_and1 (st_cmpG .gt (se_ix (se_var 0 rfl (by first | exact .inl rfl | exact .inr (.inl rfl) | exact .inr (.inr rfl))) se_int) se_int (by first | rfl | with_unfolding_all rfl)))))))) (sss_cons (ss_set rm.nd rfl (by first | exact .inl rfl | exact .inr rfl) (se_mod (se_intc (by rfl) (m_int KX G c) (se_ix (se_var 0 rfl (by first | exact .inl rfl | exact .inr (.inl rfl) | exact .inr (.inr rfl))) se_int)) (se_var 1 rfl (by first | exact .inl rfl | exact .inr (.inl rfl) | exact .inr (.inr rfl)))))
      (sss_cons (ss_asg (se_div (se_ix (se_var 0 rfl (by first | exact .inl rfl | exact .inr (.inl rfl) | exact .inr (.inr rfl))) se_int) (se_var 1 rfl (by first | exact .inl rfl | exact .inr (.inl rfl) | exact .inr (.inr rfl)))) (sg_sub (se_var 0 rfl (by first | exact .inl rfl | exact .inr (.inl rfl) | exact .inr (.inr rfl))) se_int))
      (sss_one (ss_ret (se_var 2 rfl (by first | exact .inl rfl | exact .inr (.inl rfl) | exact .inr (.inr rfl))))))) sss_nil)
    (sss_cons (ss_asg se_int (sg_sub (se_var 0 rfl (by first | exact .inl rfl | exact .inr (.inl rfl) | exact .inr (.inr rfl))) se_int))
    (sss_cons (ss_if (st_cmpG .gt (se_var 1 rfl (by first | exact .inl rfl | exact .inr (.inl rfl) | exact .inr (.inr rfl))) se_int (by first | rfl | with_unfolding_all rfl)) (sss_one (ss_ret (se_mod (se_intc (by rfl) (m_int KX G c) (se_add (se_mul (se_callC hF rm hk (by rfl) (sa_cons (se_var 0 rfl (by first | exact .inl rfl | exact .inr (.inl rfl) | exact .inr (.inr rfl))) (sa_cons (se_add (se_div (se_var 1 rfl (by first | exact .inl rfl | exact .inr (.inl rfl) | exact .inr (.inr rfl))) se_int) se_int) sa_nil))) se_int) (se_callC hF rm hk (by rfl) (sa_cons (se_var 0 rfl (by first | exact .inl rfl | exact .inr (.inl rfl) | exact .inr (.inr rfl))) (sa_cons se_int sa_nil))))) (se_var 1 rfl (by first | exact .inl rfl | exact .inr (.inl rfl) | exact .inr (.inr rfl)))))) sss_nil)
    (sss_cons (ss_asg (se_mod (se_intc (by rfl) (m_int KX G c) (se_add (se_add (se_mul (se_ix (se_var 0 rfl (by first | exact .inl rfl | exact .inr (.inl rfl) | exact .inr (.inr rfl))) se_int) se_int) (se_mul (se_ix (se_var 0 rfl (by first | exact .inl rfl | exact .inr (.inl rfl) | exact .inr (.inr rfl))) se_int) se_int)) se_int)) se_int) (sg_sub (se_var 0 rfl (by first | exact .inl rfl | exact .inr (.inl rfl) | exact .inr (.inr rfl))) se_int))
    (sss_cons (ss_asg (se_add (se_ix (se_var 0 rfl (by first | exact .inl rfl | exact .inr (.inl rfl) | exact .inr (.inr rfl))) se_int) se_int) (sg_sub (se_var 0 rfl (by first | exact .inl rfl | exact .inr (.inl rfl) | exact .inr (.inr rfl))) se_int))
    (sss_one (ss_ret (se_mod (se_intc (by rfl) (m_int KX G c) (se_div (se_ix (se_var 0 rfl (by first | exact .inl rfl | exact .inr (.inl rfl) | exact .inr (.inr rfl))) se_int) se_int)) (se_var 1 rfl (by first | exact .inl rfl | exact .inr (.inl rfl) | exact .inr (.inr rfl)))))))))))
theorem cal__law_large (KX : K.In base) (G : base.Ns mainGlobals mg) (c : He.SaysD fa fn K) (tb : Tbs K mg base) : Cal P w K mg base "_law_large" 4 1 F__law_large := by
  obtain ⟨fd, hFd⟩ := (c.def_ 8 (d := d__law_large) rfl)
  obtain ⟨T0⟩ := told0 KX G c
  have TB := tb.b__law_large
  have hT := tb.t__law_large
  exact cal_ofC2 (st := s__law_large) (N := N__law_large) (ps := P__law_large) (k := 3) (body := b__law_large) (p := ("_law_large", none)) hFd (He.glo_ok KX G (c.fact 8 (f := .glo "_law_large") rfl)) sc__law_large (by decide) (fun _ _ _ _ _ _ us hl => match us, hl with | [_], _ => rfl) fun cdv A outer s H E hcode rm hp =>
    (sss_cons (ss_for hp rm.calm (si_seq (se_callC (cal__law_rounds KX G c tb) rm (by decide) (by rfl) (sa_cons (se_var 0 rfl (by first | exact .inl rfl | exact .inr (.inl rfl) | exact .inr (.inr rfl))) (sa_cons se_int sa_nil)))) (sg_name rm.nd rfl (by first | exact .inl rfl | exact .inr rfl)) (sss_cons (ss_set rm.nd rfl (by first | exact .inl rfl | exact .inr rfl) (se_if (st_cmpG (.eq rm.u64) (se_callC (cal__law_roll KX G c tb 1) rm (by decide) (by rfl) (sa_cons (se_var 1 rfl (by first | exact .inl rfl | exact .inr (.inl rfl) | exact .inr (.inr rfl))) (sa_cons se_int sa_nil))) se_int (by first | rfl | with_unfolding_all rfl)) (se_ix (se_lst (sa_cons se_int (sa_cons (se_mul se_int se_int) (sa_cons (se_add (se_pow se_int se_int) se_int) (sa_cons se_int sa_nil))))) (se_callC (cal__law_roll KX G c tb 1) rm (by decide) (by rfl) (sa_cons (se_var 1 rfl (by first | exact .inl rfl | exact .inr (.inl rfl) | exact .inr (.inr rfl))) (sa_cons se_int sa_nil)))) se_int))
      (sss_cons (g := (sSet 3 (eDisp (pCons (eC (.int 999999999989)) (eTup (aCons (eTup (aCons (eC (.int 999999999989)) (aCons (eC (.int 1)) aNil))) aNil)) (pCons (eBin opMul (eC (.int 999983)) (eC (.int 1000003))) (eTup (aCons (eTup (aCons (eC (.int 999983)) (aCons (eC (.int 1)) aNil))) (aCons (eTup (aCons (eC (.int 1000003)) (aCons (eC (.int 1)) aNil))) aNil))) (pCons (eBin opAdd (eBin opPow (eC (.int 10)) (eC (.int 30))) (eC (.int 57))) (eC (.str "NumberError")) (pCons (eC (.int 999979)) (eTup (aCons (eTup (aCons (eC (.int 999979)) (aCons (eC (.int 1)) aNil))) aNil)) (pCons (eC (.int 7)) (eTup (aCons (eTup (aCons (eC (.int 7)) (aCons (eC (.int 1)) aNil))) aNil)) pNil)))))))) (ss_set rm.nd rfl (by first | exact .inl rfl | exact .inr rfl) (se_disp (sps_cons se_int (se_tup (sa_cons (se_tup (sa_cons se_int (sa_cons se_int sa_nil))) sa_nil)) (sps_cons (se_mul se_int se_int) (se_tup (sa_cons (se_tup (sa_cons se_int (sa_cons se_int sa_nil))) (sa_cons (se_tup (sa_cons se_int (sa_cons se_int sa_nil))) sa_nil))) (sps_cons (se_add (se_pow se_int se_int) se_int) se_str (sps_cons se_int (se_tup (sa_cons (se_tup (sa_cons se_int (sa_cons se_int sa_nil))) sa_nil)) (sps_cons se_int (se_tup (sa_cons (se_tup (sa_cons se_int (sa_cons se_int sa_nil))) sa_nil)) sps_nil))))) (by rfl) (by rfl) (by simp) (by decide)))
      (sss_one (ss_if (st_cmpG (.ne rm.u64) (se_told T0 (k := 1) rm (by decide) (by rfl) TB hcode hT (LamX.lamS_by (by kernel_rfl)) (slam rm fun A1 o1 s1 H1 E1 f1 c1 rl1 => (se_unl (se_callC (cal_prime_factors KX G c tb) rl1 (by decide) (by rfl) (sa_cons (se_var 2 rfl (by first | exact .inl rfl | exact .inr (.inl rfl) | exact .inr (.inr rfl))) sa_nil))))) (se_dget rm (se_var 3 rfl (by first | exact .inl rfl | exact .inr (.inl rfl) | exact .inr (.inr rfl))) (se_var 2 rfl (by first | exact .inl rfl | exact .inr (.inl rfl) | exact .inr (.inr rfl)))) (by first | rfl | with_unfolding_all rfl)) (sss_one (ss_ret se_bl)) sss_nil)))))
    (sss_one (ss_ret se_bl)))
theorem cal__law_convergents (KX : K.In base) (G : base.Ns mainGlobals mg) (c : He.SaysD fa fn K) (tb : Tbs K mg base) : Cal P w K mg base "_law_convergents" 1 2 F__law_convergents := by
  obtain ⟨fd, hFd⟩ := (c.def_ 9 (d := d__law_convergents) rfl)
  exact cal_of (st := s__law_convergents) (N := N__law_convergents) (ps := P__law_convergents) (k := 0) (body := b__law_convergents) hFd (He.glo_ok KX G (c.fact 9 (f := .glo "_law_convergents") rfl)) sc__law_convergents (by decide) (fun _ _ _ _ _ _ us hl => match us, hl with | [_, _], _ => rfl) fun cdv A outer s H E rm hp =>
    (sss_cons (g := (sParT [.inr [2, 3], .inr [4, 5], .inl 6] (aoCons (eTup (aCons (eC (.int 1)) (aCons (eC (.int 0)) aNil))) (aoCons (eTup (aCons (eC (.int 0)) (aCons (eC (.int 1)) aNil))) (aoCons (eLst aNil) aoNil))))) (ss_parT (is := [.inr [2, 3], .inr [4, 5], .inl 6]) rm.calm rm.nd (.tup (.cons rfl (by first | exact .inl rfl | exact .inr rfl) (by first | exact .inl rfl | exact .inr rfl) rfl (.cons rfl (by first | exact .inl rfl | exact .inr rfl) (by first | exact .inl rfl | exact .inr rfl) rfl .nil)) rfl rfl rfl (.tup (.cons rfl (by first | exact .inl rfl | exact .inr rfl) (by first | exact .inl rfl | exact .inr rfl) rfl (.cons rfl (by first | exact .inl rfl | exact .inr rfl) (by first | exact .inl rfl | exact .inr rfl) rfl .nil)) rfl rfl rfl (.name rfl (by first | exact .inl rfl | exact .inr rfl) (by first | exact .inl rfl | exact .inr rfl) rfl .nil))) (sao_cons (se_tup (sa_cons se_int (sa_cons se_int sa_nil))) (sao_cons (se_tup (sa_cons se_int (sa_cons se_int sa_nil))) (sao_cons (se_lst sa_nil) sao_nil))))
    (sss_cons (ss_while hp (st_cmpG (.ne rm.u64) (se_var 1 rfl (by first | exact .inl rfl | exact .inr (.inl rfl) | exact .inr (.inr rfl))) se_int (by first | rfl | with_unfolding_all rfl)) (sss_cons (ss_set rm.nd rfl (by first | exact .inl rfl | exact .inr rfl) (se_div (se_var 0 rfl (by first | exact .inl rfl | exact .inr (.inl rfl) | exact .inr (.inr rfl))) (se_var 1 rfl (by first | exact .inl rfl | exact .inr (.inl rfl) | exact .inr (.inr rfl)))))
      (sss_cons (ss_parT (is := [.inr [2, 3], .inr [4, 5], .inl 0, .inl 1]) rm.calm rm.nd (.tup (.cons rfl (by first | exact .inl rfl | exact .inr rfl) (by first | exact .inl rfl | exact .inr rfl) rfl (.cons rfl (by first | exact .inl rfl | exact .inr rfl) (by first | exact .inl rfl | exact .inr rfl) rfl .nil)) rfl rfl rfl (.tup (.cons rfl (by first | exact .inl rfl | exact .inr rfl) (by first | exact .inl rfl | exact .inr rfl) rfl (.cons rfl (by first | exact .inl rfl | exact .inr rfl) (by first | exact .inl rfl | exact .inr rfl) rfl .nil)) rfl rfl rfl (.name rfl (by first | exact .inl rfl | exact .inr rfl) (by first | exact .inl rfl | exact .inr rfl) rfl (.name rfl (by first | exact .inl rfl | exact .inr rfl) (by first | exact .inl rfl | exact .inr rfl) rfl .nil)))) (sao_cons (se_tup (sa_cons (se_add (se_mul (se_var 7 rfl (by first | exact .inl rfl | exact .inr (.inl rfl) | exact .inr (.inr rfl))) (se_var 2 rfl (by first | exact .inl rfl | exact .inr (.inl rfl) | exact .inr (.inr rfl)))) (se_var 4 rfl (by first | exact .inl rfl | exact .inr (.inl rfl) | exact .inr (.inr rfl)))) (sa_cons (se_add (se_mul (se_var 7 rfl (by first | exact .inl rfl | exact .inr (.inl rfl) | exact .inr (.inr rfl))) (se_var 3 rfl (by first | exact .inl rfl | exact .inr (.inl rfl) | exact .inr (.inr rfl)))) (se_var 5 rfl (by first | exact .inl rfl | exact .inr (.inl rfl) | exact .inr (.inr rfl)))) sa_nil))) (sao_cons (se_tup (sa_cons (se_var 2 rfl (by first | exact .inl rfl | exact .inr (.inl rfl) | exact .inr (.inr rfl))) (sa_cons (se_var 3 rfl (by first | exact .inl rfl | exact .inr (.inl rfl) | exact .inr (.inr rfl))) sa_nil))) (sao_cons (se_var 1 rfl (by first | exact .inl rfl | exact .inr (.inl rfl) | exact .inr (.inr rfl))) (sao_cons (se_sub (se_var 0 rfl (by first | exact .inl rfl | exact .inr (.inl rfl) | exact .inr (.inr rfl))) (se_mul (se_var 7 rfl (by first | exact .inl rfl | exact .inr (.inl rfl) | exact .inr (.inr rfl))) (se_var 1 rfl (by first | exact .inl rfl | exact .inr (.inl rfl) | exact .inr (.inr rfl))))) sao_nil)))))
      (sss_one (ss_expr (se_append (se_var 6 rfl (by first | exact .inl rfl | exact .inr (.inl rfl) | exact .inr (.inr rfl))) (se_tup (sa_cons (se_var 2 rfl (by first | exact .inl rfl | exact .inr (.inl rfl) | exact .inr (.inr rfl))) (sa_cons (se_var 3 rfl (by first | exact .inl rfl | exact .inr (.inl rfl) | exact .inr (.inr rfl))) sa_nil)))))))))
    (sss_one (ss_ret (se_var 6 rfl (by first | exact .inl rfl | exact .inr (.inl rfl) | exact .inr (.inr rfl)))))))
theorem cal__law_gcd (KX : K.In base) (G : base.Ns mainGlobals mg) (c : He.SaysD fa fn K) (tb : Tbs K mg base) : Cal P w K mg base "_law_gcd" 1 2 F__law_gcd := by
  obtain ⟨fd, hFd⟩ := (c.def_ 10 (d := d__law_gcd) rfl)
  exact cal_of (st := s__law_gcd) (N := N__law_gcd) (ps := P__law_gcd) (k := 0) (body := b__law_gcd) hFd (He.glo_ok KX G (c.fact 10 (f := .glo "_law_gcd") rfl)) sc__law_gcd (by decide) (fun _ _ _ _ _ _ us hl => match us, hl with | [_, _], _ => rfl) fun cdv A outer s H E rm hp =>
    (sss_cons (ss_par2 rm.calm rm.nd rfl rfl (by decide) rfl rfl (sao_cons (se_abs (by rfl) (m_abs KX G c) (se_var 0 rfl (by first | exact .inl rfl | exact .inr (.inl rfl) | exact .inr (.inr rfl)))) (sao_cons (se_abs (by rfl) (m_abs KX G c) (se_var 1 rfl (by first | exact .inl rfl | exact .inr (.inl rfl) | exact .inr (.inr rfl)))) sao_nil)))
    (sss_cons (ss_while hp (st_cmpG (.ne rm.u64) (se_var 1 rfl (by first | exact .inl rfl | exact .inr (.inl rfl) | exact .inr (.inr rfl))) se_int (by first | rfl | with_unfolding_all rfl)) (sss_one (ss_par2 rm.calm rm.nd rfl rfl (by decide) rfl rfl (sao_cons (se_var 1 rfl (by first | exact .inl rfl | exact .inr (.inl rfl) | exact .inr (.inr rfl))) (sao_cons (se_sub (se_var 0 rfl (by first | exact .inl rfl | exact .inr (.inl rfl) | exact .inr (.inr rfl))) (se_mul (se_div (se_var 0 rfl (by first | exact .inl rfl | exact .inr (.inl rfl) | exact .inr (.inr rfl))) (se_var 1 rfl (by first | exact .inl rfl | exact .inr (.inl rfl) | exact .inr (.inr rfl)))) (se_var 1 rfl (by first | exact .inl rfl | exact .inr (.inl rfl) | exact .inr (.inr rfl))))) sao_nil)))))
    (sss_one (ss_ret (se_var 0 rfl (by first | exact .inl rfl | exact .inr (.inl rfl) | exact .inr (.inr rfl)))))))
theorem cal__law_frac (KX : K.In base) (G : base.Ns mainGlobals mg) (c : He.SaysD fa fn K) (tb : Tbs K mg base) : Cal P w K mg base "_law_frac" 2 2 F__law_frac := by
  obtain ⟨fd, hFd⟩ := (c.def_ 11 (d := d__law_frac) rfl)
  exact cal_of (st := s__law_frac) (N := N__law_frac) (ps := P__law_frac) (k := 1) (body := b__law_frac) hFd (He.glo_ok KX G (c.fact 11 (f := .glo "_law_frac") rfl)) sc__law_frac (by decide) (fun _ _ _ _ _ _ us hl => match us, hl with | [_, _], _ => rfl) fun cdv A outer s H E rm hp =>
    (sss_cons (ss_set rm.nd rfl (by first | exact .inl rfl | exact .inr rfl) (se_mul (se_callC (cal__law_gcd KX G c tb) rm (by decide) (by rfl) (sa_cons (se_var 0 rfl (by first | exact .inl rfl | exact .inr (.inl rfl) | exact .inr (.inr rfl))) (sa_cons (se_var 1 rfl (by first | exact .inl rfl | exact .inr (.inl rfl) | exact .inr (.inr rfl))) sa_nil))) (se_if (st_cmpG .gt (se_var 1 rfl (by first | exact .inl rfl | exact .inr (.inl rfl) | exact .inr (.inr rfl))) se_int (by first | rfl | with_unfolding_all rfl)) se_int (se_neg se_int))))
    (sss_one (ss_ret (se_tup (sa_cons (se_div (se_var 0 rfl (by first | exact .inl rfl | exact .inr (.inl rfl) | exact .inr (.inr rfl))) (se_var 2 rfl (by first | exact .inl rfl | exact .inr (.inl rfl) | exact .inr (.inr rfl)))) (sa_cons (se_div (se_var 1 rfl (by first | exact .inl rfl | exact .inr (.inl rfl) | exact .inr (.inr rfl))) (se_var 2 rfl (by first | exact .inl rfl | exact .inr (.inl rfl) | exact .inr (.inr rfl)))) sa_nil))))))
theorem cal__law_times (KX : K.In base) (G : base.Ns mainGlobals mg) (c : He.SaysD fa fn K) (tb : Tbs K mg base) : Cal P w K mg base "_law_times" 3 2 F__law_times := by
  obtain ⟨fd, hFd⟩ := (c.def_ 12 (d := d__law_times) rfl)
  exact cal_of (st := s__law_times) (N := N__law_times) (ps := P__law_times) (k := 2) (body := b__law_times) hFd (He.glo_ok KX G (c.fact 12 (f := .glo "_law_times") rfl)) sc__law_times (by decide) (fun _ _ _ _ _ _ us hl => match us, hl with | [_, _], _ => rfl) fun cdv A outer s H E rm hp =>
    (sss_one (ss_ret (se_callC (cal__law_frac KX G c tb) rm (by decide) (by rfl) (sa_cons (se_mul (se_ix (se_var 0 rfl (by first | exact .inl rfl | exact .inr (.inl rfl) | exact .inr (.inr rfl))) se_int) (se_ix (se_var 1 rfl (by first | exact .inl rfl | exact .inr (.inl rfl) | exact .inr (.inr rfl))) se_int)) (sa_cons (se_mul (se_ix (se_var 0 rfl (by first | exact .inl rfl | exact .inr (.inl rfl) | exact .inr (.inr rfl))) se_int) (se_ix (se_var 1 rfl (by first | exact .inl rfl | exact .inr (.inl rfl) | exact .inr (.inr rfl))) se_int)) sa_nil)))))
theorem cal_is_prime (KX : K.In base) (G : base.Ns mainGlobals mg) (c : He.SaysD fa fn K) (tb : Tbs K mg base) : Cal P w K mg base "is_prime" 2 1 F_is_prime := by
  obtain ⟨fd, hFd⟩ := (c.def_ 13 (d := d_is_prime) rfl)
  exact cal_of (st := s_is_prime) (N := N_is_prime) (ps := P_is_prime) (k := 1) (body := b_is_prime) hFd (He.glo_ok KX G (c.fact 13 (f := .glo "is_prime") rfl)) sc_is_prime (by decide) (fun _ _ _ _ _ _ us hl => match us, hl with | [_], _ => rfl) fun cdv A outer s H E rm hp =>
    (sss_one (ss_ret (se_and (se_cmpG .gt (se_var 0 rfl (by first | exact .inl rfl | exact .inr (.inl rfl) | exact .inr (.inr rfl))) se_int (by first | rfl | with_unfolding_all rfl)) (se_one (se_cmpG (.eq rm.u64) (se_unl (se_callC (cal_prime_factors KX G c tb) rm (by decide) (by rfl) (sa_cons (se_var 0 rfl (by first | exact .inl rfl | exact .inr (.inl rfl) | exact .inr (.inr rfl))) sa_nil))) (se_tup (sa_cons (se_tup (sa_cons (se_var 0 rfl (by first | exact .inl rfl | exact .inr (.inl rfl) | exact .inr (.inr rfl))) (sa_cons se_int sa_nil))) sa_nil)) (by first | rfl | with_unfolding_all rfl))))))
theorem cal_common_divisor (KX : K.In base) (G : base.Ns mainGlobals mg) (c : He.SaysD fa fn K) (tb : Tbs K mg base) : Cal P w K mg base "common_divisor" 1 2 F_common_divisor := by
  obtain ⟨fd, hFd⟩ := (c.def_ 14 (d := d_common_divisor) rfl)
  exact cal_of (st := s_common_divisor) (N := N_common_divisor) (ps := P_common_divisor) (k := 0) (body := b_common_divisor) hFd (He.glo_ok KX G (c.fact 14 (f := .glo "common_divisor") rfl)) sc_common_divisor (by decide) (fun _ _ _ _ _ _ us hl => match us, hl with | [_, _], _ => rfl) fun cdv A outer s H E rm hp =>
    (sss_cons (ss_par2 rm.calm rm.nd rfl rfl (by decide) rfl rfl (sao_cons (se_abs (by rfl) (m_abs KX G c) (se_var 0 rfl (by first | exact .inl rfl | exact .inr (.inl rfl) | exact .inr (.inr rfl)))) (sao_cons (se_abs (by rfl) (m_abs KX G c) (se_var 1 rfl (by first | exact .inl rfl | exact .inr (.inl rfl) | exact .inr (.inr rfl)))) sao_nil)))
    (sss_cons (ss_while hp (st_cmpG (.ne rm.u64) (se_var 1 rfl (by first | exact .inl rfl | exact .inr (.inl rfl) | exact .inr (.inr rfl))) se_int (by first | rfl | with_unfolding_all rfl)) (sss_one (ss_par2 rm.calm rm.nd rfl rfl (by decide) rfl rfl (sao_cons (se_var 1 rfl (by first | exact .inl rfl | exact .inr (.inl rfl) | exact .inr (.inr rfl))) (sao_cons (se_mod (se_var 0 rfl (by first | exact .inl rfl | exact .inr (.inl rfl) | exact .inr (.inr rfl))) (se_var 1 rfl (by first | exact .inl rfl | exact .inr (.inl rfl) | exact .inr (.inr rfl)))) sao_nil)))))
    (sss_one (ss_ret (se_var 0 rfl (by first | exact .inl rfl | exact .inr (.inl rfl) | exact .inr (.inr rfl)))))))
theorem cal_inverse (KX : K.In base) (G : base.Ns mainGlobals mg) (c : He.SaysD fa fn K) (tb : Tbs K mg base) : Cal P w K mg base "inverse" 3 2 F_inverse := by
  obtain ⟨fd, hFd⟩ := (c.def_ 15 (d := d_inverse) rfl)
  exact cal_of (st := s_inverse) (N := N_inverse) (ps := P_inverse) (k := 2) (body := b_inverse) hFd (He.glo_ok KX G (c.fact 15 (f := .glo "inverse") rfl)) sc_inverse (by decide) (fun _ _ _ _ _ _ us hl => match us, hl with | [_, _], _ => rfl) fun cdv A outer s H E rm hp =>
    (sss_cons (ss_if (st_cmpG .lt (se_var 1 rfl (by first | exact .inl rfl | exact .inr (.inl rfl) | exact .inr (.inr rfl))) se_int (by first | rfl | with_unfolding_all rfl)) (sss_one (ss_raiseX (x_NumberError KX G c) rm.calm (by rfl))) sss_nil)
    (sss_cons (ss_asg (se_callC (cal_bezout KX G c tb) rm (by decide) (by rfl) (sa_cons (se_mod (se_var 0 rfl (by first | exact .inl rfl | exact .inr (.inl rfl) | exact .inr (.inr rfl))) (se_var 1 rfl (by first | exact .inl rfl | exact .inr (.inl rfl) | exact .inr (.inr rfl)))) (sa_cons (se_var 1 rfl (by first | exact .inl rfl | exact .inr (.inl rfl) | exact .inr (.inr rfl))) sa_nil))) (sg_tup rm.calm (sgs_cons (sg_name rm.nd rfl (by first | exact .inl rfl | exact .inr rfl)) (sgs_cons (sg_name rm.nd rfl (by first | exact .inl rfl | exact .inr rfl)) (sgs_cons (sg_name rm.nd rfl (by first | exact .inl rfl | exact .inr rfl)) sgs_nil)))))
    (sss_cons (ss_if (st_cmpG (.ne rm.u64) (se_var 2 rfl (by first | exact .inl rfl | exact .inr (.inl rfl) | exact .inr (.inr rfl))) se_int (by first | rfl | with_unfolding_all rfl)) (sss_one (ss_raiseX (x_NumberError KX G c) rm.calm (by rfl))) sss_nil)
    (sss_one (ss_ret (se_mod (se_var 3 rfl (by first | exact .inl rfl | exact .inr (.inl rfl) | exact .inr (.inr rfl))) (se_var 1 rfl (by first | exact .inl rfl | exact .inr (.inl rfl) | exact .inr (.inr rfl)))))))))
theorem cal_power_by (KX : K.In base) (G : base.Ns mainGlobals mg) (c : He.SaysD fa fn K) (tb : Tbs K mg base) : Cal P w K mg base "power_by" 1 3 F_power_by := by
  obtain ⟨fd, hFd⟩ := (c.def_ 16 (d := d_power_by) rfl)
  exact cal_of (st := s_power_by) (N := N_power_by) (ps := P_power_by) (k := 0) (body := b_power_by) hFd (He.glo_ok KX G (c.fact 16 (f := .glo "power_by") rfl)) sc_power_by (by decide) (fun _ _ _ _ _ _ us hl => match us, hl with | [_, _, _], _ => rfl) fun cdv A outer s H E rm hp =>
    (sss_cons (ss_if (SW.st (sw_or (st_cmpG .lt (se_var 1 rfl (by first | exact .inl rfl | exact .inr (.inl rfl) | exact .inr (.inr rfl))) se_int (by first | rfl | with_unfolding_all rfl)) (sw_or1 (st_cmpG .lt (se_var 2 rfl (by first | exact .inl rfl | exact .inr (.inl rfl) | exact .inr (.inr rfl))) se_int (by first | rfl | with_unfolding_all rfl))))) (sss_one (ss_raiseX (x_NumberError KX G c) rm.calm (by rfl))) sss_nil)
    (sss_cons (ss_par2 rm.calm rm.nd rfl rfl (by decide) rfl rfl (sao_cons (se_mod se_int (se_var 2 rfl (by first | exact .inl rfl | exact .inr (.inl rfl) | exact .inr (.inr rfl)))) (sao_cons (se_mod (se_var 0 rfl (by first | exact .inl rfl | exact .inr (.inl rfl) | exact .inr (.inr rfl))) (se_var 2 rfl (by first | exact .inl rfl | exact .inr (.inl rfl) | exact .inr (.inr rfl)))) sao_nil)))
    (sss_cons (ss_while hp (st_cmpG .gt (se_var 1 rfl (by first | exact .inl rfl | exact .inr (.inl rfl) | exact .inr (.inr rfl))) se_int (by first | rfl | with_unfolding_all rfl)) (sss_cons (ss_if (st_cmpG (.eq rm.u64) (se_mod (se_var 1 rfl (by first | exact .inl rfl | exact .inr (.inl rfl) | exact .inr (.inr rfl))) se_int) se_int (by first | rfl | with_unfolding_all rfl)) (sss_one (ss_set rm.nd rfl (by first | exact .inl rfl | exact .inr rfl) (se_mod (se_mul (se_var 3 rfl (by first | exact .inl rfl | exact .inr (.inl rfl) | exact .inr (.inr rfl))) (se_var 0 rfl (by first | exact .inl rfl | exact .inr (.inl rfl) | exact .inr (.inr rfl)))) (se_var 2 rfl (by first | exact .inl rfl | exact .inr (.inl rfl) | exact .inr (.inr rfl)))))) sss_nil)
      (sss_cons (ss_set rm.nd rfl (by first | exact .inl rfl | exact .inr rfl) (se_mod (se_mul (se_var 0 rfl (by first | exact .inl rfl | exact .inr (.inl rfl) | exact .inr (.inr rfl))) (se_var 0 rfl (by first | exact .inl rfl | exact .inr (.inl rfl) | exact .inr (.inr rfl)))) (se_var 2 rfl (by first | exact .inl rfl | exact .inr (.inl rfl) | exact .inr (.inr rfl)))))
      (sss_one (ss_augDiv rm.nd rfl (by first | exact .inl rfl | exact .inr rfl) se_int)))))
    (sss_one (ss_ret (se_var 3 rfl (by first | exact .inl rfl | exact .inr (.inl rfl) | exact .inr (.inr rfl))))))))
theorem cal__law_prime (KX : K.In base) (G : base.Ns mainGlobals mg) (c : He.SaysD fa fn K) (tb : Tbs K mg base) : Cal P w K mg base "_law_prime" 1 1 F__law_prime := by
  obtain ⟨fd, hFd⟩ := (c.def_ 17 (d := d__law_prime) rfl)
  exact cal_of (st := s__law_prime) (N := N__law_prime) (ps := P__law_prime) (k := 0) (body := b__law_prime) hFd (He.glo_ok KX G (c.fact 17 (f := .glo "_law_prime") rfl)) sc__law_prime (by decide) (fun _ _ _ _ _ _ us hl => match us, hl with | [_], _ => rfl) fun cdv A outer s H E rm hp =>
    (sss_one (ss_ret (se_and (se_cmpG .gt (se_var 0 rfl (by first | exact .inl rfl | exact .inr (.inl rfl) | exact .inr (.inr rfl))) se_int (by first | rfl | with_unfolding_all rfl)) (se_one (se_cmpG (.eq rm.u64) (se_lc (own := [("k", 1)]) rm.calm rm.nd (si_rng2 (by rfl) (m_range KX G c) se_int (se_var 0 rfl (by first | exact .inl rfl | exact .inr (.inl rfl) | exact .inr (.inr rfl)))) (blkOk_by (by kernel_rfl)) (fun s1 H1 C1 cl1 fp1 => (sgw_name (rm.blk).nd rfl (by first | exact .inl rfl | exact .inr rfl) (by decide))) (fun s1 H1 C1 cl1 fp1 => sts_one (SW.st (sw_and (st_cmpG .le (se_mul (se_var 1 rfl (by first | exact .inl rfl | exact .inr (.inl rfl) | exact .inr (.inr rfl))) (se_var 1 rfl (by first | exact .inl rfl | exact .inr (.inl rfl) | exact .inr (.inr rfl)))) (se_var 0 rfl (by first | exact .inl rfl | exact .inr (.inl rfl) | exact .inr (.inr rfl))) (by first | rfl | with_unfolding_all rfl)) (sw_and1 (st_cmpG (.eq (rm.blk).u64) (se_mul (se_div (se_var 0 rfl (by first | exact .inl rfl | exact .inr (.inl rfl) | exact .inr (.inr rfl))) (se_var 1 rfl (by first | exact .inl rfl | exact .inr (.inl rfl) | exact .inr (.inr rfl)))) (se_var 1 rfl (by first | exact .inl rfl | exact .inr (.inl rfl) | exact .inr (.inr rfl)))) (se_var 0 rfl (by first | exact .inl rfl | exact .inr (.inl rfl) | exact .inr (.inr rfl))) (by first | rfl | with_unfolding_all rfl)))))) (fun s1 H1 C1 cl1 fp1 => (se_var 1 rfl (by first | exact .inl rfl | exact .inr (.inl rfl) | exact .inr (.inr rfl))))) (se_lst sa_nil) (by first | rfl | with_unfolding_all rfl))))))
theorem cal_divisors (KX : K.In base) (G : base.Ns mainGlobals mg) (c : He.SaysD fa fn K) (tb : Tbs K mg base) : Cal P w K mg base "divisors" 2 1 F_divisors := by
  obtain ⟨fd, hFd⟩ := (c.def_ 18 (d := d_divisors) rfl)
  exact cal_of (st := s_divisors) (N := N_divisors) (ps := P_divisors) (k := 1) (body := b_divisors) hFd (He.glo_ok KX G (c.fact 18 (f := .glo "divisors") rfl)) sc_divisors (by decide) (fun _ _ _ _ _ _ us hl => match us, hl with | [_], _ => rfl) fun cdv A outer s H E rm hp =>
    (sss_cons (g := (sSet 1 (eLst (aCons (eC (.int 1)) aNil)))) (ss_set rm.nd rfl (by first | exact .inl rfl | exact .inr rfl) (se_lst (sa_cons se_int sa_nil)))
    (sss_cons (ss_for hp rm.calm (si_seq (se_unl (se_callC (cal_prime_factors KX G c tb) rm (by decide) (by rfl) (sa_cons (se_var 0 rfl (by first | exact .inl rfl | exact .inr (.inl rfl) | exact .inr (.inr rfl))) sa_nil)))) (sg_tup rm.calm (sgs_cons (sg_name rm.nd rfl (by first | exact .inl rfl | exact .inr rfl)) (sgs_cons (sg_name rm.nd rfl (by first | exact .inl rfl | exact .inr rfl)) sgs_nil))) (sss_one (ss_setLc2 (own := [("one", 4), ("step", 5)]) (vs1 := [5]) rm.calm rm.nd rfl rfl rfl rfl rfl (si_seq (se_var 1 rfl (by first | exact .inl rfl | exact .inr (.inl rfl) | exact .inr (.inr rfl)))) (blkOk_by (by kernel_rfl)) (by decide) (fun s1 H1 C1 cl1 fp1 => (sgw_name (rm.blk).nd rfl (by first | exact .inl rfl | exact .inr rfl) (by decide))) (fun s1 H1 C1 cl1 fp1 => sts_nil) (fun s1 H1 C1 cl1 fp1 => (si_rng1 (by rfl) (m_range KX G c) (se_add (se_var 3 rfl (by first | exact .inl rfl | exact .inr (.inl rfl) | exact .inr (.inr rfl))) se_int))) (fun s1 H1 C1 cl1 fp1 => (sgw_name (rm.blk).nd rfl (by first | exact .inl rfl | exact .inr rfl) (by decide))) (fun s1 H1 C1 cl1 fp1 => sts_nil) (fun s1 H1 C1 cl1 fp1 => (se_mul (se_var 4 rfl (by first | exact .inl rfl | exact .inr (.inl rfl) | exact .inr (.inr rfl))) (se_callC (cal_power KX G c tb) (rm.blk) (by decide) (by rfl) (sa_cons (se_var 2 rfl (by first | exact .inl rfl | exact .inr (.inl rfl) | exact .inr (.inr rfl))) (sa_cons (se_var 5 rfl (by first | exact .inl rfl | exact .inr (.inl rfl) | exact .inr (.inr rfl))) sa_nil))))))))
    (sss_one (ss_ret (se_tuplec (by rfl) (m_tuple KX G c) (se_sort rm (by rfl) (m_sorted KX G c) (se_var 1 rfl (by first | exact .inl rfl | exact .inr (.inl rfl) | exact .inr (.inr rfl)))))))))
theorem cal_rational (KX : K.In base) (G : base.Ns mainGlobals mg) (c : He.SaysD fa fn K) (tb : Tbs K mg base) : Cal P w K mg base "rational" 2 2 F_rational := by
  obtain ⟨fd, hFd⟩ := (c.def_ 19 (d := d_rational) rfl)
  exact cal_ofDf (st := s_rational) (N := N_rational) (ps := P_rational) (k := 1) (body := b_rational) (dvs := [.int 1]) hFd (He.glo_ok KX G (c.fact 19 (f := .glo "rational") rfl)) sc_rational (by decide) (by simp) (fun _ _ _ _ _ _ _ us its hl hl2 => match us, its, hl, hl2 with | [_, _], [_], _, _ => ⟨_, rfl, rfl⟩) fun cdv A outer s H E rm hp =>
    (sss_cons (ss_if (st_cmpG (.eq rm.u64) (se_var 1 rfl (by first | exact .inl rfl | exact .inr (.inl rfl) | exact .inr (.inr rfl))) se_int (by first | rfl | with_unfolding_all rfl)) (sss_one (ss_raiseX (x_NumberError KX G c) rm.calm (by rfl))) sss_nil)
    (sss_cons (ss_set rm.nd rfl (by first | exact .inl rfl | exact .inr rfl) (se_callC (cal_common_divisor KX G c tb) rm (by decide) (by rfl) (sa_cons (se_var 0 rfl (by first | exact .inl rfl | exact .inr (.inl rfl) | exact .inr (.inr rfl))) (sa_cons (se_var 1 rfl (by first | exact .inl rfl | exact .inr (.inl rfl) | exact .inr (.inr rfl))) sa_nil))))
    (sss_cons (ss_if (st_cmpG .lt (se_var 1 rfl (by first | exact .inl rfl | exact .inr (.inl rfl) | exact .inr (.inr rfl))) se_int (by first | rfl | with_unfolding_all rfl)) (sss_one (ss_set rm.nd rfl (by first | exact .inl rfl | exact .inr rfl) (se_sub se_int (se_var 2 rfl (by first | exact .inl rfl | exact .inr (.inl rfl) | exact .inr (.inr rfl)))))) sss_nil)
    (sss_one (ss_ret (se_tup (sa_cons (se_div (se_var 0 rfl (by first | exact .inl rfl | exact .inr (.inl rfl) | exact .inr (.inr rfl))) (se_var 2 rfl (by first | exact .inl rfl | exact .inr (.inl rfl) | exact .inr (.inr rfl)))) (sa_cons (se_div (se_var 1 rfl (by first | exact .inl rfl | exact .inr (.inl rfl) | exact .inr (.inr rfl))) (se_var 2 rfl (by first | exact .inl rfl | exact .inr (.inl rfl) | exact .inr (.inr rfl)))) sa_nil))))))))
theorem cal_sum_of (KX : K.In base) (G : base.Ns mainGlobals mg) (c : He.SaysD fa fn K) (tb : Tbs K mg base) : Cal P w K mg base "sum_of" 3 2 F_sum_of := by
  obtain ⟨fd, hFd⟩ := (c.def_ 20 (d := d_sum_of) rfl)
  exact cal_of (st := s_sum_of) (N := N_sum_of) (ps := P_sum_of) (k := 2) (body := b_sum_of) hFd (He.glo_ok KX G (c.fact 20 (f := .glo "sum_of") rfl)) sc_sum_of (by decide) (fun _ _ _ _ _ _ us hl => match us, hl with | [_, _], _ => rfl) fun cdv A outer s H E rm hp =>
    (sss_one (ss_ret (se_callC (cal_rational KX G c tb) rm (by decide) (by rfl) (sa_cons (se_add (se_mul (se_ix (se_var 0 rfl (by first | exact .inl rfl | exact .inr (.inl rfl) | exact .inr (.inr rfl))) se_int) (se_ix (se_var 1 rfl (by first | exact .inl rfl | exact .inr (.inl rfl) | exact .inr (.inr rfl))) se_int)) (se_mul (se_ix (se_var 1 rfl (by first | exact .inl rfl | exact .inr (.inl rfl) | exact .inr (.inr rfl))) se_int) (se_ix (se_var 0 rfl (by first | exact .inl rfl | exact .inr (.inl rfl) | exact .inr (.inr rfl))) se_int))) (sa_cons (se_mul (se_ix (se_var 0 rfl (by first | exact .inl rfl | exact .inr (.inl rfl) | exact .inr (.inr rfl))) se_int) (se_ix (se_var 1 rfl (by first | exact .inl rfl | exact .inr (.inl rfl) | exact .inr (.inr rfl))) se_int)) sa_nil)))))
theorem cal__law_plus (KX : K.In base) (G : base.Ns mainGlobals mg) (c : He.SaysD fa fn K) (tb : Tbs K mg base) : Cal P w K mg base "_law_plus" 3 2 F__law_plus := by
  obtain ⟨fd, hFd⟩ := (c.def_ 21 (d := d__law_plus) rfl)
  exact cal_of (st := s__law_plus) (N := N__law_plus) (ps := P__law_plus) (k := 2) (body := b__law_plus) hFd (He.glo_ok KX G (c.fact 21 (f := .glo "_law_plus") rfl)) sc__law_plus (by decide) (fun _ _ _ _ _ _ us hl => match us, hl with | [_, _], _ => rfl) fun cdv A outer s H E rm hp =>
    (sss_one (ss_ret (se_callC (cal__law_frac KX G c tb) rm (by decide) (by rfl) (sa_cons (se_add (se_mul (se_ix (se_var 0 rfl (by first | exact .inl rfl | exact .inr (.inl rfl) | exact .inr (.inr rfl))) se_int) (se_ix (se_var 1 rfl (by first | exact .inl rfl | exact .inr (.inl rfl) | exact .inr (.inr rfl))) se_int)) (se_mul (se_ix (se_var 1 rfl (by first | exact .inl rfl | exact .inr (.inl rfl) | exact .inr (.inr rfl))) se_int) (se_ix (se_var 0 rfl (by first | exact .inl rfl | exact .inr (.inl rfl) | exact .inr (.inr rfl))) se_int))) (sa_cons (se_mul (se_ix (se_var 0 rfl (by first | exact .inl rfl | exact .inr (.inl rfl) | exact .inr (.inr rfl))) se_int) (se_ix (se_var 1 rfl (by first | exact .inl rfl | exact .inr (.inl rfl) | exact .inr (.inr rfl))) se_int)) sa_nil)))))
theorem cal_product_of (KX : K.In base) (G : base.Ns mainGlobals mg) (c : He.SaysD fa fn K) (tb : Tbs K mg base) : Cal P w K mg base "product_of" 3 2 F_product_of := by
  obtain ⟨fd, hFd⟩ := (c.def_ 22 (d := d_product_of) rfl)
  exact cal_of (st := s_product_of) (N := N_product_of) (ps := P_product_of) (k := 2) (body := b_product_of) hFd (He.glo_ok KX G (c.fact 22 (f := .glo "product_of") rfl)) sc_product_of (by decide) (fun _ _ _ _ _ _ us hl => match us, hl with | [_, _], _ => rfl) fun cdv A outer s H E rm hp =>
    (sss_one (ss_ret (se_callC (cal_rational KX G c tb) rm (by decide) (by rfl) (sa_cons (se_mul (se_ix (se_var 0 rfl (by first | exact .inl rfl | exact .inr (.inl rfl) | exact .inr (.inr rfl))) se_int) (se_ix (se_var 1 rfl (by first | exact .inl rfl | exact .inr (.inl rfl) | exact .inr (.inr rfl))) se_int)) (sa_cons (se_mul (se_ix (se_var 0 rfl (by first | exact .inl rfl | exact .inr (.inl rfl) | exact .inr (.inr rfl))) se_int) (se_ix (se_var 1 rfl (by first | exact .inl rfl | exact .inr (.inl rfl) | exact .inr (.inr rfl))) se_int)) sa_nil)))))
theorem cal_difference_of (KX : K.In base) (G : base.Ns mainGlobals mg) (c : He.SaysD fa fn K) (tb : Tbs K mg base) : Cal P w K mg base "difference_of" 3 2 F_difference_of := by
  obtain ⟨fd, hFd⟩ := (c.def_ 23 (d := d_difference_of) rfl)
  exact cal_of (st := s_difference_of) (N := N_difference_of) (ps := P_difference_of) (k := 2) (body := b_difference_of) hFd (He.glo_ok KX G (c.fact 23 (f := .glo "difference_of") rfl)) sc_difference_of (by decide) (fun _ _ _ _ _ _ us hl => match us, hl with | [_, _], _ => rfl) fun cdv A outer s H E rm hp =>
    (sss_one (ss_ret (se_callC (cal_rational KX G c tb) rm (by decide) (by rfl) (sa_cons (se_sub (se_mul (se_ix (se_var 0 rfl (by first | exact .inl rfl | exact .inr (.inl rfl) | exact .inr (.inr rfl))) se_int) (se_ix (se_var 1 rfl (by first | exact .inl rfl | exact .inr (.inl rfl) | exact .inr (.inr rfl))) se_int)) (se_mul (se_ix (se_var 1 rfl (by first | exact .inl rfl | exact .inr (.inl rfl) | exact .inr (.inr rfl))) se_int) (se_ix (se_var 0 rfl (by first | exact .inl rfl | exact .inr (.inl rfl) | exact .inr (.inr rfl))) se_int))) (sa_cons (se_mul (se_ix (se_var 0 rfl (by first | exact .inl rfl | exact .inr (.inl rfl) | exact .inr (.inr rfl))) se_int) (se_ix (se_var 1 rfl (by first | exact .inl rfl | exact .inr (.inl rfl) | exact .inr (.inr rfl))) se_int)) sa_nil)))))
theorem cal_sign (KX : K.In base) (G : base.Ns mainGlobals mg) (c : He.SaysD fa fn K) (tb : Tbs K mg base) : Cal P w K mg base "sign" 1 1 F_sign := by
  obtain ⟨fd, hFd⟩ := (c.def_ 24 (d := d_sign) rfl)
  exact cal_of (st := s_sign) (N := N_sign) (ps := P_sign) (k := 0) (body := b_sign) hFd (He.glo_ok KX G (c.fact 24 (f := .glo "sign") rfl)) sc_sign (by decide) (fun _ _ _ _ _ _ us hl => match us, hl with | [_], _ => rfl) fun cdv A outer s H E rm hp =>
    (sss_one (ss_ret (se_sub (se_cmpG .gt (se_ix (se_var 0 rfl (by first | exact .inl rfl | exact .inr (.inl rfl) | exact .inr (.inr rfl))) se_int) se_int (by first | rfl | with_unfolding_all rfl)) (se_cmpG .lt (se_ix (se_var 0 rfl (by first | exact .inl rfl | exact .inr (.inl rfl) | exact .inr (.inr rfl))) se_int) se_int (by first | rfl | with_unfolding_all rfl)))))
theorem cal_compared (KX : K.In base) (G : base.Ns mainGlobals mg) (c : He.SaysD fa fn K) (tb : Tbs K mg base) : Cal P w K mg base "compared" 4 2 F_compared := by
  obtain ⟨fd, hFd⟩ := (c.def_ 25 (d := d_compared) rfl)
  exact cal_of (st := s_compared) (N := N_compared) (ps := P_compared) (k := 3) (body := b_compared) hFd (He.glo_ok KX G (c.fact 25 (f := .glo "compared") rfl)) sc_compared (by decide) (fun _ _ _ _ _ _ us hl => match us, hl with | [_, _], _ => rfl) fun cdv A outer s H E rm hp =>
    (sss_one (ss_ret (se_callC (cal_sign KX G c tb) rm (by decide) (by rfl) (sa_cons (se_callC (cal_difference_of KX G c tb) rm (by decide) (by rfl) (sa_cons (se_var 0 rfl (by first | exact .inl rfl | exact .inr (.inl rfl) | exact .inr (.inr rfl))) (sa_cons (se_var 1 rfl (by first | exact .inl rfl | exact .inr (.inl rfl) | exact .inr (.inr rfl))) sa_nil))) sa_nil))))
theorem cal_check_short (KX : K.In base) (G : base.Ns mainGlobals mg) (c : He.SaysD fa fn K) (tb : Tbs K mg base) : Cal P w K mg base "check_short" 1 1 F_check_short := by
  obtain ⟨fd, hFd⟩ := (c.def_ 26 (d := d_check_short) rfl)
  exact cal_of (st := s_check_short) (N := N_check_short) (ps := P_check_short) (k := 0) (body := b_check_short) hFd (He.glo_ok KX G (c.fact 26 (f := .glo "check_short") rfl)) sc_check_short (by decide) (fun _ _ _ _ _ _ us hl => match us, hl with | [_], _ => rfl) fun cdv A outer s H E rm hp =>
    (sss_one (ss_if (SW.st (sw_or (st_cmpG .ge (se_abs (by rfl) (m_abs KX G c) (se_ix (se_var 0 rfl (by first | exact .inl rfl | exact .inr (.inl rfl) | exact .inr (.inr rfl))) se_int)) (se_gint (k_LARGE KX G c) (by rfl)) (by first | rfl | with_unfolding_all rfl)) (sw_or1 (st_cmpG .ge (se_ix (se_var 0 rfl (by first | exact .inl rfl | exact .inr (.inl rfl) | exact .inr (.inr rfl))) se_int) (se_gint (k_LARGE KX G c) (by rfl)) (by first | rfl | with_unfolding_all rfl))))) (sss_one (ss_raiseX (x_NumberError KX G c) rm.calm (by rfl))) sss_nil))
theorem cal_rational_text (KX : K.In base) (G : base.Ns mainGlobals mg) (c : He.SaysD fa fn K) (tb : Tbs K mg base) : Cal P w K mg base "rational_text" 2 1 F_rational_text := by
  obtain ⟨fd, hFd⟩ := (c.def_ 27 (d := d_rational_text) rfl)
  exact cal_of (st := s_rational_text) (N := N_rational_text) (ps := P_rational_text) (k := 1) (body := b_rational_text) hFd (He.glo_ok KX G (c.fact 27 (f := .glo "rational_text") rfl)) sc_rational_text (by decide) (fun _ _ _ _ _ _ us hl => match us, hl with | [_], _ => rfl) fun cdv A outer s H E rm hp =>
    (sss_cons (ss_expr (se_callC (cal_check_short KX G c tb) rm (by decide) (by rfl) (sa_cons (se_var 0 rfl (by first | exact .inl rfl | exact .inr (.inl rfl) | exact .inr (.inr rfl))) sa_nil)))
    (sss_one (ss_ret (se_if (st_cmpG (.eq rm.u64) (se_ix (se_var 0 rfl (by first | exact .inl rfl | exact .inr (.inl rfl) | exact .inr (.inr rfl))) se_int) se_int (by first | rfl | with_unfolding_all rfl)) (se_strc (by rfl) (m_str KX G c) (se_ix (se_var 0 rfl (by first | exact .inl rfl | exact .inr (.inl rfl) | exact .inr (.inr rfl))) se_int)) (se_joined (sj_cons (se_fmt (se_ix (se_var 0 rfl (by first | exact .inl rfl | exact .inr (.inl rfl) | exact .inr (.inr rfl))) se_int)) (sj_cons se_str (sj_cons (se_fmt (se_ix (se_var 0 rfl (by first | exact .inl rfl | exact .inr (.inl rfl) | exact .inr (.inr rfl))) se_int)) sj_nil))))))))
theorem cal_next_prime (KX : K.In base) (G : base.Ns mainGlobals mg) (c : He.SaysD fa fn K) (tb : Tbs K mg base) : Cal P w K mg base "next_prime" 3 1 F_next_prime := by
  obtain ⟨fd, hFd⟩ := (c.def_ 28 (d := d_next_prime) rfl)
  exact cal_of (st := s_next_prime) (N := N_next_prime) (ps := P_next_prime) (k := 2) (body := b_next_prime) hFd (He.glo_ok KX G (c.fact 28 (f := .glo "next_prime") rfl)) sc_next_prime (by decide) (fun _ _ _ _ _ _ us hl => match us, hl with | [_], _ => rfl) fun cdv A outer s H E rm hp =>
    (sss_cons (ss_set rm.nd rfl (by first | exact .inl rfl | exact .inr rfl) (se_max2 rm (by rfl) (m_max KX G c) se_int (se_var 0 rfl (by first | exact .inl rfl | exact .inr (.inl rfl) | exact .inr (.inr rfl)))))
    (sss_one (ss_while hp (st_val se_bl) (sss_cons (ss_augAdd rm.nd rfl (by first | exact .inl rfl | exact .inr rfl) se_int)
      (sss_one (ss_if (st_val (se_callC (cal_is_prime KX G c tb) rm (by decide) (by rfl) (sa_cons (se_var 0 rfl (by first | exact .inl rfl | exact .inr (.inl rfl) | exact .inr (.inr rfl))) sa_nil))) (sss_one (ss_ret (se_var 0 rfl (by first | exact .inl rfl | exact .inr (.inl rfl) | exact .inr (.inr rfl))))) sss_nil))))))
theorem cal_remainders_joined (KX : K.In base) (G : base.Ns mainGlobals mg) (c : He.SaysD fa fn K) (tb : Tbs K mg base) : Cal P w K mg base "remainders_joined" 3 1 F_remainders_joined := by
  obtain ⟨fd, hFd⟩ := (c.def_ 29 (d := d_remainders_joined) rfl)
  exact cal_of (st := s_remainders_joined) (N := N_remainders_joined) (ps := P_remainders_joined) (k := 2) (body := b_remainders_joined) hFd (He.glo_ok KX G (c.fact 29 (f := .glo "remainders_joined") rfl)) sc_remainders_joined (by decide) (fun _ _ _ _ _ _ us hl => match us, hl with | [_], _ => rfl) fun cdv A outer s H E rm hp =>
    (sss_cons (g := (sPar [1, 2] (aoCons (eC (.int 0)) (aoCons (eC (.int 1)) aoNil)))) (ss_parN rm.calm rm.nd (.cons rfl (by first | exact .inl rfl | exact .inr rfl) (by first | exact .inl rfl | exact .inr rfl) rfl (.cons rfl (by first | exact .inl rfl | exact .inr rfl) (by first | exact .inl rfl | exact .inr rfl) rfl .nil)) (sao_cons se_int (sao_cons se_int sao_nil)))
    (sss_cons (ss_for hp rm.calm (si_seq (se_var 0 rfl (by first | exact .inl rfl | exact .inr (.inl rfl) | exact .inr (.inr rfl)))) (sg_tup rm.calm (sgs_cons (sg_name rm.nd rfl (by first | exact .inl rfl | exact .inr rfl)) (sgs_cons (sg_name rm.nd rfl (by first | exact .inl rfl | exact .inr rfl)) sgs_nil))) (sss_cons (ss_if (st_cmpG .lt (se_var 4 rfl (by first | exact .inl rfl | exact .inr (.inl rfl) | exact .inr (.inr rfl))) se_int (by first | rfl | with_unfolding_all rfl)) (sss_one (ss_raiseX (x_NumberError KX G c) rm.calm (by rfl))) sss_nil)
      (sss_cons (ss_asg (se_callC (cal_bezout KX G c tb) rm (by decide) (by rfl) (sa_cons (se_var 2 rfl (by first | exact .inl rfl | exact .inr (.inl rfl) | exact .inr (.inr rfl))) (sa_cons (se_var 4 rfl (by first | exact .inl rfl | exact .inr (.inl rfl) | exact .inr (.inr rfl))) sa_nil))) (sg_tup rm.calm (sgs_cons (sg_name rm.nd rfl (by first | exact .inl rfl | exact .inr rfl)) (sgs_cons (sg_name rm.nd rfl (by first | exact .inl rfl | exact .inr rfl)) (sgs_cons (sg_name rm.nd rfl (by first | exact .inl rfl | exact .inr rfl)) sgs_nil)))))
      (sss_cons (ss_if (st_cmpG (.ne rm.u64) (se_mod (se_sub (se_var 3 rfl (by first | exact .inl rfl | exact .inr (.inl rfl) | exact .inr (.inr rfl))) (se_var 1 rfl (by first | exact .inl rfl | exact .inr (.inl rfl) | exact .inr (.inr rfl)))) (se_var 5 rfl (by first | exact .inl rfl | exact .inr (.inl rfl) | exact .inr (.inr rfl)))) se_int (by first | rfl | with_unfolding_all rfl)) (sss_one (ss_raiseX (x_NumberError KX G c) rm.calm (by rfl))) sss_nil)
      (sss_cons (ss_augAdd rm.nd rfl (by first | exact .inl rfl | exact .inr rfl) (se_mul (se_var 2 rfl (by first | exact .inl rfl | exact .inr (.inl rfl) | exact .inr (.inr rfl))) (se_mod (se_mul (se_div (se_sub (se_var 3 rfl (by first | exact .inl rfl | exact .inr (.inl rfl) | exact .inr (.inr rfl))) (se_var 1 rfl (by first | exact .inl rfl | exact .inr (.inl rfl) | exact .inr (.inr rfl)))) (se_var 5 rfl (by first | exact .inl rfl | exact .inr (.inl rfl) | exact .inr (.inr rfl)))) (se_var 6 rfl (by first | exact .inl rfl | exact .inr (.inl rfl) | exact .inr (.inr rfl)))) (se_div (se_var 4 rfl (by first | exact .inl rfl | exact .inr (.inl rfl) | exact .inr (.inr rfl))) (se_var 5 rfl (by first | exact .inl rfl | exact .inr (.inl rfl) | exact .inr (.inr rfl)))))))
      (sss_cons (ss_set rm.nd rfl (by first | exact .inl rfl | exact .inr rfl) (se_mul (se_div (se_var 2 rfl (by first | exact .inl rfl | exact .inr (.inl rfl) | exact .inr (.inr rfl))) (se_var 5 rfl (by first | exact .inl rfl | exact .inr (.inl rfl) | exact .inr (.inr rfl)))) (se_var 4 rfl (by first | exact .inl rfl | exact .inr (.inl rfl) | exact .inr (.inr rfl)))))
      (sss_one (ss_augMod rm.nd rfl (by first | exact .inl rfl | exact .inr rfl) (se_var 2 rfl (by first | exact .inl rfl | exact .inr (.inl rfl) | exact .inr (.inr rfl)))))))))))
    (sss_one (ss_ret (se_tup (sa_cons (se_var 1 rfl (by first | exact .inl rfl | exact .inr (.inl rfl) | exact .inr (.inr rfl))) (sa_cons (se_var 2 rfl (by first | exact .inl rfl | exact .inr (.inl rfl) | exact .inr (.inr rfl))) sa_nil)))))))
theorem cal_quotient_of (KX : K.In base) (G : base.Ns mainGlobals mg) (c : He.SaysD fa fn K) (tb : Tbs K mg base) : Cal P w K mg base "quotient_of" 3 2 F_quotient_of := by
  obtain ⟨fd, hFd⟩ := (c.def_ 30 (d := d_quotient_of) rfl)
  exact cal_of (st := s_quotient_of) (N := N_quotient_of) (ps := P_quotient_of) (k := 2) (body := b_quotient_of) hFd (He.glo_ok KX G (c.fact 30 (f := .glo "quotient_of") rfl)) sc_quotient_of (by decide) (fun _ _ _ _ _ _ us hl => match us, hl with | [_, _], _ => rfl) fun cdv A outer s H E rm hp =>
    (sss_one (ss_ret (se_callC (cal_rational KX G c tb) rm (by decide) (by rfl) (sa_cons (se_mul (se_ix (se_var 0 rfl (by first | exact .inl rfl | exact .inr (.inl rfl) | exact .inr (.inr rfl))) se_int) (se_ix (se_var 1 rfl (by first | exact .inl rfl | exact .inr (.inl rfl) | exact .inr (.inr rfl))) se_int)) (sa_cons (se_mul (se_ix (se_var 0 rfl (by first | exact .inl rfl | exact .inr (.inl rfl) | exact .inr (.inr rfl))) se_int) (se_ix (se_var 1 rfl (by first | exact .inl rfl | exact .inr (.inl rfl) | exact .inr (.inr rfl))) se_int)) sa_nil)))))
theorem cal_raised (KX : K.In base) (G : base.Ns mainGlobals mg) (c : He.SaysD fa fn K) (tb : Tbs K mg base) : Cal P w K mg base "raised" 4 2 F_raised := by
  obtain ⟨fd, hFd⟩ := (c.def_ 31 (d := d_raised) rfl)
  exact cal_of (st := s_raised) (N := N_raised) (ps := P_raised) (k := 3) (body := b_raised) hFd (He.glo_ok KX G (c.fact 31 (f := .glo "raised") rfl)) sc_raised (by decide) (fun _ _ _ _ _ _ us hl => match us, hl with | [_, _], _ => rfl) fun cdv A outer s H E rm hp =>
    (sss_cons (g := (sSet 2 (eC (.tup [.int 1, .int 1])))) (ss_set rm.nd rfl (by first | exact .inl rfl | exact .inr rfl) (se_gtup (is := [1, 1]) (He.glo_ok KX G (c.fact 35 (f := .glo "ONE") rfl)) tb.k_ONE (by rfl)))
    (sss_cons (ss_for hp rm.calm (si_rng1 (by rfl) (m_range KX G c) (se_abs (by rfl) (m_abs KX G c) (se_var 1 rfl (by first | exact .inl rfl | exact .inr (.inl rfl) | exact .inr (.inr rfl))))) (sg_name rm.nd rfl (by first | exact .inl rfl | exact .inr rfl)) (sss_cons (ss_set rm.nd rfl (by first | exact .inl rfl | exact .inr rfl) (se_callC (cal_product_of KX G c tb) rm (by decide) (by rfl) (sa_cons (se_var 2 rfl (by first | exact .inl rfl | exact .inr (.inl rfl) | exact .inr (.inr rfl))) (sa_cons (se_var 0 rfl (by first | exact .inl rfl | exact .inr (.inl rfl) | exact .inr (.inr rfl))) sa_nil))))
      (sss_one (ss_expr (se_callC (cal_check_short KX G c tb) rm (by decide) (by rfl) (sa_cons (se_var 2 rfl (by first | exact .inl rfl | exact .inr (.inl rfl) | exact .inr (.inr rfl))) sa_nil))))))
    (sss_one (ss_ret (se_if (st_cmpG .ge (se_var 1 rfl (by first | exact .inl rfl | exact .inr (.inl rfl) | exact .inr (.inr rfl))) se_int (by first | rfl | with_unfolding_all rfl)) (se_var 2 rfl (by first | exact .inl rfl | exact .inr (.inl rfl) | exact .inr (.inr rfl))) (se_callC (cal_quotient_of KX G c tb) rm (by decide) (by rfl) (sa_cons (se_gtup (is := [1, 1]) (He.glo_ok KX G (c.fact 35 (f := .glo "ONE") rfl)) tb.k_ONE (by rfl)) (sa_cons (se_var 2 rfl (by first | exact .inl rfl | exact .inr (.inl rfl) | exact .inr (.inr rfl))) sa_nil))))))))
theorem cal__law_long (KX : K.In base) (G : base.Ns mainGlobals mg) (c : He.SaysD fa fn K) (tb : Tbs K mg base) : ∀ n : Nat, Cal P w K mg base "_law_long" (1 + n) 2 (F__law_long n)
  | 0 => by
    obtain ⟨fd, hFd⟩ := (c.def_ 32 (d := d__law_long) rfl)
    exact cal_stuck (st := s__law_long) (ps := P__law_long) hFd (He.glo_ok KX G (c.fact 32 (f := .glo "_law_long") rfl)) (fun _ _ _ _ _ _ us hl => match us, hl with | [_, _], _ => rfl)
  | n + 1 => by
    obtain ⟨fd, hFd⟩ := (c.def_ 32 (d := d__law_long) rfl)
    have hF := cal__law_long KX G c tb n
    have hk : 1 + n ≤ 1 + n := Nat.le_refl _
    exact cal_of (st := s__law_long) (N := N__law_long) (ps := P__law_long) (k := 1 + n) (body := b__law_long (F__law_long n)) hFd (He.glo_ok KX G (c.fact 32 (f := .glo "_law_long") rfl)) sc__law_long (by decide) (fun _ _ _ _ _ _ us hl => match us, hl with | [_, _], _ => rfl) fun cdv A outer s H E rm hp =>
    (sss_cons (ss_if (st_cmpG .le (se_var 1 rfl (by first | exact .inl rfl | exact .inr (.inl rfl) | exact .inr (.inr rfl))) (se_pow se_int se_int) (by first | rfl | with_unfolding_all rfl)) (sss_one (ss_ret (se_callC (cal__law_roll KX G c tb 1) rm (by omega) (by rfl) (sa_cons (se_var 0 rfl (by first | exact .inl rfl | exact .inr (.inl rfl) | exact .inr (.inr rfl))) (sa_cons (se_var 1 rfl (by first | exact .inl rfl | exact .inr (.inl rfl) | exact .inr (.inr rfl))) sa_nil))))) sss_nil)
    (sss_one (ss_ret (se_add (se_mul (se_callC hF rm hk (by rfl) (sa_cons (se_var 0 rfl (by first | exact .inl rfl | exact .inr (.inl rfl) | exact .inr (.inr rfl))) (sa_cons (se_div (se_var 1 rfl (by first | exact .inl rfl | exact .inr (.inl rfl) | exact .inr (.inr rfl))) (se_pow se_int se_int)) sa_nil))) (se_pow se_int se_int)) (se_callC (cal__law_roll KX G c tb 1) rm (by omega) (by rfl) (sa_cons (se_var 0 rfl (by first | exact .inl rfl | exact .inr (.inl rfl) | exact .inr (.inr rfl))) (sa_cons (se_pow se_int se_int) sa_nil)))))))
def lamL : Nat → LD
  | _ => lamLD lamQ_law (.List [] ⟨0, 0, 0, 0⟩)
theorem bd_law {fd : FuncData} (hFd : FunD K "law" "law" (defArgs s_law) (defBody s_law) (defScope s_law) [] [] (He.fAd K ("law", none)) fd) : ∀ (s : Shared) (v : Value), BindsTo s fd ⟨[v], []⟩ [("script", v)] := fun s v => (FunD.bindsA (ps := P_law) hFd (fun _ _ _ _ _ _ us hl => match us, hl with | [_], _ => rfl)) s [v] rfl
theorem ok_law {fd : FuncData} (KX : K.In base) (G : base.Ns mainGlobals mg) (c : He.SaysD fa fn K) (tb : Tbs K mg base) (hFd : FunD K "law" "law" (defArgs s_law) (defBody s_law) (defScope s_law) [] [] (He.fAd K ("law", none)) fd) (hL : ∀ i, Tb.L i = lamL i) :
    FnOk P w K mg base (L2.CX P w) 10 (He.fAd K ("law", none)) fd P_law (spF ⟨K, mg, Tb.T, Tb.L⟩ 1 F_law) := by
  obtain ⟨T0⟩ := told0 KX G c
  have TB := tb.b_law
  have hT := tb.t_law
  exact cal_ofC (st := s_law) (N := N_law) (ps := P_law) (k := 9) (body := b_law) (p := ("law", none)) hFd (He.glo_ok KX G (c.fact 33 (f := .glo "law") rfl)) sc_law (by decide) (fun _ _ _ _ _ _ us hl => match us, hl with | [_], _ => rfl) fun cdv A outer s H E hcode rm hp =>
    (sss_cons (ss_for hp rm.calm (si_seq (se_callC (cal__law_rounds KX G c tb) rm (by decide) (by rfl) (sa_cons (se_var 0 rfl (by first | exact .inl rfl | exact .inr (.inl rfl) | exact .inr (.inr rfl))) (sa_cons se_int sa_nil)))) (sg_name rm.nd rfl (by first | exact .inl rfl | exact .inr rfl)) (sss_cons (g := (sSet 2 (eLst (aCons (eC (.int 12)) (aCons (eC (.int 1000)) (aCons (eBin opPow (eC (.int 10)) (eC (.int 20))) (aCons (eBin opPow (eC (.int 10)) (eC (.int 40))) aNil))))))) (ss_set rm.nd rfl (by first | exact .inl rfl | exact .inr rfl) (se_lst (sa_cons se_int (sa_cons se_int (sa_cons (se_pow se_int se_int) (sa_cons (se_pow se_int se_int) sa_nil))))))
      (sss_cons (ss_asg (se_lc (own := [("k", 30)]) rm.calm rm.nd (si_rng1 (by rfl) (m_range KX G c) se_int) (blkOk_by (by kernel_rfl)) (fun s1 H1 C1 cl1 fp1 => (sgw_name (rm.blk).nd rfl (by first | exact .inl rfl | exact .inr rfl) (by decide))) (fun s1 H1 C1 cl1 fp1 => sts_nil) (fun s1 H1 C1 cl1 fp1 => (se_mul (se_mul (se_add (se_callC (cal__law_long KX G c tb 8) (rm.blk) (by decide) (by rfl) (sa_cons (se_var 1 rfl (by first | exact .inl rfl | exact .inr (.inl rfl) | exact .inr (.inr rfl))) (sa_cons (se_ix (se_var 2 rfl (by first | exact .inl rfl | exact .inr (.inl rfl) | exact .inr (.inr rfl))) (se_callC (cal__law_roll KX G c tb 1) (rm.blk) (by decide) (by rfl) (sa_cons (se_var 1 rfl (by first | exact .inl rfl | exact .inr (.inl rfl) | exact .inr (.inr rfl))) (sa_cons se_int sa_nil)))) sa_nil))) se_int) (se_ix (se_lst (sa_cons se_int (sa_cons (se_neg se_int) sa_nil))) (se_callC (cal__law_roll KX G c tb 1) (rm.blk) (by decide) (by rfl) (sa_cons (se_var 1 rfl (by first | exact .inl rfl | exact .inr (.inl rfl) | exact .inr (.inr rfl))) (sa_cons se_int sa_nil))))) (se_intc (by rfl) (m_int KX G c) (se_cmpG .gt (se_callC (cal__law_roll KX G c tb 1) (rm.blk) (by decide) (by rfl) (sa_cons (se_var 1 rfl (by first | exact .inl rfl | exact .inr (.inl rfl) | exact .inr (.inr rfl))) (sa_cons se_int sa_nil))) se_int (by first | rfl | with_unfolding_all rfl)))))) (sg_lst rm.calm (sgs_cons (sg_name rm.nd rfl (by first | exact .inl rfl | exact .inr rfl)) (sgs_cons (sg_name rm.nd rfl (by first | exact .inl rfl | exact .inr rfl)) sgs_nil))))
      (sss_cons (ss_asg (se_callC (cal_bezout KX G c tb) rm (by decide) (by rfl) (sa_cons (se_var 3 rfl (by first | exact .inl rfl | exact .inr (.inl rfl) | exact .inr (.inr rfl))) (sa_cons (se_var 4 rfl (by first | exact .inl rfl | exact .inr (.inl rfl) | exact .inr (.inr rfl))) sa_nil))) (sg_tup rm.calm (sgs_cons (sg_name rm.nd rfl (by first | exact .inl rfl | exact .inr rfl)) (sgs_cons (sg_name rm.nd rfl (by first | exact .inl rfl | exact .inr rfl)) (sgs_cons (sg_name rm.nd rfl (by first | exact .inl rfl | exact .inr rfl)) sgs_nil)))))
      (sss_cons (ss_if (SW.st (sw_or (st_cmpG (.ne rm.u64) (se_var 5 rfl (by first | exact .inl rfl | exact .inr (.inl rfl) | exact .inr (.inr rfl))) (se_callC (cal__law_gcd KX G c tb) rm (by decide) (by rfl) (sa_cons (se_var 3 rfl (by first | exact .inl rfl | exact .inr (.inl rfl) | exact .inr (.inr rfl))) (sa_cons (se_var 4 rfl (by first | exact .inl rfl | exact .inr (.inl rfl) | exact .inr (.inr rfl))) sa_nil))) (by first | rfl | with_unfolding_all rfl)) (sw_or (st_cmpG (.ne rm.u64) (se_callC (cal_common_divisor KX G c tb) rm (by decide) (by rfl) (sa_cons (se_var 3 rfl (by first | exact .inl rfl | exact .inr (.inl rfl) | exact .inr (.inr rfl))) (sa_cons (se_var 4 rfl (by first | exact .inl rfl | exact .inr (.inl rfl) | exact .inr (.inr rfl))) sa_nil))) (se_var 5 rfl (by first | exact .inl rfl | exact .inr (.inl rfl) | exact .inr (.inr rfl))) (by first | rfl | with_unfolding_all rfl)) (sw_or1 (st_cmpG (.ne rm.u64) (se_add (se_mul (se_var 3 rfl (by first | exact .inl rfl | exact .inr (.inl rfl) | exact .inr (.inr rfl))) (se_var 6 rfl (by first | exact .inl rfl | exact .inr (.inl rfl) | exact .inr (.inr rfl)))) (se_mul (se_var 4 rfl (by first | exact .inl rfl | exact .inr (.inl rfl) | exact .inr (.inr rfl))) (se_var 7 rfl (by first | exact .inl rfl | exact .inr (.inl rfl) | exact .inr (.inr rfl))))) (se_var 5 rfl (by first | exact .inl rfl | exact .inr (.inl rfl) | exact .inr (.inr rfl))) (by first | rfl | with_unfolding_all rfl)))))) (sss_one (ss_ret se_bl)) sss_nil)
      (sss_cons (ss_parN rm.calm rm.nd (.cons rfl (by first | exact .inl rfl | exact .inr rfl) (by first | exact .inl rfl | exact .inr rfl) rfl (.cons rfl (by first | exact .inl rfl | exact .inr rfl) (by first | exact .inl rfl | exact .inr rfl) rfl .nil)) (sao_cons (se_add se_int (se_callC (cal__law_roll KX G c tb 1) rm (by decide) (by rfl) (sa_cons (se_var 1 rfl (by first | exact .inl rfl | exact .inr (.inl rfl) | exact .inr (.inr rfl))) (sa_cons se_int sa_nil)))) (sao_cons (se_callC (cal__law_roll KX G c tb 1) rm (by decide) (by rfl) (sa_cons (se_var 1 rfl (by first | exact .inl rfl | exact .inr (.inl rfl) | exact .inr (.inr rfl))) (sa_cons se_int sa_nil))) sao_nil)))
      (sss_cons (ss_set rm.nd rfl (by first | exact .inl rfl | exact .inr rfl) (se_told T0 (k := 3) rm (by decide) (by rfl) TB hcode hT (LamX.lamS_by (by kernel_rfl)) (slam rm fun A1 o1 s1 H1 E1 f1 c1 rl1 => (se_callC (cal_inverse KX G c tb) rl1 (by decide) (by rfl) (sa_cons (se_var 3 rfl (by first | exact .inl rfl | exact .inr (.inl rfl) | exact .inr (.inr rfl))) (sa_cons (se_var 8 rfl (by first | exact .inl rfl | exact .inr (.inl rfl) | exact .inr (.inr rfl))) sa_nil))))))
      (sss_cons (ss_if (SW.st (sw_or (st_cmpG (.ne rm.u64) (se_cmpG (.eq rm.u64) (se_var 10 rfl (by first | exact .inl rfl | exact .inr (.inl rfl) | exact .inr (.inr rfl))) se_str (by first | rfl | with_unfolding_all rfl)) (se_cmpG (.ne rm.u64) (se_callC (cal__law_gcd KX G c tb) rm (by decide) (by rfl) (sa_cons (se_var 3 rfl (by first | exact .inl rfl | exact .inr (.inl rfl) | exact .inr (.inr rfl))) (sa_cons (se_var 8 rfl (by first | exact .inl rfl | exact .inr (.inl rfl) | exact .inr (.inr rfl))) sa_nil))) se_int (by first | rfl | with_unfolding_all rfl)) (by first | rfl | with_unfolding_all rfl)) (sw_or1 (SW.st (sw_and (st_cmpG (.ne rm.u64) (se_var 10 rfl (by first | exact .inl rfl | exact .inr (.inl rfl) | exact .inr (.inr rfl))) se_str (by first | rfl | with_unfolding_all rfl)) (sw_and1 (st_cmpG (.ne rm.u64) (se_mod (se_sub (se_mul (se_var 3 rfl (by first | exact .inl rfl | exact .inr (.inl rfl) | exact .inr (.inr rfl))) (se_var 10 rfl (by first | exact .inl rfl | exact .inr (.inl rfl) | exact .inr (.inr rfl)))) se_int) (se_var 8 rfl (by first | exact .inl rfl | exact .inr (.inl rfl) | exact .inr (.inr rfl)))) se_int (by first | rfl | with_unfolding_all rfl)))))))) (sss_one (ss_ret se_bl)) sss_nil)
      (sss_cons (ss_if (SW.st (sw_or (st_cmpG (.ne rm.u64) (se_callC (cal_power KX G c tb) rm (by decide) (by rfl) (sa_cons (se_var 8 rfl (by first | exact .inl rfl | exact .inr (.inl rfl) | exact .inr (.inr rfl))) (sa_cons (se_add (se_var 9 rfl (by first | exact .inl rfl | exact .inr (.inl rfl) | exact .inr (.inr rfl))) se_int) sa_nil))) (se_mul (se_var 8 rfl (by first | exact .inl rfl | exact .inr (.inl rfl) | exact .inr (.inr rfl))) (se_callC (cal_power KX G c tb) rm (by decide) (by rfl) (sa_cons (se_var 8 rfl (by first | exact .inl rfl | exact .inr (.inl rfl) | exact .inr (.inr rfl))) (sa_cons (se_var 9 rfl (by first | exact .inl rfl | exact .inr (.inl rfl) | exact .inr (.inr rfl))) sa_nil)))) (by first | rfl | with_unfolding_all rfl)) (sw_or (st_cmpG (.ne rm.u64) (se_callC (cal_power KX G c tb) rm (by decide) (by rfl) (sa_cons (se_var 8 rfl (by first | exact .inl rfl | exact .inr (.inl rfl) | exact .inr (.inr rfl))) (sa_cons se_int sa_nil))) se_int (by first | rfl | with_unfolding_all rfl)) (sw_or1 (st_cmpG (.ne rm.u64) (se_callC (cal_power_by KX G c tb) rm (by decide) (by rfl) (sa_cons (se_var 3 rfl (by first | exact .inl rfl | exact .inr (.inl rfl) | exact .inr (.inr rfl))) (sa_cons (se_var 9 rfl (by first | exact .inl rfl | exact .inr (.inl rfl) | exact .inr (.inr rfl))) (sa_cons (se_var 8 rfl (by first | exact .inl rfl | exact .inr (.inl rfl) | exact .inr (.inr rfl))) sa_nil)))) (se_mod (se_callC (cal_power KX G c tb) rm (by decide) (by rfl) (sa_cons (se_var 3 rfl (by first | exact .inl rfl | exact .inr (.inl rfl) | exact .inr (.inr rfl))) (sa_cons (se_var 9 rfl (by first | exact .inl rfl | exact .inr (.inl rfl) | exact .inr (.inr rfl))) sa_nil))) (se_var 8 rfl (by first | exact .inl rfl | exact .inr (.inl rfl) | exact .inr (.inr rfl)))) (by first | rfl | with_unfolding_all rfl)))))) (sss_one (ss_ret se_bl)) sss_nil)
      (sss_cons (ss_set rm.nd rfl (by first | exact .inl rfl | exact .inr rfl) (se_add se_int (se_callC (cal__law_roll KX G c tb 1) rm (by decide) (by rfl) (sa_cons (se_var 1 rfl (by first | exact .inl rfl | exact .inr (.inl rfl) | exact .inr (.inr rfl))) (sa_cons se_int sa_nil)))))
      (sss_cons (ss_set rm.nd rfl (by first | exact .inl rfl | exact .inr rfl) (se_callC (cal_prime_factors KX G c tb) rm (by decide) (by rfl) (sa_cons (se_var 11 rfl (by first | exact .inl rfl | exact .inr (.inl rfl) | exact .inr (.inr rfl))) sa_nil)))
      (sss_cons (g := (sSet 13 (eC (.int 1)))) (ss_set rm.nd rfl (by first | exact .inl rfl | exact .inr rfl) se_int)
      (sss_cons (ss_for hp rm.calm (si_seq (se_unl (se_var 12 rfl (by first | exact .inl rfl | exact .inr (.inl rfl) | exact .inr (.inr rfl))))) (sg_tup rm.calm (sgs_cons (sg_name rm.nd rfl (by first | exact .inl rfl | exact .inr rfl)) (sgs_cons (sg_name rm.nd rfl (by first | exact .inl rfl | exact .inr rfl)) sgs_nil))) (sss_one (ss_set rm.nd rfl (by first | exact .inl rfl | exact .inr rfl) (se_mul (se_var 13 rfl (by first | exact .inl rfl | exact .inr (.inl rfl) | exact .inr (.inr rfl))) (se_callC (cal_power KX G c tb) rm (by decide) (by rfl) (sa_cons (se_var 14 rfl (by first | exact .inl rfl | exact .inr (.inl rfl) | exact .inr (.inr rfl))) (sa_cons (se_var 15 rfl (by first | exact .inl rfl | exact .inr (.inl rfl) | exact .inr (.inr rfl))) sa_nil)))))))
      (sss_cons (ss_if (SW.st (sw_or (st_cmpG (.ne rm.u64) (se_var 13 rfl (by first | exact .inl rfl | exact .inr (.inl rfl) | exact .inr (.inr rfl))) (se_var 11 rfl (by first | exact .inl rfl | exact .inr (.inl rfl) | exact .inr (.inr rfl))) (by first | rfl | with_unfolding_all rfl)) (sw_or (st_cmpG (.ne rm.u64) (se_lc (own := [("prime", 14), ("many", 15)]) rm.calm rm.nd (si_seq (se_unl (se_var 12 rfl (by first | exact .inl rfl | exact .inr (.inl rfl) | exact .inr (.inr rfl))))) (blkOk_by (by kernel_rfl)) (fun s1 H1 C1 cl1 fp1 => (sgw_tup (rm.blk).calm (sgws_cons (sgw_name (rm.blk).nd rfl (by first | exact .inl rfl | exact .inr rfl) (by decide)) (sgws_cons (sgw_name (rm.blk).nd rfl (by first | exact .inl rfl | exact .inr rfl) (by decide)) sgws_nil)))) (fun s1 H1 C1 cl1 fp1 => sts_one (SW.st (sw_or (st_not (st_val (se_callC (cal__law_prime KX G c tb) (rm.blk) (by decide) (by rfl) (sa_cons (se_var 14 rfl (by first | exact .inl rfl | exact .inr (.inl rfl) | exact .inr (.inr rfl))) sa_nil)))) (sw_or1 (st_cmpG .lt (se_var 15 rfl (by first | exact .inl rfl | exact .inr (.inl rfl) | exact .inr (.inr rfl))) se_int (by first | rfl | with_unfolding_all rfl)))))) (fun s1 H1 C1 cl1 fp1 => se_int)) (se_lst sa_nil) (by first | rfl | with_unfolding_all rfl)) (sw_or (st_cmpG (.ne rm.u64) (se_listc (by rfl) (m_list KX G c) (se_unl (se_var 12 rfl (by first | exact .inl rfl | exact .inr (.inl rfl) | exact .inr (.inr rfl))))) (se_sort rm (by rfl) (m_sorted KX G c) (se_unl (se_var 12 rfl (by first | exact .inl rfl | exact .inr (.inl rfl) | exact .inr (.inr rfl))))) (by first | rfl | with_unfolding_all rfl)) (sw_or1 (st_cmpG (.ne rm.u64) (se_lenD (by rfl) (m_len KX G c) (se_dictP rm.calm (by rfl) (m_dict KX G c) (se_var 12 rfl (by first | exact .inl rfl | exact .inr (.inl rfl) | exact .inr (.inr rfl))))) (se_len (by rfl) (m_len KX G c) (se_unl (se_var 12 rfl (by first | exact .inl rfl | exact .inr (.inl rfl) | exact .inr (.inr rfl))))) (by first | rfl | with_unfolding_all rfl))))))) (sss_one (ss_ret se_bl)) sss_nil)
      (sss_cons (ss_if (SW.st (sw_or (st_cmpG (.ne rm.u64) (se_callC (cal_is_prime KX G c tb) rm (by decide) (by rfl) (sa_cons (se_var 11 rfl (by first | exact .inl rfl | exact .inr (.inl rfl) | exact .inr (.inr rfl))) sa_nil)) (se_callC (cal__law_prime KX G c tb) rm (by decide) (by rfl) (sa_cons (se_var 11 rfl (by first | exact .inl rfl | exact .inr (.inl rfl) | exact .inr (.inr rfl))) sa_nil)) (by first | rfl | with_unfolding_all rfl)) (sw_or (st_not (st_val (se_callC (cal__law_prime KX G c tb) rm (by decide) (by rfl) (sa_cons (se_callC (cal_next_prime KX G c tb) rm (by decide) (by rfl) (sa_cons (se_var 11 rfl (by first | exact .inl rfl | exact .inr (.inl rfl) | exact .inr (.inr rfl))) sa_nil)) sa_nil)))) (sw_or1 (st_cmpG (.ne rm.u64) (se_lc (own := [("k", 30)]) rm.calm rm.nd (si_rng2 (by rfl) (m_range KX G c) (se_add (se_var 11 rfl (by first | exact .inl rfl | exact .inr (.inl rfl) | exact .inr (.inr rfl))) se_int) (se_callC (cal_next_prime KX G c tb) rm (by decide) (by rfl) (sa_cons (se_var 11 rfl (by first | exact .inl rfl | exact .inr (.inl rfl) | exact .inr (.inr rfl))) sa_nil))) (blkOk_by (by kernel_rfl)) (fun s1 H1 C1 cl1 fp1 => (sgw_name (rm.blk).nd rfl (by first | exact .inl rfl | exact .inr rfl) (by decide))) (fun s1 H1 C1 cl1 fp1 => sts_one (st_val (se_callC (cal__law_prime KX G c tb) (rm.blk) (by decide) (by rfl) (sa_cons (se_var 30 rfl (by first | exact .inl rfl | exact .inr (.inl rfl) | exact .inr (.inr rfl))) sa_nil)))) (fun s1 H1 C1 cl1 fp1 => (se_var 30 rfl (by first | exact .inl rfl | exact .inr (.inl rfl) | exact .inr (.inr rfl))))) (se_lst sa_nil) (by first | rfl | with_unfolding_all rfl)))))) (sss_one (ss_ret se_bl)) sss_nil)
      (sss_cons (ss_if (st_cmpG (.ne rm.u64) (se_listc (by rfl) (m_list KX G c) (se_callC (cal_divisors KX G c tb) rm (by decide) (by rfl) (sa_cons (se_var 11 rfl (by first | exact .inl rfl | exact .inr (.inl rfl) | exact .inr (.inr rfl))) sa_nil))) (se_lc (own := [("k", 30)]) rm.calm rm.nd (si_rng2 (by rfl) (m_range KX G c) se_int (se_add (se_var 11 rfl (by first | exact .inl rfl | exact .inr (.inl rfl) | exact .inr (.inr rfl))) se_int)) (blkOk_by (by kernel_rfl)) (fun s1 H1 C1 cl1 fp1 => (sgw_name (rm.blk).nd rfl (by first | exact .inl rfl | exact .inr rfl) (by decide))) (fun s1 H1 C1 cl1 fp1 => sts_one (st_cmpG (.eq (rm.blk).u64) (se_mul (se_div (se_var 11 rfl (by first | exact .inl rfl | exact .inr (.inl rfl) | exact .inr (.inr rfl))) (se_var 30 rfl (by first | exact .inl rfl | exact .inr (.inl rfl) | exact .inr (.inr rfl)))) (se_var 30 rfl (by first | exact .inl rfl | exact .inr (.inl rfl) | exact .inr (.inr rfl)))) (se_var 11 rfl (by first | exact .inl rfl | exact .inr (.inl rfl) | exact .inr (.inr rfl))) (by first | rfl | with_unfolding_all rfl))) (fun s1 H1 C1 cl1 fp1 => (se_var 30 rfl (by first | exact .inl rfl | exact .inr (.inl rfl) | exact .inr (.inr rfl))))) (by first | rfl | with_unfolding_all rfl)) (sss_one (ss_ret se_bl)) sss_nil)
      (sss_cons (ss_set rm.nd rfl (by first | exact .inl rfl | exact .inr rfl) (se_lc (own := [("k", 30)]) rm.calm rm.nd (si_rng1 (by rfl) (m_range KX G c) (se_callC (cal__law_roll KX G c tb 1) rm (by decide) (by rfl) (sa_cons (se_var 1 rfl (by first | exact .inl rfl | exact .inr (.inl rfl) | exact .inr (.inr rfl))) (sa_cons se_int sa_nil)))) (blkOk_by (by kernel_rfl)) (fun s1 H1 C1 cl1 fp1 => (sgw_name (rm.blk).nd rfl (by first | exact .inl rfl | exact .inr rfl) (by decide))) (fun s1 H1 C1 cl1 fp1 => sts_nil) (fun s1 H1 C1 cl1 fp1 => (se_tup (sa_cons (se_callC (cal__law_roll KX G c tb 1) (rm.blk) (by decide) (by rfl) (sa_cons (se_var 1 rfl (by first | exact .inl rfl | exact .inr (.inl rfl) | exact .inr (.inr rfl))) (sa_cons se_int sa_nil))) (sa_cons (se_add se_int (se_callC (cal__law_roll KX G c tb 1) (rm.blk) (by decide) (by rfl) (sa_cons (se_var 1 rfl (by first | exact .inl rfl | exact .inr (.inl rfl) | exact .inr (.inr rfl))) (sa_cons se_int sa_nil)))) sa_nil))))))
      (sss_cons (g := (sSet 17 (eC (.int 1)))) (ss_set rm.nd rfl (by first | exact .inl rfl | exact .inr rfl) se_int)
      (sss_cons (ss_for hp rm.calm (si_seq (se_var 16 rfl (by first | exact .inl rfl | exact .inr (.inl rfl) | exact .inr (.inr rfl)))) (sg_tup rm.calm (sgs_cons (sg_name rm.nd rfl (by first | exact .inl rfl | exact .inr rfl)) (sgs_cons (sg_name rm.nd rfl (by first | exact .inl rfl | exact .inr rfl)) sgs_nil))) (sss_one (ss_set rm.nd rfl (by first | exact .inl rfl | exact .inr rfl) (se_mul (se_div (se_var 17 rfl (by first | exact .inl rfl | exact .inr (.inl rfl) | exact .inr (.inr rfl))) (se_callC (cal__law_gcd KX G c tb) rm (by decide) (by rfl) (sa_cons (se_var 17 rfl (by first | exact .inl rfl | exact .inr (.inl rfl) | exact .inr (.inr rfl))) (sa_cons (se_var 19 rfl (by first | exact .inl rfl | exact .inr (.inl rfl) | exact .inr (.inr rfl))) sa_nil)))) (se_var 19 rfl (by first | exact .inl rfl | exact .inr (.inl rfl) | exact .inr (.inr rfl)))))))
      (sss_cons (ss_setLc (own := [("k", 30)]) rm.calm rm.nd rfl rfl rfl rfl rfl (si_rng1 (by rfl) (m_range KX G c) (se_var 17 rfl (by first | exact .inl rfl | exact .inr (.inl rfl) | exact .inr (.inr rfl)))) (blkOk_by (by kernel_rfl)) (fun s1 H1 C1 cl1 fp1 => (sgw_name (rm.blk).nd rfl (by first | exact .inl rfl | exact .inr rfl) (by decide))) (fun s1 H1 C1 cl1 fp1 => sts_one (st_cmpG (.eq (rm.blk).u64) (se_lc (own := [("rest", 18), ("part", 19)]) (rm.blk).calm (rm.blk).nd (si_seq (se_var 16 rfl (by first | exact .inl rfl | exact .inr (.inl rfl) | exact .inr (.inr rfl)))) (blkOk_by (by kernel_rfl)) (fun s2 H2 C2 cl2 fp2 => (sgw_tup ((rm.blk).blk).calm (sgws_cons (sgw_name ((rm.blk).blk).nd rfl (by first | exact .inl rfl | exact .inr rfl) (by decide)) (sgws_cons (sgw_name ((rm.blk).blk).nd rfl (by first | exact .inl rfl | exact .inr rfl) (by decide)) sgws_nil)))) (fun s2 H2 C2 cl2 fp2 => sts_one (st_cmpG (.ne ((rm.blk).blk).u64) (se_mod (se_sub (se_var 30 rfl (by first | exact .inl rfl | exact .inr (.inl rfl) | exact .inr (.inr rfl))) (se_var 18 rfl (by first | exact .inl rfl | exact .inr (.inl rfl) | exact .inr (.inr rfl)))) (se_var 19 rfl (by first | exact .inl rfl | exact .inr (.inl rfl) | exact .inr (.inr rfl)))) se_int (by first | rfl | with_unfolding_all rfl))) (fun s2 H2 C2 cl2 fp2 => se_int)) (se_lst sa_nil) (by first | rfl | with_unfolding_all rfl))) (fun s1 H1 C1 cl1 fp1 => (se_var 30 rfl (by first | exact .inl rfl | exact .inr (.inl rfl) | exact .inr (.inr rfl)))))
      (sss_cons (ss_if (st_cmpG (.ne rm.u64) (se_told T0 (k := 3) rm (by decide) (by rfl) TB hcode hT (LamX.lamS_by (by kernel_rfl)) (slam rm fun A1 o1 s1 H1 E1 f1 c1 rl1 => (se_callC (cal_remainders_joined KX G c tb) rl1 (by decide) (by rfl) (sa_cons (se_var 16 rfl (by first | exact .inl rfl | exact .inr (.inl rfl) | exact .inr (.inr rfl))) sa_nil)))) (se_if (st_cmpG (.ne rm.u64) (se_var 20 rfl (by first | exact .inl rfl | exact .inr (.inl rfl) | exact .inr (.inr rfl))) (se_lst sa_nil) (by first | rfl | with_unfolding_all rfl)) (se_tup (sa_cons (se_ix (se_var 20 rfl (by first | exact .inl rfl | exact .inr (.inl rfl) | exact .inr (.inr rfl))) se_int) (sa_cons (se_var 17 rfl (by first | exact .inl rfl | exact .inr (.inl rfl) | exact .inr (.inr rfl))) sa_nil))) se_str) (by first | rfl | with_unfolding_all rfl)) (sss_one (ss_ret se_bl)) sss_nil)
      (sss_cons (ss_par2 rm.calm rm.nd rfl rfl (by decide) rfl rfl (sao_cons (se_abs (by rfl) (m_abs KX G c) (se_var 3 rfl (by first | exact .inl rfl | exact .inr (.inl rfl) | exact .inr (.inr rfl)))) (sao_cons (se_add se_int (se_callC (cal__law_roll KX G c tb 1) rm (by decide) (by rfl) (sa_cons (se_var 1 rfl (by first | exact .inl rfl | exact .inr (.inl rfl) | exact .inr (.inr rfl))) (sa_cons se_int sa_nil)))) sao_nil)))
      (sss_cons (ss_set rm.nd rfl (by first | exact .inl rfl | exact .inr rfl) (se_callC (cal_root_below KX G c tb) rm (by decide) (by rfl) (sa_cons (se_var 21 rfl (by first | exact .inl rfl | exact .inr (.inl rfl) | exact .inr (.inr rfl))) (sa_cons (se_var 15 rfl (by first | exact .inl rfl | exact .inr (.inl rfl) | exact .inr (.inr rfl))) sa_nil))))
      (sss_cons (ss_if (st_not (st_chn .le .lt (se_callC (cal_power KX G c tb) rm (by decide) (by rfl) (sa_cons (se_var 22 rfl (by first | exact .inl rfl | exact .inr (.inl rfl) | exact .inr (.inr rfl))) (sa_cons (se_var 15 rfl (by first | exact .inl rfl | exact .inr (.inl rfl) | exact .inr (.inr rfl))) sa_nil))) (se_var 21 rfl (by first | exact .inl rfl | exact .inr (.inl rfl) | exact .inr (.inr rfl))) (se_callC (cal_power KX G c tb) rm (by decide) (by rfl) (sa_cons (se_add (se_var 22 rfl (by first | exact .inl rfl | exact .inr (.inl rfl) | exact .inr (.inr rfl))) se_int) (sa_cons (se_var 15 rfl (by first | exact .inl rfl | exact .inr (.inl rfl) | exact .inr (.inr rfl))) sa_nil))))) (sss_one (ss_ret se_bl)) sss_nil)
      (sss_cons (ss_set rm.nd rfl (by first | exact .inl rfl | exact .inr rfl) (se_add se_int (se_callC (cal__law_roll KX G c tb 1) rm (by decide) (by rfl) (sa_cons (se_var 1 rfl (by first | exact .inl rfl | exact .inr (.inl rfl) | exact .inr (.inr rfl))) (sa_cons se_int sa_nil)))))
      (sss_cons (ss_set rm.nd rfl (by first | exact .inl rfl | exact .inr rfl) (se_callC (cal_convergents KX G c tb) rm (by decide) (by rfl) (sa_cons (se_var 3 rfl (by first | exact .inl rfl | exact .inr (.inl rfl) | exact .inr (.inr rfl))) (sa_cons (se_var 23 rfl (by first | exact .inl rfl | exact .inr (.inl rfl) | exact .inr (.inr rfl))) sa_nil))))
      (sss_cons (ss_if (st_cmpG (.ne rm.u64) (se_listc (by rfl) (m_list KX G c) (se_var 24 rfl (by first | exact .inl rfl | exact .inr (.inl rfl) | exact .inr (.inr rfl)))) (se_callC (cal__law_convergents KX G c tb) rm (by decide) (by rfl) (sa_cons (se_var 3 rfl (by first | exact .inl rfl | exact .inr (.inl rfl) | exact .inr (.inr rfl))) (sa_cons (se_var 23 rfl (by first | exact .inl rfl | exact .inr (.inl rfl) | exact .inr (.inr rfl))) sa_nil))) (by first | rfl | with_unfolding_all rfl)) (sss_one (ss_ret se_bl)) sss_nil)
      (sss_cons (ss_parN rm.calm rm.nd (.cons rfl (by first | exact .inl rfl | exact .inr rfl) (by first | exact .inl rfl | exact .inr rfl) rfl (.cons rfl (by first | exact .inl rfl | exact .inr rfl) (by first | exact .inl rfl | exact .inr rfl) rfl .nil)) (sao_cons (se_callC (cal__law_frac KX G c tb) rm (by decide) (by rfl) (sa_cons (se_sub (se_callC (cal__law_roll KX G c tb 1) rm (by decide) (by rfl) (sa_cons (se_var 1 rfl (by first | exact .inl rfl | exact .inr (.inl rfl) | exact .inr (.inr rfl))) (sa_cons se_int sa_nil))) se_int) (sa_cons (se_add se_int (se_callC (cal__law_roll KX G c tb 1) rm (by decide) (by rfl) (sa_cons (se_var 1 rfl (by first | exact .inl rfl | exact .inr (.inl rfl) | exact .inr (.inr rfl))) (sa_cons se_int sa_nil)))) sa_nil))) (sao_cons (se_callC (cal__law_frac KX G c tb) rm (by decide) (by rfl) (sa_cons (se_sub (se_callC (cal__law_roll KX G c tb 1) rm (by decide) (by rfl) (sa_cons (se_var 1 rfl (by first | exact .inl rfl | exact .inr (.inl rfl) | exact .inr (.inr rfl))) (sa_cons se_int sa_nil))) se_int) (sa_cons (se_add se_int (se_callC (cal__law_roll KX G c tb 1) rm (by decide) (by rfl) (sa_cons (se_var 1 rfl (by first | exact .inl rfl | exact .inr (.inl rfl) | exact .inr (.inr rfl))) (sa_cons se_int sa_nil)))) sa_nil))) sao_nil)))
      (sss_cons (ss_if (SW.st (sw_or (st_cmpG (.ne rm.u64) (se_callC (cal_rational KX G c tb) rm (by decide) (by rfl) (sa_cons (se_mul (se_ix (se_var 25 rfl (by first | exact .inl rfl | exact .inr (.inl rfl) | exact .inr (.inr rfl))) se_int) se_int) (sa_cons (se_mul (se_ix (se_var 25 rfl (by first | exact .inl rfl | exact .inr (.inl rfl) | exact .inr (.inr rfl))) se_int) (se_neg se_int)) sa_nil))) (se_tup (sa_cons (se_neg (se_ix (se_var 25 rfl (by first | exact .inl rfl | exact .inr (.inl rfl) | exact .inr (.inr rfl))) se_int)) (sa_cons (se_ix (se_var 25 rfl (by first | exact .inl rfl | exact .inr (.inl rfl) | exact .inr (.inr rfl))) se_int) sa_nil))) (by first | rfl | with_unfolding_all rfl)) (sw_or (st_cmpG (.ne rm.u64) (se_callC (cal_sum_of KX G c tb) rm (by decide) (by rfl) (sa_cons (se_var 25 rfl (by first | exact .inl rfl | exact .inr (.inl rfl) | exact .inr (.inr rfl))) (sa_cons (se_var 26 rfl (by first | exact .inl rfl | exact .inr (.inl rfl) | exact .inr (.inr rfl))) sa_nil))) (se_callC (cal__law_plus KX G c tb) rm (by decide) (by rfl) (sa_cons (se_var 25 rfl (by first | exact .inl rfl | exact .inr (.inl rfl) | exact .inr (.inr rfl))) (sa_cons (se_var 26 rfl (by first | exact .inl rfl | exact .inr (.inl rfl) | exact .inr (.inr rfl))) sa_nil))) (by first | rfl | with_unfolding_all rfl)) (sw_or (st_cmpG (.ne rm.u64) (se_callC (cal_product_of KX G c tb) rm (by decide) (by rfl) (sa_cons (se_var 25 rfl (by first | exact .inl rfl | exact .inr (.inl rfl) | exact .inr (.inr rfl))) (sa_cons (se_var 26 rfl (by first | exact .inl rfl | exact .inr (.inl rfl) | exact .inr (.inr rfl))) sa_nil))) (se_callC (cal__law_times KX G c tb) rm (by decide) (by rfl) (sa_cons (se_var 25 rfl (by first | exact .inl rfl | exact .inr (.inl rfl) | exact .inr (.inr rfl))) (sa_cons (se_var 26 rfl (by first | exact .inl rfl | exact .inr (.inl rfl) | exact .inr (.inr rfl))) sa_nil))) (by first | rfl | with_unfolding_all rfl)) (sw_or1 (st_cmpG (.ne rm.u64) (se_callC (cal_difference_of KX G c tb) rm (by decide) (by rfl) (sa_cons (se_var 25 rfl (by first | exact .inl rfl | exact .inr (.inl rfl) | exact .inr (.inr rfl))) (sa_cons (se_var 26 rfl (by first | exact .inl rfl | exact .inr (.inl rfl) | exact .inr (.inr rfl))) sa_nil))) (se_callC (cal__law_plus KX G c tb) rm (by decide) (by rfl) (sa_cons (se_var 25 rfl (by first | exact .inl rfl | exact .inr (.inl rfl) | exact .inr (.inr rfl))) (sa_cons (se_tup (sa_cons (se_neg (se_ix (se_var 26 rfl (by first | exact .inl rfl | exact .inr (.inl rfl) | exact .inr (.inr rfl))) se_int)) (sa_cons (se_ix (se_var 26 rfl (by first | exact .inl rfl | exact .inr (.inl rfl) | exact .inr (.inr rfl))) se_int) sa_nil))) sa_nil))) (by first | rfl | with_unfolding_all rfl))))))) (sss_one (ss_ret se_bl)) sss_nil)
      (sss_cons (ss_if (SW.st (sw_or (st_cmpG (.ne rm.u64) (se_told T0 (k := 3) rm (by decide) (by rfl) TB hcode hT (LamX.lamS_by (by kernel_rfl)) (slam rm fun A1 o1 s1 H1 E1 f1 c1 rl1 => (se_callC (cal_quotient_of KX G c tb) rl1 (by decide) (by rfl) (sa_cons (se_var 25 rfl (by first | exact .inl rfl | exact .inr (.inl rfl) | exact .inr (.inr rfl))) (sa_cons (se_var 26 rfl (by first | exact .inl rfl | exact .inr (.inl rfl) | exact .inr (.inr rfl))) sa_nil))))) (se_if (st_cmpG (.ne rm.u64) (se_ix (se_var 26 rfl (by first | exact .inl rfl | exact .inr (.inl rfl) | exact .inr (.inr rfl))) se_int) se_int (by first | rfl | with_unfolding_all rfl)) (se_callC (cal__law_frac KX G c tb) rm (by decide) (by rfl) (sa_cons (se_mul (se_ix (se_var 25 rfl (by first | exact .inl rfl | exact .inr (.inl rfl) | exact .inr (.inr rfl))) se_int) (se_ix (se_var 26 rfl (by first | exact .inl rfl | exact .inr (.inl rfl) | exact .inr (.inr rfl))) se_int)) (sa_cons (se_mul (se_ix (se_var 25 rfl (by first | exact .inl rfl | exact .inr (.inl rfl) | exact .inr (.inr rfl))) se_int) (se_ix (se_var 26 rfl (by first | exact .inl rfl | exact .inr (.inl rfl) | exact .inr (.inr rfl))) se_int)) sa_nil))) se_str) (by first | rfl | with_unfolding_all rfl)) (sw_or1 (st_cmpG (.ne rm.u64) (se_callC (cal_compared KX G c tb) rm (by decide) (by rfl) (sa_cons (se_var 25 rfl (by first | exact .inl rfl | exact .inr (.inl rfl) | exact .inr (.inr rfl))) (sa_cons (se_var 26 rfl (by first | exact .inl rfl | exact .inr (.inl rfl) | exact .inr (.inr rfl))) sa_nil))) (se_callC (cal_sign KX G c tb) rm (by decide) (by rfl) (sa_cons (se_callC (cal__law_plus KX G c tb) rm (by decide) (by rfl) (sa_cons (se_var 25 rfl (by first | exact .inl rfl | exact .inr (.inl rfl) | exact .inr (.inr rfl))) (sa_cons (se_tup (sa_cons (se_neg (se_ix (se_var 26 rfl (by first | exact .inl rfl | exact .inr (.inl rfl) | exact .inr (.inr rfl))) se_int)) (sa_cons (se_ix (se_var 26 rfl (by first | exact .inl rfl | exact .inr (.inl rfl) | exact .inr (.inr rfl))) se_int) sa_nil))) sa_nil))) sa_nil)) (by first | rfl | with_unfolding_all rfl))))) (sss_one (ss_ret se_bl)) sss_nil)
      (sss_cons (ss_if (SW.st (sw_or (st_cmpG (.ne rm.u64) (se_callC (cal_sign KX G c tb) rm (by decide) (by rfl) (sa_cons (se_var 25 rfl (by first | exact .inl rfl | exact .inr (.inl rfl) | exact .inr (.inr rfl))) sa_nil)) (se_sub (se_cmpG .gt (se_ix (se_var 25 rfl (by first | exact .inl rfl | exact .inr (.inl rfl) | exact .inr (.inr rfl))) se_int) se_int (by first | rfl | with_unfolding_all rfl)) (se_cmpG .lt (se_ix (se_var 25 rfl (by first | exact .inl rfl | exact .inr (.inl rfl) | exact .inr (.inr rfl))) se_int) se_int (by first | rfl | with_unfolding_all rfl))) (by first | rfl | with_unfolding_all rfl)) (sw_or1 (st_cmpG (.ne rm.u64) (se_callC (cal_rational_text KX G c tb) rm (by decide) (by rfl) (sa_cons (se_var 25 rfl (by first | exact .inl rfl | exact .inr (.inl rfl) | exact .inr (.inr rfl))) sa_nil)) (se_if (st_cmpG (.eq rm.u64) (se_ix (se_var 25 rfl (by first | exact .inl rfl | exact .inr (.inl rfl) | exact .inr (.inr rfl))) se_int) se_int (by first | rfl | with_unfolding_all rfl)) (se_strc (by rfl) (m_str KX G c) (se_ix (se_var 25 rfl (by first | exact .inl rfl | exact .inr (.inl rfl) | exact .inr (.inr rfl))) se_int)) (se_add (se_add (se_strc (by rfl) (m_str KX G c) (se_ix (se_var 25 rfl (by first | exact .inl rfl | exact .inr (.inl rfl) | exact .inr (.inr rfl))) se_int)) se_str) (se_strc (by rfl) (m_str KX G c) (se_ix (se_var 25 rfl (by first | exact .inl rfl | exact .inr (.inl rfl) | exact .inr (.inr rfl))) se_int)))) (by first | rfl | with_unfolding_all rfl))))) (sss_one (ss_ret se_bl)) sss_nil)
      (sss_cons (ss_set rm.nd rfl (by first | exact .inl rfl | exact .inr rfl) (se_sub (se_callC (cal__law_roll KX G c tb 1) rm (by decide) (by rfl) (sa_cons (se_var 1 rfl (by first | exact .inl rfl | exact .inr (.inl rfl) | exact .inr (.inr rfl))) (sa_cons se_int sa_nil))) se_int))
      (sss_cons (g := (sSet 28 (eTup (aCons (eC (.int 1)) (aCons (eC (.int 1)) aNil))))) (ss_set rm.nd rfl (by first | exact .inl rfl | exact .inr rfl) (se_tup (sa_cons se_int (sa_cons se_int sa_nil))))
      (sss_cons (ss_for hp rm.calm (si_rng1 (by rfl) (m_range KX G c) (se_abs (by rfl) (m_abs KX G c) (se_var 27 rfl (by first | exact .inl rfl | exact .inr (.inl rfl) | exact .inr (.inr rfl))))) (sg_name rm.nd rfl (by first | exact .inl rfl | exact .inr rfl)) (sss_one (ss_set rm.nd rfl (by first | exact .inl rfl | exact .inr rfl) (se_callC (cal__law_times KX G c tb) rm (by decide) (by rfl) (sa_cons (se_var 28 rfl (by first | exact .inl rfl | exact .inr (.inl rfl) | exact .inr (.inr rfl))) (sa_cons (se_var 25 rfl (by first | exact .inl rfl | exact .inr (.inl rfl) | exact .inr (.inr rfl))) sa_nil))))))
      (sss_one (ss_if (st_cmpG (.ne rm.u64) (se_told T0 (k := 4) rm (by decide) (by rfl) TB hcode hT (LamX.lamS_by (by kernel_rfl)) (slam rm fun A1 o1 s1 H1 E1 f1 c1 rl1 => (se_callC (cal_raised KX G c tb) rl1 (by decide) (by rfl) (sa_cons (se_var 25 rfl (by first | exact .inl rfl | exact .inr (.inl rfl) | exact .inr (.inr rfl))) (sa_cons (se_var 27 rfl (by first | exact .inl rfl | exact .inr (.inl rfl) | exact .inr (.inr rfl))) sa_nil))))) (se_if (st_cmpG .ge (se_var 27 rfl (by first | exact .inl rfl | exact .inr (.inl rfl) | exact .inr (.inr rfl))) se_int (by first | rfl | with_unfolding_all rfl)) (se_var 28 rfl (by first | exact .inl rfl | exact .inr (.inl rfl) | exact .inr (.inr rfl))) (se_if (st_cmpG (.ne rm.u64) (se_ix (se_var 28 rfl (by first | exact .inl rfl | exact .inr (.inl rfl) | exact .inr (.inr rfl))) se_int) se_int (by first | rfl | with_unfolding_all rfl)) (se_callC (cal__law_frac KX G c tb) rm (by decide) (by rfl) (sa_cons (se_ix (se_var 28 rfl (by first | exact .inl rfl | exact .inr (.inl rfl) | exact .inr (.inr rfl))) se_int) (sa_cons (se_ix (se_var 28 rfl (by first | exact .inl rfl | exact .inr (.inl rfl) | exact .inr (.inr rfl))) se_int) sa_nil))) se_str)) (by first | rfl | with_unfolding_all rfl)) (sss_one (ss_ret se_bl)) sss_nil))))))))))))))))))))))))))))))))))))
    (sss_cons (g := (sSet 10 (eLst (aCons (eTold "NumberError" (eCall F_inverse (aCons (eC (.int 3)) (aCons (eC (.int 1)) aNil)))) (aCons (eTold "NumberError" (eUnl (eCall F_prime_factors (aCons (eC (.int 0)) aNil)))) (aCons (eTold "NumberError" (eCall F_rational (aCons (eC (.int 1)) (aCons (eC (.int 0)) aNil)))) aNil)))))) (ss_set rm.nd rfl (by first | exact .inl rfl | exact .inr rfl) (se_lst (sa_cons (se_told T0 (k := 3) rm (by decide) (by rfl) TB hcode hT (LamX.lamS_by (by kernel_rfl)) (slam rm fun A1 o1 s1 H1 E1 f1 c1 rl1 => (se_callC (cal_inverse KX G c tb) rl1 (by decide) (by rfl) (sa_cons se_int (sa_cons se_int sa_nil))))) (sa_cons (se_told T0 (k := 1) rm (by decide) (by rfl) TB hcode hT (LamX.lamS_by (by kernel_rfl)) (slam rm fun A1 o1 s1 H1 E1 f1 c1 rl1 => (se_unl (se_callC (cal_prime_factors KX G c tb) rl1 (by decide) (by rfl) (sa_cons se_int sa_nil))))) (sa_cons (se_told T0 (k := 2) rm (by decide) (by rfl) TB hcode hT (LamX.lamS_by (by kernel_rfl)) (slam rm fun A1 o1 s1 H1 E1 f1 c1 rl1 => (se_callC (cal_rational KX G c tb) rl1 (by decide) (by rfl) (sa_cons se_int (sa_cons se_int sa_nil))))) sa_nil)))))
    (sss_cons (ss_set rm.nd rfl (by first | exact .inl rfl | exact .inr rfl) (se_add (se_var 10 rfl (by first | exact .inl rfl | exact .inr (.inl rfl) | exact .inr (.inr rfl))) (se_lst (sa_cons (se_told T0 (k := 1) rm (by decide) (by rfl) TB hcode hT (LamX.lamS_by (by kernel_rfl)) (slam rm fun A1 o1 s1 H1 E1 f1 c1 rl1 => (se_callC (cal_power_by KX G c tb) rl1 (by decide) (by rfl) (sa_cons se_int (sa_cons (se_neg se_int) (sa_cons se_int sa_nil)))))) (sa_cons (se_told T0 (k := 2) rm (by decide) (by rfl) TB hcode hT (LamX.lamS_by (by kernel_rfl)) (slam rm fun A1 o1 s1 H1 E1 f1 c1 rl1 => (se_callC (cal_root_below KX G c tb) rl1 (by decide) (by rfl) (sa_cons (se_neg se_int) (sa_cons se_int sa_nil))))) (sa_cons (se_told T0 (k := 2) rm (by decide) (by rfl) TB hcode hT (LamX.lamS_by (by kernel_rfl)) (slam rm fun A1 o1 s1 H1 E1 f1 c1 rl1 => (se_callC (cal_root_below KX G c tb) rl1 (by decide) (by rfl) (sa_cons se_int (sa_cons se_int sa_nil))))) sa_nil))))))
    (sss_one (ss_ret (se_and (se_callC (cal__law_large KX G c tb) rm (by decide) (by rfl) (sa_cons (se_var 0 rfl (by first | exact .inl rfl | exact .inr (.inl rfl) | exact .inr (.inr rfl))) sa_nil)) (se_and (se_cmpG (.eq rm.u64) (se_var 10 rfl (by first | exact .inl rfl | exact .inr (.inl rfl) | exact .inr (.inr rfl))) (se_mul (se_lst (sa_cons se_str sa_nil)) se_int) (by first | rfl | with_unfolding_all rfl)) (se_and (se_cmpG (.eq rm.u64) (se_unl (se_callC (cal_prime_factors KX G c tb) rm (by decide) (by rfl) (sa_cons se_int sa_nil))) (se_tup sa_nil) (by first | rfl | with_unfolding_all rfl)) (se_and (se_not (se_callC (cal_is_prime KX G c tb) rm (by decide) (by rfl) (sa_cons se_int sa_nil))) (se_one (se_cmpG (.eq rm.u64) (se_unl (se_callC (cal_prime_factors KX G c tb) rm (by decide) (by rfl) (sa_cons (se_neg se_int) sa_nil))) (se_tup (sa_cons (se_tup (sa_cons se_int (sa_cons se_int sa_nil))) (sa_cons (se_tup (sa_cons se_int (sa_cons se_int sa_nil))) sa_nil))) (by first | rfl | with_unfolding_all rfl))))))))))))
end
end K01

set_option exponentiation.threshold 3000
namespace K01
open Sv
theorem zk0 : szok 0 = true := rfl
theorem zk1 : szok 1 = true := rfl
theorem zk2 : szok 2 = true := rfl
theorem zk3 : szok 3 = true := rfl
theorem zk4 : szok 4 = true := rfl
theorem zk5 : szok 5 = true := rfl
theorem zk6 : szok 6 = true := rfl
theorem zk7 : szok 7 = true := rfl
theorem zk8 : szok 8 = true := rfl
abbrev sI (i : Int) : Option (Bool × T) := some (false, .int i)
theorem mulOk_l {i j : Int} (h : i.natAbs < 18446744073709551616) : mulOk i j = true := by
  unfold mulOk
  rw [decide_eq_true h]
  rfl
theorem mulOk_r {i j : Int} (h : j.natAbs < 18446744073709551616) : mulOk i j = true := by
  unfold mulOk
  rw [decide_eq_true h, Bool.or_true]
  rfl
theorem mulOk_w {i j : Int} {a b : Nat} (ha : i.natAbs < 2 ^ a) (hb : j.natAbs < 2 ^ b) (h0 : 0 < a) (h1 : 0 < b) (h : a + b ≤ 1000000) : mulOk i j = true := by
  have x := PySem.Flt.log2_lt_of h0 ha
  have y := PySem.Flt.log2_lt_of h1 hb
  unfold mulOk
  rw [decide_eq_true (p := i.natAbs.log2 + j.natAbs.log2 < 1000000) (by omega), Bool.or_true]
theorem divOk {j : Int} {a : Nat} (h0 : 0 < j) (ha : j.natAbs < 2 ^ a) (h1 : 0 < a) (h : a ≤ 9000) : 0 < j ∧ j.natAbs.log2 < 9000 := ⟨h0, Nat.lt_of_lt_of_le (PySem.Flt.log2_lt_of h1 ha) h⟩
theorem divOkN {j : Int} {a : Nat} (h0 : j < 0) (ha : j.natAbs < 2 ^ a) (h1 : 0 < a) (h : a ≤ 9000) : j < 0 ∧ j.natAbs.log2 < 9000 := ⟨h0, Nat.lt_of_lt_of_le (PySem.Flt.log2_lt_of h1 ha) h⟩
theorem dice_at (z : Int) (ob : List OV) : ∃ a b c : Int, F__law_dice [.int z] ob = .ok false (.obj ob.length) (ob ++ [.ls [.int a, .int b, .int c]]) := by
  have h1009 : (0 : Int) < 1009 := by decide
  have hp : (0 : Int) ≤ 18 ∧ (18 : Int) ≤ 1000000 ∧ (10 : Int).natAbs < 18446744073709551616 := by decide
  by_cases h1 : (0 : Int) - 10 < z
  · by_cases h2 : z < 10
    · refine ⟨if z < 0 then -z else z, 0, 2, ?_⟩
      unfold F__law_dice b__law_dice
      simp only [mkFn, sCons, sNil, sSet, setOf, sExpr, sRet, retOf, sRetN, sIf, sRaise, sAug, sAsg, toS, gSet, gNil, gCons, gTup, gSub, sPar, storeAll, eC, eVar, eBin, eUn, eTup, eLst, eLstO, eIf, eAnd, eOr, eNot, eIs, isN, aNil, aCons, aoNil, aoCons, own, peek, frz, view, out1, out1_val, out1_tmp, R.bind, R.bindS, tTst, tAndS, tOrS, tNotS, eCall, afterF, sFor, iRng1, iRng2, iSeq, itemsOf, opAdd, opSub, opMul, opDiv, opMod, opPow, opNeg, opIMul, opIAdd, opLt, opLe, opGt, opGe, opEq_int, opNe_int, opLen, opAbs, opInt, opList, opTuple, opIx, eApp, isL, wr, List.map_cons, List.map_nil, List.length_cons, List.length_nil, List.replicate_succ, List.replicate_zero, List.cons_append, List.nil_append, List.append_nil, List.getElem?_cons_zero, List.getElem?_cons_succ, List.set_cons_zero, List.set_cons_succ, if_true, if_false, ite_true, ite_false, reduceIte, Bool.false_eq_true, Option.map_some, eUnl, eTupL, eDGet, opMax2, opMin2, opIDiv, opIMod, sParT, storeT, eChn, opLenD, opStr, zk1, zk2, zk3, zk4, zk5, zk6, zk7, zk8, zk0, Nat.reduceAdd, Nat.reduceSub, eChn, Nat.reduceSub, Nat.reduceAdd, decide_eq_true h1, decide_eq_true h2, szok, Nat.reduceLeDiff, decide_true]
    · refine ⟨z, 1 + z % 1009, if (decide ((10 : Int) ^ (18 : Int).toNat ≤ z)) = true then 1 else 0, ?_⟩
      unfold F__law_dice b__law_dice
      simp only [mkFn, sCons, sNil, sSet, setOf, sExpr, sRet, retOf, sRetN, sIf, sRaise, sAug, sAsg, toS, gSet, gNil, gCons, gTup, gSub, sPar, storeAll, eC, eVar, eBin, eUn, eTup, eLst, eLstO, eIf, eAnd, eOr, eNot, eIs, isN, aNil, aCons, aoNil, aoCons, own, peek, frz, view, out1, out1_val, out1_tmp, R.bind, R.bindS, tTst, tAndS, tOrS, tNotS, eCall, afterF, sFor, iRng1, iRng2, iSeq, itemsOf, opAdd, opSub, opMul, opDiv, opMod, opPow, opNeg, opIMul, opIAdd, opLt, opLe, opGt, opGe, opEq_int, opNe_int, opLen, opAbs, opInt, opList, opTuple, opIx, eApp, isL, wr, List.map_cons, List.map_nil, List.length_cons, List.length_nil, List.replicate_succ, List.replicate_zero, List.cons_append, List.nil_append, List.append_nil, List.getElem?_cons_zero, List.getElem?_cons_succ, List.set_cons_zero, List.set_cons_succ, if_true, if_false, ite_true, ite_false, reduceIte, Bool.false_eq_true, Option.map_some, eUnl, eTupL, eDGet, opMax2, opMin2, opIDiv, opIMod, sParT, storeT, eChn, opLenD, opStr, zk1, zk2, zk3, zk4, zk5, zk6, zk7, zk8, zk0, Nat.reduceAdd, Nat.reduceSub, eChn, Nat.reduceSub, Nat.reduceAdd, decide_eq_true h1, decide_eq_false h2, szok, Nat.reduceLeDiff, decide_true, if_pos h1009, if_pos hp]
  · refine ⟨z, 1 + z % 1009, if (decide ((10 : Int) ^ (18 : Int).toNat ≤ z)) = true then 1 else 0, ?_⟩
    unfold F__law_dice b__law_dice
    simp only [mkFn, sCons, sNil, sSet, setOf, sExpr, sRet, retOf, sRetN, sIf, sRaise, sAug, sAsg, toS, gSet, gNil, gCons, gTup, gSub, sPar, storeAll, eC, eVar, eBin, eUn, eTup, eLst, eLstO, eIf, eAnd, eOr, eNot, eIs, isN, aNil, aCons, aoNil, aoCons, own, peek, frz, view, out1, out1_val, out1_tmp, R.bind, R.bindS, tTst, tAndS, tOrS, tNotS, eCall, afterF, sFor, iRng1, iRng2, iSeq, itemsOf, opAdd, opSub, opMul, opDiv, opMod, opPow, opNeg, opIMul, opIAdd, opLt, opLe, opGt, opGe, opEq_int, opNe_int, opLen, opAbs, opInt, opList, opTuple, opIx, eApp, isL, wr, List.map_cons, List.map_nil, List.length_cons, List.length_nil, List.replicate_succ, List.replicate_zero, List.cons_append, List.nil_append, List.append_nil, List.getElem?_cons_zero, List.getElem?_cons_succ, List.set_cons_zero, List.set_cons_succ, if_true, if_false, ite_true, ite_false, reduceIte, Bool.false_eq_true, Option.map_some, eUnl, eTupL, eDGet, opMax2, opMin2, opIDiv, opIMod, sParT, storeT, eChn, opLenD, opStr, zk1, zk2, zk3, zk4, zk5, zk6, zk7, zk8, zk0, Nat.reduceAdd, Nat.reduceSub, eChn, Nat.reduceSub, Nat.reduceAdd, decide_eq_false h1, szok, Nat.reduceLeDiff, decide_true, if_pos h1009, if_pos hp]
theorem cut_cons (z : Int) (ns : List Int) : (cutT (z :: ns) none (some 1)).map T.int = [.int z] := by
  unfold cutT
  rw [show HT.sIx (z :: ns).length (z :: ns).length (some 1) = min 1 (z :: ns).length from HT.sIx_nat _ _ 1, HT.sIx_none]
  rw [show min 1 (z :: ns).length = 1 by rw [List.length_cons]; omega]
  rfl
theorem cut_nil : (cutT ([] : List Int) none (some 1)).map T.int = [] := by rfl
theorem rounds_at (ns : List Int) (ob : List OV) : ∃ a b c : Int, F__law_rounds [.scr ns, .int 1] ob = .ok true (.lst [.obj ob.length]) (ob ++ [.ls [.int a, .int b, .int c]]) := by
  have key : ∃ z : Int, ((cutT ns none (some 1)).map T.int = [.int z]) ∨ ((cutT ns none (some 1)).map T.int = [] ∧ z = 0) := by
    cases ns with
    | nil => exact ⟨0, .inr ⟨cut_nil, rfl⟩⟩
    | cons z r => exact ⟨z, .inl (cut_cons z r)⟩
  obtain ⟨z, hz⟩ := key
  obtain ⟨a, b, c, hd⟩ := dice_at z ob
  refine ⟨a, b, c, ?_⟩
  have e1 : opEq (.lst [.int z]) (.lst []) = some (false, .bl false) := rfl
  have e2 : opEq (.lst []) (.lst []) = some (false, .bl true) := rfl
  unfold F__law_rounds b__law_rounds bb__law_rounds
  rcases hz with hz | ⟨hz, rfl⟩
  · simp only [mkFn, sCons, sNil, sSet, setOf, sExpr, sRet, retOf, sRetN, sIf, sRaise, sAug, sAsg, toS, gSet, gNil, gCons, gTup, gSub, sPar, storeAll, eC, eVar, eBin, eUn, eTup, eLst, eLstO, eIf, eAnd, eOr, eNot, eIs, isN, aNil, aCons, aoNil, aoCons, own, peek, frz, view, out1, out1_val, out1_tmp, R.bind, R.bindS, tTst, tAndS, tOrS, tNotS, eCall, afterF, sFor, iRng1, iRng2, iSeq, itemsOf, opAdd, opSub, opMul, opDiv, opMod, opPow, opNeg, opIMul, opIAdd, opLt, opLe, opGt, opGe, opEq_int, opNe_int, opLen, opAbs, opInt, opList, opTuple, opIx, eApp, isL, wr, List.map_cons, List.map_nil, List.length_cons, List.length_nil, List.replicate_succ, List.replicate_zero, List.cons_append, List.nil_append, List.append_nil, List.getElem?_cons_zero, List.getElem?_cons_succ, List.set_cons_zero, List.set_cons_succ, if_true, if_false, ite_true, ite_false, reduceIte, Bool.false_eq_true, Option.map_some, eUnl, eTupL, eDGet, opMax2, opMin2, opIDiv, opIMod, sParT, storeT, eChn, opLenD, opStr, zk1, zk2, zk3, zk4, zk5, zk6, zk7, zk8, zk0, Nat.reduceAdd, Nat.reduceSub, eCut, oNone, oSome, opCut, Nat.reduceSub, Nat.reduceAdd, hz, e1, eLC, wipeS, backS, compL, cYes, hd, szok, Nat.reduceLeDiff, decide_true]
  · simp only [mkFn, sCons, sNil, sSet, setOf, sExpr, sRet, retOf, sRetN, sIf, sRaise, sAug, sAsg, toS, gSet, gNil, gCons, gTup, gSub, sPar, storeAll, eC, eVar, eBin, eUn, eTup, eLst, eLstO, eIf, eAnd, eOr, eNot, eIs, isN, aNil, aCons, aoNil, aoCons, own, peek, frz, view, out1, out1_val, out1_tmp, R.bind, R.bindS, tTst, tAndS, tOrS, tNotS, eCall, afterF, sFor, iRng1, iRng2, iSeq, itemsOf, opAdd, opSub, opMul, opDiv, opMod, opPow, opNeg, opIMul, opIAdd, opLt, opLe, opGt, opGe, opEq_int, opNe_int, opLen, opAbs, opInt, opList, opTuple, opIx, eApp, isL, wr, List.map_cons, List.map_nil, List.length_cons, List.length_nil, List.replicate_succ, List.replicate_zero, List.cons_append, List.nil_append, List.append_nil, List.getElem?_cons_zero, List.getElem?_cons_succ, List.set_cons_zero, List.set_cons_succ, if_true, if_false, ite_true, ite_false, reduceIte, Bool.false_eq_true, Option.map_some, eUnl, eTupL, eDGet, opMax2, opMin2, opIDiv, opIMod, sParT, storeT, eChn, opLenD, opStr, zk1, zk2, zk3, zk4, zk5, zk6, zk7, zk8, zk0, Nat.reduceAdd, Nat.reduceSub, eCut, oNone, oSome, opCut, Nat.reduceSub, Nat.reduceAdd, hz, e2, eLC, wipeS, backS, compL, cYes, hd, szok, Nat.reduceLeDiff, decide_true, Nat.zero_le]
theorem app_get {α : Type} (p : List α) (x : α) : (p ++ [x])[p.length]? = some x := by simp
theorem app_set {α : Type} (p : List α) (x y : α) : (p ++ [x]).set p.length y = p ++ [y] := by simp
theorem roll_at {m a b c : Int} (p : List OV) (hm : 0 < m ∧ m.natAbs.log2 < 9000) (hm2 : m ≤ 100000000) : ∃ r a' b' c' : Int, 0 ≤ r ∧ r < m ∧ F__law_roll 1 [.obj p.length, .int m] (p ++ [.ls [.int a, .int b, .int c]]) = .ok false (.int r) (p ++ [.ls [.int a', .int b', .int c']]) := by
  have i0 : ∀ x y z : T, L2.atI [x, y, z] 0 = some x := fun _ _ _ => rfl
  have i1 : ∀ x y z : T, L2.atI [x, y, z] 1 = some y := fun _ _ _ => rfl
  have i2 : ∀ x y z : T, L2.atI [x, y, z] 2 = some z := fun _ _ _ => rfl
  have n0 : L2.ixN 3 0 = some 0 := rfl
  have n1 : L2.ixN 3 1 = some 1 := rfl
  have n2 : L2.ixN 3 2 = some 2 := rfl
  have big : ∀ x : Int, mulOk x 48271 = true := fun x => mulOk_r (by decide)
  have big2 : ∀ x : Int, mulOk x 69621 = true := fun x => mulOk_r (by decide)
  have d7 : (0 : Int) < 7 ∧ (7 : Int).natAbs.log2 < 9000 := by decide
  have dp : (0 : Int) < 2147483647 := by decide
  have dm : decide ((100000000 : Int) < m) = false := decide_eq_false (by omega)
  have lt : ∀ x : OV, p.length < (p ++ [x]).length := fun x => by simp
  by_cases h2 : c = 2
  · subst h2
    refine ⟨a % m, a / m, b, 2, Int.emod_nonneg _ (by omega), Int.emod_lt_of_pos _ hm.1, ?_⟩
    unfold F__law_roll b__law_roll
    simp only [mkFn, sCons, sNil, sSet, setOf, sExpr, sRet, retOf, sRetN, sIf, sRaise, sAug, sAsg, toS, gSet, gNil, gCons, gTup, gSub, sPar, storeAll, eC, eVar, eBin, eUn, eTup, eLst, eLstO, eIf, eAnd, eOr, eNot, eIs, isN, aNil, aCons, aoNil, aoCons, own, peek, frz, view, out1, out1_val, out1_tmp, R.bind, R.bindS, tTst, tAndS, tOrS, tNotS, eCall, afterF, sFor, iRng1, iRng2, iSeq, itemsOf, opAdd, opSub, opMul, opDiv, opMod, opPow, opNeg, opIMul, opIAdd, opLt, opLe, opGt, opGe, opEq_int, opNe_int, opLen, opAbs, opInt, opList, opTuple, opIx, eApp, isL, wr, List.map_cons, List.map_nil, List.length_cons, List.length_nil, List.replicate_succ, List.replicate_zero, List.cons_append, List.nil_append, List.append_nil, List.getElem?_cons_zero, List.getElem?_cons_succ, List.set_cons_zero, List.set_cons_succ, if_true, if_false, ite_true, ite_false, reduceIte, Bool.false_eq_true, Option.map_some, eUnl, eTupL, eDGet, opMax2, opMin2, opIDiv, opIMod, sParT, storeT, eChn, opLenD, opStr, zk1, zk2, zk3, zk4, zk5, zk6, zk7, zk8, zk0, Nat.reduceAdd, Nat.reduceSub, Sv.gSub, Nat.reduceSub, Nat.reduceAdd, i0, i1, i2, n0, n1, n2, if_pos hm, if_pos hm.1, decide_true, app_get, app_set, lt]
  · by_cases h1 : c = 1 ∧ 0 < a
    · obtain ⟨rfl, ha⟩ := h1
      refine ⟨a % m, a / m, b, 1, Int.emod_nonneg _ (by omega), Int.emod_lt_of_pos _ hm.1, ?_⟩
      have e12 : decide ((1 : Int) = 2) = false := by decide
      unfold F__law_roll b__law_roll
      simp only [mkFn, sCons, sNil, sSet, setOf, sExpr, sRet, retOf, sRetN, sIf, sRaise, sAug, sAsg, toS, gSet, gNil, gCons, gTup, gSub, sPar, storeAll, eC, eVar, eBin, eUn, eTup, eLst, eLstO, eIf, eAnd, eOr, eNot, eIs, isN, aNil, aCons, aoNil, aoCons, own, peek, frz, view, out1, out1_val, out1_tmp, R.bind, R.bindS, tTst, tAndS, tOrS, tNotS, eCall, afterF, sFor, iRng1, iRng2, iSeq, itemsOf, opAdd, opSub, opMul, opDiv, opMod, opPow, opNeg, opIMul, opIAdd, opLt, opLe, opGt, opGe, opEq_int, opNe_int, opLen, opAbs, opInt, opList, opTuple, opIx, eApp, isL, wr, List.map_cons, List.map_nil, List.length_cons, List.length_nil, List.replicate_succ, List.replicate_zero, List.cons_append, List.nil_append, List.append_nil, List.getElem?_cons_zero, List.getElem?_cons_succ, List.set_cons_zero, List.set_cons_succ, if_true, if_false, ite_true, ite_false, reduceIte, Bool.false_eq_true, Option.map_some, eUnl, eTupL, eDGet, opMax2, opMin2, opIDiv, opIMod, sParT, storeT, eChn, opLenD, opStr, zk1, zk2, zk3, zk4, zk5, zk6, zk7, zk8, zk0, Nat.reduceAdd, Nat.reduceSub, Sv.gSub, Nat.reduceSub, Nat.reduceAdd, i0, i1, i2, n0, n1, n2, if_pos hm, if_pos hm.1, decide_true, e12, decide_eq_true ha, app_get, app_set, lt]
    · refine ⟨(a * 48271 + b * 69621 + 11) % 2147483647 / 7 % m, (a * 48271 + b * 69621 + 11) % 2147483647, b + 1, 0, Int.emod_nonneg _ (by omega), Int.emod_lt_of_pos _ hm.1, ?_⟩
      have e2 : decide (c = 2) = false := decide_eq_false h2
      unfold F__law_roll b__law_roll
      by_cases hc : c = 1
      · subst hc
        have ha : decide (0 < a) = false := decide_eq_false fun z => h1 ⟨rfl, z⟩
        simp only [mkFn, sCons, sNil, sSet, setOf, sExpr, sRet, retOf, sRetN, sIf, sRaise, sAug, sAsg, toS, gSet, gNil, gCons, gTup, gSub, sPar, storeAll, eC, eVar, eBin, eUn, eTup, eLst, eLstO, eIf, eAnd, eOr, eNot, eIs, isN, aNil, aCons, aoNil, aoCons, own, peek, frz, view, out1, out1_val, out1_tmp, R.bind, R.bindS, tTst, tAndS, tOrS, tNotS, eCall, afterF, sFor, iRng1, iRng2, iSeq, itemsOf, opAdd, opSub, opMul, opDiv, opMod, opPow, opNeg, opIMul, opIAdd, opLt, opLe, opGt, opGe, opEq_int, opNe_int, opLen, opAbs, opInt, opList, opTuple, opIx, eApp, isL, wr, List.map_cons, List.map_nil, List.length_cons, List.length_nil, List.replicate_succ, List.replicate_zero, List.cons_append, List.nil_append, List.append_nil, List.getElem?_cons_zero, List.getElem?_cons_succ, List.set_cons_zero, List.set_cons_succ, if_true, if_false, ite_true, ite_false, reduceIte, Bool.false_eq_true, Option.map_some, eUnl, eTupL, eDGet, opMax2, opMin2, opIDiv, opIMod, sParT, storeT, eChn, opLenD, opStr, zk1, zk2, zk3, zk4, zk5, zk6, zk7, zk8, zk0, Nat.reduceAdd, Nat.reduceSub, Sv.gSub, Nat.reduceSub, Nat.reduceAdd, i0, i1, i2, n0, n1, n2, if_pos hm.1, decide_true, e2, ha, dm, big, big2, if_pos d7, if_pos dp, app_get, app_set, lt]
      · simp only [mkFn, sCons, sNil, sSet, setOf, sExpr, sRet, retOf, sRetN, sIf, sRaise, sAug, sAsg, toS, gSet, gNil, gCons, gTup, gSub, sPar, storeAll, eC, eVar, eBin, eUn, eTup, eLst, eLstO, eIf, eAnd, eOr, eNot, eIs, isN, aNil, aCons, aoNil, aoCons, own, peek, frz, view, out1, out1_val, out1_tmp, R.bind, R.bindS, tTst, tAndS, tOrS, tNotS, eCall, afterF, sFor, iRng1, iRng2, iSeq, itemsOf, opAdd, opSub, opMul, opDiv, opMod, opPow, opNeg, opIMul, opIAdd, opLt, opLe, opGt, opGe, opEq_int, opNe_int, opLen, opAbs, opInt, opList, opTuple, opIx, eApp, isL, wr, List.map_cons, List.map_nil, List.length_cons, List.length_nil, List.replicate_succ, List.replicate_zero, List.cons_append, List.nil_append, List.append_nil, List.getElem?_cons_zero, List.getElem?_cons_succ, List.set_cons_zero, List.set_cons_succ, if_true, if_false, ite_true, ite_false, reduceIte, Bool.false_eq_true, Option.map_some, eUnl, eTupL, eDGet, opMax2, opMin2, opIDiv, opIMod, sParT, storeT, eChn, opLenD, opStr, zk1, zk2, zk3, zk4, zk5, zk6, zk7, zk8, zk0, Nat.reduceAdd, Nat.reduceSub, Sv.gSub, Nat.reduceSub, Nat.reduceAdd, i0, i1, i2, n0, n1, n2, if_pos hm.1, decide_true, e2, decide_eq_false hc, dm, big, big2, if_pos d7, if_pos dp, app_get, app_set, lt]
/-- a die is rolled -/
abbrev D3 (a b c : Int) : OV := .ls [.int a, .int b, .int c]
def Roll (p : List OV) : Prop := ∀ (m a b c : Int), 0 < m → m ≤ 1000000 → ∃ r a' b' c' : Int, 0 ≤ r ∧ r < m ∧ F__law_roll 1 [.obj p.length, .int m] (p ++ [D3 a b c]) = .ok false (.int r) (p ++ [D3 a' b' c'])
theorem roll (p : List OV) : Roll p := fun m a b c h0 h1 => roll_at p (divOk (a := 64) h0 (by omega) (by decide) (by decide)) (by omega)
end K01

set_option exponentiation.threshold 3000
namespace K01
open Sv
theorem fuel_of {n a : Nat} (h : n < 2 ^ a) (ha : a ≤ 200) : n < fuel := Nat.lt_of_lt_of_le h (Nat.pow_le_pow_right (by decide) ha)
theorem gcd_step {x y : Int} : Int.gcd y (x - x / y * y) = Int.gcd x y := by
  rw [Int.mul_comm, Int.gcd_sub_mul_left_right, Int.gcd_comm]
theorem gcd_modI {x y : Int} : Int.gcd y (x % y) = Int.gcd x y := by
  rw [Int.emod_def, Int.gcd_sub_mul_left_right, Int.gcd_comm]
theorem mod_eq {x y : Int} : x - x / y * y = x % y := by rw [Int.emod_def, Int.mul_comm]
theorem absOf {x : Int} : (if x < 0 then -x else x) = (x.natAbs : Int) := by omega
theorem natAbs_lt_of {x : Int} {a : Nat} (h0 : 0 ≤ x) {y : Int} (h1 : x ≤ y) (hy : y.natAbs < 2 ^ a) : x.natAbs < 2 ^ a := by omega
theorem div_lt {x y : Int} {a : Nat} (h : x.natAbs < 2 ^ a) : (x / y).natAbs < 2 ^ a := Nat.lt_of_le_of_lt (Int.natAbs_ediv_le_natAbs x y) h
theorem law_gcd {a b : Int} (ha : a.natAbs < 2 ^ 190) (hb : b.natAbs < 2 ^ 190) (ob : List OV) : F__law_gcd [.int a, .int b] ob = .ok false (.int (Int.gcd a b)) ob := by
  obtain ⟨s1, w1, x, rfl, hx⟩ := sWhile_inv (c := tTst (eBin opNe (eVar 1) (eC (.int 0)))) (g := sPar [0, 1] (aoCons (eVar 1) (aoCons (eBin opSub (eVar 0) (eBin opMul (eBin opDiv (eVar 0) (eVar 1)) (eVar 1))) aoNil)))
    (fun m s => ∃ x y : Int, s = ⟨[sI x, sI y], ob⟩ ∧ 0 ≤ x ∧ 0 ≤ y ∧ x.natAbs < 2 ^ 190 ∧ y.natAbs < 2 ^ 190 ∧ Int.gcd x y = Int.gcd a b ∧ m = y.natAbs)
    (fun s => ∃ x : Int, s = ⟨[sI x, sI 0], ob⟩ ∧ x = (Int.gcd a b : Int))
    (fun m s ⟨x, y, e, h0, h1, h2, h3, h4, hm⟩ => by
      subst e
      by_cases hc : y = 0
      · subst hc
        refine .inl ⟨?_, x, rfl, ?_⟩
        · simp only [mkFn, sCons, sNil, sSet, setOf, sExpr, sRet, retOf, sRetN, sIf, sRaise, sAug, sAsg, toS, gSet, gNil, gCons, gTup, gSub, sPar, storeAll, eC, eVar, eBin, eUn, eTup, eLst, eLstO, eIf, eAnd, eOr, eNot, eIs, isN, aNil, aCons, aoNil, aoCons, own, peek, frz, view, out1, out1_val, out1_tmp, R.bind, R.bindS, tTst, tAndS, tOrS, tNotS, eCall, afterF, sFor, iRng1, iRng2, iSeq, itemsOf, opAdd, opSub, opMul, opDiv, opMod, opPow, opNeg, opIMul, opIAdd, opLt, opLe, opGt, opGe, opEq_int, opNe_int, opLen, opAbs, opInt, opList, opTuple, opIx, eApp, isL, wr, List.map_cons, List.map_nil, List.length_cons, List.length_nil, List.replicate_succ, List.replicate_zero, List.cons_append, List.nil_append, List.append_nil, List.getElem?_cons_zero, List.getElem?_cons_succ, List.set_cons_zero, List.set_cons_succ, if_true, if_false, ite_true, ite_false, reduceIte, Bool.false_eq_true, Option.map_some, eUnl, eTupL, eDGet, opMax2, opMin2, opIDiv, opIMod, sParT, storeT, eChn, opLenD, opStr, zk1, zk2, zk3, zk4, zk5, zk6, zk7, zk8, zk0, Nat.reduceAdd, Nat.reduceSub, decide_true, Bool.not_true]
        · rw [← h4, Int.gcd_zero_right]; omega
      · have hp : 0 < y := by omega
        have hd := divOk hp h3 (by decide) (by decide)
        have hm1 : mulOk (x / y) y = true := mulOk_w (div_lt h2) h3 (by decide) (by decide) (by decide)
        have hlt := Int.emod_lt_of_pos x hp
        have hnn := Int.emod_nonneg x hc
        refine .inr ⟨?_, ⟨[sI y, sI (x - x / y * y)], ob⟩, (x - x / y * y).natAbs, ?_, ?_, y, x - x / y * y, rfl, h1, ?_, h3, ?_, ?_, rfl⟩
        · simp only [mkFn, sCons, sNil, sSet, setOf, sExpr, sRet, retOf, sRetN, sIf, sRaise, sAug, sAsg, toS, gSet, gNil, gCons, gTup, gSub, sPar, storeAll, eC, eVar, eBin, eUn, eTup, eLst, eLstO, eIf, eAnd, eOr, eNot, eIs, isN, aNil, aCons, aoNil, aoCons, own, peek, frz, view, out1, out1_val, out1_tmp, R.bind, R.bindS, tTst, tAndS, tOrS, tNotS, eCall, afterF, sFor, iRng1, iRng2, iSeq, itemsOf, opAdd, opSub, opMul, opDiv, opMod, opPow, opNeg, opIMul, opIAdd, opLt, opLe, opGt, opGe, opEq_int, opNe_int, opLen, opAbs, opInt, opList, opTuple, opIx, eApp, isL, wr, List.map_cons, List.map_nil, List.length_cons, List.length_nil, List.replicate_succ, List.replicate_zero, List.cons_append, List.nil_append, List.append_nil, List.getElem?_cons_zero, List.getElem?_cons_succ, List.set_cons_zero, List.set_cons_succ, if_true, if_false, ite_true, ite_false, reduceIte, Bool.false_eq_true, Option.map_some, eUnl, eTupL, eDGet, opMax2, opMin2, opIDiv, opIMod, sParT, storeT, eChn, opLenD, opStr, zk1, zk2, zk3, zk4, zk5, zk6, zk7, zk8, zk0, Nat.reduceAdd, Nat.reduceSub, decide_eq_false hc, Bool.not_false]
        · simp only [mkFn, sCons, sNil, sSet, setOf, sExpr, sRet, retOf, sRetN, sIf, sRaise, sAug, sAsg, toS, gSet, gNil, gCons, gTup, gSub, sPar, storeAll, eC, eVar, eBin, eUn, eTup, eLst, eLstO, eIf, eAnd, eOr, eNot, eIs, isN, aNil, aCons, aoNil, aoCons, own, peek, frz, view, out1, out1_val, out1_tmp, R.bind, R.bindS, tTst, tAndS, tOrS, tNotS, eCall, afterF, sFor, iRng1, iRng2, iSeq, itemsOf, opAdd, opSub, opMul, opDiv, opMod, opPow, opNeg, opIMul, opIAdd, opLt, opLe, opGt, opGe, opEq_int, opNe_int, opLen, opAbs, opInt, opList, opTuple, opIx, eApp, isL, wr, List.map_cons, List.map_nil, List.length_cons, List.length_nil, List.replicate_succ, List.replicate_zero, List.cons_append, List.nil_append, List.append_nil, List.getElem?_cons_zero, List.getElem?_cons_succ, List.set_cons_zero, List.set_cons_succ, if_true, if_false, ite_true, ite_false, reduceIte, Bool.false_eq_true, Option.map_some, eUnl, eTupL, eDGet, opMax2, opMin2, opIDiv, opIMod, sParT, storeT, eChn, opLenD, opStr, zk1, zk2, zk3, zk4, zk5, zk6, zk7, zk8, zk0, Nat.reduceAdd, Nat.reduceSub, if_pos hd, hm1]
        · rw [mod_eq]; omega
        · rw [mod_eq]; exact hnn
        · rw [mod_eq]; exact natAbs_lt_of hnn (Int.le_of_lt hlt) h3
        · rw [gcd_step]; exact h4)
    (s := ⟨[sI (if a < 0 then -a else a), sI (if b < 0 then -b else b)], ob⟩) ⟨_, _, rfl, by omega, by omega, by rw [absOf]; exact ha, by rw [absOf]; exact hb, by rw [absOf, absOf]; simp [Int.gcd], rfl⟩ (by rw [absOf]; exact fuel_of hb (by decide))
  subst hx
  unfold F__law_gcd b__law_gcd
  simp only [mkFn, sCons, sNil, sSet, setOf, sExpr, sRet, retOf, sRetN, sIf, sRaise, sAug, sAsg, toS, gSet, gNil, gCons, gTup, gSub, sPar, storeAll, eC, eVar, eBin, eUn, eTup, eLst, eLstO, eIf, eAnd, eOr, eNot, eIs, isN, aNil, aCons, aoNil, aoCons, own, peek, frz, view, out1, out1_val, out1_tmp, R.bind, R.bindS, tTst, tAndS, tOrS, tNotS, eCall, afterF, sFor, iRng1, iRng2, iSeq, itemsOf, opAdd, opSub, opMul, opDiv, opMod, opPow, opNeg, opIMul, opIAdd, opLt, opLe, opGt, opGe, opEq_int, opNe_int, opLen, opAbs, opInt, opList, opTuple, opIx, eApp, isL, wr, List.map_cons, List.map_nil, List.length_cons, List.length_nil, List.replicate_succ, List.replicate_zero, List.cons_append, List.nil_append, List.append_nil, List.getElem?_cons_zero, List.getElem?_cons_succ, List.set_cons_zero, List.set_cons_succ, if_true, if_false, ite_true, ite_false, reduceIte, Bool.false_eq_true, Option.map_some, eUnl, eTupL, eDGet, opMax2, opMin2, opIDiv, opIMod, sParT, storeT, eChn, opLenD, opStr, zk1, zk2, zk3, zk4, zk5, zk6, zk7, zk8, zk0, Nat.reduceAdd, Nat.reduceSub, Nat.reduceSub, Nat.reduceAdd, w1]
theorem common_div {a b : Int} (ha : a.natAbs < 2 ^ 190) (hb : b.natAbs < 2 ^ 190) (ob : List OV) : F_common_divisor [.int a, .int b] ob = .ok false (.int (Int.gcd a b)) ob := by
  obtain ⟨s1, w1, x, rfl, hx⟩ := sWhile_inv (c := tTst (eBin opNe (eVar 1) (eC (.int 0)))) (g := sPar [0, 1] (aoCons (eVar 1) (aoCons (eBin opMod (eVar 0) (eVar 1)) aoNil)))
    (fun m s => ∃ x y : Int, s = ⟨[sI x, sI y], ob⟩ ∧ 0 ≤ x ∧ 0 ≤ y ∧ Int.gcd x y = Int.gcd a b ∧ m = y.natAbs)
    (fun s => ∃ x : Int, s = ⟨[sI x, sI 0], ob⟩ ∧ x = (Int.gcd a b : Int))
    (fun m s ⟨x, y, e, h0, h1, h4, hm⟩ => by
      subst e
      by_cases hc : y = 0
      · subst hc
        refine .inl ⟨?_, x, rfl, ?_⟩
        · simp only [mkFn, sCons, sNil, sSet, setOf, sExpr, sRet, retOf, sRetN, sIf, sRaise, sAug, sAsg, toS, gSet, gNil, gCons, gTup, gSub, sPar, storeAll, eC, eVar, eBin, eUn, eTup, eLst, eLstO, eIf, eAnd, eOr, eNot, eIs, isN, aNil, aCons, aoNil, aoCons, own, peek, frz, view, out1, out1_val, out1_tmp, R.bind, R.bindS, tTst, tAndS, tOrS, tNotS, eCall, afterF, sFor, iRng1, iRng2, iSeq, itemsOf, opAdd, opSub, opMul, opDiv, opMod, opPow, opNeg, opIMul, opIAdd, opLt, opLe, opGt, opGe, opEq_int, opNe_int, opLen, opAbs, opInt, opList, opTuple, opIx, eApp, isL, wr, List.map_cons, List.map_nil, List.length_cons, List.length_nil, List.replicate_succ, List.replicate_zero, List.cons_append, List.nil_append, List.append_nil, List.getElem?_cons_zero, List.getElem?_cons_succ, List.set_cons_zero, List.set_cons_succ, if_true, if_false, ite_true, ite_false, reduceIte, Bool.false_eq_true, Option.map_some, eUnl, eTupL, eDGet, opMax2, opMin2, opIDiv, opIMod, sParT, storeT, eChn, opLenD, opStr, zk1, zk2, zk3, zk4, zk5, zk6, zk7, zk8, zk0, Nat.reduceAdd, Nat.reduceSub, decide_true, Bool.not_true]
        · rw [← h4, Int.gcd_zero_right]; omega
      · have hp : 0 < y := by omega
        have hlt := Int.emod_lt_of_pos x hp
        have hnn := Int.emod_nonneg x hc
        refine .inr ⟨?_, ⟨[sI y, sI (x % y)], ob⟩, (x % y).natAbs, ?_, ?_, y, x % y, rfl, h1, hnn, ?_, rfl⟩
        · simp only [mkFn, sCons, sNil, sSet, setOf, sExpr, sRet, retOf, sRetN, sIf, sRaise, sAug, sAsg, toS, gSet, gNil, gCons, gTup, gSub, sPar, storeAll, eC, eVar, eBin, eUn, eTup, eLst, eLstO, eIf, eAnd, eOr, eNot, eIs, isN, aNil, aCons, aoNil, aoCons, own, peek, frz, view, out1, out1_val, out1_tmp, R.bind, R.bindS, tTst, tAndS, tOrS, tNotS, eCall, afterF, sFor, iRng1, iRng2, iSeq, itemsOf, opAdd, opSub, opMul, opDiv, opMod, opPow, opNeg, opIMul, opIAdd, opLt, opLe, opGt, opGe, opEq_int, opNe_int, opLen, opAbs, opInt, opList, opTuple, opIx, eApp, isL, wr, List.map_cons, List.map_nil, List.length_cons, List.length_nil, List.replicate_succ, List.replicate_zero, List.cons_append, List.nil_append, List.append_nil, List.getElem?_cons_zero, List.getElem?_cons_succ, List.set_cons_zero, List.set_cons_succ, if_true, if_false, ite_true, ite_false, reduceIte, Bool.false_eq_true, Option.map_some, eUnl, eTupL, eDGet, opMax2, opMin2, opIDiv, opIMod, sParT, storeT, eChn, opLenD, opStr, zk1, zk2, zk3, zk4, zk5, zk6, zk7, zk8, zk0, Nat.reduceAdd, Nat.reduceSub, decide_eq_false hc, Bool.not_false]
        · simp only [mkFn, sCons, sNil, sSet, setOf, sExpr, sRet, retOf, sRetN, sIf, sRaise, sAug, sAsg, toS, gSet, gNil, gCons, gTup, gSub, sPar, storeAll, eC, eVar, eBin, eUn, eTup, eLst, eLstO, eIf, eAnd, eOr, eNot, eIs, isN, aNil, aCons, aoNil, aoCons, own, peek, frz, view, out1, out1_val, out1_tmp, R.bind, R.bindS, tTst, tAndS, tOrS, tNotS, eCall, afterF, sFor, iRng1, iRng2, iSeq, itemsOf, opAdd, opSub, opMul, opDiv, opMod, opPow, opNeg, opIMul, opIAdd, opLt, opLe, opGt, opGe, opEq_int, opNe_int, opLen, opAbs, opInt, opList, opTuple, opIx, eApp, isL, wr, List.map_cons, List.map_nil, List.length_cons, List.length_nil, List.replicate_succ, List.replicate_zero, List.cons_append, List.nil_append, List.append_nil, List.getElem?_cons_zero, List.getElem?_cons_succ, List.set_cons_zero, List.set_cons_succ, if_true, if_false, ite_true, ite_false, reduceIte, Bool.false_eq_true, Option.map_some, eUnl, eTupL, eDGet, opMax2, opMin2, opIDiv, opIMod, sParT, storeT, eChn, opLenD, opStr, zk1, zk2, zk3, zk4, zk5, zk6, zk7, zk8, zk0, Nat.reduceAdd, Nat.reduceSub, if_pos hp]
        · omega
        · rw [gcd_modI]; exact h4)
    (s := ⟨[sI (if a < 0 then -a else a), sI (if b < 0 then -b else b)], ob⟩) ⟨_, _, rfl, by omega, by omega, by rw [absOf, absOf]; simp [Int.gcd], rfl⟩ (by rw [absOf]; exact fuel_of hb (by decide))
  subst hx
  unfold F_common_divisor b_common_divisor
  simp only [mkFn, sCons, sNil, sSet, setOf, sExpr, sRet, retOf, sRetN, sIf, sRaise, sAug, sAsg, toS, gSet, gNil, gCons, gTup, gSub, sPar, storeAll, eC, eVar, eBin, eUn, eTup, eLst, eLstO, eIf, eAnd, eOr, eNot, eIs, isN, aNil, aCons, aoNil, aoCons, own, peek, frz, view, out1, out1_val, out1_tmp, R.bind, R.bindS, tTst, tAndS, tOrS, tNotS, eCall, afterF, sFor, iRng1, iRng2, iSeq, itemsOf, opAdd, opSub, opMul, opDiv, opMod, opPow, opNeg, opIMul, opIAdd, opLt, opLe, opGt, opGe, opEq_int, opNe_int, opLen, opAbs, opInt, opList, opTuple, opIx, eApp, isL, wr, List.map_cons, List.map_nil, List.length_cons, List.length_nil, List.replicate_succ, List.replicate_zero, List.cons_append, List.nil_append, List.append_nil, List.getElem?_cons_zero, List.getElem?_cons_succ, List.set_cons_zero, List.set_cons_succ, if_true, if_false, ite_true, ite_false, reduceIte, Bool.false_eq_true, Option.map_some, eUnl, eTupL, eDGet, opMax2, opMin2, opIDiv, opIMod, sParT, storeT, eChn, opLenD, opStr, zk1, zk2, zk3, zk4, zk5, zk6, zk7, zk8, zk0, Nat.reduceAdd, Nat.reduceSub, Nat.reduceSub, Nat.reduceAdd, w1]
/-! ### Euclid's rows -/
def tri (a b c : Int) : T := .tup [.int a, .int b, .int c]
theorem fdiv_facts {r0 r1 : Int} (h : r1 ≠ 0) : (r0 - r0.fdiv r1 * r1).natAbs < r1.natAbs ∧ (0 < r1 → 0 ≤ r0 - r0.fdiv r1 * r1) ∧ (r1 < 0 → r0 - r0.fdiv r1 * r1 ≤ 0) := by
  have e : r0 - r0.fdiv r1 * r1 = r0.fmod r1 := by rw [Int.fmod_def, Int.mul_comm]
  rw [e]
  rcases Int.lt_or_gt_of_ne h with h1 | h1
  · rw [Int.fmod_eq_emod]
    have a := Int.emod_nonneg r0 h
    have b : r0 % r1 < -r1 := by
      have := Int.emod_lt_of_pos r0 (b := -r1) (by omega)
      rwa [Int.emod_neg] at this
    split
    · rename_i hd
      have hd : r1 ∣ r0 := hd.resolve_left (by omega)
      rw [Int.emod_eq_zero_of_dvd hd]
      omega
    · omega
  · have a := Int.fmod_nonneg_of_pos r0 h1
    have b := Int.fmod_lt_of_pos r0 h1
    omega
theorem mul_le_abs {a b c : Int} (h : c = a * b) : c.natAbs = a.natAbs * b.natAbs := by rw [h, Int.natAbs_mul]
/-- the size of the second row's place -/
theorem row_bound {r0 r1 x0 x1 : Int} {B : Nat} (h : r1 ≠ 0) (hs : x1 = 0 ∨ 0 ≤ r0 * r1) (hB : r0.natAbs * x1.natAbs + r1.natAbs * x0.natAbs ≤ B) :
    r1.natAbs * (x0 - r0.fdiv r1 * x1).natAbs + (r0 - r0.fdiv r1 * r1).natAbs * x1.natAbs ≤ B := by
  obtain ⟨f1, f2, f3⟩ := fdiv_facts (r0 := r0) h
  rcases hs with hs | hs
  · subst hs
    simp only [Int.mul_zero, Int.sub_zero, Int.natAbs_zero, Nat.mul_zero, Nat.add_zero, Nat.zero_add] at hB ⊢
    exact hB
  · generalize hq : r0.fdiv r1 = q at *
    have key : (q * r1).natAbs + (r0 - q * r1).natAbs ≤ r0.natAbs := by
      rcases Int.lt_or_gt_of_ne h with h1 | h1
      · have a := f3 h1
        have b : r0 ≤ 0 := Classical.byContradiction fun z => by
          have := Int.mul_neg_of_pos_of_neg (show 0 < r0 by omega) h1
          omega
        have c : q * r1 ≤ 0 := Classical.byContradiction fun z => by
          have q1 : q < 0 := Classical.byContradiction fun z2 => z (by
            have := Int.mul_nonpos_of_nonneg_of_nonpos (show 0 ≤ q by omega) (Int.le_of_lt h1)
            omega)
          have : r0 - q * r1 < r0 := by omega
          have e1 : -r1 ≤ q * r1 := by
            have := Int.mul_le_mul_of_nonpos_right (show q ≤ -1 by omega) (Int.le_of_lt h1)
            omega
          omega
        omega
      · have a := f2 h1
        have b : 0 ≤ r0 := Classical.byContradiction fun z => by
          have := Int.mul_neg_of_neg_of_pos (show r0 < 0 by omega) h1
          omega
        have c : 0 ≤ q * r1 := Classical.byContradiction fun z => by
          have q1 : q < 0 := Classical.byContradiction fun z2 => z (Int.mul_nonneg (by omega) (Int.le_of_lt h1))
          have e1 : q * r1 ≤ -r1 := by
            have := Int.mul_le_mul_of_nonneg_right (show q ≤ -1 by omega) (Int.le_of_lt h1)
            omega
          omega
        omega
    have t1 : (x0 - q * x1).natAbs ≤ x0.natAbs + q.natAbs * x1.natAbs := by
      have := Int.natAbs_sub_le x0 (q * x1)
      rwa [Int.natAbs_mul] at this
    have t2 : r1.natAbs * (x0 - q * x1).natAbs ≤ r1.natAbs * x0.natAbs + (q * r1).natAbs * x1.natAbs := by
      have := Nat.mul_le_mul_left r1.natAbs t1
      rw [Int.natAbs_mul]
      have e : r1.natAbs * (x0.natAbs + q.natAbs * x1.natAbs) = r1.natAbs * x0.natAbs + q.natAbs * r1.natAbs * x1.natAbs := by
        rw [Nat.mul_add, ← Nat.mul_assoc, Nat.mul_comm r1.natAbs q.natAbs]
      omega
    have t3 : (q * r1).natAbs * x1.natAbs + (r0 - q * r1).natAbs * x1.natAbs ≤ r0.natAbs * x1.natAbs := by
      rw [← Nat.add_mul]
      exact Nat.mul_le_mul_right _ key
    omega
def bzT : S → R Bool := tTst (eBin opNe (eBin opIx (eBin opIx (eVar 2) (eC (.int 1))) (eC (.int 0))) (eC (.int 0)))
def bzB : S → RS := sCons (sSet 3 (eBin opDiv (eBin opIx (eBin opIx (eVar 2) (eC (.int 0))) (eC (.int 0))) (eBin opIx (eBin opIx (eVar 2) (eC (.int 1))) (eC (.int 0)))))
      (sSet 2 (eLst (aCons (eBin opIx (eVar 2) (eC (.int 1))) (aCons (eTupG [5, 6] (iZip (aCons (eBin opIx (eVar 2) (eC (.int 0))) (aCons (eBin opIx (eVar 2) (eC (.int 1))) aNil))) (gTup 2 (gCons (gSet 5) (gCons (gSet 6) gNil))) cYes (eBin opSub (eVar 5) (eBin opMul (eVar 3) (eVar 6)))) aNil))))
def opDivV (i j : Int) : Int := if 0 < j then i / j else i.fdiv j
theorem opDiv_at {i j : Int} {a : Nat} (h : j ≠ 0) (ha : j.natAbs < 2 ^ a) (h1 : 0 < a) (h9 : a ≤ 9000) : opDiv (.int i) (.int j) = some (false, .int (i.fdiv j)) := by
  have l : j.natAbs.log2 < 9000 := Nat.lt_of_lt_of_le (PySem.Flt.log2_lt_of h1 ha) h9
  unfold opDiv
  by_cases hp : 0 < j
  · simp only [if_pos (And.intro hp l), Int.fdiv_eq_ediv_of_nonneg i (Int.le_of_lt hp)]
  · have hn : j < 0 := by omega
    simp only [if_neg (fun z : 0 < j ∧ _ => hp z.1), if_pos (And.intro hn l)]
theorem bz_step {a b t : Option (Bool × T)} {r0 x0 y0 r1 x1 y1 : Int} {z4 z5 z6 z7 : Option (Bool × T)} {ob : List OV} (h : r1 ≠ 0) (h1 : r1.natAbs < 2 ^ 1000) (m1 : mulOk (r0.fdiv r1) r1 = true) (m2 : mulOk (r0.fdiv r1) x1 = true) (m3 : mulOk (r0.fdiv r1) y1 = true) :
    bzB ⟨[a, b, some (true, .lst [tri r0 x0 y0, tri r1 x1 y1]), t, z4, z5, z6, z7], ob⟩ =
      .nxt ⟨[a, b, some (true, .lst [tri r1 x1 y1, tri (r0 - r0.fdiv r1 * r1) (x0 - r0.fdiv r1 * x1) (y0 - r0.fdiv r1 * y1)]), sI (r0.fdiv r1), z4, z5, z6, z7], ob⟩ := by
  have i0 : ∀ x y : T, L2.atI [x, y] 0 = some x := fun _ _ => rfl
  have i1 : ∀ x y : T, L2.atI [x, y] 1 = some y := fun _ _ => rfl
  have j0 : ∀ x y z : T, L2.atI [x, y, z] 0 = some x := fun _ _ _ => rfl
  have hd := opDiv_at (i := r0) h h1 (by decide) (by decide)
  have z1 : szok 1 = true := rfl
  have z2 : szok 2 = true := rfl
  have z3 : szok 3 = true := rfl
  generalize r0.fdiv r1 = q at *
  unfold bzB tri
  cases z5 <;> cases z6 <;> simp only [mkFn, sCons, sNil, sSet, setOf, sExpr, sRet, retOf, sRetN, sIf, sRaise, sAug, sAsg, toS, gSet, gNil, gCons, gTup, gSub, sPar, storeAll, eC, eVar, eBin, eUn, eTup, eLst, eLstO, eIf, eAnd, eOr, eNot, eIs, isN, aNil, aCons, aoNil, aoCons, own, peek, frz, view, out1, out1_val, out1_tmp, R.bind, R.bindS, tTst, tAndS, tOrS, tNotS, eCall, afterF, sFor, iRng1, iRng2, iSeq, itemsOf, opAdd, opSub, opMul, opMod, opPow, opNeg, opIMul, opIAdd, opLt, opLe, opGt, opGe, opEq_int, opNe_int, opLen, opAbs, opInt, opList, opTuple, opIx, eApp, isL, wr, List.map_cons, List.map_nil, List.length_cons, List.length_nil, List.replicate_succ, List.replicate_zero, List.cons_append, List.nil_append, List.append_nil, List.getElem?_cons_zero, List.getElem?_cons_succ, List.set_cons_zero, List.set_cons_succ, if_true, if_false, ite_true, ite_false, reduceIte, Bool.false_eq_true, Option.map_some, eUnl, eTupL, eDGet, opMax2, opMin2, opIDiv, opIMod, sParT, storeT, eChn, opLenD, opStr, zk1, zk2, zk3, zk4, zk5, zk6, zk7, zk8, zk0, Nat.reduceAdd, Nat.reduceSub, i0, i1, j0, hd, eTupG, iZip, zipT, List.zipWith, compL, wipeS, backS, cYes, frz, m1, m2, m3, z1, z2, z3, Nat.reduceAdd, List.zipWith_cons_cons, List.zipWith_nil_left]
end K01

set_option exponentiation.threshold 3000
namespace K01
open Sv
theorem mulOk_q {q x : Int} (hq : q.natAbs < 2 ^ 200) (hx : x.natAbs < 2 ^ 600) : mulOk q x = true := mulOk_w hq hx (by decide) (by decide) (by decide)
/-- what Euclid's rows keep -/
structure Bz (a b r0 x0 y0 r1 x1 y1 : Int) : Prop where
  e0 : a * x0 + b * y0 = r0
  e1 : a * x1 + b * y1 = r1
  g : Int.gcd r0 r1 = Int.gcd a b
  l0 : r0.natAbs < 2 ^ 190
  l1 : r1.natAbs < 2 ^ 190
  s : x1 = 0 ∨ 0 ≤ r0 * r1
  B : r0.natAbs * x1.natAbs + r1.natAbs * x0.natAbs ≤ b.natAbs
  X0 : x0.natAbs ≤ b.natAbs + 1
  X1 : x1.natAbs ≤ b.natAbs + 1
  z : b = 0 → r1 = 0 ∧ y0 = 0
theorem y_small {a b x y r : Int} (h : a * x + b * y = r) (hb : b ≠ 0) (ha : a.natAbs < 2 ^ 190) (hb2 : b.natAbs < 2 ^ 190) (hr : r.natAbs < 2 ^ 190) (hx : x.natAbs ≤ b.natAbs + 1) : y.natAbs < 2 ^ 390 := by
  have e : b * y = r - a * x := by omega
  have e2 : (b * y).natAbs ≤ r.natAbs + (a * x).natAbs := by omega
  rw [Int.natAbs_mul, Int.natAbs_mul] at e2
  have h1 : 1 * y.natAbs ≤ b.natAbs * y.natAbs := Nat.mul_le_mul_right _ (by omega)
  have h2 : a.natAbs * x.natAbs ≤ 2 ^ 190 * 2 ^ 191 := Nat.mul_le_mul (by omega) (by omega)
  have h3 : (2 : Nat) ^ 190 + 2 ^ 190 * 2 ^ 191 < 2 ^ 390 := by decide
  omega
theorem Bz.step {a b r0 x0 y0 r1 x1 y1 : Int} (ha : a.natAbs < 2 ^ 190) (hb : b.natAbs < 2 ^ 190) (h : Bz a b r0 x0 y0 r1 x1 y1) (hr : r1 ≠ 0) :
    Bz a b r1 x1 y1 (r0 - r0.fdiv r1 * r1) (x0 - r0.fdiv r1 * x1) (y0 - r0.fdiv r1 * y1) ∧ mulOk (r0.fdiv r1) r1 = true ∧ mulOk (r0.fdiv r1) x1 = true ∧ mulOk (r0.fdiv r1) y1 = true ∧ (r0 - r0.fdiv r1 * r1).natAbs < r1.natAbs := by
  obtain ⟨e0, e1, g, l0, l1, s, B, X0, X1, z⟩ := h
  have hb0 : b ≠ 0 := fun e => hr (z e).1
  have rb := row_bound hr s B
  obtain ⟨f1, f2, f3⟩ := fdiv_facts (r0 := r0) hr
  have hq : (r0.fdiv r1).natAbs < 2 ^ 200 := Nat.lt_of_le_of_lt (Int.natAbs_fdiv_le_natAbs _ _) (Nat.lt_trans l0 (by decide))
  have hy1 := y_small e1 hb0 ha hb l1 X1
  refine ⟨⟨e1, ?_, ?_, l1, by omega, ?_, rb, X1, ?_, fun e => absurd e hb0⟩, mulOk_q hq (Nat.lt_trans l1 (by decide)), mulOk_q hq ?_, mulOk_q hq (Nat.lt_trans hy1 (by decide)), f1⟩
  · generalize r0.fdiv r1 = q at *
    rw [← e0, ← e1]
    simp only [Int.mul_sub, Int.mul_add, Int.mul_left_comm _ q]
    omega
  · rw [← g, Int.mul_comm, Int.gcd_sub_mul_left_right, Int.gcd_comm]
  · refine .inr ?_
    rcases Int.lt_or_gt_of_ne hr with h1 | h1
    · exact Int.mul_nonneg_of_nonpos_of_nonpos (Int.le_of_lt h1) (f3 h1)
    · exact Int.mul_nonneg (Int.le_of_lt h1) (f2 h1)
  · have h1 : 1 * (x0 - r0.fdiv r1 * x1).natAbs ≤ r1.natAbs * (x0 - r0.fdiv r1 * x1).natAbs := Nat.mul_le_mul_right _ (by omega)
    omega
  · have h2 : (2 : Nat) ^ 190 < 2 ^ 600 := by decide
    omega
theorem bezout_eq {a b : Int} (ha : a.natAbs < 2 ^ 190) (hb : b.natAbs < 2 ^ 190) (ob : List OV) : ∃ x y : Int, a * x + b * y = (Int.gcd a b : Int) ∧ x.natAbs < 2 ^ 400 ∧ y.natAbs < 2 ^ 400 ∧
    F_bezout [.int a, .int b] ob = .ok false (tri (Int.gcd a b) x y) ob := by
  have i0 : ∀ x y : T, L2.atI [x, y] 0 = some x := fun _ _ => rfl
  have i1 : ∀ x y : T, L2.atI [x, y] 1 = some y := fun _ _ => rfl
  have j0 : ∀ x y z : T, L2.atI [x, y, z] 0 = some x := fun _ _ _ => rfl
  obtain ⟨s1, w1, r0, x0, y0, x1, y1, t, rfl, hx⟩ := sWhile_inv (c := bzT) (g := bzB)
    (fun m s => ∃ r0 x0 y0 r1 x1 y1 t, s = ⟨[sI a, sI b, some (true, .lst [tri r0 x0 y0, tri r1 x1 y1]), t, none, none, none, none], ob⟩ ∧ Bz a b r0 x0 y0 r1 x1 y1 ∧ m = r1.natAbs)
    (fun s => ∃ r0 x0 y0 x1 y1 t, s = ⟨[sI a, sI b, some (true, .lst [tri r0 x0 y0, tri 0 x1 y1]), t, none, none, none, none], ob⟩ ∧ Bz a b r0 x0 y0 0 x1 y1)
    (fun m s ⟨r0, x0, y0, r1, x1, y1, t, e, hB, hm⟩ => by
      subst e
      by_cases hc : r1 = 0
      · subst hc
        refine .inl ⟨?_, r0, x0, y0, x1, y1, t, rfl, hB⟩
        unfold bzT tri
        simp only [mkFn, sCons, sNil, sSet, setOf, sExpr, sRet, retOf, sRetN, sIf, sRaise, sAug, sAsg, toS, gSet, gNil, gCons, gTup, gSub, sPar, storeAll, eC, eVar, eBin, eUn, eTup, eLst, eLstO, eIf, eAnd, eOr, eNot, eIs, isN, aNil, aCons, aoNil, aoCons, own, peek, frz, view, out1, out1_val, out1_tmp, R.bind, R.bindS, tTst, tAndS, tOrS, tNotS, eCall, afterF, sFor, iRng1, iRng2, iSeq, itemsOf, opAdd, opSub, opMul, opDiv, opMod, opPow, opNeg, opIMul, opIAdd, opLt, opLe, opGt, opGe, opEq_int, opNe_int, opLen, opAbs, opInt, opList, opTuple, opIx, eApp, isL, wr, List.map_cons, List.map_nil, List.length_cons, List.length_nil, List.replicate_succ, List.replicate_zero, List.cons_append, List.nil_append, List.append_nil, List.getElem?_cons_zero, List.getElem?_cons_succ, List.set_cons_zero, List.set_cons_succ, if_true, if_false, ite_true, ite_false, reduceIte, Bool.false_eq_true, Option.map_some, eUnl, eTupL, eDGet, opMax2, opMin2, opIDiv, opIMod, sParT, storeT, eChn, opLenD, opStr, zk1, zk2, zk3, zk4, zk5, zk6, zk7, zk8, zk0, Nat.reduceAdd, Nat.reduceSub, i0, i1, j0, decide_true, Bool.not_true]
      · obtain ⟨hB2, m1, m2, m3, hl⟩ := hB.step ha hb hc
        refine .inr ⟨?_, _, _, bz_step hc (Nat.lt_trans hB.l1 (by decide)) m1 m2 m3, ?_, _, _, _, _, _, _, _, rfl, hB2, rfl⟩
        · unfold bzT tri
          simp only [mkFn, sCons, sNil, sSet, setOf, sExpr, sRet, retOf, sRetN, sIf, sRaise, sAug, sAsg, toS, gSet, gNil, gCons, gTup, gSub, sPar, storeAll, eC, eVar, eBin, eUn, eTup, eLst, eLstO, eIf, eAnd, eOr, eNot, eIs, isN, aNil, aCons, aoNil, aoCons, own, peek, frz, view, out1, out1_val, out1_tmp, R.bind, R.bindS, tTst, tAndS, tOrS, tNotS, eCall, afterF, sFor, iRng1, iRng2, iSeq, itemsOf, opAdd, opSub, opMul, opDiv, opMod, opPow, opNeg, opIMul, opIAdd, opLt, opLe, opGt, opGe, opEq_int, opNe_int, opLen, opAbs, opInt, opList, opTuple, opIx, eApp, isL, wr, List.map_cons, List.map_nil, List.length_cons, List.length_nil, List.replicate_succ, List.replicate_zero, List.cons_append, List.nil_append, List.append_nil, List.getElem?_cons_zero, List.getElem?_cons_succ, List.set_cons_zero, List.set_cons_succ, if_true, if_false, ite_true, ite_false, reduceIte, Bool.false_eq_true, Option.map_some, eUnl, eTupL, eDGet, opMax2, opMin2, opIDiv, opIMod, sParT, storeT, eChn, opLenD, opStr, zk1, zk2, zk3, zk4, zk5, zk6, zk7, zk8, zk0, Nat.reduceAdd, Nat.reduceSub, i0, i1, j0, decide_eq_false hc, Bool.not_false]
        · omega)
    (s := ⟨[sI a, sI b, some (true, .lst [tri a 1 0, tri b 0 1]), none, none, none, none, none], ob⟩) ⟨_, _, _, _, _, _, _, rfl, ⟨by omega, by omega, rfl, ha, hb, .inl rfl, by rw [Int.natAbs_zero, Nat.mul_zero, Nat.zero_add]; exact Nat.le_of_eq (Nat.mul_one _), by omega, by omega, fun e => ⟨e, rfl⟩⟩, rfl⟩ (fuel_of hb (by decide))
  have hg : r0.natAbs = Int.gcd a b := by rw [← hx.g, Int.gcd_zero_right]
  have hxb : x0.natAbs < 2 ^ 400 := by
    have := hx.X0
    have h2 : (2 : Nat) ^ 190 + 1 < 2 ^ 400 := by decide
    omega
  have hyb : y0.natAbs < 2 ^ 400 := by
    by_cases h0 : b = 0
    · rw [(hx.z h0).2]; decide
    · exact Nat.lt_trans (y_small hx.e0 h0 ha hb hx.l0 hx.X0) (by decide)
  have e0 := hx.e0
  have hF : ∀ t', F_bezout [.int a, .int b] ob = .ok false t' ob ↔ F_bezout [.int a, .int b] ob = .ok false t' ob := fun _ => .rfl
  by_cases hn : r0 < 0
  · refine ⟨-x0, -y0, ?_, by omega, by omega, ?_⟩
    · rw [Int.mul_neg, Int.mul_neg]; omega
    · have e : (Int.gcd a b : Int) = 0 - r0 := by omega
      have ex : -x0 = 0 - x0 := by omega
      have ey : -y0 = 0 - y0 := by omega
      rw [e, ex, ey]
      unfold F_bezout b_bezout
      unfold tri bzT bzB at *
      have z1 : szok 1 = true := rfl
      have z2 : szok 2 = true := rfl
      have z3 : szok 3 = true := rfl
      simp only [mkFn, sCons, sNil, sSet, setOf, sExpr, sRet, retOf, sRetN, sIf, sRaise, sAug, sAsg, toS, gSet, gNil, gCons, gTup, gSub, sPar, storeAll, eC, eVar, eBin, eUn, eTup, eLst, eLstO, eIf, eAnd, eOr, eNot, eIs, isN, aNil, aCons, aoNil, aoCons, own, peek, frz, view, out1, out1_val, out1_tmp, R.bind, R.bindS, tTst, tAndS, tOrS, tNotS, eCall, afterF, sFor, iRng1, iRng2, iSeq, itemsOf, opAdd, opSub, opMul, opDiv, opMod, opPow, opNeg, opIMul, opIAdd, opLt, opLe, opGt, opGe, opEq_int, opNe_int, opLen, opAbs, opInt, opList, opTuple, opIx, eApp, isL, wr, List.map_cons, List.map_nil, List.length_cons, List.length_nil, List.replicate_succ, List.replicate_zero, List.cons_append, List.nil_append, List.append_nil, List.getElem?_cons_zero, List.getElem?_cons_succ, List.set_cons_zero, List.set_cons_succ, if_true, if_false, ite_true, ite_false, reduceIte, Bool.false_eq_true, Option.map_some, eUnl, eTupL, eDGet, opMax2, opMin2, opIDiv, opIMod, sParT, storeT, eChn, opLenD, opStr, zk1, zk2, zk3, zk4, zk5, zk6, zk7, zk8, zk0, Nat.reduceAdd, Nat.reduceSub, Nat.reduceSub, Nat.reduceAdd, w1, i0, j0, decide_eq_true hn, eTupG, iSeq, itemsOf, compL, wipeS, backS, cYes, frz, z1, z2, z3]
  · refine ⟨x0, y0, by omega, hxb, hyb, ?_⟩
    have e : (Int.gcd a b : Int) = r0 := by omega
    rw [e]
    unfold F_bezout b_bezout
    unfold tri bzT bzB at *
    simp only [mkFn, sCons, sNil, sSet, setOf, sExpr, sRet, retOf, sRetN, sIf, sRaise, sAug, sAsg, toS, gSet, gNil, gCons, gTup, gSub, sPar, storeAll, eC, eVar, eBin, eUn, eTup, eLst, eLstO, eIf, eAnd, eOr, eNot, eIs, isN, aNil, aCons, aoNil, aoCons, own, peek, frz, view, out1, out1_val, out1_tmp, R.bind, R.bindS, tTst, tAndS, tOrS, tNotS, eCall, afterF, sFor, iRng1, iRng2, iSeq, itemsOf, opAdd, opSub, opMul, opDiv, opMod, opPow, opNeg, opIMul, opIAdd, opLt, opLe, opGt, opGe, opEq_int, opNe_int, opLen, opAbs, opInt, opList, opTuple, opIx, eApp, isL, wr, List.map_cons, List.map_nil, List.length_cons, List.length_nil, List.replicate_succ, List.replicate_zero, List.cons_append, List.nil_append, List.append_nil, List.getElem?_cons_zero, List.getElem?_cons_succ, List.set_cons_zero, List.set_cons_succ, if_true, if_false, ite_true, ite_false, reduceIte, Bool.false_eq_true, Option.map_some, eUnl, eTupL, eDGet, opMax2, opMin2, opIDiv, opIMod, sParT, storeT, eChn, opLenD, opStr, zk1, zk2, zk3, zk4, zk5, zk6, zk7, zk8, zk0, Nat.reduceAdd, Nat.reduceSub, Nat.reduceSub, Nat.reduceAdd, w1, i0, j0, decide_eq_false hn]
end K01

set_option exponentiation.threshold 3000
namespace K01
open Sv
theorem pow_run {b : Int} (hb : b.natAbs < 2 ^ 200) (N : Option (Bool × T)) (ob : List OV) : ∀ (k m : Nat) (lo x : Int) (z : Option (Bool × T)), x.natAbs < 2 ^ (200 * m) → 0 < m → m + k ≤ 100 →
    ∃ z', forL (gSet 3) (sAug opIMul 2 (eVar 0)) (rngT lo k) ⟨[sI b, N, sI x, z], ob⟩ = .nxt ⟨[sI b, N, sI (x * b ^ k), z'], ob⟩
  | 0, m, lo, x, z, hx, h0, hm => ⟨z, by rw [rngT_zero, forL, Int.pow_zero, Int.mul_one]⟩
  | k + 1, m, lo, x, z, hx, h0, hm => by
    have hmo : mulOk x b = true := mulOk_w hx hb (by omega) (by decide) (by omega)
    have hx2 : (x * b).natAbs < 2 ^ (200 * (m + 1)) := by
      rw [Int.natAbs_mul, Nat.mul_add, Nat.mul_one, Nat.pow_add]
      exact Nat.mul_lt_mul'' hx hb
    obtain ⟨z', e⟩ := pow_run hb N ob k (m + 1) (lo + 1) (x * b) (sI lo) hx2 (by omega) (by omega)
    refine ⟨z', ?_⟩
    rw [rngT_succ, forL_cons_nxt (s1 := ⟨[sI b, N, sI x, sI lo], ob⟩) (s2 := ⟨[sI b, N, sI (x * b), sI lo], ob⟩) (by simp only [mkFn, sCons, sNil, sSet, setOf, sExpr, sRet, retOf, sRetN, sIf, sRaise, sAug, sAsg, toS, gSet, gNil, gCons, gTup, gSub, sPar, storeAll, eC, eVar, eBin, eUn, eTup, eLst, eLstO, eIf, eAnd, eOr, eNot, eIs, isN, aNil, aCons, aoNil, aoCons, own, peek, frz, view, out1, out1_val, out1_tmp, R.bind, R.bindS, tTst, tAndS, tOrS, tNotS, eCall, afterF, sFor, iRng1, iRng2, iSeq, itemsOf, opAdd, opSub, opMul, opDiv, opMod, opPow, opNeg, opIMul, opIAdd, opLt, opLe, opGt, opGe, opEq_int, opNe_int, opLen, opAbs, opInt, opList, opTuple, opIx, eApp, isL, wr, List.map_cons, List.map_nil, List.length_cons, List.length_nil, List.replicate_succ, List.replicate_zero, List.cons_append, List.nil_append, List.append_nil, List.getElem?_cons_zero, List.getElem?_cons_succ, List.set_cons_zero, List.set_cons_succ, if_true, if_false, ite_true, ite_false, reduceIte, Bool.false_eq_true, Option.map_some, eUnl, eTupL, eDGet, opMax2, opMin2, opIDiv, opIMod, sParT, storeT, eChn, opLenD, opStr, zk1, zk2, zk3, zk4, zk5, zk6, zk7, zk8, zk0, Nat.reduceAdd, Nat.reduceSub]) (by simp only [mkFn, sCons, sNil, sSet, setOf, sExpr, sRet, retOf, sRetN, sIf, sRaise, sAug, sAsg, toS, gSet, gNil, gCons, gTup, gSub, sPar, storeAll, eC, eVar, eBin, eUn, eTup, eLst, eLstO, eIf, eAnd, eOr, eNot, eIs, isN, aNil, aCons, aoNil, aoCons, own, peek, frz, view, out1, out1_val, out1_tmp, R.bind, R.bindS, tTst, tAndS, tOrS, tNotS, eCall, afterF, sFor, iRng1, iRng2, iSeq, itemsOf, opAdd, opSub, opMul, opDiv, opMod, opPow, opNeg, opIMul, opIAdd, opLt, opLe, opGt, opGe, opEq_int, opNe_int, opLen, opAbs, opInt, opList, opTuple, opIx, eApp, isL, wr, List.map_cons, List.map_nil, List.length_cons, List.length_nil, List.replicate_succ, List.replicate_zero, List.cons_append, List.nil_append, List.append_nil, List.getElem?_cons_zero, List.getElem?_cons_succ, List.set_cons_zero, List.set_cons_succ, if_true, if_false, ite_true, ite_false, reduceIte, Bool.false_eq_true, Option.map_some, eUnl, eTupL, eDGet, opMax2, opMin2, opIDiv, opIMod, sParT, storeT, eChn, opLenD, opStr, zk1, zk2, zk3, zk4, zk5, zk6, zk7, zk8, zk0, Nat.reduceAdd, Nat.reduceSub, hmo]), e, Int.pow_succ, Int.mul_assoc, Int.mul_comm b]
theorem power_eq {b n : Int} (hb : b.natAbs < 2 ^ 200) (h0 : 0 ≤ n) (h1 : n ≤ 90) (ob : List OV) : F_power [.int b, .int n] ob = .ok false (.int (b ^ n.toNat)) ob := by
  obtain ⟨z', e⟩ := pow_run hb (sI n) ob n.toNat 1 0 1 none (by decide) (by decide) (by omega)
  rw [Int.one_mul] at e
  unfold F_power b_power
  simp only [mkFn, sCons, sNil, sSet, setOf, sExpr, sRet, retOf, sRetN, sIf, sRaise, sAug, sAsg, toS, gSet, gNil, gCons, gTup, gSub, sPar, storeAll, eC, eVar, eBin, eUn, eTup, eLst, eLstO, eIf, eAnd, eOr, eNot, eIs, isN, aNil, aCons, aoNil, aoCons, own, peek, frz, view, out1, out1_val, out1_tmp, R.bind, R.bindS, tTst, tAndS, tOrS, tNotS, eCall, afterF, sFor, iRng1, iRng2, iSeq, itemsOf, opAdd, opSub, opMul, opDiv, opMod, opPow, opNeg, opIMul, opIAdd, opLt, opLe, opGt, opGe, opEq_int, opNe_int, opLen, opAbs, opInt, opList, opTuple, opIx, eApp, isL, wr, List.map_cons, List.map_nil, List.length_cons, List.length_nil, List.replicate_succ, List.replicate_zero, List.cons_append, List.nil_append, List.append_nil, List.getElem?_cons_zero, List.getElem?_cons_succ, List.set_cons_zero, List.set_cons_succ, if_true, if_false, ite_true, ite_false, reduceIte, Bool.false_eq_true, Option.map_some, eUnl, eTupL, eDGet, opMax2, opMin2, opIDiv, opIMod, sParT, storeT, eChn, opLenD, opStr, zk1, zk2, zk3, zk4, zk5, zk6, zk7, zk8, zk0, Nat.reduceAdd, Nat.reduceSub, Nat.reduceSub, Nat.reduceAdd]
  rw [if_pos (by omega)]
  simp only [mkFn, sCons, sNil, sSet, setOf, sExpr, sRet, retOf, sRetN, sIf, sRaise, sAug, sAsg, toS, gSet, gNil, gCons, gTup, gSub, sPar, storeAll, eC, eVar, eBin, eUn, eTup, eLst, eLstO, eIf, eAnd, eOr, eNot, eIs, isN, aNil, aCons, aoNil, aoCons, own, peek, frz, view, out1, out1_val, out1_tmp, R.bind, R.bindS, tTst, tAndS, tOrS, tNotS, eCall, afterF, sFor, iRng1, iRng2, iSeq, itemsOf, opAdd, opSub, opMul, opDiv, opMod, opPow, opNeg, opIMul, opIAdd, opLt, opLe, opGt, opGe, opEq_int, opNe_int, opLen, opAbs, opInt, opList, opTuple, opIx, eApp, isL, wr, List.map_cons, List.map_nil, List.length_cons, List.length_nil, List.replicate_succ, List.replicate_zero, List.cons_append, List.nil_append, List.append_nil, List.getElem?_cons_zero, List.getElem?_cons_succ, List.set_cons_zero, List.set_cons_succ, if_true, if_false, ite_true, ite_false, reduceIte, Bool.false_eq_true, Option.map_some, eUnl, eTupL, eDGet, opMax2, opMin2, opIDiv, opIMod, sParT, storeT, eChn, opLenD, opStr, zk1, zk2, zk3, zk4, zk5, zk6, zk7, zk8, zk0, Nat.reduceAdd, Nat.reduceSub, e]
theorem le_pow {h : Int} (h1 : 1 ≤ h) : ∀ k : Nat, 1 ≤ h ^ k
  | 0 => by rw [Int.pow_zero]; omega
  | k + 1 => by
    have a := le_pow h1 k
    rw [Int.pow_succ]
    have := Int.mul_le_mul_of_nonneg_left h1 (show 0 ≤ h ^ k by omega)
    omega
theorem le_pow1 {h : Int} (h1 : 1 ≤ h) {k : Nat} (hk : 1 ≤ k) : h ≤ h ^ k := by
  obtain ⟨j, rfl⟩ : ∃ j, k = j + 1 := ⟨k - 1, by omega⟩
  have a := le_pow h1 j
  rw [Int.pow_succ]
  have := Int.mul_le_mul_of_nonneg_right a (show 0 ≤ h by omega)
  omega
abbrev q1T : S → R Bool := tTst (eBin opLe (eCall F_power (aCons (eVar 3) (aCons (eVar 1) aNil))) (eVar 0))
theorem root_eq {n k : Int} (h0 : 0 ≤ n) (hn : n.natAbs < 2 ^ 190) (hk1 : 1 ≤ k) (hk : k ≤ 4) (ob : List OV) : ∃ r : Int, 0 ≤ r ∧ r ≤ n ∧ r ^ k.toNat ≤ n ∧ n < (r + 1) ^ k.toNat ∧ F_root_below [.int n, .int k] ob = .ok false (.int r) ob := by
  have e0 : decide (n < 0) = false := decide_eq_false (by omega)
  have e1 : decide (k < 1) = false := decide_eq_false (by omega)
  have hnn : n < 2 ^ 190 := by omega
  have pw : ∀ h : Int, h.natAbs < 2 ^ 200 → F_power [.int h, .int k] ob = .ok false (.int (h ^ k.toNat)) ob := fun h hh => power_eq hh (by omega) (by omega) ob
  obtain ⟨s1, w1, h, rfl, h1, h2, h3⟩ := sWhile_inv (c := tTst (eBin opLe (eCall F_power (aCons (eVar 3) (aCons (eVar 1) aNil))) (eVar 0))) (g := sAug opIMul 3 (eC (.int 2)))
    (fun m s => ∃ h : Int, s = ⟨[sI n, sI k, sI 0, sI h, none], ob⟩ ∧ 1 ≤ h ∧ h ≤ 2 * n + 1 ∧ m = (2 * n + 1 - h).toNat)
    (fun s => ∃ h : Int, s = ⟨[sI n, sI k, sI 0, sI h, none], ob⟩ ∧ 1 ≤ h ∧ h ≤ 2 * n + 1 ∧ n < h ^ k.toNat)
    (fun m s ⟨h, e, h1, h2, hm⟩ => by
      subst e
      have hp : h.natAbs < 2 ^ 200 := by omega
      have hp2 : mulOk h 2 = true := mulOk_r (by decide)
      by_cases hc : h ^ k.toNat ≤ n
      · have hle : h ≤ n := by
          have := le_pow1 h1 (k := k.toNat) (by omega)
          omega
        refine .inr ⟨?_, ⟨[sI n, sI k, sI 0, sI (h * 2), none], ob⟩, (2 * n + 1 - h * 2).toNat, ?_, ?_, h * 2, rfl, by omega, by omega, rfl⟩
        · simp only [mkFn, sCons, sNil, sSet, setOf, sExpr, sRet, retOf, sRetN, sIf, sRaise, sAug, sAsg, toS, gSet, gNil, gCons, gTup, gSub, sPar, storeAll, eC, eVar, eBin, eUn, eTup, eLst, eLstO, eIf, eAnd, eOr, eNot, eIs, isN, aNil, aCons, aoNil, aoCons, own, peek, frz, view, out1, out1_val, out1_tmp, R.bind, R.bindS, tTst, tAndS, tOrS, tNotS, eCall, afterF, sFor, iRng1, iRng2, iSeq, itemsOf, opAdd, opSub, opMul, opDiv, opMod, opPow, opNeg, opIMul, opIAdd, opLt, opLe, opGt, opGe, opEq_int, opNe_int, opLen, opAbs, opInt, opList, opTuple, opIx, eApp, isL, wr, List.map_cons, List.map_nil, List.length_cons, List.length_nil, List.replicate_succ, List.replicate_zero, List.cons_append, List.nil_append, List.append_nil, List.getElem?_cons_zero, List.getElem?_cons_succ, List.set_cons_zero, List.set_cons_succ, if_true, if_false, ite_true, ite_false, reduceIte, Bool.false_eq_true, Option.map_some, eUnl, eTupL, eDGet, opMax2, opMin2, opIDiv, opIMod, sParT, storeT, eChn, opLenD, opStr, zk1, zk2, zk3, zk4, zk5, zk6, zk7, zk8, zk0, Nat.reduceAdd, Nat.reduceSub, pw h hp, decide_eq_true hc]
        · simp only [mkFn, sCons, sNil, sSet, setOf, sExpr, sRet, retOf, sRetN, sIf, sRaise, sAug, sAsg, toS, gSet, gNil, gCons, gTup, gSub, sPar, storeAll, eC, eVar, eBin, eUn, eTup, eLst, eLstO, eIf, eAnd, eOr, eNot, eIs, isN, aNil, aCons, aoNil, aoCons, own, peek, frz, view, out1, out1_val, out1_tmp, R.bind, R.bindS, tTst, tAndS, tOrS, tNotS, eCall, afterF, sFor, iRng1, iRng2, iSeq, itemsOf, opAdd, opSub, opMul, opDiv, opMod, opPow, opNeg, opIMul, opIAdd, opLt, opLe, opGt, opGe, opEq_int, opNe_int, opLen, opAbs, opInt, opList, opTuple, opIx, eApp, isL, wr, List.map_cons, List.map_nil, List.length_cons, List.length_nil, List.replicate_succ, List.replicate_zero, List.cons_append, List.nil_append, List.append_nil, List.getElem?_cons_zero, List.getElem?_cons_succ, List.set_cons_zero, List.set_cons_succ, if_true, if_false, ite_true, ite_false, reduceIte, Bool.false_eq_true, Option.map_some, eUnl, eTupL, eDGet, opMax2, opMin2, opIDiv, opIMod, sParT, storeT, eChn, opLenD, opStr, zk1, zk2, zk3, zk4, zk5, zk6, zk7, zk8, zk0, Nat.reduceAdd, Nat.reduceSub, hp2]
        · omega
      · refine .inl ⟨?_, h, rfl, h1, h2, by omega⟩
        simp only [mkFn, sCons, sNil, sSet, setOf, sExpr, sRet, retOf, sRetN, sIf, sRaise, sAug, sAsg, toS, gSet, gNil, gCons, gTup, gSub, sPar, storeAll, eC, eVar, eBin, eUn, eTup, eLst, eLstO, eIf, eAnd, eOr, eNot, eIs, isN, aNil, aCons, aoNil, aoCons, own, peek, frz, view, out1, out1_val, out1_tmp, R.bind, R.bindS, tTst, tAndS, tOrS, tNotS, eCall, afterF, sFor, iRng1, iRng2, iSeq, itemsOf, opAdd, opSub, opMul, opDiv, opMod, opPow, opNeg, opIMul, opIAdd, opLt, opLe, opGt, opGe, opEq_int, opNe_int, opLen, opAbs, opInt, opList, opTuple, opIx, eApp, isL, wr, List.map_cons, List.map_nil, List.length_cons, List.length_nil, List.replicate_succ, List.replicate_zero, List.cons_append, List.nil_append, List.append_nil, List.getElem?_cons_zero, List.getElem?_cons_succ, List.set_cons_zero, List.set_cons_succ, if_true, if_false, ite_true, ite_false, reduceIte, Bool.false_eq_true, Option.map_some, eUnl, eTupL, eDGet, opMax2, opMin2, opIDiv, opIMod, sParT, storeT, eChn, opLenD, opStr, zk1, zk2, zk3, zk4, zk5, zk6, zk7, zk8, zk0, Nat.reduceAdd, Nat.reduceSub, pw h hp, decide_eq_false hc])
    (s := ⟨[sI n, sI k, sI 0, sI 1, none], ob⟩) ⟨1, rfl, by omega, by omega, rfl⟩ (fuel_of (a := 192) (by omega) (by decide))
  obtain ⟨s2, w2, l, h, mid, rfl, k1, k5, k2, k3⟩ := sWhile_inv (c := tTst (eBin opGt (eBin opSub (eVar 3) (eVar 2)) (eC (.int 1)))) (g := sCons (sSet 4 (eBin opDiv (eBin opAdd (eVar 2) (eVar 3)) (eC (.int 2))))
      (sIf (tTst (eBin opLe (eCall F_power (aCons (eVar 4) (aCons (eVar 1) aNil))) (eVar 0))) (sSet 2 (eVar 4)) (sSet 3 (eVar 4))))
    (fun m s => ∃ (l h : Int) (mid : Option (Bool × T)), s = ⟨[sI n, sI k, sI l, sI h, mid], ob⟩ ∧ 0 ≤ l ∧ l ≤ n ∧ l < h ∧ h ≤ 2 * n + 1 ∧ l ^ k.toNat ≤ n ∧ n < h ^ k.toNat ∧ m = (h - l).toNat)
    (fun s => ∃ (l h : Int) (mid : Option (Bool × T)), s = ⟨[sI n, sI k, sI l, sI h, mid], ob⟩ ∧ 0 ≤ l ∧ l ≤ n ∧ l ^ k.toNat ≤ n ∧ n < (l + 1) ^ k.toNat)
    (fun m s ⟨l, h, mid, e, h1, h6, h2, h3, h4, h5, hm⟩ => by
      subst e
      by_cases hc : 1 < h - l
      · have hd : decide ((1 : Int) < h - l) = true := decide_eq_true hc
        have hp : ((l + h) / 2).natAbs < 2 ^ 200 := by omega
        have hg : (0 : Int) < 2 ∧ (2 : Int).natAbs.log2 < 9000 := by decide
        by_cases hq : ((l + h) / 2) ^ k.toNat ≤ n
        · have hle := le_pow1 (show 1 ≤ (l + h) / 2 by omega) (k := k.toNat) (by omega)
          refine .inr ⟨?_, ⟨[sI n, sI k, sI ((l + h) / 2), sI h, sI ((l + h) / 2)], ob⟩, (h - (l + h) / 2).toNat, ?_, ?_, (l + h) / 2, h, _, rfl, by omega, by omega, by omega, h3, hq, h5, rfl⟩
          · simp only [mkFn, sCons, sNil, sSet, setOf, sExpr, sRet, retOf, sRetN, sIf, sRaise, sAug, sAsg, toS, gSet, gNil, gCons, gTup, gSub, sPar, storeAll, eC, eVar, eBin, eUn, eTup, eLst, eLstO, eIf, eAnd, eOr, eNot, eIs, isN, aNil, aCons, aoNil, aoCons, own, peek, frz, view, out1, out1_val, out1_tmp, R.bind, R.bindS, tTst, tAndS, tOrS, tNotS, eCall, afterF, sFor, iRng1, iRng2, iSeq, itemsOf, opAdd, opSub, opMul, opDiv, opMod, opPow, opNeg, opIMul, opIAdd, opLt, opLe, opGt, opGe, opEq_int, opNe_int, opLen, opAbs, opInt, opList, opTuple, opIx, eApp, isL, wr, List.map_cons, List.map_nil, List.length_cons, List.length_nil, List.replicate_succ, List.replicate_zero, List.cons_append, List.nil_append, List.append_nil, List.getElem?_cons_zero, List.getElem?_cons_succ, List.set_cons_zero, List.set_cons_succ, if_true, if_false, ite_true, ite_false, reduceIte, Bool.false_eq_true, Option.map_some, eUnl, eTupL, eDGet, opMax2, opMin2, opIDiv, opIMod, sParT, storeT, eChn, opLenD, opStr, zk1, zk2, zk3, zk4, zk5, zk6, zk7, zk8, zk0, Nat.reduceAdd, Nat.reduceSub, hd]
          · simp only [mkFn, sCons, sNil, sSet, setOf, sExpr, sRet, retOf, sRetN, sIf, sRaise, sAug, sAsg, toS, gSet, gNil, gCons, gTup, gSub, sPar, storeAll, eC, eVar, eBin, eUn, eTup, eLst, eLstO, eIf, eAnd, eOr, eNot, eIs, isN, aNil, aCons, aoNil, aoCons, own, peek, frz, view, out1, out1_val, out1_tmp, R.bind, R.bindS, tTst, tAndS, tOrS, tNotS, eCall, afterF, sFor, iRng1, iRng2, iSeq, itemsOf, opAdd, opSub, opMul, opDiv, opMod, opPow, opNeg, opIMul, opIAdd, opLt, opLe, opGt, opGe, opEq_int, opNe_int, opLen, opAbs, opInt, opList, opTuple, opIx, eApp, isL, wr, List.map_cons, List.map_nil, List.length_cons, List.length_nil, List.replicate_succ, List.replicate_zero, List.cons_append, List.nil_append, List.append_nil, List.getElem?_cons_zero, List.getElem?_cons_succ, List.set_cons_zero, List.set_cons_succ, if_true, if_false, ite_true, ite_false, reduceIte, Bool.false_eq_true, Option.map_some, eUnl, eTupL, eDGet, opMax2, opMin2, opIDiv, opIMod, sParT, storeT, eChn, opLenD, opStr, zk1, zk2, zk3, zk4, zk5, zk6, zk7, zk8, zk0, Nat.reduceAdd, Nat.reduceSub, if_pos hg, pw _ hp, decide_eq_true hq]
          · omega
        · refine .inr ⟨?_, ⟨[sI n, sI k, sI l, sI ((l + h) / 2), sI ((l + h) / 2)], ob⟩, ((l + h) / 2 - l).toNat, ?_, ?_, l, (l + h) / 2, _, rfl, h1, h6, by omega, by omega, h4, by omega, rfl⟩
          · simp only [mkFn, sCons, sNil, sSet, setOf, sExpr, sRet, retOf, sRetN, sIf, sRaise, sAug, sAsg, toS, gSet, gNil, gCons, gTup, gSub, sPar, storeAll, eC, eVar, eBin, eUn, eTup, eLst, eLstO, eIf, eAnd, eOr, eNot, eIs, isN, aNil, aCons, aoNil, aoCons, own, peek, frz, view, out1, out1_val, out1_tmp, R.bind, R.bindS, tTst, tAndS, tOrS, tNotS, eCall, afterF, sFor, iRng1, iRng2, iSeq, itemsOf, opAdd, opSub, opMul, opDiv, opMod, opPow, opNeg, opIMul, opIAdd, opLt, opLe, opGt, opGe, opEq_int, opNe_int, opLen, opAbs, opInt, opList, opTuple, opIx, eApp, isL, wr, List.map_cons, List.map_nil, List.length_cons, List.length_nil, List.replicate_succ, List.replicate_zero, List.cons_append, List.nil_append, List.append_nil, List.getElem?_cons_zero, List.getElem?_cons_succ, List.set_cons_zero, List.set_cons_succ, if_true, if_false, ite_true, ite_false, reduceIte, Bool.false_eq_true, Option.map_some, eUnl, eTupL, eDGet, opMax2, opMin2, opIDiv, opIMod, sParT, storeT, eChn, opLenD, opStr, zk1, zk2, zk3, zk4, zk5, zk6, zk7, zk8, zk0, Nat.reduceAdd, Nat.reduceSub, hd]
          · simp only [mkFn, sCons, sNil, sSet, setOf, sExpr, sRet, retOf, sRetN, sIf, sRaise, sAug, sAsg, toS, gSet, gNil, gCons, gTup, gSub, sPar, storeAll, eC, eVar, eBin, eUn, eTup, eLst, eLstO, eIf, eAnd, eOr, eNot, eIs, isN, aNil, aCons, aoNil, aoCons, own, peek, frz, view, out1, out1_val, out1_tmp, R.bind, R.bindS, tTst, tAndS, tOrS, tNotS, eCall, afterF, sFor, iRng1, iRng2, iSeq, itemsOf, opAdd, opSub, opMul, opDiv, opMod, opPow, opNeg, opIMul, opIAdd, opLt, opLe, opGt, opGe, opEq_int, opNe_int, opLen, opAbs, opInt, opList, opTuple, opIx, eApp, isL, wr, List.map_cons, List.map_nil, List.length_cons, List.length_nil, List.replicate_succ, List.replicate_zero, List.cons_append, List.nil_append, List.append_nil, List.getElem?_cons_zero, List.getElem?_cons_succ, List.set_cons_zero, List.set_cons_succ, if_true, if_false, ite_true, ite_false, reduceIte, Bool.false_eq_true, Option.map_some, eUnl, eTupL, eDGet, opMax2, opMin2, opIDiv, opIMod, sParT, storeT, eChn, opLenD, opStr, zk1, zk2, zk3, zk4, zk5, zk6, zk7, zk8, zk0, Nat.reduceAdd, Nat.reduceSub, if_pos hg, pw _ hp, decide_eq_false hq]
          · omega
      · have e : h = l + 1 := by omega
        subst e
        refine .inl ⟨?_, l, l + 1, mid, rfl, h1, h6, h4, h5⟩
        simp only [mkFn, sCons, sNil, sSet, setOf, sExpr, sRet, retOf, sRetN, sIf, sRaise, sAug, sAsg, toS, gSet, gNil, gCons, gTup, gSub, sPar, storeAll, eC, eVar, eBin, eUn, eTup, eLst, eLstO, eIf, eAnd, eOr, eNot, eIs, isN, aNil, aCons, aoNil, aoCons, own, peek, frz, view, out1, out1_val, out1_tmp, R.bind, R.bindS, tTst, tAndS, tOrS, tNotS, eCall, afterF, sFor, iRng1, iRng2, iSeq, itemsOf, opAdd, opSub, opMul, opDiv, opMod, opPow, opNeg, opIMul, opIAdd, opLt, opLe, opGt, opGe, opEq_int, opNe_int, opLen, opAbs, opInt, opList, opTuple, opIx, eApp, isL, wr, List.map_cons, List.map_nil, List.length_cons, List.length_nil, List.replicate_succ, List.replicate_zero, List.cons_append, List.nil_append, List.append_nil, List.getElem?_cons_zero, List.getElem?_cons_succ, List.set_cons_zero, List.set_cons_succ, if_true, if_false, ite_true, ite_false, reduceIte, Bool.false_eq_true, Option.map_some, eUnl, eTupL, eDGet, opMax2, opMin2, opIDiv, opIMod, sParT, storeT, eChn, opLenD, opStr, zk1, zk2, zk3, zk4, zk5, zk6, zk7, zk8, zk0, Nat.reduceAdd, Nat.reduceSub, decide_eq_false hc])
    (s := ⟨[sI n, sI k, sI 0, sI h, none], ob⟩) ⟨0, h, none, rfl, by omega, by omega, by omega, h2, by
      rw [show k.toNat = (k.toNat - 1) + 1 by omega, Int.pow_succ, Int.mul_zero]; exact h0, h3, rfl⟩ (fuel_of (a := 192) (by omega) (by decide))
  refine ⟨l, k1, k5, k2, k3, ?_⟩
  unfold F_root_below b_root_below bb_root_below
  simp only [mkFn, sCons, sNil, sSet, setOf, sExpr, sRet, retOf, sRetN, sIf, sRaise, sAug, sAsg, toS, gSet, gNil, gCons, gTup, gSub, sPar, storeAll, eC, eVar, eBin, eUn, eTup, eLst, eLstO, eIf, eAnd, eOr, eNot, eIs, isN, aNil, aCons, aoNil, aoCons, own, peek, frz, view, out1, out1_val, out1_tmp, R.bind, R.bindS, tTst, tAndS, tOrS, tNotS, eCall, afterF, sFor, iRng1, iRng2, iSeq, itemsOf, opAdd, opSub, opMul, opDiv, opMod, opPow, opNeg, opIMul, opIAdd, opLt, opLe, opGt, opGe, opEq_int, opNe_int, opLen, opAbs, opInt, opList, opTuple, opIx, eApp, isL, wr, List.map_cons, List.map_nil, List.length_cons, List.length_nil, List.replicate_succ, List.replicate_zero, List.cons_append, List.nil_append, List.append_nil, List.getElem?_cons_zero, List.getElem?_cons_succ, List.set_cons_zero, List.set_cons_succ, if_true, if_false, ite_true, ite_false, reduceIte, Bool.false_eq_true, Option.map_some, eUnl, eTupL, eDGet, opMax2, opMin2, opIDiv, opIMod, sParT, storeT, eChn, opLenD, opStr, zk1, zk2, zk3, zk4, zk5, zk6, zk7, zk8, zk0, Nat.reduceAdd, Nat.reduceSub, Nat.reduceSub, Nat.reduceAdd, e0, e1, w1, w2]
theorem inverse_eq {a b : Int} (hb : 2 ≤ b) (hb2 : b ≤ 1000) (ob : List OV) : (Int.gcd a b ≠ 1 ∧ F_inverse [.int a, .int b] ob = .exc "NumberError" ob) ∨
    (Int.gcd a b = 1 ∧ ∃ v : Int, 0 ≤ v ∧ v < b ∧ (a * v - 1) % b = 0 ∧ F_inverse [.int a, .int b] ob = .ok false (.int v) ob) := by
  have hp : 0 < b := by omega
  have l0 := Int.emod_nonneg a (show b ≠ 0 by omega)
  have l1 := Int.emod_lt_of_pos a hp
  obtain ⟨x, y, e, hx, hy, hF⟩ := bezout_eq (a := a % b) (b := b) (Nat.lt_trans (m := 1000) (by omega) (by decide)) (Nat.lt_of_le_of_lt (m := 1000) (by omega) (by decide)) ob
  have hg : Int.gcd (a % b) b = Int.gcd a b := by rw [Int.gcd_comm, gcd_modI]
  rw [hg] at e hF
  have e0 : decide (b < 2) = false := decide_eq_false (by omega)
  unfold tri at hF
  by_cases h1 : Int.gcd a b = 1
  · refine .inr ⟨h1, x % b, Int.emod_nonneg _ (by omega), Int.emod_lt_of_pos _ hp, ?_, ?_⟩
    · rw [h1] at e
      have d1 : b ∣ a * (x % b) - a % b * x := by
        have s1 : a * (x % b) - a % b * x = b * (a / b * x - a * (x / b)) := by
          rw [Int.emod_def, Int.emod_def, Int.mul_sub, Int.sub_mul, Int.mul_sub]
          rw [Int.mul_left_comm a b, ← Int.mul_assoc b (a / b) x]
          omega
        exact ⟨_, s1⟩
      have s2 : a * (x % b) - 1 = (a * (x % b) - a % b * x) - b * y := by omega
      rw [s2]
      exact Int.emod_eq_zero_of_dvd (Int.dvd_sub d1 ⟨y, rfl⟩)
    · have e1 : decide (((Int.gcd a b : Nat) : Int) = 1) = true := decide_eq_true (by omega)
      unfold F_inverse b_inverse bb_inverse
      simp only [mkFn, sCons, sNil, sSet, setOf, sExpr, sRet, retOf, sRetN, sIf, sRaise, sAug, sAsg, toS, gSet, gNil, gCons, gTup, gSub, sPar, storeAll, eC, eVar, eBin, eUn, eTup, eLst, eLstO, eIf, eAnd, eOr, eNot, eIs, isN, aNil, aCons, aoNil, aoCons, own, peek, frz, view, out1, out1_val, out1_tmp, R.bind, R.bindS, tTst, tAndS, tOrS, tNotS, eCall, afterF, sFor, iRng1, iRng2, iSeq, itemsOf, opAdd, opSub, opMul, opDiv, opMod, opPow, opNeg, opIMul, opIAdd, opLt, opLe, opGt, opGe, opEq_int, opNe_int, opLen, opAbs, opInt, opList, opTuple, opIx, eApp, isL, wr, List.map_cons, List.map_nil, List.length_cons, List.length_nil, List.replicate_succ, List.replicate_zero, List.cons_append, List.nil_append, List.append_nil, List.getElem?_cons_zero, List.getElem?_cons_succ, List.set_cons_zero, List.set_cons_succ, if_true, if_false, ite_true, ite_false, reduceIte, Bool.false_eq_true, Option.map_some, eUnl, eTupL, eDGet, opMax2, opMin2, opIDiv, opIMod, sParT, storeT, eChn, opLenD, opStr, zk1, zk2, zk3, zk4, zk5, zk6, zk7, zk8, zk0, Nat.reduceAdd, Nat.reduceSub, Nat.reduceSub, Nat.reduceAdd, e0, if_pos hp, hF, e1, Bool.not_true]
  · refine .inl ⟨h1, ?_⟩
    have e1 : decide (((Int.gcd a b : Nat) : Int) = 1) = false := decide_eq_false (by omega)
    unfold F_inverse b_inverse bb_inverse
    simp only [mkFn, sCons, sNil, sSet, setOf, sExpr, sRet, retOf, sRetN, sIf, sRaise, sAug, sAsg, toS, gSet, gNil, gCons, gTup, gSub, sPar, storeAll, eC, eVar, eBin, eUn, eTup, eLst, eLstO, eIf, eAnd, eOr, eNot, eIs, isN, aNil, aCons, aoNil, aoCons, own, peek, frz, view, out1, out1_val, out1_tmp, R.bind, R.bindS, tTst, tAndS, tOrS, tNotS, eCall, afterF, sFor, iRng1, iRng2, iSeq, itemsOf, opAdd, opSub, opMul, opDiv, opMod, opPow, opNeg, opIMul, opIAdd, opLt, opLe, opGt, opGe, opEq_int, opNe_int, opLen, opAbs, opInt, opList, opTuple, opIx, eApp, isL, wr, List.map_cons, List.map_nil, List.length_cons, List.length_nil, List.replicate_succ, List.replicate_zero, List.cons_append, List.nil_append, List.append_nil, List.getElem?_cons_zero, List.getElem?_cons_succ, List.set_cons_zero, List.set_cons_succ, if_true, if_false, ite_true, ite_false, reduceIte, Bool.false_eq_true, Option.map_some, eUnl, eTupL, eDGet, opMax2, opMin2, opIDiv, opIMod, sParT, storeT, eChn, opLenD, opStr, zk1, zk2, zk3, zk4, zk5, zk6, zk7, zk8, zk0, Nat.reduceAdd, Nat.reduceSub, Nat.reduceSub, Nat.reduceAdd, e0, if_pos hp, hF, e1, Bool.not_false]
theorem pow_mod (a b : Int) : ∀ k : Nat, (a % b) ^ k % b = a ^ k % b
  | 0 => by rw [Int.pow_zero, Int.pow_zero]
  | k + 1 => by rw [Int.pow_succ, Int.pow_succ, Int.mul_emod, pow_mod a b k, Int.emod_emod_of_dvd _ (Int.dvd_refl b), ← Int.mul_emod]
theorem mul_mod' (a b n : Int) : (a % n * (b % n)) % n = a * b % n := (Int.mul_emod a b n).symm
theorem pby_step1 {f x b : Int} (q : Nat) : (f * x % b * (x * x % b) ^ q) % b = (f * x ^ (2 * q + 1)) % b := by
  rw [Int.mul_emod, pow_mod, Int.emod_emod_of_dvd _ (Int.dvd_refl b), ← Int.mul_emod, Int.pow_succ, Int.pow_mul, Int.mul_assoc]
  congr 2
  rw [Int.mul_comm, show x ^ 2 = x * x from by rw [Int.pow_succ, Int.pow_succ, Int.pow_zero, Int.one_mul]]
theorem pby_step0 {f x b : Int} (q : Nat) : (f * (x * x % b) ^ q) % b = (f * x ^ (2 * q)) % b := by
  rw [Int.mul_emod, pow_mod, ← Int.mul_emod, Int.pow_mul, show x ^ 2 = x * x from by rw [Int.pow_succ, Int.pow_succ, Int.pow_zero, Int.one_mul]]
theorem power_by_eq {a n b : Int} (h0 : 0 ≤ n) (hn : n ≤ 1000) (hb : 1 ≤ b) (hb2 : b ≤ 100000) (ob : List OV) : F_power_by [.int a, .int n, .int b] ob = .ok false (.int (a ^ n.toNat % b)) ob := by
  have hp : 0 < b := by omega
  have e0 : decide (n < 0) = false := decide_eq_false (by omega)
  have e1 : decide (b < 1) = false := decide_eq_false (by omega)
  have h2 : (0 : Int) < 2 := by decide
  have hd : (0 : Int) < 2 ∧ (2 : Int).natAbs.log2 < 9000 := by decide
  obtain ⟨s1, w1, x, f, rfl, hf0, hf1, hx⟩ := sWhile_inv (c := tTst (eBin opGt (eVar 1) (eC (.int 0)))) (g := (sCons (sIf (tTst (eBin opEq (eBin opMod (eVar 1) (eC (.int 2))) (eC (.int 1)))) (sSet 3 (eBin opMod (eBin opMul (eVar 3) (eVar 0)) (eVar 2))) sNil)
      (sCons (sSet 0 (eBin opMod (eBin opMul (eVar 0) (eVar 0)) (eVar 2)))
      (sAug opIDiv 1 (eC (.int 2))))))
    (fun m s => ∃ x e f : Int, s = ⟨[sI x, sI e, sI b, sI f], ob⟩ ∧ 0 ≤ x ∧ x < b ∧ 0 ≤ f ∧ f < b ∧ 0 ≤ e ∧ (f * x ^ e.toNat) % b = a ^ n.toNat % b ∧ m = e.toNat)
    (fun s => ∃ x f : Int, s = ⟨[sI x, sI 0, sI b, sI f], ob⟩ ∧ 0 ≤ f ∧ f < b ∧ f = a ^ n.toNat % b)
    (fun m s ⟨x, e, f, es, hx0, hx1, hf0, hf1, he, hI, hm⟩ => by
      subst es
      by_cases hc : 0 < e
      · have m1 : mulOk f x = true := mulOk_l (by omega)
        have m2 : mulOk x x = true := mulOk_l (by omega)
        have n1 := Int.emod_nonneg (f * x) (show b ≠ 0 by omega)
        have n2 := Int.emod_lt_of_pos (f * x) hp
        have n3 := Int.emod_nonneg (x * x) (show b ≠ 0 by omega)
        have n4 := Int.emod_lt_of_pos (x * x) hp
        by_cases ho : e % 2 = 1
        · refine .inr ⟨?_, ⟨[sI (x * x % b), sI (e / 2), sI b, sI (f * x % b)], ob⟩, (e / 2).toNat, ?_, ?_, _, _, _, rfl, n3, n4, n1, n2, by omega, ?_, rfl⟩
          · simp only [mkFn, sCons, sNil, sSet, setOf, sExpr, sRet, retOf, sRetN, sIf, sRaise, sAug, sAsg, toS, gSet, gNil, gCons, gTup, gSub, sPar, storeAll, eC, eVar, eBin, eUn, eTup, eLst, eLstO, eIf, eAnd, eOr, eNot, eIs, isN, aNil, aCons, aoNil, aoCons, own, peek, frz, view, out1, out1_val, out1_tmp, R.bind, R.bindS, tTst, tAndS, tOrS, tNotS, eCall, afterF, sFor, iRng1, iRng2, iSeq, itemsOf, opAdd, opSub, opMul, opDiv, opMod, opPow, opNeg, opIMul, opIAdd, opLt, opLe, opGt, opGe, opEq_int, opNe_int, opLen, opAbs, opInt, opList, opTuple, opIx, eApp, isL, wr, List.map_cons, List.map_nil, List.length_cons, List.length_nil, List.replicate_succ, List.replicate_zero, List.cons_append, List.nil_append, List.append_nil, List.getElem?_cons_zero, List.getElem?_cons_succ, List.set_cons_zero, List.set_cons_succ, if_true, if_false, ite_true, ite_false, reduceIte, Bool.false_eq_true, Option.map_some, eUnl, eTupL, eDGet, opMax2, opMin2, opIDiv, opIMod, sParT, storeT, eChn, opLenD, opStr, zk1, zk2, zk3, zk4, zk5, zk6, zk7, zk8, zk0, Nat.reduceAdd, Nat.reduceSub, decide_eq_true hc]
          · simp only [mkFn, sCons, sNil, sSet, setOf, sExpr, sRet, retOf, sRetN, sIf, sRaise, sAug, sAsg, toS, gSet, gNil, gCons, gTup, gSub, sPar, storeAll, eC, eVar, eBin, eUn, eTup, eLst, eLstO, eIf, eAnd, eOr, eNot, eIs, isN, aNil, aCons, aoNil, aoCons, own, peek, frz, view, out1, out1_val, out1_tmp, R.bind, R.bindS, tTst, tAndS, tOrS, tNotS, eCall, afterF, sFor, iRng1, iRng2, iSeq, itemsOf, opAdd, opSub, opMul, opDiv, opMod, opPow, opNeg, opIMul, opIAdd, opLt, opLe, opGt, opGe, opEq_int, opNe_int, opLen, opAbs, opInt, opList, opTuple, opIx, eApp, isL, wr, List.map_cons, List.map_nil, List.length_cons, List.length_nil, List.replicate_succ, List.replicate_zero, List.cons_append, List.nil_append, List.append_nil, List.getElem?_cons_zero, List.getElem?_cons_succ, List.set_cons_zero, List.set_cons_succ, if_true, if_false, ite_true, ite_false, reduceIte, Bool.false_eq_true, Option.map_some, eUnl, eTupL, eDGet, opMax2, opMin2, opIDiv, opIMod, sParT, storeT, eChn, opLenD, opStr, zk1, zk2, zk3, zk4, zk5, zk6, zk7, zk8, zk0, Nat.reduceAdd, Nat.reduceSub, if_pos h2, if_pos hp, if_pos hd, decide_eq_true ho, m1, m2]
          · omega
          · rw [pby_step1, show 2 * (e / 2).toNat + 1 = e.toNat by omega]; exact hI
        · refine .inr ⟨?_, ⟨[sI (x * x % b), sI (e / 2), sI b, sI f], ob⟩, (e / 2).toNat, ?_, ?_, _, _, _, rfl, n3, n4, hf0, hf1, by omega, ?_, rfl⟩
          · simp only [mkFn, sCons, sNil, sSet, setOf, sExpr, sRet, retOf, sRetN, sIf, sRaise, sAug, sAsg, toS, gSet, gNil, gCons, gTup, gSub, sPar, storeAll, eC, eVar, eBin, eUn, eTup, eLst, eLstO, eIf, eAnd, eOr, eNot, eIs, isN, aNil, aCons, aoNil, aoCons, own, peek, frz, view, out1, out1_val, out1_tmp, R.bind, R.bindS, tTst, tAndS, tOrS, tNotS, eCall, afterF, sFor, iRng1, iRng2, iSeq, itemsOf, opAdd, opSub, opMul, opDiv, opMod, opPow, opNeg, opIMul, opIAdd, opLt, opLe, opGt, opGe, opEq_int, opNe_int, opLen, opAbs, opInt, opList, opTuple, opIx, eApp, isL, wr, List.map_cons, List.map_nil, List.length_cons, List.length_nil, List.replicate_succ, List.replicate_zero, List.cons_append, List.nil_append, List.append_nil, List.getElem?_cons_zero, List.getElem?_cons_succ, List.set_cons_zero, List.set_cons_succ, if_true, if_false, ite_true, ite_false, reduceIte, Bool.false_eq_true, Option.map_some, eUnl, eTupL, eDGet, opMax2, opMin2, opIDiv, opIMod, sParT, storeT, eChn, opLenD, opStr, zk1, zk2, zk3, zk4, zk5, zk6, zk7, zk8, zk0, Nat.reduceAdd, Nat.reduceSub, decide_eq_true hc]
          · simp only [mkFn, sCons, sNil, sSet, setOf, sExpr, sRet, retOf, sRetN, sIf, sRaise, sAug, sAsg, toS, gSet, gNil, gCons, gTup, gSub, sPar, storeAll, eC, eVar, eBin, eUn, eTup, eLst, eLstO, eIf, eAnd, eOr, eNot, eIs, isN, aNil, aCons, aoNil, aoCons, own, peek, frz, view, out1, out1_val, out1_tmp, R.bind, R.bindS, tTst, tAndS, tOrS, tNotS, eCall, afterF, sFor, iRng1, iRng2, iSeq, itemsOf, opAdd, opSub, opMul, opDiv, opMod, opPow, opNeg, opIMul, opIAdd, opLt, opLe, opGt, opGe, opEq_int, opNe_int, opLen, opAbs, opInt, opList, opTuple, opIx, eApp, isL, wr, List.map_cons, List.map_nil, List.length_cons, List.length_nil, List.replicate_succ, List.replicate_zero, List.cons_append, List.nil_append, List.append_nil, List.getElem?_cons_zero, List.getElem?_cons_succ, List.set_cons_zero, List.set_cons_succ, if_true, if_false, ite_true, ite_false, reduceIte, Bool.false_eq_true, Option.map_some, eUnl, eTupL, eDGet, opMax2, opMin2, opIDiv, opIMod, sParT, storeT, eChn, opLenD, opStr, zk1, zk2, zk3, zk4, zk5, zk6, zk7, zk8, zk0, Nat.reduceAdd, Nat.reduceSub, if_pos h2, if_pos hp, if_pos hd, decide_eq_false ho, m1, m2]
          · omega
          · rw [pby_step0, show 2 * (e / 2).toNat = e.toNat by omega]; exact hI
      · have e0 : e = 0 := by omega
        subst e0
        refine .inl ⟨?_, x, f, rfl, hf0, hf1, ?_⟩
        · simp only [mkFn, sCons, sNil, sSet, setOf, sExpr, sRet, retOf, sRetN, sIf, sRaise, sAug, sAsg, toS, gSet, gNil, gCons, gTup, gSub, sPar, storeAll, eC, eVar, eBin, eUn, eTup, eLst, eLstO, eIf, eAnd, eOr, eNot, eIs, isN, aNil, aCons, aoNil, aoCons, own, peek, frz, view, out1, out1_val, out1_tmp, R.bind, R.bindS, tTst, tAndS, tOrS, tNotS, eCall, afterF, sFor, iRng1, iRng2, iSeq, itemsOf, opAdd, opSub, opMul, opDiv, opMod, opPow, opNeg, opIMul, opIAdd, opLt, opLe, opGt, opGe, opEq_int, opNe_int, opLen, opAbs, opInt, opList, opTuple, opIx, eApp, isL, wr, List.map_cons, List.map_nil, List.length_cons, List.length_nil, List.replicate_succ, List.replicate_zero, List.cons_append, List.nil_append, List.append_nil, List.getElem?_cons_zero, List.getElem?_cons_succ, List.set_cons_zero, List.set_cons_succ, if_true, if_false, ite_true, ite_false, reduceIte, Bool.false_eq_true, Option.map_some, eUnl, eTupL, eDGet, opMax2, opMin2, opIDiv, opIMod, sParT, storeT, eChn, opLenD, opStr, zk1, zk2, zk3, zk4, zk5, zk6, zk7, zk8, zk0, Nat.reduceAdd, Nat.reduceSub, decide_eq_false hc]
        · rw [show (0 : Int).toNat = 0 from rfl, Int.pow_zero, Int.mul_one, Int.emod_eq_of_lt hf0 hf1] at hI
          exact hI)
    (s := ⟨[sI (a % b), sI n, sI b, sI (1 % b)], ob⟩) ⟨_, _, _, rfl, Int.emod_nonneg _ (by omega), Int.emod_lt_of_pos _ hp, Int.emod_nonneg _ (by omega), Int.emod_lt_of_pos _ hp, h0, by
      rw [Int.mul_emod, pow_mod, Int.emod_emod_of_dvd _ (Int.dvd_refl b), ← Int.mul_emod, Int.one_mul], rfl⟩ (fuel_of (a := 20) (by omega) (by decide))
  unfold F_power_by b_power_by
  simp only [mkFn, sCons, sNil, sSet, setOf, sExpr, sRet, retOf, sRetN, sIf, sRaise, sAug, sAsg, toS, gSet, gNil, gCons, gTup, gSub, sPar, storeAll, eC, eVar, eBin, eUn, eTup, eLst, eLstO, eIf, eAnd, eOr, eNot, eIs, isN, aNil, aCons, aoNil, aoCons, own, peek, frz, view, out1, out1_val, out1_tmp, R.bind, R.bindS, tTst, tAndS, tOrS, tNotS, eCall, afterF, sFor, iRng1, iRng2, iSeq, itemsOf, opAdd, opSub, opMul, opDiv, opMod, opPow, opNeg, opIMul, opIAdd, opLt, opLe, opGt, opGe, opEq_int, opNe_int, opLen, opAbs, opInt, opList, opTuple, opIx, eApp, isL, wr, List.map_cons, List.map_nil, List.length_cons, List.length_nil, List.replicate_succ, List.replicate_zero, List.cons_append, List.nil_append, List.append_nil, List.getElem?_cons_zero, List.getElem?_cons_succ, List.set_cons_zero, List.set_cons_succ, if_true, if_false, ite_true, ite_false, reduceIte, Bool.false_eq_true, Option.map_some, eUnl, eTupL, eDGet, opMax2, opMin2, opIDiv, opIMod, sParT, storeT, eChn, opLenD, opStr, zk1, zk2, zk3, zk4, zk5, zk6, zk7, zk8, zk0, Nat.reduceAdd, Nat.reduceSub, Nat.reduceSub, Nat.reduceAdd, e0, e1, if_pos hp, w1, hx]
end K01

set_option exponentiation.threshold 3000
namespace K01
open Sv
def pT (p : Int × Int) : T := .tup [.int p.1, .int p.2]
def prd : List (Int × Int) → Int
  | [] => 1
  | p :: r => p.1 ^ p.2.toNat * prd r
theorem prd_app (x : Int × Int) : ∀ l, prd (l ++ [x]) = prd l * x.1 ^ x.2.toNat
  | [] => by show x.1 ^ x.2.toNat * 1 = 1 * _; omega
  | p :: r => by show p.1 ^ p.2.toNat * prd (r ++ [x]) = p.1 ^ p.2.toNat * prd r * _; rw [prd_app x r, Int.mul_assoc]
def Pr (p : Int) : Prop := 2 ≤ p ∧ ∀ d, 2 ≤ d → d < p → ¬ d ∣ p
/-- rows of primes with their powers, ahead of t -/
structure Pf (N n t : Int) (rows : List (Int × Int)) : Prop where
  ht : 2 ≤ t
  ht2 : t ≤ 1000001
  hn : 1 ≤ n
  prod : prd rows * n = N
  nod : ∀ d, 2 ≤ d → d < t → ¬ d ∣ n
  each : ∀ p ∈ rows, Pr p.1 ∧ 1 ≤ p.2 ∧ p.1 < t
  srt : rows.Pairwise (fun p q => p.1 < q.1)
theorem pf_in {n t : Int} (hn : 1 ≤ n) (hn2 : n.natAbs < 2 ^ 190) (ht : 2 ≤ t) (ht2 : t ≤ 1000000) (RR : Option (Bool × T)) (ob : List OV) : ∃ n' k : Int, 1 ≤ n' ∧ 0 ≤ k ∧ n' * t ^ k.toNat = n ∧ ¬ t ∣ n' ∧
    sWhile (tTst (eBin opEq (eBin opMod (eVar 0) (eVar 2)) (eC (.int 0)))) (sCons (sAug opIDiv 0 (eVar 2)) (sAug opIAdd 3 (eC (.int 1)))) ⟨[sI n, RR, sI t, sI 0], ob⟩ = .nxt ⟨[sI n', RR, sI t, sI k], ob⟩ := by
  have hp : 0 < t := by omega
  have hd := divOk (a := 30) hp (by omega) (by decide) (by decide)
  obtain ⟨s1, w1, n', k, rfl, h1, h2, h3, h4⟩ := sWhile_inv (c := tTst (eBin opEq (eBin opMod (eVar 0) (eVar 2)) (eC (.int 0)))) (g := sCons (sAug opIDiv 0 (eVar 2)) (sAug opIAdd 3 (eC (.int 1))))
    (fun m s => ∃ n' k : Int, s = ⟨[sI n', RR, sI t, sI k], ob⟩ ∧ 1 ≤ n' ∧ 0 ≤ k ∧ n' * t ^ k.toNat = n ∧ m = n'.toNat)
    (fun s => ∃ n' k : Int, s = ⟨[sI n', RR, sI t, sI k], ob⟩ ∧ 1 ≤ n' ∧ 0 ≤ k ∧ n' * t ^ k.toNat = n ∧ ¬ t ∣ n')
    (fun m s ⟨n', k, e, h1, h2, h3, hm⟩ => by
      subst e
      by_cases hc : n' % t = 0
      · have e1 : n' = n' / t * t := by
          have := Int.emod_add_mul_ediv n' t
          rw [hc, Int.mul_comm] at this
          omega
        have q1 : 1 ≤ n' / t := Classical.byContradiction fun z => by
          have : n' / t ≤ 0 := by omega
          have := Int.mul_nonpos_of_nonpos_of_nonneg this (show 0 ≤ t by omega)
          omega
        have q2 : n' / t < n' := by
          have := Int.mul_le_mul_of_nonneg_left ht (show 0 ≤ n' / t by omega)
          omega
        refine .inr ⟨?_, ⟨[sI (n' / t), RR, sI t, sI (k + 1)], ob⟩, (n' / t).toNat, ?_, by omega, n' / t, k + 1, rfl, q1, by omega, ?_, rfl⟩
        · simp only [mkFn, sCons, sNil, sSet, setOf, sExpr, sRet, retOf, sRetN, sIf, sRaise, sAug, sAsg, toS, gSet, gNil, gCons, gTup, gSub, sPar, storeAll, eC, eVar, eBin, eUn, eTup, eLst, eLstO, eIf, eAnd, eOr, eNot, eIs, isN, aNil, aCons, aoNil, aoCons, own, peek, frz, view, out1, out1_val, out1_tmp, R.bind, R.bindS, tTst, tAndS, tOrS, tNotS, eCall, afterF, sFor, iRng1, iRng2, iSeq, itemsOf, opAdd, opSub, opMul, opDiv, opMod, opPow, opNeg, opIMul, opIAdd, opLt, opLe, opGt, opGe, opEq_int, opNe_int, opLen, opAbs, opInt, opList, opTuple, opIx, eApp, isL, wr, List.map_cons, List.map_nil, List.length_cons, List.length_nil, List.replicate_succ, List.replicate_zero, List.cons_append, List.nil_append, List.append_nil, List.getElem?_cons_zero, List.getElem?_cons_succ, List.set_cons_zero, List.set_cons_succ, if_true, if_false, ite_true, ite_false, reduceIte, Bool.false_eq_true, Option.map_some, eUnl, eTupL, eDGet, opMax2, opMin2, opIDiv, opIMod, sParT, storeT, eChn, opLenD, opStr, zk1, zk2, zk3, zk4, zk5, zk6, zk7, zk8, zk0, Nat.reduceAdd, Nat.reduceSub, if_pos hp, decide_eq_true hc]
        · simp only [mkFn, sCons, sNil, sSet, setOf, sExpr, sRet, retOf, sRetN, sIf, sRaise, sAug, sAsg, toS, gSet, gNil, gCons, gTup, gSub, sPar, storeAll, eC, eVar, eBin, eUn, eTup, eLst, eLstO, eIf, eAnd, eOr, eNot, eIs, isN, aNil, aCons, aoNil, aoCons, own, peek, frz, view, out1, out1_val, out1_tmp, R.bind, R.bindS, tTst, tAndS, tOrS, tNotS, eCall, afterF, sFor, iRng1, iRng2, iSeq, itemsOf, opAdd, opSub, opMul, opDiv, opMod, opPow, opNeg, opIMul, opIAdd, opLt, opLe, opGt, opGe, opEq_int, opNe_int, opLen, opAbs, opInt, opList, opTuple, opIx, eApp, isL, wr, List.map_cons, List.map_nil, List.length_cons, List.length_nil, List.replicate_succ, List.replicate_zero, List.cons_append, List.nil_append, List.append_nil, List.getElem?_cons_zero, List.getElem?_cons_succ, List.set_cons_zero, List.set_cons_succ, if_true, if_false, ite_true, ite_false, reduceIte, Bool.false_eq_true, Option.map_some, eUnl, eTupL, eDGet, opMax2, opMin2, opIDiv, opIMod, sParT, storeT, eChn, opLenD, opStr, zk1, zk2, zk3, zk4, zk5, zk6, zk7, zk8, zk0, Nat.reduceAdd, Nat.reduceSub, if_pos hd]
        · rw [show (k + 1).toNat = k.toNat + 1 by omega, Int.pow_succ, Int.mul_comm _ t, ← Int.mul_assoc, ← e1]; exact h3
      · refine .inl ⟨?_, n', k, rfl, h1, h2, h3, fun z => hc (Int.emod_eq_zero_of_dvd z)⟩
        simp only [mkFn, sCons, sNil, sSet, setOf, sExpr, sRet, retOf, sRetN, sIf, sRaise, sAug, sAsg, toS, gSet, gNil, gCons, gTup, gSub, sPar, storeAll, eC, eVar, eBin, eUn, eTup, eLst, eLstO, eIf, eAnd, eOr, eNot, eIs, isN, aNil, aCons, aoNil, aoCons, own, peek, frz, view, out1, out1_val, out1_tmp, R.bind, R.bindS, tTst, tAndS, tOrS, tNotS, eCall, afterF, sFor, iRng1, iRng2, iSeq, itemsOf, opAdd, opSub, opMul, opDiv, opMod, opPow, opNeg, opIMul, opIAdd, opLt, opLe, opGt, opGe, opEq_int, opNe_int, opLen, opAbs, opInt, opList, opTuple, opIx, eApp, isL, wr, List.map_cons, List.map_nil, List.length_cons, List.length_nil, List.replicate_succ, List.replicate_zero, List.cons_append, List.nil_append, List.append_nil, List.getElem?_cons_zero, List.getElem?_cons_succ, List.set_cons_zero, List.set_cons_succ, if_true, if_false, ite_true, ite_false, reduceIte, Bool.false_eq_true, Option.map_some, eUnl, eTupL, eDGet, opMax2, opMin2, opIDiv, opIMod, sParT, storeT, eChn, opLenD, opStr, zk1, zk2, zk3, zk4, zk5, zk6, zk7, zk8, zk0, Nat.reduceAdd, Nat.reduceSub, if_pos hp, decide_eq_false hc])
    (s := ⟨[sI n, RR, sI t, sI 0], ob⟩) ⟨n, 0, rfl, hn, by omega, by rw [show (0 : Int).toNat = 0 from rfl, Int.pow_zero, Int.mul_one], rfl⟩ (fuel_of (a := 190) (by omega) (by decide))
  exact ⟨n', k, h1, h2, h3, h4, w1⟩
theorem Pf.step {N n t n' k : Int} {rows : List (Int × Int)} (h : Pf N n t rows) (ht : t ≤ 1000000) (h1 : 1 ≤ n') (h2 : 0 ≤ k) (h3 : n' * t ^ k.toNat = n) (h4 : ¬ t ∣ n') : Pf N n' (t + 1) (if 0 < k then rows ++ [(t, k)] else rows) := by
  obtain ⟨a1, a2, a3, a4, a5, a6, a7⟩ := h
  have hdv : ∀ d, d ∣ n' → d ∣ n := fun d ⟨c, hc⟩ => ⟨c * t ^ k.toNat, by rw [← h3, hc, Int.mul_assoc]⟩
  have nod : ∀ d, 2 ≤ d → d < t + 1 → ¬ d ∣ n' := fun d d1 d2 d3 => by
    by_cases e : d = t
    · subst e; exact h4 d3
    · exact a5 d d1 (by omega) (hdv d d3)
  have each' : ∀ p ∈ rows, Pr p.1 ∧ 1 ≤ p.2 ∧ p.1 < t + 1 := fun p hp => ⟨(a6 p hp).1, (a6 p hp).2.1, by have := (a6 p hp).2.2; omega⟩
  by_cases hk : 0 < k
  · rw [if_pos hk]
    refine ⟨by omega, by omega, h1, ?_, nod, ?_, ?_⟩
    · rw [prd_app, Int.mul_assoc, Int.mul_comm _ n', h3]; exact a4
    · intro p hp
      rcases List.mem_append.mp hp with hp | hp
      · exact each' p hp
      · obtain rfl := List.mem_singleton.mp hp
        refine ⟨⟨a1, fun d d1 d2 d3 => a5 d d1 d2 ?_⟩, hk, by show t < t + 1; omega⟩
        have : t ∣ n := ⟨n' * t ^ (k.toNat - 1), by rw [← h3, show t ^ k.toNat = t ^ (k.toNat - 1) * t by rw [← Int.pow_succ]; congr 1; omega, ← Int.mul_assoc, Int.mul_comm t]⟩
        exact Int.dvd_trans d3 this
    · rw [List.pairwise_append]
      exact ⟨a7, List.pairwise_singleton _ _, fun p hp q hq => by obtain rfl := List.mem_singleton.mp hq; exact (a6 p hp).2.2⟩
  · rw [if_neg hk]
    refine ⟨by omega, by omega, h1, ?_, nod, each', a7⟩
    have e : n' = n := by
      rw [show k.toNat = 0 by omega, Int.pow_zero, Int.mul_one] at h3
      exact h3
    rw [e]; exact a4
def pfB : S → RS := (sCons (sSet 3 (eC (.int 0)))
      (sCons (sWhile (tTst (eBin opEq (eBin opMod (eVar 0) (eVar 2)) (eC (.int 0)))) (sCons (sAug opIDiv 0 (eVar 2))
        (sAug opIAdd 3 (eC (.int 1)))))
      (sCons (sIf (tTst (eBin opGt (eVar 3) (eC (.int 0)))) (sExpr (eApp (eVar 1) (eTup (aCons (eVar 2) (aCons (eVar 3) aNil))))) sNil)
      (sAug opIAdd 2 (eC (.int 1))))))
def pfT : S → R Bool := tAndS (tTst (eBin opLe (eBin opMul (eVar 2) (eVar 2)) (eVar 0))) (tTst (eBin opLe (eVar 2) (eC (.int 1000000))))
def pfS (n t : Int) (rows : List (Int × Int)) (z : Option (Bool × T)) (ob : List OV) : S := ⟨[sI n, some (true, .lst (rows.map pT)), sI t, z], ob⟩
theorem rows_len : ∀ {t : Int} {rows : List (Int × Int)}, (∀ p ∈ rows, 2 ≤ p.1 ∧ p.1 < t) → rows.Pairwise (fun p q => p.1 < q.1) → 2 ≤ t → (rows.length : Int) ≤ t - 2 := by
  intro t rows
  suffices h : ∀ (rows : List (Int × Int)) (b : Int), (∀ p ∈ rows, b ≤ p.1 ∧ p.1 < t) → rows.Pairwise (fun p q => p.1 < q.1) → b ≤ t → (rows.length : Int) ≤ t - b from h rows 2
  intro rows
  induction rows with
  | nil => intro b _ _ hb; rw [List.length_nil]; omega
  | cons p r ih =>
    intro b h1 h2 h3
    rw [List.pairwise_cons] at h2
    have hp := h1 p List.mem_cons_self
    have := ih (p.1 + 1) (fun q hq => ⟨by have := h2.1 q hq; omega, (h1 q (List.mem_cons_of_mem _ hq)).2⟩) h2.2 (by omega)
    rw [List.length_cons]
    omega
theorem pf_out {N : Int} (hN : 1 ≤ N) (hN2 : N.natAbs < 2 ^ 190) (ob : List OV) : ∃ n t rows z, Pf N n t rows ∧ (n < t * t ∨ t = 1000001) ∧ sWhile pfT pfB (pfS N 2 [] none ob) = .nxt (pfS n t rows z ob) := by
  obtain ⟨s1, w1, n, t, rows, z, rfl, h1, h2⟩ := sWhile_inv (c := pfT) (g := pfB)
    (fun m s => ∃ n t rows z, s = pfS n t rows z ob ∧ Pf N n t rows ∧ n ≤ N ∧ m = (1000002 - t).toNat)
    (fun s => ∃ n t rows z, s = pfS n t rows z ob ∧ Pf N n t rows ∧ (n < t * t ∨ t = 1000001))
    (fun m s ⟨n, t, rows, z, e, h, hnN, hm⟩ => by
      subst e
      have m1 : mulOk t t = true := mulOk_l (by have := h.ht; have := h.ht2; omega)
      by_cases hc : t * t ≤ n
      · by_cases hc2 : t ≤ 1000000
        · obtain ⟨n', k, k1, k2, k3, k4, w⟩ := pf_in h.hn (by have := h.hn; omega) h.ht hc2 (some (true, .lst (rows.map pT))) ob
          have hs := h.step hc2 k1 k2 k3 k4
          have hln := rows_len (fun p hp => ⟨(h.each p hp).1.1, (h.each p hp).2.2⟩) h.srt h.ht
          have zk : szok (rows.length + 1) = true := decide_eq_true (by omega)
          have hle : n' ≤ n := by
            have := le_pow (show 1 ≤ t by have := h.ht; omega) k.toNat
            have := Int.mul_le_mul_of_nonneg_left this (show 0 ≤ n' by omega)
            omega
          refine .inr ⟨?_, pfS n' (t + 1) (if 0 < k then rows ++ [(t, k)] else rows) (sI k) ob, (1000002 - (t + 1)).toNat, ?_, by omega, _, _, _, _, rfl, hs, by omega, rfl⟩
          · unfold pfT pfS
            simp only [mkFn, sCons, sNil, sSet, setOf, sExpr, sRet, retOf, sRetN, sIf, sRaise, sAug, sAsg, toS, gSet, gNil, gCons, gTup, gSub, sPar, storeAll, eC, eVar, eBin, eUn, eTup, eLst, eLstO, eIf, eAnd, eOr, eNot, eIs, isN, aNil, aCons, aoNil, aoCons, own, peek, frz, view, out1, out1_val, out1_tmp, R.bind, R.bindS, tTst, tAndS, tOrS, tNotS, eCall, afterF, sFor, iRng1, iRng2, iSeq, itemsOf, opAdd, opSub, opMul, opDiv, opMod, opPow, opNeg, opIMul, opIAdd, opLt, opLe, opGt, opGe, opEq_int, opNe_int, opLen, opAbs, opInt, opList, opTuple, opIx, eApp, isL, wr, List.map_cons, List.map_nil, List.length_cons, List.length_nil, List.replicate_succ, List.replicate_zero, List.cons_append, List.nil_append, List.append_nil, List.getElem?_cons_zero, List.getElem?_cons_succ, List.set_cons_zero, List.set_cons_succ, if_true, if_false, ite_true, ite_false, reduceIte, Bool.false_eq_true, Option.map_some, eUnl, eTupL, eDGet, opMax2, opMin2, opIDiv, opIMod, sParT, storeT, eChn, opLenD, opStr, zk1, zk2, zk3, zk4, zk5, zk6, zk7, zk8, zk0, Nat.reduceAdd, Nat.reduceSub, m1, decide_eq_true hc, decide_eq_true hc2]
          · unfold pfB pfS
            by_cases hk : 0 < k
            · simp only [mkFn, sCons, sNil, sSet, setOf, sExpr, sRet, retOf, sRetN, sIf, sRaise, sAug, sAsg, toS, gSet, gNil, gCons, gTup, gSub, sPar, storeAll, eC, eVar, eBin, eUn, eTup, eLst, eLstO, eIf, eAnd, eOr, eNot, eIs, isN, aNil, aCons, aoNil, aoCons, own, peek, frz, view, out1, out1_val, out1_tmp, R.bind, R.bindS, tTst, tAndS, tOrS, tNotS, eCall, afterF, sFor, iRng1, iRng2, iSeq, itemsOf, opAdd, opSub, opMul, opDiv, opMod, opPow, opNeg, opIMul, opIAdd, opLt, opLe, opGt, opGe, opEq_int, opNe_int, opLen, opAbs, opInt, opList, opTuple, opIx, eApp, isL, wr, List.map_cons, List.map_nil, List.length_cons, List.length_nil, List.replicate_succ, List.replicate_zero, List.cons_append, List.nil_append, List.append_nil, List.getElem?_cons_zero, List.getElem?_cons_succ, List.set_cons_zero, List.set_cons_succ, if_true, if_false, ite_true, ite_false, reduceIte, Bool.false_eq_true, Option.map_some, eUnl, eTupL, eDGet, opMax2, opMin2, opIDiv, opIMod, sParT, storeT, eChn, opLenD, opStr, zk1, zk2, zk3, zk4, zk5, zk6, zk7, zk8, zk0, Nat.reduceAdd, Nat.reduceSub, w, decide_eq_true hk, if_pos hk, List.map_append, pT, List.length_map, zk]
            · simp only [mkFn, sCons, sNil, sSet, setOf, sExpr, sRet, retOf, sRetN, sIf, sRaise, sAug, sAsg, toS, gSet, gNil, gCons, gTup, gSub, sPar, storeAll, eC, eVar, eBin, eUn, eTup, eLst, eLstO, eIf, eAnd, eOr, eNot, eIs, isN, aNil, aCons, aoNil, aoCons, own, peek, frz, view, out1, out1_val, out1_tmp, R.bind, R.bindS, tTst, tAndS, tOrS, tNotS, eCall, afterF, sFor, iRng1, iRng2, iSeq, itemsOf, opAdd, opSub, opMul, opDiv, opMod, opPow, opNeg, opIMul, opIAdd, opLt, opLe, opGt, opGe, opEq_int, opNe_int, opLen, opAbs, opInt, opList, opTuple, opIx, eApp, isL, wr, List.map_cons, List.map_nil, List.length_cons, List.length_nil, List.replicate_succ, List.replicate_zero, List.cons_append, List.nil_append, List.append_nil, List.getElem?_cons_zero, List.getElem?_cons_succ, List.set_cons_zero, List.set_cons_succ, if_true, if_false, ite_true, ite_false, reduceIte, Bool.false_eq_true, Option.map_some, eUnl, eTupL, eDGet, opMax2, opMin2, opIDiv, opIMod, sParT, storeT, eChn, opLenD, opStr, zk1, zk2, zk3, zk4, zk5, zk6, zk7, zk8, zk0, Nat.reduceAdd, Nat.reduceSub, w, decide_eq_false hk, if_neg hk]
        · refine .inl ⟨?_, n, t, rows, z, rfl, h, .inr (by have := h.ht2; omega)⟩
          unfold pfT pfS
          simp only [mkFn, sCons, sNil, sSet, setOf, sExpr, sRet, retOf, sRetN, sIf, sRaise, sAug, sAsg, toS, gSet, gNil, gCons, gTup, gSub, sPar, storeAll, eC, eVar, eBin, eUn, eTup, eLst, eLstO, eIf, eAnd, eOr, eNot, eIs, isN, aNil, aCons, aoNil, aoCons, own, peek, frz, view, out1, out1_val, out1_tmp, R.bind, R.bindS, tTst, tAndS, tOrS, tNotS, eCall, afterF, sFor, iRng1, iRng2, iSeq, itemsOf, opAdd, opSub, opMul, opDiv, opMod, opPow, opNeg, opIMul, opIAdd, opLt, opLe, opGt, opGe, opEq_int, opNe_int, opLen, opAbs, opInt, opList, opTuple, opIx, eApp, isL, wr, List.map_cons, List.map_nil, List.length_cons, List.length_nil, List.replicate_succ, List.replicate_zero, List.cons_append, List.nil_append, List.append_nil, List.getElem?_cons_zero, List.getElem?_cons_succ, List.set_cons_zero, List.set_cons_succ, if_true, if_false, ite_true, ite_false, reduceIte, Bool.false_eq_true, Option.map_some, eUnl, eTupL, eDGet, opMax2, opMin2, opIDiv, opIMod, sParT, storeT, eChn, opLenD, opStr, zk1, zk2, zk3, zk4, zk5, zk6, zk7, zk8, zk0, Nat.reduceAdd, Nat.reduceSub, m1, decide_eq_true hc, decide_eq_false hc2]
      · refine .inl ⟨?_, n, t, rows, z, rfl, h, .inl (by omega)⟩
        unfold pfT pfS
        simp only [mkFn, sCons, sNil, sSet, setOf, sExpr, sRet, retOf, sRetN, sIf, sRaise, sAug, sAsg, toS, gSet, gNil, gCons, gTup, gSub, sPar, storeAll, eC, eVar, eBin, eUn, eTup, eLst, eLstO, eIf, eAnd, eOr, eNot, eIs, isN, aNil, aCons, aoNil, aoCons, own, peek, frz, view, out1, out1_val, out1_tmp, R.bind, R.bindS, tTst, tAndS, tOrS, tNotS, eCall, afterF, sFor, iRng1, iRng2, iSeq, itemsOf, opAdd, opSub, opMul, opDiv, opMod, opPow, opNeg, opIMul, opIAdd, opLt, opLe, opGt, opGe, opEq_int, opNe_int, opLen, opAbs, opInt, opList, opTuple, opIx, eApp, isL, wr, List.map_cons, List.map_nil, List.length_cons, List.length_nil, List.replicate_succ, List.replicate_zero, List.cons_append, List.nil_append, List.append_nil, List.getElem?_cons_zero, List.getElem?_cons_succ, List.set_cons_zero, List.set_cons_succ, if_true, if_false, ite_true, ite_false, reduceIte, Bool.false_eq_true, Option.map_some, eUnl, eTupL, eDGet, opMax2, opMin2, opIDiv, opIMod, sParT, storeT, eChn, opLenD, opStr, zk1, zk2, zk3, zk4, zk5, zk6, zk7, zk8, zk0, Nat.reduceAdd, Nat.reduceSub, m1, decide_eq_false hc])
    (s := pfS N 2 [] none ob) ⟨N, 2, [], none, rfl, ⟨by decide, by decide, hN, by show 1 * N = N; omega, fun d h1 h2 => by omega, fun p hp => (nomatch hp), .nil⟩, Int.le_refl _, rfl⟩ (fuel_of (a := 30) (by decide) (by decide))
  exact ⟨n, t, rows, z, h1, h2, w1⟩
/-- the prime factors of a number -/
structure Fac (N : Int) (rows : List (Int × Int)) : Prop where
  prod : prd rows = N
  each : ∀ p ∈ rows, Pr p.1 ∧ 1 ≤ p.2
  srt : rows.Pairwise (fun p q => p.1 < q.1)
theorem Pr_last {n t : Int} (ht : 2 ≤ t) (hn : 2 ≤ n) (nod : ∀ d, 2 ≤ d → d < t → ¬ d ∣ n) (h : n < t * t) : Pr n := by
  refine ⟨hn, fun d d1 d2 d3 => ?_⟩
  have hdt : t ≤ d := Classical.byContradiction fun z => nod d d1 (by omega) d3
  obtain ⟨c, rfl⟩ := d3
  have c0 : 0 < c := Classical.byContradiction fun z => by
    have := Int.mul_nonpos_of_nonneg_of_nonpos (show 0 ≤ d by omega) (show c ≤ 0 by omega)
    omega
  have c1 : c ≠ 1 := fun e => by rw [e, Int.mul_one] at d2; omega
  have hct : t ≤ c := Classical.byContradiction fun z => nod c (by omega) (by omega) ⟨d, Int.mul_comm _ _⟩
  have := Int.mul_le_mul hdt hct (by omega) (by omega)
  omega
theorem pf_eq {N : Int} (hN : 1 ≤ N) (hN2 : N ≤ 1000000000000) (ob : List OV) : ∃ rows, Fac N rows ∧ F_prime_factors [.int N] ob = .ok false (.tupl (rows.map pT)) ob := by
  obtain ⟨n, t, rows, z, h, he, w⟩ := pf_out hN (Nat.lt_of_le_of_lt (m := 1000000000000) (by omega) (by decide)) ob
  unfold pfT pfB pfS at w
  have e0 : decide (N = 0) = false := decide_eq_false (by omega)
  have ea : (if N < 0 then -N else N) = N := by omega
  have m1 : mulOk 1000000 1000000 = true := mulOk_l (by decide)
  have hnt : n < t * t := he.elim id fun e => by
    subst e
    have : n ≤ N := by
      have h1 : 1 ≤ prd rows := Classical.byContradiction fun z => by
        have := Int.mul_nonpos_of_nonpos_of_nonneg (show prd rows ≤ 0 by omega) (show 0 ≤ n by have := h.hn; omega)
        have := h.prod
        omega
      have h2 := Int.mul_le_mul_of_nonneg_right h1 (show 0 ≤ n by have := h.hn; omega)
      have := h.prod
      omega
    omega
  by_cases hn : 1 < n
  · have h12 : n ≤ N := by
      have h1 : 1 ≤ prd rows := Classical.byContradiction fun z => by
        have := Int.mul_nonpos_of_nonpos_of_nonneg (show prd rows ≤ 0 by omega) (show 0 ≤ n by have := h.hn; omega)
        have := h.prod
        omega
      have h2 := Int.mul_le_mul_of_nonneg_right h1 (show 0 ≤ n by have := h.hn; omega)
      have := h.prod
      omega
    have e2 : decide ((1000000 : Int) * 1000000 < n) = false := decide_eq_false (by omega)
    have hln := rows_len (fun p hp => ⟨(h.each p hp).1.1, (h.each p hp).2.2⟩) h.srt h.ht
    have zk : szok (rows.length + 1) = true := decide_eq_true (by have := h.ht2; omega)
    refine ⟨rows ++ [(n, 1)], ⟨?_, ?_, ?_⟩, ?_⟩
    · rw [prd_app, show (n, (1 : Int)).1 ^ (n, (1 : Int)).2.toNat = n from by show n ^ 1 = n; rw [Int.pow_succ, Int.pow_zero, Int.one_mul]]
      exact h.prod
    · intro p hp
      rcases List.mem_append.mp hp with hp | hp
      · exact ⟨(h.each p hp).1, (h.each p hp).2.1⟩
      · obtain rfl := List.mem_singleton.mp hp
        exact ⟨Pr_last h.ht hn h.nod hnt, by show (1 : Int) ≤ 1; decide⟩
    · rw [List.pairwise_append]
      refine ⟨h.srt, List.pairwise_singleton _ _, fun p hp q hq => ?_⟩
      obtain rfl := List.mem_singleton.mp hq
      have : t ≤ n := Classical.byContradiction fun z => h.nod n hn (by omega) (Int.dvd_refl n)
      have := (h.each p hp).2.2
      show p.1 < n
      omega
    · unfold F_prime_factors b_prime_factors
      rw [List.map_nil] at w
      simp only [mkFn, sCons, sNil, sSet, setOf, sExpr, sRet, retOf, sRetN, sIf, sRaise, sAug, sAsg, toS, gSet, gNil, gCons, gTup, gSub, sPar, storeAll, eC, eVar, eBin, eUn, eTup, eLst, eLstO, eIf, eAnd, eOr, eNot, eIs, isN, aNil, aCons, aoNil, aoCons, own, peek, frz, view, out1, out1_val, out1_tmp, R.bind, R.bindS, tTst, tAndS, tOrS, tNotS, eCall, afterF, sFor, iRng1, iRng2, iSeq, itemsOf, opAdd, opSub, opMul, opDiv, opMod, opPow, opNeg, opIMul, opIAdd, opLt, opLe, opGt, opGe, opEq_int, opNe_int, opLen, opAbs, opInt, opList, opTuple, opIx, eApp, isL, wr, List.map_cons, List.map_nil, List.length_cons, List.length_nil, List.replicate_succ, List.replicate_zero, List.cons_append, List.nil_append, List.append_nil, List.getElem?_cons_zero, List.getElem?_cons_succ, List.set_cons_zero, List.set_cons_succ, if_true, if_false, ite_true, ite_false, reduceIte, Bool.false_eq_true, Option.map_some, eUnl, eTupL, eDGet, opMax2, opMin2, opIDiv, opIMod, sParT, storeT, eChn, opLenD, opStr, zk1, zk2, zk3, zk4, zk5, zk6, zk7, zk8, zk0, Nat.reduceAdd, Nat.reduceSub, e0, ea, w, decide_eq_true hn, m1, e2, List.map_append, pT, List.length_map, zk]
  · have e1 : n = 1 := by have := h.hn; omega
    subst e1
    refine ⟨rows, ⟨?_, fun p hp => ⟨(h.each p hp).1, (h.each p hp).2.1⟩, h.srt⟩, ?_⟩
    · have := h.prod
      omega
    · have e3 : decide ((1 : Int) < 1) = false := by decide
      unfold F_prime_factors b_prime_factors
      rw [List.map_nil] at w
      simp only [mkFn, sCons, sNil, sSet, setOf, sExpr, sRet, retOf, sRetN, sIf, sRaise, sAug, sAsg, toS, gSet, gNil, gCons, gTup, gSub, sPar, storeAll, eC, eVar, eBin, eUn, eTup, eLst, eLstO, eIf, eAnd, eOr, eNot, eIs, isN, aNil, aCons, aoNil, aoCons, own, peek, frz, view, out1, out1_val, out1_tmp, R.bind, R.bindS, tTst, tAndS, tOrS, tNotS, eCall, afterF, sFor, iRng1, iRng2, iSeq, itemsOf, opAdd, opSub, opMul, opDiv, opMod, opPow, opNeg, opIMul, opIAdd, opLt, opLe, opGt, opGe, opEq_int, opNe_int, opLen, opAbs, opInt, opList, opTuple, opIx, eApp, isL, wr, List.map_cons, List.map_nil, List.length_cons, List.length_nil, List.replicate_succ, List.replicate_zero, List.cons_append, List.nil_append, List.append_nil, List.getElem?_cons_zero, List.getElem?_cons_succ, List.set_cons_zero, List.set_cons_succ, if_true, if_false, ite_true, ite_false, reduceIte, Bool.false_eq_true, Option.map_some, eUnl, eTupL, eDGet, opMax2, opMin2, opIDiv, opIMod, sParT, storeT, eChn, opLenD, opStr, zk1, zk2, zk3, zk4, zk5, zk6, zk7, zk8, zk0, Nat.reduceAdd, Nat.reduceSub, e0, ea, w, e3]
end K01

set_option exponentiation.threshold 3000
namespace K01
open Sv
theorem shps_ints (n : Nat) : ∀ l : List Int, T.shps n (l.map T.int) = true
  | [] => by rw [List.map_nil, T.shps]
  | i :: r => by rw [List.map_cons, T.shps, shp_int, shps_ints n r]; rfl
theorem shps_prs (n : Nat) : ∀ l : List (Int × Int), T.shps (n + 1) (l.map pT) = true
  | [] => by rw [List.map_nil, T.shps]
  | i :: r => by
    rw [List.map_cons, T.shps, shps_prs n r, Bool.and_true]
    show T.shps n [.int i.1, .int i.2] = true
    rw [T.shps, T.shps, T.shps, shp_int, shp_int]; rfl
theorem eqvs_ints : ∀ a b : List Int, T.eqvs (a.map T.int) (b.map T.int) = decide (a = b)
  | [], [] => rfl
  | [], _ :: _ => rfl
  | _ :: _, [] => rfl
  | i :: a, j :: b => by
    show (i == j && T.eqvs (a.map T.int) (b.map T.int)) = _
    rw [eqvs_ints a b]
    by_cases h1 : i = j <;> by_cases h2 : a = b <;> simp [h1, h2]
theorem eqvs_prs : ∀ a b : List (Int × Int), T.eqvs (a.map pT) (b.map pT) = decide (a = b)
  | [], [] => rfl
  | [], _ :: _ => rfl
  | _ :: _, [] => rfl
  | (i, i') :: a, (j, j') :: b => by
    show ((i == j && (i' == j' && true)) && T.eqvs (a.map pT) (b.map pT)) = _
    rw [eqvs_prs a b]
    by_cases h1 : i = j <;> by_cases h3 : i' = j' <;> by_cases h2 : a = b <;> simp [h1, h2, h3]
theorem opEq_li (a b : List Int) : opEq (.lst (a.map T.int)) (.lst (b.map T.int)) = some (false, .bl (decide (a = b))) := by
  unfold opEq
  rw [if_pos ⟨shps_ints 59 a, shps_ints 59 b⟩]
  show some (false, T.bl (T.eqvs _ _)) = _
  rw [eqvs_ints]
theorem opNe_li (a b : List Int) : opNe (.lst (a.map T.int)) (.lst (b.map T.int)) = some (false, .bl (!decide (a = b))) := by
  unfold opNe
  rw [if_pos ⟨shps_ints 59 a, shps_ints 59 b⟩]
  show some (false, T.bl (!T.eqvs _ _)) = _
  rw [eqvs_ints]
theorem opEq_tp (a b : List (Int × Int)) : opEq (.tup (a.map pT)) (.tup (b.map pT)) = some (false, .bl (decide (a = b))) := by
  unfold opEq
  rw [if_pos ⟨shps_prs 58 a, shps_prs 58 b⟩]
  show some (false, T.bl (T.eqvs _ _)) = _
  rw [eqvs_prs]
theorem opNe_tp (a b : List (Int × Int)) : opNe (.tup (a.map pT)) (.tup (b.map pT)) = some (false, .bl (!decide (a = b))) := by
  unfold opNe
  rw [if_pos ⟨shps_prs 58 a, shps_prs 58 b⟩]
  show some (false, T.bl (!T.eqvs _ _)) = _
  rw [eqvs_prs]
theorem opNe_lp (a b : List (Int × Int)) : opNe (.lst (a.map pT)) (.lst (b.map pT)) = some (false, .bl (!decide (a = b))) := by
  unfold opNe
  rw [if_pos ⟨shps_prs 58 a, shps_prs 58 b⟩]
  show some (false, T.bl (!T.eqvs _ _)) = _
  rw [eqvs_prs]
theorem opNe_bl (a b : Bool) : opNe (.bl a) (.bl b) = some (false, .bl (!(a == b))) := by
  unfold opNe
  rw [if_pos ⟨shp_bl _ _, shp_bl _ _⟩]
  rfl
theorem opEq_bl (a b : Bool) : opEq (.bl a) (.bl b) = some (false, .bl (a == b)) := by
  unfold opEq
  rw [if_pos ⟨shp_bl _ _, shp_bl _ _⟩]
  rfl
theorem fmi {α : Type} (f : α → Option Int) (l : List α) : l.filterMap (fun x => (f x).map T.int) = (l.filterMap f).map T.int := by
  rw [List.map_filterMap]
/-! ### the law's own primes -/
noncomputable def isPr (n : Int) : Bool := @decide (Pr n) (Classical.propDecidable _)
theorem isPr_t {n : Int} : isPr n = true ↔ Pr n := by
  unfold isPr
  exact @decide_eq_true_iff _ (Classical.propDecidable _)
theorem isPr_f {n : Int} : isPr n = false ↔ ¬ Pr n := by
  unfold isPr
  exact @decide_eq_false_iff_not _ (Classical.propDecidable _)
theorem rng_map (lo : Int) (n : Nat) : rngT lo n = ((List.range n).map fun (k : Nat) => lo + (k : Int)).map T.int := by
  unfold rngT
  rw [List.map_map]
  rfl
def rI (lo : Int) (n : Nat) : List Int := (List.range n).map fun (k : Nat) => lo + (k : Int)
theorem rI_mem {lo i : Int} {n : Nat} : i ∈ rI lo n ↔ lo ≤ i ∧ i < lo + n := by
  unfold rI
  rw [List.mem_map]
  constructor
  · rintro ⟨k, hk, rfl⟩
    have := List.mem_range.mp hk
    omega
  · intro ⟨h1, h2⟩
    exact ⟨(i - lo).toNat, List.mem_range.mpr (by omega), by omega⟩
theorem div_dvd {n k : Int} (hk : k ≠ 0) : n / k * k = n ↔ k ∣ n := by
  constructor
  · intro h; exact ⟨n / k, by rw [Int.mul_comm]; exact h.symm⟩
  · intro h; exact Int.ediv_mul_cancel h
/-- a comprehension over numbers -/
theorem compI {vs : List Nat} {g : T → S → R Unit} {c : S → R Bool} {e : S → R Res} {s0 : S} (p : Int → Bool) (f : Int → T) (is : List Int) (hz : is.length ≤ 1000000)
    (h : ∀ i ∈ is, ∃ s1, g (.int i) s0 = .ok () s1 ∧ (⟨wipeS s1.sl vs, s1.ob⟩ : S) = s0 ∧ c s1 = .ok (p i) s1 ∧ (p i = true → e s1 = .ok (.val (f i)) s1)) :
    compL vs g c e (is.map T.int) [] s0 = .ok ((is.filter p).map f) s0 := by
  rw [compL_pure (fun t => match t with | .int i => if p i = true then some (f i) else none | _ => none)]
  · rw [List.nil_append, List.filterMap_map]
    congr 1
    show List.filterMap (fun i => if p i = true then some (f i) else none) is = _
    induction is with
    | nil => rfl
    | cons i r ih =>
      have ih := ih (by rw [List.length_cons] at hz; omega) (fun i hi => h i (List.mem_cons_of_mem _ hi))
      by_cases hp : p i = true
      · rw [List.filterMap_cons, if_pos hp, List.filter_cons, if_pos hp, List.map_cons, ih]
      · rw [List.filterMap_cons, if_neg hp, List.filter_cons, if_neg hp, ih]
  · intro t ht
    obtain ⟨i, hi, rfl⟩ := List.mem_map.mp ht
    obtain ⟨s1, h1, h2, h3, h4⟩ := h i hi
    refine ⟨s1, h1, h2, ?_⟩
    cases hp : p i with
    | false => exact .inl ⟨by simp [hp], by rw [h3, hp]⟩
    | true => exact .inr ⟨f i, by simp [hp], by rw [h3, hp], h4 hp⟩
  · rw [List.length_map]; show 0 + is.length ≤ 1000000; omega
theorem law_prime {n : Int} (h0 : 0 ≤ n) (h : n ≤ 1000000) (ob : List OV) : F__law_prime [.int n] ob = .ok false (.bl (isPr n)) ob := by
  by_cases h1 : 1 < n
  · have hc := compI (vs := [1]) (g := gSet 1) (c := tAndS (tTst (eBin opLe (eBin opMul (eVar 1) (eVar 1)) (eVar 0))) (tTst (eBin opEq (eBin opMul (eBin opDiv (eVar 0) (eVar 1)) (eVar 1)) (eVar 0)))) (e := eVar 1) (s0 := ⟨[sI n, none], ob⟩)
      (fun i => decide (i * i ≤ n) && decide (n / i * i = n)) T.int (rI 2 (n - 2).toNat) (by unfold rI; rw [List.length_map, List.length_range]; omega) (fun i hi => by
        obtain ⟨i1, i2⟩ := rI_mem.mp hi
        have m1 : mulOk i i = true := mulOk_l (by omega)
        have m2 : mulOk (n / i) i = true := mulOk_r (by omega)
        have hd := divOk (j := i) (a := 30) (by omega) (by omega) (by decide) (by decide)
        refine ⟨⟨[sI n, sI i], ob⟩, by simp only [mkFn, sCons, sNil, sSet, setOf, sExpr, sRet, retOf, sRetN, sIf, sRaise, sAug, sAsg, toS, gSet, gNil, gCons, gTup, gSub, sPar, storeAll, eC, eVar, eBin, eUn, eTup, eLst, eLstO, eIf, eAnd, eOr, eNot, eIs, isN, aNil, aCons, aoNil, aoCons, own, peek, frz, view, out1, out1_val, out1_tmp, R.bind, R.bindS, tTst, tAndS, tOrS, tNotS, eCall, afterF, sFor, iRng1, iRng2, iSeq, itemsOf, opAdd, opSub, opMul, opDiv, opMod, opPow, opNeg, opIMul, opIAdd, opLt, opLe, opGt, opGe, opEq_int, opNe_int, opLen, opAbs, opInt, opList, opTuple, opIx, eApp, isL, wr, List.map_cons, List.map_nil, List.length_cons, List.length_nil, List.replicate_succ, List.replicate_zero, List.cons_append, List.nil_append, List.append_nil, List.getElem?_cons_zero, List.getElem?_cons_succ, List.set_cons_zero, List.set_cons_succ, if_true, if_false, ite_true, ite_false, reduceIte, Bool.false_eq_true, Option.map_some, eUnl, eTupL, eDGet, opMax2, opMin2, opIDiv, opIMod, sParT, storeT, eChn, opLenD, opStr, zk1, zk2, zk3, zk4, zk5, zk6, zk7, zk8, zk0, Nat.reduceAdd, Nat.reduceSub], rfl, ?_, ?_⟩
        · by_cases k1 : i * i ≤ n
          · simp only [mkFn, sCons, sNil, sSet, setOf, sExpr, sRet, retOf, sRetN, sIf, sRaise, sAug, sAsg, toS, gSet, gNil, gCons, gTup, gSub, sPar, storeAll, eC, eVar, eBin, eUn, eTup, eLst, eLstO, eIf, eAnd, eOr, eNot, eIs, isN, aNil, aCons, aoNil, aoCons, own, peek, frz, view, out1, out1_val, out1_tmp, R.bind, R.bindS, tTst, tAndS, tOrS, tNotS, eCall, afterF, sFor, iRng1, iRng2, iSeq, itemsOf, opAdd, opSub, opMul, opDiv, opMod, opPow, opNeg, opIMul, opIAdd, opLt, opLe, opGt, opGe, opEq_int, opNe_int, opLen, opAbs, opInt, opList, opTuple, opIx, eApp, isL, wr, List.map_cons, List.map_nil, List.length_cons, List.length_nil, List.replicate_succ, List.replicate_zero, List.cons_append, List.nil_append, List.append_nil, List.getElem?_cons_zero, List.getElem?_cons_succ, List.set_cons_zero, List.set_cons_succ, if_true, if_false, ite_true, ite_false, reduceIte, Bool.false_eq_true, Option.map_some, eUnl, eTupL, eDGet, opMax2, opMin2, opIDiv, opIMod, sParT, storeT, eChn, opLenD, opStr, zk1, zk2, zk3, zk4, zk5, zk6, zk7, zk8, zk0, Nat.reduceAdd, Nat.reduceSub, m1, m2, if_pos hd, decide_eq_true k1, Bool.true_and]
          · simp only [mkFn, sCons, sNil, sSet, setOf, sExpr, sRet, retOf, sRetN, sIf, sRaise, sAug, sAsg, toS, gSet, gNil, gCons, gTup, gSub, sPar, storeAll, eC, eVar, eBin, eUn, eTup, eLst, eLstO, eIf, eAnd, eOr, eNot, eIs, isN, aNil, aCons, aoNil, aoCons, own, peek, frz, view, out1, out1_val, out1_tmp, R.bind, R.bindS, tTst, tAndS, tOrS, tNotS, eCall, afterF, sFor, iRng1, iRng2, iSeq, itemsOf, opAdd, opSub, opMul, opDiv, opMod, opPow, opNeg, opIMul, opIAdd, opLt, opLe, opGt, opGe, opEq_int, opNe_int, opLen, opAbs, opInt, opList, opTuple, opIx, eApp, isL, wr, List.map_cons, List.map_nil, List.length_cons, List.length_nil, List.replicate_succ, List.replicate_zero, List.cons_append, List.nil_append, List.append_nil, List.getElem?_cons_zero, List.getElem?_cons_succ, List.set_cons_zero, List.set_cons_succ, if_true, if_false, ite_true, ite_false, reduceIte, Bool.false_eq_true, Option.map_some, eUnl, eTupL, eDGet, opMax2, opMin2, opIDiv, opIMod, sParT, storeT, eChn, opLenD, opStr, zk1, zk2, zk3, zk4, zk5, zk6, zk7, zk8, zk0, Nat.reduceAdd, Nat.reduceSub, m1, m2, if_pos hd, decide_eq_false k1, Bool.false_and]
        · intro _
          simp only [mkFn, sCons, sNil, sSet, setOf, sExpr, sRet, retOf, sRetN, sIf, sRaise, sAug, sAsg, toS, gSet, gNil, gCons, gTup, gSub, sPar, storeAll, eC, eVar, eBin, eUn, eTup, eLst, eLstO, eIf, eAnd, eOr, eNot, eIs, isN, aNil, aCons, aoNil, aoCons, own, peek, frz, view, out1, out1_val, out1_tmp, R.bind, R.bindS, tTst, tAndS, tOrS, tNotS, eCall, afterF, sFor, iRng1, iRng2, iSeq, itemsOf, opAdd, opSub, opMul, opDiv, opMod, opPow, opNeg, opIMul, opIAdd, opLt, opLe, opGt, opGe, opEq_int, opNe_int, opLen, opAbs, opInt, opList, opTuple, opIx, eApp, isL, wr, List.map_cons, List.map_nil, List.length_cons, List.length_nil, List.replicate_succ, List.replicate_zero, List.cons_append, List.nil_append, List.append_nil, List.getElem?_cons_zero, List.getElem?_cons_succ, List.set_cons_zero, List.set_cons_succ, if_true, if_false, ite_true, ite_false, reduceIte, Bool.false_eq_true, Option.map_some, eUnl, eTupL, eDGet, opMax2, opMin2, opIDiv, opIMod, sParT, storeT, eChn, opLenD, opStr, zk1, zk2, zk3, zk4, zk5, zk6, zk7, zk8, zk0, Nat.reduceAdd, Nat.reduceSub])
    have hr : -4611686018427387904 ≤ (2 : Int) ∧ (2 : Int) < 4611686018427387904 := by decide
    have hr2 : -4611686018427387904 ≤ n ∧ n < 4611686018427387904 := by omega
    have ee := opEq_li (List.filter (fun i => decide (i * i ≤ n) && decide (n / i * i = n)) (rI 2 (n - 2).toNat)) []
    rw [List.map_nil] at ee
    have hp : decide (List.filter (fun i => decide (i * i ≤ n) && decide (n / i * i = n)) (rI 2 (n - 2).toNat) = []) = isPr n := by
      by_cases hP : Pr n
      · rw [isPr_t.mpr hP, decide_eq_true_iff, List.filter_eq_nil_iff]
        intro i hi
        obtain ⟨i1, i2⟩ := rI_mem.mp hi
        rw [Bool.and_eq_true, decide_eq_true_iff, decide_eq_true_iff, div_dvd (by omega)]
        exact fun z => hP.2 i i1 (by omega) z.2
      · rw [isPr_f.mpr hP, decide_eq_false_iff_not, List.filter_eq_nil_iff]
        intro z
        refine hP ⟨by omega, fun d d1 d2 d3 => ?_⟩
        have za : ∀ i, 2 ≤ i → i < n → i * i ≤ n → ¬ i ∣ n := fun i i1 i2 i3 i4 => z i (rI_mem.mpr ⟨i1, by omega⟩) (by
          rw [Bool.and_eq_true, decide_eq_true_iff, decide_eq_true_iff, div_dvd (by omega)]
          exact ⟨i3, i4⟩)
        obtain ⟨c, hc⟩ := d3
        have c0 : 0 < c := Classical.byContradiction fun z => by
          have := Int.mul_nonpos_of_nonneg_of_nonpos (show 0 ≤ d by omega) (show c ≤ 0 by omega)
          omega
        have c1 : c ≠ 1 := fun e => by rw [e, Int.mul_one] at hc; omega
        by_cases hdc : d ≤ c
        · exact za d d1 d2 (by rw [hc]; exact Int.mul_le_mul_of_nonneg_left hdc (by omega)) ⟨c, hc⟩
        · have := Int.mul_lt_mul_of_pos_right (show 1 < d by omega) c0
          exact za c (by omega) (by omega) (by rw [hc]; exact Int.mul_le_mul_of_nonneg_right (by omega) (by omega)) ⟨d, by rw [hc, Int.mul_comm]⟩
    have er : rngT 2 (n - 2).toNat = (rI 2 (n - 2).toNat).map T.int := rng_map _ _
    unfold F__law_prime b__law_prime
    simp only [mkFn, sCons, sNil, sSet, setOf, sExpr, sRet, retOf, sRetN, sIf, sRaise, sAug, sAsg, toS, gSet, gNil, gCons, gTup, gSub, sPar, storeAll, eC, eVar, eBin, eUn, eTup, eLst, eLstO, eIf, eAnd, eOr, eNot, eIs, isN, aNil, aCons, aoNil, aoCons, own, peek, frz, view, out1, out1_val, out1_tmp, R.bind, R.bindS, tTst, tAndS, tOrS, tNotS, eCall, afterF, sFor, iRng1, iRng2, iSeq, itemsOf, opAdd, opSub, opMul, opDiv, opMod, opPow, opNeg, opIMul, opIAdd, opLt, opLe, opGt, opGe, opEq_int, opNe_int, opLen, opAbs, opInt, opList, opTuple, opIx, eApp, isL, wr, List.map_cons, List.map_nil, List.length_cons, List.length_nil, List.replicate_succ, List.replicate_zero, List.cons_append, List.nil_append, List.append_nil, List.getElem?_cons_zero, List.getElem?_cons_succ, List.set_cons_zero, List.set_cons_succ, if_true, if_false, ite_true, ite_false, reduceIte, Bool.false_eq_true, Option.map_some, eUnl, eTupL, eDGet, opMax2, opMin2, opIDiv, opIMod, sParT, storeT, eChn, opLenD, opStr, zk1, zk2, zk3, zk4, zk5, zk6, zk7, zk8, zk0, Nat.reduceAdd, Nat.reduceSub, decide_eq_true h1, if_pos (And.intro hr hr2), eLC, wipeS, backS, er, hc, ee, hp]
  · have hp : isPr n = false := isPr_f.mpr fun z => h1 (by have := z.1; omega)
    unfold F__law_prime b__law_prime
    simp only [mkFn, sCons, sNil, sSet, setOf, sExpr, sRet, retOf, sRetN, sIf, sRaise, sAug, sAsg, toS, gSet, gNil, gCons, gTup, gSub, sPar, storeAll, eC, eVar, eBin, eUn, eTup, eLst, eLstO, eIf, eAnd, eOr, eNot, eIs, isN, aNil, aCons, aoNil, aoCons, own, peek, frz, view, out1, out1_val, out1_tmp, R.bind, R.bindS, tTst, tAndS, tOrS, tNotS, eCall, afterF, sFor, iRng1, iRng2, iSeq, itemsOf, opAdd, opSub, opMul, opDiv, opMod, opPow, opNeg, opIMul, opIAdd, opLt, opLe, opGt, opGe, opEq_int, opNe_int, opLen, opAbs, opInt, opList, opTuple, opIx, eApp, isL, wr, List.map_cons, List.map_nil, List.length_cons, List.length_nil, List.replicate_succ, List.replicate_zero, List.cons_append, List.nil_append, List.append_nil, List.getElem?_cons_zero, List.getElem?_cons_succ, List.set_cons_zero, List.set_cons_succ, if_true, if_false, ite_true, ite_false, reduceIte, Bool.false_eq_true, Option.map_some, eUnl, eTupL, eDGet, opMax2, opMin2, opIDiv, opIMod, sParT, storeT, eChn, opLenD, opStr, zk1, zk2, zk3, zk4, zk5, zk6, zk7, zk8, zk0, Nat.reduceAdd, Nat.reduceSub, decide_eq_false h1, hp]
theorem prd_pos : ∀ {l : List (Int × Int)}, (∀ p ∈ l, 1 ≤ p.1) → 1 ≤ prd l
  | [], _ => by decide
  | p :: r, h => by
    have h1 := le_pow (h p List.mem_cons_self) p.2.toNat
    have h2 := prd_pos (l := r) fun q hq => h q (List.mem_cons_of_mem _ hq)
    show 1 ≤ p.1 ^ p.2.toNat * prd r
    have := Int.mul_le_mul_of_nonneg_left h2 (show 0 ≤ p.1 ^ p.2.toNat by omega)
    omega
theorem dvd_prd : ∀ {l : List (Int × Int)} {p : Int × Int}, p ∈ l → p.1 ^ p.2.toNat ∣ prd l
  | q :: r, p, h => by
    rcases List.mem_cons.mp h with rfl | h
    · exact ⟨prd r, rfl⟩
    · exact Int.dvd_trans (dvd_prd h) ⟨_, Int.mul_comm _ _⟩
theorem dvd_pow1 (p : Int) {m : Int} (h : 1 ≤ m) : p ∣ p ^ m.toNat := ⟨p ^ (m.toNat - 1), by rw [Int.mul_comm, ← Int.pow_succ]; congr 1; omega⟩
theorem le_of_dvd {a b : Int} (hb : 1 ≤ b) (h : a ∣ b) : a ≤ b := Int.le_of_dvd (by omega) h
theorem Fac.dvd {N : Int} {rows : List (Int × Int)} (h : Fac N rows) {p : Int × Int} (hp : p ∈ rows) : p.1 ∣ N := by
  rw [← h.prod]
  exact Int.dvd_trans (dvd_pow1 p.1 (h.each p hp).2) (dvd_prd hp)
theorem Fac.pr {N : Int} {rows : List (Int × Int)} (h : Fac N rows) (hN : 1 < N) : decide (rows = [(N, 1)]) = isPr N := by
  cases rows with
  | nil => exact absurd h.prod (by show (1 : Int) ≠ N; omega)
  | cons x r =>
    have hx := h.each x List.mem_cons_self
    have dx := h.dvd (p := x) List.mem_cons_self
    have lx := le_of_dvd (by omega) dx
    cases r with
    | nil =>
      by_cases hP : Pr N
      · rw [isPr_t.mpr hP]
        have e1 : x.1 = N := Classical.byContradiction fun z => hP.2 x.1 hx.1.1 (by omega) dx
        have e2 : x.2 = 1 := Classical.byContradiction fun z => by
          have hm : 2 ≤ x.2 := by omega
          have hpr : x.1 ^ x.2.toNat * 1 = N := h.prod
          rw [show x.2.toNat = (x.2.toNat - 1) + 1 by omega, Int.pow_succ, Int.mul_one, e1] at hpr
          have h2 := le_pow1 (show 1 ≤ N by omega) (k := x.2.toNat - 1) (by omega)
          have h3 := Int.mul_le_mul_of_nonneg_right h2 (show 0 ≤ N by omega)
          have h4 := Int.mul_lt_mul_of_pos_right hN (show 0 < N by omega)
          omega
        rw [decide_eq_true_iff]
        obtain ⟨a, b⟩ := x
        simp only at e1 e2
        rw [e1, e2]
      · rw [isPr_f.mpr hP, decide_eq_false_iff_not]
        intro z
        injection z with z1 z2
        rw [z1] at hx
        exact hP hx.1
    | cons y r =>
      have hxy := (List.pairwise_cons.mp h.srt).1 y List.mem_cons_self
      have dy := h.dvd (p := y) (List.mem_cons_of_mem _ List.mem_cons_self)
      have ly := le_of_dvd (by omega) dy
      rw [isPr_f.mpr fun hP => hP.2 x.1 hx.1.1 (by omega) dx, decide_eq_false_iff_not]
      intro z
      injection z with _ z2
      cases z2
theorem prime_is {n : Int} (h0 : 1 ≤ n) (h : n ≤ 1000000) (ob : List OV) : F_is_prime [.int n] ob = .ok false (.bl (isPr n)) ob := by
  by_cases h1 : 1 < n
  · obtain ⟨rows, hf, e⟩ := pf_eq h0 (by omega) ob
    have ee := opEq_tp rows [(n, 1)]
    rw [hf.pr h1, List.map_cons, List.map_nil] at ee
    have ee : opEq (.tup (rows.map pT)) (.tup [.tup [.int n, .int 1]]) = some (false, .bl (isPr n)) := ee
    unfold F_is_prime b_is_prime bb_is_prime
    simp only [mkFn, sCons, sNil, sSet, setOf, sExpr, sRet, retOf, sRetN, sIf, sRaise, sAug, sAsg, toS, gSet, gNil, gCons, gTup, gSub, sPar, storeAll, eC, eVar, eBin, eUn, eTup, eLst, eLstO, eIf, eAnd, eOr, eNot, eIs, isN, aNil, aCons, aoNil, aoCons, own, peek, frz, view, out1, out1_val, out1_tmp, R.bind, R.bindS, tTst, tAndS, tOrS, tNotS, eCall, afterF, sFor, iRng1, iRng2, iSeq, itemsOf, opAdd, opSub, opMul, opDiv, opMod, opPow, opNeg, opIMul, opIAdd, opLt, opLe, opGt, opGe, opEq_int, opNe_int, opLen, opAbs, opInt, opList, opTuple, opIx, eApp, isL, wr, List.map_cons, List.map_nil, List.length_cons, List.length_nil, List.replicate_succ, List.replicate_zero, List.cons_append, List.nil_append, List.append_nil, List.getElem?_cons_zero, List.getElem?_cons_succ, List.set_cons_zero, List.set_cons_succ, if_true, if_false, ite_true, ite_false, reduceIte, Bool.false_eq_true, Option.map_some, eUnl, eTupL, eDGet, opMax2, opMin2, opIDiv, opIMod, sParT, storeT, eChn, opLenD, opStr, zk1, zk2, zk3, zk4, zk5, zk6, zk7, zk8, zk0, Nat.reduceAdd, Nat.reduceSub, decide_eq_true h1, e, ee]
  · have hp : isPr n = false := isPr_f.mpr fun z => h1 (by have := z.1; omega)
    unfold F_is_prime b_is_prime bb_is_prime
    simp only [mkFn, sCons, sNil, sSet, setOf, sExpr, sRet, retOf, sRetN, sIf, sRaise, sAug, sAsg, toS, gSet, gNil, gCons, gTup, gSub, sPar, storeAll, eC, eVar, eBin, eUn, eTup, eLst, eLstO, eIf, eAnd, eOr, eNot, eIs, isN, aNil, aCons, aoNil, aoCons, own, peek, frz, view, out1, out1_val, out1_tmp, R.bind, R.bindS, tTst, tAndS, tOrS, tNotS, eCall, afterF, sFor, iRng1, iRng2, iSeq, itemsOf, opAdd, opSub, opMul, opDiv, opMod, opPow, opNeg, opIMul, opIAdd, opLt, opLe, opGt, opGe, opEq_int, opNe_int, opLen, opAbs, opInt, opList, opTuple, opIx, eApp, isL, wr, List.map_cons, List.map_nil, List.length_cons, List.length_nil, List.replicate_succ, List.replicate_zero, List.cons_append, List.nil_append, List.append_nil, List.getElem?_cons_zero, List.getElem?_cons_succ, List.set_cons_zero, List.set_cons_succ, if_true, if_false, ite_true, ite_false, reduceIte, Bool.false_eq_true, Option.map_some, eUnl, eTupL, eDGet, opMax2, opMin2, opIDiv, opIMod, sParT, storeT, eChn, opLenD, opStr, zk1, zk2, zk3, zk4, zk5, zk6, zk7, zk8, zk0, Nat.reduceAdd, Nat.reduceSub, decide_eq_false h1, hp]
end K01

set_option exponentiation.threshold 3000
namespace K01
open Sv
theorem le_int (a b : Int) : PySem.W.dataLe false T.dat (.int a) (.int b) = decide (a ≤ b) := by
  show (!PyProof.Rows.lexLt PyProof.Rows.itemOrd (PySem.W.keyToks (PySem.PyData.int b)) (PySem.W.keyToks (PySem.PyData.int a))) = decide (a ≤ b)
  simp only [PySem.W.keyToks, PyProof.Rows.lexLt, PyProof.Rows.itemLt]
  by_cases h : a ≤ b
  · simp [h]
  · simp [h]; omega
theorem le_pr (a b c d : Int) : PySem.W.dataLe false T.dat (.tup [.int a, .int b]) (.tup [.int c, .int d]) = decide (a < c ∨ (a = c ∧ b ≤ d)) := by
  show (!PyProof.Rows.lexLt PyProof.Rows.itemOrd (PySem.W.keyToks (PySem.PyData.tuple [.int c, .int d])) (PySem.W.keyToks (PySem.PyData.tuple [.int a, .int b]))) = _
  simp only [PySem.W.keyToks, PySem.W.keyToksAll, PyProof.Rows.lexLt, PyProof.Rows.itemLt, List.cons_append, List.nil_append]
  by_cases h : a < c
  · have h2 : ¬ c < a := by omega
    have h3 : ¬ c = a := by omega
    simp [h, h2, h3]
  · by_cases h4 : a = c
    · subst h4
      by_cases h5 : b ≤ d
      · have : ¬ d < b := by omega
        simp [h5, this]
      · have : d < b := by omega
        simp [h5, this]
    · have h2 : c < a := by omega
      have h3 : ¬ c = a := by omega
      simp [h, h2, h3, h4]
def sortI (l : List Int) : List Int := l.mergeSort fun a b => decide (a ≤ b)
theorem srt_ints (l : List Int) : srt (l.map T.int) = (sortI l).map T.int := by
  unfold srt sortI
  rw [List.map_mergeSort (s := PySem.W.dataLe false T.dat) (f := T.int)]
  intro a _ b _
  rw [le_int]
theorem sortOk_ints (l : List Int) : sortOk (l.map T.int) = true := by
  unfold sortOk
  rw [shps_ints, Bool.true_and, Bool.and_eq_true, Bool.or_eq_true]
  constructor
  · rw [List.all_eq_true]
    intro t ht
    rw [List.all_eq_true]
    intro u hu
    obtain ⟨i, _, rfl⟩ := List.mem_map.mp ht
    obtain ⟨j, _, rfl⟩ := List.mem_map.mp hu
    rfl
  · right
    rw [List.all_eq_true]
    intro t ht
    obtain ⟨i, _, rfl⟩ := List.mem_map.mp ht
    rfl
theorem sortOk_prs (l : List (Int × Int)) : sortOk (l.map pT) = true := by
  unfold sortOk
  rw [shps_prs, Bool.true_and, Bool.and_eq_true, Bool.or_eq_true]
  constructor
  · rw [List.all_eq_true]
    intro t ht
    rw [List.all_eq_true]
    intro u hu
    obtain ⟨i, _, rfl⟩ := List.mem_map.mp ht
    obtain ⟨j, _, rfl⟩ := List.mem_map.mp hu
    rfl
  · left
    rw [List.all_eq_true]
    intro t ht
    obtain ⟨i, _, rfl⟩ := List.mem_map.mp ht
    rfl
theorem srt_prs {l : List (Int × Int)} (h : l.Pairwise fun p q => p.1 < q.1) : srt (l.map pT) = l.map pT := by
  refine List.mergeSort_of_pairwise ?_
  rw [List.pairwise_map]
  refine h.imp fun {p q} hpq => ?_
  show PySem.W.dataLe false T.dat (.tup [.int p.1, .int p.2]) (.tup [.int q.1, .int q.2]) = true
  rw [le_pr]
  exact decide_eq_true (.inl hpq)
theorem opSrt_ints (l : List Int) : opSrt (.lst (l.map T.int)) = some (true, .lst ((sortI l).map T.int)) := by
  unfold opSrt
  simp only [sortOk_ints, if_true, srt_ints]
theorem opSrt_prs {l : List (Int × Int)} (h : l.Pairwise fun p q => p.1 < q.1) : opSrt (.tup (l.map pT)) = some (true, .lst (l.map pT)) := by
  unfold opSrt
  simp only [sortOk_prs, if_true, srt_prs h]
theorem sorted_eq {a b : List Int} (na : a.Nodup) (nb : b.Pairwise (· < ·)) (h : ∀ i, i ∈ a ↔ i ∈ b) : sortI a = b := by
  have nb2 : b.Nodup := nb.imp fun {x y} h => by omega
  have p : a.Perm b := by
    rw [List.perm_iff_count]
    intro i
    rw [na.count, nb2.count]
    by_cases hi : i ∈ a
    · rw [if_pos hi, if_pos ((h i).mp hi)]
    · rw [if_neg hi, if_neg fun z => hi ((h i).mpr z)]
  refine List.Perm.eq_of_pairwise (le := fun x y => x ≤ y) (fun x y _ _ h1 h2 => Int.le_antisymm h1 h2) ?_ (nb.imp fun {x y} h => by omega) ((List.mergeSort_perm a _).trans p)
  have := List.pairwise_mergeSort (le := fun a b : Int => decide (a ≤ b)) (fun x y z h1 h2 => by
    rw [decide_eq_true_iff] at *; omega) (fun x y => by rw [Bool.or_eq_true, decide_eq_true_iff, decide_eq_true_iff]; omega) a
  exact this.imp fun h => of_decide_eq_true h
/-! ### a dict of rows -/
theorem pairs_prs : ∀ l : List (Int × Int), pairsOf (l.map pT) = some (l.map fun p => (Sum.inl p.1, T.int p.2))
  | [] => rfl
  | p :: r => by
    show (match kOf (.int p.1), pairsOf (r.map pT) with
      | some k, some l => some ((k, T.int p.2) :: l)
      | _, _ => none) = _
    rw [pairs_prs r]
    rfl
theorem merge_new : ∀ (l acc : List (L2.Key × T)), l.Pairwise (fun p q => p.1 ≠ q.1) → (∀ p ∈ l, ∀ q ∈ acc, q.1 ≠ p.1) → mergeT acc l = acc ++ l
  | [], acc, _, _ => by show acc = acc ++ []; rw [List.append_nil]
  | p :: r, acc, h, h2 => by
    rw [List.pairwise_cons] at h
    show mergeT (putT acc p.1 p.2) r = _
    have e : putT acc p.1 p.2 = acc ++ [p] := by
      unfold putT
      rw [if_neg]
      rw [List.any_eq_true]
      rintro ⟨q, hq, e⟩
      exact h2 p List.mem_cons_self q hq (of_decide_eq_true e)
    rw [e, merge_new r (acc ++ [p]) h.2, List.append_assoc]
    · rfl
    · intro q hq s hs
      rcases List.mem_append.mp hs with hs | hs
      · exact h2 q (List.mem_cons_of_mem _ hq) s hs
      · obtain rfl := List.mem_singleton.mp hs
        exact h.1 q hq
theorem merge_prs {l : List (Int × Int)} (h : l.Pairwise fun p q => p.1 < q.1) : mergeT [] (l.map fun p => ((Sum.inl p.1 : L2.Key), T.int p.2)) = l.map fun p => (Sum.inl p.1, T.int p.2) := by
  rw [merge_new _ _ ?_ (fun _ _ q hq => absurd hq List.not_mem_nil), List.nil_append]
  rw [List.pairwise_map]
  refine h.imp fun {p q} hpq e => ?_
  injection e with e
  omega
/-! ### the next prime -/
theorem pr5003 : Pr 5003 := Pr_last (t := 71) (by decide) (by decide) (fun d d1 d2 d3 => by
  have h : ∀ k : Nat, k < 71 → 2 ≤ k → ¬ k ∣ 5003 := by decide
  exact h d.natAbs (by omega) (by omega) (Int.natAbs_dvd_natAbs.mpr d3)) (by decide)
theorem next_is : ∀ (k : Nat) (n : Int), n < 5003 → (5003 - n).toNat = k → ∃ q, n < q ∧ q ≤ 5003 ∧ Pr q ∧ ∀ i, n < i → i < q → ¬ Pr i
  | 0, n, h, e => by omega
  | k + 1, n, h, e => by
    by_cases hp : Pr (n + 1)
    · exact ⟨n + 1, by omega, by omega, hp, fun i h1 h2 => by omega⟩
    · by_cases he : n + 1 = 5003
      · exact absurd (he ▸ pr5003) hp
      · obtain ⟨q, h1, h2, h3, h4⟩ := next_is k (n + 1) (by omega) (by omega)
        refine ⟨q, by omega, h2, h3, fun i i1 i2 => ?_⟩
        by_cases hi : i = n + 1
        · subst hi; exact hp
        · exact h4 i (by omega) i2
theorem np_loop {q : Int} (hq : Pr q) (hq2 : q ≤ 1000000) (ob : List OV) : ∀ (m j : Nat) (k : Int), 0 ≤ k → k + j + 1 = q → (∀ i, k < i → i < q → ¬ Pr i) → j < m →
    whileL (tTst (eC (.bl true))) (sCons (sAug opIAdd 0 (eC (.int 1))) (sIf (tTst (eCall F_is_prime (aCons (eVar 0) aNil))) (sRet (eVar 0)) sNil)) m ⟨[sI k], ob⟩ = .ret false (.int q) ob
  | 0, j, k, _, _, _, hm => absurd hm (Nat.not_lt_zero j)
  | m + 1, j, k, h0, h1, h2, hm => by
    have ep := prime_is (n := k + 1) (by omega) (by omega) ob
    unfold whileL
    by_cases hj : j = 0
    · subst hj
      have e : k + 1 = q := by omega
      rw [e, isPr_t.mpr hq] at ep
      simp only [mkFn, sCons, sNil, sSet, setOf, sExpr, sRet, retOf, sRetN, sIf, sRaise, sAug, sAsg, toS, gSet, gNil, gCons, gTup, gSub, sPar, storeAll, eC, eVar, eBin, eUn, eTup, eLst, eLstO, eIf, eAnd, eOr, eNot, eIs, isN, aNil, aCons, aoNil, aoCons, own, peek, frz, view, out1, out1_val, out1_tmp, R.bind, R.bindS, tTst, tAndS, tOrS, tNotS, eCall, afterF, sFor, iRng1, iRng2, iSeq, itemsOf, opAdd, opSub, opMul, opDiv, opMod, opPow, opNeg, opIMul, opIAdd, opLt, opLe, opGt, opGe, opEq_int, opNe_int, opLen, opAbs, opInt, opList, opTuple, opIx, eApp, isL, wr, List.map_cons, List.map_nil, List.length_cons, List.length_nil, List.replicate_succ, List.replicate_zero, List.cons_append, List.nil_append, List.append_nil, List.getElem?_cons_zero, List.getElem?_cons_succ, List.set_cons_zero, List.set_cons_succ, if_true, if_false, ite_true, ite_false, reduceIte, Bool.false_eq_true, Option.map_some, eUnl, eTupL, eDGet, opMax2, opMin2, opIDiv, opIMod, sParT, storeT, eChn, opLenD, opStr, zk1, zk2, zk3, zk4, zk5, zk6, zk7, zk8, zk0, Nat.reduceAdd, Nat.reduceSub, e, ep]
    · have e : isPr (k + 1) = false := isPr_f.mpr (h2 _ (by omega) (by omega))
      rw [e] at ep
      have ih := np_loop hq hq2 ob m (j - 1) (k + 1) (by omega) (by omega) (fun i i1 i2 => h2 i (by omega) i2) (by omega)
      simp only [mkFn, sCons, sNil, sSet, setOf, sExpr, sRet, retOf, sRetN, sIf, sRaise, sAug, sAsg, toS, gSet, gNil, gCons, gTup, gSub, sPar, storeAll, eC, eVar, eBin, eUn, eTup, eLst, eLstO, eIf, eAnd, eOr, eNot, eIs, isN, aNil, aCons, aoNil, aoCons, own, peek, frz, view, out1, out1_val, out1_tmp, R.bind, R.bindS, tTst, tAndS, tOrS, tNotS, eCall, afterF, sFor, iRng1, iRng2, iSeq, itemsOf, opAdd, opSub, opMul, opDiv, opMod, opPow, opNeg, opIMul, opIAdd, opLt, opLe, opGt, opGe, opEq_int, opNe_int, opLen, opAbs, opInt, opList, opTuple, opIx, eApp, isL, wr, List.map_cons, List.map_nil, List.length_cons, List.length_nil, List.replicate_succ, List.replicate_zero, List.cons_append, List.nil_append, List.append_nil, List.getElem?_cons_zero, List.getElem?_cons_succ, List.set_cons_zero, List.set_cons_succ, if_true, if_false, ite_true, ite_false, reduceIte, Bool.false_eq_true, Option.map_some, eUnl, eTupL, eDGet, opMax2, opMin2, opIDiv, opIMod, sParT, storeT, eChn, opLenD, opStr, zk1, zk2, zk3, zk4, zk5, zk6, zk7, zk8, zk0, Nat.reduceAdd, Nat.reduceSub, ep, ih]
theorem next_eq {n : Int} (h0 : 1 ≤ n) (h : n ≤ 5000) (ob : List OV) : ∃ q, n < q ∧ q ≤ 5003 ∧ Pr q ∧ (∀ i, n < i → i < q → ¬ Pr i) ∧ F_next_prime [.int n] ob = .ok false (.int q) ob := by
  obtain ⟨q, h1, h2, h3, h4⟩ := next_is _ n (by omega) rfl
  refine ⟨q, h1, h2, h3, h4, ?_⟩
  have w := np_loop h3 (by omega) ob fuel (q - n - 1).toNat n (by omega) (by omega) h4 (fuel_of (a := 20) (by omega) (by decide))
  have e : (if n > 1 then n else 1) = n := by split <;> omega
  unfold F_next_prime b_next_prime bb_next_prime sWhile
  simp only [mkFn, sCons, sNil, sSet, setOf, sExpr, sRet, retOf, sRetN, sIf, sRaise, sAug, sAsg, toS, gSet, gNil, gCons, gTup, gSub, sPar, storeAll, eC, eVar, eBin, eUn, eTup, eLst, eLstO, eIf, eAnd, eOr, eNot, eIs, isN, aNil, aCons, aoNil, aoCons, own, peek, frz, view, out1, out1_val, out1_tmp, R.bind, R.bindS, tTst, tAndS, tOrS, tNotS, eCall, afterF, sFor, iRng1, iRng2, iSeq, itemsOf, opAdd, opSub, opMul, opDiv, opMod, opPow, opNeg, opIMul, opIAdd, opLt, opLe, opGt, opGe, opEq_int, opNe_int, opLen, opAbs, opInt, opList, opTuple, opIx, eApp, isL, wr, List.map_cons, List.map_nil, List.length_cons, List.length_nil, List.replicate_succ, List.replicate_zero, List.cons_append, List.nil_append, List.append_nil, List.getElem?_cons_zero, List.getElem?_cons_succ, List.set_cons_zero, List.set_cons_succ, if_true, if_false, ite_true, ite_false, reduceIte, Bool.false_eq_true, Option.map_some, eUnl, eTupL, eDGet, opMax2, opMin2, opIDiv, opIMod, sParT, storeT, eChn, opLenD, opStr, zk1, zk2, zk3, zk4, zk5, zk6, zk7, zk8, zk0, Nat.reduceAdd, Nat.reduceSub, e, w]
end K01

set_option exponentiation.threshold 3000
namespace K01
open Sv
/-- a comprehension over numbers, behind what is there -/
theorem compIA {vs : List Nat} {g : T → S → R Unit} {c : S → R Bool} {e : S → R Res} {s0 : S} (f : Int → T) (is : List Int) (acc : List T) (hz : acc.length + is.length ≤ 1000000)
    (h : ∀ i ∈ is, ∃ s1, g (.int i) s0 = .ok () s1 ∧ (⟨wipeS s1.sl vs, s1.ob⟩ : S) = s0 ∧ c s1 = .ok true s1 ∧ e s1 = .ok (.val (f i)) s1) :
    compL vs g c e (is.map T.int) acc s0 = .ok (acc ++ is.map f) s0 := by
  rw [compL_pure (fun t => match t with | .int i => some (f i) | _ => none)]
  · rw [List.filterMap_map]
    congr 2
    show List.filterMap (fun i => some (f i)) is = _
    rw [List.filterMap_eq_map']
  · intro t ht
    obtain ⟨i, hi, rfl⟩ := List.mem_map.mp ht
    obtain ⟨s1, h1, h2, h3, h4⟩ := h i hi
    exact ⟨s1, h1, h2, .inr ⟨f i, rfl, h3, h4⟩⟩
  · rw [List.length_map]; exact hz
def stp (p m : Int) (F : List Int) : List Int := F.flatMap fun x => (rI 0 (m + 1).toNat).map fun e => x * p ^ e.toNat
theorem stp_cons (p m x : Int) (F : List Int) : stp p m (x :: F) = ((rI 0 (m + 1).toNat).map fun e => x * p ^ e.toNat) ++ stp p m F := by unfold stp; rw [List.flatMap_cons]
theorem stp_len (p m : Int) : ∀ F : List Int, (stp p m F).length = F.length * (m + 1).toNat
  | [] => by unfold stp; rw [List.flatMap_nil, List.length_nil, Nat.zero_mul]
  | x :: F => by
    rw [stp_cons, List.length_append, List.length_map, stp_len p m F]
    unfold rI
    rw [List.length_map, List.length_range, List.length_cons, Nat.add_mul, Nat.one_mul, Nat.add_comm]
theorem rI_len (lo : Int) (n : Nat) : (rI lo n).length = n := by unfold rI; rw [List.length_map, List.length_range]
def dvG : T → S → R Unit := gSet 4
def dvF : S → R (List T) := iRng1 (eBin opAdd (eVar 3) (eC (.int 1)))
def dvE : S → R Res := eBin opMul (eVar 4) (eCall F_power (aCons (eVar 2) (aCons (eVar 5) aNil)))
theorem dv_comp {n p m : Int} {a1 : Option (Bool × T)} (hp : 1 ≤ p) (hp2 : p ≤ 1000000) (hm : 1 ≤ m) (hm2 : m ≤ 80) (ob : List OV) : ∀ (F : List Int) (acc : List T), (∀ x ∈ F, x.natAbs ≤ 1000000) → acc.length + F.length * (m + 1).toNat ≤ 1000000 →
    compL2 [4, 5] [5] (gSet 4) cYes dvF (gSet 5) cYes dvE (F.map T.int) acc ⟨[sI n, a1, sI p, sI m, none, none], ob⟩ = .ok (acc ++ (stp p m F).map T.int) ⟨[sI n, a1, sI p, sI m, none, none], ob⟩
  | [], acc, _, _ => by show R.ok acc _ = _; unfold stp; rw [List.flatMap_nil, List.map_nil, List.append_nil]
  | x :: F, acc, hF, hz => by
    have hx := hF x List.mem_cons_self
    rw [List.length_cons, Nat.add_mul, Nat.one_mul] at hz
    have hr : -4611686018427387904 ≤ m + 1 ∧ m + 1 < 4611686018427387904 := by omega
    have e1 : dvF ⟨[sI n, a1, sI p, sI m, sI x, none], ob⟩ = .ok ((rI 0 (m + 1).toNat).map T.int) ⟨[sI n, a1, sI p, sI m, sI x, none], ob⟩ := by
      unfold dvF
      simp only [mkFn, sCons, sNil, sSet, setOf, sExpr, sRet, retOf, sRetN, sIf, sRaise, sAug, sAsg, toS, gSet, gNil, gCons, gTup, gSub, sPar, storeAll, eC, eVar, eBin, eUn, eTup, eLst, eLstO, eIf, eAnd, eOr, eNot, eIs, isN, aNil, aCons, aoNil, aoCons, own, peek, frz, view, out1, out1_val, out1_tmp, R.bind, R.bindS, tTst, tAndS, tOrS, tNotS, eCall, afterF, sFor, iRng1, iRng2, iSeq, itemsOf, opAdd, opSub, opMul, opDiv, opMod, opPow, opNeg, opIMul, opIAdd, opLt, opLe, opGt, opGe, opEq_int, opNe_int, opLen, opAbs, opInt, opList, opTuple, opIx, eApp, isL, wr, List.map_cons, List.map_nil, List.length_cons, List.length_nil, List.replicate_succ, List.replicate_zero, List.cons_append, List.nil_append, List.append_nil, List.getElem?_cons_zero, List.getElem?_cons_succ, List.set_cons_zero, List.set_cons_succ, if_true, if_false, ite_true, ite_false, reduceIte, Bool.false_eq_true, Option.map_some, eUnl, eTupL, eDGet, opMax2, opMin2, opIDiv, opIMod, sParT, storeT, eChn, opLenD, opStr, zk1, zk2, zk3, zk4, zk5, zk6, zk7, zk8, zk0, Nat.reduceAdd, Nat.reduceSub, if_pos hr]
      rw [show (rngT 0 (m + 1).toNat) = (rI 0 (m + 1).toNat).map T.int from rng_map _ _]
    have e2 := compIA (vs := [5]) (g := gSet 5) (c := cYes) (e := dvE) (s0 := ⟨[sI n, a1, sI p, sI m, sI x, none], ob⟩) (fun e => T.int (x * p ^ e.toNat)) (rI 0 (m + 1).toNat) acc (by rw [rI_len]; omega) (fun i hi => by
      obtain ⟨i1, i2⟩ := rI_mem.mp hi
      have ep := power_eq (b := p) (n := i) (Nat.lt_of_le_of_lt (m := 1000000) (by omega) (by decide)) i1 (by omega) ob
      have hmu : mulOk x (p ^ i.toNat) = true := mulOk_l (by omega)
      refine ⟨⟨[sI n, a1, sI p, sI m, sI x, sI i], ob⟩, by simp only [mkFn, sCons, sNil, sSet, setOf, sExpr, sRet, retOf, sRetN, sIf, sRaise, sAug, sAsg, toS, gSet, gNil, gCons, gTup, gSub, sPar, storeAll, eC, eVar, eBin, eUn, eTup, eLst, eLstO, eIf, eAnd, eOr, eNot, eIs, isN, aNil, aCons, aoNil, aoCons, own, peek, frz, view, out1, out1_val, out1_tmp, R.bind, R.bindS, tTst, tAndS, tOrS, tNotS, eCall, afterF, sFor, iRng1, iRng2, iSeq, itemsOf, opAdd, opSub, opMul, opDiv, opMod, opPow, opNeg, opIMul, opIAdd, opLt, opLe, opGt, opGe, opEq_int, opNe_int, opLen, opAbs, opInt, opList, opTuple, opIx, eApp, isL, wr, List.map_cons, List.map_nil, List.length_cons, List.length_nil, List.replicate_succ, List.replicate_zero, List.cons_append, List.nil_append, List.append_nil, List.getElem?_cons_zero, List.getElem?_cons_succ, List.set_cons_zero, List.set_cons_succ, if_true, if_false, ite_true, ite_false, reduceIte, Bool.false_eq_true, Option.map_some, eUnl, eTupL, eDGet, opMax2, opMin2, opIDiv, opIMod, sParT, storeT, eChn, opLenD, opStr, zk1, zk2, zk3, zk4, zk5, zk6, zk7, zk8, zk0, Nat.reduceAdd, Nat.reduceSub], rfl, rfl, ?_⟩
      unfold dvE
      simp only [mkFn, sCons, sNil, sSet, setOf, sExpr, sRet, retOf, sRetN, sIf, sRaise, sAug, sAsg, toS, gSet, gNil, gCons, gTup, gSub, sPar, storeAll, eC, eVar, eBin, eUn, eTup, eLst, eLstO, eIf, eAnd, eOr, eNot, eIs, isN, aNil, aCons, aoNil, aoCons, own, peek, frz, view, out1, out1_val, out1_tmp, R.bind, R.bindS, tTst, tAndS, tOrS, tNotS, eCall, afterF, sFor, iRng1, iRng2, iSeq, itemsOf, opAdd, opSub, opMul, opDiv, opMod, opPow, opNeg, opIMul, opIAdd, opLt, opLe, opGt, opGe, opEq_int, opNe_int, opLen, opAbs, opInt, opList, opTuple, opIx, eApp, isL, wr, List.map_cons, List.map_nil, List.length_cons, List.length_nil, List.replicate_succ, List.replicate_zero, List.cons_append, List.nil_append, List.append_nil, List.getElem?_cons_zero, List.getElem?_cons_succ, List.set_cons_zero, List.set_cons_succ, if_true, if_false, ite_true, ite_false, reduceIte, Bool.false_eq_true, Option.map_some, eUnl, eTupL, eDGet, opMax2, opMin2, opIDiv, opIMod, sParT, storeT, eChn, opLenD, opStr, zk1, zk2, zk3, zk4, zk5, zk6, zk7, zk8, zk0, Nat.reduceAdd, Nat.reduceSub, ep, hmu])
    have ih := dv_comp (n := n) (a1 := a1) hp hp2 hm hm2 ob F (acc ++ ((rI 0 (m + 1).toNat).map fun e => T.int (x * p ^ e.toNat))) (fun y hy => hF y (List.mem_cons_of_mem _ hy)) (by rw [List.length_append, List.length_map, rI_len]; omega)
    rw [List.map_cons, compL2]
    simp only [gSet, List.set_cons_zero, List.set_cons_succ, cYes, e1, wipeS]
    rw [e2]
    show compL2 [4, 5] [5] (gSet 4) cYes dvF (gSet 5) cYes dvE (List.map T.int F) _ ⟨[sI n, a1, sI p, sI m, none, none], ob⟩ = _
    rw [ih, stp_cons, List.map_append, List.append_assoc, List.map_map]
    rfl
/-! ### primes part a product -/
theorem Pr.cop {p a : Int} (hp : Pr p) (h : ¬ p ∣ a) : Nat.Coprime p.natAbs a.natAbs := by
  show Nat.gcd p.natAbs a.natAbs = 1
  have g1 : Nat.gcd p.natAbs a.natAbs ∣ p.natAbs := Nat.gcd_dvd_left _ _
  have g2 : Nat.gcd p.natAbs a.natAbs ∣ a.natAbs := Nat.gcd_dvd_right _ _
  have h2 := hp.1
  have hle := Nat.le_of_dvd (by omega) g1
  generalize Nat.gcd p.natAbs a.natAbs = g at *
  have g0 : g ≠ 0 := fun e => by rw [e] at g1; have := Nat.eq_zero_of_zero_dvd g1; omega
  refine Classical.byContradiction fun z => ?_
  by_cases e : g = p.natAbs
  · rw [e] at g2; exact h (Int.natAbs_dvd_natAbs.mp g2)
  · exact hp.2 (g : Int) (by omega) (by omega) (Int.natAbs_dvd_natAbs.mp (by rw [Int.natAbs_natCast]; exact g1))
theorem Pr.mul {p a b : Int} (hp : Pr p) (h : p ∣ a * b) : p ∣ a ∨ p ∣ b := by
  by_cases ha : p ∣ a
  · exact .inl ha
  · have h1 := Int.natAbs_dvd_natAbs.mpr h
    rw [Int.natAbs_mul] at h1
    exact .inr (Int.natAbs_dvd_natAbs.mp ((hp.cop ha).dvd_of_dvd_mul_left h1))
theorem Pr.pow {p a : Int} (hp : Pr p) : ∀ {k : Nat}, p ∣ a ^ k → p ∣ a
  | 0, h => by
    rw [Int.pow_zero] at h
    have := Int.le_of_dvd (by decide) h
    have := hp.1
    omega
  | k + 1, h => by
    rw [Int.pow_succ] at h
    exact (hp.mul h).elim (fun h => Pr.pow hp h) id
theorem Pr.prd {p : Int} (hp : Pr p) : ∀ {l : List (Int × Int)}, (∀ q ∈ l, Pr q.1 ∧ 1 ≤ q.2 ∧ q.1 < p) → ¬ p ∣ prd l
  | [], _, h => by
    have h : p ∣ 1 := h
    have := Int.le_of_dvd (by decide) h
    have := hp.1
    omega
  | q :: r, hl, h => by
    rcases hp.mul (show p ∣ q.1 ^ q.2.toNat * K01.prd r from h) with h | h
    · have hq := hl q List.mem_cons_self
      have := le_of_dvd (by have := hq.1.1; omega) (hp.pow h)
      omega
    · exact Pr.prd hp (fun q hq => hl q (List.mem_cons_of_mem _ hq)) h
/-- a divisor of M * p^m -/
theorem dv_split {p M : Int} (hp : Pr p) : ∀ (m : Nat) (d : Int), d ∣ M * p ^ m → ∃ x e, x ∣ M ∧ e ≤ m ∧ d = x * p ^ e
  | 0, d, h => ⟨d, 0, by rw [Int.pow_zero, Int.mul_one] at h; exact h, Nat.le_refl _, by rw [Int.pow_zero, Int.mul_one]⟩
  | m + 1, d, h => by
    by_cases hd : p ∣ d
    · obtain ⟨c, rfl⟩ := hd
      have hc : c ∣ M * p ^ m := by
        rw [Int.pow_succ, ← Int.mul_assoc, Int.mul_comm _ p] at h
        exact Int.dvd_of_mul_dvd_mul_left (by have := hp.1; omega) h
      obtain ⟨x, e, h1, h2, h3⟩ := dv_split hp m c hc
      exact ⟨x, e + 1, h1, by omega, by rw [h3, Int.pow_succ, Int.mul_comm p, Int.mul_assoc]⟩
    · refine ⟨d, 0, ?_, Nat.zero_le _, by rw [Int.pow_zero, Int.mul_one]⟩
      have h1 := Int.natAbs_dvd_natAbs.mpr h
      rw [Int.natAbs_mul, Int.natAbs_pow] at h1
      exact Int.natAbs_dvd_natAbs.mp (Nat.Coprime.dvd_of_dvd_mul_right (Nat.Coprime.pow_right _ (hp.cop hd).symm) h1)
theorem dv_inj {p M x y : Int} (hp : Pr p) (hM : ¬ p ∣ M) (hx : x ∣ M) (hy : y ∣ M) {e f : Nat} (h : x * p ^ e = y * p ^ f) : x = y ∧ e = f := by
  have hp1 := hp.1
  have key : ∀ {x y : Int} {e f : Nat}, x ∣ M → e ≤ f → x * p ^ e = y * p ^ f → x = y ∧ e = f := fun {x y e f} hx hef h => by
    obtain ⟨k, rfl⟩ := Nat.le.dest hef
    have hn : p ^ e ≠ 0 := by have := le_pow (show 1 ≤ p by omega) e; omega
    have e1 : x = y * p ^ k := by
      rw [Int.pow_add, Int.mul_comm (p ^ e), ← Int.mul_assoc] at h
      exact Int.eq_of_mul_eq_mul_right hn h
    cases k with
    | zero => exact ⟨by rw [e1, Int.pow_zero, Int.mul_one], rfl⟩
    | succ k =>
      refine absurd (Int.dvd_trans ?_ hx) hM
      exact ⟨y * p ^ k, by rw [e1, Int.pow_succ, ← Int.mul_assoc, Int.mul_comm p]⟩
  rcases Nat.le_total e f with hef | hef
  · exact key hx hef h
  · obtain ⟨a, b⟩ := key hy hef h.symm
    exact ⟨a.symm, b.symm⟩
theorem two_pow {p : Int} (h : 2 ≤ p) : ∀ k : Nat, (2 : Int) ^ k ≤ p ^ k
  | 0 => by rw [Int.pow_zero, Int.pow_zero]; omega
  | k + 1 => by
    have a := two_pow h k
    have b := le_pow (show (1 : Int) ≤ 2 by decide) k
    rw [Int.pow_succ, Int.pow_succ]
    exact Int.mul_le_mul a h (by omega) (by omega)
/-- all divisors of M, once each -/
structure Dv (M : Int) (F : List Int) : Prop where
  nd : F.Nodup
  mem : ∀ d, d ∈ F ↔ 1 ≤ d ∧ d ∣ M
  len : (F.length : Int) ≤ M
theorem Dv.step {M p m : Int} {F : List Int} (h : Dv M F) (h1 : 1 ≤ M) (hp : Pr p) (hM : ¬ p ∣ M) (hm : 1 ≤ m) : Dv (M * p ^ m.toNat) (stp p m F) := by
  have hp1 := hp.1
  have ppos : ∀ k : Nat, 1 ≤ p ^ k := fun k => le_pow (by omega) k
  refine ⟨?_, ?_, ?_⟩
  · unfold stp List.Nodup
    rw [List.pairwise_flatMap]
    constructor
    · intro x hx
      have hxd := (h.mem x).mp hx
      rw [List.pairwise_map]
      have : (rI 0 (m + 1).toNat).Pairwise fun a b => a ∈ rI 0 (m + 1).toNat ∧ b ∈ rI 0 (m + 1).toNat ∧ a < b := by
        have hb : (rI 0 (m + 1).toNat).Pairwise (· < ·) := by
          unfold rI
          rw [List.pairwise_map]
          exact List.pairwise_lt_range.imp fun {a b} h => by omega
        exact List.Pairwise.imp_of_mem (fun {a b} ha hb h => ⟨ha, hb, h⟩) hb
      refine this.imp fun {a b} ⟨ha, hb, hab⟩ e => ?_
      have ha := rI_mem.mp ha
      have hb := rI_mem.mp hb
      have := (dv_inj hp hM hxd.2 hxd.2 e).2
      omega
    · have hnd := h.nd
      unfold List.Nodup at hnd
      refine List.Pairwise.imp_of_mem (fun {a b} ha hb hab => ?_) hnd
      intro u hu v hv e
      obtain ⟨e1, _, rfl⟩ := List.mem_map.mp hu
      obtain ⟨e2, _, rfl⟩ := List.mem_map.mp hv
      exact hab (dv_inj hp hM ((h.mem a).mp ha).2 ((h.mem b).mp hb).2 e).1
  · intro d
    unfold stp
    rw [List.mem_flatMap]
    constructor
    · rintro ⟨x, hx, hd⟩
      obtain ⟨e, he, rfl⟩ := List.mem_map.mp hd
      have hx := (h.mem x).mp hx
      have he := rI_mem.mp he
      constructor
      · have := Int.mul_le_mul_of_nonneg_left (ppos e.toNat) (show 0 ≤ x by omega)
        omega
      · obtain ⟨c, hc⟩ := hx.2
        refine ⟨c * p ^ (m.toNat - e.toNat), ?_⟩
        have : p ^ m.toNat = p ^ e.toNat * p ^ (m.toNat - e.toNat) := by rw [← Int.pow_add]; congr 1; omega
        rw [hc, this]
        simp only [Int.mul_assoc, Int.mul_left_comm c]
    · rintro ⟨d1, d2⟩
      obtain ⟨x, e, x1, x2, x3⟩ := dv_split hp _ d d2
      refine ⟨x, (h.mem x).mpr ⟨Classical.byContradiction fun z => ?_, x1⟩, List.mem_map.mpr ⟨(e : Int), rI_mem.mpr ⟨by omega, by omega⟩, by rw [Int.toNat_natCast]; exact x3.symm⟩⟩
      have := Int.mul_nonpos_of_nonpos_of_nonneg (show x ≤ 0 by omega) (show 0 ≤ p ^ e by have := ppos e; omega)
      omega
  · rw [stp_len]
    have hpm : m + 1 ≤ p ^ m.toNat := by
      have : ∀ k : Nat, (k : Int) + 1 ≤ p ^ k := fun k => by
        induction k with
        | zero => rw [Int.pow_zero]; omega
        | succ k ih =>
          rw [Int.pow_succ]
          have := Int.mul_le_mul_of_nonneg_left hp1 (show 0 ≤ p ^ k by have := ppos k; omega)
          omega
      have := this m.toNat
      omega
    have h3 := h.len
    rw [Int.natCast_mul]
    have := Int.mul_le_mul h3 (show (((m + 1).toNat : Nat) : Int) ≤ p ^ m.toNat by omega) (by omega) (by omega)
    exact this
theorem div_run {N n : Int} (hN : N ≤ 100000) (ob : List OV) : ∀ (rows done : List (Int × Int)) (F : List Int) (a2 a3 : Option (Bool × T)), Fac N (done ++ rows) → Dv (prd done) F →
    ∃ F' b2 b3, Dv N F' ∧ forL (gTup 2 (gCons (gSet 2) (gCons (gSet 3) gNil))) (sSet 1 (eLC2 [4, 5] [5] (iSeq (eVar 1)) (gSet 4) cYes (iRng1 (eBin opAdd (eVar 3) (eC (.int 1)))) (gSet 5) cYes (eBin opMul (eVar 4) (eCall F_power (aCons (eVar 2) (aCons (eVar 5) aNil)))))) (rows.map pT)
      ⟨[sI n, some (true, .lst (F.map T.int)), a2, a3, none, none], ob⟩ = .nxt ⟨[sI n, some (true, .lst (F'.map T.int)), b2, b3, none, none], ob⟩
  | [], done, F, a2, a3, hf, hd => by
    rw [List.append_nil] at hf
    rw [hf.prod] at hd
    exact ⟨F, a2, a3, hd, rfl⟩
  | (p, m) :: r, done, F, a2, a3, hf, hd => by
    have hx : ∀ q ∈ done, Pr q.1 ∧ 1 ≤ q.2 ∧ q.1 < p := fun q hq => ⟨(hf.each q (List.mem_append_left _ hq)).1, (hf.each q (List.mem_append_left _ hq)).2, (List.pairwise_append.mp hf.srt).2.2 q hq (p, m) List.mem_cons_self⟩
    obtain ⟨hp, hm⟩ := hf.each (p, m) (List.mem_append_right _ List.mem_cons_self)
    have hp : Pr p := hp
    have hm : 1 ≤ m := hm
    have hnp := hp.prd hx
    have h1 : 1 ≤ prd done := prd_pos fun q hq => by have := (hx q hq).1.1; omega
    have hs := hd.step h1 hp hnp hm
    have e3 : prd (done ++ [(p, m)]) = prd done * p ^ m.toNat := prd_app _ _
    have hf2 : Fac N ((done ++ [(p, m)]) ++ r) := by rw [List.append_assoc]; exact hf
    have hle : prd done * p ^ m.toNat ≤ N := by
      have h5 : prd (done ++ [(p, m)] ++ r) = prd (done ++ [(p, m)]) * prd r := by
        have : ∀ l : List (Int × Int), prd (l ++ r) = prd l * prd r := fun l => by
          induction l with
          | nil => show prd r = 1 * prd r; omega
          | cons q l ih => show q.1 ^ q.2.toNat * prd (l ++ r) = q.1 ^ q.2.toNat * prd l * prd r; rw [ih, Int.mul_assoc]
        exact this _
      have h6 : 1 ≤ prd r := prd_pos fun q hq => by
        have := (hf.each q (List.mem_append_right _ (List.mem_cons_of_mem _ hq))).1.1
        omega
      have h7 := hf2.prod
      rw [h5, e3] at h7
      have h8 : 1 ≤ p ^ m.toNat := le_pow (by have := hp.1; omega) _
      have := Int.mul_le_mul_of_nonneg_left h6 (show 0 ≤ prd done * p ^ m.toNat from Int.mul_nonneg (by omega) (by omega))
      omega
    have hpN : p ≤ N := by
      have a1 := le_pow1 (show 1 ≤ p by have := hp.1; omega) (k := m.toNat) (by omega)
      have := Int.mul_le_mul_of_nonneg_right h1 (show 0 ≤ p ^ m.toNat by have := hp.1; omega)
      omega
    have hm2 : m ≤ 80 := Classical.byContradiction fun z => by
      have a1 : (2 : Int) ^ 80 ≤ p ^ m.toNat := by
        have b1 : (2 : Int) ^ 80 ≤ p ^ 80 := two_pow hp.1 80
        have b2 : p ^ m.toNat = p ^ 80 * p ^ (m.toNat - 80) := by rw [← Int.pow_add]; congr 1; omega
        have b3 := le_pow (show 1 ≤ p by have := hp.1; omega) (m.toNat - 80)
        rw [b2]
        have := Int.mul_le_mul_of_nonneg_left b3 (show 0 ≤ p ^ 80 by omega)
        omega
      have := Int.mul_le_mul_of_nonneg_right h1 (show 0 ≤ p ^ m.toNat by omega)
      omega
    have hlen := hs.len
    rw [stp_len] at hlen
    have e1 := dv_comp (n := n) (a1 := some (true, .lst (F.map T.int))) (p := p) (m := m) (by have := hp.1; omega) (by omega) hm hm2 ob F [] (fun x hx => by
      have := (hd.mem x).mp hx
      have := le_of_dvd h1 this.2
      have h8 : 1 ≤ p ^ m.toNat := le_pow (by have := hp.1; omega) _
      have := Int.mul_le_mul_of_nonneg_left h8 (show 0 ≤ prd done by omega)
      omega) (by rw [List.length_nil]; omega)
    rw [List.nil_append] at e1
    have e1 : compL2 [4, 5] [5] (gSet 4) cYes dvF (gSet 5) cYes dvE (F.map T.int) [] ⟨[sI n, some (false, .lst (F.map T.int)), sI p, sI m, none, none], ob⟩ = .ok ((stp p m F).map T.int) ⟨[sI n, some (false, .lst (F.map T.int)), sI p, sI m, none, none], ob⟩ := by
      have e1 := dv_comp (n := n) (a1 := some (false, .lst (F.map T.int))) (p := p) (m := m) (by have := hp.1; omega) (by omega) hm hm2 ob F [] (fun x hx => by
        have := (hd.mem x).mp hx
        have := le_of_dvd h1 this.2
        have h8 : 1 ≤ p ^ m.toNat := le_pow (by have := hp.1; omega) _
        have := Int.mul_le_mul_of_nonneg_left h8 (show 0 ≤ prd done by omega)
        omega) (by rw [List.length_nil]; omega)
      rw [List.nil_append] at e1
      exact e1
    unfold dvF dvE at e1
    rw [← e3] at hs
    obtain ⟨F', b2, b3, k1, k2⟩ := div_run hN ob r (done ++ [(p, m)]) (stp p m F) (sI p) (sI m) hf2 hs
    refine ⟨F', b2, b3, k1, ?_⟩
    rw [List.map_cons, forL_cons_nxt (s1 := ⟨[sI n, some (true, .lst (F.map T.int)), sI p, sI m, none, none], ob⟩) (s2 := ⟨[sI n, some (true, .lst ((stp p m F).map T.int)), sI p, sI m, none, none], ob⟩) ?_ ?_, k2]
    · show gTup 2 _ (pT (p, m)) _ = _
      unfold pT
      simp only [mkFn, sCons, sNil, sSet, setOf, sExpr, sRet, retOf, sRetN, sIf, sRaise, sAug, sAsg, toS, gSet, gNil, gCons, gTup, gSub, sPar, storeAll, eC, eVar, eBin, eUn, eTup, eLst, eLstO, eIf, eAnd, eOr, eNot, eIs, isN, aNil, aCons, aoNil, aoCons, own, peek, frz, view, out1, out1_val, out1_tmp, R.bind, R.bindS, tTst, tAndS, tOrS, tNotS, eCall, afterF, sFor, iRng1, iRng2, iSeq, itemsOf, opAdd, opSub, opMul, opDiv, opMod, opPow, opNeg, opIMul, opIAdd, opLt, opLe, opGt, opGe, opEq_int, opNe_int, opLen, opAbs, opInt, opList, opTuple, opIx, eApp, isL, wr, List.map_cons, List.map_nil, List.length_cons, List.length_nil, List.replicate_succ, List.replicate_zero, List.cons_append, List.nil_append, List.append_nil, List.getElem?_cons_zero, List.getElem?_cons_succ, List.set_cons_zero, List.set_cons_succ, if_true, if_false, ite_true, ite_false, reduceIte, Bool.false_eq_true, Option.map_some, eUnl, eTupL, eDGet, opMax2, opMin2, opIDiv, opIMod, sParT, storeT, eChn, opLenD, opStr, zk1, zk2, zk3, zk4, zk5, zk6, zk7, zk8, zk0, Nat.reduceAdd, Nat.reduceSub]
    · simp only [mkFn, sCons, sNil, sSet, setOf, sExpr, sRet, retOf, sRetN, sIf, sRaise, sAug, sAsg, toS, gSet, gNil, gCons, gTup, gSub, sPar, storeAll, eC, eVar, eBin, eUn, eTup, eLst, eLstO, eIf, eAnd, eOr, eNot, eIs, isN, aNil, aCons, aoNil, aoCons, own, peek, frz, view, out1, out1_val, out1_tmp, R.bind, R.bindS, tTst, tAndS, tOrS, tNotS, eCall, afterF, sFor, iRng1, iRng2, iSeq, itemsOf, opAdd, opSub, opMul, opDiv, opMod, opPow, opNeg, opIMul, opIAdd, opLt, opLe, opGt, opGe, opEq_int, opNe_int, opLen, opAbs, opInt, opList, opTuple, opIx, eApp, isL, wr, List.map_cons, List.map_nil, List.length_cons, List.length_nil, List.replicate_succ, List.replicate_zero, List.cons_append, List.nil_append, List.append_nil, List.getElem?_cons_zero, List.getElem?_cons_succ, List.set_cons_zero, List.set_cons_succ, if_true, if_false, ite_true, ite_false, reduceIte, Bool.false_eq_true, Option.map_some, eUnl, eTupL, eDGet, opMax2, opMin2, opIDiv, opIMod, sParT, storeT, eChn, opLenD, opStr, zk1, zk2, zk3, zk4, zk5, zk6, zk7, zk8, zk0, Nat.reduceAdd, Nat.reduceSub, eLC2, wipeS, backS, e1]
theorem div_eq {n : Int} (h0 : 1 ≤ n) (h : n ≤ 5000) (ob : List OV) : F_divisors [.int n] ob = .ok false (.tup (((rI 1 n.toNat).filter fun k => decide (n / k * k = n)).map T.int)) ob := by
  obtain ⟨rows, hf, e⟩ := pf_eq h0 (by omega) ob
  obtain ⟨F, b2, b3, hd, w⟩ := div_run (n := n) (N := n) (by omega) ob rows [] [1] none none hf ⟨by simp, fun d => by
    show d ∈ [1] ↔ 1 ≤ d ∧ d ∣ 1
    rw [List.mem_singleton]
    constructor
    · rintro rfl; exact ⟨by decide, Int.dvd_refl 1⟩
    · rintro ⟨d1, d2⟩
      have := le_of_dvd (by decide) d2
      omega, by decide⟩
  have hs : sortI F = (rI 1 n.toNat).filter fun k => decide (n / k * k = n) := by
    refine sorted_eq hd.nd (List.Pairwise.filter _ ?_) fun d => ?_
    · unfold rI
      rw [List.pairwise_map]
      exact List.pairwise_lt_range.imp fun {a b} h => by omega
    · rw [hd.mem, List.mem_filter, rI_mem, decide_eq_true_iff]
      constructor
      · rintro ⟨d1, d2⟩
        have := le_of_dvd h0 d2
        exact ⟨⟨by omega, by omega⟩, (div_dvd (by omega)).mpr d2⟩
      · rintro ⟨⟨d1, d2⟩, d3⟩
        exact ⟨d1, (div_dvd (by omega)).mp d3⟩
  rw [← hs]
  have eq := opSrt_ints F
  unfold F_divisors b_divisors bb_divisors
  rw [List.map_cons, List.map_nil] at w
  simp only [mkFn, sCons, sNil, sSet, setOf, sExpr, sRet, retOf, sRetN, sIf, sRaise, sAug, sAsg, toS, gSet, gNil, gCons, gTup, gSub, sPar, storeAll, eC, eVar, eBin, eUn, eTup, eLst, eLstO, eIf, eAnd, eOr, eNot, eIs, isN, aNil, aCons, aoNil, aoCons, own, peek, frz, view, out1, out1_val, out1_tmp, R.bind, R.bindS, tTst, tAndS, tOrS, tNotS, eCall, afterF, sFor, iRng1, iRng2, iSeq, itemsOf, opAdd, opSub, opMul, opDiv, opMod, opPow, opNeg, opIMul, opIAdd, opLt, opLe, opGt, opGe, opEq_int, opNe_int, opLen, opAbs, opInt, opList, opTuple, opIx, eApp, isL, wr, List.map_cons, List.map_nil, List.length_cons, List.length_nil, List.replicate_succ, List.replicate_zero, List.cons_append, List.nil_append, List.append_nil, List.getElem?_cons_zero, List.getElem?_cons_succ, List.set_cons_zero, List.set_cons_succ, if_true, if_false, ite_true, ite_false, reduceIte, Bool.false_eq_true, Option.map_some, eUnl, eTupL, eDGet, opMax2, opMin2, opIDiv, opIMod, sParT, storeT, eChn, opLenD, opStr, zk1, zk2, zk3, zk4, zk5, zk6, zk7, zk8, zk0, Nat.reduceAdd, Nat.reduceSub, e, w, eq]
end K01

set_option exponentiation.threshold 3000
namespace K01
open Sv
/-! ### remainders joined -/
def Fits (D : List (Int × Int)) (k : Int) : Prop := ∀ q ∈ D, q.2 ∣ k - q.1
structure CI (D : List (Int × Int)) (f B : Int) : Prop where
  b : 1 ≤ B
  f0 : 0 ≤ f
  f1 : f < B
  iff : ∀ k, Fits D k ↔ B ∣ k - f
def wl : Int → List (Int × Int) → Int
  | B, [] => B
  | B, q :: l => wl (B / (Int.gcd B q.2 : Int) * q.2) l
theorem lcm_dvd {B p g x y c k : Int} (hg : g ≠ 0) (e : B * x + p * y = g) (hB : B = g * c) (h1 : B ∣ k) (h2 : p ∣ k) : c * p ∣ k := by
  obtain ⟨a, ha⟩ := h1
  obtain ⟨b, hb⟩ := h2
  refine ⟨x * b + y * a, Int.eq_of_mul_eq_mul_left hg ?_⟩
  have h3 : g * k = B * x * k + p * y * k := by rw [← e, Int.add_mul]
  have h4 : B * x * k = B * x * (p * b) := by rw [hb]
  have h5 : p * y * k = p * y * (B * a) := by rw [ha]
  rw [h3, h4, h5, hB]
  grind
theorem CI.step {D : List (Int × Int)} {f B r p g x y : Int} (h : CI D f B) (hp : 1 ≤ p) (eg : g = (Int.gcd B p : Int)) (e : B * x + p * y = g) (hd : g ∣ r - f) :
    CI (D ++ [(r, p)]) ((f + B * ((r - f) / g * x % (p / g))) % (B / g * p)) (B / g * p) ∧ 0 < g ∧ 0 < p / g ∧ B / g * p ≤ B * p := by
  have hb := h.b
  have g0 : 0 < g := by
    have : 0 < Int.gcd B p := Int.gcd_pos_of_ne_zero_left _ (by omega)
    omega
  obtain ⟨c, hc⟩ : g ∣ B := by rw [eg]; exact Int.gcd_dvd_left _ _
  obtain ⟨d, hdd⟩ : g ∣ p := by rw [eg]; exact Int.gcd_dvd_right _ _
  have ec : B / g = c := by rw [hc]; exact Int.mul_ediv_cancel_left _ (by omega)
  have ed : p / g = d := by rw [hdd]; exact Int.mul_ediv_cancel_left _ (by omega)
  have c0 : 0 < c := Classical.byContradiction fun z => by
    have := Int.mul_nonpos_of_nonneg_of_nonpos (show 0 ≤ g by omega) (show c ≤ 0 by omega)
    omega
  have d0 : 0 < d := Classical.byContradiction fun z => by
    have := Int.mul_nonpos_of_nonneg_of_nonpos (show 0 ≤ g by omega) (show d ≤ 0 by omega)
    omega
  obtain ⟨q, hq⟩ := hd
  have eq : (r - f) / g = q := by rw [hq]; exact Int.mul_ediv_cancel_left _ (by omega)
  rw [ec, ed, eq]
  have hcp : 0 < c * p := Int.mul_pos c0 (by omega)
  have hcB : c ≤ B := by
    have := Int.mul_le_mul_of_nonneg_right (show 1 ≤ g by omega) (show 0 ≤ c by omega)
    omega
  have hle : c * p ≤ B * p := Int.mul_le_mul_of_nonneg_right hcB (by omega)
  generalize hu : q * x / d = u
  have et : q * x % d = q * x - d * u := by rw [← hu, Int.emod_def]
  rw [et]
  generalize hf : f + B * (q * x - d * u) = F
  have hF : ∃ w, F % (c * p) = F - c * p * w := ⟨F / (c * p), Int.emod_def _ _⟩
  obtain ⟨w, hw⟩ := hF
  have hBc : B ∣ c * p := ⟨d, by rw [hc, hdd]; grind⟩
  have hpc : p ∣ c * p := ⟨c, Int.mul_comm _ _⟩
  have B1 : B ∣ F - f := ⟨q * x - d * u, by rw [← hf]; omega⟩
  have B2 : p ∣ F - r := ⟨-(q * y) - c * u, by
    have e1 : r = f + g * q := by omega
    rw [← hf, e1, ← e]
    have e2 : B * d = c * p := by rw [hc, hdd]; grind
    grind⟩
  refine ⟨⟨by omega, Int.emod_nonneg _ (by omega), Int.emod_lt_of_pos _ hcp, fun k => ?_⟩, g0, d0, hle⟩
  rw [hw]
  constructor
  · intro hk
    have k1 := (h.iff k).mp fun q hq => hk q (List.mem_append_left _ hq)
    have k2 : p ∣ k - r := hk (r, p) (List.mem_append_right _ (List.mem_singleton.mpr rfl))
    have k3 : B ∣ k - F := by
      have := Int.dvd_sub k1 B1
      rwa [show k - f - (F - f) = k - F by omega] at this
    have k4 : p ∣ k - F := by
      have := Int.dvd_sub k2 B2
      rwa [show k - r - (F - r) = k - F by omega] at this
    have := Int.dvd_add (lcm_dvd (by omega) e hc k3 k4) (show c * p ∣ c * p * w from ⟨w, rfl⟩)
    rwa [show k - F + c * p * w = k - (F - c * p * w) by omega] at this
  · intro hk q hq
    have k0 : c * p ∣ k - F := by
      have := Int.dvd_sub hk (show c * p ∣ c * p * w from ⟨w, rfl⟩)
      rwa [show k - (F - c * p * w) - c * p * w = k - F by omega] at this
    rcases List.mem_append.mp hq with hq | hq
    · refine (h.iff k).mpr ?_ q hq
      have := Int.dvd_add (Int.dvd_trans hBc k0) B1
      rwa [show k - F + (F - f) = k - f by omega] at this
    · obtain rfl := List.mem_singleton.mp hq
      have := Int.dvd_add (Int.dvd_trans hpc k0) B2
      rwa [show k - F + (F - r) = k - r by omega] at this
theorem CI.none {D : List (Int × Int)} {f B r p g : Int} (h : CI D f B) (eg : g = (Int.gcd B p : Int)) (hd : ¬ g ∣ r - f) (k : Int) (l : List (Int × Int)) : ¬ Fits (D ++ (r, p) :: l) k := fun hk => hd (by
  have k1 := (h.iff k).mp fun q hq => hk q (List.mem_append_left _ hq)
  have k2 : p ∣ k - r := hk (r, p) (List.mem_append_right _ List.mem_cons_self)
  have g1 : g ∣ B := by rw [eg]; exact Int.gcd_dvd_left _ _
  have g2 : g ∣ p := by rw [eg]; exact Int.gcd_dvd_right _ _
  have := Int.dvd_sub (Int.dvd_trans g1 k1) (Int.dvd_trans g2 k2)
  rwa [show k - f - (k - r) = r - f by omega] at this)
def rjB : S → RS := (sCons (sIf (tTst (eBin opLt (eVar 4) (eC (.int 1)))) (sRaise "NumberError") sNil)
      (sCons (sAsg (eCall F_bezout (aCons (eVar 2) (aCons (eVar 4) aNil))) (gTup 3 (gCons (gSet 5) (gCons (gSet 6) (gCons (gSet 7) gNil)))))
      (sCons (sIf (tTst (eBin opNe (eBin opMod (eBin opSub (eVar 3) (eVar 1)) (eVar 5)) (eC (.int 0)))) (sRaise "NumberError") sNil)
      (sCons (sAug opIAdd 1 (eBin opMul (eVar 2) (eBin opMod (eBin opMul (eBin opDiv (eBin opSub (eVar 3) (eVar 1)) (eVar 5)) (eVar 6)) (eBin opDiv (eVar 4) (eVar 5)))))
      (sCons (sSet 2 (eBin opMul (eBin opDiv (eVar 2) (eVar 5)) (eVar 4)))
      (sAug opIMod 1 (eVar 2)))))))
theorem rj_run {X : Option (Bool × T)} (ob : List OV) : ∀ (rows D : List (Int × Int)) (f B : Int) (a3 a4 a5 a6 a7 : Option (Bool × T)), CI D f B → (∀ q ∈ rows, 0 ≤ q.1 ∧ q.1 < 100 ∧ 1 ≤ q.2 ∧ q.2 ≤ 30) → B * 30 ^ rows.length ≤ 1000000 →
    (∃ f' b3 b4 b5 b6 b7, CI (D ++ rows) f' (wl B rows) ∧ forL (gTup 2 (gCons (gSet 3) (gCons (gSet 4) gNil))) rjB (rows.map pT) ⟨[X, sI f, sI B, a3, a4, a5, a6, a7], ob⟩ = .nxt ⟨[X, sI f', sI (wl B rows), b3, b4, b5, b6, b7], ob⟩) ∨
    ((∀ k, ¬ Fits (D ++ rows) k) ∧ ∃ s', s'.ob = ob ∧ forL (gTup 2 (gCons (gSet 3) (gCons (gSet 4) gNil))) rjB (rows.map pT) ⟨[X, sI f, sI B, a3, a4, a5, a6, a7], ob⟩ = .exc "NumberError" s')
  | [], D, f, B, a3, a4, a5, a6, a7, h, _, _ => .inl ⟨f, a3, a4, a5, a6, a7, by rw [List.append_nil]; exact h, rfl⟩
  | (r, p) :: l, D, f, B, a3, a4, a5, a6, a7, h, hr, hB => by
    obtain ⟨r0, r1, p0, p1⟩ := hr (r, p) List.mem_cons_self
    have r0 : 0 ≤ r := r0
    have r1 : r < 100 := r1
    have p0 : 1 ≤ p := p0
    have p1 : p ≤ 30 := p1
    have hb := h.b
    have hf0 := h.f0
    have hf1 := h.f1
    have h30 : (1 : Int) ≤ 30 ^ l.length := le_pow (by decide) _
    have hB2 : B * 30 * 30 ^ l.length ≤ 1000000 := by
      have : B * 30 ^ (l.length + 1) ≤ 1000000 := hB
      rw [Int.pow_succ] at this
      rw [Int.mul_assoc, Int.mul_comm 30]
      exact this
    have hB3 : B ≤ 1000000 := by
      have := Int.mul_le_mul_of_nonneg_left h30 (show 0 ≤ B * 30 by omega)
      omega
    obtain ⟨x, y, e, hx, hy, hF⟩ := bezout_eq (a := B) (b := p) (Nat.lt_of_le_of_lt (m := 1000000) (by omega) (by decide)) (Nat.lt_of_le_of_lt (m := 1000000) (by omega) (by decide)) ob
    unfold tri at hF
    generalize eg : (Int.gcd B p : Int) = g at *
    have g0 : 0 < g := by
      have : 0 < Int.gcd B p := Int.gcd_pos_of_ne_zero_left _ (by omega)
      omega
    have ep : decide (p < 1) = false := decide_eq_false (by omega)
    have hitem : gTup 2 (gCons (gSet 3) (gCons (gSet 4) gNil)) (pT (r, p)) ⟨[X, sI f, sI B, a3, a4, a5, a6, a7], ob⟩ = .ok () ⟨[X, sI f, sI B, sI r, sI p, a5, a6, a7], ob⟩ := by
      unfold pT
      simp only [mkFn, sCons, sNil, sSet, setOf, sExpr, sRet, retOf, sRetN, sIf, sRaise, sAug, sAsg, toS, gSet, gNil, gCons, gTup, gSub, sPar, storeAll, eC, eVar, eBin, eUn, eTup, eLst, eLstO, eIf, eAnd, eOr, eNot, eIs, isN, aNil, aCons, aoNil, aoCons, own, peek, frz, view, out1, out1_val, out1_tmp, R.bind, R.bindS, tTst, tAndS, tOrS, tNotS, eCall, afterF, sFor, iRng1, iRng2, iSeq, itemsOf, opAdd, opSub, opMul, opDiv, opMod, opPow, opNeg, opIMul, opIAdd, opLt, opLe, opGt, opGe, opEq_int, opNe_int, opLen, opAbs, opInt, opList, opTuple, opIx, eApp, isL, wr, List.map_cons, List.map_nil, List.length_cons, List.length_nil, List.replicate_succ, List.replicate_zero, List.cons_append, List.nil_append, List.append_nil, List.getElem?_cons_zero, List.getElem?_cons_succ, List.set_cons_zero, List.set_cons_succ, if_true, if_false, ite_true, ite_false, reduceIte, Bool.false_eq_true, Option.map_some, eUnl, eTupL, eDGet, opMax2, opMin2, opIDiv, opIMod, sParT, storeT, eChn, opLenD, opStr, zk1, zk2, zk3, zk4, zk5, zk6, zk7, zk8, zk0, Nat.reduceAdd, Nat.reduceSub]
    by_cases hd : g ∣ r - f
    · obtain ⟨hs, _, hpg, hle⟩ := h.step p0 eg.symm e hd
      have hgB : g ≤ B := by rw [← eg]; exact le_of_dvd hb (Int.gcd_dvd_left _ _)
      have em : decide ((r - f) % g = 0) = true := decide_eq_true (Int.emod_eq_zero_of_dvd hd)
      have dg := divOk (j := g) (a := 30) g0 (by omega) (by decide) (by decide)
      have hq : ((r - f) / g).natAbs < 18446744073709551616 := by
        have := Int.natAbs_ediv_le_natAbs (r - f) g
        omega
      have m1 : mulOk ((r - f) / g) x = true := mulOk_l hq
      have mt := Int.emod_lt_of_pos ((r - f) / g * x) hpg
      have mt0 := Int.emod_nonneg ((r - f) / g * x) (show p / g ≠ 0 by omega)
      have m2 : mulOk B ((r - f) / g * x % (p / g)) = true := mulOk_l (by omega)
      have m3 : mulOk (B / g) p = true := mulOk_r (by omega)
      have hcp : 0 < B / g * p := by have := hs.b; omega
      have hw : wl B ((r, p) :: l) = wl (B / g * p) l := by show wl (B / (Int.gcd B p : Int) * p) l = _; rw [eg]
      have hB4 : B / g * p * 30 ^ l.length ≤ 1000000 := by
        have h1 : B * p ≤ B * 30 := Int.mul_le_mul_of_nonneg_left p1 (by omega)
        have := Int.mul_le_mul_of_nonneg_right (show B / g * p ≤ B * 30 by omega) (show (0 : Int) ≤ 30 ^ l.length by omega)
        omega
      have hstep : rjB ⟨[X, sI f, sI B, sI r, sI p, a5, a6, a7], ob⟩ = .nxt ⟨[X, sI ((f + B * ((r - f) / g * x % (p / g))) % (B / g * p)), sI (B / g * p), sI r, sI p, sI g, sI x, sI y], ob⟩ := by
        unfold rjB
        simp only [mkFn, sCons, sNil, sSet, setOf, sExpr, sRet, retOf, sRetN, sIf, sRaise, sAug, sAsg, toS, gSet, gNil, gCons, gTup, gSub, sPar, storeAll, eC, eVar, eBin, eUn, eTup, eLst, eLstO, eIf, eAnd, eOr, eNot, eIs, isN, aNil, aCons, aoNil, aoCons, own, peek, frz, view, out1, out1_val, out1_tmp, R.bind, R.bindS, tTst, tAndS, tOrS, tNotS, eCall, afterF, sFor, iRng1, iRng2, iSeq, itemsOf, opAdd, opSub, opMul, opDiv, opMod, opPow, opNeg, opIMul, opIAdd, opLt, opLe, opGt, opGe, opEq_int, opNe_int, opLen, opAbs, opInt, opList, opTuple, opIx, eApp, isL, wr, List.map_cons, List.map_nil, List.length_cons, List.length_nil, List.replicate_succ, List.replicate_zero, List.cons_append, List.nil_append, List.append_nil, List.getElem?_cons_zero, List.getElem?_cons_succ, List.set_cons_zero, List.set_cons_succ, if_true, if_false, ite_true, ite_false, reduceIte, Bool.false_eq_true, Option.map_some, eUnl, eTupL, eDGet, opMax2, opMin2, opIDiv, opIMod, sParT, storeT, eChn, opLenD, opStr, zk1, zk2, zk3, zk4, zk5, zk6, zk7, zk8, zk0, Nat.reduceAdd, Nat.reduceSub, ep, hF, if_pos g0, em, Bool.not_true, if_pos dg, m1, if_pos hpg, m2, m3, if_pos hcp]
      rcases rj_run (X := X) ob l (D ++ [(r, p)]) _ _ (sI r) (sI p) (sI g) (sI x) (sI y) hs (fun q hq => hr q (List.mem_cons_of_mem _ hq)) hB4 with ⟨f', b3, b4, b5, b6, b7, k1, k2⟩ | ⟨k1, s', k2, k3⟩
      · refine .inl ⟨f', b3, b4, b5, b6, b7, ?_, ?_⟩
        · rw [hw, List.append_cons]; exact k1
        · rw [List.map_cons, forL_cons_nxt hitem hstep, k2, hw]
      · refine .inr ⟨?_, s', k2, ?_⟩
        · rw [List.append_cons]; exact k1
        · rw [List.map_cons, forL_cons_nxt hitem hstep, k3]
    · have em : decide ((r - f) % g = 0) = false := decide_eq_false fun z => hd (Int.dvd_of_emod_eq_zero z)
      have hstep : rjB ⟨[X, sI f, sI B, sI r, sI p, a5, a6, a7], ob⟩ = .exc "NumberError" ⟨[X, sI f, sI B, sI r, sI p, sI g, sI x, sI y], ob⟩ := by
        unfold rjB
        simp only [mkFn, sCons, sNil, sSet, setOf, sExpr, sRet, retOf, sRetN, sIf, sRaise, sAug, sAsg, toS, gSet, gNil, gCons, gTup, gSub, sPar, storeAll, eC, eVar, eBin, eUn, eTup, eLst, eLstO, eIf, eAnd, eOr, eNot, eIs, isN, aNil, aCons, aoNil, aoCons, own, peek, frz, view, out1, out1_val, out1_tmp, R.bind, R.bindS, tTst, tAndS, tOrS, tNotS, eCall, afterF, sFor, iRng1, iRng2, iSeq, itemsOf, opAdd, opSub, opMul, opDiv, opMod, opPow, opNeg, opIMul, opIAdd, opLt, opLe, opGt, opGe, opEq_int, opNe_int, opLen, opAbs, opInt, opList, opTuple, opIx, eApp, isL, wr, List.map_cons, List.map_nil, List.length_cons, List.length_nil, List.replicate_succ, List.replicate_zero, List.cons_append, List.nil_append, List.append_nil, List.getElem?_cons_zero, List.getElem?_cons_succ, List.set_cons_zero, List.set_cons_succ, if_true, if_false, ite_true, ite_false, reduceIte, Bool.false_eq_true, Option.map_some, eUnl, eTupL, eDGet, opMax2, opMin2, opIDiv, opIMod, sParT, storeT, eChn, opLenD, opStr, zk1, zk2, zk3, zk4, zk5, zk6, zk7, zk8, zk0, Nat.reduceAdd, Nat.reduceSub, ep, hF, if_pos g0, em, Bool.not_false]
      refine .inr ⟨fun k => h.none eg.symm hd k l, ⟨[X, sI f, sI B, sI r, sI p, sI g, sI x, sI y], ob⟩, rfl, ?_⟩
      rw [List.map_cons, forL, hitem]
      simp only
      rw [hstep]
theorem CI.nil : CI [] 0 1 := ⟨by decide, by decide, by decide, fun k => ⟨fun _ => Int.one_dvd _, fun _ q hq => absurd hq List.not_mem_nil⟩⟩
theorem rj_eq {rows : List (Int × Int)} (hr : ∀ q ∈ rows, 0 ≤ q.1 ∧ q.1 < 100 ∧ 1 ≤ q.2 ∧ q.2 ≤ 30) (hl : rows.length ≤ 3) (ob : List OV) :
    (∃ f, CI rows f (wl 1 rows) ∧ F_remainders_joined [.lst (rows.map pT)] ob = .ok false (.tup [.int f, .int (wl 1 rows)]) ob) ∨ ((∀ k, ¬ Fits rows k) ∧ F_remainders_joined [.lst (rows.map pT)] ob = .exc "NumberError" ob) := by
  have hB : (1 : Int) * 30 ^ rows.length ≤ 1000000 := by
    have h4 : rows.length = 0 ∨ rows.length = 1 ∨ rows.length = 2 ∨ rows.length = 3 := by omega
    rcases h4 with h | h | h | h <;> rw [h] <;> decide
  rcases rj_run (X := some (false, .lst (rows.map pT))) ob rows [] 0 1 none none none none none CI.nil hr hB with ⟨f', b3, b4, b5, b6, b7, k1, k2⟩ | ⟨k1, s', k2, k3⟩
  · refine .inl ⟨f', k1, ?_⟩
    unfold rjB at k2
    unfold F_remainders_joined b_remainders_joined bb_remainders_joined
    simp only [mkFn, sCons, sNil, sSet, setOf, sExpr, sRet, retOf, sRetN, sIf, sRaise, sAug, sAsg, toS, gSet, gNil, gCons, gTup, gSub, sPar, storeAll, eC, eVar, eBin, eUn, eTup, eLst, eLstO, eIf, eAnd, eOr, eNot, eIs, isN, aNil, aCons, aoNil, aoCons, own, peek, frz, view, out1, out1_val, out1_tmp, R.bind, R.bindS, tTst, tAndS, tOrS, tNotS, eCall, afterF, sFor, iRng1, iRng2, iSeq, itemsOf, opAdd, opSub, opMul, opDiv, opMod, opPow, opNeg, opIMul, opIAdd, opLt, opLe, opGt, opGe, opEq_int, opNe_int, opLen, opAbs, opInt, opList, opTuple, opIx, eApp, isL, wr, List.map_cons, List.map_nil, List.length_cons, List.length_nil, List.replicate_succ, List.replicate_zero, List.cons_append, List.nil_append, List.append_nil, List.getElem?_cons_zero, List.getElem?_cons_succ, List.set_cons_zero, List.set_cons_succ, if_true, if_false, ite_true, ite_false, reduceIte, Bool.false_eq_true, Option.map_some, eUnl, eTupL, eDGet, opMax2, opMin2, opIDiv, opIMod, sParT, storeT, eChn, opLenD, opStr, zk1, zk2, zk3, zk4, zk5, zk6, zk7, zk8, zk0, Nat.reduceAdd, Nat.reduceSub, k2]
  · refine .inr ⟨k1, ?_⟩
    unfold rjB at k3
    unfold F_remainders_joined b_remainders_joined bb_remainders_joined
    simp only [mkFn, sCons, sNil, sSet, setOf, sExpr, sRet, retOf, sRetN, sIf, sRaise, sAug, sAsg, toS, gSet, gNil, gCons, gTup, gSub, sPar, storeAll, eC, eVar, eBin, eUn, eTup, eLst, eLstO, eIf, eAnd, eOr, eNot, eIs, isN, aNil, aCons, aoNil, aoCons, own, peek, frz, view, out1, out1_val, out1_tmp, R.bind, R.bindS, tTst, tAndS, tOrS, tNotS, eCall, afterF, sFor, iRng1, iRng2, iSeq, itemsOf, opAdd, opSub, opMul, opDiv, opMod, opPow, opNeg, opIMul, opIAdd, opLt, opLe, opGt, opGe, opEq_int, opNe_int, opLen, opAbs, opInt, opList, opTuple, opIx, eApp, isL, wr, List.map_cons, List.map_nil, List.length_cons, List.length_nil, List.replicate_succ, List.replicate_zero, List.cons_append, List.nil_append, List.append_nil, List.getElem?_cons_zero, List.getElem?_cons_succ, List.set_cons_zero, List.set_cons_succ, if_true, if_false, ite_true, ite_false, reduceIte, Bool.false_eq_true, Option.map_some, eUnl, eTupL, eDGet, opMax2, opMin2, opIDiv, opIMod, sParT, storeT, eChn, opLenD, opStr, zk1, zk2, zk3, zk4, zk5, zk6, zk7, zk8, zk0, Nat.reduceAdd, Nat.reduceSub, k3, k2]
end K01

set_option exponentiation.threshold 3000
namespace K01
open Sv
theorem whileL_t {c : S → R Bool} {g : S → RS} {m : Nat} {s s' : S} (h1 : c s = .ok true s) (h2 : g s = .nxt s') : whileL c g (m + 1) s = whileL c g m s' := by
  rw [whileL, h1]
  show (match g s with | .nxt s => whileL c g m s | .cnt s => whileL c g m s | .brk s => .nxt s | r => r) = _
  rw [h2]
/-! ### convergents -/
def cvs : Nat → Int → Int → Int × Int → Int × Int → List (Int × Int)
  | 0, _, _, _, _ => []
  | k + 1, a, b, x, y => if b = 0 then [] else (a / b * x.1 + y.1, a / b * x.2 + y.2) :: cvs k b (a - a / b * b) (a / b * x.1 + y.1, a / b * x.2 + y.2) x
theorem cv_small {a b : Int} (hb : 1 ≤ b) : 0 ≤ a - a / b * b ∧ a - a / b * b < b := by
  rw [mod_eq]
  exact ⟨Int.emod_nonneg _ (by omega), Int.emod_lt_of_pos _ hb⟩
/-- what both loops keep: b small; a small or the first turn -/
def CvI (a b : Int) (x y : Int × Int) : Prop := 0 ≤ b ∧ b ≤ 1000 ∧ ((0 ≤ a ∧ a ≤ 1000) ∨ (x = (1, 0) ∧ y = (0, 1)))
theorem CvI.step {a b : Int} {x y : Int × Int} (h : CvI a b x y) (hb : b ≠ 0) : CvI b (a - a / b * b) (a / b * x.1 + y.1, a / b * x.2 + y.2) x ∧ mulOk (a / b) x.1 = true ∧ mulOk (a / b) x.2 = true ∧ mulOk (a / b) b = true ∧ (0 < b ∧ b.natAbs.log2 < 9000) := by
  obtain ⟨h0, h1, h2⟩ := h
  have hs := cv_small (a := a) (show 1 ≤ b by omega)
  refine ⟨⟨hs.1, by omega, .inl ⟨h0, h1⟩⟩, ?_, ?_, mulOk_r (by omega), divOk (a := 30) (by omega) (by omega) (by decide) (by decide)⟩
  · rcases h2 with h2 | ⟨rfl, rfl⟩
    · have := Int.natAbs_ediv_le_natAbs a b
      exact mulOk_l (by omega)
    · exact mulOk_r (by decide)
  · rcases h2 with h2 | ⟨rfl, rfl⟩
    · have := Int.natAbs_ediv_le_natAbs a b
      exact mulOk_l (by omega)
    · exact mulOk_r (by decide)
def prT (p : Int × Int) : T := .tup [.int p.1, .int p.2]
def cvB : S → RS := (sCons (sSet 4 (eBin opDiv (eVar 0) (eVar 1)))
      (sCons (sSet 2 (eLst (aCons (eBin opIx (eVar 2) (eC (.int 1))) (aCons (eTup (aCons (eBin opAdd (eBin opMul (eVar 4) (eBin opIx (eBin opIx (eVar 2) (eC (.int 1))) (eC (.int 0)))) (eBin opIx (eBin opIx (eVar 2) (eC (.int 0))) (eC (.int 0)))) (aCons (eBin opAdd (eBin opMul (eVar 4) (eBin opIx (eBin opIx (eVar 2) (eC (.int 1))) (eC (.int 1)))) (eBin opIx (eBin opIx (eVar 2) (eC (.int 0))) (eC (.int 1)))) aNil))) aNil))))
      (sCons (sExpr (eApp (eVar 3) (eBin opIx (eVar 2) (eC (.int 1)))))
      (sPar [0, 1] (aoCons (eVar 1) (aoCons (eBin opSub (eVar 0) (eBin opMul (eVar 4) (eVar 1))) aoNil))))))
def cvT : S → R Bool := (tTst (eBin opNe (eVar 1) (eC (.int 0))))
def clB : S → RS := (sCons (sSet 7 (eBin opDiv (eVar 0) (eVar 1)))
      (sCons (sParT [.inr [2, 3], .inr [4, 5], .inl 0, .inl 1] (aoCons (eTup (aCons (eBin opAdd (eBin opMul (eVar 7) (eVar 2)) (eVar 4)) (aCons (eBin opAdd (eBin opMul (eVar 7) (eVar 3)) (eVar 5)) aNil))) (aoCons (eTup (aCons (eVar 2) (aCons (eVar 3) aNil))) (aoCons (eVar 1) (aoCons (eBin opSub (eVar 0) (eBin opMul (eVar 7) (eVar 1))) aoNil)))))
      (sExpr (eApp (eVar 6) (eTup (aCons (eVar 2) (aCons (eVar 3) aNil)))))))
theorem cv_run (ob : List OV) : ∀ (k m : Nat) (a b : Int) (x y : Int × Int) (l : List (Int × Int)) (z : Option (Bool × T)), b.toNat < k → k ≤ m → l.length + k ≤ 10000 → CvI a b x y →
    ∃ s', s'.ob = ob ∧ s'.sl[3]? = some (some (true, .lst ((l ++ cvs k a b x y).map prT))) ∧ whileL cvT cvB m ⟨[sI a, sI b, some (true, .lst [prT y, prT x]), some (true, .lst (l.map prT)), z], ob⟩ = .nxt s'
  | 0, m, a, b, x, y, l, z, h, _, _, _ => absurd h (Nat.not_lt_zero _)
  | k + 1, 0, a, b, x, y, l, z, h, hm, _, _ => absurd hm (by omega)
  | k + 1, m + 1, a, b, x, y, l, z, h, hm, hl, hI => by
    by_cases hb : b = 0
    · subst hb
      refine ⟨⟨[sI a, sI 0, some (true, .lst [prT y, prT x]), some (true, .lst (l.map prT)), z], ob⟩, rfl, ?_, ?_⟩
      · show some (some (true, T.lst (l.map prT))) = _
        rw [cvs, if_pos rfl, List.append_nil]
      · unfold whileL cvT
        simp only [mkFn, sCons, sNil, sSet, setOf, sExpr, sRet, retOf, sRetN, sIf, sRaise, sAug, sAsg, toS, gSet, gNil, gCons, gTup, gSub, sPar, storeAll, eC, eVar, eBin, eUn, eTup, eLst, eLstO, eIf, eAnd, eOr, eNot, eIs, isN, aNil, aCons, aoNil, aoCons, own, peek, frz, view, out1, out1_val, out1_tmp, R.bind, R.bindS, tTst, tAndS, tOrS, tNotS, eCall, afterF, sFor, iRng1, iRng2, iSeq, itemsOf, opAdd, opSub, opMul, opDiv, opMod, opPow, opNeg, opIMul, opIAdd, opLt, opLe, opGt, opGe, opEq_int, opNe_int, opLen, opAbs, opInt, opList, opTuple, opIx, eApp, isL, wr, List.map_cons, List.map_nil, List.length_cons, List.length_nil, List.replicate_succ, List.replicate_zero, List.cons_append, List.nil_append, List.append_nil, List.getElem?_cons_zero, List.getElem?_cons_succ, List.set_cons_zero, List.set_cons_succ, if_true, if_false, ite_true, ite_false, reduceIte, Bool.false_eq_true, Option.map_some, eUnl, eTupL, eDGet, opMax2, opMin2, opIDiv, opIMod, sParT, storeT, eChn, opLenD, opStr, zk1, zk2, zk3, zk4, zk5, zk6, zk7, zk8, zk0, Nat.reduceAdd, Nat.reduceSub, decide_true, Bool.not_true]
    · obtain ⟨hs, m1, m2, m3, hd⟩ := hI.step hb
      have hsm := cv_small (a := a) (show 1 ≤ b by have := hI.1; omega)
      have i0 : ∀ x y : T, L2.atI [x, y] 0 = some x := fun _ _ => rfl
      have i1 : ∀ x y : T, L2.atI [x, y] 1 = some y := fun _ _ => rfl
      have zk : szok (l.length + 1) = true := decide_eq_true (by omega)
      obtain ⟨s', e1, e2, e3⟩ := cv_run ob k m b (a - a / b * b) (a / b * x.1 + y.1, a / b * x.2 + y.2) x (l ++ [(a / b * x.1 + y.1, a / b * x.2 + y.2)]) (sI (a / b)) (by omega) (by omega) (by rw [List.length_append]; show l.length + 1 + k ≤ 10000; omega) hs
      refine ⟨s', e1, ?_, ?_⟩
      · rw [e2, cvs, if_neg hb, List.append_assoc]; rfl
      · have hstep : cvB ⟨[sI a, sI b, some (true, .lst [prT y, prT x]), some (true, .lst (l.map prT)), z], ob⟩ = .nxt ⟨[sI b, sI (a - a / b * b), some (true, .lst [prT x, prT (a / b * x.1 + y.1, a / b * x.2 + y.2)]), some (true, .lst ((l ++ [(a / b * x.1 + y.1, a / b * x.2 + y.2)]).map prT)), sI (a / b)], ob⟩ := by
          unfold cvB prT
          simp only [mkFn, sCons, sNil, sSet, setOf, sExpr, sRet, retOf, sRetN, sIf, sRaise, sAug, sAsg, toS, gSet, gNil, gCons, gTup, gSub, sPar, storeAll, eC, eVar, eBin, eUn, eTup, eLst, eLstO, eIf, eAnd, eOr, eNot, eIs, isN, aNil, aCons, aoNil, aoCons, own, peek, frz, view, out1, out1_val, out1_tmp, R.bind, R.bindS, tTst, tAndS, tOrS, tNotS, eCall, afterF, sFor, iRng1, iRng2, iSeq, itemsOf, opAdd, opSub, opMul, opDiv, opMod, opPow, opNeg, opIMul, opIAdd, opLt, opLe, opGt, opGe, opEq_int, opNe_int, opLen, opAbs, opInt, opList, opTuple, opIx, eApp, isL, wr, List.map_cons, List.map_nil, List.length_cons, List.length_nil, List.replicate_succ, List.replicate_zero, List.cons_append, List.nil_append, List.append_nil, List.getElem?_cons_zero, List.getElem?_cons_succ, List.set_cons_zero, List.set_cons_succ, if_true, if_false, ite_true, ite_false, reduceIte, Bool.false_eq_true, Option.map_some, eUnl, eTupL, eDGet, opMax2, opMin2, opIDiv, opIMod, sParT, storeT, eChn, opLenD, opStr, zk1, zk2, zk3, zk4, zk5, zk6, zk7, zk8, zk0, Nat.reduceAdd, Nat.reduceSub, i0, i1, if_pos hd, m1, m2, m3, zk, List.length_map, List.map_append]
        refine (whileL_t ?_ hstep).trans e3
        unfold cvT
        simp only [mkFn, sCons, sNil, sSet, setOf, sExpr, sRet, retOf, sRetN, sIf, sRaise, sAug, sAsg, toS, gSet, gNil, gCons, gTup, gSub, sPar, storeAll, eC, eVar, eBin, eUn, eTup, eLst, eLstO, eIf, eAnd, eOr, eNot, eIs, isN, aNil, aCons, aoNil, aoCons, own, peek, frz, view, out1, out1_val, out1_tmp, R.bind, R.bindS, tTst, tAndS, tOrS, tNotS, eCall, afterF, sFor, iRng1, iRng2, iSeq, itemsOf, opAdd, opSub, opMul, opDiv, opMod, opPow, opNeg, opIMul, opIAdd, opLt, opLe, opGt, opGe, opEq_int, opNe_int, opLen, opAbs, opInt, opList, opTuple, opIx, eApp, isL, wr, List.map_cons, List.map_nil, List.length_cons, List.length_nil, List.replicate_succ, List.replicate_zero, List.cons_append, List.nil_append, List.append_nil, List.getElem?_cons_zero, List.getElem?_cons_succ, List.set_cons_zero, List.set_cons_succ, if_true, if_false, ite_true, ite_false, reduceIte, Bool.false_eq_true, Option.map_some, eUnl, eTupL, eDGet, opMax2, opMin2, opIDiv, opIMod, sParT, storeT, eChn, opLenD, opStr, zk1, zk2, zk3, zk4, zk5, zk6, zk7, zk8, zk0, Nat.reduceAdd, Nat.reduceSub, decide_eq_false hb, Bool.not_false]
theorem cl_run (ob : List OV) : ∀ (k m : Nat) (a b : Int) (x y : Int × Int) (l : List (Int × Int)) (z : Option (Bool × T)), b.toNat < k → k ≤ m → l.length + k ≤ 10000 → CvI a b x y →
    ∃ s', s'.ob = ob ∧ s'.sl[6]? = some (some (true, .lst ((l ++ cvs k a b x y).map prT))) ∧ whileL cvT clB m ⟨[sI a, sI b, sI x.1, sI x.2, sI y.1, sI y.2, some (true, .lst (l.map prT)), z], ob⟩ = .nxt s'
  | 0, m, a, b, x, y, l, z, h, _, _, _ => absurd h (Nat.not_lt_zero _)
  | k + 1, 0, a, b, x, y, l, z, h, hm, _, _ => absurd hm (by omega)
  | k + 1, m + 1, a, b, x, y, l, z, h, hm, hl, hI => by
    by_cases hb : b = 0
    · subst hb
      refine ⟨⟨[sI a, sI 0, sI x.1, sI x.2, sI y.1, sI y.2, some (true, .lst (l.map prT)), z], ob⟩, rfl, ?_, ?_⟩
      · show some (some (true, T.lst (l.map prT))) = _
        rw [cvs, if_pos rfl, List.append_nil]
      · unfold whileL cvT
        simp only [mkFn, sCons, sNil, sSet, setOf, sExpr, sRet, retOf, sRetN, sIf, sRaise, sAug, sAsg, toS, gSet, gNil, gCons, gTup, gSub, sPar, storeAll, eC, eVar, eBin, eUn, eTup, eLst, eLstO, eIf, eAnd, eOr, eNot, eIs, isN, aNil, aCons, aoNil, aoCons, own, peek, frz, view, out1, out1_val, out1_tmp, R.bind, R.bindS, tTst, tAndS, tOrS, tNotS, eCall, afterF, sFor, iRng1, iRng2, iSeq, itemsOf, opAdd, opSub, opMul, opDiv, opMod, opPow, opNeg, opIMul, opIAdd, opLt, opLe, opGt, opGe, opEq_int, opNe_int, opLen, opAbs, opInt, opList, opTuple, opIx, eApp, isL, wr, List.map_cons, List.map_nil, List.length_cons, List.length_nil, List.replicate_succ, List.replicate_zero, List.cons_append, List.nil_append, List.append_nil, List.getElem?_cons_zero, List.getElem?_cons_succ, List.set_cons_zero, List.set_cons_succ, if_true, if_false, ite_true, ite_false, reduceIte, Bool.false_eq_true, Option.map_some, eUnl, eTupL, eDGet, opMax2, opMin2, opIDiv, opIMod, sParT, storeT, eChn, opLenD, opStr, zk1, zk2, zk3, zk4, zk5, zk6, zk7, zk8, zk0, Nat.reduceAdd, Nat.reduceSub, decide_true, Bool.not_true]
    · obtain ⟨hs, m1, m2, m3, hd⟩ := hI.step hb
      have hsm := cv_small (a := a) (show 1 ≤ b by have := hI.1; omega)
      have zk : szok (l.length + 1) = true := decide_eq_true (by omega)
      obtain ⟨s', e1, e2, e3⟩ := cl_run ob k m b (a - a / b * b) (a / b * x.1 + y.1, a / b * x.2 + y.2) x (l ++ [(a / b * x.1 + y.1, a / b * x.2 + y.2)]) (sI (a / b)) (by omega) (by omega) (by rw [List.length_append]; show l.length + 1 + k ≤ 10000; omega) hs
      refine ⟨s', e1, ?_, ?_⟩
      · rw [e2, cvs, if_neg hb, List.append_assoc]; rfl
      · have hstep : clB ⟨[sI a, sI b, sI x.1, sI x.2, sI y.1, sI y.2, some (true, .lst (l.map prT)), z], ob⟩ = .nxt ⟨[sI b, sI (a - a / b * b), sI (a / b * x.1 + y.1), sI (a / b * x.2 + y.2), sI x.1, sI x.2, some (true, .lst ((l ++ [(a / b * x.1 + y.1, a / b * x.2 + y.2)]).map prT)), sI (a / b)], ob⟩ := by
          unfold clB prT
          simp only [mkFn, sCons, sNil, sSet, setOf, sExpr, sRet, retOf, sRetN, sIf, sRaise, sAug, sAsg, toS, gSet, gNil, gCons, gTup, gSub, sPar, storeAll, eC, eVar, eBin, eUn, eTup, eLst, eLstO, eIf, eAnd, eOr, eNot, eIs, isN, aNil, aCons, aoNil, aoCons, own, peek, frz, view, out1, out1_val, out1_tmp, R.bind, R.bindS, tTst, tAndS, tOrS, tNotS, eCall, afterF, sFor, iRng1, iRng2, iSeq, itemsOf, opAdd, opSub, opMul, opDiv, opMod, opPow, opNeg, opIMul, opIAdd, opLt, opLe, opGt, opGe, opEq_int, opNe_int, opLen, opAbs, opInt, opList, opTuple, opIx, eApp, isL, wr, List.map_cons, List.map_nil, List.length_cons, List.length_nil, List.replicate_succ, List.replicate_zero, List.cons_append, List.nil_append, List.append_nil, List.getElem?_cons_zero, List.getElem?_cons_succ, List.set_cons_zero, List.set_cons_succ, if_true, if_false, ite_true, ite_false, reduceIte, Bool.false_eq_true, Option.map_some, eUnl, eTupL, eDGet, opMax2, opMin2, opIDiv, opIMod, sParT, storeT, eChn, opLenD, opStr, zk1, zk2, zk3, zk4, zk5, zk6, zk7, zk8, zk0, Nat.reduceAdd, Nat.reduceSub, if_pos hd, m1, m2, m3, zk, List.length_map, List.map_append]
        refine (whileL_t ?_ hstep).trans e3
        unfold cvT
        simp only [mkFn, sCons, sNil, sSet, setOf, sExpr, sRet, retOf, sRetN, sIf, sRaise, sAug, sAsg, toS, gSet, gNil, gCons, gTup, gSub, sPar, storeAll, eC, eVar, eBin, eUn, eTup, eLst, eLstO, eIf, eAnd, eOr, eNot, eIs, isN, aNil, aCons, aoNil, aoCons, own, peek, frz, view, out1, out1_val, out1_tmp, R.bind, R.bindS, tTst, tAndS, tOrS, tNotS, eCall, afterF, sFor, iRng1, iRng2, iSeq, itemsOf, opAdd, opSub, opMul, opDiv, opMod, opPow, opNeg, opIMul, opIAdd, opLt, opLe, opGt, opGe, opEq_int, opNe_int, opLen, opAbs, opInt, opList, opTuple, opIx, eApp, isL, wr, List.map_cons, List.map_nil, List.length_cons, List.length_nil, List.replicate_succ, List.replicate_zero, List.cons_append, List.nil_append, List.append_nil, List.getElem?_cons_zero, List.getElem?_cons_succ, List.set_cons_zero, List.set_cons_succ, if_true, if_false, ite_true, ite_false, reduceIte, Bool.false_eq_true, Option.map_some, eUnl, eTupL, eDGet, opMax2, opMin2, opIDiv, opIMod, sParT, storeT, eChn, opLenD, opStr, zk1, zk2, zk3, zk4, zk5, zk6, zk7, zk8, zk0, Nat.reduceAdd, Nat.reduceSub, decide_eq_false hb, Bool.not_false]
theorem conv_eq {a b : Int} (hb : 1 ≤ b) (hb2 : b ≤ 1000) (ob : List OV) : ∃ l : List (Int × Int), l.length ≤ 2000 ∧ F_convergents [.int a, .int b] ob = .ok false (.tup (l.map pT)) ob ∧ F__law_convergents [.int a, .int b] ob = .ok true (.lst (l.map pT)) ob := by
  have hI : CvI a b (1, 0) (0, 1) := ⟨by omega, hb2, .inr ⟨rfl, rfl⟩⟩
  have hlen : ∀ (k : Nat) (a b : Int) (x y : Int × Int), (cvs k a b x y).length ≤ k := fun k => by
    induction k with
    | zero => intro a b x y; exact Nat.le_refl _
    | succ k ih =>
      intro a b x y
      rw [cvs]
      split
      · exact Nat.zero_le _
      · rw [List.length_cons]; exact Nat.succ_le_succ (ih _ _ _ _)
  obtain ⟨s1, e1, e2, e3⟩ := cv_run ob (b.toNat + 1) fuel a b (1, 0) (0, 1) [] none (by omega) (Nat.le_of_lt (fuel_of (a := 20) (by omega) (by decide))) (by rw [List.length_nil]; omega) hI
  obtain ⟨s2, f1, f2, f3⟩ := cl_run ob (b.toNat + 1) fuel a b (1, 0) (0, 1) [] none (by omega) (Nat.le_of_lt (fuel_of (a := 20) (by omega) (by decide))) (by rw [List.length_nil]; omega) hI
  rw [List.nil_append] at e2 f2
  obtain ⟨sl1, ob1⟩ := s1
  obtain ⟨sl2, ob2⟩ := s2
  have e1 : ob1 = ob := e1
  have f1 : ob2 = ob := f1
  subst e1
  subst f1
  have eb : decide (b < 1) = false := decide_eq_false (by omega)
  refine ⟨cvs (b.toNat + 1) a b (1, 0) (0, 1), by have := hlen (b.toNat + 1) a b (1, 0) (0, 1); omega, ?_, ?_⟩
  · unfold cvT cvB prT at e3
    have e3 : sWhile _ _ _ = _ := e3
    have e2 : sl1[3]? = _ := e2
    unfold F_convergents b_convergents
    rw [List.map_nil] at e3
    simp only [mkFn, sCons, sNil, sSet, setOf, sExpr, sRet, retOf, sRetN, sIf, sRaise, sAug, sAsg, toS, gSet, gNil, gCons, gTup, gSub, sPar, storeAll, eC, eVar, eBin, eUn, eTup, eLst, eLstO, eIf, eAnd, eOr, eNot, eIs, isN, aNil, aCons, aoNil, aoCons, own, peek, frz, view, out1, out1_val, out1_tmp, R.bind, R.bindS, tTst, tAndS, tOrS, tNotS, eCall, afterF, sFor, iRng1, iRng2, iSeq, itemsOf, opAdd, opSub, opMul, opDiv, opMod, opPow, opNeg, opIMul, opIAdd, opLt, opLe, opGt, opGe, opEq_int, opNe_int, opLen, opAbs, opInt, opList, opTuple, opIx, eApp, isL, wr, List.map_cons, List.map_nil, List.length_cons, List.length_nil, List.replicate_succ, List.replicate_zero, List.cons_append, List.nil_append, List.append_nil, List.getElem?_cons_zero, List.getElem?_cons_succ, List.set_cons_zero, List.set_cons_succ, if_true, if_false, ite_true, ite_false, reduceIte, Bool.false_eq_true, Option.map_some, eUnl, eTupL, eDGet, opMax2, opMin2, opIDiv, opIMod, sParT, storeT, eChn, opLenD, opStr, zk1, zk2, zk3, zk4, zk5, zk6, zk7, zk8, zk0, Nat.reduceAdd, Nat.reduceSub, eb, e3, e2]
    rfl
  · unfold cvT clB prT at f3
    have f3 : sWhile _ _ _ = _ := f3
    have f2 : sl2[6]? = _ := f2
    unfold F__law_convergents b__law_convergents
    rw [List.map_nil] at f3
    simp only [mkFn, sCons, sNil, sSet, setOf, sExpr, sRet, retOf, sRetN, sIf, sRaise, sAug, sAsg, toS, gSet, gNil, gCons, gTup, gSub, sPar, storeAll, eC, eVar, eBin, eUn, eTup, eLst, eLstO, eIf, eAnd, eOr, eNot, eIs, isN, aNil, aCons, aoNil, aoCons, own, peek, frz, view, out1, out1_val, out1_tmp, R.bind, R.bindS, tTst, tAndS, tOrS, tNotS, eCall, afterF, sFor, iRng1, iRng2, iSeq, itemsOf, opAdd, opSub, opMul, opDiv, opMod, opPow, opNeg, opIMul, opIAdd, opLt, opLe, opGt, opGe, opEq_int, opNe_int, opLen, opAbs, opInt, opList, opTuple, opIx, eApp, isL, wr, List.map_cons, List.map_nil, List.length_cons, List.length_nil, List.replicate_succ, List.replicate_zero, List.cons_append, List.nil_append, List.append_nil, List.getElem?_cons_zero, List.getElem?_cons_succ, List.set_cons_zero, List.set_cons_succ, if_true, if_false, ite_true, ite_false, reduceIte, Bool.false_eq_true, Option.map_some, eUnl, eTupL, eDGet, opMax2, opMin2, opIDiv, opIMod, sParT, storeT, eChn, opLenD, opStr, zk1, zk2, zk3, zk4, zk5, zk6, zk7, zk8, zk0, Nat.reduceAdd, Nat.reduceSub, f3, f2]
    rfl
end K01

set_option exponentiation.threshold 3000
namespace K01
open Sv
/-! ### fractions -/
def frD (a b : Int) : Int := if b < 0 then 0 - (Int.gcd a b : Int) else (Int.gcd a b : Int)
def fr (a b : Int) : Int × Int := (a.fdiv (frD a b), b.fdiv (frD a b))
theorem gcd_pos {a b : Int} (hb : b ≠ 0) : 0 < Int.gcd a b := Int.gcd_pos_of_ne_zero_right _ hb
theorem frD_ne {a b : Int} (hb : b ≠ 0) : frD a b ≠ 0 := by
  have := gcd_pos (a := a) hb
  unfold frD
  split <;> omega
theorem frD_abs {a b : Int} : (frD a b).natAbs = Int.gcd a b := by
  unfold frD
  split <;> omega
theorem gcd_le {a b : Int} (hb : b ≠ 0) : Int.gcd a b ≤ b.natAbs := by
  have := Int.natAbs_dvd_natAbs.mpr (Int.gcd_dvd_right a b)
  rw [Int.natAbs_natCast] at this
  exact Nat.le_of_dvd (by omega) this
theorem fr_div {a b : Int} (hb : b ≠ 0) (h : b.natAbs < 2 ^ 190) (x : Int) : opDiv (.int x) (.int (frD a b)) = some (false, .int (x.fdiv (frD a b))) :=
  opDiv_at (frD_ne hb) (a := 190) (by rw [frD_abs]; exact Nat.lt_of_le_of_lt (gcd_le hb) h) (by decide) (by decide)
theorem frac_eq {a b : Int} (hb : b ≠ 0) (ha : a.natAbs < 2 ^ 190) (h : b.natAbs < 2 ^ 190) (ob : List OV) : F__law_frac [.int a, .int b] ob = .ok false (pT (fr a b)) ob := by
  have hg := law_gcd ha h ob
  have d1 := fr_div (a := a) hb h a
  have d2 := fr_div (a := a) hb h b
  have hm : ∀ i : Int, mulOk i 1 = true := fun i => mulOk_r (by decide)
  have hm2 : ∀ i : Int, mulOk i (-1) = true := fun i => mulOk_r (by decide)
  have eg : (Int.gcd a b : Int) * (if 0 < b then 1 else -1) = frD a b := by
    unfold frD
    by_cases h1 : 0 < b
    · rw [if_pos h1, if_neg (by omega), Int.mul_one]
    · rw [if_neg h1, if_pos (by omega)]; omega
  unfold F__law_frac b__law_frac bb__law_frac pT fr
  by_cases h1 : 0 < b
  · rw [if_pos h1] at eg
    simp only [mkFn, sCons, sNil, sSet, setOf, sExpr, sRet, retOf, sRetN, sIf, sRaise, sAug, sAsg, toS, gSet, gNil, gCons, gTup, gSub, sPar, storeAll, eC, eVar, eBin, eUn, eTup, eLst, eLstO, eIf, eAnd, eOr, eNot, eIs, isN, aNil, aCons, aoNil, aoCons, own, peek, frz, view, out1, out1_val, out1_tmp, R.bind, R.bindS, tTst, tAndS, tOrS, tNotS, eCall, afterF, sFor, iRng1, iRng2, iSeq, itemsOf, opAdd, opSub, opMul, opMod, opPow, opNeg, opIMul, opIAdd, opLt, opLe, opGt, opGe, opEq_int, opNe_int, opLen, opAbs, opInt, opList, opTuple, opIx, eApp, isL, wr, List.map_cons, List.map_nil, List.length_cons, List.length_nil, List.replicate_succ, List.replicate_zero, List.cons_append, List.nil_append, List.append_nil, List.getElem?_cons_zero, List.getElem?_cons_succ, List.set_cons_zero, List.set_cons_succ, if_true, if_false, ite_true, ite_false, reduceIte, Bool.false_eq_true, Option.map_some, eUnl, eTupL, eDGet, opMax2, opMin2, opIDiv, opIMod, sParT, storeT, eChn, opLenD, opStr, zk1, zk2, zk3, zk4, zk5, zk6, zk7, zk8, zk0, Nat.reduceAdd, Nat.reduceSub, hg, decide_eq_true h1, hm, eg, d1, d2]
  · rw [if_neg h1] at eg
    simp only [mkFn, sCons, sNil, sSet, setOf, sExpr, sRet, retOf, sRetN, sIf, sRaise, sAug, sAsg, toS, gSet, gNil, gCons, gTup, gSub, sPar, storeAll, eC, eVar, eBin, eUn, eTup, eLst, eLstO, eIf, eAnd, eOr, eNot, eIs, isN, aNil, aCons, aoNil, aoCons, own, peek, frz, view, out1, out1_val, out1_tmp, R.bind, R.bindS, tTst, tAndS, tOrS, tNotS, eCall, afterF, sFor, iRng1, iRng2, iSeq, itemsOf, opAdd, opSub, opMul, opMod, opPow, opNeg, opIMul, opIAdd, opLt, opLe, opGt, opGe, opEq_int, opNe_int, opLen, opAbs, opInt, opList, opTuple, opIx, eApp, isL, wr, List.map_cons, List.map_nil, List.length_cons, List.length_nil, List.replicate_succ, List.replicate_zero, List.cons_append, List.nil_append, List.append_nil, List.getElem?_cons_zero, List.getElem?_cons_succ, List.set_cons_zero, List.set_cons_succ, if_true, if_false, ite_true, ite_false, reduceIte, Bool.false_eq_true, Option.map_some, eUnl, eTupL, eDGet, opMax2, opMin2, opIDiv, opIMod, sParT, storeT, eChn, opLenD, opStr, zk1, zk2, zk3, zk4, zk5, zk6, zk7, zk8, zk0, Nat.reduceAdd, Nat.reduceSub, hg, decide_eq_false h1, hm2, eg, d1, d2]
theorem rat_eq {a b : Int} (hb : b ≠ 0) (ha : a.natAbs < 2 ^ 190) (h : b.natAbs < 2 ^ 190) (ob : List OV) : F_rational [.int a, .int b] ob = .ok false (pT (fr a b)) ob := by
  have hg := common_div ha h ob
  have d1 := fr_div (a := a) hb h a
  have d2 := fr_div (a := a) hb h b
  have e0 : decide (b = 0) = false := decide_eq_false hb
  unfold F_rational b_rational bb_rational pT fr
  by_cases h1 : b < 0
  · have eg : 0 - (Int.gcd a b : Int) = frD a b := by unfold frD; rw [if_pos h1]
    simp only [mkFn, sCons, sNil, sSet, setOf, sExpr, sRet, retOf, sRetN, sIf, sRaise, sAug, sAsg, toS, gSet, gNil, gCons, gTup, gSub, sPar, storeAll, eC, eVar, eBin, eUn, eTup, eLst, eLstO, eIf, eAnd, eOr, eNot, eIs, isN, aNil, aCons, aoNil, aoCons, own, peek, frz, view, out1, out1_val, out1_tmp, R.bind, R.bindS, tTst, tAndS, tOrS, tNotS, eCall, afterF, sFor, iRng1, iRng2, iSeq, itemsOf, opAdd, opSub, opMul, opMod, opPow, opNeg, opIMul, opIAdd, opLt, opLe, opGt, opGe, opEq_int, opNe_int, opLen, opAbs, opInt, opList, opTuple, opIx, eApp, isL, wr, List.map_cons, List.map_nil, List.length_cons, List.length_nil, List.replicate_succ, List.replicate_zero, List.cons_append, List.nil_append, List.append_nil, List.getElem?_cons_zero, List.getElem?_cons_succ, List.set_cons_zero, List.set_cons_succ, if_true, if_false, ite_true, ite_false, reduceIte, Bool.false_eq_true, Option.map_some, eUnl, eTupL, eDGet, opMax2, opMin2, opIDiv, opIMod, sParT, storeT, eChn, opLenD, opStr, zk1, zk2, zk3, zk4, zk5, zk6, zk7, zk8, zk0, Nat.reduceAdd, Nat.reduceSub, hg, e0, decide_eq_true h1, eg, d1, d2]
  · have eg : (Int.gcd a b : Int) = frD a b := by unfold frD; rw [if_neg h1]
    simp only [mkFn, sCons, sNil, sSet, setOf, sExpr, sRet, retOf, sRetN, sIf, sRaise, sAug, sAsg, toS, gSet, gNil, gCons, gTup, gSub, sPar, storeAll, eC, eVar, eBin, eUn, eTup, eLst, eLstO, eIf, eAnd, eOr, eNot, eIs, isN, aNil, aCons, aoNil, aoCons, own, peek, frz, view, out1, out1_val, out1_tmp, R.bind, R.bindS, tTst, tAndS, tOrS, tNotS, eCall, afterF, sFor, iRng1, iRng2, iSeq, itemsOf, opAdd, opSub, opMul, opMod, opPow, opNeg, opIMul, opIAdd, opLt, opLe, opGt, opGe, opEq_int, opNe_int, opLen, opAbs, opInt, opList, opTuple, opIx, eApp, isL, wr, List.map_cons, List.map_nil, List.length_cons, List.length_nil, List.replicate_succ, List.replicate_zero, List.cons_append, List.nil_append, List.append_nil, List.getElem?_cons_zero, List.getElem?_cons_succ, List.set_cons_zero, List.set_cons_succ, if_true, if_false, ite_true, ite_false, reduceIte, Bool.false_eq_true, Option.map_some, eUnl, eTupL, eDGet, opMax2, opMin2, opIDiv, opIMod, sParT, storeT, eChn, opLenD, opStr, zk1, zk2, zk3, zk4, zk5, zk6, zk7, zk8, zk0, Nat.reduceAdd, Nat.reduceSub, hg, e0, decide_eq_false h1, eg, d1, d2]
theorem rat_zero (a : Int) (ob : List OV) : F_rational [.int a, .int 0] ob = .exc "NumberError" ob := by
  unfold F_rational b_rational bb_rational
  simp only [mkFn, sCons, sNil, sSet, setOf, sExpr, sRet, retOf, sRetN, sIf, sRaise, sAug, sAsg, toS, gSet, gNil, gCons, gTup, gSub, sPar, storeAll, eC, eVar, eBin, eUn, eTup, eLst, eLstO, eIf, eAnd, eOr, eNot, eIs, isN, aNil, aCons, aoNil, aoCons, own, peek, frz, view, out1, out1_val, out1_tmp, R.bind, R.bindS, tTst, tAndS, tOrS, tNotS, eCall, afterF, sFor, iRng1, iRng2, iSeq, itemsOf, opAdd, opSub, opMul, opDiv, opMod, opPow, opNeg, opIMul, opIAdd, opLt, opLe, opGt, opGe, opEq_int, opNe_int, opLen, opAbs, opInt, opList, opTuple, opIx, eApp, isL, wr, List.map_cons, List.map_nil, List.length_cons, List.length_nil, List.replicate_succ, List.replicate_zero, List.cons_append, List.nil_append, List.append_nil, List.getElem?_cons_zero, List.getElem?_cons_succ, List.set_cons_zero, List.set_cons_succ, if_true, if_false, ite_true, ite_false, reduceIte, Bool.false_eq_true, Option.map_some, eUnl, eTupL, eDGet, opMax2, opMin2, opIDiv, opIMod, sParT, storeT, eChn, opLenD, opStr, zk1, zk2, zk3, zk4, zk5, zk6, zk7, zk8, zk0, Nat.reduceAdd, Nat.reduceSub, decide_true]
theorem fr_le {a b : Int} : (fr a b).1.natAbs ≤ a.natAbs ∧ (fr a b).2.natAbs ≤ b.natAbs := ⟨Int.natAbs_fdiv_le_natAbs _ _, Int.natAbs_fdiv_le_natAbs _ _⟩
theorem fr_pos {a b : Int} (hb : b ≠ 0) : 1 ≤ (fr a b).2 := by
  obtain ⟨c, hc⟩ := Int.gcd_dvd_right a b
  have hg := gcd_pos (a := a) hb
  have hD : frD a b ∣ b := by
    unfold frD
    split
    · rw [Int.zero_sub]; exact (Int.neg_dvd).mpr (Int.gcd_dvd_right a b)
    · exact Int.gcd_dvd_right a b
  show 1 ≤ b.fdiv (frD a b)
  obtain ⟨k, hk⟩ := hD
  have e : b.fdiv (frD a b) = k := by
    have h2 : (frD a b * k).fdiv (frD a b) = k := Int.mul_fdiv_cancel_left k (frD_ne hb)
    rwa [← hk] at h2
  rw [e]
  refine Classical.byContradiction fun z => ?_
  by_cases h1 : b < 0
  · have h2 : frD a b < 0 := by unfold frD; rw [if_pos h1]; omega
    have := Int.mul_nonneg_of_nonpos_of_nonpos (show frD a b ≤ 0 by omega) (show k ≤ 0 by omega)
    omega
  · have h2 : 0 < frD a b := by unfold frD; rw [if_neg h1]; omega
    have := Int.mul_nonpos_of_nonneg_of_nonpos (show 0 ≤ frD a b by omega) (show k ≤ 0 by omega)
    omega
/-- the drawn fractions -/
structure Fr (p : Int × Int) : Prop where
  u : p.1.natAbs ≤ 50
  l : 1 ≤ p.2
  l2 : p.2 ≤ 20
  t : fr (p.1 * 6) (p.2 * -6) = (-p.1, p.2)
def frChk : Bool := (List.range 99).all fun i => (List.range 20).all fun j =>
  let p := fr ((i : Int) - 50) (1 + (j : Int))
  decide (p.1.natAbs ≤ 50) && decide (1 ≤ p.2) && decide (p.2 ≤ 20) && decide (fr (p.1 * 6) (p.2 * -6) = (-p.1, p.2))
theorem frChk_ok : frChk = true := by decide +kernel
theorem Fr_at {i j : Int} (h0 : 0 ≤ i) (h1 : i < 99) (h2 : 0 ≤ j) (h3 : j < 20) : Fr (fr (i - 50) (1 + j)) := by
  have h := frChk_ok
  unfold frChk at h
  rw [List.all_eq_true] at h
  have h := h i.toNat (List.mem_range.mpr (by omega))
  rw [List.all_eq_true] at h
  have h := h j.toNat (List.mem_range.mpr (by omega))
  simp only [Bool.and_eq_true, decide_eq_true_iff] at h
  rw [show ((i.toNat : Nat) : Int) = i by omega, show ((j.toNat : Nat) : Int) = j by omega] at h
  exact ⟨h.1.1.1, h.1.1.2, h.1.2, h.2⟩
/-- sizes that are far from every bound -/
theorem sm {x : Int} {k : Nat} (h : x.natAbs ≤ k) (hk : k < 18446744073709551616) : x.natAbs < 2 ^ 190 := Nat.lt_of_le_of_lt h (Nat.lt_trans hk (by decide))
theorem mul_b {x y : Int} {a b : Nat} (hx : x.natAbs ≤ a) (hy : y.natAbs ≤ b) : (x * y).natAbs ≤ a * b := by rw [Int.natAbs_mul]; exact Nat.mul_le_mul hx hy
theorem mulOk_b {x y : Int} {a : Nat} (hx : x.natAbs ≤ a) (ha : a < 18446744073709551616) : mulOk x y = true := mulOk_l (by omega)
section
variable {a0 a1 b0 b1 : Int}
theorem ix0 (x y : T) : L2.atI [x, y] 0 = some x := rfl
theorem ix1 (x y : T) : L2.atI [x, y] 1 = some y := rfl
theorem sum_eq (ha : a0.natAbs ≤ 100000000) (ha1 : a1.natAbs ≤ 100000000) (hb : b0.natAbs ≤ 100000000) (hb1 : b1.natAbs ≤ 100000000) (h0 : a1 ≠ 0) (h1 : b1 ≠ 0) (ob : List OV) :
    F_sum_of [.tup [.int a0, .int a1], .tup [.int b0, .int b1]] ob = .ok false (pT (fr (a0 * b1 + b0 * a1) (a1 * b1))) ob ∧ F__law_plus [.tup [.int a0, .int a1], .tup [.int b0, .int b1]] ob = .ok false (pT (fr (a0 * b1 + b0 * a1) (a1 * b1))) ob := by
  have m1 : mulOk a0 b1 = true := mulOk_b ha (by decide)
  have m2 : mulOk b0 a1 = true := mulOk_b hb (by decide)
  have m3 : mulOk a1 b1 = true := mulOk_b ha1 (by decide)
  have s1 := mul_b ha hb1
  have s2 := mul_b hb ha1
  have s3 := mul_b ha1 hb1
  have k1 : (a0 * b1 + b0 * a1).natAbs < 2 ^ 190 := sm (k := 20000000000000000) (by omega) (by decide)
  have k2 : (a1 * b1).natAbs < 2 ^ 190 := sm (k := 20000000000000000) (by omega) (by decide)
  have k3 : a1 * b1 ≠ 0 := Int.mul_ne_zero h0 h1
  have r1 := rat_eq k3 k1 k2 ob
  have r2 := frac_eq k3 k1 k2 ob
  unfold F_sum_of b_sum_of bb_sum_of F__law_plus b__law_plus bb__law_plus
  constructor <;> simp only [mkFn, sCons, sNil, sSet, setOf, sExpr, sRet, retOf, sRetN, sIf, sRaise, sAug, sAsg, toS, gSet, gNil, gCons, gTup, gSub, sPar, storeAll, eC, eVar, eBin, eUn, eTup, eLst, eLstO, eIf, eAnd, eOr, eNot, eIs, isN, aNil, aCons, aoNil, aoCons, own, peek, frz, view, out1, out1_val, out1_tmp, R.bind, R.bindS, tTst, tAndS, tOrS, tNotS, eCall, afterF, sFor, iRng1, iRng2, iSeq, itemsOf, opAdd, opSub, opMul, opDiv, opMod, opPow, opNeg, opIMul, opIAdd, opLt, opLe, opGt, opGe, opEq_int, opNe_int, opLen, opAbs, opInt, opList, opTuple, opIx, eApp, isL, wr, List.map_cons, List.map_nil, List.length_cons, List.length_nil, List.replicate_succ, List.replicate_zero, List.cons_append, List.nil_append, List.append_nil, List.getElem?_cons_zero, List.getElem?_cons_succ, List.set_cons_zero, List.set_cons_succ, if_true, if_false, ite_true, ite_false, reduceIte, Bool.false_eq_true, Option.map_some, eUnl, eTupL, eDGet, opMax2, opMin2, opIDiv, opIMod, sParT, storeT, eChn, opLenD, opStr, zk1, zk2, zk3, zk4, zk5, zk6, zk7, zk8, zk0, Nat.reduceAdd, Nat.reduceSub, ix0, ix1, m1, m2, m3, r1, r2] <;> rfl
theorem dif_eq (ha : a0.natAbs ≤ 100000000) (ha1 : a1.natAbs ≤ 100000000) (hb : b0.natAbs ≤ 100000000) (hb1 : b1.natAbs ≤ 100000000) (h0 : a1 ≠ 0) (h1 : b1 ≠ 0) (ob : List OV) :
    F_difference_of [.tup [.int a0, .int a1], .tup [.int b0, .int b1]] ob = .ok false (pT (fr (a0 * b1 + -b0 * a1) (a1 * b1))) ob := by
  have m1 : mulOk a0 b1 = true := mulOk_b ha (by decide)
  have m2 : mulOk b0 a1 = true := mulOk_b hb (by decide)
  have m3 : mulOk a1 b1 = true := mulOk_b ha1 (by decide)
  have s1 := mul_b ha hb1
  have s2 := mul_b hb ha1
  have s3 := mul_b ha1 hb1
  have k1 : (a0 * b1 - b0 * a1).natAbs < 2 ^ 190 := sm (k := 20000000000000000) (by omega) (by decide)
  have k2 : (a1 * b1).natAbs < 2 ^ 190 := sm (k := 20000000000000000) (by omega) (by decide)
  have k3 : a1 * b1 ≠ 0 := Int.mul_ne_zero h0 h1
  have r1 := rat_eq k3 k1 k2 ob
  rw [show a0 * b1 + -b0 * a1 = a0 * b1 - b0 * a1 by rw [Int.neg_mul]; omega]
  unfold F_difference_of b_difference_of bb_difference_of
  simp only [mkFn, sCons, sNil, sSet, setOf, sExpr, sRet, retOf, sRetN, sIf, sRaise, sAug, sAsg, toS, gSet, gNil, gCons, gTup, gSub, sPar, storeAll, eC, eVar, eBin, eUn, eTup, eLst, eLstO, eIf, eAnd, eOr, eNot, eIs, isN, aNil, aCons, aoNil, aoCons, own, peek, frz, view, out1, out1_val, out1_tmp, R.bind, R.bindS, tTst, tAndS, tOrS, tNotS, eCall, afterF, sFor, iRng1, iRng2, iSeq, itemsOf, opAdd, opSub, opMul, opDiv, opMod, opPow, opNeg, opIMul, opIAdd, opLt, opLe, opGt, opGe, opEq_int, opNe_int, opLen, opAbs, opInt, opList, opTuple, opIx, eApp, isL, wr, List.map_cons, List.map_nil, List.length_cons, List.length_nil, List.replicate_succ, List.replicate_zero, List.cons_append, List.nil_append, List.append_nil, List.getElem?_cons_zero, List.getElem?_cons_succ, List.set_cons_zero, List.set_cons_succ, if_true, if_false, ite_true, ite_false, reduceIte, Bool.false_eq_true, Option.map_some, eUnl, eTupL, eDGet, opMax2, opMin2, opIDiv, opIMod, sParT, storeT, eChn, opLenD, opStr, zk1, zk2, zk3, zk4, zk5, zk6, zk7, zk8, zk0, Nat.reduceAdd, Nat.reduceSub, ix0, ix1, m1, m2, m3, r1]
theorem pro_eq (ha : a0.natAbs ≤ 100000000) (ha1 : a1.natAbs ≤ 100000000) (hb : b0.natAbs ≤ 100000000) (hb1 : b1.natAbs ≤ 100000000) (h0 : a1 ≠ 0) (h1 : b1 ≠ 0) (ob : List OV) :
    F_product_of [.tup [.int a0, .int a1], .tup [.int b0, .int b1]] ob = .ok false (pT (fr (a0 * b0) (a1 * b1))) ob ∧ F__law_times [.tup [.int a0, .int a1], .tup [.int b0, .int b1]] ob = .ok false (pT (fr (a0 * b0) (a1 * b1))) ob := by
  have m1 : mulOk a0 b0 = true := mulOk_b ha (by decide)
  have m3 : mulOk a1 b1 = true := mulOk_b ha1 (by decide)
  have s1 := mul_b ha hb
  have s3 := mul_b ha1 hb1
  have k1 : (a0 * b0).natAbs < 2 ^ 190 := sm (k := 20000000000000000) (by omega) (by decide)
  have k2 : (a1 * b1).natAbs < 2 ^ 190 := sm (k := 20000000000000000) (by omega) (by decide)
  have k3 : a1 * b1 ≠ 0 := Int.mul_ne_zero h0 h1
  have r1 := rat_eq k3 k1 k2 ob
  have r2 := frac_eq k3 k1 k2 ob
  unfold F_product_of b_product_of bb_product_of F__law_times b__law_times bb__law_times
  constructor <;> simp only [mkFn, sCons, sNil, sSet, setOf, sExpr, sRet, retOf, sRetN, sIf, sRaise, sAug, sAsg, toS, gSet, gNil, gCons, gTup, gSub, sPar, storeAll, eC, eVar, eBin, eUn, eTup, eLst, eLstO, eIf, eAnd, eOr, eNot, eIs, isN, aNil, aCons, aoNil, aoCons, own, peek, frz, view, out1, out1_val, out1_tmp, R.bind, R.bindS, tTst, tAndS, tOrS, tNotS, eCall, afterF, sFor, iRng1, iRng2, iSeq, itemsOf, opAdd, opSub, opMul, opDiv, opMod, opPow, opNeg, opIMul, opIAdd, opLt, opLe, opGt, opGe, opEq_int, opNe_int, opLen, opAbs, opInt, opList, opTuple, opIx, eApp, isL, wr, List.map_cons, List.map_nil, List.length_cons, List.length_nil, List.replicate_succ, List.replicate_zero, List.cons_append, List.nil_append, List.append_nil, List.getElem?_cons_zero, List.getElem?_cons_succ, List.set_cons_zero, List.set_cons_succ, if_true, if_false, ite_true, ite_false, reduceIte, Bool.false_eq_true, Option.map_some, eUnl, eTupL, eDGet, opMax2, opMin2, opIDiv, opIMod, sParT, storeT, eChn, opLenD, opStr, zk1, zk2, zk3, zk4, zk5, zk6, zk7, zk8, zk0, Nat.reduceAdd, Nat.reduceSub, ix0, ix1, m1, m3, r1, r2] <;> rfl
theorem quo_eq (ha : a0.natAbs ≤ 100000000) (ha1 : a1.natAbs ≤ 100000000) (hb : b0.natAbs ≤ 100000000) (hb1 : b1.natAbs ≤ 100000000) (h0 : a1 ≠ 0) (h1 : b0 ≠ 0) (ob : List OV) :
    F_quotient_of [.tup [.int a0, .int a1], .tup [.int b0, .int b1]] ob = .ok false (pT (fr (a0 * b1) (a1 * b0))) ob ∧ F__law_frac [.int (a0 * b1), .int (a1 * b0)] ob = .ok false (pT (fr (a0 * b1) (a1 * b0))) ob := by
  have m1 : mulOk a0 b1 = true := mulOk_b ha (by decide)
  have m3 : mulOk a1 b0 = true := mulOk_b ha1 (by decide)
  have s1 := mul_b ha hb1
  have s3 := mul_b ha1 hb
  have k1 : (a0 * b1).natAbs < 2 ^ 190 := sm (k := 20000000000000000) (by omega) (by decide)
  have k2 : (a1 * b0).natAbs < 2 ^ 190 := sm (k := 20000000000000000) (by omega) (by decide)
  have k3 : a1 * b0 ≠ 0 := Int.mul_ne_zero h0 h1
  have r1 := rat_eq k3 k1 k2 ob
  have r2 := frac_eq k3 k1 k2 ob
  unfold F_quotient_of b_quotient_of bb_quotient_of
  refine ⟨?_, r2⟩
  simp only [mkFn, sCons, sNil, sSet, setOf, sExpr, sRet, retOf, sRetN, sIf, sRaise, sAug, sAsg, toS, gSet, gNil, gCons, gTup, gSub, sPar, storeAll, eC, eVar, eBin, eUn, eTup, eLst, eLstO, eIf, eAnd, eOr, eNot, eIs, isN, aNil, aCons, aoNil, aoCons, own, peek, frz, view, out1, out1_val, out1_tmp, R.bind, R.bindS, tTst, tAndS, tOrS, tNotS, eCall, afterF, sFor, iRng1, iRng2, iSeq, itemsOf, opAdd, opSub, opMul, opDiv, opMod, opPow, opNeg, opIMul, opIAdd, opLt, opLe, opGt, opGe, opEq_int, opNe_int, opLen, opAbs, opInt, opList, opTuple, opIx, eApp, isL, wr, List.map_cons, List.map_nil, List.length_cons, List.length_nil, List.replicate_succ, List.replicate_zero, List.cons_append, List.nil_append, List.append_nil, List.getElem?_cons_zero, List.getElem?_cons_succ, List.set_cons_zero, List.set_cons_succ, if_true, if_false, ite_true, ite_false, reduceIte, Bool.false_eq_true, Option.map_some, eUnl, eTupL, eDGet, opMax2, opMin2, opIDiv, opIMod, sParT, storeT, eChn, opLenD, opStr, zk1, zk2, zk3, zk4, zk5, zk6, zk7, zk8, zk0, Nat.reduceAdd, Nat.reduceSub, ix0, ix1, m1, m3, r1]
theorem quo_zero (ha : a0.natAbs ≤ 100000000) (ha1 : a1.natAbs ≤ 100000000) (ob : List OV) : F_quotient_of [.tup [.int a0, .int a1], .tup [.int 0, .int b1]] ob = .exc "NumberError" ob := by
  have m1 : mulOk a0 b1 = true := mulOk_b ha (by decide)
  have m3 : mulOk a1 0 = true := mulOk_b ha1 (by decide)
  have r1 := rat_zero (a0 * b1) ob
  unfold F_quotient_of b_quotient_of bb_quotient_of
  simp only [mkFn, sCons, sNil, sSet, setOf, sExpr, sRet, retOf, sRetN, sIf, sRaise, sAug, sAsg, toS, gSet, gNil, gCons, gTup, gSub, sPar, storeAll, eC, eVar, eBin, eUn, eTup, eLst, eLstO, eIf, eAnd, eOr, eNot, eIs, isN, aNil, aCons, aoNil, aoCons, own, peek, frz, view, out1, out1_val, out1_tmp, R.bind, R.bindS, tTst, tAndS, tOrS, tNotS, eCall, afterF, sFor, iRng1, iRng2, iSeq, itemsOf, opAdd, opSub, opMul, opDiv, opMod, opPow, opNeg, opIMul, opIAdd, opLt, opLe, opGt, opGe, opEq_int, opNe_int, opLen, opAbs, opInt, opList, opTuple, opIx, eApp, isL, wr, List.map_cons, List.map_nil, List.length_cons, List.length_nil, List.replicate_succ, List.replicate_zero, List.cons_append, List.nil_append, List.append_nil, List.getElem?_cons_zero, List.getElem?_cons_succ, List.set_cons_zero, List.set_cons_succ, if_true, if_false, ite_true, ite_false, reduceIte, Bool.false_eq_true, Option.map_some, eUnl, eTupL, eDGet, opMax2, opMin2, opIDiv, opIMod, sParT, storeT, eChn, opLenD, opStr, zk1, zk2, zk3, zk4, zk5, zk6, zk7, zk8, zk0, Nat.reduceAdd, Nat.reduceSub, ix0, ix1, m1, m3, Int.mul_zero, r1]
theorem sign_eq (x y : Int) (ob : List OV) : F_sign [.tup [.int x, .int y]] ob = .ok false (.int (PyProof.Rows.b2i (decide (0 < x)) - PyProof.Rows.b2i (decide (x < 0)))) ob := by
  unfold F_sign b_sign
  simp only [mkFn, sCons, sNil, sSet, setOf, sExpr, sRet, retOf, sRetN, sIf, sRaise, sAug, sAsg, toS, gSet, gNil, gCons, gTup, gSub, sPar, storeAll, eC, eVar, eBin, eUn, eTup, eLst, eLstO, eIf, eAnd, eOr, eNot, eIs, isN, aNil, aCons, aoNil, aoCons, own, peek, frz, view, out1, out1_val, out1_tmp, R.bind, R.bindS, tTst, tAndS, tOrS, tNotS, eCall, afterF, sFor, iRng1, iRng2, iSeq, itemsOf, opAdd, opSub, opMul, opDiv, opMod, opPow, opNeg, opIMul, opIAdd, opLt, opLe, opGt, opGe, opEq_int, opNe_int, opLen, opAbs, opInt, opList, opTuple, opIx, eApp, isL, wr, List.map_cons, List.map_nil, List.length_cons, List.length_nil, List.replicate_succ, List.replicate_zero, List.cons_append, List.nil_append, List.append_nil, List.getElem?_cons_zero, List.getElem?_cons_succ, List.set_cons_zero, List.set_cons_succ, if_true, if_false, ite_true, ite_false, reduceIte, Bool.false_eq_true, Option.map_some, eUnl, eTupL, eDGet, opMax2, opMin2, opIDiv, opIMod, sParT, storeT, eChn, opLenD, opStr, zk1, zk2, zk3, zk4, zk5, zk6, zk7, zk8, zk0, Nat.reduceAdd, Nat.reduceSub, ix0]
theorem com_eq (ha : a0.natAbs ≤ 100000000) (ha1 : a1.natAbs ≤ 100000000) (hb : b0.natAbs ≤ 100000000) (hb1 : b1.natAbs ≤ 100000000) (h0 : a1 ≠ 0) (h1 : b1 ≠ 0) (ob : List OV) :
    F_compared [.tup [.int a0, .int a1], .tup [.int b0, .int b1]] ob = F_sign [pT (fr (a0 * b1 + -b0 * a1) (a1 * b1))] ob := by
  have r1 := dif_eq ha ha1 hb hb1 h0 h1 ob
  unfold pT at *
  rw [sign_eq]
  unfold F_compared b_compared bb_compared
  simp only [mkFn, sCons, sNil, sSet, setOf, sExpr, sRet, retOf, sRetN, sIf, sRaise, sAug, sAsg, toS, gSet, gNil, gCons, gTup, gSub, sPar, storeAll, eC, eVar, eBin, eUn, eTup, eLst, eLstO, eIf, eAnd, eOr, eNot, eIs, isN, aNil, aCons, aoNil, aoCons, own, peek, frz, view, out1, out1_val, out1_tmp, R.bind, R.bindS, tTst, tAndS, tOrS, tNotS, eCall, afterF, sFor, iRng1, iRng2, iSeq, itemsOf, opAdd, opSub, opMul, opDiv, opMod, opPow, opNeg, opIMul, opIAdd, opLt, opLe, opGt, opGe, opEq_int, opNe_int, opLen, opAbs, opInt, opList, opTuple, opIx, eApp, isL, wr, List.map_cons, List.map_nil, List.length_cons, List.length_nil, List.replicate_succ, List.replicate_zero, List.cons_append, List.nil_append, List.append_nil, List.getElem?_cons_zero, List.getElem?_cons_succ, List.set_cons_zero, List.set_cons_succ, if_true, if_false, ite_true, ite_false, reduceIte, Bool.false_eq_true, Option.map_some, eUnl, eTupL, eDGet, opMax2, opMin2, opIDiv, opIMod, sParT, storeT, eChn, opLenD, opStr, zk1, zk2, zk3, zk4, zk5, zk6, zk7, zk8, zk0, Nat.reduceAdd, Nat.reduceSub, r1, sign_eq]
end
end K01

set_option exponentiation.threshold 3000
namespace K01
open Sv
theorem chk_gen (L : Int) (hL : 1000000000000 < L) {x y : Int} (hx : x.natAbs ≤ 1000000000000) (hy : y ≤ 1000000000000) (ob : List OV) :
    mkFn 1 1 (sIf (tOrS (tTst (eBin opGe (eUn opAbs (eBin opIx (eVar 0) (eC (.int 0)))) (eC (.int L)))) (tTst (eBin opGe (eBin opIx (eVar 0) (eC (.int 1))) (eC (.int L))))) (sRaise "NumberError") sNil) [.tup [.int x, .int y]] ob = .ok false .non ob := by
  have e1 : decide (L ≤ if x < 0 then -x else x) = false := decide_eq_false (by omega)
  have e2 : decide (L ≤ y) = false := decide_eq_false (by omega)
  simp only [mkFn, sCons, sNil, sSet, setOf, sExpr, sRet, retOf, sRetN, sIf, sRaise, sAug, sAsg, toS, gSet, gNil, gCons, gTup, gSub, sPar, storeAll, eC, eVar, eBin, eUn, eTup, eLst, eLstO, eIf, eAnd, eOr, eNot, eIs, isN, aNil, aCons, aoNil, aoCons, own, peek, frz, view, out1, out1_val, out1_tmp, R.bind, R.bindS, tTst, tAndS, tOrS, tNotS, eCall, afterF, sFor, iRng1, iRng2, iSeq, itemsOf, opAdd, opSub, opMul, opDiv, opMod, opPow, opNeg, opIMul, opIAdd, opLt, opLe, opGt, opGe, opEq_int, opNe_int, opLen, opAbs, opInt, opList, opTuple, opIx, eApp, isL, wr, List.map_cons, List.map_nil, List.length_cons, List.length_nil, List.replicate_succ, List.replicate_zero, List.cons_append, List.nil_append, List.append_nil, List.getElem?_cons_zero, List.getElem?_cons_succ, List.set_cons_zero, List.set_cons_succ, if_true, if_false, ite_true, ite_false, reduceIte, Bool.false_eq_true, Option.map_some, eUnl, eTupL, eDGet, opMax2, opMin2, opIDiv, opIMod, sParT, storeT, eChn, opLenD, opStr, zk1, zk2, zk3, zk4, zk5, zk6, zk7, zk8, zk0, Nat.reduceAdd, Nat.reduceSub, ix0, ix1, e1, e2]
theorem check_ok {x y : Int} (hx : x.natAbs ≤ 1000000000000) (hy : y ≤ 1000000000000) (ob : List OV) : F_check_short [.tup [.int x, .int y]] ob = .ok false .non ob := chk_gen _ (by decide) hx hy ob
/-! ### texts -/
def tS (i : Int) : PySem.Str := (toString i : String)
def tsChk : Bool := (List.range 101).all fun i => PySem.PyData.strOk (tS ((i : Int) - 50)) && decide ((tS ((i : Int) - 50)).length ≤ 10)
theorem tsChk_ok : tsChk = true := by decide +kernel
theorem tS_ok {i : Int} (h : i.natAbs ≤ 50) : PySem.PyData.strOk (tS i) = true ∧ (tS i).length ≤ 10 := by
  have k := tsChk_ok
  unfold tsChk at k
  rw [List.all_eq_true] at k
  have k := k (i + 50).toNat (List.mem_range.mpr (by omega))
  rw [Bool.and_eq_true, decide_eq_true_iff, show (((i + 50).toNat : Nat) : Int) - 50 = i by omega] at k
  exact k
theorem str_add (x y : PySem.Str) : (x ++ y) = PySem.Str.mk (x.cps ++ y.cps) := rfl
theorem str_len (x y : PySem.Str) : (x ++ y).length = x.length + y.length := by
  show (x.cps ++ y.cps).size = _
  rw [Array.size_append]; rfl
theorem str_ok {x y : PySem.Str} (hx : PySem.PyData.strOk x = true) (hy : PySem.PyData.strOk y = true) : PySem.PyData.strOk (x ++ y) = true := by
  show (x.cps ++ y.cps).all _ = true
  rw [Array.all_append]
  rw [Bool.and_eq_true]
  exact ⟨hx, hy⟩
theorem str_nil (x : PySem.Str) : PySem.Str.empty ++ x = x := by
  show PySem.Str.mk (#[] ++ x.cps) = x
  rw [Array.empty_append]
theorem opNe_str {x : PySem.Str} (h : PySem.PyData.strOk x = true) : opNe (.str x) (.str x) = some (false, .bl false) := by
  unfold opNe
  rw [if_pos ⟨h, h⟩]
  show some (false, T.bl (!(x == x))) = _
  rw [beq_self_eq_true]
  rfl
theorem opStr_at {i : Int} (h : i.natAbs ≤ 50) : opStr (.int i) = some (false, .str (tS i)) := by
  have : i.natAbs.log2 < 1920 := Nat.lt_of_lt_of_le (PySem.Flt.log2_lt_of (k := 64) (by decide) (show i.natAbs < 2 ^ 64 by omega)) (by decide)
  unfold opStr
  simp only [if_pos this]
  rfl
/-- the text of a fraction -/
def fT (x y : Int) : PySem.Str := if y = 1 then tS x else (tS x ++ ("/" : PySem.Str)) ++ tS y
theorem fT_ok {x y : Int} (hx : x.natAbs ≤ 50) (hy : y.natAbs ≤ 50) : PySem.PyData.strOk (fT x y) = true := by
  unfold fT
  split
  · exact (tS_ok hx).1
  · exact str_ok (str_ok (tS_ok hx).1 (by decide +kernel)) (tS_ok hy).1
theorem text_eq {x y : Int} (hx : x.natAbs ≤ 50) (hy : y.natAbs ≤ 50) (ob : List OV) : F_rational_text [.tup [.int x, .int y]] ob = .ok false (.str (fT x y)) ob := by
  have hc := check_ok (x := x) (y := y) (by omega) (by omega) ob
  have hsx := opStr_at hx
  have hlx : x.natAbs.log2 < 1920 := Nat.lt_of_lt_of_le (PySem.Flt.log2_lt_of (k := 64) (by decide) (show x.natAbs < 2 ^ 64 by omega)) (by decide)
  have hly : y.natAbs.log2 < 1920 := Nat.lt_of_lt_of_le (PySem.Flt.log2_lt_of (k := 64) (by decide) (show y.natAbs < 2 ^ 64 by omega)) (by decide)
  have ex : ((toString x : String) : PySem.Str) = tS x := rfl
  have ey : ((toString y : String) : PySem.Str) = tS y := rfl
  have l1 := (tS_ok hx).2
  have l2 := (tS_ok hy).2
  have l3 : PySem.Str.length ("/" : PySem.Str) = 1 := by decide +kernel
  have z1 : szok (tS x).length = true := decide_eq_true (by omega)
  have z2 : szok (tS x ++ ("/" : PySem.Str)).length = true := decide_eq_true (by rw [str_len]; omega)
  have z3 : szok ((tS x ++ ("/" : PySem.Str)) ++ tS y).length = true := decide_eq_true (by rw [str_len, str_len]; omega)
  unfold F_rational_text b_rational_text bb_rational_text fT
  by_cases h1 : y = 1
  · simp only [mkFn, sCons, sNil, sSet, setOf, sExpr, sRet, retOf, sRetN, sIf, sRaise, sAug, sAsg, toS, gSet, gNil, gCons, gTup, gSub, sPar, storeAll, eC, eVar, eBin, eUn, eTup, eLst, eLstO, eIf, eAnd, eOr, eNot, eIs, isN, aNil, aCons, aoNil, aoCons, own, peek, frz, view, out1, out1_val, out1_tmp, R.bind, R.bindS, tTst, tAndS, tOrS, tNotS, eCall, afterF, sFor, iRng1, iRng2, iSeq, itemsOf, opAdd, opSub, opMul, opDiv, opMod, opPow, opNeg, opIMul, opIAdd, opLt, opLe, opGt, opGe, opEq_int, opNe_int, opLen, opAbs, opInt, opList, opTuple, opIx, eApp, isL, wr, List.map_cons, List.map_nil, List.length_cons, List.length_nil, List.replicate_succ, List.replicate_zero, List.cons_append, List.nil_append, List.append_nil, List.getElem?_cons_zero, List.getElem?_cons_succ, List.set_cons_zero, List.set_cons_succ, if_true, if_false, ite_true, ite_false, reduceIte, Bool.false_eq_true, Option.map_some, eUnl, eTupL, eDGet, opMax2, opMin2, opIDiv, opIMod, sParT, storeT, eChn, opLenD, opStr, zk1, zk2, zk3, zk4, zk5, zk6, zk7, zk8, zk0, Nat.reduceAdd, Nat.reduceSub, hc, ix0, ix1, decide_eq_true h1, if_pos h1, if_pos hlx, ex]
  · simp only [mkFn, sCons, sNil, sSet, setOf, sExpr, sRet, retOf, sRetN, sIf, sRaise, sAug, sAsg, toS, gSet, gNil, gCons, gTup, gSub, sPar, storeAll, eC, eVar, eBin, eUn, eTup, eLst, eLstO, eIf, eAnd, eOr, eNot, eIs, isN, aNil, aCons, aoNil, aoCons, own, peek, frz, view, out1, out1_val, out1_tmp, R.bind, R.bindS, tTst, tAndS, tOrS, tNotS, eCall, afterF, sFor, iRng1, iRng2, iSeq, itemsOf, opAdd, opSub, opMul, opDiv, opMod, opPow, opNeg, opIMul, opIAdd, opLt, opLe, opGt, opGe, opEq_int, opNe_int, opLen, opAbs, opInt, opList, opTuple, opIx, eApp, isL, wr, List.map_cons, List.map_nil, List.length_cons, List.length_nil, List.replicate_succ, List.replicate_zero, List.cons_append, List.nil_append, List.append_nil, List.getElem?_cons_zero, List.getElem?_cons_succ, List.set_cons_zero, List.set_cons_succ, if_true, if_false, ite_true, ite_false, reduceIte, Bool.false_eq_true, Option.map_some, eUnl, eTupL, eDGet, opMax2, opMin2, opIDiv, opIMod, sParT, storeT, eChn, opLenD, opStr, zk1, zk2, zk3, zk4, zk5, zk6, zk7, zk8, zk0, Nat.reduceAdd, Nat.reduceSub, hc, ix0, ix1, decide_eq_false h1, if_neg h1, eJs, eFmt, if_pos hlx, if_pos hly, ex, ey, str_nil, z1, z2, z3]
/-! ### powers of a fraction -/
def pw (a : Int × Int) : Nat → Int × Int
  | 0 => (1, 1)
  | k + 1 => fr ((pw a k).1 * a.1) ((pw a k).2 * a.2)
theorem pw_b {a : Int × Int} (h : Fr a) : ∀ k : Nat, (pw a k).1.natAbs ≤ 50 ^ k ∧ 1 ≤ (pw a k).2 ∧ (pw a k).2.natAbs ≤ 50 ^ k
  | 0 => ⟨Nat.le_refl _, Int.le_refl 1, Nat.le_refl _⟩
  | k + 1 => by
    obtain ⟨h1, h2, h3⟩ := pw_b h k
    have hl := h.l
    have hl2 := h.l2
    obtain ⟨f1, f2⟩ := fr_le (a := (pw a k).1 * a.1) (b := (pw a k).2 * a.2)
    have m1 := mul_b h1 h.u
    have m2 := mul_b h3 (show a.2.natAbs ≤ 50 by omega)
    refine ⟨?_, fr_pos (Int.mul_ne_zero (by omega) (by omega)), ?_⟩
    · rw [Nat.pow_succ]; exact Nat.le_trans f1 m1
    · rw [Nat.pow_succ]; exact Nat.le_trans f2 m2
theorem pw_c {a : Int × Int} (h : Fr a) {k : Nat} (hk : k ≤ 4) : (pw a k).1.natAbs ≤ 6250000 ∧ 1 ≤ (pw a k).2 ∧ (pw a k).2.natAbs ≤ 6250000 := by
  obtain ⟨h1, h2, h3⟩ := pw_b h k
  have : 50 ^ k ≤ 50 ^ 4 := Nat.pow_le_pow_right (by decide) hk
  exact ⟨by omega, h2, by omega⟩
theorem pw_step {a : Int × Int} (h : Fr a) {k : Nat} (hk : k ≤ 4) (ob : List OV) : F_product_of [pT (pw a k), pT a] ob = .ok false (pT (pw a (k + 1))) ob ∧ F__law_times [pT (pw a k), pT a] ob = .ok false (pT (pw a (k + 1))) ob := by
  obtain ⟨h1, h2, h3⟩ := pw_c h hk
  have hu := h.u
  have hl := h.l
  have hl2 := h.l2
  exact pro_eq (by omega) (by omega) (by omega) (by omega) (by omega) (by omega) ob
theorem raised_run {a : Int × Int} (h : Fr a) {t : Option (Bool × T)} (ob : List OV) : ∀ (k j : Nat) (lo : Int) (z : Option (Bool × T)), j + k ≤ 4 →
    ∃ z', forL (gSet 3) (sCons (sSet 2 (eCall F_product_of (aCons (eVar 2) (aCons (eVar 0) aNil)))) (sExpr (eCall F_check_short (aCons (eVar 2) aNil)))) (rngT lo k) ⟨[some (false, pT a), t, some (false, pT (pw a j)), z], ob⟩ = .nxt ⟨[some (false, pT a), t, some (false, pT (pw a (j + k))), z'], ob⟩
  | 0, j, lo, z, _ => ⟨z, rfl⟩
  | k + 1, j, lo, z, hk => by
    obtain ⟨z', e⟩ := raised_run h (t := t) ob k (j + 1) (lo + 1) (sI lo) (by omega)
    have hs := (pw_step h (k := j) (by omega) ob).1
    obtain ⟨h1, h2, h3⟩ := pw_c h (k := j + 1) (by omega)
    have hc : F_check_short [pT (pw a (j + 1))] ob = .ok false .non ob := check_ok (by omega) (by omega) ob
    refine ⟨z', ?_⟩
    rw [rngT_succ, forL_cons_nxt (s1 := ⟨[some (false, pT a), t, some (false, pT (pw a j)), sI lo], ob⟩) (s2 := ⟨[some (false, pT a), t, some (false, pT (pw a (j + 1))), sI lo], ob⟩) (by simp only [mkFn, sCons, sNil, sSet, setOf, sExpr, sRet, retOf, sRetN, sIf, sRaise, sAug, sAsg, toS, gSet, gNil, gCons, gTup, gSub, sPar, storeAll, eC, eVar, eBin, eUn, eTup, eLst, eLstO, eIf, eAnd, eOr, eNot, eIs, isN, aNil, aCons, aoNil, aoCons, own, peek, frz, view, out1, out1_val, out1_tmp, R.bind, R.bindS, tTst, tAndS, tOrS, tNotS, eCall, afterF, sFor, iRng1, iRng2, iSeq, itemsOf, opAdd, opSub, opMul, opDiv, opMod, opPow, opNeg, opIMul, opIAdd, opLt, opLe, opGt, opGe, opEq_int, opNe_int, opLen, opAbs, opInt, opList, opTuple, opIx, eApp, isL, wr, List.map_cons, List.map_nil, List.length_cons, List.length_nil, List.replicate_succ, List.replicate_zero, List.cons_append, List.nil_append, List.append_nil, List.getElem?_cons_zero, List.getElem?_cons_succ, List.set_cons_zero, List.set_cons_succ, if_true, if_false, ite_true, ite_false, reduceIte, Bool.false_eq_true, Option.map_some, eUnl, eTupL, eDGet, opMax2, opMin2, opIDiv, opIMod, sParT, storeT, eChn, opLenD, opStr, zk1, zk2, zk3, zk4, zk5, zk6, zk7, zk8, zk0, Nat.reduceAdd, Nat.reduceSub]) (by simp only [mkFn, sCons, sNil, sSet, setOf, sExpr, sRet, retOf, sRetN, sIf, sRaise, sAug, sAsg, toS, gSet, gNil, gCons, gTup, gSub, sPar, storeAll, eC, eVar, eBin, eUn, eTup, eLst, eLstO, eIf, eAnd, eOr, eNot, eIs, isN, aNil, aCons, aoNil, aoCons, own, peek, frz, view, out1, out1_val, out1_tmp, R.bind, R.bindS, tTst, tAndS, tOrS, tNotS, eCall, afterF, sFor, iRng1, iRng2, iSeq, itemsOf, opAdd, opSub, opMul, opDiv, opMod, opPow, opNeg, opIMul, opIAdd, opLt, opLe, opGt, opGe, opEq_int, opNe_int, opLen, opAbs, opInt, opList, opTuple, opIx, eApp, isL, wr, List.map_cons, List.map_nil, List.length_cons, List.length_nil, List.replicate_succ, List.replicate_zero, List.cons_append, List.nil_append, List.append_nil, List.getElem?_cons_zero, List.getElem?_cons_succ, List.set_cons_zero, List.set_cons_succ, if_true, if_false, ite_true, ite_false, reduceIte, Bool.false_eq_true, Option.map_some, eUnl, eTupL, eDGet, opMax2, opMin2, opIDiv, opIMod, sParT, storeT, eChn, opLenD, opStr, zk1, zk2, zk3, zk4, zk5, zk6, zk7, zk8, zk0, Nat.reduceAdd, Nat.reduceSub, hs, hc]), e, show j + 1 + k = j + (k + 1) by omega]
theorem raised_eq {a : Int × Int} (h : Fr a) {t : Int} (h0 : -4 ≤ t) (h1 : t ≤ 4) (ob : List OV) :
    (0 ≤ t → F_raised [pT a, .int t] ob = .ok false (pT (pw a t.natAbs)) ob) ∧
    (t < 0 → (pw a t.natAbs).1 ≠ 0 → F_raised [pT a, .int t] ob = .ok false (pT (fr (pw a t.natAbs).2 (pw a t.natAbs).1)) ob ∧ F__law_frac [.int (pw a t.natAbs).2, .int (pw a t.natAbs).1] ob = .ok false (pT (fr (pw a t.natAbs).2 (pw a t.natAbs).1)) ob) ∧
    (t < 0 → (pw a t.natAbs).1 = 0 → F_raised [pT a, .int t] ob = .exc "NumberError" ob) := by
  obtain ⟨z', w⟩ := raised_run h (t := sI t) ob t.natAbs 0 0 none (by omega)
  rw [Nat.zero_add] at w
  have e1 : (if t < 0 then -t else t).toNat = t.natAbs := by omega
  have hr : -4611686018427387904 ≤ (if t < 0 then -t else t) ∧ (if t < 0 then -t else t) < 4611686018427387904 := by omega
  have p0 : some (false, T.tup [.int 1, .int 1]) = some (false, pT (pw a 0)) := rfl
  obtain ⟨b1, b2, b3⟩ := pw_c h (k := t.natAbs) (by omega)
  refine ⟨fun ht => ?_, fun ht hn => ?_, fun ht hz => ?_⟩
  · have d : decide (0 ≤ t) = true := decide_eq_true ht
    unfold F_raised b_raised bb_raised
    simp only [mkFn, sCons, sNil, sSet, setOf, sExpr, sRet, retOf, sRetN, sIf, sRaise, sAug, sAsg, toS, gSet, gNil, gCons, gTup, gSub, sPar, storeAll, eC, eVar, eBin, eUn, eTup, eLst, eLstO, eIf, eAnd, eOr, eNot, eIs, isN, aNil, aCons, aoNil, aoCons, own, peek, frz, view, out1, out1_val, out1_tmp, R.bind, R.bindS, tTst, tAndS, tOrS, tNotS, eCall, afterF, sFor, iRng1, iRng2, iSeq, itemsOf, opAdd, opSub, opMul, opDiv, opMod, opPow, opNeg, opIMul, opIAdd, opLt, opLe, opGt, opGe, opEq_int, opNe_int, opLen, opAbs, opInt, opList, opTuple, opIx, eApp, isL, wr, List.map_cons, List.map_nil, List.length_cons, List.length_nil, List.replicate_succ, List.replicate_zero, List.cons_append, List.nil_append, List.append_nil, List.getElem?_cons_zero, List.getElem?_cons_succ, List.set_cons_zero, List.set_cons_succ, if_true, if_false, ite_true, ite_false, reduceIte, Bool.false_eq_true, Option.map_some, eUnl, eTupL, eDGet, opMax2, opMin2, opIDiv, opIMod, sParT, storeT, eChn, opLenD, opStr, zk1, zk2, zk3, zk4, zk5, zk6, zk7, zk8, zk0, Nat.reduceAdd, Nat.reduceSub, if_pos hr, e1, p0, w, d]
  · have d : decide (0 ≤ t) = false := decide_eq_false (by omega)
    obtain ⟨q1, q2⟩ := quo_eq (a0 := 1) (a1 := 1) (b0 := (pw a t.natAbs).1) (b1 := (pw a t.natAbs).2) (by decide) (by decide) (by omega) (by omega) (by decide) hn ob
    rw [Int.one_mul, Int.one_mul] at q1 q2
    refine ⟨?_, q2⟩
    have q1 : F_quotient_of [.tup [.int 1, .int 1], pT (pw a t.natAbs)] ob = _ := q1
    unfold F_raised b_raised bb_raised
    simp only [mkFn, sCons, sNil, sSet, setOf, sExpr, sRet, retOf, sRetN, sIf, sRaise, sAug, sAsg, toS, gSet, gNil, gCons, gTup, gSub, sPar, storeAll, eC, eVar, eBin, eUn, eTup, eLst, eLstO, eIf, eAnd, eOr, eNot, eIs, isN, aNil, aCons, aoNil, aoCons, own, peek, frz, view, out1, out1_val, out1_tmp, R.bind, R.bindS, tTst, tAndS, tOrS, tNotS, eCall, afterF, sFor, iRng1, iRng2, iSeq, itemsOf, opAdd, opSub, opMul, opDiv, opMod, opPow, opNeg, opIMul, opIAdd, opLt, opLe, opGt, opGe, opEq_int, opNe_int, opLen, opAbs, opInt, opList, opTuple, opIx, eApp, isL, wr, List.map_cons, List.map_nil, List.length_cons, List.length_nil, List.replicate_succ, List.replicate_zero, List.cons_append, List.nil_append, List.append_nil, List.getElem?_cons_zero, List.getElem?_cons_succ, List.set_cons_zero, List.set_cons_succ, if_true, if_false, ite_true, ite_false, reduceIte, Bool.false_eq_true, Option.map_some, eUnl, eTupL, eDGet, opMax2, opMin2, opIDiv, opIMod, sParT, storeT, eChn, opLenD, opStr, zk1, zk2, zk3, zk4, zk5, zk6, zk7, zk8, zk0, Nat.reduceAdd, Nat.reduceSub, if_pos hr, e1, p0, w, d, q1]
  · have d : decide (0 ≤ t) = false := decide_eq_false (by omega)
    have q1 := quo_zero (a0 := 1) (a1 := 1) (b1 := (pw a t.natAbs).2) (by decide) (by decide) ob
    rw [← hz] at q1
    have q1 : F_quotient_of [.tup [.int 1, .int 1], pT (pw a t.natAbs)] ob = _ := q1
    unfold F_raised b_raised bb_raised
    simp only [mkFn, sCons, sNil, sSet, setOf, sExpr, sRet, retOf, sRetN, sIf, sRaise, sAug, sAsg, toS, gSet, gNil, gCons, gTup, gSub, sPar, storeAll, eC, eVar, eBin, eUn, eTup, eLst, eLstO, eIf, eAnd, eOr, eNot, eIs, isN, aNil, aCons, aoNil, aoCons, own, peek, frz, view, out1, out1_val, out1_tmp, R.bind, R.bindS, tTst, tAndS, tOrS, tNotS, eCall, afterF, sFor, iRng1, iRng2, iSeq, itemsOf, opAdd, opSub, opMul, opDiv, opMod, opPow, opNeg, opIMul, opIAdd, opLt, opLe, opGt, opGe, opEq_int, opNe_int, opLen, opAbs, opInt, opList, opTuple, opIx, eApp, isL, wr, List.map_cons, List.map_nil, List.length_cons, List.length_nil, List.replicate_succ, List.replicate_zero, List.cons_append, List.nil_append, List.append_nil, List.getElem?_cons_zero, List.getElem?_cons_succ, List.set_cons_zero, List.set_cons_succ, if_true, if_false, ite_true, ite_false, reduceIte, Bool.false_eq_true, Option.map_some, eUnl, eTupL, eDGet, opMax2, opMin2, opIDiv, opIMod, sParT, storeT, eChn, opLenD, opStr, zk1, zk2, zk3, zk4, zk5, zk6, zk7, zk8, zk0, Nat.reduceAdd, Nat.reduceSub, if_pos hr, e1, p0, w, d, q1]
/-! ### long numbers -/
theorem long_eq (p : List OV) : ∀ (k : Nat) (size a b c : Int), 1 ≤ size → size ≤ 10 ^ (6 * (k + 1)) → ∃ r a' b' c' : Int, 0 ≤ r ∧ r < size ∧ F__law_long (k + 1) [.obj p.length, .int size] (p ++ [D3 a b c]) = .ok false (.int r) (p ++ [D3 a' b' c'])
  | k, size, a, b, c, h0, h1 => by
    have hp : (0 : Int) ≤ 6 ∧ (6 : Int) ≤ 1000000 ∧ (10 : Int).natAbs < 18446744073709551616 := by decide
    have e6 : (10 : Int) ^ (6 : Int).toNat = 1000000 := by decide
    by_cases hs : size ≤ 1000000
    · obtain ⟨r, a', b', c', r0, r1, e⟩ := roll p size a b c (by omega) hs
      refine ⟨r, a', b', c', r0, r1, ?_⟩
      unfold F__law_long b__law_long
      simp only [mkFn, sCons, sNil, sSet, setOf, sExpr, sRet, retOf, sRetN, sIf, sRaise, sAug, sAsg, toS, gSet, gNil, gCons, gTup, gSub, sPar, storeAll, eC, eVar, eBin, eUn, eTup, eLst, eLstO, eIf, eAnd, eOr, eNot, eIs, isN, aNil, aCons, aoNil, aoCons, own, peek, frz, view, out1, out1_val, out1_tmp, R.bind, R.bindS, tTst, tAndS, tOrS, tNotS, eCall, afterF, sFor, iRng1, iRng2, iSeq, itemsOf, opAdd, opSub, opMul, opDiv, opMod, opPow, opNeg, opIMul, opIAdd, opLt, opLe, opGt, opGe, opEq_int, opNe_int, opLen, opAbs, opInt, opList, opTuple, opIx, eApp, isL, wr, List.map_cons, List.map_nil, List.length_cons, List.length_nil, List.replicate_succ, List.replicate_zero, List.cons_append, List.nil_append, List.append_nil, List.getElem?_cons_zero, List.getElem?_cons_succ, List.set_cons_zero, List.set_cons_succ, if_true, if_false, ite_true, ite_false, reduceIte, Bool.false_eq_true, Option.map_some, eUnl, eTupL, eDGet, opMax2, opMin2, opIDiv, opIMod, sParT, storeT, eChn, opLenD, opStr, zk1, zk2, zk3, zk4, zk5, zk6, zk7, zk8, zk0, Nat.reduceAdd, Nat.reduceSub, if_pos hp, e6, decide_eq_true hs, e]
    · cases k with
      | zero => exact absurd h1 (by show ¬ size ≤ 1000000; exact hs)
      | succ k =>
        have hd : (0 : Int) < 1000000 ∧ (1000000 : Int).natAbs.log2 < 9000 := by decide
        have hk : size / 1000000 ≤ 10 ^ (6 * (k + 1)) := by
          have : (10 : Int) ^ (6 * (k + 1 + 1)) = 10 ^ (6 * (k + 1)) * 1000000 := by rw [Nat.mul_add 6 (k + 1) 1, Int.pow_add]; rfl
          rw [this] at h1
          generalize (10 : Int) ^ (6 * (k + 1)) = z at *
          omega
        obtain ⟨r, a', b', c', r0, r1, e⟩ := long_eq p k (size / 1000000) a b c (by omega) hk
        obtain ⟨r2, a2, b2, c2, r3, r4, e2⟩ := roll p 1000000 a' b' c' (by decide) (by decide)
        have hm : mulOk r 1000000 = true := mulOk_r (by decide)
        refine ⟨r * 1000000 + r2, a2, b2, c2, by omega, by omega, ?_⟩
        unfold F__law_long b__law_long
        simp only [mkFn, sCons, sNil, sSet, setOf, sExpr, sRet, retOf, sRetN, sIf, sRaise, sAug, sAsg, toS, gSet, gNil, gCons, gTup, gSub, sPar, storeAll, eC, eVar, eBin, eUn, eTup, eLst, eLstO, eIf, eAnd, eOr, eNot, eIs, isN, aNil, aCons, aoNil, aoCons, own, peek, frz, view, out1, out1_val, out1_tmp, R.bind, R.bindS, tTst, tAndS, tOrS, tNotS, eCall, afterF, sFor, iRng1, iRng2, iSeq, itemsOf, opAdd, opSub, opMul, opDiv, opMod, opPow, opNeg, opIMul, opIAdd, opLt, opLe, opGt, opGe, opEq_int, opNe_int, opLen, opAbs, opInt, opList, opTuple, opIx, eApp, isL, wr, List.map_cons, List.map_nil, List.length_cons, List.length_nil, List.replicate_succ, List.replicate_zero, List.cons_append, List.nil_append, List.append_nil, List.getElem?_cons_zero, List.getElem?_cons_succ, List.set_cons_zero, List.set_cons_succ, if_true, if_false, ite_true, ite_false, reduceIte, Bool.false_eq_true, Option.map_some, eUnl, eTupL, eDGet, opMax2, opMin2, opIDiv, opIMod, sParT, storeT, eChn, opLenD, opStr, zk1, zk2, zk3, zk4, zk5, zk6, zk7, zk8, zk0, Nat.reduceAdd, Nat.reduceSub, if_pos hp, e6, decide_eq_false hs, if_pos hd, e, hm, e2]
end K01

set_option exponentiation.threshold 3000
namespace K01
open Sv
def nd (N b k : Nat) : Bool := Nat.rec true (fun k ih => cond (Nat.beq (Nat.mod N (Nat.add b (Nat.mul 2 k))) 0) false ih) k
def nd2 (N b k : Nat) : Bool := Nat.rec true (fun k ih => cond (nd N (Nat.add b (Nat.mul 2000 k)) 1000) ih false) k
theorem nd_ok {N b : Nat} : ∀ {k : Nat}, nd N b k = true → ∀ j < k, ¬ (b + 2 * j) ∣ N
  | 0, _, j, hj => absurd hj (Nat.not_lt_zero j)
  | k + 1, h, j, hj => by
    have h : cond (Nat.beq (N % (b + 2 * k)) 0) false (nd N b k) = true := h
    cases hc : Nat.beq (N % (b + 2 * k)) 0 with
    | true => rw [hc] at h; exact absurd (show false = true from h) (by decide)
    | false =>
      rw [hc] at h
      by_cases e : j = k
      · subst e
        intro hd
        rw [Nat.mod_eq_zero_of_dvd hd] at hc
        exact absurd hc (by decide)
      · exact nd_ok h j (by omega)
theorem nd2_ok {N b : Nat} : ∀ {k : Nat}, nd2 N b k = true → ∀ j < 1000 * k, ¬ (b + 2 * j) ∣ N
  | 0, _, j, hj => by omega
  | k + 1, h, j, hj => by
    have h : cond (nd N (b + 2000 * k) 1000) (nd2 N b k) false = true := h
    cases hc : nd N (b + 2000 * k) 1000 with
    | false => rw [hc] at h; exact absurd (show false = true from h) (by decide)
    | true =>
      rw [hc] at h
      by_cases e : j < 1000 * k
      · exact nd2_ok h j e
      · have := nd_ok hc (j - 1000 * k) (by omega)
        rwa [show b + 2000 * k + 2 * (j - 1000 * k) = b + 2 * j by omega] at this
theorem no_div {N : Nat} {k : Nat} (h2 : N % 2 = 1) (h : nd2 N 3 k = true) (d : Int) (d1 : 2 ≤ d) (d2 : d < 3 + 2000 * (k : Int)) : ¬ d ∣ (N : Int) := fun hd => by
  have hn : d.natAbs ∣ N := by
    have := Int.natAbs_dvd_natAbs.mpr hd
    rwa [Int.natAbs_natCast] at this
  rcases Nat.mod_two_eq_zero_or_one d.natAbs with e | e
  · have := Nat.mod_eq_zero_of_dvd (Nat.dvd_trans (Nat.dvd_of_mod_eq_zero e) hn)
    omega
  · refine nd2_ok h ((d.natAbs - 3) / 2) (by omega) ?_
    rwa [show 3 + 2 * ((d.natAbs - 3) / 2) = d.natAbs by omega]
theorem n1 : nd2 999999999989 3 500 = true := by decide +kernel
theorem n2 : nd2 1000000000000000000000000000057 3 500 = true := by decide +kernel
theorem n3 : nd2 1000003 3 1 = true := by decide +kernel
theorem n4 : nd2 999983 3 1 = true := by decide +kernel
theorem n5 : nd2 999979 3 1 = true := by decide +kernel
theorem pr1 : Pr 999999999989 := Pr_last (t := 1000000) (by decide) (by decide) (fun d d1 d2 => no_div (by decide) n1 d d1 (by omega)) (by decide)
theorem pr3 : Pr 1000003 := Pr_last (t := 1001) (by decide) (by decide) (fun d d1 d2 => no_div (by decide) n3 d d1 (by omega)) (by decide)
theorem pr4 : Pr 999983 := Pr_last (t := 1001) (by decide) (by decide) (fun d d1 d2 => no_div (by decide) n4 d d1 (by omega)) (by decide)
theorem pr5 : Pr 999979 := Pr_last (t := 1001) (by decide) (by decide) (fun d d1 d2 => no_div (by decide) n5 d d1 (by omega)) (by decide)
theorem pr7 : Pr 7 := Pr_last (t := 3) (by decide) (by decide) (fun d d1 d2 d3 => by
  obtain rfl : d = 2 := by omega
  exact absurd d3 (by decide)) (by decide)
theorem pf_pr {n : Int} (h : Pr n) (h2 : n ≤ 1000000000000) (ob : List OV) : F_prime_factors [.int n] ob = .ok false (.tupl [.tup [.int n, .int 1]]) ob := by
  have h1 := h.1
  obtain ⟨rows, hf, e⟩ := pf_eq (N := n) (by omega) h2 ob
  have := hf.pr (by omega)
  rw [isPr_t.mpr h] at this
  rw [of_decide_eq_true this] at e
  exact e
theorem Pr.eq {p q : Int} (hq : Pr q) (hp : 2 ≤ p) (h : p ∣ q) : p = q := Classical.byContradiction fun z => hq.2 p hp (by
  have := le_of_dvd (by have := hq.1; omega) h
  omega) h
theorem Fac.two {p q : Int} (hp : Pr p) (hq : Pr q) (hpq : p < q) {rows : List (Int × Int)} (h : Fac (p * q) rows) : rows = [(p, 1), (q, 1)] := by
  have hp1 := hp.1
  have hq1 := hq.1
  have hin : ∀ r ∈ rows, r.1 = p ∨ r.1 = q := fun r hr => by
    have hrp := (h.each r hr).1
    rcases hrp.mul (h.dvd hr) with k | k
    · exact .inl (hp.eq hrp.1 k)
    · exact .inr (hq.eq hrp.1 k)
  have hpd : p ∣ prd rows := by rw [h.prod]; exact ⟨q, rfl⟩
  have hqd : q ∣ prd rows := by rw [h.prod]; exact ⟨p, Int.mul_comm _ _⟩
  have has : ∀ x, Pr x → ∀ l : List (Int × Int), x ∣ prd l → ∃ r ∈ l, x ∣ r.1 := fun x hx l => by
    induction l with
    | nil =>
      intro hd
      have hd : x ∣ 1 := hd
      have := le_of_dvd (by decide) hd
      have := hx.1
      omega
    | cons r l ih =>
      intro hd
      rcases hx.mul (show x ∣ r.1 ^ r.2.toNat * prd l from hd) with k | k
      · exact ⟨r, List.mem_cons_self, hx.pow k⟩
      · obtain ⟨s, hs, hk⟩ := ih k
        exact ⟨s, List.mem_cons_of_mem _ hs, hk⟩
  obtain ⟨r1, m1, d1⟩ := has p hp rows hpd
  obtain ⟨r2, m2, d2⟩ := has q hq rows hqd
  have er1 : p = r1.1 := (h.each r1 m1).1.eq hp1 d1
  have er2 : q = r2.1 := (h.each r2 m2).1.eq hq1 d2
  have hs := h.srt
  match rows, h, hin, hs, m1, m2 with
  | [], _, _, _, m1, _ => exact absurd m1 List.not_mem_nil
  | [x], _, _, _, m1, m2 =>
    obtain rfl := List.mem_singleton.mp m1
    obtain rfl := List.mem_singleton.mp m2
    omega
  | x :: y :: z :: l, _, hin, hs, _, _ =>
    have hx := hin x List.mem_cons_self
    have hy := hin y (List.mem_cons_of_mem _ List.mem_cons_self)
    have hz := hin z (List.mem_cons_of_mem _ (List.mem_cons_of_mem _ List.mem_cons_self))
    rw [List.pairwise_cons] at hs
    have a1 := hs.1 y List.mem_cons_self
    have a2 := (List.pairwise_cons.mp hs.2).1 z List.mem_cons_self
    omega
  | [x, y], h, hin, hs, _, _ =>
    have hx := hin x List.mem_cons_self
    have hy := hin y (List.mem_cons_of_mem _ List.mem_cons_self)
    have a1 := (List.pairwise_cons.mp hs).1 y List.mem_cons_self
    obtain ⟨x1, x2⟩ := x
    obtain ⟨y1, y2⟩ := y
    simp only at hx hy a1
    obtain rfl : x1 = p := by omega
    obtain rfl : y1 = q := by omega
    have hx2 : 1 ≤ x2 := (h.each (x1, x2) List.mem_cons_self).2
    have hy2 : 1 ≤ y2 := (h.each (y1, y2) (List.mem_cons_of_mem _ List.mem_cons_self)).2
    have hpr : x1 ^ x2.toNat * (y1 ^ y2.toNat * 1) = x1 * y1 := h.prod
    rw [Int.mul_one, show x2.toNat = (x2.toNat - 1) + 1 by omega, show y2.toNat = (y2.toNat - 1) + 1 by omega, Int.pow_succ, Int.pow_succ] at hpr
    have ha := le_pow (show 1 ≤ x1 by omega) (x2.toNat - 1)
    have hb := le_pow (show 1 ≤ y1 by omega) (y2.toNat - 1)
    have hpos : 0 < x1 * y1 := Int.mul_pos (by omega) (by omega)
    have hA : x1 ^ (x2.toNat - 1) * y1 ^ (y2.toNat - 1) = 1 := by
      have : x1 ^ (x2.toNat - 1) * y1 ^ (y2.toNat - 1) * (x1 * y1) = 1 * (x1 * y1) := by
        rw [Int.one_mul]
        refine Eq.trans ?_ hpr
        simp only [Int.mul_assoc, Int.mul_left_comm, Int.mul_comm]
      exact Int.eq_of_mul_eq_mul_right (by omega) this
    have hx3 : x2 = 1 := Classical.byContradiction fun z => by
      have c1 := le_pow1 (show 1 ≤ x1 by omega) (k := x2.toNat - 1) (by omega)
      have := Int.mul_le_mul_of_nonneg_left hb (show 0 ≤ x1 ^ (x2.toNat - 1) by omega)
      omega
    have hy3 : y2 = 1 := Classical.byContradiction fun z => by
      have c1 := le_pow1 (show 1 ≤ y1 by omega) (k := y2.toNat - 1) (by omega)
      have := Int.mul_le_mul_of_nonneg_right ha (show 0 ≤ y1 ^ (y2.toNat - 1) by omega)
      omega
    rw [hx3, hy3]
theorem pf_two (ob : List OV) : F_prime_factors [.int 999985999949] ob = .ok false (.tupl [.tup [.int 999983, .int 1], .tup [.int 1000003, .int 1]]) ob := by
  obtain ⟨rows, hf, e⟩ := pf_eq (N := 999985999949) (by decide) (by decide) ob
  rw [show (999985999949 : Int) = 999983 * 1000003 by decide] at hf
  rw [hf.two pr4 pr3 (by decide)] at e
  exact e
abbrev NL : Int := 1000000000000000000000000000057
theorem NL1 : (1 : Int) ≤ NL := by decide
theorem NL2 : NL.natAbs < 2 ^ 190 := by decide
theorem NL3 : ∀ d : Int, 2 ≤ d → d ≤ 1000001 → ¬ d ∣ NL := fun d d1 d2 => no_div (N := 1000000000000000000000000000057) (by decide) n2 d d1 (by omega)
theorem NL4 : decide (NL = 0) = false := by decide
theorem NL5 : (if NL < 0 then -NL else NL) = NL := if_neg (by decide)
theorem NL6 : decide ((1 : Int) < NL) = true := by decide
theorem NL7 : decide ((1000000 : Int) * 1000000 < NL) = true := by decide
theorem NL8 {t : Int} (h : 2 ≤ t) (h2 : t ≤ 1000001) : ¬ NL < t * t := fun z => by
  have := Int.mul_le_mul h2 h2 (by omega) (by omega)
  have : t * t ≤ 1000001 * 1000001 := this
  have : NL < 1000001 * 1000001 := by omega
  exact absurd this (by decide)
theorem big_raise {N : Int} (a1 : (1 : Int) ≤ N) (a2 : N.natAbs < 2 ^ 190) (a3 : ∀ d : Int, 2 ≤ d → d ≤ 1000001 → ¬ d ∣ N) (e0 : decide (N = 0) = false) (ea : (if N < 0 then -N else N) = N) (e1 : decide ((1 : Int) < N) = true) (e2 : decide ((1000000 : Int) * 1000000 < N) = true) (ob : List OV) : F_prime_factors [.int N] ob = .exc "NumberError" ob := by
  obtain ⟨n, t, rows, z, h, he, w⟩ := pf_out a1 a2 ob
  unfold pfT pfB pfS at w
  have hr : rows = [] := by
    cases rows with
    | nil => rfl
    | cons p r =>
      obtain ⟨p1, p2, p3⟩ := h.each p List.mem_cons_self
      have ht2 := h.ht2
      refine absurd ?_ (a3 p.1 p1.1 (by omega))
      rw [← h.prod]
      exact Int.dvd_trans (Int.dvd_trans (dvd_pow1 p.1 p2) (dvd_prd List.mem_cons_self)) ⟨n, rfl⟩
  subst hr
  obtain rfl : n = N := by
    have h1 : 1 * n = N := h.prod
    omega
  have m1 : mulOk 1000000 1000000 = true := mulOk_l (by decide)
  unfold F_prime_factors b_prime_factors
  rw [List.map_nil] at w
  simp only [mkFn, sCons, sNil, sSet, setOf, sExpr, sRet, retOf, sRetN, sIf, sRaise, sAug, sAsg, toS, gSet, gNil, gCons, gTup, gSub, sPar, storeAll, eC, eVar, eBin, eUn, eTup, eLst, eLstO, eIf, eAnd, eOr, eNot, eIs, isN, aNil, aCons, aoNil, aoCons, own, peek, frz, view, out1, out1_val, out1_tmp, R.bind, R.bindS, tTst, tAndS, tOrS, tNotS, eCall, afterF, sFor, iRng1, iRng2, iSeq, itemsOf, opAdd, opSub, opMul, opDiv, opMod, opPow, opNeg, opIMul, opIAdd, opLt, opLe, opGt, opGe, opEq_int, opNe_int, opLen, opAbs, opInt, opList, opTuple, opIx, eApp, isL, wr, List.map_cons, List.map_nil, List.length_cons, List.length_nil, List.replicate_succ, List.replicate_zero, List.cons_append, List.nil_append, List.append_nil, List.getElem?_cons_zero, List.getElem?_cons_succ, List.set_cons_zero, List.set_cons_succ, if_true, if_false, ite_true, ite_false, reduceIte, Bool.false_eq_true, Option.map_some, eUnl, eTupL, eDGet, opMax2, opMin2, opIDiv, opIMod, sParT, storeT, eChn, opLenD, opStr, zk1, zk2, zk3, zk4, zk5, zk6, zk7, zk8, zk0, Nat.reduceAdd, Nat.reduceSub, e0, ea, w, e1, m1, e2]
theorem pf_large (ob : List OV) : F_prime_factors [.int NL] ob = .exc "NumberError" ob := big_raise NL1 NL2 NL3 NL4 NL5 NL6 NL7 ob
end K01

set_option exponentiation.threshold 3000
namespace K01
open Sv
def lgD : S → R Res := (eDisp (pCons (eC (.int 999999999989)) (eTup (aCons (eTup (aCons (eC (.int 999999999989)) (aCons (eC (.int 1)) aNil))) aNil)) (pCons (eBin opMul (eC (.int 999983)) (eC (.int 1000003))) (eTup (aCons (eTup (aCons (eC (.int 999983)) (aCons (eC (.int 1)) aNil))) (aCons (eTup (aCons (eC (.int 1000003)) (aCons (eC (.int 1)) aNil))) aNil))) (pCons (eBin opAdd (eBin opPow (eC (.int 10)) (eC (.int 30))) (eC (.int 57))) (eC (.str "NumberError")) (pCons (eC (.int 999979)) (eTup (aCons (eTup (aCons (eC (.int 999979)) (aCons (eC (.int 1)) aNil))) aNil)) (pCons (eC (.int 7)) (eTup (aCons (eTup (aCons (eC (.int 7)) (aCons (eC (.int 1)) aNil))) aNil)) pNil))))))
def kvL : List (L2.Key × T) := [(.inl 999999999989, .tup [.tup [.int 999999999989, .int 1]]), (.inl 999985999949, .tup [.tup [.int 999983, .int 1], .tup [.int 1000003, .int 1]]), (.inl NL, .str "NumberError"), (.inl 999979, .tup [.tup [.int 999979, .int 1]]), (.inl 7, .tup [.tup [.int 7, .int 1]])]
def kvK : List T := kvL.map fun p => kT p.1
def kvV : List T := kvL.map (·.2)
theorem disp_at (s : S) : lgD s = .ok (.val (.dct kvK kvV)) s := by rfl
theorem get1 : getT kvK kvV (.inl 999999999989) = some (.tup [.tup [.int 999999999989, .int 1]]) := by rfl
theorem get2 : getT kvK kvV (.inl 999985999949) = some (.tup [.tup [.int 999983, .int 1], .tup [.int 1000003, .int 1]]) := by rfl
theorem get3 : getT kvK kvV (.inl NL) = some (.str "NumberError") := by rfl
theorem get4 : getT kvK kvV (.inl 999979) = some (.tup [.tup [.int 999979, .int 1]]) := by rfl
theorem get5 : getT kvK kvV (.inl 7) = some (.tup [.tup [.int 7, .int 1]]) := by rfl
def lgE : S → RS := sCons (sSet 3 lgD) (sIf (tTst (eBin opNe (eTold "NumberError" (eUnl (eCall F_prime_factors (aCons (eVar 2) aNil)))) (eDGet (eVar 3) (eVar 2)))) (sRet (eC (.bl false))) sNil)
theorem ne1 (n : Int) : opNe (.tup [.tup [.int n, .int 1]]) (.tup [.tup [.int n, .int 1]]) = some (false, .bl false) := by
  have := opNe_tp [(n, 1)] [(n, 1)]
  rw [decide_eq_true rfl] at this
  exact this
theorem ne2 (n m : Int) : opNe (.tup [.tup [.int n, .int 1], .tup [.int m, .int 1]]) (.tup [.tup [.int n, .int 1], .tup [.int m, .int 1]]) = some (false, .bl false) := by
  have := opNe_tp [(n, 1), (m, 1)] [(n, 1), (m, 1)]
  rw [decide_eq_true rfl] at this
  exact this
theorem neE : opNe (.str "NumberError") (.str "NumberError") = some (false, .bl false) := opNe_str (by decide +kernel)
section
variable {X0 X1 X3 : Option (Bool × T)} {ob : List OV}
theorem lg_one {n : Int} (e : ∀ ob, F_prime_factors [.int n] ob = .ok false (.tupl [.tup [.int n, .int 1]]) ob) (g : getT kvK kvV (.inl n) = some (.tup [.tup [.int n, .int 1]])) : ∃ s', lgE ⟨[X0, X1, sI n, X3], ob⟩ = .nxt s' := by
  unfold lgE
  simp only [mkFn, sCons, sNil, sSet, setOf, sExpr, sRet, retOf, sRetN, sIf, sRaise, sAug, sAsg, toS, gSet, gNil, gCons, gTup, gSub, sPar, storeAll, eC, eVar, eBin, eUn, eTup, eLst, eLstO, eIf, eAnd, eOr, eNot, eIs, isN, aNil, aCons, aoNil, aoCons, own, peek, frz, view, out1, out1_val, out1_tmp, R.bind, R.bindS, tTst, tAndS, tOrS, tNotS, eCall, afterF, sFor, iRng1, iRng2, iSeq, itemsOf, opAdd, opSub, opMul, opDiv, opMod, opPow, opNeg, opIMul, opIAdd, opLt, opLe, opGt, opGe, opEq_int, opNe_int, opLen, opAbs, opInt, opList, opTuple, opIx, eApp, isL, wr, List.map_cons, List.map_nil, List.length_cons, List.length_nil, List.replicate_succ, List.replicate_zero, List.cons_append, List.nil_append, List.append_nil, List.getElem?_cons_zero, List.getElem?_cons_succ, List.set_cons_zero, List.set_cons_succ, if_true, if_false, ite_true, ite_false, reduceIte, Bool.false_eq_true, Option.map_some, eUnl, eTupL, eDGet, opMax2, opMin2, opIDiv, opIMod, sParT, storeT, eChn, opLenD, opStr, zk1, zk2, zk3, zk4, zk5, zk6, zk7, zk8, zk0, Nat.reduceAdd, Nat.reduceSub, disp_at, eTold, e, g, Option.bind_some, kOf, ne1]
  exact ⟨_, rfl⟩
theorem lg_two {n a b : Int} (e : ∀ ob, F_prime_factors [.int n] ob = .ok false (.tupl [.tup [.int a, .int 1], .tup [.int b, .int 1]]) ob) (g : getT kvK kvV (.inl n) = some (.tup [.tup [.int a, .int 1], .tup [.int b, .int 1]])) : ∃ s', lgE ⟨[X0, X1, sI n, X3], ob⟩ = .nxt s' := by
  unfold lgE
  simp only [mkFn, sCons, sNil, sSet, setOf, sExpr, sRet, retOf, sRetN, sIf, sRaise, sAug, sAsg, toS, gSet, gNil, gCons, gTup, gSub, sPar, storeAll, eC, eVar, eBin, eUn, eTup, eLst, eLstO, eIf, eAnd, eOr, eNot, eIs, isN, aNil, aCons, aoNil, aoCons, own, peek, frz, view, out1, out1_val, out1_tmp, R.bind, R.bindS, tTst, tAndS, tOrS, tNotS, eCall, afterF, sFor, iRng1, iRng2, iSeq, itemsOf, opAdd, opSub, opMul, opDiv, opMod, opPow, opNeg, opIMul, opIAdd, opLt, opLe, opGt, opGe, opEq_int, opNe_int, opLen, opAbs, opInt, opList, opTuple, opIx, eApp, isL, wr, List.map_cons, List.map_nil, List.length_cons, List.length_nil, List.replicate_succ, List.replicate_zero, List.cons_append, List.nil_append, List.append_nil, List.getElem?_cons_zero, List.getElem?_cons_succ, List.set_cons_zero, List.set_cons_succ, if_true, if_false, ite_true, ite_false, reduceIte, Bool.false_eq_true, Option.map_some, eUnl, eTupL, eDGet, opMax2, opMin2, opIDiv, opIMod, sParT, storeT, eChn, opLenD, opStr, zk1, zk2, zk3, zk4, zk5, zk6, zk7, zk8, zk0, Nat.reduceAdd, Nat.reduceSub, disp_at, eTold, e, g, Option.bind_some, kOf, ne2]
  exact ⟨_, rfl⟩
theorem lg_big {N : Int} (e : ∀ ob, F_prime_factors [.int N] ob = .exc "NumberError" ob) (g : getT kvK kvV (.inl N) = some (.str "NumberError")) : ∃ s', lgE ⟨[X0, X1, sI N, X3], ob⟩ = .nxt s' := by
  unfold lgE
  simp only [mkFn, sCons, sNil, sSet, setOf, sExpr, sRet, retOf, sRetN, sIf, sRaise, sAug, sAsg, toS, gSet, gNil, gCons, gTup, gSub, sPar, storeAll, eC, eVar, eBin, eUn, eTup, eLst, eLstO, eIf, eAnd, eOr, eNot, eIs, isN, aNil, aCons, aoNil, aoCons, own, peek, frz, view, out1, out1_val, out1_tmp, R.bind, R.bindS, tTst, tAndS, tOrS, tNotS, eCall, afterF, sFor, iRng1, iRng2, iSeq, itemsOf, opAdd, opSub, opMul, opDiv, opMod, opPow, opNeg, opIMul, opIAdd, opLt, opLe, opGt, opGe, opEq_int, opNe_int, opLen, opAbs, opInt, opList, opTuple, opIx, eApp, isL, wr, List.map_cons, List.map_nil, List.length_cons, List.length_nil, List.replicate_succ, List.replicate_zero, List.cons_append, List.nil_append, List.append_nil, List.getElem?_cons_zero, List.getElem?_cons_succ, List.set_cons_zero, List.set_cons_succ, if_true, if_false, ite_true, ite_false, reduceIte, Bool.false_eq_true, Option.map_some, eUnl, eTupL, eDGet, opMax2, opMin2, opIDiv, opIMod, sParT, storeT, eChn, opLenD, opStr, zk1, zk2, zk3, zk4, zk5, zk6, zk7, zk8, zk0, Nat.reduceAdd, Nat.reduceSub, disp_at, eTold, e, g, Option.bind_some, kOf, neE]
  exact ⟨_, rfl⟩
end
def lgS : S → RS := (sSet 2 (eIf (tTst (eBin opEq (eCall (F__law_roll 1) (aCons (eVar 1) (aCons (eC (.int 9)) aNil))) (eC (.int 0)))) (eBin opIx (eLst (aCons (eC (.int 999999999989)) (aCons (eBin opMul (eC (.int 999983)) (eC (.int 1000003))) (aCons (eBin opAdd (eBin opPow (eC (.int 10)) (eC (.int 30))) (eC (.int 57))) (aCons (eC (.int 999979)) aNil))))) (eCall (F__law_roll 1) (aCons (eVar 1) (aCons (eC (.int 4)) aNil)))) (eC (.int 7))))
def lgL : S → R Res := (eLst (aCons (eC (.int 999999999989)) (aCons (eBin opMul (eC (.int 999983)) (eC (.int 1000003))) (aCons (eBin opAdd (eBin opPow (eC (.int 10)) (eC (.int 30))) (eC (.int 57))) (aCons (eC (.int 999979)) aNil)))))
theorem lgL_at (s : S) : lgL s = .ok (.tmp (.lst [.int 999999999989, .int 999985999949, .int NL, .int 999979])) s := by rfl
theorem ixl0 (a b c d : T) : opIx (.lst [a, b, c, d]) (.int 0) = some (false, a) := rfl
theorem ixl1 (a b c d : T) : opIx (.lst [a, b, c, d]) (.int 1) = some (false, b) := rfl
theorem ixl2 (a b c d : T) : opIx (.lst [a, b, c, d]) (.int 2) = some (false, c) := rfl
theorem ixl3 (a b c d : T) : opIx (.lst [a, b, c, d]) (.int 3) = some (false, d) := rfl
theorem large_at (ns : List Int) (p : List OV) : ∃ ob', F__law_large [.scr ns] p = .ok false (.bl true) ob' := by
  obtain ⟨a, b, c, hr⟩ := rounds_at ns p
  obtain ⟨r, a1, b1, c1, r0, r1, e9⟩ := roll p 9 a b c (by decide) (by decide)
  obtain ⟨q, a2, b2, c2, q0, q1, e4⟩ := roll p 4 a1 b1 c1 (by decide) (by decide)
  have key : ∃ (ob' : List OV) (n : Int) , (n = 999999999989 ∨ n = 999985999949 ∨ n = NL ∨ n = 999979 ∨ n = 7) ∧ lgS ⟨[some (false, .scr ns), some (false, .obj p.length), none, none], p ++ [D3 a b c]⟩ = .nxt ⟨[some (false, .scr ns), some (false, .obj p.length), sI n, none], ob'⟩ := by
    unfold lgS
    rw [show (eLst (aCons (eC (.int 999999999989)) (aCons (eBin opMul (eC (.int 999983)) (eC (.int 1000003))) (aCons (eBin opAdd (eBin opPow (eC (.int 10)) (eC (.int 30))) (eC (.int 57))) (aCons (eC (.int 999979)) aNil))))) = lgL from rfl]
    by_cases h : r = 0
    · subst h
      have hq : q = 0 ∨ q = 1 ∨ q = 2 ∨ q = 3 := by omega
      rcases hq with rfl | rfl | rfl | rfl
      · refine ⟨p ++ [D3 a2 b2 c2], 999999999989, .inl rfl, ?_⟩
        simp only [mkFn, sCons, sNil, sSet, setOf, sExpr, sRet, retOf, sRetN, sIf, sRaise, sAug, sAsg, toS, gSet, gNil, gCons, gTup, gSub, sPar, storeAll, eC, eVar, eBin, eUn, eTup, eLst, eLstO, eIf, eAnd, eOr, eNot, eIs, isN, aNil, aCons, aoNil, aoCons, own, peek, frz, view, out1, out1_val, out1_tmp, R.bind, R.bindS, tTst, tAndS, tOrS, tNotS, eCall, afterF, sFor, iRng1, iRng2, iSeq, itemsOf, opAdd, opSub, opMul, opDiv, opMod, opPow, opNeg, opIMul, opIAdd, opLt, opLe, opGt, opGe, opEq_int, opNe_int, opLen, opAbs, opInt, opList, opTuple, eApp, isL, wr, List.map_cons, List.map_nil, List.length_cons, List.length_nil, List.replicate_succ, List.replicate_zero, List.cons_append, List.nil_append, List.append_nil, List.getElem?_cons_zero, List.getElem?_cons_succ, List.set_cons_zero, List.set_cons_succ, if_true, if_false, ite_true, ite_false, reduceIte, Bool.false_eq_true, Option.map_some, eUnl, eTupL, eDGet, opMax2, opMin2, opIDiv, opIMod, sParT, storeT, eChn, opLenD, opStr, zk1, zk2, zk3, zk4, zk5, zk6, zk7, zk8, zk0, Nat.reduceAdd, Nat.reduceSub, lgL_at, e9, e4, decide_true, ixl0]
      · refine ⟨p ++ [D3 a2 b2 c2], 999985999949, .inr (.inl rfl), ?_⟩
        simp only [mkFn, sCons, sNil, sSet, setOf, sExpr, sRet, retOf, sRetN, sIf, sRaise, sAug, sAsg, toS, gSet, gNil, gCons, gTup, gSub, sPar, storeAll, eC, eVar, eBin, eUn, eTup, eLst, eLstO, eIf, eAnd, eOr, eNot, eIs, isN, aNil, aCons, aoNil, aoCons, own, peek, frz, view, out1, out1_val, out1_tmp, R.bind, R.bindS, tTst, tAndS, tOrS, tNotS, eCall, afterF, sFor, iRng1, iRng2, iSeq, itemsOf, opAdd, opSub, opMul, opDiv, opMod, opPow, opNeg, opIMul, opIAdd, opLt, opLe, opGt, opGe, opEq_int, opNe_int, opLen, opAbs, opInt, opList, opTuple, eApp, isL, wr, List.map_cons, List.map_nil, List.length_cons, List.length_nil, List.replicate_succ, List.replicate_zero, List.cons_append, List.nil_append, List.append_nil, List.getElem?_cons_zero, List.getElem?_cons_succ, List.set_cons_zero, List.set_cons_succ, if_true, if_false, ite_true, ite_false, reduceIte, Bool.false_eq_true, Option.map_some, eUnl, eTupL, eDGet, opMax2, opMin2, opIDiv, opIMod, sParT, storeT, eChn, opLenD, opStr, zk1, zk2, zk3, zk4, zk5, zk6, zk7, zk8, zk0, Nat.reduceAdd, Nat.reduceSub, lgL_at, e9, e4, decide_true, ixl1]
      · refine ⟨p ++ [D3 a2 b2 c2], NL, .inr (.inr (.inl rfl)), ?_⟩
        simp only [mkFn, sCons, sNil, sSet, setOf, sExpr, sRet, retOf, sRetN, sIf, sRaise, sAug, sAsg, toS, gSet, gNil, gCons, gTup, gSub, sPar, storeAll, eC, eVar, eBin, eUn, eTup, eLst, eLstO, eIf, eAnd, eOr, eNot, eIs, isN, aNil, aCons, aoNil, aoCons, own, peek, frz, view, out1, out1_val, out1_tmp, R.bind, R.bindS, tTst, tAndS, tOrS, tNotS, eCall, afterF, sFor, iRng1, iRng2, iSeq, itemsOf, opAdd, opSub, opMul, opDiv, opMod, opPow, opNeg, opIMul, opIAdd, opLt, opLe, opGt, opGe, opEq_int, opNe_int, opLen, opAbs, opInt, opList, opTuple, eApp, isL, wr, List.map_cons, List.map_nil, List.length_cons, List.length_nil, List.replicate_succ, List.replicate_zero, List.cons_append, List.nil_append, List.append_nil, List.getElem?_cons_zero, List.getElem?_cons_succ, List.set_cons_zero, List.set_cons_succ, if_true, if_false, ite_true, ite_false, reduceIte, Bool.false_eq_true, Option.map_some, eUnl, eTupL, eDGet, opMax2, opMin2, opIDiv, opIMod, sParT, storeT, eChn, opLenD, opStr, zk1, zk2, zk3, zk4, zk5, zk6, zk7, zk8, zk0, Nat.reduceAdd, Nat.reduceSub, lgL_at, e9, e4, decide_true, ixl2]
      · refine ⟨p ++ [D3 a2 b2 c2], 999979, .inr (.inr (.inr (.inl rfl))), ?_⟩
        simp only [mkFn, sCons, sNil, sSet, setOf, sExpr, sRet, retOf, sRetN, sIf, sRaise, sAug, sAsg, toS, gSet, gNil, gCons, gTup, gSub, sPar, storeAll, eC, eVar, eBin, eUn, eTup, eLst, eLstO, eIf, eAnd, eOr, eNot, eIs, isN, aNil, aCons, aoNil, aoCons, own, peek, frz, view, out1, out1_val, out1_tmp, R.bind, R.bindS, tTst, tAndS, tOrS, tNotS, eCall, afterF, sFor, iRng1, iRng2, iSeq, itemsOf, opAdd, opSub, opMul, opDiv, opMod, opPow, opNeg, opIMul, opIAdd, opLt, opLe, opGt, opGe, opEq_int, opNe_int, opLen, opAbs, opInt, opList, opTuple, eApp, isL, wr, List.map_cons, List.map_nil, List.length_cons, List.length_nil, List.replicate_succ, List.replicate_zero, List.cons_append, List.nil_append, List.append_nil, List.getElem?_cons_zero, List.getElem?_cons_succ, List.set_cons_zero, List.set_cons_succ, if_true, if_false, ite_true, ite_false, reduceIte, Bool.false_eq_true, Option.map_some, eUnl, eTupL, eDGet, opMax2, opMin2, opIDiv, opIMod, sParT, storeT, eChn, opLenD, opStr, zk1, zk2, zk3, zk4, zk5, zk6, zk7, zk8, zk0, Nat.reduceAdd, Nat.reduceSub, lgL_at, e9, e4, decide_true, ixl3]
    · refine ⟨p ++ [D3 a1 b1 c1], 7, .inr (.inr (.inr (.inr rfl))), ?_⟩
      simp only [mkFn, sCons, sNil, sSet, setOf, sExpr, sRet, retOf, sRetN, sIf, sRaise, sAug, sAsg, toS, gSet, gNil, gCons, gTup, gSub, sPar, storeAll, eC, eVar, eBin, eUn, eTup, eLst, eLstO, eIf, eAnd, eOr, eNot, eIs, isN, aNil, aCons, aoNil, aoCons, own, peek, frz, view, out1, out1_val, out1_tmp, R.bind, R.bindS, tTst, tAndS, tOrS, tNotS, eCall, afterF, sFor, iRng1, iRng2, iSeq, itemsOf, opAdd, opSub, opMul, opDiv, opMod, opPow, opNeg, opIMul, opIAdd, opLt, opLe, opGt, opGe, opEq_int, opNe_int, opLen, opAbs, opInt, opList, opTuple, eApp, isL, wr, List.map_cons, List.map_nil, List.length_cons, List.length_nil, List.replicate_succ, List.replicate_zero, List.cons_append, List.nil_append, List.append_nil, List.getElem?_cons_zero, List.getElem?_cons_succ, List.set_cons_zero, List.set_cons_succ, if_true, if_false, ite_true, ite_false, reduceIte, Bool.false_eq_true, Option.map_some, eUnl, eTupL, eDGet, opMax2, opMin2, opIDiv, opIMod, sParT, storeT, eChn, opLenD, opStr, zk1, zk2, zk3, zk4, zk5, zk6, zk7, zk8, zk0, Nat.reduceAdd, Nat.reduceSub, lgL_at, e9, decide_eq_false h]
  obtain ⟨ob', n, hn, hs⟩ := key
  have key2 : ∃ s', lgE ⟨[some (false, .scr ns), some (false, .obj p.length), sI n, none], ob'⟩ = .nxt s' := by
    rcases hn with rfl | rfl | rfl | rfl | rfl
    · exact lg_one (fun ob => pf_pr pr1 (by decide) ob) get1
    · exact lg_two pf_two get2
    · exact lg_big pf_large get3
    · exact lg_one (fun ob => pf_pr pr5 (by decide) ob) get4
    · exact lg_one (fun ob => pf_pr pr7 (by decide) ob) get5
  obtain ⟨⟨sl, ob2⟩, he⟩ := key2
  have hb : sCons lgS lgE ⟨[some (false, .scr ns), some (false, .obj p.length), none, none], p ++ [D3 a b c]⟩ = .nxt ⟨sl, ob2⟩ := by
    rw [sCons_nxt hs, he]
  refine ⟨ob2, ?_⟩
  unfold lgS lgE lgD at hb
  have hf : ∀ (g : T → S → R Unit) (bd : S → RS) (s1 s2 : S) (t : T) (s : S), g t s = .ok () s1 → bd s1 = .nxt s2 → forL g bd [t] s = .nxt s2 := fun g bd s1 s2 t s h1 h2 => by rw [forL_cons_nxt h1 h2]; rfl
  have hg : gSet 1 (.obj p.length) ⟨[some (false, .scr ns), none, none, none], p ++ [D3 a b c]⟩ = .ok () ⟨[some (false, .scr ns), some (false, .obj p.length), none, none], p ++ [D3 a b c]⟩ := rfl
  have hF := hf _ _ _ _ _ _ hg hb
  unfold F__law_large b__law_large bb__law_large
  simp only [mkFn, sCons, sNil, sSet, setOf, sExpr, sRet, retOf, sRetN, sIf, sRaise, sAug, sAsg, toS, gSet, gNil, gCons, gTup, gSub, sPar, storeAll, eC, eVar, eBin, eUn, eTup, eLst, eLstO, eIf, eAnd, eOr, eNot, eIs, isN, aNil, aCons, aoNil, aoCons, own, peek, frz, view, out1, out1_val, out1_tmp, R.bind, R.bindS, tTst, tAndS, tOrS, tNotS, eCall, afterF, sFor, iRng1, iRng2, iSeq, itemsOf, opAdd, opSub, opMul, opDiv, opMod, opPow, opNeg, opIMul, opIAdd, opLt, opLe, opGt, opGe, opEq_int, opNe_int, opLen, opAbs, opInt, opList, opTuple, opIx, eApp, isL, wr, List.map_cons, List.map_nil, List.length_cons, List.length_nil, List.replicate_succ, List.replicate_zero, List.cons_append, List.nil_append, List.append_nil, List.getElem?_cons_zero, List.getElem?_cons_succ, List.set_cons_zero, List.set_cons_succ, if_true, if_false, ite_true, ite_false, reduceIte, Bool.false_eq_true, Option.map_some, eUnl, eTupL, eDGet, opMax2, opMin2, opIDiv, opIMod, sParT, storeT, eChn, opLenD, opStr, zk1, zk2, zk3, zk4, zk5, zk6, zk7, zk8, zk0, Nat.reduceAdd, Nat.reduceSub, hr, hF]
end K01

-- slots 31
set_option exponentiation.threshold 3000
namespace K01
open Sv
abbrev sO : Option (Bool × T) := some (false, .obj 0)
theorem roll0 (m a b c : Int) (h0 : 0 < m) (h1 : m ≤ 1000000) : ∃ r a' b' c' : Int, 0 ≤ r ∧ r < m ∧ F__law_roll 1 [.obj 0, .int m] [D3 a b c] = .ok false (.int r) [D3 a' b' c'] := roll [] m a b c h0 h1
theorem long0 (k : Nat) (size a b c : Int) (h0 : 1 ≤ size) (h1 : size ≤ 10 ^ (6 * (k + 1))) : ∃ r a' b' c' : Int, 0 ≤ r ∧ r < size ∧ F__law_long (k + 1) [.obj 0, .int size] [D3 a b c] = .ok false (.int r) [D3 a' b' c'] := long_eq [] k size a b c h0 h1
abbrev c0 : S → RS := lb0_law F__law_rounds F_bezout F_prime_factors F_root_below F_convergents F__law_large F__law_roll F__law_convergents F__law_frac F__law_times F_is_prime F__law_gcd F_common_divisor F_inverse F_power F_power_by F__law_prime F_divisors F_rational F_sum_of F__law_plus F_product_of F_difference_of F_compared F_sign F_rational_text F_next_prime F_remainders_joined F_raised F__law_long F_quotient_of opSrt
def z20 : Int := (10 : Int) ^ (20 : Int).toNat
def z40 : Int := (10 : Int) ^ (40 : Int).toNat
abbrev szs : T := .lst [.int 12, .int 1000, .int z20, .int z40]
def elE : S → R Res := (eBin opMul (eBin opMul (eBin opAdd (eCall (F__law_long 8) (aCons (eVar 1) (aCons (eBin opIx (eVar 2) (eCall (F__law_roll 1) (aCons (eVar 1) (aCons (eC (.int 4)) aNil)))) aNil))) (eC (.int 1))) (eBin opIx (eLst (aCons (eC (.int 1)) (aCons (eUn opNeg (eC (.int 1))) aNil))) (eCall (F__law_roll 1) (aCons (eVar 1) (aCons (eC (.int 2)) aNil))))) (eUn opInt (eBin opGt (eCall (F__law_roll 1) (aCons (eVar 1) (aCons (eC (.int 9)) aNil))) (eC (.int 0)))))
theorem ixs0 (a b : T) : opIx (.lst [a, b]) (.int 0) = some (false, a) := rfl
theorem ixs1 (a b : T) : opIx (.lst [a, b]) (.int 1) = some (false, b) := rfl
theorem el_at {x0 x1 x2 x3 x4 x5 x6 x7 x8 x9 x10 x11 x12 x13 x14 x15 x16 x17 x18 x19 x20 x21 x22 x23 x24 x25 x26 x27 x28 x29 x30 : Option (Bool × T)} (a b c : Int) : ∃ v a' b' c' : Int, v.natAbs ≤ z40.natAbs ∧ elE ⟨[x0, sO, some (true, szs), x3, x4, x5, x6, x7, x8, x9, x10, x11, x12, x13, x14, x15, x16, x17, x18, x19, x20, x21, x22, x23, x24, x25, x26, x27, x28, x29, x30], [D3 a b c]⟩ = .ok (.val (.int v)) ⟨[x0, sO, some (true, szs), x3, x4, x5, x6, x7, x8, x9, x10, x11, x12, x13, x14, x15, x16, x17, x18, x19, x20, x21, x22, x23, x24, x25, x26, x27, x28, x29, x30], [D3 a' b' c']⟩ := by
  obtain ⟨r, a1, b1, c1, r0, r1, e1⟩ := roll0 4 a b c (by decide) (by decide)
  have key : ∃ size : Int, opIx szs (.int r) = some (false, .int size) ∧ 1 ≤ size ∧ size ≤ 10 ^ (6 * (7 + 1)) ∧ size ≤ z40 := by
    have h : r = 0 ∨ r = 1 ∨ r = 2 ∨ r = 3 := by omega
    rcases h with rfl | rfl | rfl | rfl
    · exact ⟨12, rfl, by decide, by decide, by decide⟩
    · exact ⟨1000, rfl, by decide, by decide, by decide⟩
    · exact ⟨z20, rfl, by decide, by decide, by decide⟩
    · exact ⟨z40, rfl, by decide, by decide, by decide⟩
  obtain ⟨size, e2, s0, s1, s2⟩ := key
  obtain ⟨n, a2, b2, c2, n0, n1, e3⟩ := long0 7 size a1 b1 c1 s0 s1
  obtain ⟨q, a3, b3, c3, q0, q1, e4⟩ := roll0 2 a2 b2 c2 (by decide) (by decide)
  obtain ⟨u, a4, b4, c4, u0, u1, e5⟩ := roll0 9 a3 b3 c3 (by decide) (by decide)
  have key2 : ∃ sg : Int, opIx (.lst [.int 1, .int (-1)]) (.int q) = some (false, .int sg) ∧ (sg = 1 ∨ sg = -1) := by
    have h : q = 0 ∨ q = 1 := by omega
    rcases h with rfl | rfl
    · exact ⟨1, rfl, .inl rfl⟩
    · exact ⟨-1, rfl, .inr rfl⟩
  obtain ⟨sg, e6, hsg⟩ := key2
  have m1 : mulOk (n + 1) sg = true := mulOk_r (by omega)
  have m2 : mulOk ((n + 1) * sg) (if decide (0 < u) = true then 1 else 0) = true := mulOk_r (by split <;> decide)
  refine ⟨(n + 1) * sg * (if decide (0 < u) = true then 1 else 0), a4, b4, c4, ?_, ?_⟩
  · rcases hsg with rfl | rfl <;> split <;> omega
  · unfold elE
    simp only [mkFn, sCons, sNil, sSet, setOf, sExpr, sRet, retOf, sRetN, sIf, sRaise, sAug, sAsg, toS, gSet, gNil, gCons, gTup, gSub, sPar, storeAll, eC, eVar, eBin, eUn, eTup, eLst, eLstO, eIf, eAnd, eOr, eNot, eIs, isN, aNil, aCons, aoNil, aoCons, own, peek, frz, view, out1, out1_val, out1_tmp, R.bind, R.bindS, tTst, tAndS, tOrS, tNotS, eCall, afterF, sFor, iRng1, iRng2, iSeq, itemsOf, opAdd, opSub, opMul, opDiv, opMod, opPow, opNeg, opIMul, opIAdd, opLt, opLe, opGt, opGe, opEq_int, opNe_int, opLen, opAbs, opInt, opList, opTuple, eApp, isL, wr, List.map_cons, List.map_nil, List.length_cons, List.length_nil, List.replicate_succ, List.replicate_zero, List.cons_append, List.nil_append, List.append_nil, List.getElem?_cons_zero, List.getElem?_cons_succ, List.set_cons_zero, List.set_cons_succ, if_true, if_false, ite_true, ite_false, reduceIte, Bool.false_eq_true, Option.map_some, eUnl, eTupL, eDGet, opMax2, opMin2, opIDiv, opIMod, sParT, storeT, eChn, opLenD, opStr, zk1, zk2, zk3, zk4, zk5, zk6, zk7, zk8, zk0, Nat.reduceAdd, Nat.reduceSub, gLst, e1, e2, e3, e4, e5, e6, m1, m2]
theorem c0_at {x0 x1 x2 x3 x4 x5 x6 x7 x8 x9 x10 x11 x12 x13 x14 x15 x16 x17 x18 x19 x20 x21 x22 x23 x24 x25 x26 x27 x28 x29 x30 : Option (Bool × T)} (a b c : Int) : ∃ u v a' b' c' : Int, u.natAbs ≤ z40.natAbs ∧ v.natAbs ≤ z40.natAbs ∧ c0 ⟨[x0, sO, x2, x3, x4, x5, x6, x7, x8, x9, x10, x11, x12, x13, x14, x15, x16, x17, x18, x19, x20, x21, x22, x23, x24, x25, x26, x27, x28, x29, x30], [D3 a b c]⟩ = .nxt ⟨[x0, sO, some (true, szs), sI u, sI v, x5, x6, x7, x8, x9, x10, x11, x12, x13, x14, x15, x16, x17, x18, x19, x20, x21, x22, x23, x24, x25, x26, x27, x28, x29, x30], [D3 a' b' c']⟩ := by
  obtain ⟨u, a1, b1, c1, hu, e1⟩ := el_at (x0 := x0) (x1 := x1) (x2 := x2) (x3 := x3) (x4 := x4) (x5 := x5) (x6 := x6) (x7 := x7) (x8 := x8) (x9 := x9) (x10 := x10) (x11 := x11) (x12 := x12) (x13 := x13) (x14 := x14) (x15 := x15) (x16 := x16) (x17 := x17) (x18 := x18) (x19 := x19) (x20 := x20) (x21 := x21) (x22 := x22) (x23 := x23) (x24 := x24) (x25 := x25) (x26 := x26) (x27 := x27) (x28 := x28) (x29 := x29) (x30 := sI 0) a b c
  obtain ⟨v, a2, b2, c2, hv, e2⟩ := el_at (x0 := x0) (x1 := x1) (x2 := x2) (x3 := x3) (x4 := x4) (x5 := x5) (x6 := x6) (x7 := x7) (x8 := x8) (x9 := x9) (x10 := x10) (x11 := x11) (x12 := x12) (x13 := x13) (x14 := x14) (x15 := x15) (x16 := x16) (x17 := x17) (x18 := x18) (x19 := x19) (x20 := x20) (x21 := x21) (x22 := x22) (x23 := x23) (x24 := x24) (x25 := x25) (x26 := x26) (x27 := x27) (x28 := x28) (x29 := x29) (x30 := sI 1) a1 b1 c1
  refine ⟨u, v, a2, b2, c2, hu, hv, ?_⟩
  have hp : (0 : Int) ≤ 20 ∧ (20 : Int) ≤ 1000000 ∧ (10 : Int).natAbs < 18446744073709551616 := by decide
  have hp2 : (0 : Int) ≤ 40 ∧ (40 : Int) ≤ 1000000 ∧ (10 : Int).natAbs < 18446744073709551616 := by decide
  have ez : (10 : Int) ^ (20 : Int).toNat = z20 := rfl
  have ez2 : (10 : Int) ^ (40 : Int).toNat = z40 := rfl
  have hr : -4611686018427387904 ≤ (2 : Int) ∧ (2 : Int) < 4611686018427387904 := by decide
  have r2 : rngT 0 (2 : Int).toNat = [.int 0, .int 1] := rfl
  unfold c0 lb0_law
  rw [show (eBin opMul (eBin opMul (eBin opAdd (eCall (F__law_long 8) (aCons (eVar 1) (aCons (eBin opIx (eVar 2) (eCall (F__law_roll 1) (aCons (eVar 1) (aCons (eC (.int 4)) aNil)))) aNil))) (eC (.int 1))) (eBin opIx (eLst (aCons (eC (.int 1)) (aCons (eUn opNeg (eC (.int 1))) aNil))) (eCall (F__law_roll 1) (aCons (eVar 1) (aCons (eC (.int 2)) aNil))))) (eUn opInt (eBin opGt (eCall (F__law_roll 1) (aCons (eVar 1) (aCons (eC (.int 9)) aNil))) (eC (.int 0))))) = elE from rfl]
  unfold szs at e1 e2
  simp only [mkFn, sCons, sNil, sSet, setOf, sExpr, sRet, retOf, sRetN, sIf, sRaise, sAug, sAsg, toS, gSet, gNil, gCons, gTup, gSub, sPar, storeAll, eC, eVar, eBin, eUn, eTup, eLst, eLstO, eIf, eAnd, eOr, eNot, eIs, isN, aNil, aCons, aoNil, aoCons, own, peek, frz, view, out1, out1_val, out1_tmp, R.bind, R.bindS, tTst, tAndS, tOrS, tNotS, eCall, afterF, sFor, iRng1, iRng2, iSeq, itemsOf, opAdd, opSub, opMul, opDiv, opMod, opPow, opNeg, opIMul, opIAdd, opLt, opLe, opGt, opGe, opEq_int, opNe_int, opLen, opAbs, opInt, opList, opTuple, opIx, eApp, isL, wr, List.map_cons, List.map_nil, List.length_cons, List.length_nil, List.replicate_succ, List.replicate_zero, List.cons_append, List.nil_append, List.append_nil, List.getElem?_cons_zero, List.getElem?_cons_succ, List.set_cons_zero, List.set_cons_succ, if_true, if_false, ite_true, ite_false, reduceIte, Bool.false_eq_true, Option.map_some, eUnl, eTupL, eDGet, opMax2, opMin2, opIDiv, opIMod, sParT, storeT, eChn, opLenD, opStr, zk1, zk2, zk3, zk4, zk5, zk6, zk7, zk8, zk0, Nat.reduceAdd, Nat.reduceSub, gLst, if_pos hp, if_pos hp2, ez, ez2, if_pos hr, r2, eLC, wipeS, backS, compL, cYes, e1, e2]
end K01

-- slots 31
set_option exponentiation.threshold 3000
namespace K01
open Sv
abbrev c1 : S → RS := lb1_law F__law_rounds F_bezout F_prime_factors F_root_below F_convergents F__law_large F__law_roll F__law_convergents F__law_frac F__law_times F_is_prime F__law_gcd F_common_divisor F_inverse F_power F_power_by F__law_prime F_divisors F_rational F_sum_of F__law_plus F_product_of F_difference_of F_compared F_sign F_rational_text F_next_prime F_remainders_joined F_raised F__law_long F_quotient_of opSrt
abbrev c2 : S → RS := lb2_law F__law_rounds F_bezout F_prime_factors F_root_below F_convergents F__law_large F__law_roll F__law_convergents F__law_frac F__law_times F_is_prime F__law_gcd F_common_divisor F_inverse F_power F_power_by F__law_prime F_divisors F_rational F_sum_of F__law_plus F_product_of F_difference_of F_compared F_sign F_rational_text F_next_prime F_remainders_joined F_raised F__law_long F_quotient_of opSrt
abbrev c3 : S → RS := lb3_law F__law_rounds F_bezout F_prime_factors F_root_below F_convergents F__law_large F__law_roll F__law_convergents F__law_frac F__law_times F_is_prime F__law_gcd F_common_divisor F_inverse F_power F_power_by F__law_prime F_divisors F_rational F_sum_of F__law_plus F_product_of F_difference_of F_compared F_sign F_rational_text F_next_prime F_remainders_joined F_raised F__law_long F_quotient_of opSrt
theorem z40_lt : z40.natAbs < 2 ^ 190 := by decide
theorem ne_self (i : Int) : (!decide (i = i)) = false := by rw [decide_eq_true rfl]; rfl
theorem c1_at {x0 x1 x2 x3 x4 x5 x6 x7 x8 x9 x10 x11 x12 x13 x14 x15 x16 x17 x18 x19 x20 x21 x22 x23 x24 x25 x26 x27 x28 x29 x30 : Option (Bool × T)} {u v : Int} (hu : u.natAbs ≤ z40.natAbs) (hv : v.natAbs ≤ z40.natAbs) (ob : List OV) : ∃ d x y : Int, c1 ⟨[x0, sO, x2, sI u, sI v, x5, x6, x7, x8, x9, x10, x11, x12, x13, x14, x15, x16, x17, x18, x19, x20, x21, x22, x23, x24, x25, x26, x27, x28, x29, x30], ob⟩ = .nxt ⟨[x0, sO, x2, sI u, sI v, sI d, sI x, sI y, x8, x9, x10, x11, x12, x13, x14, x15, x16, x17, x18, x19, x20, x21, x22, x23, x24, x25, x26, x27, x28, x29, x30], ob⟩ := by
  have hu := Nat.lt_of_le_of_lt hu z40_lt
  have hv := Nat.lt_of_le_of_lt hv z40_lt
  obtain ⟨x, y, e, hx, hy, hF⟩ := bezout_eq hu hv ob
  have hg := law_gcd hu hv ob
  have hc := common_div hu hv ob
  have m1 : mulOk u x = true := mulOk_w hu hx (by decide) (by decide) (by decide)
  have m2 : mulOk v y = true := mulOk_w hv hy (by decide) (by decide) (by decide)
  refine ⟨(Int.gcd u v : Int), x, y, ?_⟩
  unfold tri at hF
  unfold c1 lb1_law
  simp only [mkFn, sCons, sNil, sSet, setOf, sExpr, sRet, retOf, sRetN, sIf, sRaise, sAug, sAsg, toS, gSet, gNil, gCons, gTup, gSub, sPar, storeAll, eC, eVar, eBin, eUn, eTup, eLst, eLstO, eIf, eAnd, eOr, eNot, eIs, isN, aNil, aCons, aoNil, aoCons, own, peek, frz, view, out1, out1_val, out1_tmp, R.bind, R.bindS, tTst, tAndS, tOrS, tNotS, eCall, afterF, sFor, iRng1, iRng2, iSeq, itemsOf, opAdd, opSub, opMul, opDiv, opMod, opPow, opNeg, opIMul, opIAdd, opLt, opLe, opGt, opGe, opEq_int, opNe_int, opLen, opAbs, opInt, opList, opTuple, opIx, eApp, isL, wr, List.map_cons, List.map_nil, List.length_cons, List.length_nil, List.replicate_succ, List.replicate_zero, List.cons_append, List.nil_append, List.append_nil, List.getElem?_cons_zero, List.getElem?_cons_succ, List.set_cons_zero, List.set_cons_succ, if_true, if_false, ite_true, ite_false, reduceIte, Bool.false_eq_true, Option.map_some, eUnl, eTupL, eDGet, opMax2, opMin2, opIDiv, opIMod, sParT, storeT, eChn, opLenD, opStr, zk1, zk2, zk3, zk4, zk5, zk6, zk7, zk8, zk0, Nat.reduceAdd, Nat.reduceSub, gLst, hF, hg, hc, m1, m2, e, decide_true, Bool.not_true]
theorem opEq_is (i : Int) : opEq (.int i) (.str "NumberError") = some (false, .bl false) := by
  unfold opEq
  rw [if_pos ⟨shp_int _ _, show PySem.PyData.strOk _ = true by decide +kernel⟩]
  rfl
theorem opNe_is (i : Int) : opNe (.int i) (.str "NumberError") = some (false, .bl true) := by
  unfold opNe
  rw [if_pos ⟨shp_int _ _, show PySem.PyData.strOk _ = true by decide +kernel⟩]
  rfl
theorem opEq_ss : opEq (.str "NumberError") (.str "NumberError") = some (false, .bl true) := by
  unfold opEq
  rw [if_pos ⟨show PySem.PyData.strOk _ = true by decide +kernel, show PySem.PyData.strOk _ = true by decide +kernel⟩]
  show some (false, T.bl (_ == _)) = _
  rw [beq_self_eq_true]
theorem c2_at {x0 x1 x2 x3 x4 x5 x6 x7 x8 x9 x10 x11 x12 x13 x14 x15 x16 x17 x18 x19 x20 x21 x22 x23 x24 x25 x26 x27 x28 x29 x30 : Option (Bool × T)} {u : Int} (hu : u.natAbs ≤ z40.natAbs) (a b c : Int) : ∃ (B E a' b' c' : Int) (t : T), 2 ≤ B ∧ B ≤ 201 ∧ 0 ≤ E ∧ E < 30 ∧ c2 ⟨[x0, sO, x2, sI u, x4, x5, x6, x7, x8, x9, x10, x11, x12, x13, x14, x15, x16, x17, x18, x19, x20, x21, x22, x23, x24, x25, x26, x27, x28, x29, x30], [D3 a b c]⟩ = .nxt ⟨[x0, sO, x2, sI u, x4, x5, x6, x7, sI B, sI E, some (false, t), x11, x12, x13, x14, x15, x16, x17, x18, x19, x20, x21, x22, x23, x24, x25, x26, x27, x28, x29, x30], [D3 a' b' c']⟩ := by
  have hu := Nat.lt_of_le_of_lt hu z40_lt
  obtain ⟨r, a1, b1, c1, r0, r1, e1⟩ := roll0 200 a b c (by decide) (by decide)
  obtain ⟨q, a2, b2, c2, q0, q1, e2⟩ := roll0 30 a1 b1 c1 (by decide) (by decide)
  have hB : (2 + r).natAbs < 2 ^ 190 := Nat.lt_of_le_of_lt (m := 1000) (by omega) (by decide)
  have hg := law_gcd hu hB [D3 a2 b2 c2]
  rcases inverse_eq (a := u) (b := 2 + r) (by omega) (by omega) [D3 a2 b2 c2] with ⟨h1, h2⟩ | ⟨h1, v, v0, v1, h3, h2⟩
  · have d1 : decide (((Int.gcd u (2 + r) : Nat) : Int) = 1) = false := decide_eq_false (by omega)
    refine ⟨2 + r, q, a2, b2, c2, .str "NumberError", by omega, by omega, q0, q1, ?_⟩
    unfold K01.c2 lb2_law
    simp only [mkFn, sCons, sNil, sSet, setOf, sExpr, sRet, retOf, sRetN, sIf, sRaise, sAug, sAsg, toS, gSet, gNil, gCons, gTup, gSub, sPar, storeAll, eC, eVar, eBin, eUn, eTup, eLst, eLstO, eIf, eAnd, eOr, eNot, eIs, isN, aNil, aCons, aoNil, aoCons, own, peek, frz, view, out1, out1_val, out1_tmp, R.bind, R.bindS, tTst, tAndS, tOrS, tNotS, eCall, afterF, sFor, iRng1, iRng2, iSeq, itemsOf, opAdd, opSub, opMul, opDiv, opMod, opPow, opNeg, opIMul, opIAdd, opLt, opLe, opGt, opGe, opEq_int, opNe_int, opLen, opAbs, opInt, opList, opTuple, opIx, eApp, isL, wr, List.map_cons, List.map_nil, List.length_cons, List.length_nil, List.replicate_succ, List.replicate_zero, List.cons_append, List.nil_append, List.append_nil, List.getElem?_cons_zero, List.getElem?_cons_succ, List.set_cons_zero, List.set_cons_succ, if_true, if_false, ite_true, ite_false, reduceIte, Bool.false_eq_true, Option.map_some, eUnl, eTupL, eDGet, opMax2, opMin2, opIDiv, opIMod, sParT, storeT, eChn, opLenD, opStr, zk1, zk2, zk3, zk4, zk5, zk6, zk7, zk8, zk0, Nat.reduceAdd, Nat.reduceSub, gLst, e1, e2, eTold, h2, opEq_ss, hg, d1, opNe_bl, neE, Bool.not_false, Bool.not_true, beq_self_eq_true]
  · have d1 : decide (((Int.gcd u (2 + r) : Nat) : Int) = 1) = true := decide_eq_true (by omega)
    have m1 : mulOk u v = true := mulOk_r (by omega)
    have d2 : decide ((u * v - 1) % (2 + r) = 0) = true := decide_eq_true h3
    have hp : 0 < 2 + r := by omega
    refine ⟨2 + r, q, a2, b2, c2, .int v, by omega, by omega, q0, q1, ?_⟩
    unfold K01.c2 lb2_law
    simp only [mkFn, sCons, sNil, sSet, setOf, sExpr, sRet, retOf, sRetN, sIf, sRaise, sAug, sAsg, toS, gSet, gNil, gCons, gTup, gSub, sPar, storeAll, eC, eVar, eBin, eUn, eTup, eLst, eLstO, eIf, eAnd, eOr, eNot, eIs, isN, aNil, aCons, aoNil, aoCons, own, peek, frz, view, out1, out1_val, out1_tmp, R.bind, R.bindS, tTst, tAndS, tOrS, tNotS, eCall, afterF, sFor, iRng1, iRng2, iSeq, itemsOf, opAdd, opSub, opMul, opDiv, opMod, opPow, opNeg, opIMul, opIAdd, opLt, opLe, opGt, opGe, opEq_int, opNe_int, opLen, opAbs, opInt, opList, opTuple, opIx, eApp, isL, wr, List.map_cons, List.map_nil, List.length_cons, List.length_nil, List.replicate_succ, List.replicate_zero, List.cons_append, List.nil_append, List.append_nil, List.getElem?_cons_zero, List.getElem?_cons_succ, List.set_cons_zero, List.set_cons_succ, if_true, if_false, ite_true, ite_false, reduceIte, Bool.false_eq_true, Option.map_some, eUnl, eTupL, eDGet, opMax2, opMin2, opIDiv, opIMod, sParT, storeT, eChn, opLenD, opStr, zk1, zk2, zk3, zk4, zk5, zk6, zk7, zk8, zk0, Nat.reduceAdd, Nat.reduceSub, gLst, e1, e2, eTold, h2, opEq_is, opNe_is, hg, d1, opNe_bl, m1, if_pos hp, d2, Bool.not_true, beq_self_eq_true]
theorem c3_at {x0 x1 x2 x3 x4 x5 x6 x7 x8 x9 x10 x11 x12 x13 x14 x15 x16 x17 x18 x19 x20 x21 x22 x23 x24 x25 x26 x27 x28 x29 x30 : Option (Bool × T)} {u B E : Int} (hu : u.natAbs ≤ z40.natAbs) (h0 : 2 ≤ B) (h1 : B ≤ 201) (h2 : 0 ≤ E) (h3 : E < 30) (ob : List OV) : c3 ⟨[x0, x1, x2, sI u, x4, x5, x6, x7, sI B, sI E, x10, x11, x12, x13, x14, x15, x16, x17, x18, x19, x20, x21, x22, x23, x24, x25, x26, x27, x28, x29, x30], ob⟩ = .nxt ⟨[x0, x1, x2, sI u, x4, x5, x6, x7, sI B, sI E, x10, x11, x12, x13, x14, x15, x16, x17, x18, x19, x20, x21, x22, x23, x24, x25, x26, x27, x28, x29, x30], ob⟩ := by
  have hB : B.natAbs < 2 ^ 200 := Nat.lt_of_le_of_lt (m := 1000) (by omega) (by decide)
  have p1 := power_eq (b := B) (n := E + 1) hB (by omega) (by omega) ob
  have p2 := power_eq (b := B) (n := E) hB (by omega) (by omega) ob
  have p3 := power_eq (b := B) (n := 0) hB (by omega) (by omega) ob
  have p4 := power_eq (b := u) (n := E) (Nat.lt_trans (Nat.lt_of_le_of_lt hu z40_lt) (by decide)) (by omega) (by omega) ob
  have p5 := power_by_eq (a := u) (n := E) (b := B) h2 (by omega) (by omega) (by omega) ob
  have m1 : mulOk B (B ^ E.toNat) = true := mulOk_l (by omega)
  have e1 : B ^ (E + 1).toNat = B * B ^ E.toNat := by rw [show (E + 1).toNat = E.toNat + 1 by omega, Int.pow_succ, Int.mul_comm]
  have e3 : B ^ (0 : Int).toNat = 1 := by rw [show (0 : Int).toNat = 0 from rfl, Int.pow_zero]
  have hp : 0 < B := by omega
  rw [e1] at p1
  rw [e3] at p3
  unfold c3 lb3_law
  simp only [mkFn, sCons, sNil, sSet, setOf, sExpr, sRet, retOf, sRetN, sIf, sRaise, sAug, sAsg, toS, gSet, gNil, gCons, gTup, gSub, sPar, storeAll, eC, eVar, eBin, eUn, eTup, eLst, eLstO, eIf, eAnd, eOr, eNot, eIs, isN, aNil, aCons, aoNil, aoCons, own, peek, frz, view, out1, out1_val, out1_tmp, R.bind, R.bindS, tTst, tAndS, tOrS, tNotS, eCall, afterF, sFor, iRng1, iRng2, iSeq, itemsOf, opAdd, opSub, opMul, opDiv, opMod, opPow, opNeg, opIMul, opIAdd, opLt, opLe, opGt, opGe, opEq_int, opNe_int, opLen, opAbs, opInt, opList, opTuple, opIx, eApp, isL, wr, List.map_cons, List.map_nil, List.length_cons, List.length_nil, List.replicate_succ, List.replicate_zero, List.cons_append, List.nil_append, List.append_nil, List.getElem?_cons_zero, List.getElem?_cons_succ, List.set_cons_zero, List.set_cons_succ, if_true, if_false, ite_true, ite_false, reduceIte, Bool.false_eq_true, Option.map_some, eUnl, eTupL, eDGet, opMax2, opMin2, opIDiv, opIMod, sParT, storeT, eChn, opLenD, opStr, zk1, zk2, zk3, zk4, zk5, zk6, zk7, zk8, zk0, Nat.reduceAdd, Nat.reduceSub, gLst, p1, p2, p3, p4, p5, m1, if_pos hp, decide_true, Bool.not_true]
end K01

-- slots 31
set_option exponentiation.threshold 3000
namespace K01
open Sv
abbrev c4 : S → RS := lb4_law F__law_rounds F_bezout F_prime_factors F_root_below F_convergents F__law_large F__law_roll F__law_convergents F__law_frac F__law_times F_is_prime F__law_gcd F_common_divisor F_inverse F_power F_power_by F__law_prime F_divisors F_rational F_sum_of F__law_plus F_product_of F_difference_of F_compared F_sign F_rational_text F_next_prime F_remainders_joined F_raised F__law_long F_quotient_of opSrt
abbrev c5 : S → RS := lb5_law F__law_rounds F_bezout F_prime_factors F_root_below F_convergents F__law_large F__law_roll F__law_convergents F__law_frac F__law_times F_is_prime F__law_gcd F_common_divisor F_inverse F_power F_power_by F__law_prime F_divisors F_rational F_sum_of F__law_plus F_product_of F_difference_of F_compared F_sign F_rational_text F_next_prime F_remainders_joined F_raised F__law_long F_quotient_of opSrt
abbrev c6 : S → RS := lb6_law F__law_rounds F_bezout F_prime_factors F_root_below F_convergents F__law_large F__law_roll F__law_convergents F__law_frac F__law_times F_is_prime F__law_gcd F_common_divisor F_inverse F_power F_power_by F__law_prime F_divisors F_rational F_sum_of F__law_plus F_product_of F_difference_of F_compared F_sign F_rational_text F_next_prime F_remainders_joined F_raised F__law_long F_quotient_of opSrt
theorem comp_none {vs : List Nat} {g : T → S → R Unit} {c : S → R Bool} {e : S → R Res} {s0 : S} : ∀ (ts acc : List T),
    (∀ t ∈ ts, ∃ s1, g t s0 = .ok () s1 ∧ (⟨wipeS s1.sl vs, s1.ob⟩ : S) = s0 ∧ c s1 = .ok false s1) → compL vs g c e ts acc s0 = .ok acc s0
  | [], acc, _ => rfl
  | t :: ts, acc, h => by
    obtain ⟨s1, h1, h2, h3⟩ := h t List.mem_cons_self
    rw [compL, h1]
    simp only
    rw [h3]
    simp only
    rw [h2, comp_none ts acc fun u hu => h u (List.mem_cons_of_mem _ hu)]
def pdB : S → RS := sSet 13 (eBin opMul (eVar 13) (eCall F_power (aCons (eVar 14) (aCons (eVar 15) aNil))))
theorem Fac.small {N : Int} {rows : List (Int × Int)} (h : Fac N rows) (hN : N ≤ 100000) {p : Int × Int} (hp : p ∈ rows) : 2 ≤ p.1 ∧ p.1 ≤ N ∧ 1 ≤ p.2 ∧ p.2 ≤ 80 := by
  obtain ⟨h1, h2⟩ := h.each p hp
  have hd := dvd_prd hp
  rw [h.prod] at hd
  have hN1 : 1 ≤ N := by rw [← h.prod]; exact prd_pos fun q hq => by have := (h.each q hq).1.1; omega
  have hl := le_of_dvd hN1 hd
  have a1 := le_pow1 (show 1 ≤ p.1 by have := h1.1; omega) (k := p.2.toNat) (by omega)
  refine ⟨h1.1, by omega, h2, Classical.byContradiction fun z => ?_⟩
  have b1 : (2 : Int) ^ 80 ≤ p.1 ^ 80 := two_pow h1.1 80
  have b2 : p.1 ^ p.2.toNat = p.1 ^ 80 * p.1 ^ (p.2.toNat - 80) := by rw [← Int.pow_add]; congr 1; omega
  have b3 := le_pow (show 1 ≤ p.1 by have := h1.1; omega) (p.2.toNat - 80)
  have := Int.mul_le_mul_of_nonneg_left b3 (show 0 ≤ p.1 ^ 80 by omega)
  omega
theorem pd_run {x0 x1 x2 x3 x4 x5 x6 x7 x8 x9 x10 x11 x12 x13 x14 x15 x16 x17 x18 x19 x20 x21 x22 x23 x24 x25 x26 x27 x28 x29 x30 : Option (Bool × T)} {N : Int} (hN : N ≤ 100000) (ob : List OV) : ∀ (rows done : List (Int × Int)) (y14 y15 : Option (Bool × T)), Fac N (done ++ rows) →
    ∃ z14 z15, forL (gTup 2 (gCons (gSet 14) (gCons (gSet 15) gNil))) pdB (rows.map pT) ⟨[x0, x1, x2, x3, x4, x5, x6, x7, x8, x9, x10, x11, x12, sI (prd done), y14, y15, x16, x17, x18, x19, x20, x21, x22, x23, x24, x25, x26, x27, x28, x29, x30], ob⟩ = .nxt ⟨[x0, x1, x2, x3, x4, x5, x6, x7, x8, x9, x10, x11, x12, sI N, z14, z15, x16, x17, x18, x19, x20, x21, x22, x23, x24, x25, x26, x27, x28, x29, x30], ob⟩
  | [], done, y14, y15, h => ⟨y14, y15, by rw [List.append_nil] at h; rw [h.prod]; rfl⟩
  | (p, m) :: r, done, y14, y15, h => by
    obtain ⟨p2, p3, p4, p5⟩ := h.small hN (p := (p, m)) (List.mem_append_right _ List.mem_cons_self)
    have p2 : 2 ≤ p := p2
    have p3 : p ≤ N := p3
    have p4 : 1 ≤ m := p4
    have p5 : m ≤ 80 := p5
    have ep := power_eq (b := p) (n := m) (Nat.lt_of_le_of_lt (m := 100000) (by omega) (by decide)) (by omega) (by omega) ob
    have hle : prd done ≤ N := by
      have h5 : prd (done ++ (p, m) :: r) = prd done * prd ((p, m) :: r) := by
        have : ∀ l : List (Int × Int), prd (l ++ (p, m) :: r) = prd l * prd ((p, m) :: r) := fun l => by
          induction l with
          | nil => show _ = 1 * _; rw [Int.one_mul]; rfl
          | cons q l ih => show q.1 ^ q.2.toNat * prd (l ++ (p, m) :: r) = q.1 ^ q.2.toNat * prd l * _; rw [ih, Int.mul_assoc]
        exact this _
      have h6 : 1 ≤ prd ((p, m) :: r) := prd_pos fun q hq => by have := (h.each q (List.mem_append_right _ hq)).1.1; omega
      have h7 : 1 ≤ prd done := prd_pos fun q hq => by have := (h.each q (List.mem_append_left _ hq)).1.1; omega
      have := Int.mul_le_mul_of_nonneg_left h6 (show 0 ≤ prd done by omega)
      have h8 := h.prod
      omega
    have h7 : 1 ≤ prd done := prd_pos fun q hq => by have := (h.each q (List.mem_append_left _ hq)).1.1; omega
    have m1 : mulOk (prd done) (p ^ m.toNat) = true := mulOk_l (by omega)
    have e3 : prd (done ++ [(p, m)]) = prd done * p ^ m.toNat := prd_app _ _
    obtain ⟨z14, z15, e⟩ := pd_run (x0 := x0) (x1 := x1) (x2 := x2) (x3 := x3) (x4 := x4) (x5 := x5) (x6 := x6) (x7 := x7) (x8 := x8) (x9 := x9) (x10 := x10) (x11 := x11) (x12 := x12) (x13 := x13) (x14 := x14) (x15 := x15) (x16 := x16) (x17 := x17) (x18 := x18) (x19 := x19) (x20 := x20) (x21 := x21) (x22 := x22) (x23 := x23) (x24 := x24) (x25 := x25) (x26 := x26) (x27 := x27) (x28 := x28) (x29 := x29) (x30 := x30) hN ob r (done ++ [(p, m)]) (sI p) (sI m) (by rw [List.append_assoc]; exact h)
    rw [e3] at e
    refine ⟨z14, z15, ?_⟩
    rw [List.map_cons, forL_cons_nxt (s1 := ⟨[x0, x1, x2, x3, x4, x5, x6, x7, x8, x9, x10, x11, x12, sI (prd done), sI p, sI m, x16, x17, x18, x19, x20, x21, x22, x23, x24, x25, x26, x27, x28, x29, x30], ob⟩) (s2 := ⟨[x0, x1, x2, x3, x4, x5, x6, x7, x8, x9, x10, x11, x12, sI (prd done * p ^ m.toNat), sI p, sI m, x16, x17, x18, x19, x20, x21, x22, x23, x24, x25, x26, x27, x28, x29, x30], ob⟩) ?_ ?_, e]
    · unfold pT
      simp only [mkFn, sCons, sNil, sSet, setOf, sExpr, sRet, retOf, sRetN, sIf, sRaise, sAug, sAsg, toS, gSet, gNil, gCons, gTup, gSub, sPar, storeAll, eC, eVar, eBin, eUn, eTup, eLst, eLstO, eIf, eAnd, eOr, eNot, eIs, isN, aNil, aCons, aoNil, aoCons, own, peek, frz, view, out1, out1_val, out1_tmp, R.bind, R.bindS, tTst, tAndS, tOrS, tNotS, eCall, afterF, sFor, iRng1, iRng2, iSeq, itemsOf, opAdd, opSub, opMul, opDiv, opMod, opPow, opNeg, opIMul, opIAdd, opLt, opLe, opGt, opGe, opEq_int, opNe_int, opLen, opAbs, opInt, opList, opTuple, opIx, eApp, isL, wr, List.map_cons, List.map_nil, List.length_cons, List.length_nil, List.replicate_succ, List.replicate_zero, List.cons_append, List.nil_append, List.append_nil, List.getElem?_cons_zero, List.getElem?_cons_succ, List.set_cons_zero, List.set_cons_succ, if_true, if_false, ite_true, ite_false, reduceIte, Bool.false_eq_true, Option.map_some, eUnl, eTupL, eDGet, opMax2, opMin2, opIDiv, opIMod, sParT, storeT, eChn, opLenD, opStr, zk1, zk2, zk3, zk4, zk5, zk6, zk7, zk8, zk0, Nat.reduceAdd, Nat.reduceSub, gLst]
    · unfold pdB
      simp only [mkFn, sCons, sNil, sSet, setOf, sExpr, sRet, retOf, sRetN, sIf, sRaise, sAug, sAsg, toS, gSet, gNil, gCons, gTup, gSub, sPar, storeAll, eC, eVar, eBin, eUn, eTup, eLst, eLstO, eIf, eAnd, eOr, eNot, eIs, isN, aNil, aCons, aoNil, aoCons, own, peek, frz, view, out1, out1_val, out1_tmp, R.bind, R.bindS, tTst, tAndS, tOrS, tNotS, eCall, afterF, sFor, iRng1, iRng2, iSeq, itemsOf, opAdd, opSub, opMul, opDiv, opMod, opPow, opNeg, opIMul, opIAdd, opLt, opLe, opGt, opGe, opEq_int, opNe_int, opLen, opAbs, opInt, opList, opTuple, opIx, eApp, isL, wr, List.map_cons, List.map_nil, List.length_cons, List.length_nil, List.replicate_succ, List.replicate_zero, List.cons_append, List.nil_append, List.append_nil, List.getElem?_cons_zero, List.getElem?_cons_succ, List.set_cons_zero, List.set_cons_succ, if_true, if_false, ite_true, ite_false, reduceIte, Bool.false_eq_true, Option.map_some, eUnl, eTupL, eDGet, opMax2, opMin2, opIDiv, opIMod, sParT, storeT, eChn, opLenD, opStr, zk1, zk2, zk3, zk4, zk5, zk6, zk7, zk8, zk0, Nat.reduceAdd, Nat.reduceSub, gLst, ep, m1]
theorem c4_at {x0 x1 x2 x3 x4 x5 x6 x7 x8 x9 x10 x11 x12 x13 x14 x15 x16 x17 x18 x19 x20 x21 x22 x23 x24 x25 x26 x27 x28 x29 x30 : Option (Bool × T)} (a b c : Int) : ∃ (n a' b' c' : Int) (y12 y14 y15 : Option (Bool × T)), 1 ≤ n ∧ n ≤ 5000 ∧ c4 ⟨[x0, sO, x2, x3, x4, x5, x6, x7, x8, x9, x10, x11, x12, x13, x14, x15, x16, x17, x18, x19, x20, x21, x22, x23, x24, x25, x26, x27, x28, x29, x30], [D3 a b c]⟩ = .nxt ⟨[x0, sO, x2, x3, x4, x5, x6, x7, x8, x9, x10, sI n, y12, sI n, y14, y15, x16, x17, x18, x19, x20, x21, x22, x23, x24, x25, x26, x27, x28, x29, x30], [D3 a' b' c']⟩ := by
  obtain ⟨r, a1, b1, c1, r0, r1, e1⟩ := roll0 5000 a b c (by decide) (by decide)
  generalize hn : 1 + r = n
  obtain ⟨rows, hf, e2⟩ := pf_eq (N := n) (by omega) (by omega) [D3 a1 b1 c1]
  obtain ⟨y14, y15, e3⟩ := pd_run (x0 := x0) (x1 := sO) (x2 := x2) (x3 := x3) (x4 := x4) (x5 := x5) (x6 := x6) (x7 := x7) (x8 := x8) (x9 := x9) (x10 := x10) (x11 := sI n) (x12 := some (false, .tupl (rows.map pT))) (x13 := none) (x14 := none) (x15 := none) (x16 := x16) (x17 := x17) (x18 := x18) (x19 := x19) (x20 := x20) (x21 := x21) (x22 := x22) (x23 := x23) (x24 := x24) (x25 := x25) (x26 := x26) (x27 := x27) (x28 := x28) (x29 := x29) (x30 := x30) (N := n) (by omega) [D3 a1 b1 c1] rows [] x14 x15 hf
  have e4 := comp_none (vs := [14, 15]) (g := gTup 2 (gCons (gSet 14) (gCons (gSet 15) gNil))) (c := tOrS (tNotS (tTst (eCall F__law_prime (aCons (eVar 14) aNil)))) (tTst (eBin opLt (eVar 15) (eC (.int 1))))) (e := eC (.int 1))
    (s0 := ⟨[x0, sO, x2, x3, x4, x5, x6, x7, x8, x9, x10, sI n, some (false, .tupl (rows.map pT)), sI n, none, none, x16, x17, x18, x19, x20, x21, x22, x23, x24, x25, x26, x27, x28, x29, x30], [D3 a1 b1 c1]⟩) (rows.map pT) [] (fun t ht => by
      obtain ⟨p, hp, rfl⟩ := List.mem_map.mp ht
      obtain ⟨p2, p3, p4, p5⟩ := hf.small (by omega) hp
      have ep := law_prime (n := p.1) (by omega) (by omega) [D3 a1 b1 c1]
      rw [isPr_t.mpr (hf.each p hp).1] at ep
      have d : decide (p.2 < 1) = false := decide_eq_false (by omega)
      refine ⟨⟨[x0, sO, x2, x3, x4, x5, x6, x7, x8, x9, x10, sI n, some (false, .tupl (rows.map pT)), sI n, sI p.1, sI p.2, x16, x17, x18, x19, x20, x21, x22, x23, x24, x25, x26, x27, x28, x29, x30], [D3 a1 b1 c1]⟩, ?_, rfl, ?_⟩
      · unfold pT
        simp only [mkFn, sCons, sNil, sSet, setOf, sExpr, sRet, retOf, sRetN, sIf, sRaise, sAug, sAsg, toS, gSet, gNil, gCons, gTup, gSub, sPar, storeAll, eC, eVar, eBin, eUn, eTup, eLst, eLstO, eIf, eAnd, eOr, eNot, eIs, isN, aNil, aCons, aoNil, aoCons, own, peek, frz, view, out1, out1_val, out1_tmp, R.bind, R.bindS, tTst, tAndS, tOrS, tNotS, eCall, afterF, sFor, iRng1, iRng2, iSeq, itemsOf, opAdd, opSub, opMul, opDiv, opMod, opPow, opNeg, opIMul, opIAdd, opLt, opLe, opGt, opGe, opEq_int, opNe_int, opLen, opAbs, opInt, opList, opTuple, opIx, eApp, isL, wr, List.map_cons, List.map_nil, List.length_cons, List.length_nil, List.replicate_succ, List.replicate_zero, List.cons_append, List.nil_append, List.append_nil, List.getElem?_cons_zero, List.getElem?_cons_succ, List.set_cons_zero, List.set_cons_succ, if_true, if_false, ite_true, ite_false, reduceIte, Bool.false_eq_true, Option.map_some, eUnl, eTupL, eDGet, opMax2, opMin2, opIDiv, opIMod, sParT, storeT, eChn, opLenD, opStr, zk1, zk2, zk3, zk4, zk5, zk6, zk7, zk8, zk0, Nat.reduceAdd, Nat.reduceSub, gLst]
      · simp only [mkFn, sCons, sNil, sSet, setOf, sExpr, sRet, retOf, sRetN, sIf, sRaise, sAug, sAsg, toS, gSet, gNil, gCons, gTup, gSub, sPar, storeAll, eC, eVar, eBin, eUn, eTup, eLst, eLstO, eIf, eAnd, eOr, eNot, eIs, isN, aNil, aCons, aoNil, aoCons, own, peek, frz, view, out1, out1_val, out1_tmp, R.bind, R.bindS, tTst, tAndS, tOrS, tNotS, eCall, afterF, sFor, iRng1, iRng2, iSeq, itemsOf, opAdd, opSub, opMul, opDiv, opMod, opPow, opNeg, opIMul, opIAdd, opLt, opLe, opGt, opGe, opEq_int, opNe_int, opLen, opAbs, opInt, opList, opTuple, opIx, eApp, isL, wr, List.map_cons, List.map_nil, List.length_cons, List.length_nil, List.replicate_succ, List.replicate_zero, List.cons_append, List.nil_append, List.append_nil, List.getElem?_cons_zero, List.getElem?_cons_succ, List.set_cons_zero, List.set_cons_succ, if_true, if_false, ite_true, ite_false, reduceIte, Bool.false_eq_true, Option.map_some, eUnl, eTupL, eDGet, opMax2, opMin2, opIDiv, opIMod, sParT, storeT, eChn, opLenD, opStr, zk1, zk2, zk3, zk4, zk5, zk6, zk7, zk8, zk0, Nat.reduceAdd, Nat.reduceSub, gLst, ep, d, Bool.not_true])
  have e5 : opNe (.lst []) (.lst []) = some (false, .bl false) := rfl
  have e6 := opNe_lp rows rows
  rw [decide_eq_true rfl] at e6
  have e7 := opSrt_prs hf.srt
  have e8 := pairs_prs rows
  have e9 := merge_prs hf.srt
  refine ⟨n, a1, b1, c1, some (false, .tupl (rows.map pT)), y14, y15, by omega, by omega, ?_⟩
  unfold pdB at e3
  rw [show prd [] = 1 from rfl] at e3
  unfold c4 lb4_law
  simp only [mkFn, sCons, sNil, sSet, setOf, sExpr, sRet, retOf, sRetN, sIf, sRaise, sAug, sAsg, toS, gSet, gNil, gCons, gTup, gSub, sPar, storeAll, eC, eVar, eBin, eUn, eTup, eLst, eLstO, eIf, eAnd, eOr, eNot, eIs, isN, aNil, aCons, aoNil, aoCons, own, peek, frz, view, out1, out1_val, out1_tmp, R.bind, R.bindS, tTst, tAndS, tOrS, tNotS, eCall, afterF, sFor, iRng1, iRng2, iSeq, itemsOf, opAdd, opSub, opMul, opDiv, opMod, opPow, opNeg, opIMul, opIAdd, opLt, opLe, opGt, opGe, opEq_int, opNe_int, opLen, opAbs, opInt, opList, opTuple, opIx, eApp, isL, wr, List.map_cons, List.map_nil, List.length_cons, List.length_nil, List.replicate_succ, List.replicate_zero, List.cons_append, List.nil_append, List.append_nil, List.getElem?_cons_zero, List.getElem?_cons_succ, List.set_cons_zero, List.set_cons_succ, if_true, if_false, ite_true, ite_false, reduceIte, Bool.false_eq_true, Option.map_some, eUnl, eTupL, eDGet, opMax2, opMin2, opIDiv, opIMod, sParT, storeT, eChn, opLenD, opStr, zk1, zk2, zk3, zk4, zk5, zk6, zk7, zk8, zk0, Nat.reduceAdd, Nat.reduceSub, gLst, e1, hn, e2, e3, decide_true, eLC, wipeS, backS, e4, e5, e6, e7, eDictP, e8, e9, dctOf, List.length_map, Bool.not_true]
theorem c5_at {x0 x1 x2 x3 x4 x5 x6 x7 x8 x9 x10 x11 x12 x13 x14 x15 x16 x17 x18 x19 x20 x21 x22 x23 x24 x25 x26 x27 x28 x29 x30 : Option (Bool × T)} {n : Int} (h0 : 1 ≤ n) (h1 : n ≤ 5000) (ob : List OV) : c5 ⟨[x0, x1, x2, x3, x4, x5, x6, x7, x8, x9, x10, sI n, x12, x13, x14, x15, x16, x17, x18, x19, x20, x21, x22, x23, x24, x25, x26, x27, x28, x29, x30], ob⟩ = .nxt ⟨[x0, x1, x2, x3, x4, x5, x6, x7, x8, x9, x10, sI n, x12, x13, x14, x15, x16, x17, x18, x19, x20, x21, x22, x23, x24, x25, x26, x27, x28, x29, x30], ob⟩ := by
  obtain ⟨q, q1, q2, q3, q4, e1⟩ := next_eq h0 h1 ob
  have e2 := prime_is (n := n) h0 (by omega) ob
  have e3 := law_prime (n := n) (by omega) (by omega) ob
  have e4 := law_prime (n := q) (by omega) (by omega) ob
  rw [isPr_t.mpr q3] at e4
  have hr : (-4611686018427387904 ≤ n + 1 ∧ n + 1 < 4611686018427387904) ∧ (-4611686018427387904 ≤ q ∧ q < 4611686018427387904) := by omega
  have e5 : opNe (.lst []) (.lst []) = some (false, .bl false) := rfl
  have e6 := comp_none (vs := [30]) (g := gSet 30) (c := (tTst (eCall F__law_prime (aCons (eVar 30) aNil)))) (e := eVar 30) (s0 := ⟨[x0, x1, x2, x3, x4, x5, x6, x7, x8, x9, x10, sI n, x12, x13, x14, x15, x16, x17, x18, x19, x20, x21, x22, x23, x24, x25, x26, x27, x28, x29, none], ob⟩) (rngT (n + 1) (q - (n + 1)).toNat) [] (fun t ht => by
    obtain ⟨i, rfl, i1, i2⟩ := rngT_mem ht
    have ep := law_prime (n := i) (by omega) (by omega) ob
    rw [isPr_f.mpr (q4 i (by omega) (by omega))] at ep
    refine ⟨⟨[x0, x1, x2, x3, x4, x5, x6, x7, x8, x9, x10, sI n, x12, x13, x14, x15, x16, x17, x18, x19, x20, x21, x22, x23, x24, x25, x26, x27, x28, x29, sI i], ob⟩, by simp only [mkFn, sCons, sNil, sSet, setOf, sExpr, sRet, retOf, sRetN, sIf, sRaise, sAug, sAsg, toS, gSet, gNil, gCons, gTup, gSub, sPar, storeAll, eC, eVar, eBin, eUn, eTup, eLst, eLstO, eIf, eAnd, eOr, eNot, eIs, isN, aNil, aCons, aoNil, aoCons, own, peek, frz, view, out1, out1_val, out1_tmp, R.bind, R.bindS, tTst, tAndS, tOrS, tNotS, eCall, afterF, sFor, iRng1, iRng2, iSeq, itemsOf, opAdd, opSub, opMul, opDiv, opMod, opPow, opNeg, opIMul, opIAdd, opLt, opLe, opGt, opGe, opEq_int, opNe_int, opLen, opAbs, opInt, opList, opTuple, opIx, eApp, isL, wr, List.map_cons, List.map_nil, List.length_cons, List.length_nil, List.replicate_succ, List.replicate_zero, List.cons_append, List.nil_append, List.append_nil, List.getElem?_cons_zero, List.getElem?_cons_succ, List.set_cons_zero, List.set_cons_succ, if_true, if_false, ite_true, ite_false, reduceIte, Bool.false_eq_true, Option.map_some, eUnl, eTupL, eDGet, opMax2, opMin2, opIDiv, opIMod, sParT, storeT, eChn, opLenD, opStr, zk1, zk2, zk3, zk4, zk5, zk6, zk7, zk8, zk0, Nat.reduceAdd, Nat.reduceSub, gLst], rfl, ?_⟩
    simp only [mkFn, sCons, sNil, sSet, setOf, sExpr, sRet, retOf, sRetN, sIf, sRaise, sAug, sAsg, toS, gSet, gNil, gCons, gTup, gSub, sPar, storeAll, eC, eVar, eBin, eUn, eTup, eLst, eLstO, eIf, eAnd, eOr, eNot, eIs, isN, aNil, aCons, aoNil, aoCons, own, peek, frz, view, out1, out1_val, out1_tmp, R.bind, R.bindS, tTst, tAndS, tOrS, tNotS, eCall, afterF, sFor, iRng1, iRng2, iSeq, itemsOf, opAdd, opSub, opMul, opDiv, opMod, opPow, opNeg, opIMul, opIAdd, opLt, opLe, opGt, opGe, opEq_int, opNe_int, opLen, opAbs, opInt, opList, opTuple, opIx, eApp, isL, wr, List.map_cons, List.map_nil, List.length_cons, List.length_nil, List.replicate_succ, List.replicate_zero, List.cons_append, List.nil_append, List.append_nil, List.getElem?_cons_zero, List.getElem?_cons_succ, List.set_cons_zero, List.set_cons_succ, if_true, if_false, ite_true, ite_false, reduceIte, Bool.false_eq_true, Option.map_some, eUnl, eTupL, eDGet, opMax2, opMin2, opIDiv, opIMod, sParT, storeT, eChn, opLenD, opStr, zk1, zk2, zk3, zk4, zk5, zk6, zk7, zk8, zk0, Nat.reduceAdd, Nat.reduceSub, gLst, ep])
  unfold c5 lb5_law
  simp only [mkFn, sCons, sNil, sSet, setOf, sExpr, sRet, retOf, sRetN, sIf, sRaise, sAug, sAsg, toS, gSet, gNil, gCons, gTup, gSub, sPar, storeAll, eC, eVar, eBin, eUn, eTup, eLst, eLstO, eIf, eAnd, eOr, eNot, eIs, isN, aNil, aCons, aoNil, aoCons, own, peek, frz, view, out1, out1_val, out1_tmp, R.bind, R.bindS, tTst, tAndS, tOrS, tNotS, eCall, afterF, sFor, iRng1, iRng2, iSeq, itemsOf, opAdd, opSub, opMul, opDiv, opMod, opPow, opNeg, opIMul, opIAdd, opLt, opLe, opGt, opGe, opEq_int, opNe_int, opLen, opAbs, opInt, opList, opTuple, opIx, eApp, isL, wr, List.map_cons, List.map_nil, List.length_cons, List.length_nil, List.replicate_succ, List.replicate_zero, List.cons_append, List.nil_append, List.append_nil, List.getElem?_cons_zero, List.getElem?_cons_succ, List.set_cons_zero, List.set_cons_succ, if_true, if_false, ite_true, ite_false, reduceIte, Bool.false_eq_true, Option.map_some, eUnl, eTupL, eDGet, opMax2, opMin2, opIDiv, opIMod, sParT, storeT, eChn, opLenD, opStr, zk1, zk2, zk3, zk4, zk5, zk6, zk7, zk8, zk0, Nat.reduceAdd, Nat.reduceSub, gLst, e1, e2, e3, e4, opNe_bl, beq_self_eq_true, Bool.not_true, if_pos hr, eLC, wipeS, backS, e6, e5]
theorem c6_at {x0 x1 x2 x3 x4 x5 x6 x7 x8 x9 x10 x11 x12 x13 x14 x15 x16 x17 x18 x19 x20 x21 x22 x23 x24 x25 x26 x27 x28 x29 x30 : Option (Bool × T)} {n : Int} (h0 : 1 ≤ n) (h1 : n ≤ 5000) (ob : List OV) : c6 ⟨[x0, x1, x2, x3, x4, x5, x6, x7, x8, x9, x10, sI n, x12, x13, x14, x15, x16, x17, x18, x19, x20, x21, x22, x23, x24, x25, x26, x27, x28, x29, x30], ob⟩ = .nxt ⟨[x0, x1, x2, x3, x4, x5, x6, x7, x8, x9, x10, sI n, x12, x13, x14, x15, x16, x17, x18, x19, x20, x21, x22, x23, x24, x25, x26, x27, x28, x29, x30], ob⟩ := by
  have e1 := div_eq h0 h1 ob
  have hr : (-4611686018427387904 ≤ (1 : Int) ∧ (1 : Int) < 4611686018427387904) ∧ (-4611686018427387904 ≤ n + 1 ∧ n + 1 < 4611686018427387904) := by omega
  have e2 := compI (vs := [30]) (g := gSet 30) (c := (tTst (eBin opEq (eBin opMul (eBin opDiv (eVar 11) (eVar 30)) (eVar 30)) (eVar 11)))) (e := eVar 30) (s0 := ⟨[x0, x1, x2, x3, x4, x5, x6, x7, x8, x9, x10, sI n, x12, x13, x14, x15, x16, x17, x18, x19, x20, x21, x22, x23, x24, x25, x26, x27, x28, x29, none], ob⟩) (fun i => decide (n / i * i = n)) T.int (rI 1 n.toNat) (by rw [rI_len]; omega) (fun i hi => by
    obtain ⟨i1, i2⟩ := rI_mem.mp hi
    have m2 : mulOk (n / i) i = true := mulOk_r (by omega)
    have hd := divOk (j := i) (a := 30) (by omega) (by omega) (by decide) (by decide)
    refine ⟨⟨[x0, x1, x2, x3, x4, x5, x6, x7, x8, x9, x10, sI n, x12, x13, x14, x15, x16, x17, x18, x19, x20, x21, x22, x23, x24, x25, x26, x27, x28, x29, sI i], ob⟩, by simp only [mkFn, sCons, sNil, sSet, setOf, sExpr, sRet, retOf, sRetN, sIf, sRaise, sAug, sAsg, toS, gSet, gNil, gCons, gTup, gSub, sPar, storeAll, eC, eVar, eBin, eUn, eTup, eLst, eLstO, eIf, eAnd, eOr, eNot, eIs, isN, aNil, aCons, aoNil, aoCons, own, peek, frz, view, out1, out1_val, out1_tmp, R.bind, R.bindS, tTst, tAndS, tOrS, tNotS, eCall, afterF, sFor, iRng1, iRng2, iSeq, itemsOf, opAdd, opSub, opMul, opDiv, opMod, opPow, opNeg, opIMul, opIAdd, opLt, opLe, opGt, opGe, opEq_int, opNe_int, opLen, opAbs, opInt, opList, opTuple, opIx, eApp, isL, wr, List.map_cons, List.map_nil, List.length_cons, List.length_nil, List.replicate_succ, List.replicate_zero, List.cons_append, List.nil_append, List.append_nil, List.getElem?_cons_zero, List.getElem?_cons_succ, List.set_cons_zero, List.set_cons_succ, if_true, if_false, ite_true, ite_false, reduceIte, Bool.false_eq_true, Option.map_some, eUnl, eTupL, eDGet, opMax2, opMin2, opIDiv, opIMod, sParT, storeT, eChn, opLenD, opStr, zk1, zk2, zk3, zk4, zk5, zk6, zk7, zk8, zk0, Nat.reduceAdd, Nat.reduceSub, gLst], rfl, ?_, ?_⟩
    · simp only [mkFn, sCons, sNil, sSet, setOf, sExpr, sRet, retOf, sRetN, sIf, sRaise, sAug, sAsg, toS, gSet, gNil, gCons, gTup, gSub, sPar, storeAll, eC, eVar, eBin, eUn, eTup, eLst, eLstO, eIf, eAnd, eOr, eNot, eIs, isN, aNil, aCons, aoNil, aoCons, own, peek, frz, view, out1, out1_val, out1_tmp, R.bind, R.bindS, tTst, tAndS, tOrS, tNotS, eCall, afterF, sFor, iRng1, iRng2, iSeq, itemsOf, opAdd, opSub, opMul, opDiv, opMod, opPow, opNeg, opIMul, opIAdd, opLt, opLe, opGt, opGe, opEq_int, opNe_int, opLen, opAbs, opInt, opList, opTuple, opIx, eApp, isL, wr, List.map_cons, List.map_nil, List.length_cons, List.length_nil, List.replicate_succ, List.replicate_zero, List.cons_append, List.nil_append, List.append_nil, List.getElem?_cons_zero, List.getElem?_cons_succ, List.set_cons_zero, List.set_cons_succ, if_true, if_false, ite_true, ite_false, reduceIte, Bool.false_eq_true, Option.map_some, eUnl, eTupL, eDGet, opMax2, opMin2, opIDiv, opIMod, sParT, storeT, eChn, opLenD, opStr, zk1, zk2, zk3, zk4, zk5, zk6, zk7, zk8, zk0, Nat.reduceAdd, Nat.reduceSub, gLst, if_pos hd, m2]
    · intro _
      simp only [mkFn, sCons, sNil, sSet, setOf, sExpr, sRet, retOf, sRetN, sIf, sRaise, sAug, sAsg, toS, gSet, gNil, gCons, gTup, gSub, sPar, storeAll, eC, eVar, eBin, eUn, eTup, eLst, eLstO, eIf, eAnd, eOr, eNot, eIs, isN, aNil, aCons, aoNil, aoCons, own, peek, frz, view, out1, out1_val, out1_tmp, R.bind, R.bindS, tTst, tAndS, tOrS, tNotS, eCall, afterF, sFor, iRng1, iRng2, iSeq, itemsOf, opAdd, opSub, opMul, opDiv, opMod, opPow, opNeg, opIMul, opIAdd, opLt, opLe, opGt, opGe, opEq_int, opNe_int, opLen, opAbs, opInt, opList, opTuple, opIx, eApp, isL, wr, List.map_cons, List.map_nil, List.length_cons, List.length_nil, List.replicate_succ, List.replicate_zero, List.cons_append, List.nil_append, List.append_nil, List.getElem?_cons_zero, List.getElem?_cons_succ, List.set_cons_zero, List.set_cons_succ, if_true, if_false, ite_true, ite_false, reduceIte, Bool.false_eq_true, Option.map_some, eUnl, eTupL, eDGet, opMax2, opMin2, opIDiv, opIMod, sParT, storeT, eChn, opLenD, opStr, zk1, zk2, zk3, zk4, zk5, zk6, zk7, zk8, zk0, Nat.reduceAdd, Nat.reduceSub, gLst])
  have e3 := opNe_li (List.filter (fun i => decide (n / i * i = n)) (rI 1 n.toNat)) (List.filter (fun i => decide (n / i * i = n)) (rI 1 n.toNat))
  rw [decide_eq_true rfl] at e3
  have er : rngT 1 (n + 1 - 1).toNat = (rI 1 n.toNat).map T.int := by rw [show n + 1 - 1 = n by omega]; exact rng_map _ _
  unfold c6 lb6_law
  simp only [mkFn, sCons, sNil, sSet, setOf, sExpr, sRet, retOf, sRetN, sIf, sRaise, sAug, sAsg, toS, gSet, gNil, gCons, gTup, gSub, sPar, storeAll, eC, eVar, eBin, eUn, eTup, eLst, eLstO, eIf, eAnd, eOr, eNot, eIs, isN, aNil, aCons, aoNil, aoCons, own, peek, frz, view, out1, out1_val, out1_tmp, R.bind, R.bindS, tTst, tAndS, tOrS, tNotS, eCall, afterF, sFor, iRng1, iRng2, iSeq, itemsOf, opAdd, opSub, opMul, opDiv, opMod, opPow, opNeg, opIMul, opIAdd, opLt, opLe, opGt, opGe, opEq_int, opNe_int, opLen, opAbs, opInt, opList, opTuple, opIx, eApp, isL, wr, List.map_cons, List.map_nil, List.length_cons, List.length_nil, List.replicate_succ, List.replicate_zero, List.cons_append, List.nil_append, List.append_nil, List.getElem?_cons_zero, List.getElem?_cons_succ, List.set_cons_zero, List.set_cons_succ, if_true, if_false, ite_true, ite_false, reduceIte, Bool.false_eq_true, Option.map_some, eUnl, eTupL, eDGet, opMax2, opMin2, opIDiv, opIMod, sParT, storeT, eChn, opLenD, opStr, zk1, zk2, zk3, zk4, zk5, zk6, zk7, zk8, zk0, Nat.reduceAdd, Nat.reduceSub, gLst, e1, if_pos hr, er, eLC, wipeS, backS, e2, e3, Bool.not_true]
end K01

-- slots 31
set_option exponentiation.threshold 3000
namespace K01
open Sv
abbrev c7 : S → RS := lb7_law F__law_rounds F_bezout F_prime_factors F_root_below F_convergents F__law_large F__law_roll F__law_convergents F__law_frac F__law_times F_is_prime F__law_gcd F_common_divisor F_inverse F_power F_power_by F__law_prime F_divisors F_rational F_sum_of F__law_plus F_product_of F_difference_of F_compared F_sign F_rational_text F_next_prime F_remainders_joined F_raised F__law_long F_quotient_of opSrt
abbrev c8 : S → RS := lb8_law F__law_rounds F_bezout F_prime_factors F_root_below F_convergents F__law_large F__law_roll F__law_convergents F__law_frac F__law_times F_is_prime F__law_gcd F_common_divisor F_inverse F_power F_power_by F__law_prime F_divisors F_rational F_sum_of F__law_plus F_product_of F_difference_of F_compared F_sign F_rational_text F_next_prime F_remainders_joined F_raised F__law_long F_quotient_of opSrt
abbrev c9 : S → RS := lb9_law F__law_rounds F_bezout F_prime_factors F_root_below F_convergents F__law_large F__law_roll F__law_convergents F__law_frac F__law_times F_is_prime F__law_gcd F_common_divisor F_inverse F_power F_power_by F__law_prime F_divisors F_rational F_sum_of F__law_plus F_product_of F_difference_of F_compared F_sign F_rational_text F_next_prime F_remainders_joined F_raised F__law_long F_quotient_of opSrt
def rsE : S → R Res := (eTup (aCons (eCall (F__law_roll 1) (aCons (eVar 1) (aCons (eC (.int 40)) aNil))) (aCons (eBin opAdd (eC (.int 1)) (eCall (F__law_roll 1) (aCons (eVar 1) (aCons (eC (.int 30)) aNil)))) aNil)))
theorem rs_comp {x0 x1 x2 x3 x4 x5 x6 x7 x8 x9 x10 x11 x12 x13 x14 x15 x16 x17 x18 x19 x20 x21 x22 x23 x24 x25 x26 x27 x28 x29 x30 : Option (Bool × T)} : ∀ (n : Nat) (lo : Int) (acc : List (Int × Int)) (a b c : Int), acc.length + n ≤ 1000 → ∃ (rows : List (Int × Int)) (a' b' c' : Int), rows.length = n ∧ (∀ q ∈ rows, 0 ≤ q.1 ∧ q.1 < 100 ∧ 1 ≤ q.2 ∧ q.2 ≤ 30) ∧
    compL [30] (gSet 30) cYes rsE (rngT lo n) (acc.map pT) ⟨[x0, sO, x2, x3, x4, x5, x6, x7, x8, x9, x10, x11, x12, x13, x14, x15, x16, x17, x18, x19, x20, x21, x22, x23, x24, x25, x26, x27, x28, x29, none], [D3 a b c]⟩ = .ok ((acc ++ rows).map pT) ⟨[x0, sO, x2, x3, x4, x5, x6, x7, x8, x9, x10, x11, x12, x13, x14, x15, x16, x17, x18, x19, x20, x21, x22, x23, x24, x25, x26, x27, x28, x29, none], [D3 a' b' c']⟩
  | 0, lo, acc, a, b, c, _ => ⟨[], a, b, c, rfl, fun q hq => absurd hq List.not_mem_nil, by rw [List.append_nil]; rfl⟩
  | n + 1, lo, acc, a, b, c, hz => by
    obtain ⟨r, a1, b1, c1, r0, r1, e1⟩ := roll0 40 a b c (by decide) (by decide)
    obtain ⟨q, a2, b2, c2, q0, q1, e2⟩ := roll0 30 a1 b1 c1 (by decide) (by decide)
    obtain ⟨rows, a3, b3, c3, h1, h2, h3⟩ := rs_comp (x0 := x0) (x1 := x1) (x2 := x2) (x3 := x3) (x4 := x4) (x5 := x5) (x6 := x6) (x7 := x7) (x8 := x8) (x9 := x9) (x10 := x10) (x11 := x11) (x12 := x12) (x13 := x13) (x14 := x14) (x15 := x15) (x16 := x16) (x17 := x17) (x18 := x18) (x19 := x19) (x20 := x20) (x21 := x21) (x22 := x22) (x23 := x23) (x24 := x24) (x25 := x25) (x26 := x26) (x27 := x27) (x28 := x28) (x29 := x29) (x30 := x30) n (lo + 1) (acc ++ [(r, 1 + q)]) a2 b2 c2 (by rw [List.length_append]; show acc.length + 1 + n ≤ 1000; omega)
    have zk : szok ((acc.map pT).length + 1) = true := decide_eq_true (by rw [List.length_map]; omega)
    have he : rsE ⟨[x0, sO, x2, x3, x4, x5, x6, x7, x8, x9, x10, x11, x12, x13, x14, x15, x16, x17, x18, x19, x20, x21, x22, x23, x24, x25, x26, x27, x28, x29, sI lo], [D3 a b c]⟩ = .ok (.val (pT (r, 1 + q))) ⟨[x0, sO, x2, x3, x4, x5, x6, x7, x8, x9, x10, x11, x12, x13, x14, x15, x16, x17, x18, x19, x20, x21, x22, x23, x24, x25, x26, x27, x28, x29, sI lo], [D3 a2 b2 c2]⟩ := by
      unfold rsE pT
      simp only [mkFn, sCons, sNil, sSet, setOf, sExpr, sRet, retOf, sRetN, sIf, sRaise, sAug, sAsg, toS, gSet, gNil, gCons, gTup, gSub, sPar, storeAll, eC, eVar, eBin, eUn, eTup, eLst, eLstO, eIf, eAnd, eOr, eNot, eIs, isN, aNil, aCons, aoNil, aoCons, own, peek, frz, view, out1, out1_val, out1_tmp, R.bind, R.bindS, tTst, tAndS, tOrS, tNotS, eCall, afterF, sFor, iRng1, iRng2, iSeq, itemsOf, opAdd, opSub, opMul, opDiv, opMod, opPow, opNeg, opIMul, opIAdd, opLt, opLe, opGt, opGe, opEq_int, opNe_int, opLen, opAbs, opInt, opList, opTuple, opIx, eApp, isL, wr, List.map_cons, List.map_nil, List.length_cons, List.length_nil, List.replicate_succ, List.replicate_zero, List.cons_append, List.nil_append, List.append_nil, List.getElem?_cons_zero, List.getElem?_cons_succ, List.set_cons_zero, List.set_cons_succ, if_true, if_false, ite_true, ite_false, reduceIte, Bool.false_eq_true, Option.map_some, eUnl, eTupL, eDGet, opMax2, opMin2, opIDiv, opIMod, sParT, storeT, eChn, opLenD, opStr, zk1, zk2, zk3, zk4, zk5, zk6, zk7, zk8, zk0, Nat.reduceAdd, Nat.reduceSub, gLst, e1, e2]
    refine ⟨(r, 1 + q) :: rows, a3, b3, c3, by rw [List.length_cons, h1], ?_, ?_⟩
    · intro p hp
      rcases List.mem_cons.mp hp with rfl | hp
      · exact ⟨r0, by show r < 100; omega, by show 1 ≤ 1 + q; omega, by show 1 + q ≤ 30; omega⟩
      · exact h2 p hp
    · rw [rngT_succ, compL]
      simp only [gSet, List.set_cons_zero, List.set_cons_succ, cYes]
      rw [he]
      simp only [frz, zk, if_true]
      rw [show acc.map pT ++ [pT (r, 1 + q)] = (acc ++ [(r, 1 + q)]).map pT by rw [List.map_append]; rfl]
      rw [List.append_cons acc (r, 1 + q) rows]
      exact h3
theorem wl_pos : ∀ {l : List (Int × Int)} {B : Int}, 1 ≤ B → (∀ q ∈ l, 1 ≤ q.2 ∧ q.2 ≤ 30) → 1 ≤ wl B l ∧ wl B l ≤ B * 30 ^ l.length
  | [], B, h, _ => ⟨h, by show B ≤ B * 1; omega⟩
  | q :: l, B, h, hq => by
    obtain ⟨q1, q2⟩ := hq q List.mem_cons_self
    have g0 : 0 < Int.gcd B q.2 := Int.gcd_pos_of_ne_zero_left _ (by omega)
    have gd := Int.gcd_dvd_left B q.2
    have e := Int.ediv_mul_cancel gd
    generalize (Int.gcd B q.2 : Int) = g at *
    have hc : 1 ≤ B / (Int.gcd B q.2 : Int) := by
      refine Classical.byContradiction fun z => ?_
      have e := Int.ediv_mul_cancel (Int.gcd_dvd_left B q.2)
      have := Int.mul_nonpos_of_nonpos_of_nonneg (show B / (Int.gcd B q.2 : Int) ≤ 0 by omega) (show 0 ≤ (Int.gcd B q.2 : Int) by omega)
      omega
    have hc2 : B / (Int.gcd B q.2 : Int) ≤ B := by
      have e := Int.ediv_mul_cancel (Int.gcd_dvd_left B q.2)
      have := Int.mul_le_mul_of_nonneg_left (show (1 : Int) ≤ (Int.gcd B q.2 : Int) by omega) (show 0 ≤ B / (Int.gcd B q.2 : Int) by omega)
      omega
    have h1 : 1 ≤ B / (Int.gcd B q.2 : Int) * q.2 := by
      have := Int.mul_le_mul_of_nonneg_left q1 (show 0 ≤ B / (Int.gcd B q.2 : Int) by omega)
      omega
    obtain ⟨w1, w2⟩ := wl_pos (l := l) h1 fun p hp => hq p (List.mem_cons_of_mem _ hp)
    refine ⟨w1, ?_⟩
    have h3 : B / (Int.gcd B q.2 : Int) * q.2 ≤ B * 30 := Int.mul_le_mul hc2 q2 (by omega) (by omega)
    have h4 := Int.mul_le_mul_of_nonneg_right h3 (show 0 ≤ (30 : Int) ^ l.length by have := le_pow (show (1 : Int) ≤ 30 by decide) l.length; omega)
    rw [List.length_cons, Int.pow_succ, ← Int.mul_assoc, Int.mul_right_comm]
    show wl (B / (Int.gcd B q.2 : Int) * q.2) l ≤ _
    omega
def wlB : S → RS := (sSet 17 (eBin opMul (eBin opDiv (eVar 17) (eCall F__law_gcd (aCons (eVar 17) (aCons (eVar 19) aNil)))) (eVar 19)))
theorem wl_run {x0 x1 x2 x3 x4 x5 x6 x7 x8 x9 x10 x11 x12 x13 x14 x15 x16 x17 x18 x19 x20 x21 x22 x23 x24 x25 x26 x27 x28 x29 x30 : Option (Bool × T)} (ob : List OV) : ∀ (rows : List (Int × Int)) (B : Int) (y18 y19 : Option (Bool × T)), 1 ≤ B → (∀ q ∈ rows, 1 ≤ q.2 ∧ q.2 ≤ 30) → B * 30 ^ rows.length ≤ 1000000 →
    ∃ z18 z19, forL (gTup 2 (gCons (gSet 18) (gCons (gSet 19) gNil))) wlB (rows.map pT) ⟨[x0, x1, x2, x3, x4, x5, x6, x7, x8, x9, x10, x11, x12, x13, x14, x15, x16, sI B, y18, y19, x20, x21, x22, x23, x24, x25, x26, x27, x28, x29, x30], ob⟩ = .nxt ⟨[x0, x1, x2, x3, x4, x5, x6, x7, x8, x9, x10, x11, x12, x13, x14, x15, x16, sI (wl B rows), z18, z19, x20, x21, x22, x23, x24, x25, x26, x27, x28, x29, x30], ob⟩
  | [], B, y18, y19, _, _, _ => ⟨y18, y19, rfl⟩
  | (r, p) :: l, B, y18, y19, h, hq, hz => by
    obtain ⟨q1, q2⟩ := hq (r, p) List.mem_cons_self
    have q1 : 1 ≤ p := q1
    have q2 : p ≤ 30 := q2
    have hz : B * 30 ^ (l.length + 1) ≤ 1000000 := hz
    have h30 := le_pow (show (1 : Int) ≤ 30 by decide) l.length
    rw [Int.pow_succ, ← Int.mul_assoc, Int.mul_right_comm] at hz
    have hB : B ≤ 1000000 := by
      have := Int.mul_le_mul_of_nonneg_left h30 (show 0 ≤ B * 30 by omega)
      omega
    have g0 : 0 < Int.gcd B p := Int.gcd_pos_of_ne_zero_left _ (by omega)
    have hc : 1 ≤ B / (Int.gcd B p : Int) := by
      refine Classical.byContradiction fun z => ?_
      have e := Int.ediv_mul_cancel (Int.gcd_dvd_left B p)
      have := Int.mul_nonpos_of_nonpos_of_nonneg (show B / (Int.gcd B p : Int) ≤ 0 by omega) (show 0 ≤ (Int.gcd B p : Int) by omega)
      omega
    have hc2 : B / (Int.gcd B p : Int) ≤ B := by
      have e := Int.ediv_mul_cancel (Int.gcd_dvd_left B p)
      have := Int.mul_le_mul_of_nonneg_left (show (1 : Int) ≤ (Int.gcd B p : Int) by omega) (show 0 ≤ B / (Int.gcd B p : Int) by omega)
      omega
    have hgB : (Int.gcd B p : Int) ≤ B := le_of_dvd h (Int.gcd_dvd_left _ _)
    have h1 : 1 ≤ B / (Int.gcd B p : Int) * p := by
      have := Int.mul_le_mul_of_nonneg_left q1 (show 0 ≤ B / (Int.gcd B p : Int) by omega)
      omega
    have h3 : B / (Int.gcd B p : Int) * p ≤ B * 30 := Int.mul_le_mul hc2 q2 (by omega) (by omega)
    have h4 := Int.mul_le_mul_of_nonneg_right h3 (show 0 ≤ (30 : Int) ^ l.length by omega)
    have hg := law_gcd (a := B) (b := p) (Nat.lt_of_le_of_lt (m := 1000000) (by omega) (by decide)) (Nat.lt_of_le_of_lt (m := 1000000) (by omega) (by decide)) ob
    have hd := divOk (j := (Int.gcd B p : Int)) (a := 30) (by omega) (by omega) (by decide) (by decide)
    have m1 : mulOk (B / (Int.gcd B p : Int)) p = true := mulOk_r (by omega)
    obtain ⟨z18, z19, e⟩ := wl_run (x0 := x0) (x1 := x1) (x2 := x2) (x3 := x3) (x4 := x4) (x5 := x5) (x6 := x6) (x7 := x7) (x8 := x8) (x9 := x9) (x10 := x10) (x11 := x11) (x12 := x12) (x13 := x13) (x14 := x14) (x15 := x15) (x16 := x16) (x17 := x17) (x18 := x18) (x19 := x19) (x20 := x20) (x21 := x21) (x22 := x22) (x23 := x23) (x24 := x24) (x25 := x25) (x26 := x26) (x27 := x27) (x28 := x28) (x29 := x29) (x30 := x30) ob l (B / (Int.gcd B p : Int) * p) (sI r) (sI p) h1 (fun q hq' => hq q (List.mem_cons_of_mem _ hq')) (by omega)
    refine ⟨z18, z19, ?_⟩
    rw [List.map_cons, forL_cons_nxt (s1 := ⟨[x0, x1, x2, x3, x4, x5, x6, x7, x8, x9, x10, x11, x12, x13, x14, x15, x16, sI B, sI r, sI p, x20, x21, x22, x23, x24, x25, x26, x27, x28, x29, x30], ob⟩) (s2 := ⟨[x0, x1, x2, x3, x4, x5, x6, x7, x8, x9, x10, x11, x12, x13, x14, x15, x16, sI (B / (Int.gcd B p : Int) * p), sI r, sI p, x20, x21, x22, x23, x24, x25, x26, x27, x28, x29, x30], ob⟩) ?_ ?_, e]
    · rfl
    · unfold pT
      simp only [mkFn, sCons, sNil, sSet, setOf, sExpr, sRet, retOf, sRetN, sIf, sRaise, sAug, sAsg, toS, gSet, gNil, gCons, gTup, gSub, sPar, storeAll, eC, eVar, eBin, eUn, eTup, eLst, eLstO, eIf, eAnd, eOr, eNot, eIs, isN, aNil, aCons, aoNil, aoCons, own, peek, frz, view, out1, out1_val, out1_tmp, R.bind, R.bindS, tTst, tAndS, tOrS, tNotS, eCall, afterF, sFor, iRng1, iRng2, iSeq, itemsOf, opAdd, opSub, opMul, opDiv, opMod, opPow, opNeg, opIMul, opIAdd, opLt, opLe, opGt, opGe, opEq_int, opNe_int, opLen, opAbs, opInt, opList, opTuple, opIx, eApp, isL, wr, List.map_cons, List.map_nil, List.length_cons, List.length_nil, List.replicate_succ, List.replicate_zero, List.cons_append, List.nil_append, List.append_nil, List.getElem?_cons_zero, List.getElem?_cons_succ, List.set_cons_zero, List.set_cons_succ, if_true, if_false, ite_true, ite_false, reduceIte, Bool.false_eq_true, Option.map_some, eUnl, eTupL, eDGet, opMax2, opMin2, opIDiv, opIMod, sParT, storeT, eChn, opLenD, opStr, zk1, zk2, zk3, zk4, zk5, zk6, zk7, zk8, zk0, Nat.reduceAdd, Nat.reduceSub, gLst]
    · unfold wlB
      simp only [mkFn, sCons, sNil, sSet, setOf, sExpr, sRet, retOf, sRetN, sIf, sRaise, sAug, sAsg, toS, gSet, gNil, gCons, gTup, gSub, sPar, storeAll, eC, eVar, eBin, eUn, eTup, eLst, eLstO, eIf, eAnd, eOr, eNot, eIs, isN, aNil, aCons, aoNil, aoCons, own, peek, frz, view, out1, out1_val, out1_tmp, R.bind, R.bindS, tTst, tAndS, tOrS, tNotS, eCall, afterF, sFor, iRng1, iRng2, iSeq, itemsOf, opAdd, opSub, opMul, opDiv, opMod, opPow, opNeg, opIMul, opIAdd, opLt, opLe, opGt, opGe, opEq_int, opNe_int, opLen, opAbs, opInt, opList, opTuple, opIx, eApp, isL, wr, List.map_cons, List.map_nil, List.length_cons, List.length_nil, List.replicate_succ, List.replicate_zero, List.cons_append, List.nil_append, List.append_nil, List.getElem?_cons_zero, List.getElem?_cons_succ, List.set_cons_zero, List.set_cons_succ, if_true, if_false, ite_true, ite_false, reduceIte, Bool.false_eq_true, Option.map_some, eUnl, eTupL, eDGet, opMax2, opMin2, opIDiv, opIMod, sParT, storeT, eChn, opLenD, opStr, zk1, zk2, zk3, zk4, zk5, zk6, zk7, zk8, zk0, Nat.reduceAdd, Nat.reduceSub, gLst, hg, if_pos hd, m1]
/-- who fits -/
noncomputable def fit (rows : List (Int × Int)) (k : Int) : Bool := @decide (Fits rows k) (Classical.propDecidable _)
theorem fit_t {rows : List (Int × Int)} {k : Int} : fit rows k = true ↔ Fits rows k := by
  unfold fit
  exact @decide_eq_true_iff _ (Classical.propDecidable _)
/-- a comprehension of ones over rows -/
theorem compP {vs : List Nat} {g : T → S → R Unit} {c : S → R Bool} {e : S → R Res} {s0 : S} (p : Int × Int → Bool) (rows : List (Int × Int)) (hz : rows.length ≤ 1000000)
    (h : ∀ q ∈ rows, ∃ s1, g (pT q) s0 = .ok () s1 ∧ (⟨wipeS s1.sl vs, s1.ob⟩ : S) = s0 ∧ c s1 = .ok (p q) s1 ∧ e s1 = .ok (.val (.int 1)) s1) :
    compL vs g c e (rows.map pT) [] s0 = .ok (((rows.filter p).map fun _ => (1 : Int)).map T.int) s0 := by
  rw [compL_pure (fun t => match t with | .tup [.int a, .int b] => if p (a, b) = true then some (.int 1) else none | _ => none)]
  · rw [List.nil_append, List.filterMap_map]
    congr 1
    show List.filterMap (fun q : Int × Int => if p q = true then some (T.int 1) else none) rows = _
    clear h hz
    induction rows with
    | nil => rfl
    | cons q r ih =>
      by_cases hp : p q = true
      · rw [List.filterMap_cons, if_pos hp, List.filter_cons, if_pos hp, List.map_cons, List.map_cons, ih]
      · rw [List.filterMap_cons, if_neg hp, List.filter_cons, if_neg hp, ih]
  · intro t ht
    obtain ⟨q, hq, rfl⟩ := List.mem_map.mp ht
    obtain ⟨s1, h1, h2, h3, h4⟩ := h q hq
    refine ⟨s1, h1, h2, ?_⟩
    cases hp : p q with
    | false => exact .inl ⟨by simp [pT, hp], by rw [h3, hp]⟩
    | true => exact .inr ⟨.int 1, by simp [pT, hp], by rw [h3, hp], h4⟩
  · rw [List.length_map]; show 0 + rows.length ≤ 1000000; omega
def ftC : S → R Bool := (tTst (eBin opEq (eLC [18, 19] (iSeq (eVar 16)) (gTup 2 (gCons (gSet 18) (gCons (gSet 19) gNil))) (tTst (eBin opNe (eBin opMod (eBin opSub (eVar 30) (eVar 18)) (eVar 19)) (eC (.int 0)))) (eC (.int 1))) (eLst aNil)))
theorem ft_at {x0 x1 x2 x3 x4 x5 x6 x7 x8 x9 x10 x11 x12 x13 x14 x15 x16 x17 x18 x19 x20 x21 x22 x23 x24 x25 x26 x27 x28 x29 x30 : Option (Bool × T)} {rows : List (Int × Int)} (hq : ∀ q ∈ rows, 1 ≤ q.2) (hz : rows.length ≤ 3) (k : Int) (ob : List OV) : ftC ⟨[x0, x1, x2, x3, x4, x5, x6, x7, x8, x9, x10, x11, x12, x13, x14, x15, some (false, .lst (rows.map pT)), x17, x18, x19, x20, x21, x22, x23, x24, x25, x26, x27, x28, x29, sI k], ob⟩ = .ok (fit rows k) ⟨[x0, x1, x2, x3, x4, x5, x6, x7, x8, x9, x10, x11, x12, x13, x14, x15, some (false, .lst (rows.map pT)), x17, x18, x19, x20, x21, x22, x23, x24, x25, x26, x27, x28, x29, sI k], ob⟩ := by
  have e := compP (vs := [18, 19]) (g := gTup 2 (gCons (gSet 18) (gCons (gSet 19) gNil))) (c := (tTst (eBin opNe (eBin opMod (eBin opSub (eVar 30) (eVar 18)) (eVar 19)) (eC (.int 0))))) (e := eC (.int 1)) (s0 := ⟨[x0, x1, x2, x3, x4, x5, x6, x7, x8, x9, x10, x11, x12, x13, x14, x15, some (false, .lst (rows.map pT)), x17, none, none, x20, x21, x22, x23, x24, x25, x26, x27, x28, x29, sI k], ob⟩) (fun q => !decide ((k - q.1) % q.2 = 0)) rows (by omega) (fun q hq' => by
    have hp : 0 < q.2 := by have := hq q hq'; omega
    refine ⟨⟨[x0, x1, x2, x3, x4, x5, x6, x7, x8, x9, x10, x11, x12, x13, x14, x15, some (false, .lst (rows.map pT)), x17, sI q.1, sI q.2, x20, x21, x22, x23, x24, x25, x26, x27, x28, x29, sI k], ob⟩, ?_, rfl, ?_, ?_⟩
    · unfold pT
      simp only [mkFn, sCons, sNil, sSet, setOf, sExpr, sRet, retOf, sRetN, sIf, sRaise, sAug, sAsg, toS, gSet, gNil, gCons, gTup, gSub, sPar, storeAll, eC, eVar, eBin, eUn, eTup, eLst, eLstO, eIf, eAnd, eOr, eNot, eIs, isN, aNil, aCons, aoNil, aoCons, own, peek, frz, view, out1, out1_val, out1_tmp, R.bind, R.bindS, tTst, tAndS, tOrS, tNotS, eCall, afterF, sFor, iRng1, iRng2, iSeq, itemsOf, opAdd, opSub, opMul, opDiv, opMod, opPow, opNeg, opIMul, opIAdd, opLt, opLe, opGt, opGe, opEq_int, opNe_int, opLen, opAbs, opInt, opList, opTuple, opIx, eApp, isL, wr, List.map_cons, List.map_nil, List.length_cons, List.length_nil, List.replicate_succ, List.replicate_zero, List.cons_append, List.nil_append, List.append_nil, List.getElem?_cons_zero, List.getElem?_cons_succ, List.set_cons_zero, List.set_cons_succ, if_true, if_false, ite_true, ite_false, reduceIte, Bool.false_eq_true, Option.map_some, eUnl, eTupL, eDGet, opMax2, opMin2, opIDiv, opIMod, sParT, storeT, eChn, opLenD, opStr, zk1, zk2, zk3, zk4, zk5, zk6, zk7, zk8, zk0, Nat.reduceAdd, Nat.reduceSub, gLst]
    · simp only [mkFn, sCons, sNil, sSet, setOf, sExpr, sRet, retOf, sRetN, sIf, sRaise, sAug, sAsg, toS, gSet, gNil, gCons, gTup, gSub, sPar, storeAll, eC, eVar, eBin, eUn, eTup, eLst, eLstO, eIf, eAnd, eOr, eNot, eIs, isN, aNil, aCons, aoNil, aoCons, own, peek, frz, view, out1, out1_val, out1_tmp, R.bind, R.bindS, tTst, tAndS, tOrS, tNotS, eCall, afterF, sFor, iRng1, iRng2, iSeq, itemsOf, opAdd, opSub, opMul, opDiv, opMod, opPow, opNeg, opIMul, opIAdd, opLt, opLe, opGt, opGe, opEq_int, opNe_int, opLen, opAbs, opInt, opList, opTuple, opIx, eApp, isL, wr, List.map_cons, List.map_nil, List.length_cons, List.length_nil, List.replicate_succ, List.replicate_zero, List.cons_append, List.nil_append, List.append_nil, List.getElem?_cons_zero, List.getElem?_cons_succ, List.set_cons_zero, List.set_cons_succ, if_true, if_false, ite_true, ite_false, reduceIte, Bool.false_eq_true, Option.map_some, eUnl, eTupL, eDGet, opMax2, opMin2, opIDiv, opIMod, sParT, storeT, eChn, opLenD, opStr, zk1, zk2, zk3, zk4, zk5, zk6, zk7, zk8, zk0, Nat.reduceAdd, Nat.reduceSub, gLst, if_pos hp]
    · simp only [mkFn, sCons, sNil, sSet, setOf, sExpr, sRet, retOf, sRetN, sIf, sRaise, sAug, sAsg, toS, gSet, gNil, gCons, gTup, gSub, sPar, storeAll, eC, eVar, eBin, eUn, eTup, eLst, eLstO, eIf, eAnd, eOr, eNot, eIs, isN, aNil, aCons, aoNil, aoCons, own, peek, frz, view, out1, out1_val, out1_tmp, R.bind, R.bindS, tTst, tAndS, tOrS, tNotS, eCall, afterF, sFor, iRng1, iRng2, iSeq, itemsOf, opAdd, opSub, opMul, opDiv, opMod, opPow, opNeg, opIMul, opIAdd, opLt, opLe, opGt, opGe, opEq_int, opNe_int, opLen, opAbs, opInt, opList, opTuple, opIx, eApp, isL, wr, List.map_cons, List.map_nil, List.length_cons, List.length_nil, List.replicate_succ, List.replicate_zero, List.cons_append, List.nil_append, List.append_nil, List.getElem?_cons_zero, List.getElem?_cons_succ, List.set_cons_zero, List.set_cons_succ, if_true, if_false, ite_true, ite_false, reduceIte, Bool.false_eq_true, Option.map_some, eUnl, eTupL, eDGet, opMax2, opMin2, opIDiv, opIMod, sParT, storeT, eChn, opLenD, opStr, zk1, zk2, zk3, zk4, zk5, zk6, zk7, zk8, zk0, Nat.reduceAdd, Nat.reduceSub, gLst])
  have e2 := opEq_li ((rows.filter fun q => !decide ((k - q.1) % q.2 = 0)).map fun _ => (1 : Int)) []
  rw [List.map_nil] at e2
  have e3 : decide (((rows.filter fun q => !decide ((k - q.1) % q.2 = 0)).map fun _ => (1 : Int)) = []) = fit rows k := by
    rw [Bool.eq_iff_iff, decide_eq_true_iff, fit_t, List.map_eq_nil_iff, List.filter_eq_nil_iff]
    constructor
    · intro h q hq'
      have := h q hq'
      rw [Bool.not_eq_true, Bool.not_eq_false', decide_eq_true_iff] at this
      exact Int.dvd_of_emod_eq_zero this
    · intro h q hq'
      rw [Bool.not_eq_true, Bool.not_eq_false', decide_eq_true_iff]
      exact Int.emod_eq_zero_of_dvd (h q hq')
  rw [e3] at e2
  unfold ftC
  simp only [mkFn, sCons, sNil, sSet, setOf, sExpr, sRet, retOf, sRetN, sIf, sRaise, sAug, sAsg, toS, gSet, gNil, gCons, gTup, gSub, sPar, storeAll, eC, eVar, eBin, eUn, eTup, eLst, eLstO, eIf, eAnd, eOr, eNot, eIs, isN, aNil, aCons, aoNil, aoCons, own, peek, frz, view, out1, out1_val, out1_tmp, R.bind, R.bindS, tTst, tAndS, tOrS, tNotS, eCall, afterF, sFor, iRng1, iRng2, iSeq, itemsOf, opAdd, opSub, opMul, opDiv, opMod, opPow, opNeg, opIMul, opIAdd, opLt, opLe, opGt, opGe, opEq_int, opNe_int, opLen, opAbs, opInt, opList, opTuple, opIx, eApp, isL, wr, List.map_cons, List.map_nil, List.length_cons, List.length_nil, List.replicate_succ, List.replicate_zero, List.cons_append, List.nil_append, List.append_nil, List.getElem?_cons_zero, List.getElem?_cons_succ, List.set_cons_zero, List.set_cons_succ, if_true, if_false, ite_true, ite_false, reduceIte, Bool.false_eq_true, Option.map_some, eUnl, eTupL, eDGet, opMax2, opMin2, opIDiv, opIMod, sParT, storeT, eChn, opLenD, opStr, zk1, zk2, zk3, zk4, zk5, zk6, zk7, zk8, zk0, Nat.reduceAdd, Nat.reduceSub, gLst, eLC, wipeS, backS, e, e2]
end K01

-- slots 31
set_option exponentiation.threshold 3000
namespace K01
open Sv
theorem opNe_t2 (a b c d : Int) : opNe (.tup [.int a, .int b]) (.tup [.int c, .int d]) = some (false, .bl (!(decide (a = c) && decide (b = d)))) := by
  unfold opNe
  rw [if_pos ⟨rfl, rfl⟩]
  show some (false, T.bl (!((a == c) && ((b == d) && true)))) = _
  rw [Bool.and_true]
  rfl
theorem opIx_hd (i : Int) : opIx (.lst [.int i]) (.int 0) = some (false, .int i) := by rfl
theorem c7_at {x0 x1 x2 x3 x4 x5 x6 x7 x8 x9 x10 x11 x12 x13 x14 x15 x16 x17 x18 x19 x20 x21 x22 x23 x24 x25 x26 x27 x28 x29 x30 : Option (Bool × T)} (a b c : Int) : ∃ (a' b' c' : Int) (y16 y17 y18 y19 y20 : Option (Bool × T)), c7 ⟨[x0, sO, x2, x3, x4, x5, x6, x7, x8, x9, x10, x11, x12, x13, x14, x15, x16, x17, x18, x19, x20, x21, x22, x23, x24, x25, x26, x27, x28, x29, x30], [D3 a b c]⟩ = .nxt ⟨[x0, sO, x2, x3, x4, x5, x6, x7, x8, x9, x10, x11, x12, x13, x14, x15, y16, y17, y18, y19, y20, x21, x22, x23, x24, x25, x26, x27, x28, x29, x30], [D3 a' b' c']⟩ := by
  obtain ⟨n, a1, b1, c1, n0, n1, e1⟩ := roll0 4 a b c (by decide) (by decide)
  obtain ⟨rows, a2, b2, c2, hl, hq, e2⟩ := rs_comp (x0 := x0) (x1 := x1) (x2 := x2) (x3 := x3) (x4 := x4) (x5 := x5) (x6 := x6) (x7 := x7) (x8 := x8) (x9 := x9) (x10 := x10) (x11 := x11) (x12 := x12) (x13 := x13) (x14 := x14) (x15 := x15) (x16 := x16) (x17 := x17) (x18 := x18) (x19 := x19) (x20 := x20) (x21 := x21) (x22 := x22) (x23 := x23) (x24 := x24) (x25 := x25) (x26 := x26) (x27 := x27) (x28 := x28) (x29 := x29) (x30 := none) n.toNat 0 [] a1 b1 c1 (by rw [List.length_nil]; omega)
  rw [List.map_nil, List.nil_append] at e2
  have hq2 : ∀ q ∈ rows, 1 ≤ q.2 ∧ q.2 ≤ 30 := fun q h => ⟨(hq q h).2.2.1, (hq q h).2.2.2⟩
  have hl3 : rows.length ≤ 3 := by omega
  have hz : (1 : Int) * 30 ^ rows.length ≤ 1000000 := by
    have h4 : rows.length = 0 ∨ rows.length = 1 ∨ rows.length = 2 ∨ rows.length = 3 := by omega
    rcases h4 with h | h | h | h <;> rw [h] <;> decide
  obtain ⟨w1, w2⟩ := wl_pos (B := 1) (by decide) hq2
  obtain ⟨z18, z19, e3⟩ := wl_run (x0 := x0) (x1 := sO) (x2 := x2) (x3 := x3) (x4 := x4) (x5 := x5) (x6 := x6) (x7 := x7) (x8 := x8) (x9 := x9) (x10 := x10) (x11 := x11) (x12 := x12) (x13 := x13) (x14 := x14) (x15 := x15) (x16 := some (false, .lst (rows.map pT))) (x17 := none) (x18 := none) (x19 := none) (x20 := x20) (x21 := x21) (x22 := x22) (x23 := x23) (x24 := x24) (x25 := x25) (x26 := x26) (x27 := x27) (x28 := x28) (x29 := x29) (x30 := x30) [D3 a2 b2 c2] rows 1 x18 x19 (by decide) hq2 hz
  generalize hW : wl 1 rows = W at *
  have hr : -4611686018427387904 ≤ n ∧ n < 4611686018427387904 := by omega
  have hr2 : -4611686018427387904 ≤ W ∧ W < 4611686018427387904 := by omega
  have e4 := compI (vs := [30]) (g := gSet 30) (c := ftC) (e := eVar 30) (s0 := ⟨[x0, sO, x2, x3, x4, x5, x6, x7, x8, x9, x10, x11, x12, x13, x14, x15, some (false, .lst (rows.map pT)), sI W, z18, z19, x20, x21, x22, x23, x24, x25, x26, x27, x28, x29, none], [D3 a2 b2 c2]⟩) (fit rows) T.int (rI 0 W.toNat) (by rw [rI_len]; omega) (fun i hi => by
    refine ⟨⟨[x0, sO, x2, x3, x4, x5, x6, x7, x8, x9, x10, x11, x12, x13, x14, x15, some (false, .lst (rows.map pT)), sI W, z18, z19, x20, x21, x22, x23, x24, x25, x26, x27, x28, x29, sI i], [D3 a2 b2 c2]⟩, by simp only [mkFn, sCons, sNil, sSet, setOf, sExpr, sRet, retOf, sRetN, sIf, sRaise, sAug, sAsg, toS, gSet, gNil, gCons, gTup, gSub, sPar, storeAll, eC, eVar, eBin, eUn, eTup, eLst, eLstO, eIf, eAnd, eOr, eNot, eIs, isN, aNil, aCons, aoNil, aoCons, own, peek, frz, view, out1, out1_val, out1_tmp, R.bind, R.bindS, tTst, tAndS, tOrS, tNotS, eCall, afterF, sFor, iRng1, iRng2, iSeq, itemsOf, opAdd, opSub, opMul, opDiv, opMod, opPow, opNeg, opIMul, opIAdd, opLt, opLe, opGt, opGe, opEq_int, opNe_int, opLen, opAbs, opInt, opList, opTuple, opIx, eApp, isL, wr, List.map_cons, List.map_nil, List.length_cons, List.length_nil, List.replicate_succ, List.replicate_zero, List.cons_append, List.nil_append, List.append_nil, List.getElem?_cons_zero, List.getElem?_cons_succ, List.set_cons_zero, List.set_cons_succ, if_true, if_false, ite_true, ite_false, reduceIte, Bool.false_eq_true, Option.map_some, eUnl, eTupL, eDGet, opMax2, opMin2, opIDiv, opIMod, sParT, storeT, eChn, opLenD, opStr, zk1, zk2, zk3, zk4, zk5, zk6, zk7, zk8, zk0, Nat.reduceAdd, Nat.reduceSub, gLst], rfl, ft_at (x16 := none) (x30 := none) (fun q h => (hq2 q h).1) hl3 i _, ?_⟩
    intro _
    simp only [mkFn, sCons, sNil, sSet, setOf, sExpr, sRet, retOf, sRetN, sIf, sRaise, sAug, sAsg, toS, gSet, gNil, gCons, gTup, gSub, sPar, storeAll, eC, eVar, eBin, eUn, eTup, eLst, eLstO, eIf, eAnd, eOr, eNot, eIs, isN, aNil, aCons, aoNil, aoCons, own, peek, frz, view, out1, out1_val, out1_tmp, R.bind, R.bindS, tTst, tAndS, tOrS, tNotS, eCall, afterF, sFor, iRng1, iRng2, iSeq, itemsOf, opAdd, opSub, opMul, opDiv, opMod, opPow, opNeg, opIMul, opIAdd, opLt, opLe, opGt, opGe, opEq_int, opNe_int, opLen, opAbs, opInt, opList, opTuple, opIx, eApp, isL, wr, List.map_cons, List.map_nil, List.length_cons, List.length_nil, List.replicate_succ, List.replicate_zero, List.cons_append, List.nil_append, List.append_nil, List.getElem?_cons_zero, List.getElem?_cons_succ, List.set_cons_zero, List.set_cons_succ, if_true, if_false, ite_true, ite_false, reduceIte, Bool.false_eq_true, Option.map_some, eUnl, eTupL, eDGet, opMax2, opMin2, opIDiv, opIMod, sParT, storeT, eChn, opLenD, opStr, zk1, zk2, zk3, zk4, zk5, zk6, zk7, zk8, zk0, Nat.reduceAdd, Nat.reduceSub, gLst])
  have er : rngT 0 W.toNat = (rI 0 W.toNat).map T.int := rng_map _ _
  unfold ftC at e4
  unfold rsE at e2
  unfold wlB at e3
  have hfin : ∀ t1 : T, F_remainders_joined [.lst (rows.map pT)] [D3 a2 b2 c2] = .ok false t1 [D3 a2 b2 c2] ∨ F_remainders_joined [.lst (rows.map pT)] [D3 a2 b2 c2] = .exc "NumberError" [D3 a2 b2 c2] → True := fun _ _ => trivial
  rcases rj_eq (rows := rows) (fun q h => hq q h) hl3 [D3 a2 b2 c2] with ⟨f, hCI, e5⟩ | ⟨hno, e5⟩
  · rw [hW] at hCI e5
    have hf0 := hCI.f0
    have hf1 := hCI.f1
    have hfl : (rI 0 W.toNat).filter (fit rows) = [f] := by
      have hp : ∀ i ∈ rI 0 W.toNat, fit rows i = decide (i = f) := fun i hi => by
        obtain ⟨i1, i2⟩ := rI_mem.mp hi
        rw [Bool.eq_iff_iff, fit_t, decide_eq_true_iff, hCI.iff]
        constructor
        · intro ⟨k, hk⟩
          have hk1 : k < 1 := Classical.byContradiction fun z => by
            have := Int.mul_le_mul_of_nonneg_left (show 1 ≤ k by omega) (show 0 ≤ W by omega)
            omega
          have hk2 : -1 < k := Classical.byContradiction fun z => by
            have := Int.mul_le_mul_of_nonneg_left (show k ≤ -1 by omega) (show 0 ≤ W by omega)
            omega
          have hk0 : k = 0 := by omega
          rw [hk0, Int.mul_zero] at hk
          omega
        · rintro rfl
          exact ⟨0, by omega⟩
      rw [List.filter_congr hp]
      refine List.Perm.eq_of_pairwise (le := fun x y => x ≤ y) (fun x y _ _ h1 h2 => Int.le_antisymm h1 h2) ?_ (List.pairwise_singleton _ _) ?_
      · refine List.Pairwise.filter _ ?_
        unfold rI
        rw [List.pairwise_map]
        exact List.pairwise_lt_range.imp fun {a b} h => by omega
      · rw [List.perm_iff_count]
        intro i
        have nd1 : ((rI 0 W.toNat).filter fun i => decide (i = f)).Nodup := by
          refine List.Pairwise.filter _ ?_
          unfold rI
          rw [List.pairwise_map]
          exact List.pairwise_lt_range.imp fun {a b} h => by omega
        rw [nd1.count, (show [f].Nodup from List.pairwise_singleton _ _).count]
        have : i ∈ (rI 0 W.toNat).filter (fun i => decide (i = f)) ↔ i ∈ [f] := by
          rw [List.mem_filter, rI_mem, decide_eq_true_iff, List.mem_singleton]
          constructor
          · exact fun h => h.2
          · rintro rfl; exact ⟨⟨hf0, by omega⟩, rfl⟩
        by_cases hi : i ∈ [f]
        · rw [if_pos (this.mpr hi), if_pos hi]
        · rw [if_neg (fun z => hi (this.mp z)), if_neg hi]
    rw [hfl] at e4
    have e6 := opNe_li [f] []
    rw [List.map_nil, List.map_cons, List.map_nil, decide_eq_false (by simp)] at e6
    have e7 := opIx_hd f
    have e8 := opNe_t2 f W f W
    rw [List.map_cons, List.map_nil] at e4
    refine ⟨a2, b2, c2, some (false, .lst (rows.map pT)), sI W, z18, z19, some (true, .lst [.int f]), ?_⟩
    unfold c7 lb7_law
    simp only [mkFn, sCons, sNil, sSet, setOf, sExpr, sRet, retOf, sRetN, sIf, sRaise, sAug, sAsg, toS, gSet, gNil, gCons, gTup, gSub, sPar, storeAll, eC, eVar, eBin, eUn, eTup, eLst, eLstO, eIf, eAnd, eOr, eNot, eIs, isN, aNil, aCons, aoNil, aoCons, own, peek, frz, view, out1, out1_val, out1_tmp, R.bind, R.bindS, tTst, tAndS, tOrS, tNotS, eCall, afterF, sFor, iRng1, iRng2, iSeq, itemsOf, opAdd, opSub, opMul, opDiv, opMod, opPow, opNeg, opIMul, opIAdd, opLt, opLe, opGt, opGe, opEq_int, opNe_int, opLen, opAbs, opInt, opList, opTuple, eApp, isL, wr, List.map_cons, List.map_nil, List.length_cons, List.length_nil, List.replicate_succ, List.replicate_zero, List.cons_append, List.nil_append, List.append_nil, List.getElem?_cons_zero, List.getElem?_cons_succ, List.set_cons_zero, List.set_cons_succ, if_true, if_false, ite_true, ite_false, reduceIte, Bool.false_eq_true, Option.map_some, eUnl, eTupL, eDGet, opMax2, opMin2, opIDiv, opIMod, sParT, storeT, eChn, opLenD, opStr, zk1, zk2, zk3, zk4, zk5, zk6, zk7, zk8, zk0, Nat.reduceAdd, Nat.reduceSub, gLst, e1, if_pos hr, eLC, wipeS, backS, e2, e3, if_pos hr2, er, e4, eTold, e5, e6, e7, e8, decide_true, Bool.and_self, Bool.not_true, Bool.not_false]
  · have hfl : (rI 0 W.toNat).filter (fit rows) = [] := by
      rw [List.filter_eq_nil_iff]
      intro i _ h
      exact hno i (fit_t.mp h)
    rw [hfl, List.map_nil] at e4
    have e6 : opNe (.lst []) (.lst []) = some (false, .bl false) := rfl
    refine ⟨a2, b2, c2, some (false, .lst (rows.map pT)), sI W, z18, z19, some (true, .lst []), ?_⟩
    unfold c7 lb7_law
    simp only [mkFn, sCons, sNil, sSet, setOf, sExpr, sRet, retOf, sRetN, sIf, sRaise, sAug, sAsg, toS, gSet, gNil, gCons, gTup, gSub, sPar, storeAll, eC, eVar, eBin, eUn, eTup, eLst, eLstO, eIf, eAnd, eOr, eNot, eIs, isN, aNil, aCons, aoNil, aoCons, own, peek, frz, view, out1, out1_val, out1_tmp, R.bind, R.bindS, tTst, tAndS, tOrS, tNotS, eCall, afterF, sFor, iRng1, iRng2, iSeq, itemsOf, opAdd, opSub, opMul, opDiv, opMod, opPow, opNeg, opIMul, opIAdd, opLt, opLe, opGt, opGe, opEq_int, opNe_int, opLen, opAbs, opInt, opList, opTuple, eApp, isL, wr, List.map_cons, List.map_nil, List.length_cons, List.length_nil, List.replicate_succ, List.replicate_zero, List.cons_append, List.nil_append, List.append_nil, List.getElem?_cons_zero, List.getElem?_cons_succ, List.set_cons_zero, List.set_cons_succ, if_true, if_false, ite_true, ite_false, reduceIte, Bool.false_eq_true, Option.map_some, eUnl, eTupL, eDGet, opMax2, opMin2, opIDiv, opIMod, sParT, storeT, eChn, opLenD, opStr, zk1, zk2, zk3, zk4, zk5, zk6, zk7, zk8, zk0, Nat.reduceAdd, Nat.reduceSub, gLst, e1, if_pos hr, eLC, wipeS, backS, e2, e3, if_pos hr2, er, e4, eTold, e5, e6, neE, decide_true, Bool.not_true]
theorem c8_at {x0 x1 x2 x3 x4 x5 x6 x7 x8 x9 x10 x11 x12 x13 x14 x15 x16 x17 x18 x19 x20 x21 x22 x23 x24 x25 x26 x27 x28 x29 x30 : Option (Bool × T)} {u : Int} (hu : u.natAbs ≤ z40.natAbs) (a b c : Int) : ∃ (a' b' c' : Int) (y15 y21 y22 : Option (Bool × T)), c8 ⟨[x0, sO, x2, sI u, x4, x5, x6, x7, x8, x9, x10, x11, x12, x13, x14, x15, x16, x17, x18, x19, x20, x21, x22, x23, x24, x25, x26, x27, x28, x29, x30], [D3 a b c]⟩ = .nxt ⟨[x0, sO, x2, sI u, x4, x5, x6, x7, x8, x9, x10, x11, x12, x13, x14, y15, x16, x17, x18, x19, x20, y21, y22, x23, x24, x25, x26, x27, x28, x29, x30], [D3 a' b' c']⟩ := by
  have hu := Nat.lt_of_le_of_lt hu z40_lt
  obtain ⟨r, a1, b1, c1, r0, r1, e1⟩ := roll0 4 a b c (by decide) (by decide)
  generalize hn : (if u < 0 then -u else u) = N
  have hN : 0 ≤ N ∧ N.natAbs < 2 ^ 190 := by
    have : N = (u.natAbs : Int) := by rw [← hn]; exact absOf
    omega
  obtain ⟨m, m0, m3, m1, m2, e2⟩ := root_eq (n := N) (k := 1 + r) hN.1 hN.2 (by omega) (by omega) [D3 a1 b1 c1]
  have p1 := power_eq (b := m) (n := 1 + r) (Nat.lt_of_le_of_lt (m := 2 ^ 190) (by omega) (by decide)) (by omega) (by omega) [D3 a1 b1 c1]
  have p2 := power_eq (b := m + 1) (n := 1 + r) (Nat.lt_of_le_of_lt (m := 2 ^ 190) (by omega) (by decide)) (by omega) (by omega) [D3 a1 b1 c1]
  refine ⟨a1, b1, c1, sI (1 + r), sI N, sI m, ?_⟩
  unfold c8 lb8_law
  simp only [mkFn, sCons, sNil, sSet, setOf, sExpr, sRet, retOf, sRetN, sIf, sRaise, sAug, sAsg, toS, gSet, gNil, gCons, gTup, gSub, sPar, storeAll, eC, eVar, eBin, eUn, eTup, eLst, eLstO, eIf, eAnd, eOr, eNot, eIs, isN, aNil, aCons, aoNil, aoCons, own, peek, frz, view, out1, out1_val, out1_tmp, R.bind, R.bindS, tTst, tAndS, tOrS, tNotS, eCall, afterF, sFor, iRng1, iRng2, iSeq, itemsOf, opAdd, opSub, opMul, opDiv, opMod, opPow, opNeg, opIMul, opIAdd, opLt, opLe, opGt, opGe, opEq_int, opNe_int, opLen, opAbs, opInt, opList, opTuple, opIx, eApp, isL, wr, List.map_cons, List.map_nil, List.length_cons, List.length_nil, List.replicate_succ, List.replicate_zero, List.cons_append, List.nil_append, List.append_nil, List.getElem?_cons_zero, List.getElem?_cons_succ, List.set_cons_zero, List.set_cons_succ, if_true, if_false, ite_true, ite_false, reduceIte, Bool.false_eq_true, Option.map_some, eUnl, eTupL, eDGet, opMax2, opMin2, opIDiv, opIMod, sParT, storeT, eChn, opLenD, opStr, zk1, zk2, zk3, zk4, zk5, zk6, zk7, zk8, zk0, Nat.reduceAdd, Nat.reduceSub, gLst, e1, hn, e2, p1, p2, eChn, decide_eq_true m1, decide_eq_true m2, Bool.not_true]
theorem c9_at {x0 x1 x2 x3 x4 x5 x6 x7 x8 x9 x10 x11 x12 x13 x14 x15 x16 x17 x18 x19 x20 x21 x22 x23 x24 x25 x26 x27 x28 x29 x30 : Option (Bool × T)} {u : Int} (a b c : Int) : ∃ (a' b' c' : Int) (y23 y24 : Option (Bool × T)), c9 ⟨[x0, sO, x2, sI u, x4, x5, x6, x7, x8, x9, x10, x11, x12, x13, x14, x15, x16, x17, x18, x19, x20, x21, x22, x23, x24, x25, x26, x27, x28, x29, x30], [D3 a b c]⟩ = .nxt ⟨[x0, sO, x2, sI u, x4, x5, x6, x7, x8, x9, x10, x11, x12, x13, x14, x15, x16, x17, x18, x19, x20, x21, x22, y23, y24, x25, x26, x27, x28, x29, x30], [D3 a' b' c']⟩ := by
  obtain ⟨r, a1, b1, c1, r0, r1, e1⟩ := roll0 500 a b c (by decide) (by decide)
  obtain ⟨l, hl, e2, e3⟩ := conv_eq (a := u) (b := 1 + r) (by omega) (by omega) [D3 a1 b1 c1]
  have e4 := opNe_lp l l
  rw [decide_eq_true rfl] at e4
  refine ⟨a1, b1, c1, sI (1 + r), some (false, .tup (l.map pT)), ?_⟩
  unfold c9 lb9_law
  simp only [mkFn, sCons, sNil, sSet, setOf, sExpr, sRet, retOf, sRetN, sIf, sRaise, sAug, sAsg, toS, gSet, gNil, gCons, gTup, gSub, sPar, storeAll, eC, eVar, eBin, eUn, eTup, eLst, eLstO, eIf, eAnd, eOr, eNot, eIs, isN, aNil, aCons, aoNil, aoCons, own, peek, frz, view, out1, out1_val, out1_tmp, R.bind, R.bindS, tTst, tAndS, tOrS, tNotS, eCall, afterF, sFor, iRng1, iRng2, iSeq, itemsOf, opAdd, opSub, opMul, opDiv, opMod, opPow, opNeg, opIMul, opIAdd, opLt, opLe, opGt, opGe, opEq_int, opNe_int, opLen, opAbs, opInt, opList, opTuple, opIx, eApp, isL, wr, List.map_cons, List.map_nil, List.length_cons, List.length_nil, List.replicate_succ, List.replicate_zero, List.cons_append, List.nil_append, List.append_nil, List.getElem?_cons_zero, List.getElem?_cons_succ, List.set_cons_zero, List.set_cons_succ, if_true, if_false, ite_true, ite_false, reduceIte, Bool.false_eq_true, Option.map_some, eUnl, eTupL, eDGet, opMax2, opMin2, opIDiv, opIMod, sParT, storeT, eChn, opLenD, opStr, zk1, zk2, zk3, zk4, zk5, zk6, zk7, zk8, zk0, Nat.reduceAdd, Nat.reduceSub, gLst, e1, e2, e3, e4, Bool.not_true]
end K01

-- slots 31
set_option exponentiation.threshold 3000
namespace K01
open Sv
abbrev c10 : S → RS := lb10_law F__law_rounds F_bezout F_prime_factors F_root_below F_convergents F__law_large F__law_roll F__law_convergents F__law_frac F__law_times F_is_prime F__law_gcd F_common_divisor F_inverse F_power F_power_by F__law_prime F_divisors F_rational F_sum_of F__law_plus F_product_of F_difference_of F_compared F_sign F_rational_text F_next_prime F_remainders_joined F_raised F__law_long F_quotient_of opSrt
abbrev c11 : S → RS := lb11_law F__law_rounds F_bezout F_prime_factors F_root_below F_convergents F__law_large F__law_roll F__law_convergents F__law_frac F__law_times F_is_prime F__law_gcd F_common_divisor F_inverse F_power F_power_by F__law_prime F_divisors F_rational F_sum_of F__law_plus F_product_of F_difference_of F_compared F_sign F_rational_text F_next_prime F_remainders_joined F_raised F__law_long F_quotient_of opSrt
theorem ne_t2 (a b : Int) : opNe (.tup [.int a, .int b]) (.tup [.int a, .int b]) = some (false, .bl false) := by
  rw [opNe_t2, decide_eq_true rfl, decide_eq_true rfl]; rfl
theorem pT_eq (p : Int × Int) : pT p = .tup [.int p.1, .int p.2] := rfl
def c10a : S → RS := (sPar [25, 26] (aoCons (eCall F__law_frac (aCons (eBin opSub (eCall (F__law_roll 1) (aCons (eVar 1) (aCons (eC (.int 99)) aNil))) (eC (.int 50))) (aCons (eBin opAdd (eC (.int 1)) (eCall (F__law_roll 1) (aCons (eVar 1) (aCons (eC (.int 20)) aNil)))) aNil))) (aoCons (eCall F__law_frac (aCons (eBin opSub (eCall (F__law_roll 1) (aCons (eVar 1) (aCons (eC (.int 99)) aNil))) (eC (.int 50))) (aCons (eBin opAdd (eC (.int 1)) (eCall (F__law_roll 1) (aCons (eVar 1) (aCons (eC (.int 20)) aNil)))) aNil))) aoNil)))
theorem c10a_at {x0 x1 x2 x3 x4 x5 x6 x7 x8 x9 x10 x11 x12 x13 x14 x15 x16 x17 x18 x19 x20 x21 x22 x23 x24 x25 x26 x27 x28 x29 x30 : Option (Bool × T)} (a b c : Int) : ∃ (p q : Int × Int) (a' b' c' : Int), Fr p ∧ Fr q ∧ c10a ⟨[x0, sO, x2, x3, x4, x5, x6, x7, x8, x9, x10, x11, x12, x13, x14, x15, x16, x17, x18, x19, x20, x21, x22, x23, x24, x25, x26, x27, x28, x29, x30], [D3 a b c]⟩ = .nxt ⟨[x0, sO, x2, x3, x4, x5, x6, x7, x8, x9, x10, x11, x12, x13, x14, x15, x16, x17, x18, x19, x20, x21, x22, x23, x24, some (false, pT p), some (false, pT q), x27, x28, x29, x30], [D3 a' b' c']⟩ := by
  obtain ⟨r, a1, b1, c1, r0, r1, e1⟩ := roll0 99 a b c (by decide) (by decide)
  obtain ⟨s, a2, b2, c2, s0, s1, e2⟩ := roll0 20 a1 b1 c1 (by decide) (by decide)
  obtain ⟨t, a3, b3, c3, t0, t1, e3⟩ := roll0 99 a2 b2 c2 (by decide) (by decide)
  obtain ⟨u, a4, b4, c4, u0, u1, e4⟩ := roll0 20 a3 b3 c3 (by decide) (by decide)
  have f1 := frac_eq (a := r - 50) (b := 1 + s) (by omega) (sm (k := 100) (by omega) (by decide)) (sm (k := 100) (by omega) (by decide)) [D3 a2 b2 c2]
  have f2 := frac_eq (a := t - 50) (b := 1 + u) (by omega) (sm (k := 100) (by omega) (by decide)) (sm (k := 100) (by omega) (by decide)) [D3 a4 b4 c4]
  refine ⟨_, _, a4, b4, c4, Fr_at r0 r1 s0 s1, Fr_at t0 t1 u0 u1, ?_⟩
  unfold c10a
  simp only [mkFn, sCons, sNil, sSet, setOf, sExpr, sRet, retOf, sRetN, sIf, sRaise, sAug, sAsg, toS, gSet, gNil, gCons, gTup, gSub, sPar, storeAll, eC, eVar, eBin, eUn, eTup, eLst, eLstO, eIf, eAnd, eOr, eNot, eIs, isN, aNil, aCons, aoNil, aoCons, own, peek, frz, view, out1, out1_val, out1_tmp, R.bind, R.bindS, tTst, tAndS, tOrS, tNotS, eCall, afterF, sFor, iRng1, iRng2, iSeq, itemsOf, opAdd, opSub, opMul, opDiv, opMod, opPow, opNeg, opIMul, opIAdd, opLt, opLe, opGt, opGe, opEq_int, opNe_int, opLen, opAbs, opInt, opList, opTuple, opIx, eApp, isL, wr, List.map_cons, List.map_nil, List.length_cons, List.length_nil, List.replicate_succ, List.replicate_zero, List.cons_append, List.nil_append, List.append_nil, List.getElem?_cons_zero, List.getElem?_cons_succ, List.set_cons_zero, List.set_cons_succ, if_true, if_false, ite_true, ite_false, reduceIte, Bool.false_eq_true, Option.map_some, eUnl, eTupL, eDGet, opMax2, opMin2, opIDiv, opIMod, sParT, storeT, eChn, opLenD, opStr, zk1, zk2, zk3, zk4, zk5, zk6, zk7, zk8, zk0, Nat.reduceAdd, Nat.reduceSub, gLst, e1, e2, e3, e4, f1, f2]
theorem c10_at {x0 x1 x2 x3 x4 x5 x6 x7 x8 x9 x10 x11 x12 x13 x14 x15 x16 x17 x18 x19 x20 x21 x22 x23 x24 x25 x26 x27 x28 x29 x30 : Option (Bool × T)} (a b c : Int) : ∃ (p q : Int × Int) (a' b' c' : Int), Fr p ∧ Fr q ∧ c10 ⟨[x0, sO, x2, x3, x4, x5, x6, x7, x8, x9, x10, x11, x12, x13, x14, x15, x16, x17, x18, x19, x20, x21, x22, x23, x24, x25, x26, x27, x28, x29, x30], [D3 a b c]⟩ = .nxt ⟨[x0, sO, x2, x3, x4, x5, x6, x7, x8, x9, x10, x11, x12, x13, x14, x15, x16, x17, x18, x19, x20, x21, x22, x23, x24, some (false, pT p), some (false, pT q), x27, x28, x29, x30], [D3 a' b' c']⟩ := by
  obtain ⟨⟨p0, p1⟩, ⟨q0, q1⟩, a', b', c', hp, hq, e⟩ := c10a_at (x0 := x0) (x1 := x1) (x2 := x2) (x3 := x3) (x4 := x4) (x5 := x5) (x6 := x6) (x7 := x7) (x8 := x8) (x9 := x9) (x10 := x10) (x11 := x11) (x12 := x12) (x13 := x13) (x14 := x14) (x15 := x15) (x16 := x16) (x17 := x17) (x18 := x18) (x19 := x19) (x20 := x20) (x21 := x21) (x22 := x22) (x23 := x23) (x24 := x24) (x25 := x25) (x26 := x26) (x27 := x27) (x28 := x28) (x29 := x29) (x30 := x30) a b c
  refine ⟨(p0, p1), (q0, q1), a', b', c', hp, hq, ?_⟩
  have hpu : p0.natAbs ≤ 50 := hp.u
  have hpl : 1 ≤ p1 := hp.l
  have hpl2 : p1 ≤ 20 := hp.l2
  have hqu : q0.natAbs ≤ 50 := hq.u
  have hql : 1 ≤ q1 := hq.l
  have hql2 : q1 ≤ 20 := hq.l2
  have m1 : mulOk p0 6 = true := mulOk_r (by decide)
  have m2 : mulOk p1 (-6) = true := mulOk_r (by decide)
  have r1 := rat_eq (a := p0 * 6) (b := p1 * -6) (by omega) (sm (k := 1000) (by omega) (by decide)) (sm (k := 1000) (by omega) (by decide)) [D3 a' b' c']
  rw [show fr (p0 * 6) (p1 * -6) = (-p0, p1) from hp.t] at r1
  obtain ⟨s1, s2⟩ := sum_eq (a0 := p0) (a1 := p1) (b0 := q0) (b1 := q1) (by omega) (by omega) (by omega) (by omega) (by omega) (by omega) [D3 a' b' c']
  obtain ⟨t1, t2⟩ := pro_eq (a0 := p0) (a1 := p1) (b0 := q0) (b1 := q1) (by omega) (by omega) (by omega) (by omega) (by omega) (by omega) [D3 a' b' c']
  have d1 := dif_eq (a0 := p0) (a1 := p1) (b0 := q0) (b1 := q1) (by omega) (by omega) (by omega) (by omega) (by omega) (by omega) [D3 a' b' c']
  obtain ⟨_, d2⟩ := sum_eq (a0 := p0) (a1 := p1) (b0 := -q0) (b1 := q1) (by omega) (by omega) (by omega) (by omega) (by omega) (by omega) [D3 a' b' c']
  have k1 := com_eq (a0 := p0) (a1 := p1) (b0 := q0) (b1 := q1) (by omega) (by omega) (by omega) (by omega) (by omega) (by omega) [D3 a' b' c']
  have g1 := text_eq (x := p0) (y := p1) (by omega) (by omega) [D3 a' b' c']
  have g2 := opNe_str (fT_ok (x := p0) (y := p1) (by omega) (by omega))
  have g3 := sign_eq p0 p1 [D3 a' b' c']
  have hlx : p0.natAbs.log2 < 1920 := Nat.lt_of_lt_of_le (PySem.Flt.log2_lt_of (k := 64) (by decide) (show p0.natAbs < 2 ^ 64 by omega)) (by decide)
  have hly : p1.natAbs.log2 < 1920 := Nat.lt_of_lt_of_le (PySem.Flt.log2_lt_of (k := 64) (by decide) (show p1.natAbs < 2 ^ 64 by omega)) (by decide)
  have ex : ((toString p0 : String) : PySem.Str) = tS p0 := rfl
  have ey : ((toString p1 : String) : PySem.Str) = tS p1 := rfl
  have l1 := (tS_ok (i := p0) (by omega)).2
  have l2 := (tS_ok (i := p1) (by omega)).2
  have l3 : PySem.Str.length ("/" : PySem.Str) = 1 := by decide +kernel
  have z1 : szok ((tS p0).length + PySem.Str.length ("/" : PySem.Str)) = true := decide_eq_true (by omega)
  have z2 : szok ((tS p0 ++ ("/" : PySem.Str)).length + (tS p1).length) = true := decide_eq_true (by rw [str_len]; omega)
  generalize hfr1 : fr (p0 * q1 + q0 * p1) (p1 * q1) = F1 at *
  generalize hfr2 : fr (p0 * q0) (p1 * q1) = F2 at *
  generalize hfr3 : fr (p0 * q1 + -q0 * p1) (p1 * q1) = F3 at *
  have mq1 : mulOk p0 q1 = true := mulOk_b (a := 100) (by omega) (by decide)
  have mq2 : mulOk p1 q0 = true := mulOk_b (a := 100) (by omega) (by decide)
  have qz : (q0 ≠ 0 → ∃ F4, F_quotient_of [.tup [.int p0, .int p1], .tup [.int q0, .int q1]] [D3 a' b' c'] = .ok false (pT F4) [D3 a' b' c'] ∧ F__law_frac [.int (p0 * q1), .int (p1 * q0)] [D3 a' b' c'] = .ok false (pT F4) [D3 a' b' c']) ∧
    (q0 = 0 → F_quotient_of [.tup [.int p0, .int p1], .tup [.int q0, .int q1]] [D3 a' b' c'] = .exc "NumberError" [D3 a' b' c']) := by
    constructor
    · intro h
      obtain ⟨y1, y2⟩ := quo_eq (a0 := p0) (a1 := p1) (b0 := q0) (b1 := q1) (by omega) (by omega) (by omega) (by omega) (by omega) h [D3 a' b' c']
      exact ⟨_, y1, y2⟩
    · rintro rfl
      exact quo_zero (a0 := p0) (a1 := p1) (b1 := q1) (by omega) (by omega) _
  simp only [pT_eq] at *
  have k2 := sign_eq F3.1 F3.2 [D3 a' b' c']
  rw [k2] at k1
  unfold c10 lb10_law
  refine (sCons_nxt (a := c10a) e).trans ?_
  by_cases hq0 : q0 = 0
  · have e0 : decide (q0 = 0) = true := decide_eq_true hq0
    have y1 := qz.2 hq0
    by_cases h1 : p1 = 1
    · have ft : fT p0 p1 = tS p0 := if_pos h1
      rw [ft] at g1 g2
      simp only [mkFn, sCons, sNil, sSet, setOf, sExpr, sRet, retOf, sRetN, sIf, sRaise, sAug, sAsg, toS, gSet, gNil, gCons, gTup, gSub, sPar, storeAll, eC, eVar, eBin, eUn, eTup, eLst, eLstO, eIf, eAnd, eOr, eNot, eIs, isN, aNil, aCons, aoNil, aoCons, own, peek, frz, view, out1, out1_val, out1_tmp, R.bind, R.bindS, tTst, tAndS, tOrS, tNotS, eCall, afterF, sFor, iRng1, iRng2, iSeq, itemsOf, opAdd, opSub, opMul, opDiv, opMod, opPow, opNeg, opIMul, opIAdd, opLt, opLe, opGt, opGe, opEq_int, opNe_int, opLen, opAbs, opInt, opList, opTuple, opIx, eApp, isL, wr, List.map_cons, List.map_nil, List.length_cons, List.length_nil, List.replicate_succ, List.replicate_zero, List.cons_append, List.nil_append, List.append_nil, List.getElem?_cons_zero, List.getElem?_cons_succ, List.set_cons_zero, List.set_cons_succ, if_true, if_false, ite_true, ite_false, reduceIte, Bool.false_eq_true, Option.map_some, eUnl, eTupL, eDGet, opMax2, opMin2, opIDiv, opIMod, sParT, storeT, eChn, opLenD, opStr, zk1, zk2, zk3, zk4, zk5, zk6, zk7, zk8, zk0, Nat.reduceAdd, Nat.reduceSub, gLst, r1, ix0, ix1, m1, m2, ne_t2, s1, s2, t1, t2, d1, d2, eTold, y1, e0, neE, k1, k2, g1, g2, g3, decide_true, Bool.not_true, decide_eq_true h1, if_pos hlx, ex]
    · have ft : fT p0 p1 = (tS p0 ++ ("/" : PySem.Str)) ++ tS p1 := if_neg h1
      rw [ft] at g1 g2
      simp only [mkFn, sCons, sNil, sSet, setOf, sExpr, sRet, retOf, sRetN, sIf, sRaise, sAug, sAsg, toS, gSet, gNil, gCons, gTup, gSub, sPar, storeAll, eC, eVar, eBin, eUn, eTup, eLst, eLstO, eIf, eAnd, eOr, eNot, eIs, isN, aNil, aCons, aoNil, aoCons, own, peek, frz, view, out1, out1_val, out1_tmp, R.bind, R.bindS, tTst, tAndS, tOrS, tNotS, eCall, afterF, sFor, iRng1, iRng2, iSeq, itemsOf, opAdd, opSub, opMul, opDiv, opMod, opPow, opNeg, opIMul, opIAdd, opLt, opLe, opGt, opGe, opEq_int, opNe_int, opLen, opAbs, opInt, opList, opTuple, opIx, eApp, isL, wr, List.map_cons, List.map_nil, List.length_cons, List.length_nil, List.replicate_succ, List.replicate_zero, List.cons_append, List.nil_append, List.append_nil, List.getElem?_cons_zero, List.getElem?_cons_succ, List.set_cons_zero, List.set_cons_succ, if_true, if_false, ite_true, ite_false, reduceIte, Bool.false_eq_true, Option.map_some, eUnl, eTupL, eDGet, opMax2, opMin2, opIDiv, opIMod, sParT, storeT, eChn, opLenD, opStr, zk1, zk2, zk3, zk4, zk5, zk6, zk7, zk8, zk0, Nat.reduceAdd, Nat.reduceSub, gLst, r1, ix0, ix1, m1, m2, ne_t2, s1, s2, t1, t2, d1, d2, eTold, y1, e0, neE, k1, k2, g1, g2, g3, decide_true, Bool.not_true, decide_eq_false h1, if_pos hlx, if_pos hly, ex, ey, z1, z2]
  · have e0 : decide (q0 = 0) = false := decide_eq_false hq0
    obtain ⟨F4, y1, y2⟩ := qz.1 hq0
    by_cases h1 : p1 = 1
    · have ft : fT p0 p1 = tS p0 := if_pos h1
      rw [ft] at g1 g2
      simp only [mkFn, sCons, sNil, sSet, setOf, sExpr, sRet, retOf, sRetN, sIf, sRaise, sAug, sAsg, toS, gSet, gNil, gCons, gTup, gSub, sPar, storeAll, eC, eVar, eBin, eUn, eTup, eLst, eLstO, eIf, eAnd, eOr, eNot, eIs, isN, aNil, aCons, aoNil, aoCons, own, peek, frz, view, out1, out1_val, out1_tmp, R.bind, R.bindS, tTst, tAndS, tOrS, tNotS, eCall, afterF, sFor, iRng1, iRng2, iSeq, itemsOf, opAdd, opSub, opMul, opDiv, opMod, opPow, opNeg, opIMul, opIAdd, opLt, opLe, opGt, opGe, opEq_int, opNe_int, opLen, opAbs, opInt, opList, opTuple, opIx, eApp, isL, wr, List.map_cons, List.map_nil, List.length_cons, List.length_nil, List.replicate_succ, List.replicate_zero, List.cons_append, List.nil_append, List.append_nil, List.getElem?_cons_zero, List.getElem?_cons_succ, List.set_cons_zero, List.set_cons_succ, if_true, if_false, ite_true, ite_false, reduceIte, Bool.false_eq_true, Option.map_some, eUnl, eTupL, eDGet, opMax2, opMin2, opIDiv, opIMod, sParT, storeT, eChn, opLenD, opStr, zk1, zk2, zk3, zk4, zk5, zk6, zk7, zk8, zk0, Nat.reduceAdd, Nat.reduceSub, gLst, r1, ix0, ix1, m1, m2, ne_t2, s1, s2, t1, t2, d1, d2, eTold, y1, y2, e0, mq1, mq2, k1, k2, g1, g2, g3, decide_true, Bool.not_true, Bool.not_false, decide_eq_true h1, if_pos hlx, ex]
    · have ft : fT p0 p1 = (tS p0 ++ ("/" : PySem.Str)) ++ tS p1 := if_neg h1
      rw [ft] at g1 g2
      simp only [mkFn, sCons, sNil, sSet, setOf, sExpr, sRet, retOf, sRetN, sIf, sRaise, sAug, sAsg, toS, gSet, gNil, gCons, gTup, gSub, sPar, storeAll, eC, eVar, eBin, eUn, eTup, eLst, eLstO, eIf, eAnd, eOr, eNot, eIs, isN, aNil, aCons, aoNil, aoCons, own, peek, frz, view, out1, out1_val, out1_tmp, R.bind, R.bindS, tTst, tAndS, tOrS, tNotS, eCall, afterF, sFor, iRng1, iRng2, iSeq, itemsOf, opAdd, opSub, opMul, opDiv, opMod, opPow, opNeg, opIMul, opIAdd, opLt, opLe, opGt, opGe, opEq_int, opNe_int, opLen, opAbs, opInt, opList, opTuple, opIx, eApp, isL, wr, List.map_cons, List.map_nil, List.length_cons, List.length_nil, List.replicate_succ, List.replicate_zero, List.cons_append, List.nil_append, List.append_nil, List.getElem?_cons_zero, List.getElem?_cons_succ, List.set_cons_zero, List.set_cons_succ, if_true, if_false, ite_true, ite_false, reduceIte, Bool.false_eq_true, Option.map_some, eUnl, eTupL, eDGet, opMax2, opMin2, opIDiv, opIMod, sParT, storeT, eChn, opLenD, opStr, zk1, zk2, zk3, zk4, zk5, zk6, zk7, zk8, zk0, Nat.reduceAdd, Nat.reduceSub, gLst, r1, ix0, ix1, m1, m2, ne_t2, s1, s2, t1, t2, d1, d2, eTold, y1, y2, e0, mq1, mq2, k1, k2, g1, g2, g3, decide_true, Bool.not_true, Bool.not_false, decide_eq_false h1, if_pos hlx, if_pos hly, ex, ey, z1, z2]
end K01

-- slots 31
set_option exponentiation.threshold 3000
namespace K01
open Sv
theorem ne_pT (p : Int × Int) : opNe (pT p) (pT p) = some (false, .bl false) := ne_t2 _ _
theorem ix_pT0 (p : Int × Int) : opIx (pT p) (.int 0) = some (false, .int p.1) := rfl
theorem ix_pT1 (p : Int × Int) : opIx (pT p) (.int 1) = some (false, .int p.2) := rfl
theorem tm_run {x0 x1 x2 x3 x4 x5 x6 x7 x8 x9 x10 x11 x12 x13 x14 x15 x16 x17 x18 x19 x20 x21 x22 x23 x24 x25 x26 x27 x28 x29 x30 : Option (Bool × T)} {p : Int × Int} (h : Fr p) (ob : List OV) : ∀ (k j : Nat) (lo : Int) (z : Option (Bool × T)), j + k ≤ 4 →
    ∃ z', forL (gSet 29) (sSet 28 (eCall F__law_times (aCons (eVar 28) (aCons (eVar 25) aNil)))) (rngT lo k) ⟨[x0, x1, x2, x3, x4, x5, x6, x7, x8, x9, x10, x11, x12, x13, x14, x15, x16, x17, x18, x19, x20, x21, x22, x23, x24, some (false, pT p), x26, x27, some (false, pT (pw p j)), z, x30], ob⟩ = .nxt ⟨[x0, x1, x2, x3, x4, x5, x6, x7, x8, x9, x10, x11, x12, x13, x14, x15, x16, x17, x18, x19, x20, x21, x22, x23, x24, some (false, pT p), x26, x27, some (false, pT (pw p (j + k))), z', x30], ob⟩
  | 0, j, lo, z, _ => ⟨z, rfl⟩
  | k + 1, j, lo, z, hk => by
    obtain ⟨z', e⟩ := tm_run (x0 := x0) (x1 := x1) (x2 := x2) (x3 := x3) (x4 := x4) (x5 := x5) (x6 := x6) (x7 := x7) (x8 := x8) (x9 := x9) (x10 := x10) (x11 := x11) (x12 := x12) (x13 := x13) (x14 := x14) (x15 := x15) (x16 := x16) (x17 := x17) (x18 := x18) (x19 := x19) (x20 := x20) (x21 := x21) (x22 := x22) (x23 := x23) (x24 := x24) (x25 := x25) (x26 := x26) (x27 := x27) (x28 := x28) (x29 := x29) (x30 := x30) h ob k (j + 1) (lo + 1) (sI lo) (by omega)
    have hs := (pw_step h (k := j) (by omega) ob).2
    refine ⟨z', ?_⟩
    rw [rngT_succ, forL_cons_nxt (s1 := ⟨[x0, x1, x2, x3, x4, x5, x6, x7, x8, x9, x10, x11, x12, x13, x14, x15, x16, x17, x18, x19, x20, x21, x22, x23, x24, some (false, pT p), x26, x27, some (false, pT (pw p j)), sI lo, x30], ob⟩) (s2 := ⟨[x0, x1, x2, x3, x4, x5, x6, x7, x8, x9, x10, x11, x12, x13, x14, x15, x16, x17, x18, x19, x20, x21, x22, x23, x24, some (false, pT p), x26, x27, some (false, pT (pw p (j + 1))), sI lo, x30], ob⟩) (by simp only [mkFn, sCons, sNil, sSet, setOf, sExpr, sRet, retOf, sRetN, sIf, sRaise, sAug, sAsg, toS, gSet, gNil, gCons, gTup, gSub, sPar, storeAll, eC, eVar, eBin, eUn, eTup, eLst, eLstO, eIf, eAnd, eOr, eNot, eIs, isN, aNil, aCons, aoNil, aoCons, own, peek, frz, view, out1, out1_val, out1_tmp, R.bind, R.bindS, tTst, tAndS, tOrS, tNotS, eCall, afterF, sFor, iRng1, iRng2, iSeq, itemsOf, opAdd, opSub, opMul, opDiv, opMod, opPow, opNeg, opIMul, opIAdd, opLt, opLe, opGt, opGe, opEq_int, opNe_int, opLen, opAbs, opInt, opList, opTuple, opIx, eApp, isL, wr, List.map_cons, List.map_nil, List.length_cons, List.length_nil, List.replicate_succ, List.replicate_zero, List.cons_append, List.nil_append, List.append_nil, List.getElem?_cons_zero, List.getElem?_cons_succ, List.set_cons_zero, List.set_cons_succ, if_true, if_false, ite_true, ite_false, reduceIte, Bool.false_eq_true, Option.map_some, eUnl, eTupL, eDGet, opMax2, opMin2, opIDiv, opIMod, sParT, storeT, eChn, opLenD, opStr, zk1, zk2, zk3, zk4, zk5, zk6, zk7, zk8, zk0, Nat.reduceAdd, Nat.reduceSub, gLst]) (by simp only [mkFn, sCons, sNil, sSet, setOf, sExpr, sRet, retOf, sRetN, sIf, sRaise, sAug, sAsg, toS, gSet, gNil, gCons, gTup, gSub, sPar, storeAll, eC, eVar, eBin, eUn, eTup, eLst, eLstO, eIf, eAnd, eOr, eNot, eIs, isN, aNil, aCons, aoNil, aoCons, own, peek, frz, view, out1, out1_val, out1_tmp, R.bind, R.bindS, tTst, tAndS, tOrS, tNotS, eCall, afterF, sFor, iRng1, iRng2, iSeq, itemsOf, opAdd, opSub, opMul, opDiv, opMod, opPow, opNeg, opIMul, opIAdd, opLt, opLe, opGt, opGe, opEq_int, opNe_int, opLen, opAbs, opInt, opList, opTuple, opIx, eApp, isL, wr, List.map_cons, List.map_nil, List.length_cons, List.length_nil, List.replicate_succ, List.replicate_zero, List.cons_append, List.nil_append, List.append_nil, List.getElem?_cons_zero, List.getElem?_cons_succ, List.set_cons_zero, List.set_cons_succ, if_true, if_false, ite_true, ite_false, reduceIte, Bool.false_eq_true, Option.map_some, eUnl, eTupL, eDGet, opMax2, opMin2, opIDiv, opIMod, sParT, storeT, eChn, opLenD, opStr, zk1, zk2, zk3, zk4, zk5, zk6, zk7, zk8, zk0, Nat.reduceAdd, Nat.reduceSub, gLst, hs]), e, show j + 1 + k = j + (k + 1) by omega]
theorem c11_at {x0 x1 x2 x3 x4 x5 x6 x7 x8 x9 x10 x11 x12 x13 x14 x15 x16 x17 x18 x19 x20 x21 x22 x23 x24 x25 x26 x27 x28 x29 x30 : Option (Bool × T)} {p : Int × Int} (h : Fr p) (a b c : Int) : ∃ (y27 y28 y29 : Option (Bool × T)) (ob : List OV), c11 ⟨[x0, sO, x2, x3, x4, x5, x6, x7, x8, x9, x10, x11, x12, x13, x14, x15, x16, x17, x18, x19, x20, x21, x22, x23, x24, some (false, pT p), x26, x27, x28, x29, x30], [D3 a b c]⟩ = .nxt ⟨[x0, sO, x2, x3, x4, x5, x6, x7, x8, x9, x10, x11, x12, x13, x14, x15, x16, x17, x18, x19, x20, x21, x22, x23, x24, some (false, pT p), x26, y27, y28, y29, x30], ob⟩ := by
  obtain ⟨r, a1, b1, c1, r0, r1, e1⟩ := roll0 9 a b c (by decide) (by decide)
  generalize ht : r - 4 = t
  obtain ⟨z', w⟩ := tm_run (x0 := x0) (x1 := sO) (x2 := x2) (x3 := x3) (x4 := x4) (x5 := x5) (x6 := x6) (x7 := x7) (x8 := x8) (x9 := x9) (x10 := x10) (x11 := x11) (x12 := x12) (x13 := x13) (x14 := x14) (x15 := x15) (x16 := x16) (x17 := x17) (x18 := x18) (x19 := x19) (x20 := x20) (x21 := x21) (x22 := x22) (x23 := x23) (x24 := x24) (x25 := none) (x26 := x26) (x27 := sI t) (x28 := none) (x29 := none) (x30 := x30) h [D3 a1 b1 c1] t.natAbs 0 0 x29 (by omega)
  rw [Nat.zero_add] at w
  have e2 : (if t < 0 then -t else t).toNat = t.natAbs := by omega
  have hr : -4611686018427387904 ≤ (if t < 0 then -t else t) ∧ (if t < 0 then -t else t) < 4611686018427387904 := by omega
  have p0 : some (false, T.tup [.int 1, .int 1]) = some (false, pT (pw p 0)) := rfl
  obtain ⟨k1, k2, k3⟩ := raised_eq h (t := t) (by omega) (by omega) [D3 a1 b1 c1]
  refine ⟨sI t, some (false, pT (pw p t.natAbs)), z', [D3 a1 b1 c1], ?_⟩
  generalize hP : pw p t.natAbs = P at *
  simp only [pT_eq] at *
  unfold c11 lb11_law
  by_cases h0 : 0 ≤ t
  · have q1 := k1 h0
    simp only [mkFn, sCons, sNil, sSet, setOf, sExpr, sRet, retOf, sRetN, sIf, sRaise, sAug, sAsg, toS, gSet, gNil, gCons, gTup, gSub, sPar, storeAll, eC, eVar, eBin, eUn, eTup, eLst, eLstO, eIf, eAnd, eOr, eNot, eIs, isN, aNil, aCons, aoNil, aoCons, own, peek, frz, view, out1, out1_val, out1_tmp, R.bind, R.bindS, tTst, tAndS, tOrS, tNotS, eCall, afterF, sFor, iRng1, iRng2, iSeq, itemsOf, opAdd, opSub, opMul, opDiv, opMod, opPow, opNeg, opIMul, opIAdd, opLt, opLe, opGt, opGe, opEq_int, opNe_int, opLen, opAbs, opInt, opList, opTuple, opIx, eApp, isL, wr, List.map_cons, List.map_nil, List.length_cons, List.length_nil, List.replicate_succ, List.replicate_zero, List.cons_append, List.nil_append, List.append_nil, List.getElem?_cons_zero, List.getElem?_cons_succ, List.set_cons_zero, List.set_cons_succ, if_true, if_false, ite_true, ite_false, reduceIte, Bool.false_eq_true, Option.map_some, eUnl, eTupL, eDGet, opMax2, opMin2, opIDiv, opIMod, sParT, storeT, eChn, opLenD, opStr, zk1, zk2, zk3, zk4, zk5, zk6, zk7, zk8, zk0, Nat.reduceAdd, Nat.reduceSub, gLst, e1, ht, p0, if_pos hr, e2, w, eTold, q1, decide_eq_true h0, ne_t2]
  · by_cases hz : P.1 = 0
    · have q1 := k3 (by omega) hz
      simp only [mkFn, sCons, sNil, sSet, setOf, sExpr, sRet, retOf, sRetN, sIf, sRaise, sAug, sAsg, toS, gSet, gNil, gCons, gTup, gSub, sPar, storeAll, eC, eVar, eBin, eUn, eTup, eLst, eLstO, eIf, eAnd, eOr, eNot, eIs, isN, aNil, aCons, aoNil, aoCons, own, peek, frz, view, out1, out1_val, out1_tmp, R.bind, R.bindS, tTst, tAndS, tOrS, tNotS, eCall, afterF, sFor, iRng1, iRng2, iSeq, itemsOf, opAdd, opSub, opMul, opDiv, opMod, opPow, opNeg, opIMul, opIAdd, opLt, opLe, opGt, opGe, opEq_int, opNe_int, opLen, opAbs, opInt, opList, opTuple, opIx, eApp, isL, wr, List.map_cons, List.map_nil, List.length_cons, List.length_nil, List.replicate_succ, List.replicate_zero, List.cons_append, List.nil_append, List.append_nil, List.getElem?_cons_zero, List.getElem?_cons_succ, List.set_cons_zero, List.set_cons_succ, if_true, if_false, ite_true, ite_false, reduceIte, Bool.false_eq_true, Option.map_some, eUnl, eTupL, eDGet, opMax2, opMin2, opIDiv, opIMod, sParT, storeT, eChn, opLenD, opStr, zk1, zk2, zk3, zk4, zk5, zk6, zk7, zk8, zk0, Nat.reduceAdd, Nat.reduceSub, gLst, e1, ht, p0, if_pos hr, e2, w, eTold, q1, decide_eq_false h0, ix0, ix1, decide_eq_true hz, Bool.not_true, neE]
    · obtain ⟨q1, q2⟩ := k2 (by omega) hz
      simp only [mkFn, sCons, sNil, sSet, setOf, sExpr, sRet, retOf, sRetN, sIf, sRaise, sAug, sAsg, toS, gSet, gNil, gCons, gTup, gSub, sPar, storeAll, eC, eVar, eBin, eUn, eTup, eLst, eLstO, eIf, eAnd, eOr, eNot, eIs, isN, aNil, aCons, aoNil, aoCons, own, peek, frz, view, out1, out1_val, out1_tmp, R.bind, R.bindS, tTst, tAndS, tOrS, tNotS, eCall, afterF, sFor, iRng1, iRng2, iSeq, itemsOf, opAdd, opSub, opMul, opDiv, opMod, opPow, opNeg, opIMul, opIAdd, opLt, opLe, opGt, opGe, opEq_int, opNe_int, opLen, opAbs, opInt, opList, opTuple, opIx, eApp, isL, wr, List.map_cons, List.map_nil, List.length_cons, List.length_nil, List.replicate_succ, List.replicate_zero, List.cons_append, List.nil_append, List.append_nil, List.getElem?_cons_zero, List.getElem?_cons_succ, List.set_cons_zero, List.set_cons_succ, if_true, if_false, ite_true, ite_false, reduceIte, Bool.false_eq_true, Option.map_some, eUnl, eTupL, eDGet, opMax2, opMin2, opIDiv, opIMod, sParT, storeT, eChn, opLenD, opStr, zk1, zk2, zk3, zk4, zk5, zk6, zk7, zk8, zk0, Nat.reduceAdd, Nat.reduceSub, gLst, e1, ht, p0, if_pos hr, e2, w, eTold, q1, q2, decide_eq_false h0, ix0, ix1, decide_eq_false hz, Bool.not_false, ne_t2]
/-! ### the end -/
theorem tl1 (ob : List OV) : F_inverse [.int 3, .int 1] ob = .exc "NumberError" ob := by rfl
theorem tl2 (ob : List OV) : F_prime_factors [.int 0] ob = .exc "NumberError" ob := by rfl
theorem tl4 (ob : List OV) : F_power_by [.int 2, .int (-1), .int 5] ob = .exc "NumberError" ob := by rfl
theorem tl5 (ob : List OV) : F_root_below [.int (-1), .int 2] ob = .exc "NumberError" ob := by rfl
theorem tl6 (ob : List OV) : F_root_below [.int 4, .int 0] ob = .exc "NumberError" ob := by rfl
theorem tl7 (ob : List OV) : F_prime_factors [.int 1] ob = .ok false (.tupl []) ob := by
  obtain ⟨rows, hf, e⟩ := pf_eq (N := 1) (by decide) (by decide) ob
  cases rows with
  | nil => exact e
  | cons p r =>
    have h1 := le_of_dvd (by decide) (hf.dvd (p := p) List.mem_cons_self)
    have := (hf.each p List.mem_cons_self).1.1
    omega
theorem tl8 (ob : List OV) : F_is_prime [.int 1] ob = .ok false (.bl false) ob := by rfl
theorem tl9 (ob : List OV) : F_prime_factors [.int (-12)] ob = .ok false (.tupl [.tup [.int 2, .int 2], .tup [.int 3, .int 1]]) ob := by rfl
abbrev lt : S → RS := lt_law F__law_rounds F_bezout F_prime_factors F_root_below F_convergents F__law_large F__law_roll F__law_convergents F__law_frac F__law_times F_is_prime F__law_gcd F_common_divisor F_inverse F_power F_power_by F__law_prime F_divisors F_rational F_sum_of F__law_plus F_product_of F_difference_of F_compared F_sign F_rational_text F_next_prime F_remainders_joined F_raised F__law_long F_quotient_of opSrt
abbrev nE : T := .str "NumberError"
theorem rep6 : opMul (.lst [nE]) (.int 6) = some (true, .lst [nE, nE, nE, nE, nE, nE]) := by rfl
theorem eq6 : opEq (.lst [nE, nE, nE, nE, nE, nE]) (.lst [nE, nE, nE, nE, nE, nE]) = some (false, .bl true) := by
  have hs : PySem.PyData.strOk ("NumberError" : PySem.Str) = true := by decide +kernel
  unfold opEq
  have h : T.shp 60 (.lst [nE, nE, nE, nE, nE, nE]) = true := by
    simp only [T.shp, T.shps, hs, Bool.and_self]
  rw [if_pos ⟨h, h⟩]
  have he : T.eqv (.lst [nE, nE, nE, nE, nE, nE]) (.lst [nE, nE, nE, nE, nE, nE]) = true := by
    simp only [T.eqv, T.eqvs, beq_self_eq_true, Bool.and_self]
  rw [he]
theorem eq00 : opEq (.tup []) (.tup []) = some (false, .bl true) := by rfl
theorem eq12 : opEq (.tup [.tup [.int 2, .int 2], .tup [.int 3, .int 1]]) (.tup [.tup [.int 2, .int 2], .tup [.int 3, .int 1]]) = some (false, .bl true) := by rfl
theorem lt_at {x0 x1 x2 x3 x4 x5 x6 x7 x8 x9 x10 x11 x12 x13 x14 x15 x16 x17 x18 x19 x20 x21 x22 x23 x24 x25 x26 x27 x28 x29 x30 : Option (Bool × T)} (ns : List Int) (ob : List OV) : ∃ ob', lt ⟨[some (false, .scr ns), x1, x2, x3, x4, x5, x6, x7, x8, x9, x10, x11, x12, x13, x14, x15, x16, x17, x18, x19, x20, x21, x22, x23, x24, x25, x26, x27, x28, x29, x30], ob⟩ = .ret false (.bl true) ob' := by
  obtain ⟨ob', e⟩ := large_at ns ob
  refine ⟨ob', ?_⟩
  unfold lt lt_law
  have zz : ∀ n, szok (3 + n) = decide (3 + n ≤ 1000000) := fun _ => rfl
  have m6 : opMul (.lst [.str "NumberError"]) (.int 6) = some (true, .lst [nE, nE, nE, nE, nE, nE]) := rep6
  simp only [mkFn, sCons, sNil, sSet, setOf, sExpr, sRet, retOf, sRetN, sIf, sRaise, sAug, sAsg, toS, gSet, gNil, gCons, gTup, gSub, sPar, storeAll, eC, eVar, eBin, eUn, eTup, eLst, eLstO, eIf, eAnd, eOr, eNot, eIs, isN, aNil, aCons, aoNil, aoCons, own, peek, frz, view, out1, out1_val, out1_tmp, R.bind, R.bindS, tTst, tAndS, tOrS, tNotS, eCall, afterF, sFor, iRng1, iRng2, iSeq, itemsOf, opAdd, opSub, opDiv, opMod, opPow, opNeg, opIMul, opIAdd, opLt, opLe, opGt, opGe, opEq_int, opNe_int, opLen, opAbs, opInt, opList, opTuple, opIx, eApp, isL, wr, List.map_cons, List.map_nil, List.length_cons, List.length_nil, List.replicate_succ, List.replicate_zero, List.cons_append, List.nil_append, List.append_nil, List.getElem?_cons_zero, List.getElem?_cons_succ, List.set_cons_zero, List.set_cons_succ, if_true, if_false, ite_true, ite_false, reduceIte, Bool.false_eq_true, Option.map_some, eUnl, eTupL, eDGet, opMax2, opMin2, opIDiv, opIMod, sParT, storeT, eChn, opLenD, opStr, zk1, zk2, zk3, zk4, zk5, zk6, zk7, zk8, zk0, Nat.reduceAdd, Nat.reduceSub, gLst, eTold, tl1, tl2, rat_zero, tl4, tl5, tl6, tl7, tl8, tl9, e, m6, eq6, eq00, eq12, Bool.not_false]
abbrev LB : S → RS := (sCons c0 (sCons c1 (sCons c2 (sCons c3 (sCons c4 (sCons c5 (sCons c6 (sCons c7 (sCons c8 (sCons c9 (sCons c10 c11)))))))))))
theorem body_eq : b_law = sCons (sFor (iSeq (eCall F__law_rounds (aCons (eVar 0) (aCons (eC (.int 1)) aNil)))) (gSet 1) LB) lt := by
  unfold b_law bb_law LB c0 c1 c2 c3 c4 c5 c6 c7 c8 c9 c10 c11 lt lb0_law lb1_law lb2_law lb3_law lb4_law lb5_law lb6_law lb7_law lb8_law lb9_law lb10_law lb11_law lt_law
  (simp only [sCons_assoc]) <;> rfl
end K01

namespace K01
open Sv
theorem plain : ∀ ns : List Int, ns.length ≤ 63 → (∀ z ∈ ns, PySem.Builtin.Int.intBits z ≤ 1048576) → ∃ ob, F_law [.scr ns] [] = .ok false (.bl true) ob := by
  intro ns _ _
  obtain ⟨a0, b0, c0, hr⟩ := rounds_at ns []
  have hr : F__law_rounds [.scr ns, .int 1] [] = .ok true (.lst [.obj 0]) [D3 a0 b0 c0] := hr
  obtain ⟨u, v, a1, b1, c1, hu, hv, h0⟩ := c0_at (x0 := some (false, .scr ns)) (x1 := sO) (x2 := none) (x3 := none) (x4 := none) (x5 := none) (x6 := none) (x7 := none) (x8 := none) (x9 := none) (x10 := none) (x11 := none) (x12 := none) (x13 := none) (x14 := none) (x15 := none) (x16 := none) (x17 := none) (x18 := none) (x19 := none) (x20 := none) (x21 := none) (x22 := none) (x23 := none) (x24 := none) (x25 := none) (x26 := none) (x27 := none) (x28 := none) (x29 := none) (x30 := none) a0 b0 c0
  obtain ⟨d, x, y, h1⟩ := c1_at (x0 := some (false, .scr ns)) (x1 := sO) (x2 := some (true, szs)) (x3 := sI u) (x4 := sI v) (x5 := none) (x6 := none) (x7 := none) (x8 := none) (x9 := none) (x10 := none) (x11 := none) (x12 := none) (x13 := none) (x14 := none) (x15 := none) (x16 := none) (x17 := none) (x18 := none) (x19 := none) (x20 := none) (x21 := none) (x22 := none) (x23 := none) (x24 := none) (x25 := none) (x26 := none) (x27 := none) (x28 := none) (x29 := none) (x30 := none) hu hv [D3 a1 b1 c1]
  obtain ⟨B, E, a2, b2, c2, t, hB, hB2, hE, hE2, h2⟩ := c2_at (x0 := some (false, .scr ns)) (x1 := sO) (x2 := some (true, szs)) (x3 := sI u) (x4 := sI v) (x5 := sI d) (x6 := sI x) (x7 := sI y) (x8 := none) (x9 := none) (x10 := none) (x11 := none) (x12 := none) (x13 := none) (x14 := none) (x15 := none) (x16 := none) (x17 := none) (x18 := none) (x19 := none) (x20 := none) (x21 := none) (x22 := none) (x23 := none) (x24 := none) (x25 := none) (x26 := none) (x27 := none) (x28 := none) (x29 := none) (x30 := none) hu a1 b1 c1
  have h3 := c3_at (x0 := some (false, .scr ns)) (x1 := sO) (x2 := some (true, szs)) (x3 := sI u) (x4 := sI v) (x5 := sI d) (x6 := sI x) (x7 := sI y) (x8 := sI B) (x9 := sI E) (x10 := some (false, t)) (x11 := none) (x12 := none) (x13 := none) (x14 := none) (x15 := none) (x16 := none) (x17 := none) (x18 := none) (x19 := none) (x20 := none) (x21 := none) (x22 := none) (x23 := none) (x24 := none) (x25 := none) (x26 := none) (x27 := none) (x28 := none) (x29 := none) (x30 := none) hu hB hB2 hE hE2 [D3 a2 b2 c2]
  obtain ⟨n, a3, b3, c3, y12, y14, y15, hn, hn2, h4⟩ := c4_at (x0 := some (false, .scr ns)) (x1 := sO) (x2 := some (true, szs)) (x3 := sI u) (x4 := sI v) (x5 := sI d) (x6 := sI x) (x7 := sI y) (x8 := sI B) (x9 := sI E) (x10 := some (false, t)) (x11 := none) (x12 := none) (x13 := none) (x14 := none) (x15 := none) (x16 := none) (x17 := none) (x18 := none) (x19 := none) (x20 := none) (x21 := none) (x22 := none) (x23 := none) (x24 := none) (x25 := none) (x26 := none) (x27 := none) (x28 := none) (x29 := none) (x30 := none) a2 b2 c2
  have h5 := c5_at (x0 := some (false, .scr ns)) (x1 := sO) (x2 := some (true, szs)) (x3 := sI u) (x4 := sI v) (x5 := sI d) (x6 := sI x) (x7 := sI y) (x8 := sI B) (x9 := sI E) (x10 := some (false, t)) (x11 := sI n) (x12 := y12) (x13 := sI n) (x14 := y14) (x15 := y15) (x16 := none) (x17 := none) (x18 := none) (x19 := none) (x20 := none) (x21 := none) (x22 := none) (x23 := none) (x24 := none) (x25 := none) (x26 := none) (x27 := none) (x28 := none) (x29 := none) (x30 := none) hn hn2 [D3 a3 b3 c3]
  have h6 := c6_at (x0 := some (false, .scr ns)) (x1 := sO) (x2 := some (true, szs)) (x3 := sI u) (x4 := sI v) (x5 := sI d) (x6 := sI x) (x7 := sI y) (x8 := sI B) (x9 := sI E) (x10 := some (false, t)) (x11 := sI n) (x12 := y12) (x13 := sI n) (x14 := y14) (x15 := y15) (x16 := none) (x17 := none) (x18 := none) (x19 := none) (x20 := none) (x21 := none) (x22 := none) (x23 := none) (x24 := none) (x25 := none) (x26 := none) (x27 := none) (x28 := none) (x29 := none) (x30 := none) hn hn2 [D3 a3 b3 c3]
  obtain ⟨a4, b4, c4, y16, y17, y18, y19, y20, h7⟩ := c7_at (x0 := some (false, .scr ns)) (x1 := sO) (x2 := some (true, szs)) (x3 := sI u) (x4 := sI v) (x5 := sI d) (x6 := sI x) (x7 := sI y) (x8 := sI B) (x9 := sI E) (x10 := some (false, t)) (x11 := sI n) (x12 := y12) (x13 := sI n) (x14 := y14) (x15 := y15) (x16 := none) (x17 := none) (x18 := none) (x19 := none) (x20 := none) (x21 := none) (x22 := none) (x23 := none) (x24 := none) (x25 := none) (x26 := none) (x27 := none) (x28 := none) (x29 := none) (x30 := none) a3 b3 c3
  obtain ⟨a5, b5, c5, z15, y21, y22, h8⟩ := c8_at (x0 := some (false, .scr ns)) (x1 := sO) (x2 := some (true, szs)) (x3 := sI u) (x4 := sI v) (x5 := sI d) (x6 := sI x) (x7 := sI y) (x8 := sI B) (x9 := sI E) (x10 := some (false, t)) (x11 := sI n) (x12 := y12) (x13 := sI n) (x14 := y14) (x15 := y15) (x16 := y16) (x17 := y17) (x18 := y18) (x19 := y19) (x20 := y20) (x21 := none) (x22 := none) (x23 := none) (x24 := none) (x25 := none) (x26 := none) (x27 := none) (x28 := none) (x29 := none) (x30 := none) hu a4 b4 c4
  obtain ⟨a6, b6, c6, y23, y24, h9⟩ := c9_at (x0 := some (false, .scr ns)) (x1 := sO) (x2 := some (true, szs)) (x3 := sI u) (x4 := sI v) (x5 := sI d) (x6 := sI x) (x7 := sI y) (x8 := sI B) (x9 := sI E) (x10 := some (false, t)) (x11 := sI n) (x12 := y12) (x13 := sI n) (x14 := y14) (x15 := z15) (x16 := y16) (x17 := y17) (x18 := y18) (x19 := y19) (x20 := y20) (x21 := y21) (x22 := y22) (x23 := none) (x24 := none) (x25 := none) (x26 := none) (x27 := none) (x28 := none) (x29 := none) (x30 := none) (u := u) a5 b5 c5
  obtain ⟨p, q, a7, b7, c7, hp, hq, h10⟩ := c10_at (x0 := some (false, .scr ns)) (x1 := sO) (x2 := some (true, szs)) (x3 := sI u) (x4 := sI v) (x5 := sI d) (x6 := sI x) (x7 := sI y) (x8 := sI B) (x9 := sI E) (x10 := some (false, t)) (x11 := sI n) (x12 := y12) (x13 := sI n) (x14 := y14) (x15 := z15) (x16 := y16) (x17 := y17) (x18 := y18) (x19 := y19) (x20 := y20) (x21 := y21) (x22 := y22) (x23 := y23) (x24 := y24) (x25 := none) (x26 := none) (x27 := none) (x28 := none) (x29 := none) (x30 := none) a6 b6 c6
  obtain ⟨y27, y28, y29, ob, h11⟩ := c11_at (x0 := some (false, .scr ns)) (x1 := sO) (x2 := some (true, szs)) (x3 := sI u) (x4 := sI v) (x5 := sI d) (x6 := sI x) (x7 := sI y) (x8 := sI B) (x9 := sI E) (x10 := some (false, t)) (x11 := sI n) (x12 := y12) (x13 := sI n) (x14 := y14) (x15 := z15) (x16 := y16) (x17 := y17) (x18 := y18) (x19 := y19) (x20 := y20) (x21 := y21) (x22 := y22) (x23 := y23) (x24 := y24) (x25 := some (false, pT p)) (x26 := some (false, pT q)) (x27 := none) (x28 := none) (x29 := none) (x30 := none) hp a7 b7 c7
  have hl : LB ⟨[some (false, .scr ns), sO, none, none, none, none, none, none, none, none, none, none, none, none, none, none, none, none, none, none, none, none, none, none, none, none, none, none, none, none, none], [D3 a0 b0 c0]⟩ = .nxt ⟨[some (false, .scr ns), sO, some (true, szs), sI u, sI v, sI d, sI x, sI y, sI B, sI E, some (false, t), sI n, y12, sI n, y14, z15, y16, y17, y18, y19, y20, y21, y22, y23, y24, some (false, pT p), some (false, pT q), y27, y28, y29, none], ob⟩ := ((sCons_nxt h0).trans ((sCons_nxt h1).trans ((sCons_nxt h2).trans ((sCons_nxt h3).trans ((sCons_nxt h4).trans ((sCons_nxt h5).trans ((sCons_nxt h6).trans ((sCons_nxt h7).trans ((sCons_nxt h8).trans ((sCons_nxt h9).trans ((sCons_nxt h10).trans h11)))))))))))
  obtain ⟨ob', ht⟩ := lt_at (x0 := some (false, .scr ns)) (x1 := sO) (x2 := some (true, szs)) (x3 := sI u) (x4 := sI v) (x5 := sI d) (x6 := sI x) (x7 := sI y) (x8 := sI B) (x9 := sI E) (x10 := some (false, t)) (x11 := sI n) (x12 := y12) (x13 := sI n) (x14 := y14) (x15 := z15) (x16 := y16) (x17 := y17) (x18 := y18) (x19 := y19) (x20 := y20) (x21 := y21) (x22 := y22) (x23 := y23) (x24 := y24) (x25 := some (false, pT p)) (x26 := some (false, pT q)) (x27 := y27) (x28 := y28) (x29 := y29) (x30 := none) ns ob
  refine ⟨ob', ?_⟩
  unfold F_law
  rw [body_eq]
  generalize LB = L at hl ⊢
  have hf : sFor (iSeq (eCall F__law_rounds (aCons (eVar 0) (aCons (eC (.int 1)) aNil)))) (gSet 1) L ⟨[some (false, .scr ns), none, none, none, none, none, none, none, none, none, none, none, none, none, none, none, none, none, none, none, none, none, none, none, none, none, none, none, none, none, none], []⟩ = .nxt ⟨[some (false, .scr ns), sO, some (true, szs), sI u, sI v, sI d, sI x, sI y, sI B, sI E, some (false, t), sI n, y12, sI n, y14, z15, y16, y17, y18, y19, y20, y21, y22, y23, y24, some (false, pT p), some (false, pT q), y27, y28, y29, none], ob⟩ := by
    have g : iSeq (eCall F__law_rounds (aCons (eVar 0) (aCons (eC (.int 1)) aNil))) ⟨[some (false, .scr ns), none, none, none, none, none, none, none, none, none, none, none, none, none, none, none, none, none, none, none, none, none, none, none, none, none, none, none, none, none, none], []⟩ = .ok [T.obj 0] ⟨[some (false, .scr ns), none, none, none, none, none, none, none, none, none, none, none, none, none, none, none, none, none, none, none, none, none, none, none, none, none, none, none, none, none, none], [D3 a0 b0 c0]⟩ := by
      simp only [mkFn, sCons, sNil, sSet, setOf, sExpr, sRet, retOf, sRetN, sIf, sRaise, sAug, sAsg, toS, gSet, gNil, gCons, gTup, gSub, sPar, storeAll, eC, eVar, eBin, eUn, eTup, eLst, eLstO, eIf, eAnd, eOr, eNot, eIs, isN, aNil, aCons, aoNil, aoCons, own, peek, frz, view, out1, out1_val, out1_tmp, R.bind, R.bindS, tTst, tAndS, tOrS, tNotS, eCall, afterF, sFor, iRng1, iRng2, iSeq, itemsOf, opAdd, opSub, opMul, opDiv, opMod, opPow, opNeg, opIMul, opIAdd, opLt, opLe, opGt, opGe, opEq_int, opNe_int, opLen, opAbs, opInt, opList, opTuple, opIx, eApp, isL, wr, List.map_cons, List.map_nil, List.length_cons, List.length_nil, List.replicate_succ, List.replicate_zero, List.cons_append, List.nil_append, List.append_nil, List.getElem?_cons_zero, List.getElem?_cons_succ, List.set_cons_zero, List.set_cons_succ, if_true, if_false, ite_true, ite_false, reduceIte, Bool.false_eq_true, Option.map_some, eUnl, eTupL, eDGet, opMax2, opMin2, opIDiv, opIMod, sParT, storeT, eChn, opLenD, opStr, zk1, zk2, zk3, zk4, zk5, zk6, zk7, zk8, zk0, Nat.reduceAdd, Nat.reduceSub, gLst, hr]
    unfold sFor
    rw [g]
    show forL (gSet 1) L [T.obj 0] _ = _
    exact forL_cons_nxt rfl hl
  have all := (sCons_nxt hf).trans ht
  unfold mkFn
  rw [if_pos (show [T.scr ns].length = 1 from rfl)]
  exact congrArg (fun z : RS => match z with | .nxt s => FR.ok false .non s.ob | .ret b t ob => .ok b t ob | .exc c s => .exc c s.ob | _ => .stuck) all
end K01

namespace K01
open PySem PySem.Spec PyProof.Rows L2 Sv
/-! ### the top, run -/
abbrev Ro : PySem.W.OpenRow := PySem.W.OpenLaw.row PySem.Challenge.rw_algebrastack_k01_whole_numbers_and_fract
def tfs : List He.Defn := [("bezout", none), ("_law_large", none), ("law", none)]
def exK (K : PySem.W.Frag) : Bool := decide ((tfs.map fun p => (He.cT K p).2).Nodup) && He.tupB K "ONE" (([1, 1] : List Int).map He.Dv.int)
abbrev hk : PySem.W.Hook := He.hookX 4 fa fn [] tfs exK
def ob (s : PySem.W.SharedT) : He.AlX := He.obsX 4 fa fn [] tfs exK (HandSHeadRun.getT s)
theorem ob_eq (s : PySem.W.SharedT) : ob s = hk.obs s.abs := He.obsX_eq (HandSHeadRun.getT_eq s)
def names0 : List Str := ["AlgebraError", "NumberError", "MOST_TRIAL", "common_divisor", "bezout", "inverse", "power_by", "prime_factors", "is_prime", "next_prime", "remainders_joined", "root_below"]
def names1 : List Str := ["power", "divisors", "convergents", "ONE", "LARGE", "rational", "sum_of", "difference_of", "product_of", "quotient_of", "sign", "compared"]
def names2 : List Str := ["check_short", "raised", "rational_text", "_law_dice", "_law_roll", "_law_rounds", "_law_told", "_law_gcd", "_law_frac", "_law_plus", "_law_times", "_law_convergents"]
def names3 : List Str := ["_law_prime", "_law_large", "_law_long"]
def names : List Str := names0 ++ names1 ++ names2 ++ names3
theorem run (w : World) : HandSHeadRun.RunEq Ro (PySem.W.view Ro.prog [43]) hk ob 6000 names w := by
  intro os
  kernel_rfl
theorem walk (plain : ∀ ns : List Int, ns.length ≤ 63 → (∀ z ∈ ns, Builtin.Int.intBits z ≤ 1048576) → ∃ ob, F_law [.scr ns] [] = .ok false (.bl true) ob) : PySem.W.WalkO (PySem.W.view Ro.prog [43]) names (PySem.W.XL (PySem.W.view Ro.prog [43]) []) hk.says Ro.toRowW (HandSHeadRun.topDef Ro.prog 43) [] fun f vs => PySem.call f vs := by
  refine LamX.walk_ofTsE (l := PySem.Challenge.rw_algebrastack_k01_whole_numbers_and_fract) (n := 63) (k := 10) (x := "script") (CX := fun w => L2.CX (PySem.Challenge.rw_algebrastack_k01_whole_numbers_and_fract).prog w) rfl (by decide) (by kernel_rfl) ⟨rfl, by decide, by decide⟩ ?F (fun _ _ _ _ _ z => cx_none z)
  intro w mg fa h Y G hmg0
  obtain ⟨K, KX, c⟩ := Y
  have c0 := c.t.d
  have hmg : mg "law" = some (.ref fa) := by
    have e : (HandSHeadRun.topDef Ro.prog 43).name = ("law" : Str) := by kernel_rfl
    rw [← e]
    exact hmg0
  have e := hmg.symm.trans (He.glo_ok KX G (c0.fact 33 (f := .glo "law") rfl))
  cases e
  obtain ⟨fd, hFd⟩ := c0.def_ 33 (d := d_law) rfl
  let cs : List ((Addr × Addr) × Str) := [(He.cT K ("bezout", none), gxQ), (He.cT K ("_law_large", none), lamQ__law_large), (He.cT K ("law", none), lamQ_law)]
  letI : Tb := ⟨cs.map fun p => (p.1.2, p.2), lamL⟩
  have hex : exK K = true := c.more
  unfold exK at hex
  simp only [Bool.and_eq_true, decide_eq_true_eq] at hex
  have mem : ∀ p ∈ cs, ∃ d ∈ tfs, p.1 = He.cT K d := fun p hp => by
    simp only [cs, List.mem_cons, List.not_mem_nil, or_false] at hp
    rcases hp with rfl | rfl | rfl
    · exact ⟨("bezout", none), by simp [tfs], rfl⟩
    · exact ⟨("_law_large", none), by simp [tfs], rfl⟩
    · exact ⟨("law", none), by simp [tfs], rfl⟩
  refine ⟨K, KX, law_atM (cs := cs) (L := lamL) (G := F_law) hex.1 (fun p hp => ?_) (fun p hp => ?_) (fun p hp => ?_) (bd_law hFd) plain fun base h1 h2 h3 => ok_law h1 h2 c0 ⟨h3 (He.cT K ("bezout", none), gxQ) (by simp [cs]), List.mem_map.mpr ⟨(He.cT K ("bezout", none), gxQ), by simp [cs], rfl⟩, h3 (He.cT K ("_law_large", none), lamQ__law_large) (by simp [cs]), List.mem_map.mpr ⟨(He.cT K ("_law_large", none), lamQ__law_large), by simp [cs], rfl⟩, h3 (He.cT K ("law", none), lamQ_law) (by simp [cs]), List.mem_map.mpr ⟨(He.cT K ("law", none), lamQ_law), by simp [cs], rfl⟩, hex.2⟩ hFd fun _ => rfl⟩
  · obtain ⟨d, hd, e⟩ := mem p hp
    rw [e]; exact c.empty d hd
  · obtain ⟨d, hd, e⟩ := mem p hp
    rw [e]; exact c.out d hd
  · obtain ⟨d, hd, e⟩ := mem p hp
    rw [e]; exact PySem.W.codeHd_of_K KX (c.hd d hd)
end K01

open PySem PySem.W PySem.Calls PyProof.Rows
set_option maxHeartbeats 0 in
theorem PySem.Challenge.cw_algebrastack_k01_whole_numbers_and_fract_holds : PySem.Challenge.rw_algebrastack_k01_whole_numbers_and_fract.Holds := by
  w_on; o_law
  refine HandSHeadRun.head_any (r := K01.Ro) (q := view K01.Ro.prog [43]) (H := K01.hk) (ob := K01.ob) (M := 6000) (loose := K01.names) (d := HandSHeadRun.topDef K01.Ro.prog 43) (kwd := []) K01.ob_eq
    (by kernel_rfl) (fun s => by kernel_rfl) K01.run (by kernel_rfl) (by kernel_rfl) (by kernel_rfl) (by rfl) (by first | assumption | decide +kernel) (by decide +kernel) ⟨rfl, rfl, rfl, rfl, rfl, by decide +kernel⟩ ?hw ?hc
  case hw => w_witness2
  case hc => exact K01.walk K01.plain
