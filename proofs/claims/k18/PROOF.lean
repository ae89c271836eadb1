import PyProof.Rows.All
import PySem.Challenge.RW_algebrastack_k18_roots_that_come_back
import Wide.All
import OpenK.AllK
import Wide.FinOn
import HandS.ForMost
import HandS.ForExc
import HandS.Lambda
import HandS.EndTab
import HandS.Conv
import HandS.Deep
import HandS.Wide
import HandS.TupAny
import HandS.TupMul
import HandS.Flow
import HandS.WideMore
import HandS.Style
import HandS.Iter
import HandS.Zip
import KE.GoesEnum
import KE.GoesMore
import KE.SortData
import KE.SortCalls
import HandS.HeadHook4
import HandS.HeadNt
import HandS.HeadWalk
import HandS.Head2
import HandS.Defaults
import HandS.HeadEnd
import KE.KStateDown
set_option Elab.async false
set_option linter.all false
set_option maxRecDepth 100000
set_option maxHeartbeats 0
/-! Sv, part A: value trees, tags, the state relation, the sequencing of readings. -/
namespace Sv
open PySem PySem.Spec PyProof.Rows L2

/-- a value as a tree; obj r: the r-th object held by reference; gl x: what the module's name x holds -/
inductive T where
  | non | bl (b : Bool) | int (i : Int) | str (x : Str)
  | tup (ts : List T) | lst (ts : List T) | dct (ks vs : List T)
  | obj (r : Nat) | gl (x : Str) | lam (n : Nat) | scr (ns : List Int)

/-- whom an address belongs to -/
inductive Tag where
  | free | frz | slot (i : Nat) | ob (r : Nat) | fld (r : Nat) (f : Str) | dx (r : Nat) | tb (q : Str)
  deriving DecidableEq
abbrev Tg := Addr → Tag
def tset (τ : Tg) (p : Addr) (g : Tag) : Tg := fun b => if b = p then g else τ b
theorem tset_same {τ : Tg} {p : Addr} {g : Tag} : tset τ p g p = g := by unfold tset; rw [if_pos rfl]
theorem tset_ne {τ : Tg} {p b : Addr} {g : Tag} (h : b ≠ p) : tset τ p g b = τ b := by unfold tset; rw [if_neg h]

/-- the words of a lambda without parameters -/
structure LD where
  q : Str
  body : Expr
  scope : Scope
  cl : List (Str × Addr)
abbrev noArgs : Arguments := { posonlyargs := [], args := [], vararg := none, kwonlyargs := [], kw_defaults := [], kwarg := none, defaults := [] }
/-- the object at f is that lambda, c its code object -/
def LamO (f c : Addr) (F : LD) : HO := .ext fun h => ∃ (pm ctv : Value), h.get? f = some (PySem.W.kla_obj "<lambda>" F.q noArgs F.body F.scope F.cl pm c ctv)
/-- the module's facts that values lean on -/
structure Md where
  K : PySem.W.Frag
  mg : Str → Option Value
  T : List (Addr × Str)
  L : Nat → LD
def KT (K : PySem.W.Frag) (a : Addr) (xs : List V) : Prop :=
  ∃ (o : Obj) (its : Array Value) (n : Nat), K.lookup a = some o ∧ o.cls = .type "tuple" ∧ o.data = .seq its n ∧ its.size ≤ sizeLine ∧ Vals xs its.toList
def TupAt (M : Md) (τ : Tg) (H : Hp) (a : Addr) (xs : List V) : Prop := (τ a = .frz ∧ H a = some (.tup xs)) ∨ KT M.K a xs
def LstAt (_M : Md) (τ : Tg) (H : Hp) (a : Addr) (xs : List V) : Prop := τ a = .frz ∧ H a = some (.lst xs)
/-- the script: whole numbers, in the heap or in the module -/
def ScrAt (M : Md) (τ : Tg) (H : Hp) (a : Addr) (xs : List V) : Prop := (τ a = .frz ∧ Rd H a (.lst xs)) ∨ ∃ (o : Obj) (its : Array Value) (n : Nat), M.K.lookup a = some o ∧ o.cls = .type "list" ∧ o.dict = none ∧ o.data = .seq its n ∧ its.size ≤ sizeLine ∧ Vals xs its.toList
theorem ScrAt.sq {M : Md} {τ : Tg} {H : Hp} {a : Addr} {xs : List V} (h : ScrAt M τ H a xs) : SqL M.K H a xs := h.elim (fun h => .inl h.2) .inr
theorem TupAt.sq {M : Md} {τ : Tg} {H : Hp} {a : Addr} {xs : List V} (h : TupAt M τ H a xs) : SqT M.K H a xs := h.elim (fun h => .inl (.inl h.2)) .inr
theorem LstAt.sq {M : Md} {τ : Tg} {H : Hp} {a : Addr} {xs : List V} (h : LstAt M τ H a xs) : SqL M.K H a xs := .inl (.inl h.2)

mutual
/-- the value v is the tree t, as it will stay -/
inductive Rp (M : Md) (τ : Tg) (H : Hp) : T → V → Prop
  | non : Rp M τ H .non .non
  | bl (b : Bool) : Rp M τ H (.bl b) (.bl b)
  | int (i : Int) : Rp M τ H (.int i) (.int i)
  | str (x : Str) : Rp M τ H (.str x) (.str x)
  | gl {x : Str} {u : Value} {v : V} : M.mg x = some u → RelV v u → Rp M τ H (.gl x) v
  | obj {r : Nat} {a : Addr} : τ a = .ob r → Rp M τ H (.obj r) (.ref a)
  | tup {a : Addr} {xs : List V} {ts : List T} : TupAt M τ H a xs → Rps M τ H ts xs → Rp M τ H (.tup ts) (.ref a)
  | lst {a : Addr} {xs : List V} {ts : List T} : LstAt M τ H a xs → Rps M τ H ts xs → Rp M τ H (.lst ts) (.ref a)
  | lam {a c : Addr} {n : Nat} : τ a = .frz → H a = some (LamO a c (M.L n)) → τ c = .frz → H c = some (LamX.CodeO c (M.L n).q) → Rp M τ H (.lam n) (.ref a)
  | scr {a : Addr} {ns : List Int} : ScrAt M τ H a (ns.map V.int) → Rp M τ H (.scr ns) (.ref a)
inductive Rps (M : Md) (τ : Tg) (H : Hp) : List T → List V → Prop
  | nil : Rps M τ H [] []
  | cons {t : T} {v : V} {ts : List T} {vs : List V} : Rp M τ H t v → Rps M τ H ts vs → Rps M τ H (t :: ts) (v :: vs)
end

/-- what holds of trees goes on -/
structure Kp (τ : Tg) (H : Hp) (τ' : Tg) (H' : Hp) : Prop where
  fz : ∀ a o, H a = some o → τ a = .frz → τ' a = .frz ∧ H' a = some o
  ob : ∀ a r, τ a = .ob r → τ' a = .ob r
/-- what others hold stays -/
structure Evo (τ : Tg) (H : Hp) (τ' : Tg) (H' : Hp) : Prop extends Kp τ H τ' H' where
  fr : ∀ a o, H a = some o → τ a = .free → τ' a = .free ∧ H' a = some o
  th : ∀ a, H a ≠ none → H' a ≠ none
  sl : ∀ a i, τ' a = .slot i → H a = none ∨ ∃ j, τ a = .slot j
theorem Kp.trans {τ τ1 τ2 : Tg} {H H1 H2 : Hp} (a : Kp τ H τ1 H1) (b : Kp τ1 H1 τ2 H2) : Kp τ H τ2 H2 :=
  ⟨fun x o h t => let ⟨t1, h1⟩ := a.fz x o h t; b.fz x o h1 t1, fun x r t => b.ob x r (a.ob x r t)⟩
theorem Evo.trans {τ τ1 τ2 : Tg} {H H1 H2 : Hp} (a : Evo τ H τ1 H1) (b : Evo τ1 H1 τ2 H2) : Evo τ H τ2 H2 :=
  ⟨a.toKp.trans b.toKp, fun x o h t => let ⟨t1, h1⟩ := a.fr x o h t; b.fr x o h1 t1, fun x h => b.th x (a.th x h), fun x i t => (b.sl x i t).elim
    (fun h => .inl (by
      cases q : H x with
      | none => rfl
      | some o => exact absurd h (a.th x (by rw [q]; simp)))) fun ⟨j, t⟩ => a.sl x j t⟩
theorem Kp.refl (τ : Tg) (H : Hp) : Kp τ H τ H := ⟨fun _ _ h t => ⟨t, h⟩, fun _ _ t => t⟩
theorem Evo.refl (τ : Tg) (H : Hp) : Evo τ H τ H := ⟨Kp.refl τ H, fun _ _ h t => ⟨t, h⟩, fun _ h => h, fun _ i t => .inr ⟨i, t⟩⟩
theorem Evo.back {τ τ' : Tg} {H H' : Hp} (e : Evo τ H τ' H') {a : Addr} (h : H' a = none) : H a = none := by
  cases q : H a with
  | none => rfl
  | some o => exact absurd h (e.th a (by rw [q]; simp))

section
variable {M : Md} {τ τ' : Tg} {H H' : Hp}
theorem Rd.kp {a : Addr} {u : HO} (e : Kp τ H τ' H') (ht : τ a = .frz) (h : Rd H a u) : τ' a = .frz ∧ Rd H' a u := by
  rcases h with h | ⟨o, h⟩
  · obtain ⟨h1, h2⟩ := e.fz a _ h ht
    exact ⟨h1, .inl h2⟩
  · obtain ⟨h1, h2⟩ := e.fz a _ h ht
    exact ⟨h1, .inr ⟨o, h2⟩⟩
theorem TupAt.mono {a : Addr} {xs : List V} (e : Kp τ H τ' H') (h : TupAt M τ H a xs) : TupAt M τ' H' a xs := h.elim (fun h => .inl (e.fz a _ h.2 h.1)) .inr
theorem LstAt.mono {a : Addr} {xs : List V} (e : Kp τ H τ' H') (h : LstAt M τ H a xs) : LstAt M τ' H' a xs := e.fz a _ h.2 h.1
mutual
theorem Rp.mono (e : Kp τ H τ' H') : ∀ {t : T} {v : V}, Rp M τ H t v → Rp M τ' H' t v
  | _, _, .non => .non
  | _, _, .bl b => .bl b
  | _, _, .int i => .int i
  | _, _, .str x => .str x
  | _, _, .gl h r => .gl h r
  | _, _, .obj h => .obj (e.ob _ _ h)
  | _, _, .tup h r => .tup (h.mono e) (Rps.mono e r)
  | _, _, .lst h r => .lst (h.mono e) (Rps.mono e r)
  | _, _, .lam t h t2 h2 => let ⟨a, b⟩ := e.fz _ _ h t; let ⟨c, d⟩ := e.fz _ _ h2 t2; .lam a b c d
  | _, _, .scr h => .scr (h.elim (fun h => .inl (Rd.kp e h.1 h.2)) .inr)
theorem Rps.mono (e : Kp τ H τ' H') : ∀ {ts : List T} {vs : List V}, Rps M τ H ts vs → Rps M τ' H' ts vs
  | _, _, .nil => .nil
  | _, _, .cons h r => .cons (Rp.mono e h) (Rps.mono e r)
end
theorem Rps.length : ∀ {ts : List T} {vs : List V}, Rps M τ H ts vs → ts.length = vs.length
  | _, _, .nil => rfl
  | _, _, .cons _ r => congrArg (· + 1) (Rps.length r)
theorem Rps.get : ∀ {ts : List T} {vs : List V} {i : Nat} {t : T}, Rps M τ H ts vs → ts[i]? = some t → ∃ v, vs[i]? = some v ∧ Rp M τ H t v
  | _, _, _, _, .nil, h => by simp at h
  | _, _, 0, _, .cons r _, h => ⟨_, rfl, by simp at h; subst h; exact r⟩
  | _, _, i + 1, _, .cons _ r, h => by simpa using Rps.get (i := i) r (by simpa using h)
theorem Rps.getV : ∀ {ts : List T} {vs : List V} {i : Nat} {v : V}, Rps M τ H ts vs → vs[i]? = some v → ∃ t, ts[i]? = some t ∧ Rp M τ H t v
  | _, _, _, _, .nil, h => by simp at h
  | _, _, 0, _, .cons r _, h => ⟨_, rfl, by simp at h; subst h; exact r⟩
  | _, _, i + 1, _, .cons _ r, h => by simpa using Rps.getV (i := i) r (by simpa using h)
theorem Rps.append : ∀ {ts us : List T} {vs ws : List V}, Rps M τ H ts vs → Rps M τ H us ws → Rps M τ H (ts ++ us) (vs ++ ws)
  | _, _, _, _, .nil, s => s
  | _, _, _, _, .cons r t, s => .cons r (Rps.append t s)
theorem Rps.take : ∀ {ts : List T} {vs : List V} (n : Nat), Rps M τ H ts vs → Rps M τ H (ts.take n) (vs.take n)
  | _, _, 0, _ => by simp; exact .nil
  | _, _, _ + 1, .nil => by simp; exact .nil
  | _, _, n + 1, .cons r t => by simpa using Rps.cons r (Rps.take n t)
theorem Rps.drop : ∀ {ts : List T} {vs : List V} (n : Nat), Rps M τ H ts vs → Rps M τ H (ts.drop n) (vs.drop n)
  | _, _, 0, r => by simpa using r
  | _, _, _ + 1, .nil => by simp; exact .nil
  | _, _, n + 1, .cons _ t => by simpa using Rps.drop n t
theorem Rps.set {t : T} {v : V} (h : Rp M τ H t v) : ∀ {ts : List T} {vs : List V} (i : Nat), Rps M τ H ts vs → Rps M τ H (ts.set i t) (vs.set i v)
  | _, _, _, .nil => .nil
  | _, _, 0, .cons _ r => .cons h r
  | _, _, i + 1, .cons q r => .cons q (Rps.set h i r)
theorem Rps.reverse : ∀ {ts : List T} {vs : List V}, Rps M τ H ts vs → Rps M τ H ts.reverse vs.reverse
  | _, _, .nil => .nil
  | _, _, .cons r t => by rw [List.reverse_cons, List.reverse_cons]; exact (Rps.reverse t).append (.cons r .nil)
theorem Rps.ints : ∀ (ns : List Int), Rps M τ H (ns.map T.int) (ns.map V.int)
  | [] => .nil
  | n :: ns => .cons (.int n) (Rps.ints ns)
end

/-! ### objects by reference, slots -/
inductive OV where
  | ls (ts : List T)
/-- the state: the frame's slots (true: the frame alone holds this container), the objects by reference -/
structure S where
  sl : List (Option (Bool × T))
  ob : List OV

/-- what stands at the address of a container -/
def Box (M : Md) (τ : Tg) (H : Hp) (a : Addr) (t : T) : Prop :=
  match t with
  | .lst ts => ∃ vs, H a = some (.lst vs) ∧ Rps M τ H ts vs
  | _ => False
def OwnAt (M : Md) (τ : Tg) (H : Hp) (g : Tag) (t : T) (v : V) : Prop := ∃ a, v = .ref a ∧ τ a = g ∧ Box M τ H a t
def VAt (M : Md) (τ : Tg) (H : Hp) (g : Tag) (b : Bool) (t : T) (v : V) : Prop := if b = true then OwnAt M τ H g t v else Rp M τ H t v
def OvAt (M : Md) (τ : Tg) (H : Hp) (a : Addr) (r : Nat) (o : OV) : Prop :=
  match o with
  | .ls ts => ∃ vs, H a = some (.lst vs) ∧ Rps M τ H ts vs
/-- the table at P: its code objects bear the name q, and stay -/
def TabF (τ : Tg) (H : Hp) (P : Addr) (q : Str) : Prop := ∃ ps : Array Value, H P = some (.tbl ps) ∧ TriplesOk ps.toList ∧ ∀ (pos : Pos) (cv : Value), codeAmong pos ps.toList = some cv → ∃ c, cv = .ref c ∧ H c = some (LamX.CodeO c q) ∧ τ c = .frz
theorem TabF.mono {τ τ' : Tg} {H H' : Hp} {P : Addr} {q : Str} (h : TabF τ H P q) (kp : Kp τ H τ' H') (hp : ∀ ps, H P = some (.tbl ps) → H' P = some (.tbl ps)) : TabF τ' H' P q := by
  obtain ⟨ps, h1, h2, h3⟩ := h
  refine ⟨ps, hp _ h1, h2, fun pos cv e => ?_⟩
  obtain ⟨c, e1, e2, e3⟩ := h3 pos cv e
  obtain ⟨e4, e5⟩ := kp.fz c _ e2 e3
  exact ⟨c, e1, e5, e4⟩
/-- the tables of code objects -/
def TbOk (Tb : List (Addr × Str)) (τ : Tg) (H : Hp) : Prop := (∀ p ∈ Tb, τ p.1 = .tb p.2) ∧ (∀ a q, τ a = .tb q → (a, q) ∈ Tb ∧ TabF τ H a q) ∧ True
theorem TbOk.mono {Tb : List (Addr × Str)} {τ τ' : Tg} {H H' : Hp} (h : TbOk Tb τ H) (h1 : ∀ a q, τ a = .tb q → τ' a = .tb q) (h2 : ∀ a q, τ' a = .tb q → τ a = .tb q) (kp : Kp τ H τ' H') (h3 : ∀ a q ps, τ a = .tb q → H a = some (.tbl ps) → H' a = some (.tbl ps)) (h4 : ∀ a ps, H' a = some (.tbl ps) → H a = some (.tbl ps)) : TbOk Tb τ' H' :=
  ⟨fun p hp => h1 _ _ (h.1 p hp), fun a q t => let ⟨m, s⟩ := h.2.1 a q (h2 a q t); ⟨m, s.mono kp fun ps => h3 a q ps (h2 a q t)⟩, trivial⟩
theorem OvAt.ntbl {M : Md} {τ : Tg} {H : Hp} {a : Addr} {r : Nat} {o : OV} (h : OvAt M τ H a r o) : ∀ ps, H a ≠ some (.tbl ps) := fun ps z => by
  cases o with
  | ls ts => obtain ⟨vs, e, _⟩ := h; rw [z] at e; cases e
theorem Box.ntbl {M : Md} {τ : Tg} {H : Hp} {a : Addr} {t : T} (h : Box M τ H a t) : ∀ ps, H a ≠ some (.tbl ps) := fun ps z => by
  cases t <;> first | exact h.elim | skip
  obtain ⟨vs, e, _⟩ := h; rw [z] at e; cases e
structure RelO (M : Md) (ob : List OV) (τ : Tg) (H : Hp) : Prop where
  at_ : ∀ a r, τ a = .ob r → ∃ o, ob[r]? = some o ∧ OvAt M τ H a r o
  one : ∀ a b r, τ a = .ob r → τ b = .ob r → a = b
  al : ∀ a, τ a ≠ .free → H a ≠ none
  tb : TbOk M.T τ H
structure RelS (M : Md) (sl : List (Option (Bool × T))) (τ : Tg) (σ : L2.St) (H : Hp) : Prop where
  len : σ.length = sl.length
  at_ : ∀ i b t, sl[i]? = some (some (b, t)) → ∃ v, σ[i]? = some (some v) ∧ VAt M τ H (.slot i) b t v
structure Rel (M : Md) (s : S) (τ : Tg) (σ : L2.St) (H : Hp) : Prop where
  rs : RelS M s.sl τ σ H
  ro : RelO M s.ob τ H
section
variable {M : Md} {τ τ' : Tg} {H H' : Hp}
theorem Box.kp {a : Addr} {t : T} (e : Kp τ H τ' H') (h : Box M τ H a t) (ha : H' a = H a) : Box M τ' H' a t := by
  cases t <;> first | exact h.elim | skip
  obtain ⟨vs, h1, h2⟩ := h
  exact ⟨vs, by rw [ha]; exact h1, h2.mono e⟩
theorem Box.there {a : Addr} {t : T} (h : Box M τ H a t) : H a ≠ none := by
  cases t <;> first | exact h.elim | skip
  obtain ⟨vs, h1, h2⟩ := h
  rw [h1]; simp
theorem OwnAt.kp {g : Tag} {t : T} {v : V} (e : Kp τ H τ' H') (h : OwnAt M τ H g t v) (ha : ∀ a, τ a = g → H a ≠ none → τ' a = g ∧ H' a = H a) : OwnAt M τ' H' g t v := by
  obtain ⟨a, rfl, h1, h2⟩ := h
  obtain ⟨q1, q2⟩ := ha a h1 h2.there
  exact ⟨a, rfl, q1, h2.kp e q2⟩
theorem VAt.kp {g : Tag} {b : Bool} {t : T} {v : V} (e : Kp τ H τ' H') (h : VAt M τ H g b t v) (ha : ∀ a, τ a = g → H a ≠ none → τ' a = g ∧ H' a = H a) : VAt M τ' H' g b t v := by
  cases b with
  | true => exact OwnAt.kp e h ha
  | false => exact Rp.mono e h
theorem OvAt.kp {a : Addr} {r : Nat} {o : OV} (e : Kp τ H τ' H') (h : OvAt M τ H a r o) (ha : H' a = H a) : OvAt M τ' H' a r o := by
  cases o with
  | ls ts =>
    obtain ⟨vs, h1, h2⟩ := h
    exact ⟨vs, by rw [ha]; exact h1, h2.mono e⟩
theorem RelS.kp {sl : List (Option (Bool × T))} {σ : L2.St} (e : Kp τ H τ' H') (h : RelS M sl τ σ H) (ha : ∀ a i, τ a = .slot i → H a ≠ none → τ' a = .slot i ∧ H' a = H a) : RelS M sl τ' σ H' :=
  ⟨h.len, fun i b t q => let ⟨v, h1, h2⟩ := h.at_ i b t q; ⟨v, h1, h2.kp e fun a => ha a i⟩⟩
/-- nothing that is held has changed; new things are free, frozen or a slot's -/
theorem RelO.ext {ob : List OV} (h : RelO M ob τ H) (hh : ∀ a o, H a = some o → H' a = some o ∧ τ' a = τ a) (hn : ∀ a, H a = none → τ' a = .free ∨ ((τ' a = .frz ∨ ∃ i, τ' a = .slot i) ∧ H' a ≠ none)) (ht : ∀ a ps, H a = none → H' a ≠ some (.tbl ps)) : RelO M ob τ' H' := by
  have old : ∀ a, τ a ≠ .free → ∃ o, H a = some o := fun a q => Option.ne_none_iff_exists'.mp (h.al a q)
  have kp : Kp τ H τ' H' := ⟨fun a o q t => let ⟨q1, q2⟩ := hh a o q; ⟨q2.trans t, q1⟩, fun a r t => by
    obtain ⟨o, q⟩ := old a (by rw [t]; simp)
    exact (hh a o q).2.trans t⟩
  have back : ∀ a, (∃ r, τ' a = .ob r) ∨ (∃ q, τ' a = .tb q) → τ' a = τ a ∧ ∃ o, H a = some o := fun a q => by
    cases e : H a with
    | some o => exact ⟨(hh a o e).2, o, rfl⟩
    | none =>
      rcases hn a e with z | ⟨z | ⟨i, z⟩, _⟩ <;> rw [z] at q <;> rcases q with ⟨r, q⟩ | ⟨r, q⟩ <;> cases q
  refine ⟨fun a r t => ?_, fun a b r ta tb => ?_, fun a t => ?_, ?_⟩
  · obtain ⟨e, o, q⟩ := back a (.inl ⟨r, t⟩)
    obtain ⟨ov, h1, h2⟩ := h.at_ a r (e ▸ t)
    exact ⟨ov, h1, h2.kp kp ((hh a o q).1.trans q.symm)⟩
  · exact h.one a b r ((back a (.inl ⟨r, ta⟩)).1 ▸ ta) ((back b (.inl ⟨r, tb⟩)).1 ▸ tb)
  · cases e : H a with
    | some o => rw [(hh a o e).1]; simp
    | none =>
      rcases hn a e with z | ⟨_, z⟩
      · exact absurd z t
      · exact z
  · refine h.tb.mono (fun a q t => ?_) (fun a q t => (back a (.inr ⟨q, t⟩)).1 ▸ t) kp (fun a q ps _ z => (hh a _ z).1) fun a ps e => by
      cases q : H a with
      | none => exact absurd e (ht a ps q)
      | some o => exact ((hh a o q).1.symm.trans e).symm ▸ rfl
    obtain ⟨o, z⟩ := old a (by rw [t]; simp)
    exact (hh a o z).2.trans t
theorem Evo.ext (hh : ∀ a o, H a = some o → H' a = some o ∧ τ' a = τ a) (hal : ∀ a, τ a ≠ .free → H a ≠ none) : Evo τ H τ' H' :=
  ⟨⟨fun a o q t => let ⟨q1, q2⟩ := hh a o q; ⟨q2.trans t, q1⟩, fun a r t => by
    obtain ⟨o, q⟩ := Option.ne_none_iff_exists'.mp (hal a (by rw [t]; simp))
    exact (hh a o q).2.trans t⟩, fun a o q t => let ⟨q1, q2⟩ := hh a o q; ⟨q2.trans t, q1⟩, fun a h => by
    obtain ⟨o, q⟩ := Option.ne_none_iff_exists'.mp h
    rw [(hh a o q).1]; simp, fun a i t => by
    cases e : H a with
    | none => exact .inl rfl
    | some o => exact .inr ⟨i, (hh a o e).2 ▸ t⟩⟩
/-- a new object -/
theorem Rel.new {s : S} {σ : L2.St} {p : Addr} {o : HO} {g : Tag} (h : Rel M s τ σ H) (hp : H p = none) (hg : g = .free ∨ g = .frz ∨ ∃ i, g = .slot i) (ho : ∀ ps, o ≠ .tbl ps) :
    Rel M s (tset τ p g) σ (upd H p o) ∧ Evo τ H (tset τ p g) (upd H p o) := by
  have hh : ∀ a u, H a = some u → upd H p o a = some u ∧ tset τ p g a = τ a := fun a u q => ⟨by rw [upd_ne (ne_of_none q hp)]; exact q, tset_ne (ne_of_none q hp)⟩
  have ev := Evo.ext hh h.ro.al
  refine ⟨⟨h.rs.kp ev.toKp fun a i t n => ?_, h.ro.ext hh (fun a n => ?_) fun a ps n e => ?_⟩, ev⟩
  · obtain ⟨u, q⟩ := Option.ne_none_iff_exists'.mp n
    exact ⟨(hh a u q).2.trans t, (hh a u q).1.trans q.symm⟩
  · by_cases e : a = p
    · subst e
      rw [tset_same]
      rcases hg with z | z
      · exact .inl z
      · exact .inr ⟨z, by rw [upd_same]; simp⟩
    · rw [tset_ne e]
      refine .inl (Classical.byContradiction fun q => h.ro.al a q n)
  · by_cases e2 : a = p
    · subst e2; rw [upd_same] at e; exact ho ps (Option.some.inj e)
    · rw [upd_ne e2, n] at e; cases e
end
end Sv

/-! Sv, part B: results, judgements, the sequencing of readings; freezing. -/
namespace Sv
open PySem PySem.Spec PyProof.Rows L2

inductive R (α : Type) where
  | ok (a : α) (s : S) | exc (c : Str) (s : S) | stuck
@[reducible] def R.bind {α β : Type} (m : R α) (k : α → S → R β) : R β := match m with
  | .ok a s => k a s
  | .exc c s => .exc c s
  | .stuck => .stuck
/-- a result: a value that stays; a new container that nobody else holds; the container at a place -/
inductive Res where
  | val (t : T) | tmp (t : T) | plc (i : Nat)
/-- a thing held by reference, as it stands -/
def view (ob : List OV) : T → T
  | .obj r => match ob[r]? with
    | some (.ls ts) => .lst ts
    | _ => .obj r
  | t => t
def peek (s : S) : Res → Option T
  | .val t => some (view s.ob t)
  | .tmp t => some t
  | .plc i => match s.sl[i]? with
    | some (some (_, t)) => some (view s.ob t)
    | _ => none
/-- the result as a value that stays -/
def frz (s : S) : Res → Option (T × S)
  | .val t => some (t, s)
  | .tmp t => some (t, s)
  | .plc i => match s.sl[i]? with
    | some (some (b, t)) => some (t, if b = true then ⟨s.sl.set i (some (false, t)), s.ob⟩ else s)
    | _ => none
def RelR (M : Md) (σ : L2.St) (H0 : Hp) (r : Res) (s : S) (τ : Tg) (H : Hp) (v : V) : Prop :=
  match r with
  | .val t => Rp M τ H t v
  | .tmp t => ∃ a, v = .ref a ∧ H0 a = none ∧ τ a = .free ∧ Box M τ H a t
  | .plc i => σ[i]? = some (some v)
/-- the value is this tree now -/
def IsT (M : Md) (τ : Tg) (H : Hp) (t : T) (v : V) : Prop := Rp M τ H t v ∨ ∃ a, v = .ref a ∧ Box M τ H a t
section
variable {M : Md} {σ : L2.St} {H H0 H1 : Hp} {τ τ0 τ1 : Tg} {s : S} {r : Res} {v : V} {t : T}
theorem RelR.base (e : Evo τ0 H0 τ1 H1) (h : RelR M σ H1 r s τ H v) : RelR M σ H0 r s τ H v := by
  cases r with
  | val t => exact h
  | tmp t =>
    obtain ⟨a, e1, e2, e3⟩ := h
    exact ⟨a, e1, e.back e2, e3⟩
  | plc i => exact h
theorem IsT.view {ob : List OV} (ro : RelO M ob τ H) (h : IsT M τ H t v) : IsT M τ H (view ob t) v := by
  cases t with
  | obj k =>
    have e : view ob (.obj k) = (match ob[k]? with | some (.ls ts) => T.lst ts | _ => .obj k) := rfl
    rw [e]
    split
    · rename_i ts q
      rcases h with h | ⟨a, _, h⟩
      · cases h with
        | obj h =>
          obtain ⟨o, h1, h2⟩ := ro.at_ _ _ h
          rw [q] at h1
          cases h1
          obtain ⟨vs, h3, h4⟩ := h2
          exact .inr ⟨_, rfl, vs, h3, h4⟩
      · exact h.elim
    · exact h
  | _ => exact h
theorem RelR.isT (rel : Rel M s τ σ H) (h : RelR M σ H0 r s τ H v) (p : peek s r = some t) : IsT M τ H t v := by
  cases r with
  | val t' => cases p; exact IsT.view rel.ro (.inl h)
  | tmp t' =>
    cases p
    obtain ⟨a, e1, _, _, e3⟩ := h
    exact .inr ⟨a, e1, e3⟩
  | plc i =>
    have p : (match s.sl[i]? with | some (some (_, t)) => some (view s.ob t) | _ => none) = some t := p
    split at p
    · rename_i b t' q
      cases p
      obtain ⟨v', e1, e2⟩ := rel.rs.at_ i b _ q
      have h : σ[i]? = some (some v) := h
      rw [h] at e1
      cases e1
      refine IsT.view rel.ro ?_
      cases b with
      | true =>
        obtain ⟨a, e3, _, e4⟩ := e2
        exact .inr ⟨a, e3, e4⟩
      | false => exact .inl e2
    · cases p
theorem Box.lst {a : Addr} {ts : List T} (h : Box M τ H a (.lst ts)) : ∃ vs, H a = some (.lst vs) ∧ Rps M τ H ts vs := h
theorem IsT.lst {ts : List T} (h : IsT M τ H (.lst ts) v) : ∃ a vs, v = .ref a ∧ H a = some (.lst vs) ∧ Rps M τ H ts vs := by
  rcases h with h | ⟨a, e, h⟩
  · cases h with
    | lst h1 h2 => exact ⟨_, _, rfl, h1.2, h2⟩
  · obtain ⟨vs, h1, h2⟩ := h.lst
    exact ⟨a, vs, e, h1, h2⟩
theorem IsT.tup {ts : List T} (h : IsT M τ H (.tup ts) v) : ∃ a vs, v = .ref a ∧ TupAt M τ H a vs ∧ Rps M τ H ts vs := by
  rcases h with h | ⟨a, e, h⟩
  · cases h with
    | tup h1 h2 => exact ⟨_, _, rfl, h1, h2⟩
  · exact h.elim
theorem IsT.int {i : Int} (h : IsT M τ H (.int i) v) : v = .int i := by
  rcases h with h | ⟨a, e, h⟩
  · cases h; rfl
  · exact h.elim
theorem IsT.bl {b : Bool} (h : IsT M τ H (.bl b) v) : v = .bl b := by
  rcases h with h | ⟨a, e, h⟩
  · cases h; rfl
  · exact h.elim
theorem IsT.str {x : Str} (h : IsT M τ H (.str x) v) : v = .str x := by
  rcases h with h | ⟨a, e, h⟩
  · cases h; rfl
  · exact h.elim
theorem IsT.non (h : IsT M τ H .non v) : v = .non := by
  rcases h with h | ⟨a, e, h⟩
  · cases h; rfl
  · exact h.elim
theorem IsT.obj {k : Nat} (h : IsT M τ H (.obj k) v) : ∃ a, v = .ref a ∧ τ a = .ob k := by
  rcases h with h | ⟨a, e, h⟩
  · cases h with
    | obj h => exact ⟨_, rfl, h⟩
  · exact h.elim
theorem IsT.scr {ns : List Int} (h : IsT M τ H (.scr ns) v) : ∃ a, v = .ref a ∧ SqL M.K H a (ns.map V.int) := by
  rcases h with h | ⟨a, e, h⟩
  · cases h with
    | scr h1 => exact ⟨_, rfl, h1.sq⟩
  · exact h.elim
theorem IsT.mono {τ' : Tg} {H' : Hp} (h : IsT M τ H t v) (e : Kp τ H τ' H') (he : ∀ a o, H a = some o → H' a = some o) : IsT M τ' H' t v := by
  rcases h with h | ⟨a, q, h⟩
  · exact .inl (h.mono e)
  · obtain ⟨o, ho⟩ := Option.ne_none_iff_exists'.mp h.there
    exact .inr ⟨a, q, h.kp e ((he a o ho).trans ho.symm)⟩

/-- an address of one's own becomes frozen -/
theorem freeze_at {a : Addr} {s' : S} {t : T} (rel : Rel M s τ σ H) (ev : Evo τ0 H0 τ H) (hb : Box M τ H a t) (hob : s'.ob = s.ob)
    (hg : (τ a = .free ∧ H0 a = none ∧ s'.sl = s.sl) ∨ ∃ i, τ a = .slot i ∧ s.sl[i]? = some (some (true, t)) ∧ σ[i]? = some (some (.ref a)) ∧ s'.sl = s.sl.set i (some (false, t))) :
    ∃ τ', Evo τ0 H0 τ' H ∧ Kp τ H τ' H ∧ Rel M s' τ' σ H ∧ Rp M τ' H t (.ref a) := by
  have nfz : τ a ≠ .frz := by rcases hg with ⟨h, _⟩ | ⟨i, h, _⟩ <;> rw [h] <;> simp
  have nob : ∀ r, τ a ≠ .ob r := fun r => by rcases hg with ⟨h, _⟩ | ⟨i, h, _⟩ <;> rw [h] <;> simp
  have ntb : ∀ q, τ a ≠ .tb q := fun r => by rcases hg with ⟨h, _⟩ | ⟨i, h, _⟩ <;> rw [h] <;> simp
  have kp : Kp τ H (tset τ a .frz) H := ⟨fun b o q h => by
    by_cases e : b = a
    · subst e; exact ⟨tset_same, q⟩
    · exact ⟨by rw [tset_ne e]; exact h, q⟩, fun b r h => by
    by_cases e : b = a
    · subst e; exact absurd h (nob r)
    · rw [tset_ne e]; exact h⟩
  have rp : Rp M (tset τ a .frz) H t (.ref a) := by
    cases t <;> first | exact hb.elim | skip
    obtain ⟨vs, h1, h2⟩ := hb.lst
    exact .lst ⟨tset_same, h1⟩ (h2.mono kp)
  refine ⟨tset τ a .frz, ?_, kp, ⟨?_, ?_⟩, rp⟩
  · refine ⟨ev.toKp.trans kp, fun b o q h => ?_, ev.th, fun b i h => ?_⟩
    · obtain ⟨h1, h2⟩ := ev.fr b o q h
      by_cases e : b = a
      · subst e
        rcases hg with ⟨_, h3, _⟩ | ⟨i, h3, _⟩
        · rw [h3] at q; cases q
        · rw [h3] at h1; cases h1
      · exact ⟨by rw [tset_ne e]; exact h1, h2⟩
    · by_cases e : b = a
      · subst e; rw [tset_same] at h; cases h
      · rw [tset_ne e] at h; exact ev.sl b i h
  · rcases hg with ⟨h1, _, h3⟩ | ⟨i, h1, h2, h4, h3⟩
    · rw [h3]
      refine rel.rs.kp kp fun b j h _ => ?_
      have e : b ≠ a := fun z => by subst z; rw [h1] at h; cases h
      exact ⟨by rw [tset_ne e]; exact h, rfl⟩
    · refine ⟨by rw [h3, List.length_set]; exact rel.rs.len, fun j b t' q => ?_⟩
      rw [h3] at q
      by_cases hj : j = i
      · subst hj
        have hlt : j < s.sl.length := (List.getElem?_eq_some_iff.mp h2).1
        rw [List.getElem?_set_self hlt] at q
        cases q
        exact ⟨_, h4, rp⟩
      · rw [List.getElem?_set_ne (Ne.symm hj)] at q
        obtain ⟨v', e1, e2⟩ := rel.rs.at_ j b t' q
        refine ⟨v', e1, e2.kp kp fun b' hb' _ => ?_⟩
        have e : b' ≠ a := fun z => by subst z; rw [h1] at hb'; cases hb'; exact hj rfl
        exact ⟨by rw [tset_ne e]; exact hb', rfl⟩
  · rw [hob]
    have back : ∀ b g, tset τ a .frz b = g → g ≠ .frz → τ b = g ∧ b ≠ a := fun b g h n => by
      by_cases e : b = a
      · subst e; rw [tset_same] at h; exact absurd h.symm n
      · rw [tset_ne e] at h; exact ⟨h, e⟩
    refine ⟨fun b r h => ?_, fun b c r h1 h2 => ?_, fun b h => ?_, rel.ro.tb.mono (fun b q h => ?_) (fun b q h => (back b _ h (by simp)).1) kp (fun _ _ _ _ z => z) fun _ _ z => z⟩
    · obtain ⟨o, h1, h2⟩ := rel.ro.at_ b r (back b _ h (by simp)).1
      exact ⟨o, h1, h2.kp kp rfl⟩
    · exact rel.ro.one b c r (back b _ h1 (by simp)).1 (back c _ h2 (by simp)).1
    · by_cases e : b = a
      · subst e; exact hb.there
      · rw [tset_ne e] at h; exact rel.ro.al b h
    · rw [tset_ne fun z => by subst z; exact ntb q h]; exact h
theorem RelR.frz {s' : S} (rel : Rel M s τ σ H) (ev : Evo τ0 H0 τ H) (h : RelR M σ H0 r s τ H v) (p : frz s r = some (t, s')) : ∃ τ', Evo τ0 H0 τ' H ∧ Kp τ H τ' H ∧ Rel M s' τ' σ H ∧ Rp M τ' H t v := by
  cases r with
  | val t' =>
    cases p
    exact ⟨τ, ev, Kp.refl _ _, rel, h⟩
  | tmp t' =>
    cases p
    obtain ⟨a, e1, e2, e3, e4⟩ := h
    subst e1
    exact freeze_at rel ev e4 rfl (.inl ⟨e3, e2, rfl⟩)
  | plc i =>
    have p : (match s.sl[i]? with | some (some (b, t)) => some (t, if b = true then (⟨s.sl.set i (some (false, t)), s.ob⟩ : S) else s) | _ => none) = some (t, s') := p
    split at p
    · rename_i b t' q
      obtain ⟨rfl, rfl⟩ := Prod.mk.inj (Option.some.inj p)
      obtain ⟨v', e1, e2⟩ := rel.rs.at_ i b t' q
      have h : σ[i]? = some (some v) := h
      rw [h] at e1
      cases e1
      cases b with
      | true =>
        obtain ⟨a, e3, e4, e5⟩ := e2
        subst e3
        simp only [if_true]
        exact freeze_at rel ev e5 rfl (.inr ⟨i, e4, q, h, rfl⟩)
      | false =>
        simp only [Bool.false_eq_true, if_false]
        exact ⟨τ, ev, Kp.refl _ _, rel, e2⟩
    · cases p
end

/-! ### what is wanted behind a piece -/
abbrev RRel (α β : Type) := L2.St → Hp → α → S → Tg → Hp → β → Prop
def Post {α β : Type} (M : Md) (RR : RRel α β) (σ : L2.St) (τ0 : Tg) (H0 : Hp) (m : R α) (Q : β → Hp → Prop) (W : WX) : Prop :=
  match m with
  | .ok r s => ∀ v τ' H', Evo τ0 H0 τ' H' → Rel M s τ' σ H' → RR σ H0 r s τ' H' v → Q v H'
  | .exc c s => ∀ C d τ' H', M.mg c = some (.ref C) → Evo τ0 H0 τ' H' → Rel M s τ' σ H' → W (.ref C) d σ H'
  | .stuck => False
def tG {α β : Type} (M : Md) (RR : RRel α β) (f : S → R α) (W : WX) : L2.St → Hp → (β → Hp → Prop) → Prop :=
  fun σ H Q => ∃ s τ, Rel M s τ σ H ∧ Post M RR σ τ H (f s) Q W
def RRes (M : Md) : RRel Res V := fun σ H0 r s τ H v => RelR M σ H0 r s τ H v
def RBool : RRel Bool Bool := fun _ _ b _ _ _ c => c = b
def RTs (M : Md) : RRel (List T) (List V) := fun _ _ ts _ τ H vs => Rps M τ H ts vs
def RT (M : Md) : RRel T V := fun _ _ t _ τ H v => Rp M τ H t v
class Tb where
  T : List (Addr × Str)
  L : Nat → LD
variable [Tb]
abbrev Mx (X : Cx) : Md := ⟨X.K, X.mg, Tb.T, Tb.L⟩
/-- the result does not lean on the heap ahead -/
def Bas {α β : Type} (RR : RRel α β) : Prop := ∀ σ (τ0 τ1 : Tg) (H0 H1 : Hp) r s τ H v, Evo τ0 H0 τ1 H1 → RR σ H1 r s τ H v → RR σ H0 r s τ H v
theorem bRes {M : Md} : Bas (RRes M) := fun _ _ _ _ _ _ _ _ _ _ e h => RelR.base e h
theorem bBool : Bas RBool := fun _ _ _ _ _ _ _ _ _ _ _ h => h
theorem bTs {M : Md} : Bas (RTs M) := fun _ _ _ _ _ _ _ _ _ _ _ h => h
theorem bT {M : Md} : Bas (RT M) := fun _ _ _ _ _ _ _ _ _ _ _ h => h

def SE (X : Cx) (e : Expr) (f : S → R Res) : Prop := ∀ W, Takes X W → PE X e (tG (Mx X) (RRes (Mx X)) f W)
def ST (X : Cx) (e : Expr) (f : S → R Bool) : Prop := ∀ W, Takes X W → PT X e (tG (Mx X) RBool f W)
def SW (X : Cx) (e : Expr) (f : S → R Bool) : Prop := ∀ W, Takes X W → PW X e (tG (Mx X) RBool f W)
def SA (X : Cx) (es : List Expr) (f : S → R (List T)) : Prop := ∀ W, Takes X W → PA X es (tG (Mx X) (RTs (Mx X)) f W)

theorem PE.imp {X : Cx} {e : Expr} {t t' : TE} (h : PE X e t) (i : ∀ σ H Q, t' σ H Q → t σ H Q) : PE X e t' := ⟨fun pins s σ H Q I q => h.run pins s σ H Q I (i σ H Q q)⟩
theorem PT.imp {X : Cx} {e : Expr} {t t' : TT} (h : PT X e t) (i : ∀ σ H Q, t' σ H Q → t σ H Q) : PT X e t' := ⟨fun pins s σ H Q I q => h.run pins s σ H Q I (i σ H Q q)⟩
theorem PW.imp {X : Cx} {e : Expr} {t t' : TT} (h : PW X e t) (i : ∀ σ H Q, t' σ H Q → t σ H Q) : PW X e t' := ⟨fun wh pins s σ H Q I q => h.run wh pins s σ H Q I (i σ H Q q)⟩
theorem PA.imp {X : Cx} {e : List Expr} {t t' : TA} (h : PA X e t) (i : ∀ σ H Q, t' σ H Q → t σ H Q) : PA X e t' := ⟨fun pos pins s σ H Q I q => h.run pos pins s σ H Q I (i σ H Q q)⟩

section
variable {α β γ δ : Type} {M : Md} {RR : RRel α β} {RR' : RRel γ δ} {σ : L2.St} {H0 H1 : Hp} {τ0 τ1 : Tg} {W : WX}
/-- from a later heap -/
theorem Post.shift {m : R α} {Q : β → Hp → Prop} (b : Bas RR) (h : Post M RR σ τ0 H0 m Q W) (e : Evo τ0 H0 τ1 H1) : Post M RR σ τ1 H1 m Q W := by
  cases m with
  | ok r s => exact fun v τ' H' ev rel rr => h v τ' H' (e.trans ev) rel (b _ _ _ _ _ _ _ _ _ _ e rr)
  | exc c s => exact fun C d τ' H' hc ev rel => h C d τ' H' hc (e.trans ev) rel
  | stuck => exact h
/-- a first piece, then the rest -/
theorem Post.step {m : R α} {k : α → S → R γ} {Q : δ → Hp → Prop} {Q' : β → Hp → Prop} (h : Post M RR' σ τ0 H0 (m.bind k) Q W)
    (hk : ∀ r s v τ' H', Evo τ0 H0 τ' H' → Rel M s τ' σ H' → RR σ H0 r s τ' H' v → Post M RR' σ τ0 H0 (k r s) Q W → Q' v H') : Post M RR σ τ0 H0 m Q' W := by
  cases m with
  | ok r s => exact fun v τ' H' ev rel rr => hk r s v τ' H' ev rel rr h
  | exc c s => exact h
  | stuck => exact h
/-- a later piece, the base kept -/
theorem Post.next {m : R α} {k : α → S → R γ} {Q : δ → Hp → Prop} {Q' : β → Hp → Prop} (e : Evo τ0 H0 τ1 H1) (h : Post M RR' σ τ0 H0 (m.bind k) Q W)
    (hk : ∀ r s v τ' H', Evo τ1 H1 τ' H' → Rel M s τ' σ H' → RR σ H1 r s τ' H' v → Post M RR' σ τ0 H0 (k r s) Q W → Q' v H') : Post M RR σ τ1 H1 m Q' W := by
  cases m with
  | ok r s => exact fun v τ' H' ev rel rr => hk r s v τ' H' ev rel rr h
  | exc c s => exact fun C d τ' H' hc ev rel => h C d τ' H' hc (e.trans ev) rel
  | stuck => exact h
theorem Post.mono {m : R α} {Q Q' : β → Hp → Prop} (h : Post M RR σ τ0 H0 m Q W) (hq : ∀ v H, Q v H → Q' v H) : Post M RR σ τ0 H0 m Q' W := by
  cases m with
  | ok r s => exact fun v τ' H' ev rel rr => hq _ _ (h v τ' H' ev rel rr)
  | exc c s => exact h
  | stuck => exact h
/-- the end of a piece -/
theorem Post.fin {r : α} {s : S} {Q : β → Hp → Prop} {v : β} {τ' : Tg} {H' : Hp} (h : Post M RR σ τ0 H0 (.ok r s) Q W) (ev : Evo τ0 H0 τ' H') (rel : Rel M s τ' σ H') (rr : RR σ H0 r s τ' H' v) : Q v H' := h v τ' H' ev rel rr
end

/-- one piece after another, as one: both answers at hand -/
def seq2 {α β γ : Type} (f : S → R α) (g : S → R β) (k : α → β → S → R γ) : S → R γ := fun s => (f s).bind fun a s => (g s).bind fun b s => k a b s
end Sv

/-! Sv, part C: expressions. -/
namespace Sv
open PySem PySem.Spec PyProof.Rows L2
variable [Tb]

/-- the object that stands for a new container (b: a mutable one that nobody holds yet) -/
def NewAt (M : Md) (τ : Tg) (H : Hp) (b : Bool) (o : HO) (t : T) : Prop := match t with
  | .lst ts => ∃ vs, o = .lst vs ∧ Rps M τ H ts vs
  | .tup ts => b = false ∧ ∃ vs, o = .tup vs ∧ Rps M τ H ts vs
  | _ => False
theorem NewAt.ntbl {M : Md} {τ : Tg} {H : Hp} {b : Bool} {o : HO} {t : T} (h : NewAt M τ H b o t) : ∀ ps, o ≠ .tbl ps := fun ps z => by
  subst z
  cases t <;> first | exact h.elim | skip
  · obtain ⟨_, vs, e, _⟩ := h; cases e
  · obtain ⟨vs, e, _⟩ := h; cases e
def out1 (o : Option (Bool × T)) (s : S) : R Res := match o with
  | some (false, t) => .ok (.val t) s
  | some (true, t) => .ok (.tmp t) s
  | none => .stuck
/-- a result by values: it stands already, or it is a new object -/
def Gives (M : Md) (τ : Tg) (H : Hp) (b : Bool) (t : T) (Q : VK) : Prop :=
  (b = false → ∀ v, Rp M τ H t v → Q v H) ∧ ∀ p o, H p = none → NewAt M τ H b o t → Q (.ref p) (upd H p o)
section
variable {M : Md} {σ : L2.St} {H H0 H1 H2 : Hp} {τ τ0 τ1 τ2 : Tg} {s s1 s2 : S} {r : Res} {v : V} {t : T}
@[simp] theorem out1_val : out1 (some (false, t)) s = .ok (.val t) s := rfl
@[simp] theorem out1_tmp : out1 (some (true, t)) s = .ok (.tmp t) s := rfl
@[simp] theorem out1_none : out1 none s = .stuck := rfl
theorem RelR.later (h : RelR M σ H0 r s1 τ1 H1 v) (e : Evo τ1 H1 τ2 H2) : RelR M σ H0 r s2 τ2 H2 v := by
  cases r with
  | val t => exact Rp.mono e.toKp h
  | tmp t =>
    obtain ⟨a, e1, e2, e3, e4⟩ := h
    obtain ⟨o, ho⟩ := Option.ne_none_iff_exists'.mp e4.there
    obtain ⟨q1, q2⟩ := e.fr a o ho e3
    exact ⟨a, e1, e2, q1, e4.kp e.toKp (q2.trans ho.symm)⟩
  | plc i => exact h
theorem Post.out {W : WX} {b : Bool} {Q : VK} (h : Post M (RRes M) σ τ0 H0 (out1 (some (b, t)) s) Q W) (ev : Evo τ0 H0 τ H) (rel : Rel M s τ σ H) : Gives M τ H b t Q := by
  refine ⟨fun hb v hv => ?_, fun p o hp hn => ?_⟩
  · subst hb
    exact h v τ H ev rel hv
  · cases b with
    | false =>
      obtain ⟨r1, e1⟩ := rel.new (o := o) (g := .frz) hp (.inr (.inl rfl)) hn.ntbl
      refine h (.ref p) _ _ (ev.trans e1) r1 ?_
      show Rp M _ _ t (.ref p)
      cases t <;> first | exact hn.elim | skip
      · obtain ⟨_, vs, e, hv⟩ := hn
        subst e
        exact .tup (.inl ⟨tset_same, upd_same⟩) (hv.mono e1.toKp)
      · obtain ⟨vs, e, hv⟩ := hn
        subst e
        exact .lst ⟨tset_same, upd_same⟩ (hv.mono e1.toKp)
    | true =>
      obtain ⟨r1, e1⟩ := rel.new (o := o) (g := .free) hp (.inl rfl) hn.ntbl
      cases t <;> first | exact hn.elim | exact absurd hn.1 (by simp) | skip
      obtain ⟨vs, e, hv⟩ := hn
      subst e
      exact h (.ref p) _ _ (ev.trans e1) r1 ⟨p, rfl, ev.back hp, tset_same, vs, upd_same, hv.mono e1.toKp⟩
end

/-! ### constants, names -/
@[simp] def eC (t : T) : S → R Res := fun s => .ok (.val t) s
def eVar (i : Nat) : S → R Res := fun s => match s.sl[i]? with
  | some (some (false, t)) => .ok (.val t) s
  | some (some (true, _)) => .ok (.plc i) s
  | _ => .stuck
section
variable {X : Cx} {pos : Pos}
theorem se_c {e : Expr} {v : V} {t : T} (h : PE X e (tC v)) (r : ∀ τ H, Rp (Mx X) τ H t v) : SE X e (eC t) := fun W tk => PE.imp h fun σ H Q ⟨s, τ, rel, post⟩ => post v τ H (.refl _ _) rel (r τ H)
theorem se_int {i : Int} {j : Nat} : SE X (.Constant (.int i) j pos) (eC (.int i)) := se_c pe_int fun _ _ => .int i
theorem se_bl {b : Bool} {j : Nat} : SE X (.Constant (.bool b) j pos) (eC (.bl b)) := se_c pe_bl fun _ _ => .bl b
theorem se_non {j : Nat} : SE X (.Constant .none j pos) (eC .non) := se_c pe_non fun _ _ => .non
theorem se_str {x : Str} {j : Nat} : SE X (.Constant (.str x) j pos) (eC (.str x)) := se_c pe_str fun _ _ => .str x
theorem se_glob {x : Str} {v : V} {u : Value} {t : T} (hg : Gl X x) (hm : X.mg x = some u) (r : RelV v u) (h : ∀ τ H, Rp (Mx X) τ H t v) (hd : (x == ("__debug__" : Str)) = false := by decide) : SE X (.Name x pos) (eC t) := se_c (pe_glob hg hm r hd) h
theorem se_gl {x : Str} {a : Addr} (hg : Gl X x) (hm : X.mg x = some (.ref a)) (hd : (x == ("__debug__" : Str)) = false := by decide) : SE X (.Name x pos) (eC (.gl x)) :=
  se_glob hg hm (v := .ref a) rfl (fun _ _ => .gl hm rfl) hd
theorem se_var (i : Nat) {x : Str} (hN : X.N[i]? = some x) (hv : Vis X.env.scope x) (hd : (x == ("__debug__" : Str)) = false := by decide) (hcd : (x == ("__classdict__" : Str)) = false := by decide) : SE X (.Name x pos) (eVar i) := fun W tk =>
  PE.imp (pe_var hN hv hd hcd) fun σ H Q ⟨s, τ, rel, post⟩ => by
    unfold eVar at post
    split at post
    · rename_i t q
      obtain ⟨v, e1, e2⟩ := rel.rs.at_ i false t q
      exact ⟨v, e1, post v τ H (.refl _ _) rel e2⟩
    · rename_i t q
      obtain ⟨v, e1, e2⟩ := rel.rs.at_ i true t q
      exact ⟨v, e1, post v τ H (.refl _ _) rel e1⟩
    · exact post.elim
end

/-! ### two operands -/
def eBin (g : T → T → Option (Bool × T)) (fa fb : S → R Res) : S → R Res := fun s => (fa s).bind fun x s => (fb s).bind fun y s => match peek s x, peek s y with
  | some tx, some ty => out1 (g tx ty) s
  | _, _ => .stuck
def eUn (g : T → Option (Bool × T)) (fa : S → R Res) : S → R Res := fun s => (fa s).bind fun x s => match peek s x with
  | some tx => out1 (g tx) s
  | _ => .stuck
/-- a rule by values serves g -/
def OpG (M : Md) (r : R2) (g : T → T → Option (Bool × T)) : Prop :=
  ∀ τ H tx ty x y b t Q, IsT M τ H tx x → IsT M τ H ty y → g tx ty = some (b, t) → Gives M τ H b t Q → r x y H Q
def UnG (M : Md) (r : V → Hp → VK → Prop) (g : T → Option (Bool × T)) : Prop :=
  ∀ τ H tx x b t Q, IsT M τ H tx x → g tx = some (b, t) → Gives M τ H b t Q → r x H Q
section
variable {X : Cx} {a b c : Expr} {fa fb fc : S → R Res} {pos : Pos} {M : Md}
/-- one piece, at a later state, the base kept -/
theorem run1 {α β γ δ : Type} {RR : RRel α β} {R1 : RRel γ δ} {W : WX} {f : S → R γ} {k : γ → S → R α} {σ : L2.St} {H H1 : Hp} {s : S} {τ τ1 : Tg} {Q : β → Hp → Prop} {C : δ → Hp → Prop} (ev : Evo τ H τ1 H1) (rel : Rel M s τ1 σ H1)
    (post : Post M RR σ τ H ((f s).bind k) Q W)
    (hk : ∀ x s2 v τ2 H2, Evo τ1 H1 τ2 H2 → Rel M s2 τ2 σ H2 → R1 σ H1 x s2 τ2 H2 v → Post M RR σ τ H (k x s2) Q W → C v H2) : tG M R1 f W σ H1 C :=
  ⟨s, τ1, rel, post.next ev hk⟩
theorem run2 {α β : Type} {RR : RRel α β} {W : WX} {f g : S → R Res} {k : Res → Res → S → R α} {σ : L2.St} {H : Hp} {s : S} {τ : Tg} {Q : β → Hp → Prop} {C : V → V → Hp → Prop} (rel : Rel M s τ σ H)
    (post : Post M RR σ τ H ((f s).bind fun x s => (g s).bind fun y s => k x y s) Q W)
    (hk : ∀ x y s2 v w τ2 H2, Evo τ H τ2 H2 → Rel M s2 τ2 σ H2 → RelR M σ H x s2 τ2 H2 v → RelR M σ H y s2 τ2 H2 w → Post M RR σ τ H (k x y s2) Q W → C v w H2) :
    tG M (RRes M) f W σ H fun v H1 => tG M (RRes M) g W σ H1 (C v) :=
  run1 (.refl _ _) rel post fun x s1 v τ1 H1 ev1 rel1 r1 p1 => run1 ev1 rel1 p1 fun y s2 w τ2 H2 ev2 rel2 r2 p2 => hk x y s2 v w τ2 H2 (ev1.trans ev2) rel2 (RelR.later r1 ev2) (RelR.base ev1 r2) p2
theorem bin_run {W : WX} {r : R2} {g : T → T → Option (Bool × T)} (hg : OpG M r g) {σ : L2.St} {H : Hp} {Q : VK} (h : tG M (RRes M) (eBin g fa fb) W σ H Q) :
    tOp r (tG M (RRes M) fa W) (tG M (RRes M) fb W) σ H Q := by
  obtain ⟨s, τ, rel, post⟩ := h
  refine run2 rel post fun x y s2 v w τ2 H2 ev rel2 r1 r2 p => ?_
  split at p
  · rename_i tx ty ex ey
    cases e : g tx ty with
    | none => rw [e] at p; exact p.elim
    | some z =>
      obtain ⟨b, t⟩ := z
      rw [e] at p
      exact hg τ2 H2 tx ty v w b t Q (r1.isT rel2 ex) (r2.isT rel2 ey) e (p.out ev rel2)
  · exact p.elim
theorem un_run {W : WX} {r : V → Hp → VK → Prop} {g : T → Option (Bool × T)} (hg : UnG M r g) {σ : L2.St} {H : Hp} {Q : VK} (h : tG M (RRes M) (eUn g fa) W σ H Q) :
    tUn r (tG M (RRes M) fa W) σ H Q := by
  obtain ⟨s, τ, rel, post⟩ := h
  refine run1 (.refl _ _) rel post fun x s2 v τ2 H2 ev rel2 r1 p => ?_
  split at p
  · rename_i tx ex
    cases e : g tx with
    | none => rw [e] at p; exact p.elim
    | some z =>
      obtain ⟨b, t⟩ := z
      rw [e] at p
      exact hg τ2 H2 tx v b t Q (RelR.isT rel2 r1 ex) e (p.out ev rel2)
  · exact p.elim
end
section
variable {X : Cx} {a b c : Expr} {fa fb fc : S → R Res} {pos : Pos}
theorem se_bin {op : Operator} {r : R2} {g : T → T → Option (Bool × T)} (ho : OpR X (binaryOp op) r) (hg : OpG (Mx X) r g) (ha : SE X a fa) (hb : SE X b fb) : SE X (.BinOp a op b pos) (eBin g fa fb) := fun W tk =>
  PE.imp (pe_op ho (ha W tk) (hb W tk)) fun _ _ _ h => bin_run hg h
theorem se_un {op : UnaryOp} {r : V → Hp → VK → Prop} {g : T → Option (Bool × T)} (ho : UnR X (unaryOp op) r) (hg : UnG (Mx X) r g) (ha : SE X a fa) : SE X (.UnaryOp op a pos) (eUn g fa) := fun W tk =>
  PE.imp (pe_un ho (ha W tk)) fun _ _ _ h => un_run hg h
/-- a comparison -/
theorem se_cmp {op : CmpOp} {r : R2} {g : T → T → Option (Bool × T)} (ho : OpR X (compareOp op) r) (hg : OpG (Mx X) r g) (ha : SE X a fa) (hb : SE X b fb) (hm : behindInMarks op b = false) : SE X (.Compare a [op] [b] pos) (eBin g fa fb) := fun W tk =>
  PE.imp (pe_cmpR ho (ha W tk) (hb W tk) hm) fun _ _ _ h => bin_run hg h
/-- an expression whose value is a bool, as a test -/
def tTst (f : S → R Res) : S → R Bool := fun s => (f s).bind fun x s => match peek s x with
  | some (.bl b) => .ok b s
  | _ => .stuck
theorem tst_run {W : WX} {M : Md} {σ : L2.St} {H : Hp} {Q : Bool → Hp → Prop} (h : tG M RBool (tTst fa) W σ H Q) : tG M (RRes M) fa W σ H fun x H' => ∃ k, x = .bl k ∧ Q k H' := by
  obtain ⟨s, τ, rel, post⟩ := h
  refine run1 (.refl _ _) rel post fun x s2 v τ2 H2 ev rel2 r1 p => ?_
  split at p
  · rename_i b ex
    exact ⟨b, (RelR.isT rel2 r1 ex).bl, p b τ2 H2 ev rel2 rfl⟩
  · exact p.elim
theorem st_cmp {op : CmpOp} {r : R2} {g : T → T → Option (Bool × T)} (ho : OpR X (compareOp op) r) (hg : OpG (Mx X) r g) (ha : SE X a fa) (hb : SE X b fb) (hm : behindInMarks op b = false) : ST X (.Compare a [op] [b] pos) (tTst (eBin g fa fb)) := fun W tk =>
  PT.imp (pt_cmpR ho (ha W tk) (hb W tk) hm) fun σ H Q h => bin_run (Q := fun x H' => ∃ k, x = .bl k ∧ Q k H') hg (tst_run h)
theorem st_val (ha : SE X a fa) (he : ∀ whole, isTrue a X.env whole = (do let v ← whole; standAt a.pos; holding [v] (truthy v)) := by intro _; rfl) : ST X a (tTst fa) := fun W tk =>
  PT.imp (pt_val (ha W tk) he) fun σ H Q h => tst_run h
end

/-! ### and, or, not, if -/
def tAndS (f g : S → R Bool) : S → R Bool := fun s => (f s).bind fun b s => if b = true then g s else .ok false s
def tOrS (f g : S → R Bool) : S → R Bool := fun s => (f s).bind fun b s => if b = true then .ok true s else g s
def tNotS (f : S → R Bool) : S → R Bool := fun s => (f s).bind fun b s => .ok (!b) s
def eIf (t : S → R Bool) (f g : S → R Res) : S → R Res := fun s => (t s).bind fun b s => if b = true then f s else g s
def eAnd (f g : S → R Res) : S → R Res := fun s => (f s).bind fun x s => match peek s x with
  | some (.bl b) => if b = true then g s else .ok (.val (.bl false)) s
  | _ => .stuck
def eOr (f g : S → R Res) : S → R Res := fun s => (f s).bind fun x s => match peek s x with
  | some (.bl b) => if b = true then .ok (.val (.bl true)) s else g s
  | _ => .stuck
def eNot (f : S → R Res) : S → R Res := fun s => (f s).bind fun x s => match peek s x with
  | some (.bl b) => .ok (.val (.bl (!b))) s
  | _ => .stuck
section
variable {X : Cx} {a b c : Expr} {rest : List Expr} {fa fb : S → R Res} {ta tb tc : S → R Bool} {pos : Pos}
theorem SW.st (h : SW X a ta) : ST X a ta := fun W tk => (h W tk).pt
theorem sw_and1 (ha : ST X a ta) : SW X (.BoolOp .And [a] pos) ta := fun W tk => pw_and1 (ha W tk)
theorem sw_or1 (ha : ST X a ta) : SW X (.BoolOp .Or [a] pos) ta := fun W tk => pw_or1 (ha W tk)
theorem sw_and (ha : ST X a ta) (hb : SW X (.BoolOp .And (b :: rest) pos) tb) : SW X (.BoolOp .And (a :: b :: rest) pos) (tAndS ta tb) := fun W tk =>
  PW.imp (pw_and (ha W tk) (hb W tk)) fun σ H Q ⟨s, τ, rel, post⟩ => run1 (.refl _ _) rel post fun x s2 v τ2 H2 ev rel2 r1 p => by
    cases (show v = x from r1)
    cases x with
    | true => exact ⟨s2, τ2, rel2, Post.shift bBool p ev⟩
    | false => exact p false τ2 H2 ev rel2 rfl
theorem sw_or (ha : ST X a ta) (hb : SW X (.BoolOp .Or (b :: rest) pos) tb) : SW X (.BoolOp .Or (a :: b :: rest) pos) (tOrS ta tb) := fun W tk =>
  PW.imp (pw_or (ha W tk) (hb W tk)) fun σ H Q ⟨s, τ, rel, post⟩ => run1 (.refl _ _) rel post fun x s2 v τ2 H2 ev rel2 r1 p => by
    cases (show v = x from r1)
    cases x with
    | false => exact ⟨s2, τ2, rel2, Post.shift bBool p ev⟩
    | true => exact p true τ2 H2 ev rel2 rfl
theorem st_not (ha : ST X a ta) : ST X (.UnaryOp .Not a pos) (tNotS ta) := fun W tk =>
  PT.imp (pt_not (ha W tk)) fun σ H Q ⟨s, τ, rel, post⟩ => run1 (.refl _ _) rel post fun x s2 v τ2 H2 ev rel2 r1 p => by
    cases (show v = x from r1)
    exact p (!x) τ2 H2 ev rel2 rfl
theorem se_if (hc : ST X c tc) (ha : SE X a fa) (hb : SE X b fb) : SE X (.IfExp c a b pos) (eIf tc fa fb) := fun W tk =>
  PE.imp (pe_ifExp (hc W tk) (ha W tk) (hb W tk)) fun σ H Q ⟨s, τ, rel, post⟩ => run1 (.refl _ _) rel post fun x s2 v τ2 H2 ev rel2 r1 p => by
    cases (show v = x from r1)
    cases x with
    | true => exact ⟨s2, τ2, rel2, Post.shift bRes p ev⟩
    | false => exact ⟨s2, τ2, rel2, Post.shift bRes p ev⟩
theorem se_one {op : BoolOp} (ha : SE X a fa) : SE X (.BoolOp op [a] pos) fa := fun W tk => pe_one (ha W tk)
theorem se_and (ha : SE X a fa) (hb : SE X (.BoolOp .And (b :: rest) pos) fb) : SE X (.BoolOp .And (a :: b :: rest) pos) (eAnd fa fb) := fun W tk =>
  PE.imp (pe_and (ha W tk) (hb W tk)) fun σ H Q ⟨s, τ, rel, post⟩ => run1 (.refl _ _) rel post fun x s2 v τ2 H2 ev rel2 r1 p => by
    split at p
    · rename_i k ex
      refine ⟨k, (RelR.isT rel2 r1 ex).bl, ?_⟩
      cases k with
      | true => exact ⟨s2, τ2, rel2, Post.shift bRes p ev⟩
      | false => exact p (.bl false) τ2 H2 ev rel2 (.bl false)
    · exact p.elim
theorem se_or (ha : SE X a fa) (hb : SE X (.BoolOp .Or (b :: rest) pos) fb) : SE X (.BoolOp .Or (a :: b :: rest) pos) (eOr fa fb) := fun W tk =>
  PE.imp (pe_or (ha W tk) (hb W tk)) fun σ H Q ⟨s, τ, rel, post⟩ => run1 (.refl _ _) rel post fun x s2 v τ2 H2 ev rel2 r1 p => by
    split at p
    · rename_i k ex
      refine ⟨k, (RelR.isT rel2 r1 ex).bl, ?_⟩
      cases k with
      | false => exact ⟨s2, τ2, rel2, Post.shift bRes p ev⟩
      | true => exact p (.bl true) τ2 H2 ev rel2 (.bl true)
    · exact p.elim
theorem se_not (ha : SE X a fa) : SE X (.UnaryOp .Not a pos) (eNot fa) := fun W tk =>
  PE.imp (pe_not (ha W tk)) fun σ H Q ⟨s, τ, rel, post⟩ => run1 (.refl _ _) rel post fun x s2 v τ2 H2 ev rel2 r1 p => by
    split at p
    · rename_i k ex
      exact ⟨k, (RelR.isT rel2 r1 ex).bl, p (.bl (!k)) τ2 H2 ev rel2 (.bl _)⟩
    · exact p.elim
end
end Sv

/-! Sv, part D: operators over trees. -/
namespace Sv
open PySem PySem.Spec PyProof.Rows L2
variable [Tb]

def szok (n : Nat) : Bool := decide (n ≤ 1000000)
theorem szok_le {n : Nat} (h : szok n = true) : n ≤ sizeLine := Nat.le_trans (of_decide_eq_true h) (by decide)
theorem szok_lt {n : Nat} (h : szok n = true) : n < sizeLine := Nat.lt_of_le_of_lt (of_decide_eq_true h) (by decide)

/-! ### + - * // % ** and the minus sign -/
def opAdd : T → T → Option (Bool × T)
  | .int i, .int j => some (false, .int (i + j))
  | .lst a, .lst b => if szok (a.length + b.length) = true then some (true, .lst (a ++ b)) else none
  | .tup a, .tup b => if szok (a.length + b.length) = true then some (false, .tup (a ++ b)) else none
  | .str a, .str b => if szok (a.length + b.length) = true then some (false, .str (a ++ b)) else none
  | _, _ => none
def opSub : T → T → Option (Bool × T)
  | .int i, .int j => some (false, .int (i - j))
  | _, _ => none
def mulOk (i j : Int) : Bool := decide (i.natAbs < 18446744073709551616) || decide (j.natAbs < 18446744073709551616) || decide (i.natAbs.log2 + j.natAbs.log2 < 1000000)
def opMul : T → T → Option (Bool × T)
  | .int i, .int j => if mulOk i j = true then some (false, .int (i * j)) else none
  | .lst a, .int k => if szok (a.length * k.toNat) = true ∧ k ≤ 1000000 ∧ -1000000 ≤ k then some (true, .lst (List.replicate k.toNat a).flatten) else none
  | _, _ => none
def opDiv : T → T → Option (Bool × T)
  | .int i, .int j => if 0 < j ∧ j.natAbs.log2 < 9000 then some (false, .int (i / j)) else if j < 0 ∧ j.natAbs < 1073741824 then some (false, .int (i.fdiv j)) else none
  | _, _ => none
def opMod : T → T → Option (Bool × T)
  | .int i, .int j => if 0 < j then some (false, .int (i % j)) else if j < 0 then some (false, .int (i.fmod j)) else none
  | _, _ => none
def opPow : T → T → Option (Bool × T)
  | .int i, .int j => if 0 ≤ j ∧ j ≤ 1000000 ∧ i.natAbs < 18446744073709551616 then some (false, .int (i ^ j.toNat)) else none
  | _, _ => none
def opNeg : T → Option (Bool × T)
  | .int i => some (false, .int (-i))
  | _ => none

section
variable {M : Md} {τ : Tg} {H : Hp} {b : Bool} {t : T} {Q : VK}
theorem Gives.at_ {v : V} (g : Gives M τ H b t Q) (hb : b = false) (h : Rp M τ H t v) : Q v H := g.1 hb v h
theorem Rps.ne_nil {ts : List T} {vs : List V} (h : Rps M τ H ts vs) : ts = [] ↔ vs = [] := by cases h <;> simp
theorem og_add : OpG M (fun x y H Q => (fun x y H Q => rI0 (fun i j => .int (i + j)) x y H Q ∨ rCat x y H Q) x y H Q ∨ (fun x y H Q => rCatA M.K x y H Q ∨ (∃ i j, x = .str i ∧ y = .str j ∧ i.length + j.length ≤ sizeLine ∧ Q (.str (i ++ j)) H)) x y H Q) opAdd := by
  intro τ H tx ty x y b t Q hx hy hg g
  unfold opAdd at hg
  split at hg
  · cases hg
    exact .inl (.inl ⟨_, _, hx.int, hy.int, g.1 rfl _ (.int _)⟩)
  · rename_i a c
    split at hg <;> cases hg
    rename_i hz
    obtain ⟨p, xs, rfl, e1, r1⟩ := hx.lst
    obtain ⟨q, ys, rfl, e2, r2⟩ := hy.lst
    have hz := szok_le hz
    rw [r1.length, r2.length] at hz
    exact .inl (.inr ⟨p, q, xs, ys, rfl, rfl, e1, e2, hz, fun n hn => g.2 n _ hn ⟨_, rfl, r1.append r2⟩⟩)
  · rename_i a c
    split at hg <;> cases hg
    rename_i hz
    obtain ⟨p, xs, rfl, e1, r1⟩ := hx.tup
    obtain ⟨q, ys, rfl, e2, r2⟩ := hy.tup
    have hz := szok_le hz
    rw [r1.length, r2.length] at hz
    refine .inr (.inl ⟨p, q, xs, ys, rfl, rfl, e1.sq, e2.sq, hz, fun z => ?_, fun _ z => ?_, fun _ _ n hn => g.2 n _ hn ⟨rfl, _, rfl, r1.append r2⟩⟩)
    · have z2 := r1.ne_nil.mpr z
      refine g.1 rfl _ ?_
      rw [z2]
      exact .tup e2 r2
    · have z2 := r2.ne_nil.mpr z
      refine g.1 rfl _ ?_
      rw [z2, List.append_nil]
      exact .tup e1 r1
  · rename_i a c
    split at hg <;> cases hg
    rename_i hz
    exact .inr (.inr ⟨a, c, hx.str, hy.str, szok_le hz, g.1 rfl _ (.str _)⟩)
  · cases hg
theorem og_sub : OpG M (rI0 fun i j => .int (i - j)) opSub := by
  intro τ H tx ty x y b t Q hx hy hg g
  unfold opSub at hg
  split at hg
  · cases hg
    exact ⟨_, _, hx.int, hy.int, g.1 rfl _ (.int _)⟩
  · cases hg
theorem abs64 {i : Int} (h : i.natAbs < 18446744073709551616) : -(2 ^ 64) < i ∧ i < 2 ^ 64 := by
  constructor <;> omega
theorem og_mul : OpG M (fun x y H Q => (fun x y H Q => rI CMul (fun i j => .int (i * j)) x y H Q ∨ rI CMulW (fun i j => .int (i * j)) x y H Q) x y H Q ∨ rRep x y H Q) opMul := by
  intro τ H tx ty x y b t Q hx hy hg g
  unfold opMul at hg
  split at hg
  · rename_i i j
    split at hg <;> cases hg
    rename_i hz
    unfold mulOk at hz
    rw [Bool.or_eq_true, Bool.or_eq_true] at hz
    rcases hz with (hz | hz) | hz
    · exact .inl (.inl ⟨_, _, hx.int, hy.int, .inl (abs64 (of_decide_eq_true hz)), g.1 rfl _ (.int _)⟩)
    · exact .inl (.inl ⟨_, _, hx.int, hy.int, .inr (abs64 (of_decide_eq_true hz)), g.1 rfl _ (.int _)⟩)
    · have hz' : i.natAbs.log2 + j.natAbs.log2 < 1000000 := of_decide_eq_true hz
      exact .inl (.inr ⟨_, _, hx.int, hy.int, hz', g.1 rfl _ (.int _)⟩)
  · rename_i a k
    split at hg <;> cases hg
    rename_i hz
    obtain ⟨p, xs, rfl, e1, r1⟩ := hx.lst
    obtain ⟨h1, h2, h3⟩ := hz
    have h1 := szok_le h1
    rw [r1.length] at h1
    refine .inr ⟨p, k, xs, rfl, hy.int, e1, by omega, by omega, h1, fun n hn => g.2 n _ hn ⟨_, rfl, ?_⟩⟩
    have rep : ∀ m : Nat, Rps M τ H (List.replicate m a).flatten (List.replicate m xs).flatten := fun m => by
      induction m with
      | zero => exact .nil
      | succ m ih => rw [List.replicate_succ, List.replicate_succ, List.flatten_cons, List.flatten_cons]; exact r1.append ih
    exact rep _
  · cases hg
theorem og_div : OpG M (fun x y H Q => rI CDivW (fun i j => .int (i / j)) x y H Q ∨ rI CDivN (fun i j => .int (i.fdiv j)) x y H Q) opDiv := by
  intro τ H tx ty x y b t Q hx hy hg g
  unfold opDiv at hg
  split at hg
  · rename_i i j
    split at hg
    · rename_i h
      cases hg
      exact .inl ⟨_, _, hx.int, hy.int, h, g.1 rfl _ (.int _)⟩
    · split at hg <;> cases hg
      rename_i h
      exact .inr ⟨_, _, hx.int, hy.int, ⟨by omega, h.2⟩, g.1 rfl _ (.int _)⟩
  · cases hg
theorem og_mod : OpG M (fun x y H Q => rI (fun _ j => 0 < j) (fun i j => .int (i % j)) x y H Q ∨ rI (fun _ j => j ≠ 0) (fun i j => .int (i.fmod j)) x y H Q) opMod := by
  intro τ H tx ty x y b t Q hx hy hg g
  unfold opMod at hg
  split at hg
  · rename_i i j
    split at hg
    · rename_i h
      cases hg
      exact .inl ⟨_, _, hx.int, hy.int, h, g.1 rfl _ (.int _)⟩
    · split at hg <;> cases hg
      rename_i h
      exact .inr ⟨_, _, hx.int, hy.int, by omega, g.1 rfl _ (.int _)⟩
  · cases hg
theorem og_pow : OpG M (rI CPow fun i j => .int (i ^ j.toNat)) opPow := by
  intro τ H tx ty x y b t Q hx hy hg g
  unfold opPow at hg
  split at hg
  · rename_i i j
    split at hg <;> cases hg
    rename_i h
    exact ⟨_, _, hx.int, hy.int, ⟨h.1, h.2.1, by rw [show (2 : Nat) ^ 64 = 18446744073709551616 by decide]; exact h.2.2⟩, g.1 rfl _ (.int _)⟩
  · cases hg
theorem ug_neg : UnG M (rU fun i => .int (-i)) opNeg := by
  intro τ H tx x b t Q hx hg g
  unfold opNeg at hg
  split at hg
  · cases hg
    exact ⟨_, hx.int, g.1 rfl _ (.int _)⟩
  · cases hg
end
section
variable {X : Cx} {a b : Expr} {fa fb : S → R Res} {pos : Pos}
theorem se_add (ha : SE X a fa) (hb : SE X b fb) : SE X (.BinOp a .Add b pos) (eBin opAdd fa fb) := se_bin ((op_add.or op_cat).or (op_catA.or op_add_str)) og_add ha hb
theorem se_sub (ha : SE X a fa) (hb : SE X b fb) : SE X (.BinOp a .Sub b pos) (eBin opSub fa fb) := se_bin op_sub og_sub ha hb
theorem se_mul (ha : SE X a fa) (hb : SE X b fb) : SE X (.BinOp a .Mult b pos) (eBin opMul fa fb) := se_bin ((op_mul.or op_mulW).or op_rep) og_mul ha hb
theorem se_div (ha : SE X a fa) (hb : SE X b fb) : SE X (.BinOp a .FloorDiv b pos) (eBin opDiv fa fb) := se_bin (op_fdivW.or op_fdivN) og_div ha hb
theorem se_mod (ha : SE X a fa) (hb : SE X b fb) : SE X (.BinOp a .Mod b pos) (eBin opMod fa fb) := se_bin (op_mod.or op_modN) og_mod ha hb
theorem se_pow (ha : SE X a fa) (hb : SE X b fb) : SE X (.BinOp a .Pow b pos) (eBin opPow fa fb) := se_bin op_pow og_pow ha hb
theorem se_neg (ha : SE X a fa) : SE X (.UnaryOp .USub a pos) (eUn opNeg fa) := se_un un_neg ug_neg ha
end

/-! ### equality at any depth -/
mutual
def T.eqv : T → T → Bool
  | .non, .non => true
  | .bl a, .bl b => a == b
  | .bl a, .int j => (if a then 1 else 0) == j
  | .int i, .bl b => i == (if b then 1 else 0)
  | .int i, .int j => i == j
  | .str x, .str y => x == y
  | .lst xs, .lst ys => T.eqvs xs ys
  | .tup xs, .tup ys => T.eqvs xs ys
  | _, _ => false
def T.eqvs : List T → List T → Bool
  | [], [] => true
  | x :: xs, y :: ys => T.eqv x y && T.eqvs xs ys
  | _, _ => false
end
mutual
/-- plain data of at most that depth -/
def T.shp : Nat → T → Bool
  | _, .non => true
  | _, .bl _ => true
  | _, .int _ => true
  | _, .str x => PyData.strOk x
  | 0, _ => false
  | n + 1, .tup ts => T.shps n ts
  | n + 1, .lst ts => T.shps n ts
  | _, _ => false
def T.shps : Nat → List T → Bool
  | _, [] => true
  | n, t :: ts => T.shp n t && T.shps n ts
end
mutual
def T.dat : T → PyData
  | .bl b => .bool b
  | .int i => .int i
  | .str x => .str x
  | .tup ts => .tuple (T.dats ts)
  | .lst ts => .list (T.dats ts)
  | _ => .none
def T.dats : List T → List PyData
  | [] => []
  | t :: ts => T.dat t :: T.dats ts
end
mutual
theorem T.shp_ok : ∀ (n : Nat) (t : T), T.shp n t = true → (T.dat t).canLay0 = true ∧ (T.dat t).depth ≤ n
  | n, .non, _ => by cases n <;> simp [T.dat, PyData.canLay0, PyData.depth]
  | n, .bl _, _ => by cases n <;> simp [T.dat, PyData.canLay0, PyData.depth]
  | n, .int _, _ => by cases n <;> simp [T.dat, PyData.canLay0, PyData.depth]
  | n, .str x, h => by
    have h' : PyData.strOk x = true := by cases n <;> simpa [T.shp] using h
    simp [T.dat, PyData.canLay0, PyData.depth, h']
  | 0, .tup _, h => by simp [T.shp] at h
  | 0, .lst _, h => by simp [T.shp] at h
  | n + 1, .tup ts, h => by
    obtain ⟨h1, h2⟩ := T.shps_ok n ts (by simpa [T.shp] using h)
    simp only [T.dat, PyData.canLay0, PyData.depth]
    exact ⟨h1, by omega⟩
  | n + 1, .lst ts, h => by
    obtain ⟨h1, h2⟩ := T.shps_ok n ts (by simpa [T.shp] using h)
    simp only [T.dat, PyData.canLay0, PyData.depth]
    exact ⟨h1, by omega⟩
  | 0, .dct _ _, h => by simp [T.shp] at h
  | n + 1, .dct _ _, h => by simp [T.shp] at h
  | 0, .obj _, h => by simp [T.shp] at h
  | n + 1, .obj _, h => by simp [T.shp] at h
  | 0, .gl _, h => by simp [T.shp] at h
  | n + 1, .gl _, h => by simp [T.shp] at h
  | 0, .lam _, h => by simp [T.shp] at h
  | n + 1, .lam _, h => by simp [T.shp] at h
  | 0, .scr _, h => by simp [T.shp] at h
  | n + 1, .scr _, h => by simp [T.shp] at h
theorem T.shps_ok : ∀ (n : Nat) (ts : List T), T.shps n ts = true → PyData.canLayAll0 (T.dats ts) = true ∧ PyData.depthAll (T.dats ts) ≤ n
  | n, [], _ => by simp [T.dats, PyData.canLayAll0, PyData.depthAll]
  | n, t :: ts, h => by
    have h' : T.shp n t = true ∧ T.shps n ts = true := by simpa [T.shps] using h
    obtain ⟨a1, a2⟩ := T.shp_ok n t h'.1
    obtain ⟨b1, b2⟩ := T.shps_ok n ts h'.2
    simp only [T.dats, PyData.canLayAll0, PyData.depthAll]
    exact ⟨by rw [a1, b1]; rfl, by omega⟩
end
theorem T.shaped {t : T} (h : T.shp 60 t = true) : SeqAt.shaped (T.dat t) = true := by
  obtain ⟨h1, h2⟩ := T.shp_ok 60 t h
  unfold SeqAt.shaped
  rw [h1, Bool.true_and, decide_eq_true_eq]
  omega
mutual
theorem T.eqv_dat : ∀ (n m : Nat) (t u : T), T.shp n t = true → T.shp m u = true → PyData.eqv (T.dat t) (T.dat u) = T.eqv t u
  | n, m, .lst xs, .lst ys, h, k => by
    cases n with
    | zero => simp [T.shp] at h
    | succ n =>
      cases m with
      | zero => simp [T.shp] at k
      | succ m =>
        simp only [T.dat, PyData.eqv, T.eqv]
        exact T.eqvs_dat n m xs ys (by simpa [T.shp] using h) (by simpa [T.shp] using k)
  | n, m, .tup xs, .tup ys, h, k => by
    cases n with
    | zero => simp [T.shp] at h
    | succ n =>
      cases m with
      | zero => simp [T.shp] at k
      | succ m =>
        simp only [T.dat, PyData.eqv, T.eqv]
        exact T.eqvs_dat n m xs ys (by simpa [T.shp] using h) (by simpa [T.shp] using k)
  | n, m, .non, u, h, k => by cases u <;> first | (simp [T.dat, PyData.eqv, T.eqv]; done) | (cases m <;> simp [T.shp] at k)
  | n, m, .bl _, u, h, k => by cases u <;> first | (simp [T.dat, PyData.eqv, T.eqv]; done) | (cases m <;> simp [T.shp] at k)
  | n, m, .int _, u, h, k => by cases u <;> first | (simp [T.dat, PyData.eqv, T.eqv]; done) | (cases m <;> simp [T.shp] at k)
  | n, m, .str _, u, h, k => by cases u <;> first | (simp [T.dat, PyData.eqv, T.eqv]; done) | (cases m <;> simp [T.shp] at k)
  | n, m, .dct _ _, u, h, k => by cases n <;> simp [T.shp] at h
  | n, m, .obj _, u, h, k => by cases n <;> simp [T.shp] at h
  | n, m, .gl _, u, h, k => by cases n <;> simp [T.shp] at h
  | n, m, .lam _, u, h, k => by cases n <;> simp [T.shp] at h
  | n, m, .scr _, u, h, k => by cases n <;> simp [T.shp] at h
  | n, m, .lst _, .non, h, k => by simp [T.dat, PyData.eqv, T.eqv]
  | n, m, .lst _, .bl _, h, k => by simp [T.dat, PyData.eqv, T.eqv]
  | n, m, .lst _, .int _, h, k => by simp [T.dat, PyData.eqv, T.eqv]
  | n, m, .lst _, .str _, h, k => by simp [T.dat, PyData.eqv, T.eqv]
  | n, m, .lst _, .tup _, h, k => by simp [T.dat, PyData.eqv, T.eqv]
  | n, m, .lst _, .dct _ _, h, k => by cases m <;> simp [T.shp] at k
  | n, m, .lst _, .obj _, h, k => by cases m <;> simp [T.shp] at k
  | n, m, .lst _, .gl _, h, k => by cases m <;> simp [T.shp] at k
  | n, m, .lst _, .lam _, h, k => by cases m <;> simp [T.shp] at k
  | n, m, .lst _, .scr _, h, k => by cases m <;> simp [T.shp] at k
  | n, m, .tup _, .non, h, k => by simp [T.dat, PyData.eqv, T.eqv]
  | n, m, .tup _, .bl _, h, k => by simp [T.dat, PyData.eqv, T.eqv]
  | n, m, .tup _, .int _, h, k => by simp [T.dat, PyData.eqv, T.eqv]
  | n, m, .tup _, .str _, h, k => by simp [T.dat, PyData.eqv, T.eqv]
  | n, m, .tup _, .lst _, h, k => by simp [T.dat, PyData.eqv, T.eqv]
  | n, m, .tup _, .dct _ _, h, k => by cases m <;> simp [T.shp] at k
  | n, m, .tup _, .obj _, h, k => by cases m <;> simp [T.shp] at k
  | n, m, .tup _, .gl _, h, k => by cases m <;> simp [T.shp] at k
  | n, m, .tup _, .lam _, h, k => by cases m <;> simp [T.shp] at k
  | n, m, .tup _, .scr _, h, k => by cases m <;> simp [T.shp] at k
theorem T.eqvs_dat : ∀ (n m : Nat) (ts us : List T), T.shps n ts = true → T.shps m us = true → PyData.eqvAll (T.dats ts) (T.dats us) = T.eqvs ts us
  | _, _, [], [], _, _ => by simp [T.dats, PyData.eqvAll, T.eqvs]
  | _, _, [], _ :: _, _, _ => by simp [T.dats, PyData.eqvAll, T.eqvs]
  | _, _, _ :: _, [], _, _ => by simp [T.dats, PyData.eqvAll, T.eqvs]
  | n, m, t :: ts, u :: us, h, k => by
    have h' : T.shp n t = true ∧ T.shps n ts = true := by simpa [T.shps] using h
    have k' : T.shp m u = true ∧ T.shps m us = true := by simpa [T.shps] using k
    simp only [T.dats, PyData.eqvAll, T.eqvs, T.eqv_dat n m t u h'.1 k'.1, T.eqvs_dat n m ts us h'.2 k'.2]
end
section
variable {M : Md} {τ : Tg} {H : Hp}
mutual
theorem Rp.dp : ∀ {n : Nat} {t : T} {v : V}, Rp M τ H t v → T.shp n t = true → Dp M.K H v (T.dat t)
  | _, _, _, .non, _ => by simp only [T.dat]; exact .non
  | _, _, _, .bl b, _ => by simp only [T.dat]; exact .bl b
  | _, _, _, .int i, _ => by simp only [T.dat]; exact .int i
  | _, _, _, .str x, _ => by simp only [T.dat]; exact .str x
  | 0, _, _, .tup h r, k => by simp [T.shp] at k
  | 0, _, _, .lst h r, k => by simp [T.shp] at k
  | n + 1, _, _, .tup h r, k => by simp only [T.dat]; exact .tup h.sq (Rps.dp r (by simpa [T.shp] using k))
  | n + 1, _, _, .lst h r, k => by simp only [T.dat]; exact .lst h.sq (Rps.dp r (by simpa [T.shp] using k))
  | n, _, _, .gl _ _, k => by cases n <;> simp [T.shp] at k
  | n, _, _, .obj _, k => by cases n <;> simp [T.shp] at k
  | n, _, _, .scr _, k => by cases n <;> simp [T.shp] at k
  | n, _, _, .lam _ _ _ _, k => by cases n <;> simp [T.shp] at k
theorem Rps.dp : ∀ {n : Nat} {ts : List T} {vs : List V}, Rps M τ H ts vs → T.shps n ts = true → DpAll M.K H vs (T.dats ts)
  | _, _, _, .nil, _ => by simp only [T.dats]; exact .nil
  | n, _, _, .cons h r, k => by
    rw [T.shps, Bool.and_eq_true] at k
    simp only [T.dats]
    exact .cons (Rp.dp h k.1) (Rps.dp r k.2)
end
theorem IsT.dp {n : Nat} {t : T} {v : V} (h : IsT M τ H t v) (k : T.shp n t = true) : Dp M.K H v (T.dat t) := by
  rcases h with h | ⟨a, rfl, h⟩
  · exact h.dp k
  · cases t <;> first | exact h.elim | skip
    obtain ⟨vs, h1, h2⟩ := h.lst
    cases n with
    | zero => simp [T.shp] at k
    | succ n =>
      simp only [T.dat]
      exact .lst (.inl (.inl h1)) (h2.dp (by simpa [T.shp] using k))
end
def opEq : T → T → Option (Bool × T) := fun x y => if T.shp 60 x = true ∧ T.shp 60 y = true then some (false, .bl (T.eqv x y)) else none
def opNe : T → T → Option (Bool × T) := fun x y => if T.shp 60 x = true ∧ T.shp 60 y = true then some (false, .bl (!T.eqv x y)) else none
theorem og_eq {M : Md} : OpG M (rEqD M.K) opEq := by
  intro τ H tx ty x y b t Q hx hy hg g
  unfold opEq at hg
  split at hg <;> cases hg
  rename_i h
  exact ⟨_, _, hx.dp h.1, hy.dp h.2, T.shaped h.1, T.shaped h.2, by rw [T.eqv_dat 60 60 _ _ h.1 h.2]; exact g.1 rfl _ (.bl _)⟩
theorem og_ne {M : Md} : OpG M (rNeD M.K) opNe := by
  intro τ H tx ty x y b t Q hx hy hg g
  unfold opNe at hg
  split at hg <;> cases hg
  rename_i h
  exact ⟨_, _, hx.dp h.1, hy.dp h.2, T.shaped h.1, T.shaped h.2, by rw [T.eqv_dat 60 60 _ _ h.1 h.2]; exact g.1 rfl _ (.bl _)⟩
def opIs : T → T → Option (Bool × T) := fun x y => match y with
  | .non => some (false, .bl (match x with | .non => true | _ => false))
  | _ => none
def opIsNot : T → T → Option (Bool × T) := fun x y => match y with
  | .non => some (false, .bl (match x with | .non => false | _ => true))
  | _ => none
end Sv

/-! Sv, part E: is None, order, in, chains, arguments, displays, places of sequences, slices, built-ins. -/
namespace Sv
open PySem PySem.Spec PyProof.Rows L2
variable [Tb]

/-! ### is None -/
def isN : T → Option Bool
  | .non => some true
  | .bl _ => some false
  | .int _ => some false
  | .str _ => some false
  | .tup _ => some false
  | .lst _ => some false
  | .obj _ => some false
  | .scr _ => some false
  | _ => none
theorem IsT.isN {M : Md} {τ : Tg} {H : Hp} {t : T} {v : V} {b : Bool} (h : IsT M τ H t v) (k : Sv.isN t = some b) : decide (v = .non) = b := by
  rcases h with h | ⟨a, rfl, h⟩
  · cases h <;> simp [Sv.isN] at k <;> subst k <;> simp
  · cases t <;> first | exact h.elim | (simp [Sv.isN] at k; subst k; simp)
def eIs (neg : Bool) (fa : S → R Res) : S → R Res := eUn (fun t => (isN t).map fun b => (false, T.bl (xor neg b))) fa
section
variable {X : Cx} {a b c : Expr} {fa fb fc : S → R Res} {pos : Pos}
theorem isN_run {W : WX} {M : Md} {neg : Bool} {σ : L2.St} {H : Hp} {Q : VK} (h : tG M (RRes M) (eIs neg fa) W σ H Q) : tG M (RRes M) fa W σ H fun x H1 => Q (.bl (xor neg (decide (x = .non)))) H1 := by
  obtain ⟨s, τ, rel, post⟩ := h
  refine run1 (.refl _ _) rel post fun x s2 v τ2 H2 ev rel2 r1 p => ?_
  split at p
  · rename_i tx ex
    dsimp only at p
    cases e : isN tx with
    | none => rw [e] at p; exact p.elim
    | some k =>
      rw [e] at p
      rw [(RelR.isT rel2 r1 ex).isN e]
      exact p (.bl (xor neg k)) τ2 H2 ev rel2 (.bl _)
  · exact p.elim
theorem se_isN {j : Nat} {p2 : Pos} (ha : SE X a fa) : SE X (.Compare a [.Is] [.Constant .none j p2] pos) (eIs false fa) := fun W tk =>
  PE.imp (pe_cmp (pc_isN (ha W tk))) fun σ H Q h => by
    have := isN_run h
    simpa [tIsN] using this
theorem se_notN {j : Nat} {p2 : Pos} (ha : SE X a fa) : SE X (.Compare a [.IsNot] [.Constant .none j p2] pos) (eIs true fa) := fun W tk =>
  PE.imp (pe_cmp (pc_notN (ha W tk))) fun σ H Q h => by
    have := isN_run h
    simpa [tNotN] using this
theorem st_isN {j : Nat} {p2 : Pos} (ha : SE X a fa) : ST X (.Compare a [.Is] [.Constant .none j p2] pos) (tTst (eIs false fa)) := fun W tk =>
  PT.imp (pt_cmp (pc_isN (ha W tk))) fun σ H Q h => by
    have := isN_run (tst_run h)
    simpa [tB, tIsN] using this
theorem st_notN {j : Nat} {p2 : Pos} (ha : SE X a fa) : ST X (.Compare a [.IsNot] [.Constant .none j p2] pos) (tTst (eIs true fa)) := fun W tk =>
  PT.imp (pt_cmp (pc_notN (ha W tk))) fun σ H Q h => by
    have := isN_run (tst_run h)
    simpa [tB, tNotN] using this
end

/-! ### order of ints, equality -/
def opLt : T → T → Option (Bool × T)
  | .int i, .int j => some (false, .bl (decide (i < j)))
  | _, _ => none
def opLe : T → T → Option (Bool × T)
  | .int i, .int j => some (false, .bl (decide (i ≤ j)))
  | _, _ => none
def opGt : T → T → Option (Bool × T)
  | .int i, .int j => some (false, .bl (decide (j < i)))
  | _, _ => none
def opGe : T → T → Option (Bool × T)
  | .int i, .int j => some (false, .bl (decide (j ≤ i)))
  | _, _ => none
section
variable {M : Md}
theorem og_cmpI {g : T → T → Option (Bool × T)} {f : Int → Int → Bool} (hg : ∀ tx ty b t, g tx ty = some (b, t) → ∃ i j, tx = .int i ∧ ty = .int j ∧ b = false ∧ t = .bl (f i j)) : OpG M (rI0 fun i j => .bl (f i j)) g := by
  intro τ H tx ty x y b t Q hx hy e g
  obtain ⟨i, j, rfl, rfl, rfl, rfl⟩ := hg _ _ _ _ e
  exact ⟨i, j, hx.int, hy.int, g.1 rfl _ (.bl _)⟩
theorem og_lt : OpG M (rI0 fun i j => .bl (decide (i < j))) opLt := og_cmpI fun tx ty b t e => by
  unfold opLt at e; split at e <;> cases e; exact ⟨_, _, rfl, rfl, rfl, rfl⟩
theorem og_le : OpG M (rI0 fun i j => .bl (decide (i ≤ j))) opLe := og_cmpI fun tx ty b t e => by
  unfold opLe at e; split at e <;> cases e; exact ⟨_, _, rfl, rfl, rfl, rfl⟩
theorem og_gt : OpG M (rI0 fun i j => .bl (decide (j < i))) opGt := og_cmpI fun tx ty b t e => by
  unfold opGt at e; split at e <;> cases e; exact ⟨_, _, rfl, rfl, rfl, rfl⟩
theorem og_ge : OpG M (rI0 fun i j => .bl (decide (j ≤ i))) opGe := og_cmpI fun tx ty b t e => by
  unfold opGe at e; split at e <;> cases e; exact ⟨_, _, rfl, rfl, rfl, rfl⟩
end

/-! ### in -/
def T.flat : T → Bool
  | .non => true
  | .bl _ => true
  | .int _ => true
  | .str _ => true
  | _ => false
def opIn (neg : Bool) : T → T → Option (Bool × T) := fun x y => match y with
  | .lst ts => if T.shp 60 x = true ∧ T.shp 60 (.lst ts) = true then some (false, .bl (xor neg (ts.any fun z => T.eqv z x))) else none
  | .tup ts => if T.flat x = true ∧ ts.all T.flat = true then some (false, .bl (xor neg (ts.any fun z => T.eqv z x))) else none
  | _ => none
section
variable {M : Md} {τ : Tg} {H : Hp}
theorem T.dats_any (n m : Nat) (x : T) (hx : T.shp n x = true) : ∀ ts : List T, T.shps m ts = true → ((T.dats ts).any fun z => PyData.eqv z (T.dat x)) = ts.any fun z => T.eqv z x
  | [], _ => by simp [T.dats]
  | t :: ts, h => by
    rw [T.shps, Bool.and_eq_true] at h
    rw [T.dats, List.any_cons, List.any_cons, T.dats_any n m x hx ts h.2, T.eqv_dat m n t x h.1 hx]
theorem T.flat_v {t : T} {v : V} (h : Rp M τ H t v) (f : T.flat t = true) : flatV v = true := by
  cases h <;> first | rfl | simp [T.flat] at f
theorem T.flat_vs : ∀ {ts : List T} {vs : List V}, Rps M τ H ts vs → ts.all T.flat = true → vs.all flatV = true
  | _, _, .nil, _ => rfl
  | _, _, .cons h r, f => by
    rw [List.all_cons, Bool.and_eq_true] at f
    rw [List.all_cons, T.flat_v h f.1, T.flat_vs r f.2]; rfl
theorem T.flat_eqv {t u : T} {v w : V} (h : Rp M τ H t v) (k : Rp M τ H u w) (f : T.flat t = true) (g : T.flat u = true) : eqV v w = T.eqv t u := by
  cases h <;> first | (simp [T.flat] at f; done) | skip
  all_goals cases k <;> first | (simp [T.flat] at g; done) | simp [eqV, T.eqv]
theorem T.flat_any {x : T} {v : V} (h : Rp M τ H x v) (f : T.flat x = true) : ∀ {ts : List T} {vs : List V}, Rps M τ H ts vs → ts.all T.flat = true → inV v vs = ts.any fun z => T.eqv z x
  | _, _, .nil, _ => rfl
  | _, _, .cons k r, g => by
    rw [List.all_cons, Bool.and_eq_true] at g
    have ih := T.flat_any h f r g.2
    unfold inV at ih ⊢
    rw [List.any_cons, List.any_cons, ih, T.flat_eqv k h g.1 f]
theorem IsT.flat {t : T} {v : V} (h : IsT M τ H t v) (f : T.flat t = true) : Rp M τ H t v := by
  rcases h with h | ⟨a, _, h⟩
  · exact h
  · cases t <;> first | exact h.elim | simp [T.flat] at f
theorem og_in : OpG M (fun x y H Q => rInD M.K x y H Q ∨ rIn M.K false x y H Q) (opIn false) := by
  intro τ H tx ty x y b t Q hx hy hg g
  unfold opIn at hg
  split at hg
  · split at hg <;> cases hg
    rename_i ts h
    refine .inl ⟨_, _, hx.dp h.1, hy.dp h.2, T.shaped h.1, T.shaped h.2, ?_⟩
    have h2 := h.2
    rw [T.shp] at h2
    have e := T.dats_any 60 59 tx h.1 ts h2
    rw [e]
    have := g.1 rfl _ (.bl _)
    simpa using this
  · split at hg <;> cases hg
    rename_i ts h
    obtain ⟨a, vs, rfl, e1, r1⟩ := hy.tup
    have hx := hx.flat h.1
    refine .inr ⟨a, vs, rfl, .inr e1.sq, T.flat_v hx h.1, T.flat_vs r1 h.2, ?_⟩
    rw [T.flat_any hx h.1 r1 h.2]
    have := g.1 rfl _ (.bl _)
    simpa using this
  · cases hg
theorem og_notIn : OpG M (fun x y H Q => rNotInD M.K x y H Q ∨ rIn M.K true x y H Q) (opIn true) := by
  intro τ H tx ty x y b t Q hx hy hg g
  unfold opIn at hg
  split at hg
  · split at hg <;> cases hg
    rename_i ts h
    refine .inl ⟨_, _, hx.dp h.1, hy.dp h.2, T.shaped h.1, T.shaped h.2, ?_⟩
    have h2 := h.2
    rw [T.shp] at h2
    have e := T.dats_any 60 59 tx h.1 ts h2
    rw [e]
    have := g.1 rfl _ (.bl _)
    simpa using this
  · split at hg <;> cases hg
    rename_i ts h
    obtain ⟨a, vs, rfl, e1, r1⟩ := hy.tup
    have hx := hx.flat h.1
    refine .inr ⟨a, vs, rfl, .inr e1.sq, T.flat_v hx h.1, T.flat_vs r1 h.2, ?_⟩
    rw [T.flat_any hx h.1 r1 h.2]
    have := g.1 rfl _ (.bl _)
    simpa using this
  · cases hg
end
section
variable {X : Cx} {a b c : Expr} {fa fb fc : S → R Res} {pos : Pos} {k : Nat}
/-- the room of a body, an except suite not entered -/
structure Rm (X : Cx) (k : Nat) : Prop where
  room : Room k X.A
  calm : X.calm = true
  nd : X.N.Nodup
theorem Rm.u65 (h : Rm X k) : X.A.units + 65 < cLine := by have := h.room.un; omega
theorem Rm.u64 (h : Rm X k) : X.A.units + 64 < cLine := by have := h.room.un; omega
/-- a comparison operator and what it makes of trees -/
inductive CmpG (X : Cx) : CmpOp → (T → T → Option (Bool × T)) → Prop
  | lt : CmpG X .Lt opLt
  | le : CmpG X .LtE opLe
  | gt : CmpG X .Gt opGt
  | ge : CmpG X .GtE opGe
  | eq : X.A.units + 64 < cLine → CmpG X .Eq opEq
  | ne : X.A.units + 64 < cLine → CmpG X .NotEq opNe
  | in_ : X.A.units + 65 < cLine → CmpG X .In (opIn false)
  | notIn : X.A.units + 65 < cLine → CmpG X .NotIn (opIn true)
theorem CmpG.ok {op : CmpOp} {g : T → T → Option (Bool × T)} (h : CmpG X op g) : ∃ r, OpR X (compareOp op) r ∧ OpG (Mx X) r g := by
  cases h with
  | lt => exact ⟨_, op_lt, og_lt⟩
  | le => exact ⟨_, op_le, og_le⟩
  | gt => exact ⟨_, op_gt, og_gt⟩
  | ge => exact ⟨_, op_ge, og_ge⟩
  | eq h => exact ⟨_, op_eqD h, og_eq⟩
  | ne h => exact ⟨_, op_neD h, og_ne⟩
  | in_ h => exact ⟨_, (op_inD h).or op_in_seq, og_in⟩
  | notIn h => exact ⟨_, (op_notInD h).or op_notIn_seq, og_notIn⟩
theorem se_cmpG {op : CmpOp} {g : T → T → Option (Bool × T)} (h : CmpG X op g) (ha : SE X a fa) (hb : SE X b fb) (hm : behindInMarks op b = false) : SE X (.Compare a [op] [b] pos) (eBin g fa fb) := by
  obtain ⟨r, h1, h2⟩ := h.ok
  exact se_cmp h1 h2 ha hb hm
theorem st_cmpG {op : CmpOp} {g : T → T → Option (Bool × T)} (h : CmpG X op g) (ha : SE X a fa) (hb : SE X b fb) (hm : behindInMarks op b = false) : ST X (.Compare a [op] [b] pos) (tTst (eBin g fa fb)) := by
  obtain ⟨r, h1, h2⟩ := h.ok
  exact st_cmp h1 h2 ha hb hm

/-! ### a op b op c -/
def eChn (g h : T → T → Option (Bool × T)) (fa fb fc : S → R Res) : S → R Res := fun s => (fa s).bind fun x s => (fb s).bind fun y s => match peek s x, peek s y with
  | some tx, some ty => (match g tx ty with
    | some (false, .bl true) => (fc s).bind fun z s => match peek s y, peek s z with
      | some ty, some tz => out1 (h ty tz) s
      | _, _ => .stuck
    | some (false, .bl false) => .ok (.val (.bl false)) s
    | _ => .stuck)
  | _, _ => .stuck
theorem chn_run {W : WX} {M : Md} {r r' : R2} {g g' : T → T → Option (Bool × T)} (hg : OpG M r g) (hg' : OpG M r' g') {σ : L2.St} {H : Hp} {Q : VK} (h : tG M (RRes M) (eChn g g' fa fb fc) W σ H Q) :
    tChain r r' (tG M (RRes M) fa W) (tG M (RRes M) fb W) (tG M (RRes M) fc W) σ H Q := by
  obtain ⟨s, τ, rel, post⟩ := h
  refine run2 rel post fun x y s2 v w τ2 H2 ev rel2 r1 r2 p => ?_
  split at p
  · rename_i tx ty ex ey
    have hx := r1.isT rel2 ex
    have hy := r2.isT rel2 ey
    split at p
    · rename_i e
      refine hg τ2 H2 tx ty v w false (.bl true) _ hx hy e ⟨fun _ u hu => ?_, fun p' o _ hn => hn.elim⟩
      cases hu
      refine ⟨true, rfl, ?_⟩
      rw [if_pos rfl]
      refine run1 ev rel2 p fun z s3 u τ3 H3 ev3 rel3 r3 p3 => ?_
      split at p3
      · rename_i ty' tz ey' ez
        have hy' := (RelR.later (s2 := s3) r2 ev3).isT rel3 ey'
        have hz := RelR.isT rel3 r3 ez
        cases e2 : g' ty' tz with
        | none => rw [e2] at p3; exact p3.elim
        | some q =>
          obtain ⟨b, t⟩ := q
          rw [e2] at p3
          exact hg' τ3 H3 ty' tz w u b t Q hy' hz e2 (p3.out (ev.trans ev3) rel3)
      · exact p3.elim
    · rename_i e
      refine hg τ2 H2 tx ty v w false (.bl false) _ hx hy e ⟨fun _ u hu => ?_, fun p' o _ hn => hn.elim⟩
      cases hu
      exact ⟨false, rfl, by rw [if_neg Bool.false_ne_true]; exact p (.bl false) τ2 H2 ev rel2 (.bl false)⟩
    · exact p.elim
  · exact p.elim
theorem se_chn {op op' : CmpOp} {g h : T → T → Option (Bool × T)} (hg : CmpG X op g) (hh : CmpG X op' h) (ha : SE X a fa) (hb : SE X b fb) (hc : SE X c fc) (hm : lastMarks [op, op'] [b, c] = false := by with_unfolding_all rfl) :
    SE X (.Compare a [op, op'] [b, c] pos) (eChn g h fa fb fc) := by
  obtain ⟨r, h1, h2⟩ := hg.ok
  obtain ⟨r', h3, h4⟩ := hh.ok
  exact fun W tk => PE.imp (pe_chain h1 h3 (ha W tk) (hb W tk) (hc W tk) hm) fun σ H Q h => chn_run h2 h4 h
theorem st_chn {op op' : CmpOp} {g h : T → T → Option (Bool × T)} (hg : CmpG X op g) (hh : CmpG X op' h) (ha : SE X a fa) (hb : SE X b fb) (hc : SE X c fc) (hm : lastMarks [op, op'] [b, c] = false := by with_unfolding_all rfl) :
    ST X (.Compare a [op, op'] [b, c] pos) (tTst (eChn g h fa fb fc)) := by
  obtain ⟨r, h1, h2⟩ := hg.ok
  obtain ⟨r', h3, h4⟩ := hh.ok
  exact fun W tk => PT.imp (pt_chain h1 h3 (ha W tk) (hb W tk) (hc W tk) hm) fun σ H Q h => chn_run (Q := fun x H' => ∃ k, x = .bl k ∧ Q k H') h2 h4 (tst_run h)
end
end Sv

/-! Sv, part F: arguments, displays, items, slices, built-in calls. -/
namespace Sv
open PySem PySem.Spec PyProof.Rows L2
variable [Tb]

/-! ### arguments: values that stay -/
def aNil : S → R (List T) := fun s => .ok [] s
def aCons (f : S → R Res) (g : S → R (List T)) : S → R (List T) := fun s => (f s).bind fun r s => match frz s r with
  | some (t, s) => (g s).bind fun ts s => .ok (t :: ts) s
  | none => .stuck
section
variable {X : Cx} {e : Expr} {es : List Expr} {f : S → R Res} {g : S → R (List T)} {pos : Pos} {M : Md}
theorem sa_nil : SA X [] aNil := fun W tk => PA.imp pa_nil fun σ H Q ⟨s, τ, rel, post⟩ => post [] τ H (.refl _ _) rel .nil
theorem cons_run {W : WX} {σ : L2.St} {H : Hp} {Q : List V → Hp → Prop} (h : tG M (RTs M) (aCons f g) W σ H Q) : tCons (tG M (RRes M) f W) (tG M (RTs M) g W) σ H Q := by
  obtain ⟨s, τ, rel, post⟩ := h
  refine run1 (.refl _ _) rel post fun x s2 v τ2 H2 ev rel2 r1 p => ?_
  split at p
  · rename_i t s3 ef
    obtain ⟨τ3, ev3, _, rel3, rp⟩ := RelR.frz rel2 ev r1 ef
    refine run1 (R1 := RTs M) ev3 rel3 p fun ts s4 vs τ4 H4 ev4 rel4 r4 p4 => ?_
    exact p4 (v :: vs) τ4 H4 (ev3.trans ev4) rel4 (.cons (rp.mono ev4.toKp) r4)
  · exact p.elim
theorem sa_cons (h : SE X e f) (hr : SA X es g) (hs : starEach (e :: es) X.env = (false, eval e X.env) :: starEach es X.env := by rfl) : SA X (e :: es) (aCons f g) := fun W tk =>
  PA.imp (pa_cons (h W tk) (hr W tk) hs) fun _ _ _ h => cons_run h

/-! ### displays -/
def eTup (g : S → R (List T)) : S → R Res := fun s => (g s).bind fun ts s => if szok ts.length = true then .ok (.val (.tup ts)) s else .stuck
def eLst (g : S → R (List T)) : S → R Res := fun s => (g s).bind fun ts s => if szok ts.length = true then .ok (.tmp (.lst ts)) s else .stuck
/-- a list held by reference -/
def eLstO (g : S → R (List T)) : S → R Res := fun s => (g s).bind fun ts s => if szok ts.length = true then .ok (.val (.obj s.ob.length)) ⟨s.sl, s.ob ++ [.ls ts]⟩ else .stuck
theorem se_tup {k : Nat} (h : SA X es g) : SE X (.Tuple es k pos) (eTup g) := fun W tk => PE.imp (pe_tup (h W tk)) fun σ H Q ⟨s, τ, rel, post⟩ =>
  run1 (R1 := RTs (Mx X)) (.refl _ _) rel post fun ts s2 vs τ2 H2 ev rel2 r1 p => by
    split at p
    · rename_i hz
      have hz := szok_le hz
      rw [Rps.length r1] at hz
      exact ⟨hz, fun n hn => (Post.out (b := false) p ev rel2).2 n _ hn ⟨rfl, vs, rfl, r1⟩⟩
    · exact p.elim
theorem se_lst (h : SA X es g) : SE X (.List es pos) (eLst g) := fun W tk => PE.imp (pe_lst (h W tk)) fun σ H Q ⟨s, τ, rel, post⟩ =>
  run1 (R1 := RTs (Mx X)) (.refl _ _) rel post fun ts s2 vs τ2 H2 ev rel2 r1 p => by
    split at p
    · rename_i hz
      have hz := szok_le hz
      rw [Rps.length r1] at hz
      exact ⟨hz, fun n hn => (Post.out (b := true) p ev rel2).2 n _ hn ⟨vs, rfl, r1⟩⟩
    · exact p.elim
/-- a new object held by reference -/
theorem Rel.newOb {s : S} {σ : L2.St} {τ : Tg} {H : Hp} {p : Addr} {o : HO} {ov : OV} (h : Rel M s τ σ H) (hp : H p = none) (ho : OvAt M (tset τ p (.ob s.ob.length)) (upd H p o) p s.ob.length ov) :
    Rel M ⟨s.sl, s.ob ++ [ov]⟩ (tset τ p (.ob s.ob.length)) σ (upd H p o) ∧ Evo τ H (tset τ p (.ob s.ob.length)) (upd H p o) := by
  have hh : ∀ a u, H a = some u → upd H p o a = some u ∧ tset τ p (.ob s.ob.length) a = τ a := fun a u q => ⟨by rw [upd_ne (ne_of_none q hp)]; exact q, tset_ne (ne_of_none q hp)⟩
  have ev := Evo.ext hh h.ro.al
  have old : ∀ a r, τ a = .ob r → a ≠ p ∧ r < s.ob.length := fun a r q => by
    obtain ⟨u, e, _⟩ := h.ro.at_ a r q
    refine ⟨fun z => ?_, (List.getElem?_eq_some_iff.mp e).1⟩
    subst z
    exact h.ro.al a (by rw [q]; simp) hp
  have cases_ : ∀ a r, tset τ p (.ob s.ob.length) a = .ob r → (a = p ∧ r = s.ob.length) ∨ (τ a = .ob r ∧ a ≠ p ∧ r < s.ob.length) := fun a r q => by
    by_cases e : a = p
    · subst e; rw [tset_same] at q; cases q; exact .inl ⟨rfl, rfl⟩
    · rw [tset_ne e] at q; exact .inr ⟨q, old a r q⟩
  refine ⟨⟨h.rs.kp ev.toKp fun a i t n => ?_, ⟨fun a r t => ?_, fun a b r ta tb => ?_, fun a t => ?_, h.ro.tb.mono (fun a q t => ?_) (fun a q t => ?_) ev.toKp (fun a q ps _ z => (hh a _ z).1) fun a ps e => ?_⟩⟩, ev⟩
  · obtain ⟨u, q⟩ := Option.ne_none_iff_exists'.mp n
    exact ⟨(hh a u q).2.trans t, (hh a u q).1.trans q.symm⟩
  · rcases cases_ a r t with ⟨rfl, rfl⟩ | ⟨q, ne, lt⟩
    · exact ⟨ov, by simp, ho⟩
    · obtain ⟨u, e, k⟩ := h.ro.at_ a r q
      exact ⟨u, by rw [List.getElem?_append_left lt]; exact e, k.kp ev.toKp (upd_ne ne)⟩
  · rcases cases_ a r ta with ⟨e0, e3⟩ | ⟨q, ne, lt⟩ <;> rcases cases_ b r tb with ⟨e1, e2⟩ | ⟨q', ne', lt'⟩
    · exact e0.trans e1.symm
    · omega
    · omega
    · exact h.ro.one a b r q q'
  · by_cases e : a = p
    · subst e; rw [upd_same]; simp
    · rw [tset_ne e] at t; rw [upd_ne e]; exact h.ro.al a t
  · rw [tset_ne fun z => by subst z; exact h.ro.al a (by rw [t]; simp) hp]; exact t
  · by_cases e : a = p
    · subst e; rw [tset_same] at t; cases t
    · rw [tset_ne e] at t
      exact t
  · by_cases e2 : a = p
    · subst e2; exact absurd e (ho.ntbl ps)
    · rw [upd_ne e2] at e; exact e
theorem se_lstO (h : SA X es g) : SE X (.List es pos) (eLstO g) := fun W tk => PE.imp (pe_lst (h W tk)) fun σ H Q ⟨s, τ, rel, post⟩ =>
  run1 (R1 := RTs (Mx X)) (.refl _ _) rel post fun ts s2 vs τ2 H2 ev rel2 r1 p => by
    split at p
    · rename_i hz
      have hz := szok_le hz
      rw [Rps.length r1] at hz
      refine ⟨hz, fun n hn => ?_⟩
      have ho : OvAt (Mx X) (tset τ2 n (.ob s2.ob.length)) (upd H2 n (.lst vs)) n s2.ob.length (.ls ts) := ⟨vs, upd_same, r1.mono (Evo.ext (fun a u q => ⟨by rw [upd_ne (ne_of_none q hn)]; exact q, tset_ne (ne_of_none q hn)⟩) rel2.ro.al).toKp⟩
      obtain ⟨r3, e3⟩ := rel2.newOb hn ho
      exact p (.ref n) _ _ (ev.trans e3) r3 (.obj tset_same)
    · exact p.elim
end

/-! ### items, slices -/
theorem atI_rps {M : Md} {τ : Tg} {H : Hp} {ts : List T} {vs : List V} {i : Int} {t : T} (h : Rps M τ H ts vs) (e : atI ts i = some t) : ∃ v, atI vs i = some v ∧ Rp M τ H t v := by
  unfold atI at e ⊢
  rw [h.length] at e
  cases q : ixN vs.length i with
  | none => rw [q] at e; cases e
  | some j => rw [q] at e; exact h.get e
def opIx : T → T → Option (Bool × T)
  | .lst ts, .int i => (atI ts i).map fun t => (false, t)
  | .tup ts, .int i => (atI ts i).map fun t => (false, t)
  | .str z, .int i => if szok z.length = true then (atI z.cps.toList i).map fun c => (false, .str ⟨#[c]⟩) else none
  | _, _ => none
theorem og_ix {M : Md} : OpG M (rIx M.K) opIx := by
  intro τ H tx ty x y b t Q hx hy hg g
  unfold opIx at hg
  split at hg
  · rename_i ts i
    obtain ⟨a, vs, rfl, e1, r1⟩ := hx.lst
    cases e : atI ts i with
    | none => rw [e] at hg; cases hg
    | some u =>
      rw [e] at hg
      cases hg
      obtain ⟨v, e2, e3⟩ := atI_rps r1 e
      exact .inl ⟨a, vs, i, v, rfl, hy.int, .inl (.inl e1), e2, g.1 rfl _ e3⟩
  · rename_i ts i
    obtain ⟨a, vs, rfl, e1, r1⟩ := hx.tup
    cases e : atI ts i with
    | none => rw [e] at hg; cases hg
    | some u =>
      rw [e] at hg
      cases hg
      obtain ⟨v, e2, e3⟩ := atI_rps r1 e
      exact .inr (.inl ⟨a, vs, i, v, rfl, hy.int, e1.sq, e2, g.1 rfl _ e3⟩)
  · rename_i z i
    split at hg
    · rename_i hz
      cases e : atI z.cps.toList i with
      | none => rw [e] at hg; cases hg
      | some u =>
        rw [e] at hg
        cases hg
        exact .inr (.inr ⟨z, i, u, hx.str, hy.int, szok_le hz, e, g.1 rfl _ (.str _)⟩)
    · cases hg
  · cases hg
section
variable {X : Cx} {a b : Expr} {fa fb : S → R Res} {pos : Pos}
theorem se_ix (ha : SE X a fa) (hb : SE X b fb) (hs : PlainIx b := by exact fun _ _ => rfl) : SE X (.Subscript a b pos) (eBin opIx fa fb) := fun W tk =>
  PE.imp (pe_ix ix_seq (ha W tk) (hb W tk) hs) fun _ _ _ h => bin_run og_ix h
end
def cutT {α : Type} (xs : List α) (lo hi : Option Int) : List α := (xs.drop (HT.sIx xs.length 0 lo)).take (HT.sIx xs.length xs.length hi - HT.sIx xs.length 0 lo)
theorem cut_rps {M : Md} {τ : Tg} {H : Hp} {ts : List T} {vs : List V} {lo hi : Option Int} (h : Rps M τ H ts vs) : Rps M τ H (cutT ts lo hi) (cutV vs lo hi) := by
  unfold cutT cutV
  rw [h.length]
  exact (h.drop _).take _
theorem cut_whole {α : Type} {xs : List α} {lo hi : Option Int} (h : HT.sIx xs.length 0 lo = 0 ∧ HT.sIx xs.length xs.length hi = xs.length) : cutT xs lo hi = xs := by
  unfold cutT
  rw [h.1, h.2, List.drop_zero, Nat.sub_zero, List.take_length]
def opCut (lo hi : Option Int) : T → Option (Bool × T)
  | .lst ts => some (true, .lst (cutT ts lo hi))
  | .tup ts => some (false, .tup (cutT ts lo hi))
  | .scr ns => some (true, .lst ((cutT ns lo hi).map T.int))
  | _ => none
/-- a part of a slice -/
def ROp : RRel (Option Int) (Option Int) := fun _ _ o _ _ _ p => p = o
theorem bOp : Bas ROp := fun _ _ _ _ _ _ _ _ _ _ _ h => h
def SO (X : Cx) (e : Option Expr) (f : S → R (Option Int)) : Prop := ∀ W, Takes X W → PO X e (tG (Mx X) ROp f W)
def oNone : S → R (Option Int) := fun s => .ok none s
def oSome (f : S → R Res) : S → R (Option Int) := fun s => (f s).bind fun r s => match peek s r with
  | some (.int i) => .ok (some i) s
  | _ => .stuck
def eCut (f : S → R Res) (lo hi : S → R (Option Int)) : S → R Res := fun s => (f s).bind fun r s => (lo s).bind fun l s => (hi s).bind fun h s => match peek s r with
  | some t => out1 (opCut l h t) s
  | none => .stuck
theorem PO.imp {X : Cx} {e : Option Expr} {t t' : TO} (h : PO X e t) (i : ∀ σ H Q, t' σ H Q → t σ H Q) : PO X e t' := ⟨fun pins s σ H Q I q => h.run pins s σ H Q I (i σ H Q q)⟩
section
variable {X : Cx} {e : Expr} {lo hi : Option Expr} {f : S → R Res} {g h : S → R (Option Int)} {pos p2 : Pos}
theorem so_none : SO X none oNone := fun W tk => PO.imp po_none fun σ H Q ⟨s, τ, rel, post⟩ => post none τ H (.refl _ _) rel rfl
theorem so_some (he : SE X e f) : SO X (some e) (oSome f) := fun W tk => PO.imp (po_some (he W tk)) fun σ H Q ⟨s, τ, rel, post⟩ =>
  run1 (.refl _ _) rel post fun x s2 v τ2 H2 ev rel2 r1 p => by
    split at p
    · rename_i i ex
      exact ⟨i, (RelR.isT rel2 r1 ex).int, p (some i) τ2 H2 ev rel2 rfl⟩
    · exact p.elim
theorem cut_scr {ns : List Int} {lo hi : Option Int} : cutV (ns.map V.int) lo hi = (cutT ns lo hi).map V.int := by
  unfold cutV cutT
  rw [List.length_map, List.map_take, List.map_drop]
theorem se_cut (he : SE X e f) (hl : SO X lo g) (hh : SO X hi h) : SE X (.Subscript e (.Slice lo hi none p2) pos) (eCut f g h) := fun W tk =>
  PE.imp (pe_slice (sl_list.or sl_tupA) (he W tk) (hl W tk) (hh W tk)) fun σ H Q ⟨s, τ, rel, post⟩ =>
    run1 (.refl _ _) rel post fun x s2 v τ2 H2 ev rel2 r1 p => run1 (R1 := ROp) ev rel2 p fun l s3 l' τ3 H3 ev3 rel3 r3 p3 => run1 (R1 := ROp) (ev.trans ev3) rel3 p3 fun u s4 u' τ4 H4 ev4 rel4 r4 p4 => by
      cases (show l' = l from r3)
      cases (show u' = u from r4)
      split at p4
      · rename_i t ex
        have hx := (RelR.later (s2 := s4) r1 (ev3.trans ev4)).isT rel4 ex
        have ev' := (ev.trans ev3).trans ev4
        unfold opCut at p4
        split at p4
        · rename_i ts
          obtain ⟨a, vs, rfl, e1, rr⟩ := hx.lst
          exact .inl ⟨a, vs, rfl, .inl (.inl e1), fun n hn => (Post.out (b := true) p4 ev' rel4).2 n _ hn ⟨_, rfl, cut_rps rr⟩⟩
        · rename_i ts
          obtain ⟨a, vs, rfl, e1, rr⟩ := hx.tup
          refine .inr ⟨a, vs, rfl, e1.sq, fun z => ?_, fun z n hn => (Post.out (b := false) p4 ev' rel4).2 n _ hn ⟨rfl, _, rfl, cut_rps rr⟩⟩
          refine (Post.out (b := false) p4 ev' rel4).1 rfl _ ?_
          rw [cut_whole (by rw [rr.length]; exact z)]
          exact .tup e1 rr
        · rename_i ns
          obtain ⟨a, rfl, e1⟩ := hx.scr
          exact .inl ⟨a, _, rfl, e1, fun n hn => (Post.out (b := true) p4 ev' rel4).2 n _ hn ⟨_, rfl, by rw [cut_scr]; exact Rps.ints _⟩⟩
        · exact p4.elim
      · exact p4.elim
end
end Sv

/-! Sv, part G: built-in calls, writing, methods of lists. -/
namespace Sv
open PySem PySem.Spec PyProof.Rows L2
variable [Tb]

/-! ### built-ins of one and of two arguments that are read -/
def CallG1 (M : Md) (r : List V → Hp → VK → Prop) (g : T → Option (Bool × T)) : Prop :=
  ∀ τ H tx x b t Q, IsT M τ H tx x → g tx = some (b, t) → Gives M τ H b t Q → r [x] H Q
def CallG2 (M : Md) (r : List V → Hp → VK → Prop) (g : T → T → Option (Bool × T)) : Prop :=
  ∀ τ H tx ty x y b t Q, IsT M τ H tx x → IsT M τ H ty y → g tx ty = some (b, t) → Gives M τ H b t Q → r [x, y] H Q
section
variable {X : Cx} {e e2 : Expr} {f f2 : S → R Res} {x : Str} {p pos : Pos} {id Ty : String} {r : List V → Hp → VK → Prop}
theorem call1_run {M : Md} {W : WX} {g : T → Option (Bool × T)} (hg : CallG1 M r g) {σ : L2.St} {H : Hp} {Q : VK} (h : tG M (RRes M) (eUn g f) W σ H Q) : tCB r (tCons (tG M (RRes M) f W) tNil) σ H Q :=
  un_run (r := fun x H Q => r [x] H Q) (fun τ H tx x b t Q a c d => hg τ H tx x b t Q a c d) h
theorem call2_run {M : Md} {W : WX} {g : T → T → Option (Bool × T)} (hg : CallG2 M r g) {σ : L2.St} {H : Hp} {Q : VK} (h : tG M (RRes M) (eBin g f f2) W σ H Q) : tCB r (tCons (tG M (RRes M) f W) (tCons (tG M (RRes M) f2 W) tNil)) σ H Q :=
  bin_run (r := fun x y H Q => r [x, y] H Q) (fun τ H tx ty x y b t Q a c d e => hg τ H tx ty x y b t Q a c d e) h
theorem se_callB1 {g : T → Option (Bool × T)} (hc : CallR X (.builtin id) r) (hg : CallG1 (Mx X) r g) (hG : Gl X x) (hm : X.mg x = none) (hv : bootBuiltins x = some (.builtin id)) (he : SE X e f) (hn : x ≠ "__name__" := by decide) (hdb : (x == ("__debug__" : Str)) = false := by decide)
    (hs : starEach [e] X.env = (false, eval e X.env) :: starEach [] X.env := by rfl) : SE X (.Call (.Name x p) [e] [] pos) (eUn g f) := fun W tk =>
  PE.imp (pe_callB hc hG hm hv (pa_cons (he W tk) pa_nil hs) hn hdb hs) fun _ _ _ h => call1_run hg h
theorem se_callT1 {g : T → Option (Bool × T)} (hc : CallR X (.type Ty) r) (hg : CallG1 (Mx X) r g) (hG : Gl X x) (hm : X.mg x = none) (hv : bootBuiltins x = some (.type Ty)) (he : SE X e f) (hn : x ≠ "__name__" := by decide) (hdb : (x == ("__debug__" : Str)) = false := by decide)
    (hs : starEach [e] X.env = (false, eval e X.env) :: starEach [] X.env := by rfl) : SE X (.Call (.Name x p) [e] [] pos) (eUn g f) := fun W tk =>
  PE.imp (pe_callTy hc hG hm hv (pa_cons (he W tk) pa_nil hs) hn hdb hs) fun _ _ _ h => call1_run hg h
theorem se_callB2 {g : T → T → Option (Bool × T)} (hc : CallR X (.builtin id) r) (hg : CallG2 (Mx X) r g) (hG : Gl X x) (hm : X.mg x = none) (hv : bootBuiltins x = some (.builtin id)) (he : SE X e f) (he2 : SE X e2 f2) (hn : x ≠ "__name__" := by decide) (hdb : (x == ("__debug__" : Str)) = false := by decide)
    (hs : starEach [e, e2] X.env = (false, eval e X.env) :: starEach [e2] X.env := by rfl) (hs2 : starEach [e2] X.env = (false, eval e2 X.env) :: starEach [] X.env := by rfl) (hpl : (backTo pos (starEach [e2] X.env)).any (·.1) = false := by rfl) : SE X (.Call (.Name x p) [e, e2] [] pos) (eBin g f f2) := fun W tk =>
  PE.imp (pe_callB hc hG hm hv (pa_cons (he W tk) (pa_cons (he2 W tk) pa_nil hs2) hs) hn hdb hs hpl) fun _ _ _ h => call2_run hg h
end
def opLen : T → Option (Bool × T)
  | .lst ts => some (false, .int ts.length)
  | .tup ts => some (false, .int ts.length)
  | .str z => if szok z.length = true then some (false, .int z.length) else none
  | .scr ns => some (false, .int ns.length)
  | _ => none
def opAbs : T → Option (Bool × T)
  | .int i => some (false, .int (if i < 0 then -i else i))
  | _ => none
def opInt : T → Option (Bool × T)
  | .int i => some (false, .int i)
  | .bl b => some (false, .int (if b then 1 else 0))
  | _ => none
def opList : T → Option (Bool × T)
  | .lst ts => some (true, .lst ts)
  | .tup ts => some (true, .lst ts)
  | .scr ns => some (true, .lst (ns.map T.int))
  | _ => none
def opTuple : T → Option (Bool × T)
  | .lst ts => some (false, .tup ts)
  | .tup ts => some (false, .tup ts)
  | _ => none
def opMax2 : T → T → Option (Bool × T)
  | .int i, .int j => some (false, .int (if j > i then j else i))
  | _, _ => none
def opMin2 : T → T → Option (Bool × T)
  | .int i, .int j => some (false, .int (if j < i then j else i))
  | _, _ => none
section
variable {M : Md}
theorem cg_len : CallG1 M (fun xs H Q => (∃ p ys, xs = [.ref p] ∧ (SqL M.K H p ys ∨ SqT M.K H p ys) ∧ Q (.int ys.length) H) ∨ (∃ z, xs = [.str z] ∧ z.length ≤ sizeLine ∧ Q (.int z.length) H)) opLen := by
  intro τ H tx x b t Q hx hg g
  unfold opLen at hg
  split at hg
  · cases hg
    obtain ⟨a, vs, rfl, e1, r1⟩ := hx.lst
    exact .inl ⟨a, vs, rfl, .inl (.inl (.inl e1)), by rw [← r1.length]; exact g.1 rfl _ (.int _)⟩
  · cases hg
    obtain ⟨a, vs, rfl, e1, r1⟩ := hx.tup
    exact .inl ⟨a, vs, rfl, .inr e1.sq, by rw [← r1.length]; exact g.1 rfl _ (.int _)⟩
  · split at hg <;> cases hg
    rename_i h
    exact .inr ⟨_, by rw [hx.str], szok_le h, g.1 rfl _ (.int _)⟩
  · cases hg
    obtain ⟨a, rfl, e1⟩ := hx.scr
    refine .inl ⟨a, _, rfl, .inl e1, ?_⟩
    have := g.1 rfl _ (.int _)
    simpa using this
  · cases hg
theorem cg_abs : CallG1 M (fun xs H Q => ∃ i, xs = [.int i] ∧ Q (.int (if i < 0 then -i else i)) H) opAbs := by
  intro τ H tx x b t Q hx hg g
  unfold opAbs at hg
  split at hg <;> cases hg
  exact ⟨_, by rw [hx.int], g.1 rfl _ (.int _)⟩
theorem cg_int : CallG1 M (fun xs H Q => (∃ i, xs = [.int i] ∧ Q (.int i) H) ∨ ∃ k, xs = [.bl k] ∧ Q (.int (if k then 1 else 0)) H) opInt := by
  intro τ H tx x b t Q hx hg g
  unfold opInt at hg
  split at hg <;> cases hg
  · exact .inl ⟨_, by rw [hx.int], g.1 rfl _ (.int _)⟩
  · exact .inr ⟨_, by rw [hx.bl], g.1 rfl _ (.int _)⟩
theorem cg_list : CallG1 M (fun xs H Q => ∃ p ys, xs = [.ref p] ∧ (SqL M.K H p ys ∨ SqT M.K H p ys) ∧ ∀ l, H l = none → Q (.ref l) (upd H l (.lst ys))) opList := by
  intro τ H tx x b t Q hx hg g
  unfold opList at hg
  split at hg <;> cases hg
  · obtain ⟨a, vs, rfl, e1, r1⟩ := hx.lst
    exact ⟨a, vs, rfl, .inl (.inl (.inl e1)), fun n hn => g.2 n _ hn ⟨_, rfl, r1⟩⟩
  · obtain ⟨a, vs, rfl, e1, r1⟩ := hx.tup
    exact ⟨a, vs, rfl, .inr e1.sq, fun n hn => g.2 n _ hn ⟨_, rfl, r1⟩⟩
  · obtain ⟨a, rfl, e1⟩ := hx.scr
    exact ⟨a, _, rfl, .inl e1, fun n hn => g.2 n _ hn ⟨_, rfl, Rps.ints _⟩⟩
theorem cg_tuple : CallG1 M (fun xs H Q => ∃ p ys, xs = [.ref p] ∧ ((SqL M.K H p ys ∧ ∀ l, H l = none → Q (.ref l) (upd H l (.tup ys))) ∨ (SqT M.K H p ys ∧ Q (.ref p) H))) opTuple := by
  intro τ H tx x b t Q hx hg g
  unfold opTuple at hg
  split at hg <;> cases hg
  · obtain ⟨a, vs, rfl, e1, r1⟩ := hx.lst
    exact ⟨a, vs, rfl, .inl ⟨.inl (.inl e1), fun n hn => g.2 n _ hn ⟨rfl, _, rfl, r1⟩⟩⟩
  · obtain ⟨a, vs, rfl, e1, r1⟩ := hx.tup
    exact ⟨a, vs, rfl, .inr ⟨e1.sq, g.1 rfl _ (.tup e1 r1)⟩⟩
theorem cg_max2 : CallG2 M (fun xs H Q => ∃ i j, xs = [.int i, .int j] ∧ Q (.int (if j > i then j else i)) H) opMax2 := by
  intro τ H tx ty x y b t Q hx hy hg g
  unfold opMax2 at hg
  split at hg <;> cases hg
  exact ⟨_, _, by rw [hx.int, hy.int], g.1 rfl _ (.int _)⟩
theorem cg_min2 : CallG2 M (fun xs H Q => ∃ i j, xs = [.int i, .int j] ∧ Q (.int (if j < i then j else i)) H) opMin2 := by
  intro τ H tx ty x y b t Q hx hy hg g
  unfold opMin2 at hg
  split at hg <;> cases hg
  exact ⟨_, _, by rw [hx.int, hy.int], g.1 rfl _ (.int _)⟩
end
section
variable {X : Cx} {e e2 : Expr} {f f2 : S → R Res} {p pos : Pos}
theorem se_len (hG : Gl X "len") (hm : X.mg "len" = none) (he : SE X e f) (hs : starEach [e] X.env = (false, eval e X.env) :: starEach [] X.env := by rfl) : SE X (.Call (.Name "len" p) [e] [] pos) (eUn opLen f) :=
  se_callB1 (call_len_seq.or call_len_str) cg_len hG hm PySem.boot_len he (by decide) (by decide) hs
theorem se_abs (hG : Gl X "abs") (hm : X.mg "abs" = none) (he : SE X e f) (hs : starEach [e] X.env = (false, eval e X.env) :: starEach [] X.env := by rfl) : SE X (.Call (.Name "abs" p) [e] [] pos) (eUn opAbs f) :=
  se_callB1 call_abs cg_abs hG hm (by decide +kernel) he (by decide) (by decide) hs
theorem se_intc (hG : Gl X "int") (hm : X.mg "int" = none) (he : SE X e f) (hs : starEach [e] X.env = (false, eval e X.env) :: starEach [] X.env := by rfl) : SE X (.Call (.Name "int" p) [e] [] pos) (eUn opInt f) :=
  se_callT1 call_int1 cg_int hG hm (by decide +kernel) he (by decide) (by decide) hs
theorem se_listc (hG : Gl X "list") (hm : X.mg "list" = none) (he : SE X e f) (hs : starEach [e] X.env = (false, eval e X.env) :: starEach [] X.env := by rfl) : SE X (.Call (.Name "list" p) [e] [] pos) (eUn opList f) :=
  se_callT1 call_list_of cg_list hG hm (by decide +kernel) he (by decide) (by decide) hs
theorem se_tuplec (hG : Gl X "tuple") (hm : X.mg "tuple" = none) (he : SE X e f) (hs : starEach [e] X.env = (false, eval e X.env) :: starEach [] X.env := by rfl) : SE X (.Call (.Name "tuple" p) [e] [] pos) (eUn opTuple f) :=
  se_callT1 call_tuple_of cg_tuple hG hm (by decide +kernel) he (by decide) (by decide) hs
theorem se_max2 {k : Nat} (rm : Rm X k) (hG : Gl X "max") (hm : X.mg "max" = none) (he : SE X e f) (he2 : SE X e2 f2) (hs : starEach [e, e2] X.env = (false, eval e X.env) :: starEach [e2] X.env := by rfl) (hs2 : starEach [e2] X.env = (false, eval e2 X.env) :: starEach [] X.env := by rfl) (hpl : (backTo pos (starEach [e2] X.env)).any (·.1) = false := by rfl) :
    SE X (.Call (.Name "max" p) [e, e2] [] pos) (eBin opMax2 f f2) := se_callB2 (call_max2 rm.calm) cg_max2 hG hm (by decide +kernel) he he2 (by decide) (by decide) hs hs2 hpl
theorem se_min2 {k : Nat} (rm : Rm X k) (hG : Gl X "min") (hm : X.mg "min" = none) (he : SE X e f) (he2 : SE X e2 f2) (hs : starEach [e, e2] X.env = (false, eval e X.env) :: starEach [e2] X.env := by rfl) (hs2 : starEach [e2] X.env = (false, eval e2 X.env) :: starEach [] X.env := by rfl) (hpl : (backTo pos (starEach [e2] X.env)).any (·.1) = false := by rfl) :
    SE X (.Call (.Name "min" p) [e, e2] [] pos) (eBin opMin2 f f2) := se_callB2 (call_min2 rm.calm) cg_min2 hG hm (by decide +kernel) he he2 (by decide) (by decide) hs hs2 hpl
end

/-! ### writing -/
/-- the container at a place, written -/
def wr (s : S) (r : Res) (t : T) : Option S := match r with
  | .plc i => match s.sl[i]? with
    | some (some (true, _)) => some ⟨s.sl.set i (some (true, t)), s.ob⟩
    | some (some (false, .obj k)) => match t with
      | .lst ts => if k < s.ob.length then some ⟨s.sl, s.ob.set k (.ls ts)⟩ else none
      | _ => none
    | _ => none
  | .val (.obj k) => match t with
    | .lst ts => if k < s.ob.length then some ⟨s.sl, s.ob.set k (.ls ts)⟩ else none
    | _ => none
  | _ => none
section
variable {M : Md} {σ : L2.St} {H H0 H1 H2 : Hp} {τ τ0 τ1 τ2 : Tg} {s s1 s2 : S} {r : Res} {v : V} {t : T}
theorem Evo.write {a : Addr} {o : HO} (ev : Evo τ0 H0 τ H) (h1 : τ a ≠ .free) (h2 : τ a ≠ .frz) : Evo τ0 H0 τ (upd H a o) := by
  refine ⟨⟨fun b u q t => ?_, ev.ob⟩, fun b u q t => ?_, fun b q => ?_, ev.sl⟩
  · obtain ⟨t1, q1⟩ := ev.fz b u q t
    have e : b ≠ a := fun z => h2 (z ▸ t1)
    exact ⟨t1, by rw [upd_ne e]; exact q1⟩
  · obtain ⟨t1, q1⟩ := ev.fr b u q t
    have e : b ≠ a := fun z => h1 (z ▸ t1)
    exact ⟨t1, by rw [upd_ne e]; exact q1⟩
  · by_cases e : b = a
    · rw [e, upd_same]; simp
    · rw [upd_ne e]; exact ev.th b q
theorem codeO_lst {c : Addr} {q : Str} {vs : List V} : LamX.CodeO c q ≠ .lst vs := fun z => by
  unfold LamX.CodeO at z
  cases z
/-- what leans on an address of one's own that is written -/
theorem RelO.write {ob : List OV} {a : Addr} {o o0 : HO} (h : RelO M ob τ H) (ha : H a = some o0) (hno : ∀ c q, LamX.CodeO c q ≠ o0) (h1 : τ a ≠ .free) (h2 : τ a ≠ .frz) (hq : ∀ q, τ a ≠ .tb q) (hob : ∀ k, τ a ≠ .ob k) (hot : ∀ ps, o ≠ .tbl ps) : RelO M ob τ (upd H a o) := by
  have kp : Kp τ H τ (upd H a o) := (Evo.write (Evo.refl τ H) h1 h2).toKp
  refine ⟨fun b k hb' => ?_, h.one, fun b hb' => ?_, h.tb.mono (fun _ _ t => t) (fun _ _ t => t) kp (fun b q ps hb' z => ?_) fun b ps e => ?_⟩
  · obtain ⟨o', e1, e2⟩ := h.at_ b k hb'
    exact ⟨o', e1, e2.kp kp (upd_ne fun z => hob k (z ▸ hb'))⟩
  · by_cases e : b = a
    · rw [e, upd_same]; simp
    · rw [upd_ne e]; exact h.al b hb'
  · have e : b ≠ a := fun z => hq q (z ▸ hb')
    rw [upd_ne e]; exact z
  · by_cases e2 : b = a
    · subst e2; rw [upd_same] at e; exact absurd (Option.some.inj e) (hot ps)
    · rw [upd_ne e2] at e; exact e
theorem wr_slot {a : Addr} {o : HO} {vs0 : List V} {i : Nat} (rel : Rel M s τ σ H) (hi : s.sl[i]? = some (some (true, t1))) (hs : σ[i]? = some (some (.ref a))) (ht : τ a = .slot i) (hn : H a = some (.lst vs0))
    (hb : Box M τ (upd H a o) a t) : Rel M ⟨s.sl.set i (some (true, t)), s.ob⟩ τ σ (upd H a o) := by
  have kp : Kp τ H τ (upd H a o) := (Evo.write (Evo.refl τ H) (by rw [ht]; simp) (by rw [ht]; simp)).toKp
  refine ⟨⟨by rw [List.length_set]; exact rel.rs.len, fun j b t' q => ?_⟩, rel.ro.write hn (fun _ _ => codeO_lst) (by rw [ht]; simp) (by rw [ht]; simp) (by rw [ht]; simp) (by rw [ht]; simp) fun ps z => hb.ntbl ps (by rw [upd_same, z])⟩
  by_cases hj : j = i
  · subst hj
    have hlt : j < s.sl.length := (List.getElem?_eq_some_iff.mp hi).1
    rw [List.getElem?_set_self hlt] at q
    cases q
    exact ⟨_, hs, a, rfl, ht, hb⟩
  · rw [List.getElem?_set_ne (Ne.symm hj)] at q
    obtain ⟨v', e1, e2⟩ := rel.rs.at_ j b t' q
    refine ⟨v', e1, e2.kp kp fun b' hb' _ => ⟨hb', upd_ne fun z => ?_⟩⟩
    subst z
    rw [ht] at hb'
    cases hb'
    exact hj rfl
theorem wr_ob {a : Addr} {o : HO} {vs0 : List V} {k : Nat} {ov : OV} (rel : Rel M s τ σ H) (hk : k < s.ob.length) (ht : τ a = .ob k) (hn : H a = some (.lst vs0))
    (hb : OvAt M τ (upd H a o) a k ov) : Rel M ⟨s.sl, s.ob.set k ov⟩ τ σ (upd H a o) := by
  have kp : Kp τ H τ (upd H a o) := (Evo.write (Evo.refl τ H) (by rw [ht]; simp) (by rw [ht]; simp)).toKp
  refine ⟨rel.rs.kp kp fun b i hb' _ => ⟨hb', upd_ne fun z => by subst z; rw [ht] at hb'; cases hb'⟩, ⟨fun b j hb' => ?_, rel.ro.one, fun b hb' => ?_, rel.ro.tb.mono (fun _ _ t => t) (fun _ _ t => t) kp (fun b q ps hq z => ?_) fun b ps e => ?_⟩⟩
  · by_cases hj : j = k
    · subst hj
      have e := rel.ro.one a b j ht hb'
      subst e
      exact ⟨ov, by simp [hk], hb⟩
    · obtain ⟨o', h1, h2⟩ := rel.ro.at_ b j hb'
      have e : b ≠ a := fun z => by subst z; rw [ht] at hb'; cases hb'; exact hj rfl
      exact ⟨o', by rw [List.getElem?_set_ne (Ne.symm hj)]; exact h1, h2.kp kp (upd_ne e)⟩
  · by_cases e : b = a
    · rw [e, upd_same]; simp
    · rw [upd_ne e]; exact rel.ro.al b hb'
  · have e : b ≠ a := fun z => by subst z; rw [ht] at hq; cases hq
    rw [upd_ne e]; exact z
  · by_cases e2 : b = a
    · subst e2; exact absurd e (hb.ntbl ps)
    · rw [upd_ne e2] at e; exact e
/-- a list at a place is written -/
theorem wr_lst {ts : List T} {s' : S} (rel : Rel M s τ σ H) (ev : Evo τ0 H0 τ H) (h : RelR M σ H1 r s τ H v) (w : wr s r (.lst ts) = some s') :
    ∃ a vs0, v = .ref a ∧ H a = some (.lst vs0) ∧ (∀ ts0, peek s r = some (.lst ts0) → Rps M τ H ts0 vs0) ∧
      ∀ vs, Rps M τ H ts vs → Rel M s' τ σ (upd H a (.lst vs)) ∧ Evo τ0 H0 τ (upd H a (.lst vs)) ∧ Kp τ H τ (upd H a (.lst vs)) := by
  have pk : ∀ {a vs0 ts0}, v = .ref a → H a = some (.lst vs0) → peek s r = some (.lst ts0) → Rps M τ H ts0 vs0 := fun {a vs0 ts0} e1 e2 p => by
    obtain ⟨a', vs', q1, q2, q3⟩ := (h.isT rel p).lst
    rw [e1] at q1
    cases q1
    rw [e2] at q2
    cases q2
    exact q3
  have onOb : ∀ k, Rp M τ H (.obj k) v → k < s.ob.length → s' = ⟨s.sl, s.ob.set k (.ls ts)⟩ → ∃ a vs0, v = .ref a ∧ H a = some (.lst vs0) ∧ (∀ ts0, peek s r = some (.lst ts0) → Rps M τ H ts0 vs0) ∧
      ∀ vs, Rps M τ H ts vs → Rel M s' τ σ (upd H a (.lst vs)) ∧ Evo τ0 H0 τ (upd H a (.lst vs)) ∧ Kp τ H τ (upd H a (.lst vs)) := fun k hk lt e => by
    subst e
    cases hk with
    | @obj _ a hk =>
      obtain ⟨o, h1, h2⟩ := rel.ro.at_ a k hk
      cases o with
      | ls ts0 =>
        obtain ⟨vs0, h3, h4⟩ := h2
        have kp := fun vs => (Evo.write (o := .lst vs) (Evo.refl τ H) (a := a) (by rw [hk]; simp) (by rw [hk]; simp)).toKp
        exact ⟨a, vs0, rfl, h3, fun ts0 p => pk rfl h3 p, fun vs hv => ⟨wr_ob rel lt hk h3 ⟨vs, upd_same, hv.mono (kp vs)⟩, ev.write (by rw [hk]; simp) (by rw [hk]; simp), kp vs⟩⟩
  unfold wr at w
  cases r with
  | tmp t => simp at w
  | plc i =>
    simp only at w
    split at w
    · rename_i t0 hi
      cases w
      obtain ⟨v', e1, e2⟩ := rel.rs.at_ i true t0 hi
      have h' : σ[i]? = some (some v) := h
      rw [h'] at e1
      cases e1
      obtain ⟨a, rfl, h2, h3⟩ := e2
      cases t0 <;> first | exact h3.elim | skip
      obtain ⟨vs0, h4, h5⟩ := h3.lst
      have kp := fun vs => (Evo.write (o := .lst vs) (Evo.refl τ H) (a := a) (by rw [h2]; simp) (by rw [h2]; simp)).toKp
      exact ⟨a, vs0, rfl, h4, fun ts0 p => pk rfl h4 p, fun vs hv => ⟨wr_slot rel hi h' h2 h4 ⟨vs, upd_same, hv.mono (kp vs)⟩, ev.write (by rw [h2]; simp) (by rw [h2]; simp), kp vs⟩⟩
    · rename_i k hi
      split at w
      · rename_i lt
        cases w
        obtain ⟨v', e1, e2⟩ := rel.rs.at_ i false _ hi
        have h' : σ[i]? = some (some v) := h
        rw [h'] at e1
        cases e1
        exact onOb k e2 lt rfl
      · cases w
    · cases w
  | val t =>
    cases t with
    | obj k =>
      simp only at w
      split at w
      · rename_i lt
        cases w
        exact onOb k h lt rfl
      · cases w
    | _ => cases w
end

/-! ### methods of lists -/
def isL (o : Option T) : Bool := match o with
  | some (.lst _) => true
  | _ => false
/-- x.append(e) -/
def eApp (f g : S → R Res) : S → R Res := fun s => (f s).bind fun r s => if isL (peek s r) = true then (g s).bind fun q s => match frz s q with
  | some (t, s) => (match peek s r with
    | some (.lst ts) => if szok (ts.length + 1) = true then (match wr s r (.lst (ts ++ [t])) with
      | some s => .ok (.val .non) s
      | none => .stuck) else .stuck
    | _ => .stuck)
  | none => .stuck else .stuck
/-- x.pop() -/
def ePop (f : S → R Res) : S → R Res := fun s => (f s).bind fun r s => match peek s r with
  | some (.lst ts) => (match ts[ts.length - 1]?, wr s r (.lst ts.dropLast) with
    | some t, some s => .ok (.val t) s
    | _, _ => .stuck)
  | _ => .stuck
/-- x.pop(e) -/
def ePopAt (f g : S → R Res) : S → R Res := fun s => (f s).bind fun r s => if isL (peek s r) = true then (g s).bind fun q s => match peek s r, peek s q with
  | some (.lst ts), some (.int i) => if -9223372036854775808 ≤ i ∧ i < 9223372036854775808 then (match seqIndex? i ts.length with
    | some k => (match ts[k]?, wr s r (.lst (ts.eraseIdx k)) with
      | some t, some s => .ok (.val t) s
      | _, _ => .stuck)
    | none => .stuck) else .stuck
  | _, _ => .stuck else .stuck
section
variable {M : Md} {σ : L2.St} {H H0 H1 H2 : Hp} {τ τ0 τ1 τ2 : Tg} {s s1 s2 : S} {r : Res} {v : V} {t : T}
theorem isL_ty (rel : Rel M s τ σ H) (h : RelR M σ H1 r s τ H v) (p : isL (peek s r) = true) : tyV M.K "list" v H := by
  unfold isL at p
  split at p
  · rename_i ts e
    obtain ⟨a, vs, rfl, e1, r1⟩ := (h.isT rel e).lst
    exact .inl ⟨rfl, vs, .inl (.inl e1)⟩
  · cases p
theorem Rps.dropLast : ∀ {ts : List T} {vs : List V}, Rps M τ H ts vs → Rps M τ H ts.dropLast vs.dropLast
  | _, _, .nil => .nil
  | _, _, .cons r .nil => .nil
  | _, _, .cons r (.cons q t) => .cons r (Rps.dropLast (.cons q t))
theorem Rps.eraseIdx : ∀ {ts : List T} {vs : List V} (k : Nat), Rps M τ H ts vs → Rps M τ H (ts.eraseIdx k) (vs.eraseIdx k)
  | _, _, _, .nil => .nil
  | _, _, 0, .cons _ t => t
  | _, _, k + 1, .cons r t => .cons r (Rps.eraseIdx k t)
end
section
variable {X : Cx} {o e : Expr} {f g : S → R Res} {apos cpos : Pos}
theorem se_append (ho : SE X o f) (he : SE X e g) (hbase : attributeBase o "append" X.env (eval o X.env) = eval o X.env := by rfl)
    (hfew : ((backTo cpos (starEach [e] X.env)).all (fun x => !x.1) && (backToKw cpos (keywordEach [] X.env)).all (fun x => x.1.isSome)
      && decide ([e].length + ([] : List Keyword).length + (if ([] : List Keyword).isEmpty then 0 else 1) < 30)) = true := by rfl)
    (hline : (apos.endLine == cpos.line) = true := by rfl) (hs : starEach [e] X.env = (false, eval e X.env) :: starEach [] X.env := by rfl) (hplain : (backTo cpos (starEach [] X.env)).any (·.1) = false := by rfl) :
    SE X (.Call (.Attribute o "append" apos) [e] [] cpos) (eApp f g) := fun W tk =>
  PE.imp (pe_bm PySem.F.plainAttrs_list PySem.F.slot_list_append PySem.F.type_list_append mt_append (ho W tk) (pa_cons (he W tk) pa_nil hs) hbase hfew hline hs hplain) fun σ H Q ⟨s, τ, rel, post⟩ =>
    run1 (.refl _ _) rel post fun r s2 v τ2 H2 ev rel2 r1 p => by
      split at p
      · rename_i hl
        refine ⟨isL_ty rel2 r1 hl, ?_⟩
        refine run1 (R1 := RRes (Mx X)) ev rel2 p fun q s3 w τ3 H3 ev3 rel3 r3 p3 => ?_
        split at p3
        · rename_i t s4 ef
          obtain ⟨τ4, ev4, kp4, rel4, rp⟩ := RelR.frz rel3 ev3 r3 ef
          have r4 := RelR.later (s2 := s4) r1 ev4
          split at p3
          · rename_i ts ep
            split at p3
            · rename_i hz
              split at p3
              · rename_i s5 ew
                obtain ⟨a, vs0, rfl, h1, h2, h3⟩ := wr_lst rel4 (ev.trans ev4) r4 ew
                have rs := h2 ts ep
                obtain ⟨rel5, ev5, kp5⟩ := h3 (vs0 ++ [w]) (rs.append (.cons rp .nil))
                refine ⟨a, vs0, w, rfl, rfl, h1, ?_, p3 .non _ _ ev5 rel5 .non⟩
                have hz := szok_le hz
                rw [rs.length] at hz
                omega
              · exact p3.elim
            · exact p3.elim
          · exact p3.elim
        · exact p3.elim
      · exact p.elim
theorem se_pop (ho : SE X o f) (hbase : attributeBase o "pop" X.env (eval o X.env) = eval o X.env := by rfl) (hline : (apos.endLine == cpos.line) = true := by rfl) :
    SE X (.Call (.Attribute o "pop" apos) [] [] cpos) (ePop f) := fun W tk =>
  PE.imp (pe_bm0 PySem.F.plainAttrs_list PySem.F.slot_list_pop PySem.F.type_list_pop mt_pop (ho W tk) hbase hline) fun σ H Q ⟨s, τ, rel, post⟩ =>
    run1 (.refl _ _) rel post fun r s2 v τ2 H2 ev rel2 r1 p => by
      split at p
      · rename_i ts ep
        split at p
        · rename_i t s3 et ew
          obtain ⟨a, vs0, rfl, h1, h2, h3⟩ := wr_lst rel2 ev r1 ew
          have rs := h2 ts ep
          obtain ⟨v, e1, e2⟩ := rs.get et
          obtain ⟨rel5, ev5, kp5⟩ := h3 vs0.dropLast rs.dropLast
          exact ⟨.inl ⟨rfl, vs0, .inl (.inl h1)⟩, a, vs0, v, rfl, rfl, h1, by rw [← rs.length]; exact e1, p v _ _ ev5 rel5 (e2.mono kp5)⟩
        · exact p.elim
      · exact p.elim
theorem se_popAt (ho : SE X o f) (he : SE X e g) (hbase : attributeBase o "pop" X.env (eval o X.env) = eval o X.env := by rfl)
    (hfew : ((backTo cpos (starEach [e] X.env)).all (fun x => !x.1) && (backToKw cpos (keywordEach [] X.env)).all (fun x => x.1.isSome)
      && decide ([e].length + ([] : List Keyword).length + (if ([] : List Keyword).isEmpty then 0 else 1) < 30)) = true := by rfl)
    (hline : (apos.endLine == cpos.line) = true := by rfl) (hs : starEach [e] X.env = (false, eval e X.env) :: starEach [] X.env := by rfl) (hplain : (backTo cpos (starEach [] X.env)).any (·.1) = false := by rfl) :
    SE X (.Call (.Attribute o "pop" apos) [e] [] cpos) (ePopAt f g) := fun W tk =>
  PE.imp (pe_bm PySem.F.plainAttrs_list PySem.F.slot_list_pop PySem.F.type_list_pop mt_popAt (ho W tk) (pa_cons (he W tk) pa_nil hs) hbase hfew hline hs hplain) fun σ H Q ⟨s, τ, rel, post⟩ =>
    run1 (.refl _ _) rel post fun r s2 v τ2 H2 ev rel2 r1 p => by
      split at p
      · rename_i hl
        refine ⟨isL_ty rel2 r1 hl, ?_⟩
        refine run1 (R1 := RRes (Mx X)) ev rel2 p fun q s3 w τ3 H3 ev3 rel3 r3 p3 => ?_
        split at p3
        · rename_i ts i ep eq
          have r4 := RelR.later (s2 := s3) r1 ev3
          split at p3
          · rename_i hi
            split at p3
            · rename_i k ek
              split at p3
              · rename_i t s4 et ew
                obtain ⟨a, vs0, rfl, h1, h2, h3⟩ := wr_lst rel3 (ev.trans ev3) r4 ew
                have rs := h2 ts ep
                obtain ⟨v, e1, e2⟩ := rs.get et
                obtain ⟨rel5, ev5, kp5⟩ := h3 (vs0.eraseIdx k) (rs.eraseIdx k)
                exact ⟨a, vs0, i, k, v, rfl, by rw [(RelR.isT rel3 r3 eq).int], h1, by omega, by omega, by rw [← rs.length]; exact ek, e1, p3 v _ _ ev5 rel5 (e2.mono kp5)⟩
              · exact p3.elim
            · exact p3.elim
          · exact p3.elim
        · exact p3.elim
      · exact p.elim
end
end Sv

/-! Sv, part H: statements. -/
namespace Sv
open PySem PySem.Spec PyProof.Rows L2
variable [Tb]

inductive RS where
  | nxt (s : S) | ret (b : Bool) (t : T) (ob : List OV) | brk (s : S) | cnt (s : S) | exc (c : Str) (s : S) | stuck
@[reducible] def R.bindS {α : Type} (m : R α) (k : α → S → RS) : RS := match m with
  | .ok a s => k a s
  | .exc c s => .exc c s
  | .stuck => .stuck
def RetV (M : Md) (τ : Tg) (H H0 : Hp) (b : Bool) (t : T) (v : V) : Prop :=
  if b = true then ∃ a, v = .ref a ∧ ((τ a = .free ∧ H0 a = none) ∨ ∃ i, τ a = .slot i) ∧ Box M τ H a t else Rp M τ H t v
def PostS (M : Md) (τ0 : Tg) (H0 : Hp) (m : RS) (D : Ends) (W : WX) : Prop := match m with
  | .nxt s => ∀ σ' τ' H', Evo τ0 H0 τ' H' → Rel M s τ' σ' H' → D.nx σ' H'
  | .brk s => ∀ σ' τ' H', Evo τ0 H0 τ' H' → Rel M s τ' σ' H' → D.bk σ' H'
  | .cnt s => ∀ σ' τ' H', Evo τ0 H0 τ' H' → Rel M s τ' σ' H' → D.ct σ' H'
  | .ret b t ob => ∀ v τ' H', Evo τ0 H0 τ' H' → RelO M ob τ' H' → RetV M τ' H' H0 b t v → D.rt v H'
  | .exc c s => ∀ C d σ' τ' H', M.mg c = some (.ref C) → Evo τ0 H0 τ' H' → Rel M s τ' σ' H' → W (.ref C) d σ' H'
  | .stuck => False
def tS (M : Md) (g : S → RS) (W : WX) : TS := fun D σ H => ∃ s τ, Rel M s τ σ H ∧ PostS M τ H (g s) D W
def SS (X : Cx) (st : Stmt) (g : S → RS) : Prop := ∀ W, Takes X W → PS X st (tS (Mx X) g W)
def SSs (X : Cx) (st : List Stmt) (g : S → RS) : Prop := ∀ W, Takes X W → PSs X st (tS (Mx X) g W)
theorem PS.imp {X : Cx} {e : Stmt} {t t' : TS} (h : PS X e t) (i : ∀ D σ H, t' D σ H → t D σ H) : PS X e t' := ⟨fun pins s σ H D I q => h.run pins s σ H D I (i D σ H q)⟩
theorem PSs.imp {X : Cx} {e : List Stmt} {t t' : TS} (h : PSs X e t) (i : ∀ D σ H, t' D σ H → t D σ H) : PSs X e t' := ⟨fun pins s σ H D I q => h.run pins s σ H D I (i D σ H q)⟩
section
variable {M : Md} {σ : L2.St} {H H0 H1 H2 : Hp} {τ τ0 τ1 τ2 : Tg} {s s1 s2 : S} {r : Res} {v : V} {t : T} {W : WX} {D : Ends}
theorem RetV.base {b : Bool} (e : Evo τ0 H0 τ1 H1) (h : RetV M τ H H1 b t v) : RetV M τ H H0 b t v := by
  cases b with
  | true =>
    obtain ⟨a, e1, e2, e3⟩ := h
    exact ⟨a, e1, e2.elim (fun z => .inl ⟨z.1, e.back z.2⟩) .inr, e3⟩
  | false => exact h
theorem PostS.shift {m : RS} (h : PostS M τ0 H0 m D W) (e : Evo τ0 H0 τ1 H1) : PostS M τ1 H1 m D W := by
  cases m with
  | nxt s => exact fun σ' τ' H' ev rel => h σ' τ' H' (e.trans ev) rel
  | brk s => exact fun σ' τ' H' ev rel => h σ' τ' H' (e.trans ev) rel
  | cnt s => exact fun σ' τ' H' ev rel => h σ' τ' H' (e.trans ev) rel
  | ret b t ob => exact fun v τ' H' ev rel rv => h v τ' H' (e.trans ev) rel (rv.base e)
  | exc c s => exact fun C d σ' τ' H' hc ev rel => h C d σ' τ' H' hc (e.trans ev) rel
  | stuck => exact h
theorem PostS.next {γ δ : Type} {RR : RRel γ δ} {m : R γ} {k : γ → S → RS} {Q' : δ → Hp → Prop} (e : Evo τ0 H0 τ1 H1) (h : PostS M τ0 H0 (m.bindS k) D W)
    (hk : ∀ r s v τ' H', Evo τ1 H1 τ' H' → Rel M s τ' σ H' → RR σ H1 r s τ' H' v → PostS M τ0 H0 (k r s) D W → Q' v H') : Post M RR σ τ1 H1 m Q' W := by
  cases m with
  | ok r s => exact fun v τ' H' ev rel rr => hk r s v τ' H' ev rel rr h
  | exc c s => exact fun C d τ' H' hc ev rel => h C d σ τ' H' hc (e.trans ev) rel
  | stuck => exact h
/-- one expression of a statement -/
theorem runS {γ δ : Type} {R1 : RRel γ δ} {f : S → R γ} {k : γ → S → RS} {C : δ → Hp → Prop} (ev : Evo τ0 H0 τ1 H1) (rel : Rel M s τ1 σ H1) (post : PostS M τ0 H0 ((f s).bindS k) D W)
    (hk : ∀ x s2 v τ2 H2, Evo τ1 H1 τ2 H2 → Rel M s2 τ2 σ H2 → R1 σ H1 x s2 τ2 H2 v → PostS M τ0 H0 (k x s2) D W → C v H2) : tG M R1 f W σ H1 C := ⟨s, τ1, rel, post.next ev hk⟩
/-- a slot is set -/
theorem Rel.set {i : Nat} {b : Bool} (rel : Rel M s τ σ H) (h : VAt M τ H (.slot i) b t v) : Rel M ⟨s.sl.set i (some (b, t)), s.ob⟩ τ (σ.set i (some v)) H := by
  refine ⟨⟨by rw [List.length_set, List.length_set]; exact rel.rs.len, fun j b' t' q => ?_⟩, rel.ro⟩
  by_cases hj : j = i
  · subst hj
    by_cases hlt : j < s.sl.length
    · rw [List.getElem?_set_self hlt] at q
      cases q
      exact ⟨v, by rw [List.getElem?_set_self (by rw [rel.rs.len]; exact hlt)], h⟩
    · rw [List.getElem?_eq_none (by rw [List.length_set]; omega)] at q
      cases q
  · rw [List.getElem?_set_ne (Ne.symm hj)] at q
    obtain ⟨v', e1, e2⟩ := rel.rs.at_ j b' t' q
    exact ⟨v', by rw [List.getElem?_set_ne (Ne.symm hj)]; exact e1, e2⟩
/-- a new container is taken by a slot -/
theorem own_at {a : Addr} {i : Nat} (rel : Rel M s τ σ H) (ev : Evo τ0 H0 τ H) (hb : Box M τ H a t) (h1 : τ a = .free) (h2 : H0 a = none) :
    ∃ τ', Evo τ0 H0 τ' H ∧ Kp τ H τ' H ∧ Rel M s τ' σ H ∧ OwnAt M τ' H (.slot i) t (.ref a) ∧ (∀ b, b ≠ a → τ' b = τ b) := by
  have kp : Kp τ H (tset τ a (.slot i)) H := ⟨fun b o q h => by
    by_cases e : b = a
    · subst e; rw [h1] at h; cases h
    · exact ⟨by rw [tset_ne e]; exact h, q⟩, fun b r h => by
    by_cases e : b = a
    · subst e; rw [h1] at h; cases h
    · rw [tset_ne e]; exact h⟩
  refine ⟨tset τ a (.slot i), ⟨ev.toKp.trans kp, fun b o q h => ?_, ev.th, fun b j h => ?_⟩, kp, ⟨rel.rs.kp kp fun b j h _ => ?_, ?_⟩, ⟨a, rfl, tset_same, hb.kp kp rfl⟩, fun b e => tset_ne e⟩
  · obtain ⟨h3, h4⟩ := ev.fr b o q h
    have e : b ≠ a := fun z => by subst z; rw [h2] at q; cases q
    exact ⟨by rw [tset_ne e]; exact h3, h4⟩
  · by_cases e : b = a
    · subst e; exact .inl h2
    · rw [tset_ne e] at h; exact ev.sl b j h
  · have e : b ≠ a := fun z => by subst z; rw [h1] at h; cases h
    exact ⟨by rw [tset_ne e]; exact h, rfl⟩
  · have back : ∀ b g, tset τ a (.slot i) b = g → (∀ j, g ≠ .slot j) → τ b = g ∧ b ≠ a := fun b g h n => by
      by_cases e : b = a
      · subst e; rw [tset_same] at h; exact absurd h.symm (n i)
      · rw [tset_ne e] at h; exact ⟨h, e⟩
    refine ⟨fun b r h => ?_, fun b c r e1 e2 => ?_, fun b h => ?_, rel.ro.tb.mono (fun b q h => ?_) (fun b q h => (back b _ h (by simp)).1) kp (fun _ _ _ _ z => z) fun _ _ z => z⟩
    · obtain ⟨o, e1, e2⟩ := rel.ro.at_ b r (back b _ h (by simp)).1
      exact ⟨o, e1, e2.kp kp rfl⟩
    · exact rel.ro.one b c r (back b _ e1 (by simp)).1 (back c _ e2 (by simp)).1
    · by_cases e : b = a
      · subst e; exact hb.there
      · rw [tset_ne e] at h; exact rel.ro.al b h
    · rw [tset_ne fun z => by subst z; rw [h1] at h; cases h]; exact h
end

/-! ### blocks -/
def sNil : S → RS := fun s => .nxt s
def sCons (g h : S → RS) : S → RS := fun s => match g s with
  | .nxt s => h s
  | r => r
def sExpr (f : S → R Res) : S → RS := fun s => (f s).bindS fun _ s => .nxt s
def retOf (r : Res) (s : S) : RS := match r with
  | .val t => .ret false t s.ob
  | .tmp t => .ret true t s.ob
  | .plc i => match s.sl[i]? with
    | some (some (b, t)) => .ret b t s.ob
    | _ => .stuck
def sRet (f : S → R Res) : S → RS := fun s => (f s).bindS retOf
def sRetN : S → RS := fun s => .ret false .non s.ob
/-- x = e -/
def setOf (i : Nat) (r : Res) (s : S) : RS := match r with
  | .tmp t => .nxt ⟨s.sl.set i (some (true, t)), s.ob⟩
  | r => match frz s r with
    | some (t, s) => .nxt ⟨s.sl.set i (some (false, t)), s.ob⟩
    | none => .stuck
def sSet (i : Nat) (f : S → R Res) : S → RS := fun s => (f s).bindS (setOf i)
def sIf (c : S → R Bool) (g h : S → RS) : S → RS := fun s => (c s).bindS fun b s => if b = true then g s else h s
def sRaise (c : Str) : S → RS := fun s => .exc c s
/-- x op= e -/
def sAug (op : T → T → Option (Bool × T)) (i : Nat) (f : S → R Res) : S → RS := fun s => match s.sl[i]? with
  | some (some (false, x)) => (f s).bindS fun r s => match peek s r with
    | some y => (match op x y with
      | some (false, t) => .nxt ⟨s.sl.set i (some (false, t)), s.ob⟩
      | _ => .stuck)
    | none => .stuck
  | _ => .stuck
def whileL (c : S → R Bool) (g : S → RS) : Nat → S → RS
  | 0, _ => .stuck
  | n + 1, s => (c s).bindS fun b s => if b = true then (match g s with
    | .nxt s => whileL c g n s
    | .cnt s => whileL c g n s
    | .brk s => .nxt s
    | r => r) else .nxt s
/-- the most turns of a while loop -/
def fuel : Nat := 2 ^ 200
def sWhile (c : S → R Bool) (g : S → RS) : S → RS := fun s => whileL c g fuel s
section
variable {X : Cx} {st : Stmt} {rest sts a b : List Stmt} {e c : Expr} {g h : S → RS} {f : S → R Res} {tc : S → R Bool} {pos : Pos}
theorem sss_nil : SSs X [] sNil := fun W tk => PSs.imp pss_nil fun D σ H ⟨s, τ, rel, post⟩ => post σ τ H (.refl _ _) rel
theorem cons_runS {M : Md} {W : WX} {D : Ends} {σ : L2.St} {H : Hp} (q : tS M (sCons g h) W D σ H) : tS M g W { D with nx := tS M h W D } σ H := by
  obtain ⟨s, τ, rel, post⟩ := q
  refine ⟨s, τ, rel, ?_⟩
  unfold sCons at post
  cases k : g s with
  | nxt s1 =>
    rw [k] at post
    exact fun σ' τ' H' ev rel' => ⟨s1, τ', rel', post.shift ev⟩
  | _ => rw [k] at post; exact post
theorem sss_cons (h1 : SS X st g) (h2 : SSs X rest h) : SSs X (st :: rest) (sCons g h) := fun W tk => PSs.imp (pss_cons (h1 W tk) (h2 W tk)) fun _ _ _ q => cons_runS q
theorem sss_one (h1 : SS X st g) : SSs X [st] g := fun W tk => pss_one (h1 W tk)
theorem ss_pass : SS X (.Pass pos) sNil := fun W tk => PS.imp ps_pass fun D σ H ⟨s, τ, rel, post⟩ => post σ τ H (.refl _ _) rel
theorem ss_brk : SS X (.Break pos) (fun s => .brk s) := fun W tk => PS.imp ps_break fun D σ H ⟨s, τ, rel, post⟩ => post σ τ H (.refl _ _) rel
theorem ss_cnt : SS X (.Continue pos) (fun s => .cnt s) := fun W tk => PS.imp ps_continue fun D σ H ⟨s, τ, rel, post⟩ => post σ τ H (.refl _ _) rel
theorem ss_expr (he : SE X e f) (hs : swapsWith e none pos.line X.env = pure false := by rfl) : SS X (.Expr e pos) (sExpr f) := fun W tk => PS.imp (ps_expr (he W tk) hs) fun D σ H ⟨s, τ, rel, post⟩ =>
  runS (R1 := RRes (Mx X)) (.refl _ _) rel post fun x s2 v τ2 H2 ev rel2 r1 p => p σ τ2 H2 ev rel2
theorem ret_run {M : Md} {W : WX} {D : Ends} {σ : L2.St} {H H0 : Hp} {τ τ0 : Tg} {s : S} {r : Res} {v : V} (ev : Evo τ0 H0 τ H) (rel : Rel M s τ σ H) (h : RelR M σ H0 r s τ H v) (p : PostS M τ0 H0 (retOf r s) D W) : D.rt v H := by
  cases r with
  | val t => exact p v τ H ev rel.ro h
  | tmp t =>
    obtain ⟨a, rfl, h2, h3, h4⟩ := h
    exact p (.ref a) τ H ev rel.ro ⟨a, rfl, .inl ⟨h3, h2⟩, h4⟩
  | plc i =>
    have p : PostS M τ0 H0 (match s.sl[i]? with | some (some (b, t)) => .ret b t s.ob | _ => .stuck) D W := p
    split at p
    · rename_i b t q
      obtain ⟨v', e1, e2⟩ := rel.rs.at_ i b t q
      have h : σ[i]? = some (some v) := h
      rw [h] at e1
      cases e1
      refine p v τ H ev rel.ro ?_
      cases b with
      | true =>
        obtain ⟨a, rfl, h2, h3⟩ := e2
        exact ⟨a, rfl, .inr ⟨i, h2⟩, h3⟩
      | false => exact e2
    · exact p.elim
theorem ss_ret (he : SE X e f) : SS X (.Return (some e) pos) (sRet f) := fun W tk => PS.imp (ps_ret (he W tk)) fun D σ H ⟨s, τ, rel, post⟩ =>
  runS (R1 := RRes (Mx X)) (.refl _ _) rel post fun x s2 v τ2 H2 ev rel2 r1 p => ret_run ev rel2 r1 p
theorem ss_retN : SS X (.Return none pos) sRetN := fun W tk => PS.imp ps_retN fun D σ H ⟨s, τ, rel, post⟩ => post .non τ H (.refl _ _) rel.ro .non
theorem set_run {M : Md} {W : WX} {D : Ends} {σ : L2.St} {H H0 : Hp} {τ τ0 : Tg} {s : S} {r : Res} {v : V} {i : Nat} (ev : Evo τ0 H0 τ H) (rel : Rel M s τ σ H) (h : RelR M σ H0 r s τ H v) (p : PostS M τ0 H0 (setOf i r s) D W) : D.nx (σ.set i (some v)) H := by
  have other : ∀ {t s'}, frz s r = some (t, s') → PostS M τ0 H0 (.nxt ⟨s'.sl.set i (some (false, t)), s'.ob⟩) D W → D.nx (σ.set i (some v)) H := fun {t s'} ef p => by
    obtain ⟨τ', e1, e2, e3, e4⟩ := RelR.frz rel ev h ef
    exact p _ τ' H e1 (e3.set (b := false) e4)
  cases r with
  | tmp t =>
    obtain ⟨a, rfl, h2, h3, h4⟩ := h
    obtain ⟨τ', e1, e2, e3, e4, _⟩ := own_at (i := i) rel ev h4 h3 h2
    exact p _ τ' H e1 (e3.set (b := true) e4)
  | val t =>
    exact other (s' := s) rfl p
  | plc j =>
    have p : PostS M τ0 H0 (match frz s (.plc j) with | some (t, s) => .nxt ⟨s.sl.set i (some (false, t)), s.ob⟩ | none => .stuck) D W := p
    split at p
    · rename_i t s' ef
      exact other ef p
    · exact p.elim
theorem ss_set {i : Nat} {x : Str} {pos' : Pos} (hN : X.N.Nodup) (hi : X.N[i]? = some x) (hx : Loc X.env.scope x) (he : SE X e f) (hs : swapsWith e (some (.Name x pos')) pos.line X.env = pure false := by rfl) (hf : X.fn x = true ∨ X.env.scope.names.lookup x = some .local := by first | exact .inl rfl | exact .inr rfl | assumption) :
    SS X (.Assign [.Name x pos'] e pos) (sSet i f) := fun W tk => PS.imp (ps_set hN hi hx (he W tk) hs hf) fun D σ H ⟨s, τ, rel, post⟩ =>
  runS (R1 := RRes (Mx X)) (.refl _ _) rel post fun x s2 v τ2 H2 ev rel2 r1 p => set_run ev rel2 r1 p
theorem ss_if (hc : ST X c tc) (ha : SSs X a g) (hb : SSs X b h) : SS X (.If c a b pos) (sIf tc g h) := fun W tk => PS.imp (ps_if (hc W tk) (ha W tk) (hb W tk)) fun D σ H ⟨s, τ, rel, post⟩ =>
  runS (R1 := RBool) (.refl _ _) rel post fun x s2 v τ2 H2 ev rel2 r1 p => by
    cases (show v = x from r1)
    cases x with
    | true => exact ⟨s2, τ2, rel2, p.shift ev⟩
    | false => exact ⟨s2, τ2, rel2, p.shift ev⟩
theorem ss_raise {pm : L2.St → Hp → XK → Prop} {C : Addr} {cn : Str} (hc : X.calm = true) (hm : X.mg cn = some (.ref C)) (he : PMk X e pm) (hp : ∀ σ H Q, Q (.ref C) none H → pm σ H Q) : SS X (.Raise (some e) none pos) (sRaise cn) := fun W tk =>
  PS.imp (ps_raise hc tk he) fun D σ H ⟨s, τ, rel, post⟩ => hp σ H (fun cls d H' => W cls d σ H') (post C none σ τ H hm (.refl _ _) rel)
theorem iop_mulW : OpR X (inplaceOp .Mult) (rI CMulW fun i j => .int (i * j)) := opI fun _ _ _ _ _ _ _ hc q => imul_int q hc.ok
theorem ss_aug {i : Nat} {x : Str} {op : Operator} {r : R2} {o : T → T → Option (Bool × T)} {pos' : Pos} (hN : X.N.Nodup) (hi : X.N[i]? = some x) (hx : Loc X.env.scope x) (he : SE X e f) (ho : OpR X (inplaceOp op) r)
    (hg : ∀ τ H tx ty x y t Q, Rp (Mx X) τ H tx x → IsT (Mx X) τ H ty y → o tx ty = some (false, t) → (∀ v, Rp (Mx X) τ H t v → Q v H) → r x y H Q)
    (hf : X.fn x = true ∨ X.env.scope.names.lookup x = some .local := by first | exact .inl rfl | exact .inr rfl | assumption) :
    SS X (.AugAssign (.Name x pos') op e pos) (sAug o i f) := fun W tk => PS.imp (ps_aug hN hi hx (he W tk) (ti := r) ho hf) fun D σ H ⟨s, τ, rel, post⟩ => by
  unfold sAug at post
  split at post
  · rename_i t0 q
    obtain ⟨v0, e1, e2⟩ := rel.rs.at_ i false t0 q
    refine ⟨v0, e1, runS (R1 := RRes (Mx X)) (.refl _ _) rel post fun x s2 v τ2 H2 ev rel2 r1 p => ?_⟩
    split at p
    · rename_i y ey
      split at p
      · rename_i t et
        refine hg τ2 H2 t0 y v0 v t _ (Rp.mono ev.toKp e2) (RelR.isT rel2 r1 ey) et fun z hz => ?_
        exact p _ τ2 H2 ev (rel2.set (b := false) hz)
      · exact p.elim
    · exact p.elim
  · exact post.elim
def opIAdd : T → T → Option (Bool × T)
  | .int i, .int j => some (false, .int (i + j))
  | _, _ => none
def opIMul : T → T → Option (Bool × T)
  | .int i, .int j => if mulOk i j = true then some (false, .int (i * j)) else none
  | _, _ => none
def opIDiv : T → T → Option (Bool × T)
  | .int i, .int j => if 0 < j ∧ j.natAbs.log2 < 9000 then some (false, .int (i / j)) else none
  | _, _ => none
def opIMod : T → T → Option (Bool × T)
  | .int i, .int j => if 0 < j then some (false, .int (i % j)) else none
  | _, _ => none
section
variable {i : Nat} {x : Str} {pos' : Pos}
theorem Rp.toInt {M : Md} {τ : Tg} {H : Hp} {k : Int} {v : V} (h : Rp M τ H (.int k) v) : v = .int k := by cases h; rfl
theorem ss_augAdd (hN : X.N.Nodup) (hi : X.N[i]? = some x) (hx : Loc X.env.scope x) (he : SE X e f) (hf : X.fn x = true ∨ X.env.scope.names.lookup x = some .local := by first | exact .inl rfl | exact .inr rfl | assumption) :
    SS X (.AugAssign (.Name x pos') .Add e pos) (sAug opIAdd i f) := ss_aug hN hi hx he iop_add (fun τ H tx ty x y t Q hx hy e g => by
    unfold opIAdd at e
    split at e <;> cases e
    exact ⟨_, _, hx.toInt, hy.int, g _ (.int _)⟩) hf
theorem ss_augSub (hN : X.N.Nodup) (hi : X.N[i]? = some x) (hx : Loc X.env.scope x) (he : SE X e f) (hf : X.fn x = true ∨ X.env.scope.names.lookup x = some .local := by first | exact .inl rfl | exact .inr rfl | assumption) :
    SS X (.AugAssign (.Name x pos') .Sub e pos) (sAug opSub i f) := ss_aug hN hi hx he iop_sub (fun τ H tx ty x y t Q hx hy e g => by
    unfold opSub at e
    split at e <;> cases e
    exact ⟨_, _, hx.toInt, hy.int, g _ (.int _)⟩) hf
theorem ss_augMul (hN : X.N.Nodup) (hi : X.N[i]? = some x) (hx : Loc X.env.scope x) (he : SE X e f) (hf : X.fn x = true ∨ X.env.scope.names.lookup x = some .local := by first | exact .inl rfl | exact .inr rfl | assumption) :
    SS X (.AugAssign (.Name x pos') .Mult e pos) (sAug opIMul i f) := ss_aug hN hi hx he (iop_mul.or iop_mulW) (fun τ H tx ty x y t Q hx hy e g => by
    unfold opIMul at e
    split at e
    · rename_i i j
      split at e <;> cases e
      rename_i hz
      unfold mulOk at hz
      rw [Bool.or_eq_true, Bool.or_eq_true] at hz
      rcases hz with (hz | hz) | hz
      · exact .inl ⟨_, _, hx.toInt, hy.int, .inl (abs64 (of_decide_eq_true hz)), g _ (.int _)⟩
      · exact .inl ⟨_, _, hx.toInt, hy.int, .inr (abs64 (of_decide_eq_true hz)), g _ (.int _)⟩
      · have hz' : i.natAbs.log2 + j.natAbs.log2 < 1000000 := of_decide_eq_true hz
        exact .inr ⟨_, _, hx.toInt, hy.int, hz', g _ (.int _)⟩
    · cases e) hf
theorem ss_augDiv (hN : X.N.Nodup) (hi : X.N[i]? = some x) (hx : Loc X.env.scope x) (he : SE X e f) (hf : X.fn x = true ∨ X.env.scope.names.lookup x = some .local := by first | exact .inl rfl | exact .inr rfl | assumption) :
    SS X (.AugAssign (.Name x pos') .FloorDiv e pos) (sAug opIDiv i f) := ss_aug hN hi hx he iop_fdivW (fun τ H tx ty x y t Q hx hy e g => by
    unfold opIDiv at e
    split at e
    · split at e <;> cases e
      rename_i hz
      exact ⟨_, _, hx.toInt, hy.int, hz, g _ (.int _)⟩
    · cases e) hf
theorem ss_augMod (hN : X.N.Nodup) (hi : X.N[i]? = some x) (hx : Loc X.env.scope x) (he : SE X e f) (hf : X.fn x = true ∨ X.env.scope.names.lookup x = some .local := by first | exact .inl rfl | exact .inr rfl | assumption) :
    SS X (.AugAssign (.Name x pos') .Mod e pos) (sAug opIMod i f) := ss_aug hN hi hx he iop_mod (fun τ H tx ty x y t Q hx hy e g => by
    unfold opIMod at e
    split at e
    · split at e <;> cases e
      rename_i hz
      exact ⟨_, _, hx.toInt, hy.int, hz, g _ (.int _)⟩
    · cases e) hf
end
/-- a while loop -/
theorem ss_while (hp : PassesOwn (model X.prog X.w) X.A X.env X.xe) (hc : ST X c tc) (hb : SSs X sts g) : SS X (.While c sts [] pos) (sWhile tc g) := fun W tk =>
  PS.imp (ps_while hp (hc W tk) (hb W tk)) fun D σ H ⟨s, τ, rel, post⟩ => by
    refine ⟨fun m σ H => ∃ s τ, Rel (Mx X) s τ σ H ∧ PostS (Mx X) τ H (whileL tc g m s) D W, ⟨fuel, s, τ, rel, post⟩, ?_⟩
    rintro m σ H ⟨s, τ, rel, post⟩
    cases m with
    | zero => exact post.elim
    | succ m =>
      unfold whileL at post
      refine runS (R1 := RBool) (.refl _ _) rel post fun x s2 v τ2 H2 ev rel2 r1 p => ?_
      cases (show v = x from r1)
      cases x with
      | false => exact p σ τ2 H2 ev rel2
      | true =>
        refine ⟨fun σ' H' => ∃ s τ, Rel (Mx X) s τ σ' H' ∧ PostS (Mx X) τ H' (whileL tc g m s) D W, fun σ' H' q => ⟨m, Nat.lt_succ_self m, q⟩, s2, τ2, rel2, ?_⟩
        have p := p.shift ev
        simp only [if_true] at p
        cases k : g s2 with
        | nxt s3 => rw [k] at p; exact fun σ' τ' H' ev rel => ⟨s3, τ', rel, p.shift ev⟩
        | cnt s3 => rw [k] at p; exact fun σ' τ' H' ev rel => ⟨s3, τ', rel, p.shift ev⟩
        | brk s3 => rw [k] at p; exact p
        | ret b t ob => rw [k] at p; exact p
        | exc cn s3 => rw [k] at p; exact p
        | stuck => rw [k] at p; exact p
end
end Sv

/-! Sv, part I: targets, tuples assigned, what is walked, for, comprehensions. -/
namespace Sv
open PySem PySem.Spec PyProof.Rows L2
variable [Tb]

/-! ### targets -/
def PostT (M : Md) (τ0 : Tg) (H0 : Hp) (m : R Unit) (Q : L2.St → Hp → Prop) (W : WX) : Prop := match m with
  | .ok _ s => ∀ σ' τ' H', Evo τ0 H0 τ' H' → Rel M s τ' σ' H' → Q σ' H'
  | .exc c s => ∀ C d σ' τ' H', M.mg c = some (.ref C) → Evo τ0 H0 τ' H' → Rel M s τ' σ' H' → W (.ref C) d σ' H'
  | .stuck => False
def tGt (M : Md) (g : T → S → R Unit) (W : WX) : TG := fun v σ H Q => ∃ s τ t, Rel M s τ σ H ∧ Rp M τ H t v ∧ PostT M τ H (g t s) Q W
def tGts (M : Md) (g : List T → S → R Unit) (W : WX) : TGs := fun vs σ H Q => ∃ s τ ts, Rel M s τ σ H ∧ Rps M τ H ts vs ∧ PostT M τ H (g ts s) Q W
def SG (X : Cx) (e : Expr) (g : T → S → R Unit) : Prop := ∀ W, Takes X W → PG X e (tGt (Mx X) g W)
def SGs (X : Cx) (e : List Expr) (g : List T → S → R Unit) : Prop := ∀ W, Takes X W → PGs X e (tGts (Mx X) g W)
theorem PG.imp {X : Cx} {e : Expr} {t t' : TG} (h : PG X e t) (i : ∀ v σ H Q, t' v σ H Q → t v σ H Q) : PG X e t' := ⟨fun pins s σ H v u Q I r q => h.run pins s σ H v u Q I r (i v σ H Q q)⟩
theorem PGs.imp {X : Cx} {e : List Expr} {t t' : TGs} (h : PGs X e t) (i : ∀ v σ H Q, t' v σ H Q → t v σ H Q) : PGs X e t' := ⟨fun pins s σ H v u Q I r q => h.run pins s σ H v u Q I r (i v σ H Q q)⟩
theorem PostT.shift {M : Md} {τ0 τ1 : Tg} {H0 H1 : Hp} {m : R Unit} {Q : L2.St → Hp → Prop} {W : WX} (h : PostT M τ0 H0 m Q W) (e : Evo τ0 H0 τ1 H1) : PostT M τ1 H1 m Q W := by
  cases m with
  | ok r s => exact fun σ' τ' H' ev rel => h σ' τ' H' (e.trans ev) rel
  | exc c s => exact fun C d σ' τ' H' hc ev rel => h C d σ' τ' H' hc (e.trans ev) rel
  | stuck => exact h
def gSet (i : Nat) : T → S → R Unit := fun t s => .ok () ⟨s.sl.set i (some (false, t)), s.ob⟩
def gNil : List T → S → R Unit := fun ts s => match ts with
  | [] => .ok () s
  | _ => .stuck
def gCons (g : T → S → R Unit) (h : List T → S → R Unit) : List T → S → R Unit := fun ts s => match ts with
  | t :: r => (g t s).bind fun _ s => h r s
  | [] => .stuck
def gTup (n : Nat) (g : List T → S → R Unit) : T → S → R Unit := fun t s => match t with
  | .tup ts => if ts.length = n then g ts s else .stuck
  | _ => .stuck
def gLst (n : Nat) (g : List T → S → R Unit) : T → S → R Unit := fun t s => match t with
  | .lst ts => if ts.length = n then g ts s else .stuck
  | _ => .stuck
/-- o[i] = v -/
def gSub (fo fi : S → R Res) : T → S → R Unit := fun t s => (fo s).bind fun r s => (fi s).bind fun q s => match peek s r, peek s q with
  | some (.lst ts), some (.int k) => (match ixN ts.length k with
    | some j => (match wr s r (.lst (ts.set j t)) with
      | some s => .ok () s
      | none => .stuck)
    | none => .stuck)
  | _, _ => .stuck
section
variable {X : Cx} {e o i : Expr} {es : List Expr} {g : T → S → R Unit} {h : List T → S → R Unit} {fo fi f : S → R Res} {pos : Pos}
theorem sg_name {i : Nat} {x : Str} (hN : X.N.Nodup) (hi : X.N[i]? = some x) (hx : Loc X.env.scope x) (hf : X.fn x = true ∨ X.env.scope.names.lookup x = some .local := by first | exact .inl rfl | exact .inr rfl | assumption) : SG X (.Name x pos) (gSet i) := fun W tk =>
  PG.imp (pg_name hN hi hx hf) fun v σ H Q ⟨s, τ, t, rel, rp, post⟩ => post _ τ H (.refl _ _) (rel.set (b := false) rp)
theorem sgs_nil : SGs X [] gNil := fun W tk => PGs.imp pgs_nil fun vs σ H Q ⟨s, τ, ts, rel, rp, post⟩ => by
  cases rp with
  | nil => exact ⟨rfl, post σ τ H (.refl _ _) rel⟩
  | cons _ _ => exact post.elim
theorem sgs_cons (h1 : SG X e g) (h2 : SGs X es h) (hs : (assignEach (e :: es) X.env).map (·.2) = assign e X.env :: (assignEach es X.env).map (·.2) := by rfl) : SGs X (e :: es) (gCons g h) := fun W tk =>
  PGs.imp (pgs_cons (h1 W tk) (h2 W tk) hs) fun vs σ H Q ⟨s, τ, ts, rel, rp, post⟩ => by
    cases rp with
    | nil => exact post.elim
    | @cons t v ts vs r rs =>
      refine ⟨v, vs, rfl, s, τ, t, rel, r, ?_⟩
      have post : PostT (Mx X) τ H ((g t s).bind fun _ s => h ts s) Q W := post
      cases k : g t s with
      | ok u s1 =>
        rw [k] at post
        exact fun σ' τ' H' ev rel' => ⟨s1, τ', ts, rel', rs.mono ev.toKp, post.shift ev⟩
      | exc c s1 => rw [k] at post; exact post
      | stuck => rw [k] at post; exact post
theorem sg_tup {n k : Nat} (hc : X.calm = true) (h1 : SGs X es h) (hn : (assignEach es X.env).length = n := by rfl) (hst : (assignEach es X.env).findIdx? (·.1) = none := by rfl) : SG X (.Tuple es k pos) (gTup n h) := fun W tk =>
  PG.imp (pg_tup hc (h1 W tk) hn hst) fun v σ H Q ⟨s, τ, t, rel, rp, post⟩ => by
    unfold gTup at post
    split at post
    · split at post
      · rename_i hl
        cases rp with
        | tup q1 q2 => exact ⟨_, _, rfl, q1.sq, by rw [← q2.length]; exact hl, s, τ, _, rel, q2, post⟩
      · exact post.elim
    · exact post.elim
theorem sg_lst {n k : Nat} (hc : X.calm = true) (h1 : SGs X es h) (hn : (assignEach es X.env).length = n := by rfl) (hst : (assignEach es X.env).findIdx? (·.1) = none := by rfl) : SG X (.Tuple es k pos) (gLst n h) := fun W tk =>
  PG.imp (pg_lst hc (h1 W tk) hn hst) fun v σ H Q ⟨s, τ, t, rel, rp, post⟩ => by
    unfold gLst at post
    split at post
    · split at post
      · rename_i hl
        cases rp with
        | lst q1 q2 => exact ⟨_, _, rfl, q1.sq, by rw [← q2.length]; exact hl, s, τ, _, rel, q2, post⟩
      · exact post.elim
    · exact post.elim
theorem sg_sub (ho : SE X o fo) (hi : SE X i fi) (ha : ∀ v, assign (.Subscript o i pos) X.env v = (do
      let ov ← holding [v] (eval o X.env)
      let iv ← holding [v, ov] (eval i X.env)
      standAt pos
      holding [v, ov, iv] (setItem ov iv v)
      release [v, ov, iv] []) := by intro _; rfl) : SG X (.Subscript o i pos) (gSub fo fi) := fun W tk =>
  PG.imp (pg_sub (ho W tk) (hi W tk) set_list ha) fun v σ H Q ⟨s, τ, t, rel, rp, post⟩ => by
    unfold gSub at post
    have conv : ∀ {m : R Unit}, PostT (Mx X) τ H m Q W → Post (Mx X) (fun σ _ (_ : Unit) _ _ _ (ρ : L2.St) => ρ = σ) σ τ H m (fun ρ H' => Q ρ H') W := fun {m} h => by
      cases m with
      | ok r s => intro ρ τ' H' ev rel' e; subst e; exact h _ τ' H' ev rel'
      | exc c s => exact fun C d τ' H' hc ev rel' => h C d σ τ' H' hc ev rel'
      | stuck => exact h
    have post := conv post
    refine run2 rel post fun x y s2 w u τ2 H2 ev rel2 r1 r2 p => ?_
    split at p
    · rename_i ts k ex ey
      split at p
      · rename_i j ej
        split at p
        · rename_i s3 ew
          obtain ⟨a, vs0, rfl, h1, h2, h3⟩ := wr_lst rel2 ev r1 ew
          have rs := h2 ts ex
          obtain ⟨rel3, ev3, _⟩ := h3 (vs0.set j v) (Rps.set (rp.mono ev.toKp) j rs)
          exact ⟨a, vs0, k, j, rfl, (r2.isT rel2 ey).int, h1, by rw [← rs.length]; exact ej, p σ τ2 _ ev3 rel3 rfl⟩
        · exact p.elim
      · exact p.elim
    · exact p.elim
end

/-! ### assignments to targets -/
def toS (m : R Unit) : RS := match m with
  | .ok _ s => .nxt s
  | .exc c s => .exc c s
  | .stuck => .stuck
def sAsg (f : S → R Res) (g : T → S → R Unit) : S → RS := fun s => (f s).bindS fun r s => match frz s r with
  | some (t, s) => toS (g t s)
  | none => .stuck
theorem PostS.toT {M : Md} {τ : Tg} {H : Hp} {m : R Unit} {D : Ends} {W : WX} (h : PostS M τ H (toS m) D W) : PostT M τ H m D.nx W := by
  cases m with
  | ok r s => exact h
  | exc c s => exact h
  | stuck => exact h
section
variable {X : Cx} {e tg : Expr} {f : S → R Res} {g : T → S → R Unit} {pos : Pos}
theorem ss_asg (he : SE X e f) (hg : SG X tg g) (hs : swapsWithSole [tg] e pos.line X.env = pure false := by rfl) (hw : swappedStores [tg] e X.env = pure none := by rfl)
    (h1 : (assignEach [tg] X.env).map (·.2) = [assign tg X.env] := by rfl) : SS X (.Assign [tg] e pos) (sAsg f g) := fun W tk => PS.imp (ps_asg (he W tk) (hg W tk) hs hw h1) fun D σ H ⟨s, τ, rel, post⟩ =>
  runS (R1 := RRes (Mx X)) (.refl _ _) rel post fun x s2 v τ2 H2 ev rel2 r1 p => by
    split at p
    · rename_i t s3 ef
      obtain ⟨τ3, e1, e2, e3, e4⟩ := RelR.frz rel2 ev r1 ef
      exact ⟨s3, τ3, t, e3, e4, (PostS.toT p).shift e1⟩
    · exact p.elim
end

/-! ### several values at once, new containers not yet held -/
def VO (M : Md) (H0 : Hp) (τ : Tg) (H : Hp) (b : Bool) (t : T) (v : V) : Prop := if b = true then ∃ a, v = .ref a ∧ H0 a = none ∧ τ a = .free ∧ Box M τ H a t else Rp M τ H t v
inductive VOs (M : Md) (H0 : Hp) (τ : Tg) (H : Hp) : List (Bool × T) → List V → Prop
  | nil : VOs M H0 τ H [] []
  | cons {b : Bool} {t : T} {v : V} {bts : List (Bool × T)} {vs : List V} : VO M H0 τ H b t v → (b = true → ∀ (j : Nat) (t' : T), bts[j]? = some (true, t') → vs[j]? ≠ some v) → VOs M H0 τ H bts vs → VOs M H0 τ H ((b, t) :: bts) (v :: vs)
def RVOs (M : Md) : RRel (List (Bool × T)) (List V) := fun _ H0 ts _ τ H vs => VOs M H0 τ H ts vs
def SAo (X : Cx) (es : List Expr) (f : S → R (List (Bool × T))) : Prop := ∀ W, Takes X W → PA X es (tG (Mx X) (RVOs (Mx X)) f W)
/-- a result, its container kept apart where it is new -/
def own (s : S) : Res → Option ((Bool × T) × S)
  | .tmp t => some ((true, t), s)
  | r => (frz s r).map fun p => ((false, p.1), p.2)
def aoNil : S → R (List (Bool × T)) := fun s => .ok [] s
def aoCons (f : S → R Res) (g : S → R (List (Bool × T))) : S → R (List (Bool × T)) := fun s => (f s).bind fun r s => match own s r with
  | some (t, s) => (g s).bind fun ts s => .ok (t :: ts) s
  | none => .stuck
section
variable {M : Md} {σ : L2.St} {H H0 H1 H2 : Hp} {τ τ0 τ1 τ2 : Tg} {s s1 s2 : S} {r : Res} {v : V} {t : T}
theorem VO.base {b : Bool} (e : Evo τ0 H0 τ1 H1) (h : VO M H1 τ H b t v) : VO M H0 τ H b t v := by
  cases b with
  | true => obtain ⟨a, e1, e2, e3⟩ := h; exact ⟨a, e1, e.back e2, e3⟩
  | false => exact h
theorem VOs.base (e : Evo τ0 H0 τ1 H1) : ∀ {bts : List (Bool × T)} {vs : List V}, VOs M H1 τ H bts vs → VOs M H0 τ H bts vs
  | _, _, .nil => .nil
  | _, _, .cons h n r => .cons (h.base e) n (VOs.base e r)
theorem bVOs : Bas (RVOs M) := fun _ _ _ _ _ _ _ _ _ _ e h => VOs.base e h
theorem VO.later {b : Bool} (h : VO M H0 τ1 H1 b t v) (e : Evo τ1 H1 τ2 H2) : VO M H0 τ2 H2 b t v := by
  cases b with
  | true =>
    obtain ⟨a, e1, e2, e3, e4⟩ := h
    obtain ⟨o, ho⟩ := Option.ne_none_iff_exists'.mp e4.there
    obtain ⟨q1, q2⟩ := e.fr a o ho e3
    exact ⟨a, e1, e2, q1, e4.kp e.toKp (q2.trans ho.symm)⟩
  | false => exact Rp.mono e.toKp h
theorem VOs.length : ∀ {bts : List (Bool × T)} {vs : List V}, VOs M H0 τ H bts vs → bts.length = vs.length
  | _, _, .nil => rfl
  | _, _, .cons _ _ r => congrArg (· + 1) (VOs.length r)
/-- later ones are other objects -/
theorem VOs.apart (hv : ∀ a, v = .ref a → H0 a ≠ none) : ∀ {bts : List (Bool × T)} {vs : List V}, VOs M H0 τ H bts vs → ∀ (j : Nat) (t' : T), bts[j]? = some (true, t') → vs[j]? ≠ some v
  | _, _, .nil, j, t', e => by simp at e
  | _, _, .cons h _ r, 0, t', e => fun z => by
    simp at e z
    obtain ⟨rfl, rfl⟩ := e
    subst z
    obtain ⟨a, e1, e2, _⟩ := h
    exact hv a e1 e2
  | _, _, .cons _ _ r, j + 1, t', e => by simpa using VOs.apart hv r j t' (by simpa using e)
theorem RelR.own {bt : Bool × T} {s' : S} (rel : Rel M s τ σ H) (ev : Evo τ0 H0 τ H) (h : RelR M σ H0 r s τ H v) (p : own s r = some (bt, s')) : ∃ τ', Evo τ0 H0 τ' H ∧ Kp τ H τ' H ∧ Rel M s' τ' σ H ∧ VO M H0 τ' H bt.1 bt.2 v := by
  have other : ∀ {r}, RelR M σ H0 r s τ H v → (Sv.frz s r).map (fun p => ((false, p.1), p.2)) = some (bt, s') → ∃ τ', Evo τ0 H0 τ' H ∧ Kp τ H τ' H ∧ Rel M s' τ' σ H ∧ VO M H0 τ' H bt.1 bt.2 v := fun {r} h p => by
    cases q : Sv.frz s r with
    | none => rw [q] at p; cases p
    | some z =>
      rw [q] at p
      cases p
      obtain ⟨τ', e1, e2, e3, e4⟩ := RelR.frz rel ev h (show Sv.frz s r = some (z.1, z.2) from q)
      exact ⟨τ', e1, e2, e3, e4⟩
  cases r with
  | tmp t => cases p; exact ⟨τ, ev, Kp.refl _ _, rel, h⟩
  | val t => exact other h p
  | plc i => exact other h p
end
section
variable {X : Cx} {e : Expr} {es : List Expr} {f : S → R Res} {g : S → R (List (Bool × T))} {pos : Pos} {M : Md}
theorem sao_nil : SAo X [] aoNil := fun W tk => PA.imp pa_nil fun σ H Q ⟨s, τ, rel, post⟩ => post [] τ H (.refl _ _) rel .nil
theorem consO_run {W : WX} {σ : L2.St} {H : Hp} {Q : List V → Hp → Prop} (h : tG M (RVOs M) (aoCons f g) W σ H Q) : tCons (tG M (RRes M) f W) (tG M (RVOs M) g W) σ H Q := by
  obtain ⟨s, τ, rel, post⟩ := h
  refine run1 (.refl _ _) rel post fun x s2 v τ2 H2 ev rel2 r1 p => ?_
  split at p
  · rename_i bt s3 ef
    obtain ⟨τ3, ev3, _, rel3, vo⟩ := RelR.own rel2 ev r1 ef
    refine run1 (R1 := RVOs M) ev3 rel3 p fun ts s4 vs τ4 H4 ev4 rel4 r4 p4 => ?_
    have r4 : VOs M H2 τ4 H4 ts vs := r4
    refine p4 (v :: vs) τ4 H4 (ev3.trans ev4) rel4 (.cons (vo.later ev4) (fun hb => VOs.apart (fun a e => ?_) r4) (r4.base ev3))
    obtain ⟨b, t⟩ := bt
    cases hb
    obtain ⟨a', e1, _, _, e4⟩ := vo
    rw [e] at e1
    cases e1
    exact e4.there
  · exact p.elim
theorem sao_cons (h : SE X e f) (hr : SAo X es g) (hs : starEach (e :: es) X.env = (false, eval e X.env) :: starEach es X.env := by rfl) : SAo X (e :: es) (aoCons f g) := fun W tk =>
  PA.imp (pa_cons (h W tk) (hr W tk) hs) fun _ _ _ h => consO_run h
end
/-- values into slots -/
def storeAll : List Nat → List (Bool × T) → S → S
  | i :: is, bt :: bts, s => storeAll is bts ⟨s.sl.set i (some bt), s.ob⟩
  | _, _, s => s
def setAll : List Nat → List V → L2.St → L2.St
  | i :: is, v :: vs, σ => setAll is vs (σ.set i (some v))
  | _, _, σ => σ
theorem VOs.kp {M : Md} {H0 H : Hp} {τ τ' : Tg} {a : Addr} (hk : Kp τ H τ' H) (hb : ∀ b, b ≠ a → τ' b = τ b) : ∀ {bts : List (Bool × T)} {vs : List V}, VOs M H0 τ H bts vs → (∀ (j : Nat) (t' : T), bts[j]? = some (true, t') → vs[j]? ≠ some (V.ref a)) → VOs M H0 τ' H bts vs
  | _, _, .nil, _ => .nil
  | _, _, .cons (b := b) h n r, d => by
    refine .cons ?_ n (VOs.kp hk hb r fun j t' e => by simpa using d (j + 1) t' (by simpa using e))
    cases b with
    | true =>
      obtain ⟨c, e1, e2, e3, e4⟩ := h
      have ne : c ≠ a := fun z => d 0 _ rfl (by rw [e1, z]; rfl)
      exact ⟨c, e1, e2, (hb c ne).trans e3, e4.kp hk rfl⟩
    | false => exact Rp.mono hk h
theorem par_store {M : Md} {H0 H : Hp} {τ0 : Tg} : ∀ {is : List Nat} {bts : List (Bool × T)} {vs : List V} {s : S} {τ : Tg} {σ : L2.St}, VOs M H0 τ H bts vs → Rel M s τ σ H → Evo τ0 H0 τ H →
    ∃ τ', Evo τ0 H0 τ' H ∧ Rel M (storeAll is bts s) τ' (setAll is vs σ) H
  | [], bts, vs, s, τ, σ, h, rel, ev => ⟨τ, ev, by cases bts <;> cases vs <;> exact rel⟩
  | i :: is, _, _, s, τ, σ, .nil, rel, ev => ⟨τ, ev, rel⟩
  | i :: is, _, _, s, τ, σ, .cons (b := b) (t := t) (v := v) h n r, rel, ev => by
    cases b with
    | false =>
      have z := par_store (is := is) r (rel.set (i := i) (b := false) h) ev
      exact z
    | true =>
      obtain ⟨a, rfl, e2, e3, e4⟩ := h
      obtain ⟨τ1, k1, k2, k3, k4, k5⟩ := own_at (i := i) rel ev e4 e3 e2
      have z := par_store (is := is) (r.kp k2 k5 (n rfl)) (k3.set (i := i) (b := true) k4) k1
      exact z
/-- x, y, .. = e, f, .. into slots -/
def sPar (is : List Nat) (g : S → R (List (Bool × T))) : S → RS := fun s => (g s).bindS fun bts s => if bts.length = is.length then .nxt (storeAll is bts s) else .stuck
section
variable {X : Cx} {a b c : Expr} {g : S → R (List (Bool × T))} {pos px py pz pt pt2 : Pos} {kt k2 : Nat}
theorem ss_par2 {i j : Nat} {x y : Str} (hc : X.calm = true) (hN : X.N.Nodup) (hi : X.N[i]? = some x) (hj : X.N[j]? = some y) (hij : i ≠ j)
    (hx : X.env.scope.names.lookup x = some .local) (hy : X.env.scope.names.lookup y = some .local) (ha : SAo X [a, b] g)
    (hw : swappedStores [.Tuple [.Name x px, .Name y py] kt pt] (.Tuple [a, b] k2 pt2) X.env = pure (some [x, y]) := by rfl)
    (hs : swapsWithSole [.Tuple [.Name x px, .Name y py] kt pt] (.Tuple [a, b] k2 pt2) pos.line X.env = pure false := by rfl) :
    SS X (.Assign [.Tuple [.Name x px, .Name y py] kt pt] (.Tuple [a, b] k2 pt2) pos) (sPar [i, j] g) := fun W tk => PS.imp (ps_par hc hN hi hj hij hx hy (ha W tk) hw hs) fun D σ H ⟨s, τ, rel, post⟩ =>
  runS (R1 := RVOs (Mx X)) (.refl _ _) rel post fun bts s2 vs τ2 H2 ev rel2 r1 p => by
    split at p
    · rename_i hl
      have r1 : VOs (Mx X) H τ2 H2 bts vs := r1
      obtain ⟨τ3, e1, e2⟩ := par_store (is := [i, j]) r1 rel2 ev
      have hv : vs.length = 2 := by rw [← r1.length]; exact hl
      match vs, hv with
      | [v, w], _ => exact ⟨v, w, rfl, p _ τ3 H2 e1 e2⟩
    · exact p.elim
theorem ss_par3 {i j l : Nat} {x y z : Str} (hc : X.calm = true) (hN : X.N.Nodup) (hi : X.N[i]? = some x) (hj : X.N[j]? = some y) (hl : X.N[l]? = some z) (hij : i ≠ j) (hil : i ≠ l) (hjl : j ≠ l)
    (hx : X.env.scope.names.lookup x = some .local) (hy : X.env.scope.names.lookup y = some .local) (hz : X.env.scope.names.lookup z = some .local) (ha : SAo X [a, b, c] g)
    (hw : swappedStores [.Tuple [.Name x px, .Name y py, .Name z pz] kt pt] (.Tuple [a, b, c] k2 pt2) X.env = pure (some [x, y, z]) := by rfl)
    (hs : swapsWithSole [.Tuple [.Name x px, .Name y py, .Name z pz] kt pt] (.Tuple [a, b, c] k2 pt2) pos.line X.env = pure false := by rfl) :
    SS X (.Assign [.Tuple [.Name x px, .Name y py, .Name z pz] kt pt] (.Tuple [a, b, c] k2 pt2) pos) (sPar [i, j, l] g) := fun W tk => PS.imp (ps_par3 hc hN hi hj hl hij hil hjl hx hy hz (ha W tk) hw hs) fun D σ H ⟨s, τ, rel, post⟩ =>
  runS (R1 := RVOs (Mx X)) (.refl _ _) rel post fun bts s2 vs τ2 H2 ev rel2 r1 p => by
    split at p
    · rename_i hl
      have r1 : VOs (Mx X) H τ2 H2 bts vs := r1
      obtain ⟨τ3, e1, e2⟩ := par_store (is := [i, j, l]) r1 rel2 ev
      have hv : vs.length = 3 := by rw [← r1.length]; exact hl
      match vs, hv with
      | [v, w, u], _ => exact ⟨v, w, u, rfl, p _ τ3 H2 e1 e2⟩
    · exact p.elim
/-- the names of a tuple of targets, with their slots -/
inductive Nms (X : Cx) : List Expr → List Nat → Prop
  | nil : Nms X [] []
  | cons {i : Nat} {x : Str} {p : Pos} {es : List Expr} {is : List Nat} : X.N[i]? = some x → Loc X.env.scope x → (X.fn x = true ∨ X.env.scope.names.lookup x = some .local) →
      ((assignEach (.Name x p :: es) X.env).map (·.2) = assign (.Name x p) X.env :: (assignEach es X.env).map (·.2)) → Nms X es is → Nms X (.Name x p :: es) (i :: is)
def tStore (is : List Nat) : TGs := fun vs σ H Q => vs.length = is.length ∧ Q (setAll is vs σ) H
theorem Nms.pgs (hN : X.N.Nodup) : ∀ {es : List Expr} {is : List Nat}, Nms X es is → PGs X es (tStore is)
  | _, _, .nil => PGs.imp pgs_nil fun vs σ H Q ⟨h1, h2⟩ => by
    have e : vs = [] := List.length_eq_zero_iff.mp h1
    subst e
    exact ⟨rfl, h2⟩
  | _, _, .cons h1 h2 h3 h4 r => PGs.imp (pgs_cons (pg_name hN h1 h2 h3) (Nms.pgs hN r) h4) fun vs σ H Q ⟨k1, k2⟩ => by
    cases vs with
    | nil => cases k1
    | cons v vs => exact ⟨v, vs, rfl, Nat.succ.inj k1, k2⟩
theorem ss_parN {ts es : List Expr} {is : List Nat} {n : Nat} (hc : X.calm = true) (hN : X.N.Nodup) (hn : Nms X ts is) (ha : SAo X es g)
    (hw : swappedStores [.Tuple ts kt pt] (.Tuple es k2 pt2) X.env = pure none := by rfl) (hs : swapsWithSole [.Tuple ts kt pt] (.Tuple es k2 pt2) pos.line X.env = pure false := by rfl)
    (h1 : (assignEach [.Tuple ts kt pt] X.env).map (·.2) = [assign (.Tuple ts kt pt) X.env] := by rfl) (hl : (assignEach ts X.env).length = n := by rfl) (hst : (assignEach ts X.env).findIdx? (·.1) = none := by rfl)
    (hz : szok n = true := by rfl) (hni : n = is.length := by rfl) : SS X (.Assign [.Tuple ts kt pt] (.Tuple es k2 pt2) pos) (sPar is g) := fun W tk =>
  PS.imp (ps_asg (pe_tup (ha W tk)) (pg_tup hc (hn.pgs hN) hl hst) hs hw h1) fun D σ H ⟨s, τ, rel, post⟩ =>
    runS (R1 := RVOs (Mx X)) (.refl _ _) rel post fun bts s2 vs τ2 H2 ev rel2 r1 p => by
      split at p
      · rename_i hl
        have r1 : VOs (Mx X) H τ2 H2 bts vs := r1
        have hv : vs.length = is.length := by rw [← r1.length]; exact hl
        refine ⟨by rw [hv, ← hni]; exact szok_le hz, fun q hq => ⟨q, vs, rfl, .inl (.inl upd_same), by rw [hv, hni], hv, ?_⟩⟩
        obtain ⟨rel3, ev3⟩ := rel2.new (o := .tup vs) (g := .free) hq (.inl rfl) fun _ z => nomatch z
        have r3 : VOs (Mx X) H (tset τ2 q .free) (upd H2 q (.tup vs)) bts vs := by
          have go : ∀ {bts : List (Bool × T)} {ws : List V}, VOs (Mx X) H τ2 H2 bts ws → VOs (Mx X) H (tset τ2 q .free) (upd H2 q (.tup vs)) bts ws := by
            intro bts ws r
            induction r with
            | nil => exact .nil
            | cons h n r ih => exact .cons (h.later ev3) n ih
          exact go r1
        obtain ⟨τ4, e1, e2⟩ := par_store (is := is) r3 rel3 (ev.trans ev3)
        exact p _ τ4 _ e1 e2
      · exact p.elim
end
end Sv

/-! Sv, part J: what is walked, for, comprehensions. -/
namespace Sv
open PySem PySem.Spec PyProof.Rows L2
variable [Tb]

/-- the iterator J goes through the trees ts -/
def Walks (M : Md) (J : It) (ts : List T) (τ : Tg) (H : Hp) : Prop := ∀ (i : Nat) (τ2 : Tg) (H2 : Hp), Kp τ H τ2 H2 → (ts.length ≤ i → J.stop i H2) ∧
  ∀ t, ts[i]? = some t → J.go i H2 ∧ ∀ x H', J.yld i H2 x H' → (H' = H2 ∧ Rp M τ2 H2 t x) ∨ (∃ p o, x = .ref p ∧ H2 p = none ∧ H' = upd H2 p o ∧ NewAt M τ2 H2 false o t)
def RW (M : Md) : RRel (List T) It := fun _ _ ts _ τ H J => Walks M J ts τ H
theorem bW {M : Md} : Bas (RW M) := fun _ _ _ _ _ _ _ _ _ _ _ h => h
def SI (X : Cx) (tg iter : Expr) (f : S → R (List T)) : Prop := ∀ W, Takes X W → PI X tg iter (tG (Mx X) (RW (Mx X)) f W)
theorem PI.imp {X : Cx} {tg e : Expr} {t t' : TI} (h : PI X tg e t) (i : ∀ σ H Q, t' σ H Q → t σ H Q) : PI X tg e t' := ⟨fun pins s σ H Q I q => h.run pins s σ H Q I (i σ H Q q)⟩
theorem PI.or {X : Cx} {tg e : Expr} {t t' : TI} (h : PI X tg e t) (h' : PI X tg e t') : PI X tg e (fun σ H Q => t σ H Q ∨ t' σ H Q) :=
  ⟨fun pins s σ H Q I q => q.elim (h.run pins s σ H Q I) (h'.run pins s σ H Q I)⟩

section
variable {M : Md} {σ : L2.St} {H H0 H1 H2 : Hp} {τ τ0 τ1 τ2 : Tg} {s s1 s2 : S} {r : Res} {v : V} {t : T}
theorem walks_list {a : Addr} {vs : List V} {ts : List T} (h : LstAt M τ H a vs) (r : Rps M τ H ts vs) : Walks M (Itl M.K a) ts τ H := fun i τ2 H2 kp => by
  have h2 := (h.mono kp).sq
  refine ⟨fun hi => ⟨vs, h2, by rw [← r.length]; exact hi⟩, fun t ht => ?_⟩
  obtain ⟨v, e1, e2⟩ := r.get ht
  refine ⟨⟨vs, v, h2, e1⟩, fun x H' y => ?_⟩
  obtain ⟨rfl, y⟩ := y
  have := y vs h2
  rw [e1] at this
  cases this
  exact .inl ⟨rfl, e2.mono kp⟩
theorem walks_tup {a : Addr} {vs : List V} {ts : List T} (h : TupAt M τ H a vs) (r : Rps M τ H ts vs) : Walks M (Itt M.K a) ts τ H := fun i τ2 H2 kp => by
  have h2 := (h.mono kp).sq
  refine ⟨fun hi => ⟨vs, h2, by rw [← r.length]; exact hi⟩, fun t ht => ?_⟩
  obtain ⟨v, e1, e2⟩ := r.get ht
  refine ⟨⟨vs, v, h2, e1⟩, fun x H' y => ?_⟩
  obtain ⟨rfl, y⟩ := y
  have := y vs h2
  rw [e1] at this
  cases this
  exact .inl ⟨rfl, e2.mono kp⟩
theorem walks_scr {a : Addr} {ns : List Int} (h : ScrAt M τ H a (ns.map V.int)) : Walks M (Itl M.K a) (ns.map T.int) τ H := fun i τ2 H2 kp => by
  have h2 : SqL M.K H2 a (ns.map V.int) := h.elim (fun h => .inl (Rd.kp kp h.1 h.2).2) .inr
  refine ⟨fun hi => ⟨_, h2, by simpa using hi⟩, fun t ht => ?_⟩
  rw [List.getElem?_map] at ht
  cases q : ns[i]? with
  | none => rw [q] at ht; cases ht
  | some n =>
    rw [q] at ht
    cases ht
    have e1 : (ns.map V.int)[i]? = some (.int n) := by rw [List.getElem?_map, q]; rfl
    refine ⟨⟨_, _, h2, e1⟩, fun x H' y => ?_⟩
    obtain ⟨rfl, y⟩ := y
    have := y _ h2
    rw [e1] at this
    cases this
    exact .inl ⟨rfl, .int n⟩
def rngT (lo : Int) (n : Nat) : List T := (List.range n).map fun k => T.int (lo + (k : Nat))
theorem walks_rng {lo : Int} {n : Nat} : Walks M (Itr lo n) (rngT lo n) τ H := fun i τ2 H2 kp => by
  refine ⟨fun hi => show n ≤ i by simpa [rngT] using hi, fun t ht => ?_⟩
  unfold rngT at ht
  rw [List.getElem?_map] at ht
  by_cases hi : i < n
  · rw [List.getElem?_range hi] at ht
    cases ht
    refine ⟨hi, fun x H' y => ?_⟩
    obtain ⟨rfl, rfl⟩ := y
    exact .inl ⟨rfl, .int _⟩
  · rw [List.getElem?_eq_none (by simpa using hi)] at ht
    cases ht
end

/-! ### iterables -/
def itemsOf : T → Option (List T)
  | .lst ts => some ts
  | .tup ts => some ts
  | .scr ns => some (ns.map T.int)
  | _ => none
/-- a list that is walked stays as it is -/
def iSeq (f : S → R Res) : S → R (List T) := fun s => (f s).bind fun r s => match frz s r with
  | some (t, s) => (match itemsOf t with
    | some ts => .ok ts s
    | none => .stuck)
  | none => .stuck
def iRng1 (f : S → R Res) : S → R (List T) := fun s => (f s).bind fun r s => match peek s r with
  | some (.int j) => if -4611686018427387904 ≤ j ∧ j < 4611686018427387904 then .ok (rngT 0 j.toNat) s else .stuck
  | _ => .stuck
def iRng2 (f g : S → R Res) : S → R (List T) := fun s => (f s).bind fun r s => (g s).bind fun q s => match peek s r, peek s q with
  | some (.int i), some (.int j) => if (-4611686018427387904 ≤ i ∧ i < 4611686018427387904) ∧ (-4611686018427387904 ≤ j ∧ j < 4611686018427387904) then .ok (rngT i (j - i).toNat) s else .stuck
  | _, _ => .stuck
section
variable {X : Cx} {e e2 tg : Expr} {f g : S → R Res} {p pos : Pos}
theorem si_seq (he : SE X e f) : SI X tg e (iSeq f) := fun W tk => PI.imp (PI.or (pi_list (he W tk)) (pi_tup (he W tk))) fun σ H Q ⟨s, τ, rel, post⟩ => by
  unfold iSeq at post
  cases k : f s with
  | stuck => rw [k] at post; exact post.elim
  | exc c s1 => exact .inl ⟨s, τ, rel, by rw [k] at post ⊢; exact post⟩
  | ok r s1 =>
    rw [k] at post
    simp only [R.bind] at post
    split at post
    · rename_i t s2 ef
      split at post
      · rename_i ts et
        -- one of three kinds
        unfold itemsOf at et
        split at et
        · cases et
          refine .inl ⟨s, τ, rel, ?_⟩
          rw [k]
          intro v τ' H' ev rel' rr
          obtain ⟨τ2, e1, e2, e3, e4⟩ := RelR.frz rel' ev rr ef
          cases e4 with
          | lst q1 q2 => exact ⟨_, rfl, ⟨_, q1.sq⟩, post _ τ2 H' e1 e3 (walks_list q1 q2)⟩
        · cases et
          refine .inr ⟨s, τ, rel, ?_⟩
          rw [k]
          intro v τ' H' ev rel' rr
          obtain ⟨τ2, e1, e2, e3, e4⟩ := RelR.frz rel' ev rr ef
          cases e4 with
          | tup q1 q2 => exact ⟨_, rfl, ⟨_, q1.sq⟩, post _ τ2 H' e1 e3 (walks_tup q1 q2)⟩
        · cases et
          refine .inl ⟨s, τ, rel, ?_⟩
          rw [k]
          intro v τ' H' ev rel' rr
          obtain ⟨τ2, e1, e2, e3, e4⟩ := RelR.frz rel' ev rr ef
          cases e4 with
          | scr q1 => exact ⟨_, rfl, ⟨_, q1.sq⟩, post _ τ2 H' e1 e3 (walks_scr q1)⟩
        · cases et
      · exact post.elim
    · exact post.elim
theorem si_rng1 (hg : Gl X "range") (hm : X.mg "range" = none) (he : SE X e f) (hs : starEach [e] X.env = [(false, eval e X.env)] := by rfl) (hs2 : starEach [e] X.env = (false, eval e X.env) :: starEach [] X.env := by rfl) :
    SI X tg (.Call (.Name "range" p) [e] [] pos) (iRng1 f) := fun W tk => PI.imp (pi_range1 hg hm (pa_cons (he W tk) pa_nil hs2) hs) fun σ H Q ⟨s, τ, rel, post⟩ =>
  run1 (R1 := RRes (Mx X)) (.refl _ _) rel post fun x s2 v τ2 H2 ev rel2 r1 p => by
    split at p
    · rename_i j ex
      split at p
      · rename_i hj
        exact ⟨j, by rw [(RelR.isT rel2 r1 ex).int], by omega, by omega, p _ τ2 H2 ev rel2 walks_rng⟩
      · exact p.elim
    · exact p.elim
theorem si_rng2 (hg : Gl X "range") (hm : X.mg "range" = none) (he : SE X e f) (he2 : SE X e2 g) (hs : starEach [e, e2] X.env = [(false, eval e X.env), (false, eval e2 X.env)] := by rfl) (hs1 : starEach [e2] X.env = [(false, eval e2 X.env)] := by rfl)
    (hs2 : starEach [e, e2] X.env = (false, eval e X.env) :: starEach [e2] X.env := by rfl) (hs3 : starEach [e2] X.env = (false, eval e2 X.env) :: starEach [] X.env := by rfl) :
    SI X tg (.Call (.Name "range" p) [e, e2] [] pos) (iRng2 f g) := fun W tk => PI.imp (pi_range2 hg hm (pa_cons (he W tk) (pa_cons (he2 W tk) pa_nil hs3) hs2) hs hs1) fun σ H Q ⟨s, τ, rel, post⟩ =>
  run2 rel post fun x y s2 v w τ2 H2 ev rel2 r1 r2 p => by
    split at p
    · rename_i i j ex ey
      split at p
      · rename_i hj
        exact ⟨i, j, by rw [(r1.isT rel2 ex).int, (r2.isT rel2 ey).int], by omega, p _ τ2 H2 ev rel2 walks_rng⟩
      · exact p.elim
    · exact p.elim
end

/-! ### for -/
def forL (g : T → S → R Unit) (b : S → RS) : List T → S → RS
  | [], s => .nxt s
  | t :: ts, s => match g t s with
    | .ok _ s => (match b s with
      | .nxt s => forL g b ts s
      | .cnt s => forL g b ts s
      | .brk s => .nxt s
      | r => r)
    | .exc c s => .exc c s
    | .stuck => .stuck
def sFor (f : S → R (List T)) (g : T → S → R Unit) (b : S → RS) : S → RS := fun s => (f s).bindS fun ts s => forL g b ts s
section
variable {X : Cx} {tg iter : Expr} {body : List Stmt} {f : S → R (List T)} {g : T → S → R Unit} {b : S → RS} {pos : Pos}
/-- an item has come: it stands, or it is a new pair -/
theorem item_in {M : Md} {s : S} {τ2 : Tg} {σ : L2.St} {H2 H' : Hp} {t : T} {x : V} (rel : Rel M s τ2 σ H2) (h : (H' = H2 ∧ Rp M τ2 H2 t x) ∨ (∃ p o, x = .ref p ∧ H2 p = none ∧ H' = upd H2 p o ∧ NewAt M τ2 H2 false o t)) :
    ∃ τ', Evo τ2 H2 τ' H' ∧ Rel M s τ' σ H' ∧ Rp M τ' H' t x ∧ ∀ D, τ2 D = .free → H2 D ≠ none → τ' D = .free := by
  rcases h with ⟨rfl, h⟩ | ⟨p, o, rfl, hp, rfl, hn⟩
  · exact ⟨τ2, .refl _ _, rel, h, fun D h _ => h⟩
  · obtain ⟨r1, e1⟩ := rel.new (o := o) (g := .frz) hp (.inr (.inl rfl)) hn.ntbl
    refine ⟨_, e1, r1, ?_, fun D h n => ?_⟩
    · cases t <;> first | exact hn.elim | skip
      · obtain ⟨_, vs, e, hv⟩ := hn
        subst e
        exact .tup (.inl ⟨tset_same, upd_same⟩) (hv.mono e1.toKp)
      · obtain ⟨vs, e, hv⟩ := hn
        subst e
        exact .lst ⟨tset_same, upd_same⟩ (hv.mono e1.toKp)
    · have ne : D ≠ p := fun z => by subst z; exact n hp
      rw [tset_ne ne]; exact h
theorem ss_for (hp : PassesOwn (model X.prog X.w) X.A X.env X.xe) (hc : X.calm = true) (hi : SI X tg iter f) (hg : SG X tg g) (hb : SSs X body b)
    (hs : ∀ x, foldedSetIterable iter X.env x = pure x := by intro _; rfl) : SS X (.For tg iter body [] pos) (sFor f g b) := fun W tk => PS.imp (ps_for hp hc (hi W tk) (hg W tk) (hb W tk) hs) fun D σ H ⟨s, τ, rel, post⟩ =>
  runS (R1 := RW (Mx X)) (.refl _ _) rel post fun ts s2 J τ2 H2 ev rel2 wk p => by
    have wk : Walks (Mx X) J ts τ2 H2 := wk
    refine ⟨fun i m σ' H' => m = ts.length - i ∧ i ≤ ts.length ∧ ∃ s' τ', Kp τ2 H2 τ' H' ∧ Rel (Mx X) s' τ' σ' H' ∧ PostS (Mx X) τ' H' (forL g b (ts.drop i) s') D W, ⟨_, rfl, Nat.zero_le _, s2, τ2, Kp.refl _ _, rel2, p.shift ev⟩, ?_⟩
    rintro i m σ' H' ⟨rfl, hle, s', τ', kp, rel', post'⟩
    obtain ⟨w1, w2⟩ := wk i τ' H' kp
    by_cases hlt : i < ts.length
    · have ht : ts[i]? = some ts[i] := List.getElem?_eq_getElem hlt
      obtain ⟨go, yl⟩ := w2 _ ht
      refine .inr ⟨go, fun σ'' H'' => ∃ s' τ', Kp τ2 H2 τ' H'' ∧ Rel (Mx X) s' τ' σ'' H'' ∧ PostS (Mx X) τ' H'' (forL g b (ts.drop (i + 1)) s') D W, fun σ'' H'' q => ⟨ts.length - (i + 1), by omega, rfl, hlt, q⟩, fun x H'' y => ?_⟩
      obtain ⟨τ3, e3, rel3, rp3, _⟩ := item_in rel' (yl x H'' y)
      refine ⟨s', τ3, ts[i], rel3, rp3, ?_⟩
      rw [List.drop_eq_getElem_cons hlt, forL] at post'
      have post' := post'.shift e3
      cases k : g ts[i] s' with
      | stuck => rw [k] at post'; exact post'.elim
      | exc c s4 => rw [k] at post'; exact post'
      | ok u s4 =>
        rw [k] at post'
        simp only at post'
        intro σ4 τ4 H4 ev4 rel4
        refine ⟨s4, τ4, rel4, ?_⟩
        have kp4 := (kp.trans e3.toKp).trans ev4.toKp
        have post' := post'.shift ev4
        cases k2 : b s4 with
        | nxt s5 => rw [k2] at post'; exact fun σ5 τ5 H5 ev5 rel5 => ⟨s5, τ5, kp4.trans ev5.toKp, rel5, post'.shift ev5⟩
        | cnt s5 => rw [k2] at post'; exact fun σ5 τ5 H5 ev5 rel5 => ⟨s5, τ5, kp4.trans ev5.toKp, rel5, post'.shift ev5⟩
        | brk s5 => rw [k2] at post'; exact post'
        | ret b t ob => rw [k2] at post'; exact post'
        | exc cn s5 => rw [k2] at post'; exact post'
        | stuck => rw [k2] at post'; exact post'
    · have e : i = ts.length := by omega
      subst e
      rw [List.drop_length, forL] at post'
      exact .inl ⟨w1 (Nat.le_refl _), post' σ' τ' H' (.refl _ _) rel'⟩
end
end Sv

/-! Sv, part K: hidden slots; list comprehensions. -/
namespace Sv
open PySem PySem.Spec PyProof.Rows L2
variable [Tb]

/-! ### slots hidden, and shown again -/
def hid (P : Nat → Prop) [DecidablePred P] (τ : Tg) : Tg := fun a => match τ a with
  | .slot i => if P i then .free else .slot i
  | g => g
def shw (P : Nat → Prop) [DecidablePred P] (τ τ' : Tg) : Tg := fun a => match τ a with
  | .slot i => if P i then .slot i else τ' a
  | _ => τ' a
section
variable {M : Md} {σ σ' : L2.St} {H H0 H1 H' : Hp} {τ τ0 τ1 τ' : Tg} {s s' : S} {P : Nat → Prop} [DecidablePred P] {a : Addr}
theorem hid_slot {i : Nat} (h : τ a = .slot i) : hid P τ a = if P i then .free else .slot i := by unfold hid; rw [h]
theorem hid_other (h : ∀ i, τ a ≠ .slot i) : hid P τ a = τ a := by
  unfold hid
  cases e : τ a <;> first | rfl | exact absurd e (h _)
theorem shw_slot {i : Nat} (h : τ a = .slot i) : shw P τ τ' a = if P i then .slot i else τ' a := by unfold shw; rw [h]
theorem shw_other (h : ∀ i, τ a ≠ .slot i) : shw P τ τ' a = τ' a := by
  unfold shw
  cases e : τ a <;> first | rfl | exact absurd e (h _)
theorem shw_cases : (∃ i, τ a = .slot i ∧ P i ∧ shw P τ τ' a = .slot i) ∨ (shw P τ τ' a = τ' a ∧ ∀ i, τ a = .slot i → ¬ P i) := by
  cases e : τ a with
  | slot i =>
    by_cases h : P i
    · exact .inl ⟨i, rfl, h, by rw [shw_slot e, if_pos h]⟩
    · exact .inr ⟨by rw [shw_slot e, if_neg h], fun j q => by cases q; exact h⟩
  | _ => exact .inr ⟨shw_other (by rw [e]; simp), fun j q => by cases q⟩
theorem hid_cases : (∃ i, τ a = .slot i ∧ P i ∧ hid P τ a = .free) ∨ (hid P τ a = τ a ∧ ∀ i, τ a = .slot i → ¬ P i) := by
  cases e : τ a with
  | slot i =>
    by_cases h : P i
    · exact .inl ⟨i, rfl, h, by rw [hid_slot e, if_pos h]⟩
    · exact .inr ⟨by rw [hid_slot e, if_neg h], fun j q => by cases q; exact h⟩
  | _ => exact .inr ⟨by rw [hid_other (by rw [e]; simp), e], fun j q => by cases q⟩
theorem kp_hid : Kp τ H (hid P τ) H := ⟨fun b o q h => ⟨by rw [hid_other (by rw [h]; simp)]; exact h, q⟩, fun b r h => by rw [hid_other (by rw [h]; simp)]; exact h⟩
theorem RelO.hid {ob : List OV} (h : RelO M ob τ H) : RelO M ob (hid P τ) H := by
  have back : ∀ b g, Sv.hid P τ b = g → g ≠ .free → τ b = g := fun b g e n => by
    rcases hid_cases (P := P) (τ := τ) (a := b) with ⟨i, _, _, q⟩ | ⟨q, _⟩
    · exact absurd (e.symm.trans q) n
    · exact q.symm.trans e
  refine ⟨fun b r e => ?_, fun b c r e1 e2 => ?_, fun b e => ?_, h.tb.mono (fun b q e => by rw [hid_other (by rw [e]; simp)]; exact e) (fun b q e => back b _ e (by simp)) kp_hid (fun _ _ _ _ z => z) fun _ _ z => z⟩
  · obtain ⟨o, h1, h2⟩ := h.at_ b r (back b _ e (by simp))
    exact ⟨o, h1, h2.kp kp_hid rfl⟩
  · exact h.one b c r (back b _ e1 (by simp)) (back c _ e2 (by simp))
  · exact h.al b fun z => e (by rw [hid_other (by rw [z]; simp)]; exact z)
theorem Rel.hid (rel : Rel M s τ σ H) (hob : s'.ob = s.ob) (hl : σ'.length = s'.sl.length) (hs : ∀ (i : Nat) b t, s'.sl[i]? = some (some (b, t)) → ¬ P i ∧ s.sl[i]? = some (some (b, t)) ∧ σ'[i]? = σ[i]?) : Rel M s' (hid P τ) σ' H := by
  refine ⟨⟨hl, fun i b t q => ?_⟩, by rw [hob]; exact rel.ro.hid⟩
  obtain ⟨h1, h2, h3⟩ := hs i b t q
  obtain ⟨v, e1, e2⟩ := rel.rs.at_ i b t h2
  refine ⟨v, h3.trans e1, e2.kp kp_hid fun c hc _ => ⟨?_, rfl⟩⟩
  rw [hid_slot hc, if_neg h1]
/-- behind the hidden part -/
theorem hidden_kept (al : ∀ a, τ a ≠ .free → H a ≠ none) (e : Evo (hid P τ) H τ' H') {i : Nat} (h : τ a = .slot i) (hp : P i) : τ' a = .free ∧ H' a = H a := by
  obtain ⟨o, ho⟩ := Option.ne_none_iff_exists'.mp (al a (by rw [h]; simp))
  obtain ⟨h1, h2⟩ := e.fr a o ho (by rw [hid_slot h, if_pos hp])
  exact ⟨h1, h2.trans ho.symm⟩
theorem kp_shw (al : ∀ a, τ a ≠ .free → H a ≠ none) (e : Evo (hid P τ) H τ' H') : Kp τ' H' (shw P τ τ') H' := by
  have key : ∀ b, τ' b ≠ .free → shw P τ τ' b = τ' b := fun b n => by
    rcases shw_cases (P := P) (τ := τ) (τ' := τ') (a := b) with ⟨i, h1, h2, _⟩ | ⟨q, _⟩
    · exact absurd (hidden_kept al e h1 h2).1 n
    · exact q
  exact ⟨fun b o q h => ⟨by rw [key b (by rw [h]; simp)]; exact h, q⟩, fun b r h => by rw [key b (by rw [h]; simp)]; exact h⟩
theorem Evo.shw (al : ∀ a, τ a ≠ .free → H a ≠ none) (e : Evo (hid P τ) H τ' H') : Evo τ H (shw P τ τ') H' := by
  refine ⟨(kp_hid.trans e.toKp).trans (kp_shw al e), fun b o q h => ?_, e.th, fun b i h => ?_⟩
  · obtain ⟨h1, h2⟩ := e.fr b o q (by rw [hid_other (by rw [h]; simp)]; exact h)
    exact ⟨by rw [shw_other (by rw [h]; simp)]; exact h1, h2⟩
  · rcases shw_cases (P := P) (τ := τ) (τ' := τ') (a := b) with ⟨j, h1, _, _⟩ | ⟨q, _⟩
    · exact .inr ⟨j, h1⟩
    · rw [q] at h
      rcases e.sl b i h with z | ⟨j, z⟩
      · exact .inl z
      · rcases hid_cases (P := P) (τ := τ) (a := b) with ⟨k, h1, _, _⟩ | ⟨q2, _⟩
        · exact .inr ⟨k, h1⟩
        · exact .inr ⟨j, q2.symm.trans z⟩
theorem RelO.shw {ob : List OV} (al : ∀ a, τ a ≠ .free → H a ≠ none) (e : Evo (Sv.hid P τ) H τ' H') (h : RelO M ob τ' H') : RelO M ob (shw P τ τ') H' := by
  have kp := kp_shw al e
  have back : ∀ b g, Sv.shw P τ τ' b = g → (∀ i, g ≠ .slot i) → τ' b = g := fun b g e1 n => by
    rcases shw_cases (P := P) (τ := τ) (τ' := τ') (a := b) with ⟨j, h1, _, q⟩ | ⟨q, _⟩
    · exact absurd (e1.symm.trans q) (n j)
    · exact q.symm.trans e1
  refine ⟨fun b r e1 => ?_, fun b c r e1 e2 => ?_, fun b e1 => ?_, h.tb.mono (fun b q e1 => ?_) (fun b q e1 => back b _ e1 (by simp)) kp (fun _ _ _ _ z => z) fun _ _ z => z⟩
  · obtain ⟨o, h1, h2⟩ := h.at_ b r (back b _ e1 (by simp))
    exact ⟨o, h1, h2.kp kp rfl⟩
  · exact h.one b c r (back b _ e1 (by simp)) (back c _ e2 (by simp))
  · rcases shw_cases (P := P) (τ := τ) (τ' := τ') (a := b) with ⟨j, h1, h2, _⟩ | ⟨q, _⟩
    · rw [(hidden_kept al e h1 h2).2]
      exact al b (by rw [h1]; simp)
    · exact h.al b (by rw [← q]; exact e1)
  · rcases shw_cases (P := P) (τ := τ) (τ' := τ') (a := b) with ⟨j, h1, h2, _⟩ | ⟨q2, _⟩
    · have := (hidden_kept al e h1 h2).1
      rw [e1] at this
      cases this
    · exact q2.trans e1
/-- the hidden slots as they were, the others as they have become -/
theorem Rel.shw {s0 s1 : S} {σ1 : L2.St} (rel : Rel M s0 τ σ H) (e : Evo (Sv.hid P τ) H τ' H') (rel1 : Rel M s1 τ' σ1 H') (hob : s'.ob = s1.ob) (hl : σ.length = s'.sl.length)
    (hs : ∀ (i : Nat) b t, s'.sl[i]? = some (some (b, t)) → (P i ∧ s0.sl[i]? = some (some (b, t))) ∨ (¬ P i ∧ s1.sl[i]? = some (some (b, t)) ∧ σ1[i]? = σ[i]?)) : Rel M s' (shw P τ τ') σ H' := by
  have al := rel.ro.al
  refine ⟨⟨hl, fun i b t q => ?_⟩, by rw [hob]; exact RelO.shw al e rel1.ro⟩
  rcases hs i b t q with ⟨hp, h1⟩ | ⟨hp, h1, h2⟩
  · obtain ⟨v, e1, e2⟩ := rel.rs.at_ i b t h1
    refine ⟨v, e1, e2.kp (Evo.shw al e).toKp fun c hc _ => ?_⟩
    exact ⟨by rw [shw_slot hc, if_pos hp], (hidden_kept al e hc hp).2⟩
  · obtain ⟨v, e1, e2⟩ := rel1.rs.at_ i b t h1
    refine ⟨v, h2.symm.trans e1, e2.kp (kp_shw al e) fun c hc _ => ⟨?_, rfl⟩⟩
    rcases shw_cases (P := P) (τ := τ) (τ' := τ') (a := c) with ⟨j, h3, h4, _⟩ | ⟨q2, _⟩
    · have := (hidden_kept al e h3 h4).1
      rw [hc] at this
      cases this
    · exact q2.trans hc
end

/-! ### the slots of a comprehension's own names -/
def wipeS (sl : List (Option (Bool × T))) : List Nat → List (Option (Bool × T))
  | [] => sl
  | v :: vs => (wipeS sl vs).set v none
def backS (sl0 sl1 : List (Option (Bool × T))) : List Nat → List (Option (Bool × T))
  | [] => sl1
  | v :: vs => (backS sl0 sl1 vs).set v (match sl0[v]? with | some x => x | none => none)
theorem wipeS_length (sl : List (Option (Bool × T))) : ∀ vs : List Nat, (wipeS sl vs).length = sl.length
  | [] => rfl
  | v :: vs => by unfold wipeS; rw [List.length_set, wipeS_length sl vs]
theorem backS_length (sl0 sl1 : List (Option (Bool × T))) : ∀ vs : List Nat, (backS sl0 sl1 vs).length = sl1.length
  | [] => rfl
  | v :: vs => by unfold backS; rw [List.length_set, backS_length sl0 sl1 vs]
theorem wipeS_some {sl : List (Option (Bool × T))} {i : Nat} {x : Bool × T} : ∀ {vs : List Nat}, (wipeS sl vs)[i]? = some (some x) → sl[i]? = some (some x) ∧ i ∉ vs
  | [], h => ⟨h, by simp⟩
  | v :: vs, h => by
    unfold wipeS at h
    by_cases hi : v = i
    · subst hi
      by_cases hv : v < (wipeS sl vs).length
      · rw [List.getElem?_set_self hv] at h; cases h
      · rw [List.getElem?_eq_none (by simpa using hv)] at h; cases h
    · rw [List.getElem?_set_ne hi] at h
      obtain ⟨h1, h2⟩ := wipeS_some h
      exact ⟨h1, by simp only [List.mem_cons, not_or]; exact ⟨fun e => hi e.symm, h2⟩⟩
theorem backS_some {sl0 sl1 : List (Option (Bool × T))} {i : Nat} {x : Bool × T} : ∀ {vs : List Nat}, (backS sl0 sl1 vs)[i]? = some (some x) → (i ∈ vs ∧ sl0[i]? = some (some x)) ∨ (i ∉ vs ∧ sl1[i]? = some (some x))
  | [], h => .inr ⟨by simp, h⟩
  | v :: vs, h => by
    unfold backS at h
    by_cases hi : v = i
    · subst hi
      by_cases hv : v < (backS sl0 sl1 vs).length
      · rw [List.getElem?_set_self hv] at h
        refine .inl ⟨by simp, ?_⟩
        split at h
        · rename_i y e
          rw [e]
          exact h
        · cases h
      · rw [List.getElem?_eq_none (by simpa using hv)] at h; cases h
    · rw [List.getElem?_set_ne hi] at h
      rcases backS_some h with ⟨h1, h2⟩ | ⟨h1, h2⟩
      · exact .inl ⟨by simp [h1], h2⟩
      · exact .inr ⟨by simp only [List.mem_cons, not_or]; exact ⟨fun e => hi e.symm, h1⟩, h2⟩
theorem wipe_in {σ : L2.St} {i : Nat} : ∀ {vs : List Nat}, i ∈ vs → (wipe σ vs)[i]? = if i < σ.length then some none else none
  | [], h => by simp at h
  | v :: vs, h => by
    unfold wipe
    by_cases e : v = i
    · subst e
      by_cases hv : v < σ.length
      · rw [if_pos hv, List.getElem?_set_self (by rw [wipe_length]; exact hv)]
      · rw [if_neg hv, List.getElem?_eq_none (by rw [List.length_set, wipe_length]; omega)]
    · rw [List.getElem?_set_ne e]
      exact wipe_in (by simpa [Ne.symm e] using h)
theorem wipe_eq {σ σ' : L2.St} {vs : List Nat} (hl : σ'.length = σ.length) (h : ∀ i, i ∉ vs → σ'[i]? = σ[i]?) : wipe σ' vs = wipe σ vs := by
  apply List.ext_getElem?
  intro i
  by_cases hi : i ∈ vs
  · rw [wipe_in hi, wipe_in hi, hl]
  · rw [wipe_out hi, wipe_out hi, h i hi]
theorem wipe_idem {σ : L2.St} {vs : List Nat} : wipe (wipe σ vs) vs = wipe σ vs := wipe_eq (wipe_length σ vs) fun i hi => wipe_out hi
theorem wipe_at {σ σ' : L2.St} {vs : List Nat} (h : wipe σ' vs = wipe σ vs) {i : Nat} (hi : i ∉ vs) : σ'[i]? = σ[i]? := by
  have e1 : (wipe σ' vs)[i]? = (wipe σ vs)[i]? := by rw [h]
  rwa [wipe_out hi, wipe_out hi] at e1

/-! ### targets that are names of the comprehension -/
def tGw (M : Md) (vs : List Nat) (g : T → S → R Unit) : TG := fun v σ H Q => ∃ s τ t s', Rel M s τ σ H ∧ Rp M τ H t v ∧ g t s = .ok () s' ∧ (∀ σ', wipe σ' vs = wipe σ vs → Rel M s' τ σ' H → Q σ' H)
def tGws (M : Md) (vs : List Nat) (g : List T → S → R Unit) : TGs := fun ws σ H Q => ∃ s τ ts s', Rel M s τ σ H ∧ Rps M τ H ts ws ∧ g ts s = .ok () s' ∧ (∀ σ', wipe σ' vs = wipe σ vs → Rel M s' τ σ' H → Q σ' H)
def SGw (X : Cx) (vs : List Nat) (e : Expr) (g : T → S → R Unit) : Prop := PG X e (tGw (Mx X) vs g)
def SGws (X : Cx) (vs : List Nat) (e : List Expr) (g : List T → S → R Unit) : Prop := PGs X e (tGws (Mx X) vs g)
section
variable {X : Cx} {e : Expr} {es : List Expr} {g : T → S → R Unit} {h : List T → S → R Unit} {pos : Pos} {vs : List Nat}
theorem sgw_name {i : Nat} {x : Str} (hN : X.N.Nodup) (hi : X.N[i]? = some x) (hx : Loc X.env.scope x) (hv : i ∈ vs) (hf : X.fn x = true ∨ X.env.scope.names.lookup x = some .local := by first | exact .inl rfl | exact .inr rfl | assumption) : SGw X vs (.Name x pos) (gSet i) :=
  PG.imp (pg_name hN hi hx hf) fun v σ H Q ⟨s, τ, t, s', rel, rp, e, q⟩ => by
    cases e
    refine q _ (wipe_eq (List.length_set ..) fun j hj => ?_) (rel.set (b := false) rp)
    have ne : i ≠ j := fun z => by subst z; exact hj hv
    rw [List.getElem?_set_ne ne]
theorem sgws_nil : SGws X vs [] gNil := PGs.imp pgs_nil fun ws σ H Q ⟨s, τ, ts, s', rel, rp, e, q⟩ => by
  cases rp with
  | nil => cases e; exact ⟨rfl, q σ rfl rel⟩
  | cons _ _ => cases e
theorem sgws_cons (h1 : SGw X vs e g) (h2 : SGws X vs es h) (hs : (assignEach (e :: es) X.env).map (·.2) = assign e X.env :: (assignEach es X.env).map (·.2) := by rfl) : SGws X vs (e :: es) (gCons g h) :=
  PGs.imp (pgs_cons h1 h2 hs) fun ws σ H Q ⟨s, τ, ts, s', rel, rp, e, q⟩ => by
    cases rp with
    | nil => cases e
    | @cons t v ts ws r rs =>
      have e : (g t s).bind (fun _ s => h ts s) = .ok () s' := e
      cases k : g t s with
      | ok u s1 =>
        rw [k] at e
        exact ⟨v, ws, rfl, s, τ, t, s1, rel, r, k, fun σ' hw rel' => ⟨s1, τ, ts, s', rel', rs, e, fun σ'' hw' rel'' => q σ'' (hw'.trans hw) rel''⟩⟩
      | exc c s1 => rw [k] at e; cases e
      | stuck => rw [k] at e; cases e
theorem sgw_tup {n k : Nat} (hc : X.calm = true) (h1 : SGws X vs es h) (hn : (assignEach es X.env).length = n := by rfl) (hst : (assignEach es X.env).findIdx? (·.1) = none := by rfl) : SGw X vs (.Tuple es k pos) (gTup n h) :=
  PG.imp (pg_tup hc h1 hn hst) fun v σ H Q ⟨s, τ, t, s', rel, rp, e, q⟩ => by
    unfold gTup at e
    split at e
    · split at e
      · rename_i hl
        cases rp with
        | tup q1 q2 => exact ⟨_, _, rfl, q1.sq, by rw [← q2.length]; exact hl, s, τ, _, s', rel, q2, e, q⟩
      · cases e
    · cases e
end

/-! ### list comprehensions -/
def compL (vs : List Nat) (g : T → S → R Unit) (c : S → R Bool) (e : S → R Res) : List T → List T → S → R (List T)
  | [], acc, s => .ok acc s
  | t :: ts, acc, s => match g t s with
    | .ok _ s => (match c s with
      | .ok true s => (match e s with
        | .ok r s => (match frz s r with
          | some (y, s) => if szok (acc.length + 1) = true then compL vs g c e ts (acc ++ [y]) ⟨wipeS s.sl vs, s.ob⟩ else .stuck
          | none => .stuck)
        | _ => .stuck)
      | .ok false s => compL vs g c e ts acc ⟨wipeS s.sl vs, s.ob⟩
      | _ => .stuck)
    | _ => .stuck
def eLC (vs : List Nat) (fi : S → R (List T)) (g : T → S → R Unit) (c : S → R Bool) (e : S → R Res) : S → R Res := fun s => (fi s).bind fun ts s1 => match compL vs g c e ts [] ⟨wipeS s1.sl vs, s1.ob⟩ with
  | .ok l s2 => .ok (.tmp (.lst l)) ⟨backS s1.sl s2.sl vs, s2.ob⟩
  | _ => .stuck
def cYes : S → R Bool := fun s => .ok true s
def STs (X : Cx) (es : List Expr) (f : S → R Bool) : Prop := ∀ W, Takes X W → PTs X es (tG (Mx X) RBool f W)
theorem PTs.imp {X : Cx} {e : List Expr} {t t' : TT} (h : PTs X e t) (i : ∀ σ H Q, t' σ H Q → t σ H Q) : PTs X e t' := ⟨fun pins s σ H Q I q => h.run pins s σ H Q I (i σ H Q q)⟩
theorem sts_nil {X : Cx} : STs X [] cYes := fun W tk => PTs.imp pts_nil fun σ H Q ⟨s, τ, rel, post⟩ => post true τ H (.refl _ _) rel rfl
theorem sts_one {X : Cx} {c : Expr} {f : S → R Bool} (h : ST X c f) : STs X [c] f := fun W tk => pts_one (h W tk)
section
variable {M : Md} {σ : L2.St} {H : Hp} {τ : Tg} {s : S}
/-- a container that no tree holds is written -/
theorem Rel.wrFree {D : Addr} {o : HO} {xs : List V} (rel : Rel M s τ σ H) (h1 : τ D = .free) (h2 : H D = some (.lst xs)) (ho : ∀ ps, o ≠ .tbl ps := by intro _ z; cases z) : Rel M s τ σ (upd H D o) ∧ Kp τ H τ (upd H D o) := by
  have kp : Kp τ H τ (upd H D o) := ⟨fun b u q h => ⟨h, by rw [upd_ne fun z => by subst z; rw [h1] at h; cases h]; exact q⟩, fun b r h => h⟩
  refine ⟨⟨rel.rs.kp kp fun b i h _ => ⟨h, upd_ne fun z => by subst z; rw [h1] at h; cases h⟩, ⟨fun b r h => ?_, rel.ro.one, fun b h => ?_, rel.ro.tb.mono (fun _ _ t => t) (fun _ _ t => t) kp (fun b q ps h z => ?_) fun b ps e => ?_⟩⟩, kp⟩
  · obtain ⟨ov, e1, e2⟩ := rel.ro.at_ b r h
    exact ⟨ov, e1, e2.kp kp (upd_ne fun z => by subst z; rw [h1] at h; cases h)⟩
  · by_cases e : b = D
    · rw [e, upd_same]; simp
    · rw [upd_ne e]; exact rel.ro.al b h
  · rw [upd_ne fun z => by subst z; rw [h1] at h; cases h]; exact z
  · by_cases e2 : b = D
    · subst e2; rw [upd_same] at e; exact absurd (Option.some.inj e) (ho ps)
    · rw [upd_ne e2] at e; exact e
theorem Rel.wiped {vs : List Nat} {σ' : L2.St} (rel : Rel M s τ σ H) (hw : wipe σ vs = wipe σ' vs) : Rel M ⟨wipeS s.sl vs, s.ob⟩ τ (wipe σ' vs) H := by
  refine ⟨⟨by rw [← hw, wipe_length, wipeS_length]; exact rel.rs.len, fun i b t q => ?_⟩, rel.ro⟩
  obtain ⟨h1, h2⟩ := wipeS_some q
  obtain ⟨v, e1, e2⟩ := rel.rs.at_ i b t h1
  exact ⟨v, by rw [← hw, wipe_out h2]; exact e1, e2⟩
end
section
variable {X : Cx} {elt tg iter : Expr} {ifs : List Expr} {scope : Scope} {own : List (Str × Nat)} {pos : Pos} {fi : S → R (List T)} {g : T → S → R Unit} {c : S → R Bool} {e : S → R Res}
theorem lc_run {M : Md} {vs : List Nat} {W : WX} {σ : L2.St} {H : Hp} {Q : VK} (h : tG M (RRes M) (eLC vs fi g c e) W σ H Q) :
    tLc (tG M (RW M) fi W) (tGw M vs g) (tG M RBool c fun _ _ _ _ => False) (tG M (RRes M) e fun _ _ _ _ => False) vs σ H Q := by
  obtain ⟨s, τ, rel, post⟩ := h
  refine run1 (R1 := RW M) (.refl _ _) rel post fun ts s1 J τ1 H1 ev1 rel1 wk p => ?_
  have wk : Walks M J ts τ1 H1 := wk
  intro D hD
  -- the whole run
  cases hfin : compL vs g c e ts [] ⟨wipeS s1.sl vs, s1.ob⟩ with
  | stuck => rw [hfin] at p; exact p.elim
  | exc cn s2 => rw [hfin] at p; exact p.elim
  | ok l s2 =>
    rw [hfin] at p
    obtain ⟨relD, evD⟩ := rel1.new (o := .lst []) (g := .free) hD (.inl rfl) fun _ z => nomatch z
    have tD : τ1 D = .free := Classical.byContradiction fun z => rel1.ro.al D z hD
    have eqD : tset τ1 D .free = τ1 := by
      funext b
      by_cases z : b = D
      · rw [z, tset_same, tD]
      · rw [tset_ne z]
    rw [eqD] at relD evD
    have rel0 : Rel M ⟨wipeS s1.sl vs, s1.ob⟩ (hid (· ∈ vs) τ1) (wipe σ vs) (upd H1 D (.lst [])) := by
      refine relD.hid rfl (by rw [wipe_length, wipeS_length]; exact rel1.rs.len) fun i b t q => ?_
      obtain ⟨h1, h2⟩ := wipeS_some q
      exact ⟨h2, h1, wipe_out h2⟩
    have evH : Evo (hid (· ∈ vs) τ1) H1 (hid (· ∈ vs) τ1) (upd H1 D (.lst [])) := Evo.ext (fun a o q => ⟨by rw [upd_ne (ne_of_none q hD)]; exact q, rfl⟩) rel1.ro.hid.al
    have hDf : hid (· ∈ vs) τ1 D = .free := by rw [hid_other (by rw [tD]; simp)]; exact tD
    refine ⟨fun i m H' => m = ts.length - i ∧ i ≤ ts.length ∧ ∃ s' τ' accT accV, Evo (hid (· ∈ vs) τ1) H1 τ' H' ∧ Rel M s' τ' (wipe σ vs) H' ∧ τ' D = .free ∧ H' D = some (.lst accV) ∧ Rps M τ' H' accT accV ∧ compL vs g c e (ts.drop i) accT s' = .ok l s2,
      ⟨_, rfl, Nat.zero_le _, _, _, [], [], evH, rel0, hDf, upd_same, .nil, hfin⟩, ?_⟩
    rintro i m H' ⟨rfl, hle, s', τ', accT, accV, ev', rel', tD', hD', rs', fin'⟩
    have kpw : Kp τ1 H1 τ' H' := kp_hid.trans ev'.toKp
    obtain ⟨w1, w2⟩ := wk i τ' H' kpw
    by_cases hlt : i < ts.length
    · have ht : ts[i]? = some ts[i] := List.getElem?_eq_getElem hlt
      obtain ⟨go, yl⟩ := w2 _ ht
      rw [List.drop_eq_getElem_cons hlt, compL] at fin'
      refine .inr ⟨go, fun H'' => ∃ s' τ' accT accV, Evo (hid (· ∈ vs) τ1) H1 τ' H'' ∧ Rel M s' τ' (wipe σ vs) H'' ∧ τ' D = .free ∧ H'' D = some (.lst accV) ∧ Rps M τ' H'' accT accV ∧ compL vs g c e (ts.drop (i + 1)) accT s' = .ok l s2,
        fun H'' q => ⟨ts.length - (i + 1), by omega, rfl, hlt, q⟩, fun x H'' y => ?_⟩
      obtain ⟨τ3, e3, rel3, rp3, fD⟩ := item_in rel' (yl x H'' y)
      have tD3 := fD D tD' (by rw [hD']; simp)
      have hD3 : H'' D = some (.lst accV) := (e3.fr D _ hD' tD').2
      cases k : g ts[i] s' with
      | stuck => rw [k] at fin'; cases fin'
      | exc cn s4 => rw [k] at fin'; cases fin'
      | ok u s4 =>
        rw [k] at fin'
        simp only at fin'
        refine ⟨s', τ3, ts[i], s4, rel3, rp3, k, fun σ4 hw rel4 => ⟨hw.trans wipe_idem, s4, τ3, rel4, ?_⟩⟩
        rw [wipe_idem] at hw
        cases k2 : c s4 with
        | stuck => rw [k2] at fin'; cases fin'
        | exc cn s5 => rw [k2] at fin'; cases fin'
        | ok b s5 =>
          rw [k2] at fin'
          intro b' τ5 H5 ev5 rel5 eb
          have eb : b' = b := eb
          subst eb
          have tD5 := ev5.fr D _ hD3 tD3
          have evA := (ev'.trans e3).trans ev5
          have rs5 := rs'.mono (e3.toKp.trans ev5.toKp)
          cases b' with
          | false =>
            simp only at fin'
            rw [if_neg Bool.false_ne_true]
            exact ⟨_, τ5, accT, accV, evA, rel5.wiped hw, tD5.1, tD5.2, rs5, fin'⟩
          | true =>
            simp only at fin'
            rw [if_pos rfl]
            cases k3 : e s5 with
            | stuck => rw [k3] at fin'; cases fin'
            | exc cn s6 => rw [k3] at fin'; cases fin'
            | ok r s6 =>
              rw [k3] at fin'
              simp only at fin'
              refine ⟨s5, τ5, rel5, ?_⟩
              rw [k3]
              intro yv τ6 H6 ev6 rel6 r6
              have tD6 := ev6.fr D _ tD5.2 tD5.1
              split at fin'
              · rename_i y s7 ef
                split at fin'
                · rename_i hz
                  obtain ⟨τ7, e7, kp7, rel7, rp7⟩ := RelR.frz rel6 ev6 r6 ef
                  have tD7 := e7.fr D _ tD5.2 tD5.1
                  have rs7 := (rs5.mono e7.toKp).append (Rps.cons rp7 .nil)
                  obtain ⟨rel8, kp8⟩ := rel7.wrFree (o := .lst (accV ++ [yv])) tD7.1 tD6.2
                  refine ⟨accV, tD6.2, ?_, _, τ7, accT ++ [y], accV ++ [yv], ?_, rel8.wiped hw, tD7.1, upd_same, rs7.mono kp8, fin'⟩
                  · have := szok_le hz
                    rw [rs'.length] at this
                    omega
                  · have evB := evA.trans e7
                    refine ⟨evB.toKp.trans kp8, fun b o q h => ?_, fun b q => ?_, evB.sl⟩
                    · obtain ⟨h1, h2⟩ := evB.fr b o q h
                      exact ⟨h1, by rw [upd_ne (ne_of_none q hD)]; exact h2⟩
                    · by_cases z : b = D
                      · rw [z, upd_same]; simp
                      · rw [upd_ne z]; exact evB.th b q
                · cases fin'
              · cases fin'
    · have e : i = ts.length := by omega
      subst e
      rw [List.drop_length, compL] at fin'
      cases fin'
      refine .inl ⟨w1 (Nat.le_refl _), ?_⟩
      have al := rel1.ro.al
      have evF := Evo.shw al ev'
      refine p (.ref D) (shw (· ∈ vs) τ1 τ') H' (ev1.trans evF) ?_ ⟨D, rfl, ev1.back hD, ?_, accV, hD', rs'.mono (kp_shw al ev')⟩
      · refine Rel.shw rel1 ev' rel' rfl (by rw [backS_length, ← rel'.rs.len, wipe_length]) fun i b t q => ?_
        rcases backS_some q with h | ⟨h1, h2⟩
        · exact .inl h
        · exact .inr ⟨h1, h2, wipe_out h1⟩
      · rw [shw_other (by rw [tD]; simp)]; exact tD'
theorem se_lc (hc : X.calm = true) (hN : X.N.Nodup) (hi : SI X tg iter fi) (ok : BlkOk X.N X.env.scope scope own)
    (hg : ∀ (s : Shared) (H : Hp) (C : Addr) (cl : List (Str × Addr)) (fp : List Addr), SGw (X.blk s H scope (compEnvC scope cl C X.env) fp) (own.map (·.2)) tg g)
    (ht : ∀ (s : Shared) (H : Hp) (C : Addr) (cl : List (Str × Addr)) (fp : List Addr), STs (X.blk s H scope (compEnvC scope cl C X.env) fp) ifs c)
    (he : ∀ (s : Shared) (H : Hp) (C : Addr) (cl : List (Str × Addr)) (fp : List Addr), SE (X.blk s H scope (compEnvC scope cl C X.env) fp) elt e) (hs : ∀ x, foldedSetIterable iter X.env x = pure x := by intro _; rfl) :
    SE X (.ListComp elt [⟨tg, iter, ifs, 0⟩] scope pos) (eLC (own.map (·.2)) fi g c e) := fun W tk =>
  PE.imp (pe_lc (g := tGw (Mx X) (List.map (fun x : Str × Nat => x.snd) own) g) (tt := tG (Mx X) RBool c fun _ _ _ _ => False) (te := tG (Mx X) (RRes (Mx X)) e fun _ _ _ _ => False) hc hN (hi W tk) ok (fun s H C cl fp => hg s H C cl fp) (fun s H C cl fp => ht s H C cl fp _ takes0) (fun s H C cl fp => he s H C cl fp _ takes0) hs) fun σ H Q h => lc_run h
end
end Sv

/-! Sv, part L: defs, their calls, what is raised, what a law is told. -/
namespace Sv
open PySem PySem.Spec PyProof.Rows L2
variable [Tb]

inductive FR where
  | ok (b : Bool) (t : T) (ob : List OV) | exc (c : Str) (ob : List OV) | stuck
abbrev Fn := List T → List OV → FR
def spF (M : Md) (n : Nat) (G : Fn) : Sp := fun vs H Q E => ∃ τ ob ts, (∀ a i, τ a ≠ Tag.slot i) ∧ RelO M ob τ H ∧ Rps M τ H ts vs ∧ ts.length = n ∧ (match G ts ob with
  | .ok b t ob' => ∀ v τ' H', Evo τ H τ' H' → RelO M ob' τ' H' → VO M H τ' H' b t v → Q v H'
  | .exc c ob' => ∀ C d τ' H', M.mg c = some (.ref C) → Evo τ H τ' H' → RelO M ob' τ' H' → E (.ref C) d H'
  | .stuck => False)
def mkFn (n k : Nat) (body : S → RS) : Fn := fun ts ob => if ts.length = n then (match body ⟨ts.map (fun t => some (false, t)) ++ List.replicate (k - n) none, ob⟩ with
  | .nxt s => .ok false .non s.ob
  | .ret b t ob => .ok b t ob
  | .exc c s => .exc c s.ob
  | _ => .stuck) else .stuck
section
variable {M : Md} {τ τ' : Tg} {H H' : Hp}
theorem retV_VO {ob : List OV} {b : Bool} {t : T} {v : V} (ns : ∀ a i, τ a ≠ .slot i) (ev : Evo τ H τ' H') (ro : RelO M ob τ' H') (h : RetV M τ' H' H b t v) : ∃ τ'', Evo τ H τ'' H' ∧ RelO M ob τ'' H' ∧ VO M H τ'' H' b t v := by
  cases b with
  | false => exact ⟨τ', ev, ro, h⟩
  | true =>
    obtain ⟨a, rfl, e2, e3⟩ := h
    rcases e2 with ⟨e2, e4⟩ | ⟨i, e2⟩
    · exact ⟨τ', ev, ro, a, rfl, e4, e2, e3⟩
    · have hn : H a = none := by
        rcases ev.sl a i e2 with z | ⟨j, z⟩
        · exact z
        · exact absurd z (ns a j)
      have kp : Kp τ' H' (tset τ' a .free) H' := ⟨fun b o q h => ⟨by rw [tset_ne fun z => by subst z; rw [e2] at h; cases h]; exact h, q⟩, fun b r h => by rw [tset_ne fun z => by subst z; rw [e2] at h; cases h]; exact h⟩
      have back : ∀ b g, tset τ' a .free b = g → g ≠ .free → τ' b = g ∧ b ≠ a := fun b g h n => by
        by_cases e : b = a
        · subst e; rw [tset_same] at h; exact absurd h.symm n
        · rw [tset_ne e] at h; exact ⟨h, e⟩
      refine ⟨tset τ' a .free, ⟨ev.toKp.trans kp, fun b o q h => ?_, ev.th, fun b j h => ev.sl b j (back b _ h (by simp)).1⟩, ⟨fun b r h => ?_, fun b c r h1 h2 => ?_, fun b h => ?_, ro.tb.mono (fun b q h => by rw [tset_ne fun z => by subst z; rw [e2] at h; cases h]; exact h) (fun b q h => (back b _ h (by simp)).1) kp (fun _ _ _ _ z => z) fun _ _ z => z⟩, a, rfl, hn, tset_same, e3.kp kp rfl⟩
      · obtain ⟨h1, h2⟩ := ev.fr b o q h
        exact ⟨by rw [tset_ne (ne_of_none q hn)]; exact h1, h2⟩
      · obtain ⟨o, h1, h2⟩ := ro.at_ b r (back b _ h (by simp)).1
        exact ⟨o, h1, h2.kp kp rfl⟩
      · exact ro.one b c r (back b _ h1 (by simp)).1 (back c _ h2 (by simp)).1
      · exact ro.al b fun z => h (by
          by_cases e : b = a
          · subst e; exact tset_same
          · rw [tset_ne e]; exact z)
end
section
variable {P : Program} {w : World} {K : PySem.W.Frag} {mg : Str → Option Value} {base : Heap}
/-- a def whose body is served -/
theorem fn_okAt {x qual : Str} {params : Arguments} {bd : List Stmt} {scope : Scope} {dV kV doc pm cdv ct oc : Value} {an od : Option Addr} {osl : Array (Option Value)} {f : Addr} {N ps : List Str} {k : Nat} {body : S → RS}
    (lk : K.lookup f = some ⟨oc, od, .func (PySem.W.fnOf x qual params bd scope dV kV doc pm an cdv ct), osl⟩) (hcd : PySem.W.codeIn K cdv qual = true) (Sc : FnScope N ps scope) (hl : ps.length ≤ N.length)
    (hb : ∀ (A : Around) (outer : List Env) (s : Shared) (H : Hp) (E : XK), Rm (cxOf (L2.CX P w) P w K mg base N qual scope f cdv A outer s H E) k → PassesOwn (model P w) (A.deeper (envOfC qual scope s.heap.objs.size f cdv)) (envOfC qual scope s.heap.objs.size f cdv) (cxOf (L2.CX P w) P w K mg base N qual scope f cdv A outer s H E).xe →
      SSs (cxOf (L2.CX P w) P w K mg base N qual scope f cdv A outer s H E) bd body) :
    FnOk P w K mg base (L2.CX P w) (k + 1) f (PySem.W.fnOf x qual params bd scope dV kV doc pm an cdv ct) ps (spF ⟨K, mg, Tb.T, Tb.L⟩ ps.length (mkFn ps.length N.length body)) := by
  refine fn_of lk hcd Sc (fun vs H Q E h => ?_) (fun A outer s H vs Q E hr h => ?_)
  · obtain ⟨τ, ob, ts, _, _, h1, h2, _⟩ := h
    rw [← h1.length, h2]
  · obtain ⟨τ, ob, ts, ns, ro, rs, hn, h⟩ := h
    refine ⟨_, hb A outer s H E ⟨hr, rfl, Sc.nd⟩ (passes_of (E₁ := fun e' s'' => L2.CX P w outer H s E e' s'') (K := fun e s'' => L2.CX P w outer H s E e s'') rfl) _ (takes_of (E₁ := fun e' s'' => L2.CX P w outer H s E e' s'') rfl rfl rfl rfl), ⟨ts.map (fun t => some (false, t)) ++ List.replicate (N.length - ps.length) none, ob⟩, τ, ⟨⟨?_, fun i b t q => ?_⟩, ro⟩, ?_⟩
    · have hv := rs.length
      simp only [L2.start, List.length_append, List.length_map, List.length_replicate]
      omega
    · have hv := rs.length
      have hi : i < ts.length := by
        refine Classical.byContradiction fun z => ?_
        rw [List.getElem?_append_right (by simpa using z)] at q
        rw [List.getElem?_replicate] at q
        split at q <;> cases q
      rw [List.getElem?_append_left (by simpa using hi), List.getElem?_map] at q
      cases e : ts[i]? with
      | none => rw [e] at q; cases q
      | some t' =>
        rw [e] at q
        cases q
        obtain ⟨v, e1, e2⟩ := rs.get e
        refine ⟨v, ?_, e2⟩
        have hi2 : i < vs.length := by omega
        unfold L2.start
        rw [List.getElem?_append_left (by simpa using hi2), List.getElem?_map, e1]
        rfl
    · unfold mkFn at h
      rw [if_pos hn] at h
      cases e : body ⟨ts.map (fun t => some (false, t)) ++ List.replicate (N.length - ps.length) none, ob⟩ with
      | nxt s1 => rw [e] at h; exact fun σ' τ' H' ev rel => h .non τ' H' ev rel.ro .non
      | brk s1 => rw [e] at h; exact h.elim
      | cnt s1 => rw [e] at h; exact h.elim
      | stuck => rw [e] at h; exact h
      | exc c s1 => rw [e] at h; exact fun C d σ' τ' H' hc ev rel => h C d τ' H' hc ev rel.ro
      | ret b t ob1 =>
        rw [e] at h
        intro v τ' H' ev ro' rv
        obtain ⟨τ'', e1, e2, e3⟩ := retV_VO ns ev ro' rv
        exact h v τ'' H' e1 e2 e3
theorem fn_ok {x qual : Str} {st : Stmt} {f : Addr} {fd : FuncData} {N ps : List Str} {k : Nat} {body : S → RS} (F : Fun K x qual st f fd) (Sc : FnScope N ps (defScope st)) (hl : ps.length ≤ N.length)
    (hb : ∀ (cdv : Value) (A : Around) (outer : List Env) (s : Shared) (H : Hp) (E : XK), Rm (cxOf (L2.CX P w) P w K mg base N qual (defScope st) f cdv A outer s H E) k → PassesOwn (model P w) (A.deeper (envOfC qual (defScope st) s.heap.objs.size f cdv)) (envOfC qual (defScope st) s.heap.objs.size f cdv) (cxOf (L2.CX P w) P w K mg base N qual (defScope st) f cdv A outer s H E).xe →
      SSs (cxOf (L2.CX P w) P w K mg base N qual (defScope st) f cdv A outer s H E) (defBody st) body) :
    FnOk P w K mg base (L2.CX P w) (k + 1) f fd ps (spF ⟨K, mg, Tb.T, Tb.L⟩ ps.length (mkFn ps.length N.length body)) := by
  obtain ⟨oc, od, kV, doc, pm, an, cdv, ct, osl, e, lk, hcd⟩ := F.ex
  subst e
  exact fn_okAt lk hcd Sc hl fun A outer s H E => hb cdv A outer s H E
end

/-! ### calls -/
def afterF (r : FR) (s : S) : R Res := match r with
  | .ok b t ob => .ok (if b = true then .tmp t else .val t) ⟨s.sl, ob⟩
  | .exc c ob => .exc c ⟨s.sl, ob⟩
  | .stuck => .stuck
def eCall (G : Fn) (fa : S → R (List T)) : S → R Res := fun s => (fa s).bind fun ts s => afterF (G ts s.ob) s
section
variable {M : Md} {σ : L2.St} {H H0 : Hp} {τ τ0 : Tg} {s : S}
/-- the promise of a callee, from what is wanted -/
theorem call_spF {W : WX} {Q : VK} {G : Fn} {n : Nat} {ts : List T} {vs : List V} (rel : Rel M s τ σ H) (rs : Rps M τ H ts vs) (ev : Evo τ0 H0 τ H) (hn : ts.length ≠ n → G ts s.ob = .stuck) (p : Post M (RRes M) σ τ0 H0 (afterF (G ts s.ob) s) Q W) :
    spF M n G vs H Q (WE W σ) := by
  have len : ts.length = n := Classical.byContradiction fun z => by rw [hn z] at p; exact p
  refine ⟨hid (fun _ => True) τ, s.ob, ts, fun a i e => ?_, rel.ro.hid, rs.mono kp_hid, len, ?_⟩
  · rcases hid_cases (P := fun _ => True) (τ := τ) (a := a) with ⟨j, _, _, q⟩ | ⟨q, h⟩
    · rw [q] at e; cases e
    · exact h i (q.symm.trans e) trivial
  · have al := rel.ro.al
    have shown : ∀ {τ' : Tg} {H' : Hp} {ob' : List OV}, Evo (hid (fun _ => True) τ) H τ' H' → RelO M ob' τ' H' → Evo τ H (shw (fun _ => True) τ τ') H' ∧ Kp τ' H' (shw (fun _ => True) τ τ') H' ∧ Rel M ⟨s.sl, ob'⟩ (shw (fun _ => True) τ τ') σ H' := fun {τ' H' ob'} e ro => by
      refine ⟨Evo.shw al e, kp_shw al e, ⟨⟨rel.rs.len, fun i b t q => ?_⟩, RelO.shw al e ro⟩⟩
      obtain ⟨v, e1, e2⟩ := rel.rs.at_ i b t q
      refine ⟨v, e1, e2.kp (Evo.shw al e).toKp fun c hc _ => ⟨by rw [shw_slot hc, if_pos trivial], (hidden_kept al e hc trivial).2⟩⟩
    cases e : G ts s.ob with
    | stuck => rw [e] at p; exact p
    | exc c ob' =>
      rw [e] at p
      intro C d τ' H' hc ev' ro'
      obtain ⟨e1, e2, e3⟩ := shown ev' ro'
      exact p C d _ H' hc (ev.trans e1) e3
    | ok b t ob' =>
      rw [e] at p
      intro v τ' H' ev' ro' vo
      obtain ⟨e1, e2, e3⟩ := shown ev' ro'
      cases b with
      | false => exact p v _ H' (ev.trans e1) e3 (Rp.mono e2 vo)
      | true =>
        obtain ⟨a, rfl, k1, k2, k3⟩ := vo
        refine p (.ref a) _ H' (ev.trans e1) e3 ⟨a, rfl, ev.back k1, ?_, k3.kp e2 rfl⟩
        rw [shw_other fun i z => al a (by rw [z]; simp) k1]
        exact k2
end
section
variable {X : Cx} {x : Str} {e : Expr} {es : List Expr} {f : Addr} {fd : FuncData} {ps : List Str} {k kX : Nat} {G : Fn} {fa : S → R (List T)} {p pos : Pos}
theorem se_call (F : FnOk X.prog X.w X.K X.mg X.base (L2.CX X.prog X.w) k f fd ps (spF (Mx X) ps.length G)) (rm : Rm X kX) (hk : k ≤ kX) (hg : Gl X x) (hm : X.mg x = some (.ref f)) (kp : PySem.W.keepIn X.K (.ref f) = true) (hb : Binds X.K fd ps [])
    (hG : ∀ ts ob, ts.length ≠ ps.length → G ts ob = .stuck) (ha : SA X (e :: es) fa) (hdb : (x == ("__debug__" : Str)) = false := by decide) (he : starEach (e :: es) X.env = (false, eval e X.env) :: starEach es X.env := by rfl) (hpl : (backTo pos (starEach es X.env)).any (·.1) = false := by rfl) :
    SE X (.Call (.Name x p) (e :: es) [] pos) (eCall G fa) := fun W tk =>
  PE.imp (pe_callS F (rm.room.mono hk) hg hm kp hb (passAt tk) (ha W tk) hdb he hpl) fun σ H Q ⟨s, τ, rel, post⟩ =>
    run1 (R1 := RTs (Mx X)) (.refl _ _) rel post fun ts s2 vs τ2 H2 ev rel2 r1 p => call_spF rel2 r1 ev (hG ts s2.ob) p
theorem mkFn_len {n k : Nat} {body : S → RS} : ∀ ts ob, ts.length ≠ n → mkFn n k body ts ob = .stuck := fun ts ob h => by
  unfold mkFn
  rw [if_neg h]
end

/-! ### raise X('m') -/
/-- what is known of an own exception class -/
structure ExcF (K : PySem.W.Frag) (mg : Str → Option Value) (cn : Str) (C : Addr) : Prop where
  g : mg cn = some (.ref C)
  x : PySem.W.excIn K C [.type "ValueError", .type "Exception", .type "BaseException", .type "object"] "ValueError.__new__" = true
  k : PySem.W.keepIn K (.ref C) = true
  b : PySem.W.subIn K (.ref C) (.type "BaseException") = some true
  t : PySem.W.typeIn K (.ref C) = some (.type "type")
  m : PySem.W.exmOne K (.ref C) (.ref C) = some true
theorem ss_raiseX {X : Cx} {cn m : Str} {C : Addr} {j : Nat} {p p2 p3 pos : Pos} (F : ExcF X.K X.mg cn C) (hc : X.calm = true) (hg : Gl X cn) (hdb : (cn == ("__debug__" : Str)) = false := by decide) :
    SS X (.Raise (some (.Call (.Name cn p) [.Constant (.str m) j p2] [] p3)) none pos) (sRaise cn) :=
  ss_raise hc F.g (pmk_own PySem.F.excBase_ValueError F.x F.g F.k (raises_own F.b F.t) hg hdb) fun σ H Q h => h

/-! ### told(lambda: e): try, or the name of the error -/
def eTold (cn : Str) (f : S → R Res) : S → R Res := fun s => match f s with
  | .ok r s => (match frz s r with
    | some (t, s) => .ok (.val t) s
    | none => .stuck)
  | .exc c s => if c = cn then .ok (.val (.str cn)) s else .stuck
  | .stuck => .stuck
end Sv

/-! Sv, part M: lambdas without parameters, and the def that is told them. -/
namespace Sv
open PySem PySem.Spec PyProof.Rows L2
variable [Tb]
section
variable {M : Md} {st : S} {τ : Tg} {σ : L2.St} {H : Hp}
/-- a table grows by a code object -/
theorem Rel.table {P c : Addr} {q : Str} {ps : Array Value} {l cl : Value} (rel : Rel M st τ σ H) (hP : H P = some (.tbl ps)) (tP : τ P = .tb q) (nC : H c = none)
    (ok : ∀ (pos : Pos) (cv : Value), codeAmong pos (ps ++ #[l, cl, .ref c]).toList = some cv → codeAmong pos ps.toList = some cv ∨ cv = .ref c) (tr : TriplesOk (ps ++ #[l, cl, .ref c]).toList) :
    Rel M st (tset τ c .frz) σ (upd (upd H P (.tbl (ps ++ #[l, cl, .ref c]))) c (LamX.CodeO c q)) ∧ Evo τ H (tset τ c .frz) (upd (upd H P (.tbl (ps ++ #[l, cl, .ref c]))) c (LamX.CodeO c q)) := by
  have nPc : P ≠ c := ne_of_none hP nC
  have tC : τ c = .free := Classical.byContradiction fun z => rel.ro.al c z nC
  have hh : ∀ a, a ≠ P → a ≠ c → upd (upd H P (.tbl (ps ++ #[l, cl, .ref c]))) c (LamX.CodeO c q) a = H a ∧ tset τ c .frz a = τ a := fun a h1 h2 => ⟨by rw [upd_ne h2, upd_ne h1], tset_ne h2⟩
  have atP : upd (upd H P (.tbl (ps ++ #[l, cl, .ref c]))) c (LamX.CodeO c q) P = some (.tbl (ps ++ #[l, cl, .ref c])) := by rw [upd_ne nPc, upd_same]
  have neC : ∀ a o, H a = some o → a ≠ c := fun a o e => ne_of_none e nC
  have neT : ∀ a g, τ a = g → g ≠ .free → a ≠ c := fun a g e n z => n (by rw [← e, z, tC])
  have neP : ∀ a g, τ a = g → (∀ q, g ≠ .tb q) → a ≠ P := fun a g e n z => n q (by rw [← e, z, tP])
  have kp : Kp τ H (tset τ c .frz) (upd (upd H P (.tbl (ps ++ #[l, cl, .ref c]))) c (LamX.CodeO c q)) := ⟨fun a o e t => by
    obtain ⟨h1, h2⟩ := hh a (neP a _ t (by simp)) (neC a o e)
    exact ⟨h2.trans t, h1.trans e⟩, fun a r t => (tset_ne (neT a _ t (by simp))).trans t⟩
  have ev : Evo τ H (tset τ c .frz) (upd (upd H P (.tbl (ps ++ #[l, cl, .ref c]))) c (LamX.CodeO c q)) := ⟨kp, fun a o e t => by
    obtain ⟨h1, h2⟩ := hh a (neP a _ t (by simp)) (neC a o e)
    exact ⟨h2.trans t, h1.trans e⟩, fun a n => by
    by_cases e : a = P
    · rw [e, atP]; simp
    · obtain ⟨o, ho⟩ := Option.ne_none_iff_exists'.mp n
      rw [(hh a e (neC a o ho)).1]; exact n, fun a i t => by
    by_cases e : a = c
    · rw [e]; exact .inl nC
    · rw [tset_ne e] at t; exact .inr ⟨i, t⟩⟩
  have old : ∀ a g, tset τ c .frz a = g → g ≠ .frz → τ a = g ∧ a ≠ c := fun a g t n => by
    by_cases e : a = c
    · subst e; rw [tset_same] at t; exact absurd t.symm n
    · exact ⟨(tset_ne e).symm.trans t, e⟩
  refine ⟨⟨rel.rs.kp kp fun a i t _ => ?_, ⟨fun a r t => ?_, fun a b r ta tb => rel.ro.one a b r (old a _ ta (by simp)).1 (old b _ tb (by simp)).1, fun a t => ?_, ⟨fun p hp => ?_, fun a q' t => ?_, trivial⟩⟩⟩, ev⟩
  · obtain ⟨h1, h2⟩ := hh a (neP a _ t (by simp)) (neT a _ t (by simp))
    exact ⟨h2.trans t, h1⟩
  · obtain ⟨t0, n0⟩ := old a _ t (by simp)
    obtain ⟨o, h1, h2⟩ := rel.ro.at_ a r t0
    exact ⟨o, h1, h2.kp kp (hh a (neP a _ t0 (by simp)) n0).1⟩
  · by_cases e : a = c
    · rw [e, upd_same]; simp
    · rw [upd_ne e]
      by_cases e2 : a = P
      · rw [e2, upd_same]; simp
      · rw [upd_ne e2]; rw [tset_ne e] at t; exact rel.ro.al a t
  · have t := rel.ro.tb.1 p hp
    rw [tset_ne (neT _ _ t (by simp))]; exact t
  · obtain ⟨t0, n0⟩ := old a _ t (by simp)
    obtain ⟨m, tf⟩ := rel.ro.tb.2.1 a q' t0
    refine ⟨m, ?_⟩
    by_cases e : a = P
    · subst e
      rw [tP] at t0
      cases t0
      refine ⟨_, atP, tr, fun pos cv hc => ?_⟩
      rcases ok pos cv hc with z | z
      · obtain ⟨ps0, e0, _, e2⟩ := tf
        rw [hP] at e0
        cases e0
        obtain ⟨c0, k1, k2, k3⟩ := e2 pos cv z
        obtain ⟨k4, k5⟩ := kp.fz c0 _ k2 k3
        exact ⟨c0, k1, k5, k4⟩
      · exact ⟨c, z, upd_same, tset_same⟩
    · exact tf.mono kp fun ps0 h0 => (hh a e n0).1.trans h0
theorem lamO_ne {f c : Addr} {F : LD} (ps : Array Value) : LamO f c F ≠ .tbl ps := fun z => by
  unfold LamO at z
  cases z
end
section
variable {X : Cx} {pins : List (Addr × Obj)} {σ : L2.St} {H : Hp} {s : Shared} {st : S} {τ : Tg}
theorem inv_lam {F : LD} {c : Addr} {pm ctv : Value} {t' : Nat} (I : Inv X pins σ H s) :
    Inv X pins σ (upd H s.heap.objs.size (LamO s.heap.objs.size c F)) { s with heap := s.heap.push (PySem.W.kla_obj "<lambda>" F.q noArgs F.body F.scope F.cl pm c ctv), toks := t' } := by
  refine I.laid (a := s.heap.objs.size) (fun _ _ e => Heap.get?_push_of_some _ e) (Nat.le_refl _) ?_
  have e : (s.heap.push (PySem.W.kla_obj "<lambda>" F.q noArgs F.body F.scope F.cl pm c ctv)).get? s.heap.objs.size = some (PySem.W.kla_obj "<lambda>" F.q noArgs F.body F.scope F.cl pm c ctv) := Heap.get?_push_size _ rfl
  exact ⟨⟨pm, ctv, e⟩, ⟨_, e⟩, fun h1 h2 ⟨p, t, z⟩ k => ⟨p, t, k _ z⟩⟩
/-- a lambda is made -/
theorem lam_made {c P : Addr} {body : Expr} {scope : Scope} {pos : Pos} {E Q : Value → Shared → Prop} (I : Inv X pins σ H s) (rel : Rel (Mx X) st τ σ H) (TB : LamX.TabB X.base X.mg c P) (hcode : X.env.code = .ref c)
    (hm : (P, X.env.qual ++ "<lambda>") ∈ Tb.T) (hfree : ∀ y ∈ scope.names, y.2 = .free → ∃ c, X.env.cells.lookup y.1 = some c)
    (h : ∀ (f c' : Addr) (H1 : Hp) (τ1 : Tg) (s' : Shared), Inv X pins σ H1 s' → Evo τ H τ1 H1 → Rel (Mx X) st τ1 σ H1 → τ1 f = .frz → H1 f = some (LamO f c' ⟨X.env.qual ++ "<lambda>", body, scope, cloFrom X.env.cells scope.names []⟩) →
      τ1 c' = .frz → H1 c' = some (LamX.CodeO c' (X.env.qual ++ "<lambda>")) → Q (.ref f) s') :
    wpAny (model X.prog X.w) X.A (eval (.Lambda noArgs body scope pos) X.env) Q E s := by
  have tP := rel.ro.tb.1 _ hm
  obtain ⟨_, ps, hP, ht, ha⟩ := rel.ro.tb.2.1 _ _ tP
  refine PySem.W.kla_eval rfl ?_
  have bP := TB.bm.keeps I.bk
  have hP' : s.heap.get? P = some { cls := .none, data := .fields ps } := I.hok P _ hP
  cases hc : codeAmong pos ps.toList with
  | some cv =>
    obtain ⟨c', e, hco, tco⟩ := ha pos cv hc
    subst e
    refine PySem.W.kla_makeFunctionHit (mg := X.mg) (c := c) (P := P) (ps := ps) (closure_ok hfree) I.ok.glob (I.mod.glob.keeps I.bk) hcode (TB.code.keeps I.bk) hP' ht hc bP fun ctv h' tk hx _ => ?_
    have I1 : Inv X pins σ H { s with heap := h', toks := tk } := I.kept hx
    have nF : H h'.objs.size = none := I1.hok.fresh (Nat.le_refl _)
    have I2 := inv_lam (F := ⟨X.env.qual ++ "<lambda>", body, scope, cloFrom X.env.cells scope.names []⟩) (c := c') (pm := (X.mg "__name__").getD .none) (ctv := ctv) (t' := tk) I1
    obtain ⟨rel2, ev2⟩ := rel.new (o := LamO h'.objs.size c' ⟨X.env.qual ++ "<lambda>", body, scope, cloFrom X.env.cells scope.names []⟩) (g := .frz) nF (.inr (.inl rfl)) lamO_ne
    obtain ⟨k1, k2⟩ := ev2.fz c' _ hco tco
    exact h h'.objs.size c' _ _ _ I2 ev2 rel2 tset_same upd_same k1 k2
  | none =>
    refine PySem.W.kla_makeFunction (mg := X.mg) (c := c) (P := P) (ps := ps) (closure_ok hfree) I.ok.glob (I.mod.glob.keeps I.bk) hcode (TB.code.keeps I.bk) hP' ht hc TB.gP bP fun c' ctv h' tk hx hge hlt hrec htb => ?_
    obtain ⟨c2, oc, vs, t, e2, hoc, hd, hv⟩ := hrec
    cases e2
    have nC : H c' = none := I.hok.fresh hge
    have eL : (ps ++ #[rawInt pos.line, rawInt pos.col, .ref c']).toList = ps.toList ++ [rawInt pos.line, rawInt pos.col, .ref c'] := by simp
    have I1 := LamX.inv_table (t' := tk) (more := #[rawInt pos.line, rawInt pos.col, .ref c']) (h' := h') I hP (fun b o hb e => hx b o hb e) htb hge ⟨oc, vs, t, hoc, hd, hv⟩
    obtain ⟨rel1, ev1⟩ := rel.table (c := c') hP tP nC (fun p' cv e => by rw [eL] at e; exact LamX.among_app _ ht e) (by rw [eL]; exact PySem.TriplesOk_snoc _ _ _ _ ht)
    have nF := I1.hok.fresh (Nat.le_refl _)
    have I2 := inv_lam (F := ⟨X.env.qual ++ "<lambda>", body, scope, cloFrom X.env.cells scope.names []⟩) (c := c') (pm := (X.mg "__name__").getD .none) (ctv := ctv) (t' := tk) I1
    obtain ⟨rel2, ev2⟩ := rel1.new (o := LamO h'.objs.size c' ⟨X.env.qual ++ "<lambda>", body, scope, cloFrom X.env.cells scope.names []⟩) (g := .frz) nF (.inr (.inl rfl)) lamO_ne
    obtain ⟨k1, k2⟩ := ev2.fz c' _ upd_same tset_same
    exact h h'.objs.size c' _ _ _ I2 (ev1.trans ev2) rel2 tset_same upd_same k1 k2
/-- a lambda that is known is called, in the def that got it -/
theorem act_lam {Eg : XK} {Ng : List Str} {qg : Str} {sg : Scope} {g f c' : Addr} {cdg : Value} {body : Expr} {scope : Scope} {k : Nat} {a : Str} {pn : List (Addr × Obj)} {xe : Value → Shared → Prop} {W : WX} {E : XK} {tb : TE} {p1 p2 : Pos}
    (I : Inv X pins σ H s) (L : LamX.LamS X.env.scope scope)
    (tk : Takes ((cxOf C8.CX0 X.prog X.w X.K X.mg X.base Ng qg sg g cdg X.A X.stack s H Eg).tr pn xe) W) (hW : ∀ cls d σ' H', E cls d H' → W cls d σ' H') (hr : Room (k + 1) (X.A.deeper (envOfC qg sg s.heap.objs.size g cdg)))
    (hbody : ∀ (A : Around) (outer : List Env) (s : Shared) (H : Hp), Room k (A.deeper (LamX.lamEnv X scope s.heap.objs.size f c')) → PE (LamX.lamCx X A outer s H E scope f c') body tb)
    (hN : Ng[0]? = some a) (hv : Vis sg a) (hd : (a == ("__debug__" : Str)) = false) (hcd : (a == ("__classdict__" : Str)) = false) :
    PE ((cxOf C8.CX0 X.prog X.w X.K X.mg X.base Ng qg sg g cdg X.A X.stack s H Eg).tr pn xe) (.Call (.Name a p1) [] [] p2)
      (fun σZ HZ Q => σZ[0]? = some (some (.ref f)) ∧ HZ c' = some (LamX.CodeO c' (X.env.qual ++ "<lambda>")) ∧ HZ f = some (LamO f c' ⟨X.env.qual ++ "<lambda>", body, scope, cloFrom X.env.cells scope.names []⟩) ∧ tb σ HZ Q) := by
  refine ⟨fun pinsZ sZ σZ HZ Q IZ h => ?_⟩
  obtain ⟨hs, hc, hf, hb⟩ := h
  refine wpAny_Call_Name_kw (thn ((pe_var (pos := p1) (i := 0) hN hv hd hcd).run pinsZ sZ σZ HZ (fun v H1 => v = .ref f ∧ H1 = HZ) IZ ⟨_, hs, rfl, rfl⟩) fun u s1 ⟨v, H1, I1, r1, e1, e2⟩ => ?_)
  rw [e2] at I1
  rw [e1] at r1
  obtain rfl : u = Value.ref f := r1
  obtain ⟨⟨pm, ctv, of1⟩, _, _⟩ := I1.hok f _ hf
  obtain ⟨⟨oc, us, t, ho1, ho2, ho3⟩, _, _⟩ := I1.hok c' _ hc
  refine PySem.W.callWith_F0 ⟨_, _, _, _, of1⟩ ?_
  have un : Un (frs X.stack) [] H HZ s.heap s1.heap := I1.base
  have run : codeAny (model X.prog X.w) (X.A.deeper (envOfC qg sg s.heap.objs.size g cdg)) (.call (.ref f) ⟨[], []⟩) (CR (L2.CX X.prog X.w) (envOfC qg sg s.heap.objs.size g cdg :: X.stack) X.prog X.w HZ s1 Q E) s1 := by
    refine PySem.W.kla_callFunE hr.depth of1 rfl L.co L.gen rfl ⟨c', oc, us, t, rfl, ho1, ho2, ho3⟩ ?_
    refine wpAny_pure (wpAny_newFunctionEnv (fun y hy => (L.own y hy).2) (fun y hy => nomatch hy) (fun h₁ hns hsb => ⟨I1.nolimit.fresh _ hsb, ?_⟩) L.kind)
    have kept : ∀ b o, s1.heap.get? b = some o → h₁.get? b = some o := fun b o e => hsb.extBut b o (Nat.ne_of_lt (Heap.lt_size e)) (Heap.get?_push_of_some _ e)
    have J := LamX.lam_start2 (E := E) (c' := c') (f := f) (tk := s1.toks + ([] : List (Str × Value)).length) I L I1.env0 hr.hd un hns kept
    refine PySem.W.kla_codeExpr (wpAny_mono ((hbody _ _ s1 HZ (hr.deeper _)).run [] _ _ HZ Q J hb) (fun v s' hq => ?_) fun _ _ hq => hq)
    obtain ⟨w', H', J', rv, q⟩ := hq
    exact ⟨w', H', J'.os, J'.bare, J'.base, J'.hok, rv, q⟩
  refine wpAny_call (codeAny_mono run fun r s' hq => ?_)
  match r with
  | .error e => exact passes_call tk hW pinsZ σZ HZ s1 e s' I1 hq
  | .ok (.ret u) => exact I1.after hq
  | .ok .next => exact False.elim hq
  | .ok .brk => exact False.elim hq
  | .ok .cont => exact False.elim hq
end

/-- the def that is told: what is known of it -/
structure ToldC (K : PySem.W.Frag) (mg : Str → Option Value) (x cn : Str) where
  (g CS : Addr) (a : Str) (Ng : List Str) (pg : Arguments) (sg : Scope) (dV kV doc pm cdv ct oc : Value) (an od : Option Addr) (osl : Array (Option Value)) (j : Nat) (p1 p2 p3 p4 p5 p6 p7 p8 : Pos)
  hm : mg x = some (.ref g)
  hk : PySem.W.keepIn K (.ref g) = true
  lk : K.lookup g = some ⟨oc, od, .func (PySem.W.fnOf x x pg [.Try [.Return (some (.Call (.Name a p1) [] [] p2)) p3] [.ExceptHandler (some (.Name cn p4)) none [.Return (some (.Constant (.str cn) j p5)) p6] p7] [] [] p8] sg dV kV doc pm an cdv ct), osl⟩
  hcg : PySem.W.codeIn K cdv x = true
  hb : L2.Binds K (PySem.W.fnOf x x pg [.Try [.Return (some (.Call (.Name a p1) [] [] p2)) p3] [.ExceptHandler (some (.Name cn p4)) none [.Return (some (.Constant (.str cn) j p5)) p6] p7] [] [] p8] sg dV kV doc pm an cdv ct) [a] []
  Sg : FnScope Ng [a] sg
  hNg : Ng = [a]
  hva : Vis sg a
  hge : sg.names.lookup cn = some .globalImplicit
  hme : mg cn = some (.ref CS)
  hde : (cn == ("__debug__" : Str)) = false
  hx : PySem.W.exmOne K (.ref CS) (.ref CS) = some true
  hd : (a == ("__debug__" : Str)) = false
  hcd : (a == ("__classdict__" : Str)) = false
  hdb : (x == ("__debug__" : Str)) = false
section
variable {X : Cx} {pins : List (Addr × Obj)} {σ : L2.St} {H : Hp} {s : Shared} {st : S} {τ τ0 : Tg} {H0 : Hp} {fE : S → R Res} {x cn : Str}
/-- the body of a lambda, wherever it is called -/
def SLam (X : Cx) (k : Nat) (scope : Scope) (body : Expr) (fE : S → R Res) : Prop :=
  ∀ (A : Around) (outer : List Env) (s : Shared) (H : Hp) (E : XK) (f c' : Addr), Room k (A.deeper (LamX.lamEnv X scope s.heap.objs.size f c')) → SE (LamX.lamCx X A outer s H E scope f c') body fE
theorem told_run (T : ToldC X.K X.mg x cn) {f c' : Addr} {body : Expr} {scope : Scope} {k : Nat} {Q : VK} {W : WX} (I : Inv X pins σ H s) (hr : Room (k + 2) X.A) (L : LamX.LamS X.env.scope scope) (rel : Rel (Mx X) st τ σ H)
    (hf : H f = some (LamO f c' ⟨X.env.qual ++ "<lambda>", body, scope, cloFrom X.env.cells scope.names []⟩)) (hc : H c' = some (LamX.CodeO c' (X.env.qual ++ "<lambda>"))) (ev : Evo τ0 H0 τ H)
    (hbody : SLam X k scope body fE) (p : Post (Mx X) (RRes (Mx X)) σ τ0 H0 (eTold cn fE st) Q W) :
    codeAny (model X.prog X.w) X.A (.call (.ref T.g) ⟨[.ref f], []⟩) (CR C8.CX0 X.stack X.prog X.w H s Q C8.E0) s := by
  refine LamX.run_ofS (N := T.Ng) (ps := [T.a]) (us := [.ref f]) (vs := [.ref f]) T.lk T.hcg T.Sg hr I.env0 (T.hb s [.ref f] I.kIn rfl) (.cons rfl .nil) rfl fun hr' => ?_
  have hN0 : T.Ng[0]? = some T.a := by rw [T.hNg]; rfl
  have h0 : ∀ f : Addr, (L2.start T.Ng [V.ref f])[0]? = some (some (V.ref f)) := fun f => by rw [T.hNg]; rfl
  have hT : LamX.TTold X.K T.CS cn (fun E HZ Q' => HZ f = some (LamO f c' ⟨X.env.qual ++ "<lambda>", body, scope, cloFrom X.env.cells scope.names []⟩) ∧ tG (Mx X) (RRes (Mx X)) fE (fun cls d _ H => E cls d H) σ HZ Q') H Q := by
    refine ⟨hf, st, τ, rel, ?_⟩
    unfold eTold at p
    cases e : fE st with
    | stuck => rw [e] at p; exact p
    | exc c s2 =>
      rw [e] at p
      simp only at p
      split at p
      · rename_i ec
        subst ec
        intro C d τ' H' hC ev' rel'
        have hC : X.mg c = some (.ref C) := hC
        rw [T.hme] at hC
        cases hC
        exact ⟨true, T.hx, fun _ => p (.str c) τ' H' (ev.trans ev') rel' (.str c), fun z => nomatch z⟩
      · exact p.elim
    | ok r s2 =>
      rw [e] at p
      simp only at p
      split at p
      · rename_i t s3 ef
        intro v τ' H' ev' rel' rr
        obtain ⟨τ2, e2, kp2, rel2, rp2⟩ := RelR.frz rel' ev' rr ef
        exact p v τ2 H' (ev.trans e2) rel2 rp2
      · exact p.elim
  obtain ⟨t', ht', hq'⟩ := LamX.told_gives (X := X) (x := x) (g := T.g) (cdg := T.cdv) (a := T.a) (j := T.j) (p1 := T.p1) (p2 := T.p2) (p3 := T.p3) (p4 := T.p4) (p5 := T.p5) (p6 := T.p6) (p7 := T.p7) (p8 := T.p8) (q := X.env.qual ++ "<lambda>") (ret := cn) T.hge T.hme T.hde h0 f c' s H Q
    (fun E HZ Q' => HZ f = some (LamO f c' ⟨X.env.qual ++ "<lambda>", body, scope, cloFrom X.env.cells scope.names []⟩) ∧ tG (Mx X) (RRes (Mx X)) fE (fun cls d _ H => E cls d H) σ HZ Q')
    (fun W' pn xe E p1 p2 tk hW => act_lam I L tk hW hr' (fun A outer s2 H2 hr2 => hbody A outer s2 H2 E f c' hr2 _ (takes_of (E₁ := fun e' s'' => L2.CX X.prog X.w outer H2 s2 E e' s'') rfl rfl rfl rfl)) hN0 T.hva T.hd T.hcd) hc hT
  exact ⟨t', ht'.nox, hq'⟩
theorem told_out {pos : Pos} (T : ToldC X.K X.mg x cn) {f : Addr} {Q : VK} (I : Inv X pins σ H s) {E : Value → Shared → Prop} (run : codeAny (model X.prog X.w) X.A (.call (.ref T.g) ⟨[.ref f], []⟩) (CR C8.CX0 X.stack X.prog X.w H s Q C8.E0) s) :
    wpAny (model X.prog X.w) X.A (PySem.call (.ref T.g) [.ref f] []) (fun u s' => ∃ v H', Inv X pins σ H' s' ∧ RelV v u ∧ Q v H') E s := by
  refine wpAny_call (codeAny_mono run fun r s2 hq => ?_)
  match r with
  | .error e => exact (show False from hq).elim
  | .ok (.ret u) => exact I.after hq
  | .ok .next => exact False.elim hq
  | .ok .brk => exact False.elim hq
  | .ok .cont => exact False.elim hq
/-- told(lambda: e) -/
theorem se_told (T : ToldC X.K X.mg x cn) {c P : Addr} {body : Expr} {scope : Scope} {k kX : Nat} {p lpos pos : Pos} (rm : Rm X kX) (hk2 : k + 2 ≤ kX) (hg : Gl X x) (TB : LamX.TabB X.base X.mg c P) (hcode : X.env.code = .ref c) (hmT : (P, X.env.qual ++ "<lambda>") ∈ Tb.T)
    (L : LamX.LamS X.env.scope scope) (hbody : SLam X k scope body fE) : SE X (.Call (.Name x p) [.Lambda noArgs body scope lpos] [] pos) (eTold cn fE) := by
  refine fun W tk => ⟨fun pins s σ H Q I h => ?_⟩
  obtain ⟨st, τ, rel, post⟩ := h
  refine wpAny_Call_Name_kw (ld_glob I hg T.hm ?_ T.hdb)
  refine PySem.W.callWith_K (h₀ := X.base) I.ok.mod.kin T.hk ?_ (by rfl) (by rfl)
  show wpAny _ _ (spliced ((false, eval (.Lambda noArgs body scope lpos) X.env) :: backTo pos (starEach [] X.env))) _ _ s
  refine Calls.spliced_cons (lam_made I rel TB hcode hmT (L.has I.ok) fun f c' H1 τ1 s' I1 ev1 rel1 _ hf _ hc => ?_)
  exact Calls.spliced_nil ⟨I1.kIn, told_out (pos := pos) T I1 (told_run T I1 (rm.room.mono hk2) L rel1 hf hc ev1 hbody post)⟩
end
end Sv

/-! Sv, part N: lambdas as values; enumerate. -/
namespace Sv
open PySem PySem.Spec PyProof.Rows L2
variable [Tb]

/-! ### a lambda that captures nothing, as a value -/
theorem clo_closed {cells : List (Str × Addr)} : ∀ {names : List (Str × NameKind)} {acc : List (Str × Addr)}, (∀ y ∈ names, y.2 ≠ .free) → cloFrom cells names acc = acc
  | [], _, _ => rfl
  | (n, k) :: r, acc, h => by
    have hk : k ≠ .free := h (n, k) List.mem_cons_self
    have e : (k == NameKind.free) = false := by cases k <;> first | rfl | exact absurd rfl hk
    unfold cloFrom
    rw [e]
    exact clo_closed fun y hy => h y (List.mem_cons_of_mem _ hy)
def closedB (scope : Scope) : Bool := scope.names.all fun y => !decide (y.2 = .free)
theorem closed_by {scope : Scope} (h : closedB scope = true) : ∀ y ∈ scope.names, y.2 ≠ .free := by
  unfold closedB at h
  simpa using h
def eToldV (cn : Str) (n : Nat) (G : Nat → S → R Res) (fa : S → R Res) : S → R Res := fun s => (fa s).bind fun r s => match r with
  | .val (.lam i) => if i < n then eTold cn (G i) s else .stuck
  | _ => .stuck
section
variable {X : Cx} {x cn : Str}
theorem se_lam {c P : Addr} {body : Expr} {scope : Scope} {n : Nat} {pos : Pos} (TB : LamX.TabB X.base X.mg c P) (hcode : X.env.code = .ref c) (hmT : (P, X.env.qual ++ "<lambda>") ∈ Tb.T) (cl : closedB scope = true)
    (hL : Tb.L n = ⟨X.env.qual ++ "<lambda>", body, scope, []⟩) : SE X (.Lambda noArgs body scope pos) (eC (.lam n)) := fun W tk => ⟨fun pins s σ H Q I ⟨st, τ, rel, post⟩ => by
  have cl := closed_by cl
  refine lam_made I rel TB hcode hmT (fun y hy e => absurd e (cl y hy)) fun f c' H1 τ1 s' I1 ev1 rel1 t1 hf t2 hc => ?_
  rw [clo_closed cl] at hf
  refine ⟨.ref f, H1, I1, rfl, post (.ref f) τ1 H1 ev1 rel1 (.lam t1 ?_ t2 ?_)⟩
  · show H1 f = some (LamO f c' (Tb.L n))
    rw [hL]; exact hf
  · show H1 c' = some (LamX.CodeO c' (Tb.L n).q)
    rw [hL]; exact hc⟩
/-- told(e), e a lambda of the table -/
theorem se_toldV (T : ToldC X.K X.mg x cn) {e : Expr} {fa : S → R Res} {n k kX : Nat} {G : Nat → S → R Res} {p pos : Pos} (rm : Rm X kX) (hk2 : k + 2 ≤ kX) (hg : Gl X x) (he : SE X e fa)
    (hL : ∀ i, i < n → (Tb.L i).q = X.env.qual ++ "<lambda>" ∧ (Tb.L i).cl = [] ∧ closedB (Tb.L i).scope = true ∧ LamX.LamS X.env.scope (Tb.L i).scope ∧ SLam X k (Tb.L i).scope (Tb.L i).body (G i))
    (hst : starEach [e] X.env = (false, eval e X.env) :: starEach [] X.env := by rfl) : SE X (.Call (.Name x p) [e] [] pos) (eToldV cn n G fa) := by
  refine fun W tk => ⟨fun pins s σ H Q I h => ?_⟩
  obtain ⟨st, τ, rel, post⟩ := h
  refine wpAny_Call_Name_kw (ld_glob I hg T.hm ?_ T.hdb)
  refine PySem.W.callWith_K (h₀ := X.base) I.ok.mod.kin T.hk ?_ hst (by rfl)
  rw [hst]
  show wpAny _ _ (spliced ((false, eval e X.env) :: backTo pos (starEach [] X.env))) _ _ s
  have g := run1 (R1 := RRes (Mx X)) (C := fun v H1 => ∃ st τ1 i f, v = .ref f ∧ i < n ∧ Evo τ H τ1 H1 ∧ Rel (Mx X) st τ1 σ H1 ∧ Rp (Mx X) τ1 H1 (.lam i) (.ref f) ∧ Post (Mx X) (RRes (Mx X)) σ τ H (eTold cn (G i) st) Q W) (.refl _ _) rel post fun r s2 v τ2 H2 ev2 rel2 r2 p2 => by
    split at p2
    · rename_i i
      split at p2
      · rename_i hi
        have r2 : Rp (Mx X) τ2 H2 (.lam i) v := r2
        cases r2 with
        | lam a b c d => exact ⟨s2, τ2, i, _, rfl, hi, ev2, rel2, .lam a b c d, p2⟩
      · exact p2.elim
    · exact p2.elim
  refine Calls.spliced_cons (thn ((he W tk).run pins s σ H _ I g) fun u s1 ⟨v, H1, I1, r1, q1⟩ => ?_)
  obtain ⟨st1, τ1, i, f, rfl, hi, ev1, rel1, rp, p1⟩ := q1
  obtain rfl : u = Value.ref f := r1
  refine Calls.spliced_nil ⟨I1.kIn, ?_⟩
  cases rp with
  | lam _ hf _ hc =>
    obtain ⟨k1, k2, k3, k4, k5⟩ := hL i hi
    have hf : H1 f = some (LamO f _ (Tb.L i)) := hf
    have e2 : Tb.L i = ⟨X.env.qual ++ "<lambda>", (Tb.L i).body, (Tb.L i).scope, cloFrom X.env.cells (Tb.L i).scope.names []⟩ := by
      rw [clo_closed (closed_by k3), ← k1, ← k2]
    rw [e2] at hf
    have hc : H1 _ = some (LamX.CodeO _ (Tb.L i).q) := hc
    rw [k1] at hc
    exact told_out (pos := pos) T I1 (told_run T I1 (rm.room.mono hk2) k4 rel1 hf hc ev1 k5 p1)
end

/-! ### enumerate -/
theorem meets_enum1 {v : Value} {o : Obj} {Hh : Heap → Prop} (B : Begins v o Hh) :
    Meets (Builtin.«enumerate.__new__» ⟨[.type "enumerate", v], []⟩) (fun _ R s => Hh s.heap ∧
      R (.ok (.ret (.ref (s.heap.push o).objs.size))) { s with heap := (s.heap.push o).push { cls := .type "enumerate", data := .fields #[.none, .bool false, .ref s.heap.objs.size, rawInt 0, .none, .none] } }) :=
  .of_wp fun P w A R s ⟨h1, h⟩ => by
    obtain ⟨hp, g, d, tk, os⟩ := s
    have hsub := PySem.sub_enumerate
    have step : ∀ {A' : Around} {E Q : Value → Shared → Prop}, Q (.ref hp.objs.size) ⟨hp.push o, g, d, tk, os⟩ → wpAny (model P w) A' (pyIter v) Q E ⟨hp, g, d, tk, os⟩ := fun q => B.iter P w _ _ ⟨hp, g, d, tk, os⟩ _ h1 q
    wp_walk using step
    refine wpAny_stack_any fun st => wpAny_pure ?_
    split
    · rename_i c _ _ _ _ _
      cases (c == Value.type "enumerate") <;> (wp_walk using step; exact ⟨_, rfl, h⟩)
    · wp_walk using step
      exact ⟨_, rfl, h⟩
theorem enum_made {P : Program} {w : World} {A : Around} {E : Value → Shared → Prop} {s : Shared} {v : Value} {o : Obj} {Hh : Heap → Prop} {Q : Value → Shared → Prop} (B : Begins v o Hh) (h1 : Hh s.heap)
    (h : ∀ h', IsEnum h' (s.heap.objs.size + 1) s.heap.objs.size 0 .none → h'.get? s.heap.objs.size = some o → (∀ b o, s.heap.get? b = some o → h'.get? b = some o) → Q (.ref (s.heap.objs.size + 1)) { s with heap := h' }) :
    wpAny (model P w) A (PySem.call (.type "enumerate") [v]) Q E s := by
  refine callType_new F.called_enumerate (by decide) (F.typeCall_enumerate_1 _) (F.newCall_enumerate_1 _) (fun obj => F.args_object_init_2 obj _) F.entry_enumerate_new (meets_enum1 B) ⟨h1, ?_⟩
  have hz : (s.heap.push o).objs.size = s.heap.objs.size + 1 := Heap.size_push ..
  show _ ∧ _
  rw [hz]
  have he := Heap.get?_push_size (s.heap.push o) (o := { cls := .type "enumerate", data := .fields #[.none, .bool false, .ref s.heap.objs.size, rawInt 0, .none, .none] }) rfl
  rw [hz] at he
  exact ⟨⟨_, he, rfl⟩, h _ he (Heap.get?_push_of_some _ (Heap.get?_push_size _ B.free)) fun b o x => Heap.get?_push_of_some _ (Heap.get?_push_of_some _ x)⟩
/-- the tuple at a, each item in a new pair -/
def Itet (K : PySem.W.Frag) (a : Addr) : It :=
  ⟨fun i H => ∃ (xs : List V) (x : V), SqT K H a xs ∧ xs[i]? = some x, fun i H v H' => ∃ T x, v = .ref T ∧ H T = none ∧ H' = upd H T (.tup [.int (i : Nat), x]) ∧ ∀ xs, SqT K H a xs → xs[i]? = some x, fun i H => ∃ xs : List V, SqT K H a xs ∧ xs.length ≤ i⟩
theorem enumT_end {P : Program} {w : World} {A : Around} {E : Value → Shared → Prop} {s : Shared} {e it a : Addr} {i : Nat} {old : Value} {items : Array Value} {Q : Option Value → Shared → Prop} (hh : A.handled = none) (he : IsEnum s.heap e it ((i : Nat) : Int) old) (hit : s.heap.IsTupleIter it a i) (ht : s.heap.IsTuple a items) (hx : items[i]? = none)
    (hQ : ∀ h', Heap.ExtBut it s.heap h' → Q none { s with heap := h' }) : wpAny (model P w) A (pyNext (.ref e)) Q E s := by
  refine wpAny_pyNext_enum_endD (fp := [it, a]) (n := i) (P := fun _ _ => True) (St := fun j h => j = i ∧ h.IsTupleIter it a i ∧ h.IsTuple a items) ⟨fun j h st => ?_, fun j h h' st hk => ?_, fun j s Q E hj st _ => ?_, fun s Q E st hE => ?_⟩ he ⟨rfl, hit, ht⟩ hQ
  · obtain ⟨o, ho, _⟩ := st.2.1
    exact ⟨o, ho⟩
  · exact ⟨st.1, st.2.1.at fun o e => hk it (by simp) o e, st.2.2.at fun o e => hk a (by simp) o e⟩
  · have := st.1; omega
  · exact wpAny_nextOf_tuple_end (A := A.in1) hh st.2.1 st.2.2 hx hE
theorem turn_enumT {P : Program} {w : World} {K : PySem.W.Frag} {elts : List Expr} {kk : Nat} {tpos : Pos} (a e it : Addr) :
    Turn P w K (.Tuple elts kk tpos) (Itet K a) [e, it] e (fun i h => ((∃ old, IsEnum h e it ((i : Nat) : Int) old) ∧ h.IsTupleIter it a i) ∧ e ≠ it ∧ a ≠ it ∧ e ≠ a) where
  mem := by simp
  obj := fun i h st b hb => by
    obtain ⟨⟨⟨old, he⟩, o, ho, hc, hd⟩, _⟩ := st
    rcases (by simpa using hb : b = e ∨ b = it) with z | z <;> subst z
    · exact ⟨_, he, fun v q => nomatch q⟩
    · exact ⟨o, ho, fun v q => by rw [hd] at q; cases q⟩
  keep := fun i h h' st k => let ⟨⟨⟨old, he⟩, hi⟩, hne⟩ := st; ⟨⟨⟨old, k e (by simp) _ he⟩, hi.at fun o q => k it (by simp) o q⟩, hne⟩
  item := by
    intro X hP hw hK hc i pins s σ H E I hf st hg
    subst hP hw hK
    obtain ⟨⟨⟨old, he⟩, hit⟩, hne, hna, hea⟩ := st
    obtain ⟨xs, x, hq, hx⟩ := hg
    obtain ⟨its, rv, p, hz⟩ := I.tuple hq
    obtain ⟨u, hu, ru⟩ := rv.get hx
    have hel := Heap.lt_size he
    have hil : it < s.heap.objs.size := let ⟨_, q, _⟩ := hit; Heap.lt_size q
    have pt : s.heap.IsTuple a its.toArray := p
    have hiu : i < its.toArray.size := by
      have := (List.getElem?_eq_some_iff.mp hu).1
      simpa using this
    refine wpAny_pyNext_enum_itemD (Draws.tuple (A := X.A.in1) (show X.A.in1.handled = none from I.ok.hd hc) it a hna its.toArray) he ⟨hit, pt⟩ hiu hne (by simp [hne, hea]) fun x' h' tk hx' ho hst hT hsz hk => ?_
    have ex : x' = u := by
      have z : its.toArray[i]? = some x' := hx'
      rw [List.getElem?_toArray, hu] at z
      exact (Option.some.inj z).symm
    subst ex
    refine ⟨_, rfl, wpAny_letOwnedTupleGo_enum (s := { s with heap := h', toks := tk + 1 }) ho fun h'' he' sb => ?_⟩
    have hT2 := (sb.2 _ (Nat.ne_of_gt hel)).trans hT
    have new : ObjOk X.prog X.w (upd H s.heap.objs.size (.tup [.int (i : Nat), x])) h'' s.heap.objs.size (.tup [.int (i : Nat), x]) :=
      ⟨by show 2 ≤ sizeLine; decide, [.int i tk, x'], .cons ⟨_, rfl⟩ (.cons ru .nil), ⟨_, hT2, rfl, _, rfl⟩⟩
    have I1 : Inv X pins σ (upd H s.heap.objs.size (.tup [.int (i : Nat), x])) { s with heap := h'', toks := tk + 1 } :=
      I.turnedNew (ch := [e, it]) (fun b ob hb q => (sb.2 b (fun z => hb (by simp [z]))).trans (hk b ob (fun z => hb (by simp [z])) (fun z => hb (by simp [z])) q)) hf (Nat.le_refl _) new
    refine ⟨.ref s.heap.objs.size, _, I1, rfl, ⟨_, x, rfl, I.hok.fresh (Nat.le_refl _), rfl, fun ys hy => by rw [I.tuple_inj hy hq]; exact hx⟩, ⟨⟨⟨x', ?_⟩, hst.1.at fun o q => (sb.2 it (Ne.symm hne)).trans q⟩, hne, hna, hea⟩, fun b hb => ?_⟩
    · rw [show ((i + 1 : Nat) : Int) = (i : Int) + 1 by omega]; exact he'
    · have hb' : b < s.heap.objs.size := by rcases (by simpa using hb : b = e ∨ b = it) with z | z <;> subst z <;> assumption
      rw [upd_ne (Nat.ne_of_lt hb')]
      exact (hf b hb).1
  done := by
    intro X hP hw hK hc i pins s σ H E I hf st hg
    subst hP hw hK
    obtain ⟨⟨⟨old, he⟩, hit⟩, hne, hna, hea⟩ := st
    obtain ⟨xs, hq, hx⟩ := hg
    obtain ⟨its, rv, p, hz⟩ := I.tuple hq
    obtain ⟨f0, f1, f2, f3, f4, f5⟩ := hf it (by simp)
    have hl := rv.length
    exact enumT_end (I.ok.hd hc) he hit p (by simp; omega) fun h' eb => ⟨rfl, I.turned (t' := s.toks) (fun b o hb q => eb b o hb q) f0 f1 f3 f4 f5⟩
  self := fun A i s Q E st h => let ⟨⟨⟨_, he⟩, _⟩, _⟩ := st; wpAny_pyIter_enum he h
def iEnumT (K : PySem.W.Frag) (ta : TA) : TI := fun σ H R => ta σ H fun vs H1 => ∃ a xs, vs = [.ref a] ∧ SqT K H1 a xs ∧ R (Itet K a) H1
theorem pi_enumT {X : Cx} {e : Expr} {ta : TA} {p pos tpos : Pos} {elts : List Expr} {kk : Nat} (hg : Gl X "enumerate") (hm : X.mg "enumerate" = none) (ha : PA X [e] ta) (hs : starEach [e] X.env = [(false, eval e X.env)] := by rfl) :
    PI X (.Tuple elts kk tpos) (.Call (.Name "enumerate" p) [e] [] pos) (iEnumT X.K ta) := by
  refine ⟨fun pins s σ H R I h => ?_⟩
  refine Call_ (ld_blt I hg hm boot_enumerate (PyProof.Rows.callWith_type1 (thn (ha.run pos pins s σ H _ I h) fun us s1 ⟨vs, H1, I1, r1, a, xs, ex, hq, q⟩ => ?_) hs rfl))
  subst ex
  obtain ⟨u, rfl, ru⟩ : ∃ u, us = [u] ∧ RelV (.ref a) u := by
    cases r1 with
    | cons r rr => cases rr; exact ⟨_, rfl, r⟩
  obtain rfl : u = Value.ref a := ru
  obtain ⟨its, rv, p', hz⟩ := I1.tuple hq
  have pt : s1.heap.IsTuple a its.toArray := p'
  have hal : a < s1.heap.objs.size := let ⟨_, q, _⟩ := pt; Heap.lt_size q
  refine enum_made (begins_tuple a its.toArray) pt fun h' he hit hk => wpAny_pyIter_enum he ?_
  have I2 : Inv X pins σ H1 { s1 with heap := h' } := I1.kept (t' := s1.toks) hk
  refine ⟨s1.heap.objs.size + 1, [s1.heap.objs.size + 1, s1.heap.objs.size], _, _, H1, rfl, I2, turn_enumT a (s1.heap.objs.size + 1) s1.heap.objs.size, ⟨⟨⟨.none, he⟩, ⟨_, hit, rfl, rfl⟩⟩, Nat.succ_ne_self _, Nat.ne_of_lt hal, Nat.ne_of_gt (Nat.lt_succ_of_lt hal)⟩, fun b hb => ?_, q⟩
  have hle : s1.heap.objs.size ≤ b := by
    rcases (by simpa using hb : b = s1.heap.objs.size + 1 ∨ b = s1.heap.objs.size) with z | z <;> rw [z]
    · exact Nat.le_add_right _ _
    · exact Nat.le_refl _
  exact I1.fpOk hle (I1.hok.fresh hle)
section
variable {M : Md} {H : Hp} {τ : Tg}
def enumT (i : Nat) : List T → List T
  | [] => []
  | t :: ts => .tup [.int (i : Nat), t] :: enumT (i + 1) ts
theorem enumT_get : ∀ {ts : List T} {k i : Nat}, (enumT k ts)[i]? = (ts[i]?).map fun t => .tup [.int ((k + i : Nat) : Int), t]
  | [], _, _ => by simp [enumT]
  | t :: ts, k, 0 => by simp [enumT]
  | t :: ts, k, i + 1 => by
    have e : k + 1 + i = k + (i + 1) := by omega
    simp only [enumT, List.getElem?_cons_succ]
    rw [enumT_get, e]
theorem enumT_length : ∀ {ts : List T} {k : Nat}, (enumT k ts).length = ts.length
  | [], _ => rfl
  | t :: ts, k => by simp [enumT, enumT_length]
theorem walks_enumL {a : Addr} {vs : List V} {ts : List T} (h : LstAt M τ H a vs) (r : Rps M τ H ts vs) : Walks M (Ite M.K a) (enumT 0 ts) τ H := fun i τ2 H2 kp => by
  have h2 := (h.mono kp).sq
  refine ⟨fun hi => ⟨vs, h2, by rw [← r.length]; rw [enumT_length] at hi; exact hi⟩, fun t ht => ?_⟩
  rw [enumT_get, Nat.zero_add] at ht
  cases q : ts[i]? with
  | none => rw [q] at ht; cases ht
  | some t0 =>
    rw [q] at ht
    cases ht
    obtain ⟨v, e1, e2⟩ := r.get q
    refine ⟨⟨vs, v, h2, e1⟩, fun x H' y => ?_⟩
    obtain ⟨p, x0, rfl, hp, rfl, hy⟩ := y
    have := hy vs h2
    rw [e1] at this
    cases this
    exact .inr ⟨p, _, rfl, hp, rfl, rfl, _, rfl, .cons (.int _) (.cons (e2.mono kp) .nil)⟩
theorem walks_enumT {a : Addr} {vs : List V} {ts : List T} (h : TupAt M τ H a vs) (r : Rps M τ H ts vs) : Walks M (Itet M.K a) (enumT 0 ts) τ H := fun i τ2 H2 kp => by
  have h2 := (h.mono kp).sq
  refine ⟨fun hi => ⟨vs, h2, by rw [← r.length]; rw [enumT_length] at hi; exact hi⟩, fun t ht => ?_⟩
  rw [enumT_get, Nat.zero_add] at ht
  cases q : ts[i]? with
  | none => rw [q] at ht; cases ht
  | some t0 =>
    rw [q] at ht
    cases ht
    obtain ⟨v, e1, e2⟩ := r.get q
    refine ⟨⟨vs, v, h2, e1⟩, fun x H' y => ?_⟩
    obtain ⟨p, x0, rfl, hp, rfl, hy⟩ := y
    have := hy vs h2
    rw [e1] at this
    cases this
    exact .inr ⟨p, _, rfl, hp, rfl, rfl, _, rfl, .cons (.int _) (.cons (e2.mono kp) .nil)⟩
end
/-- enumerate(e) -/
def iEnu (f : S → R Res) : S → R (List T) := fun s => (f s).bind fun r s => match frz s r with
  | some (.lst ts, s) => .ok (enumT 0 ts) s
  | some (.tup ts, s) => .ok (enumT 0 ts) s
  | _ => .stuck
section
variable {X : Cx} {e : Expr} {f : S → R Res} {p pos tpos : Pos} {elts : List Expr} {kk : Nat}
theorem si_enum (hg : Gl X "enumerate") (hm : X.mg "enumerate" = none) (he : SE X e f) (hs : starEach [e] X.env = [(false, eval e X.env)] := by rfl) (hs2 : starEach [e] X.env = (false, eval e X.env) :: starEach [] X.env := by rfl) :
    SI X (.Tuple elts kk tpos) (.Call (.Name "enumerate" p) [e] [] pos) (iEnu f) := fun W tk =>
  PI.imp (PI.or (pi_enum hg hm (pa_cons (he W tk) pa_nil hs2) hs) (pi_enumT hg hm (pa_cons (he W tk) pa_nil hs2) hs)) fun σ H Q ⟨s, τ, rel, post⟩ => by
    unfold iEnu at post
    cases k : f s with
    | stuck => rw [k] at post; exact post.elim
    | exc c s1 => exact .inl ⟨s, τ, rel, by rw [k] at post ⊢; exact post⟩
    | ok r s1 =>
      rw [k] at post
      simp only [R.bind] at post
      split at post
      · rename_i ts s2 ef
        refine .inl ⟨s, τ, rel, ?_⟩
        rw [k]
        intro v τ' H' ev rel' rr
        obtain ⟨τ2, e1, e2, e3, e4⟩ := RelR.frz rel' ev rr ef
        cases e4 with
        | lst q1 q2 => exact ⟨_, _, rfl, q1.sq, post _ τ2 H' e1 e3 (walks_enumL q1 q2)⟩
      · rename_i ts s2 ef
        refine .inr ⟨s, τ, rel, ?_⟩
        rw [k]
        intro v τ' H' ev rel' rr
        obtain ⟨τ2, e1, e2, e3, e4⟩ := RelR.frz rel' ev rr ef
        cases e4 with
        | tup q1 q2 => exact ⟨_, _, rfl, q1.sq, post _ τ2 H' e1 e3 (walks_enumT q1 q2)⟩
      · exact post.elim
end
end Sv

/-! Sv, part O: sorted. -/
namespace Sv
open PySem PySem.Spec PyProof.Rows L2
variable [Tb]
section
variable {P : Program} {w : World} {A : Around} {E : Value → Shared → Prop} {s : Shared}
/-- the items of a tuple, in a new list -/
theorem collect_tup {l : Addr} {vs : List Value} {Q : List Value → Shared → Prop} (hl : s.heap.IsTuple l vs.toArray) (hsz : vs.length ≤ sizeLine)
    (h : Q vs { s with heap := (s.heap.push (seqObj "list" #[] 0)).update s.heap.objs.size (Obj.mapSeq (· ++ vs.toArray)) }) : wpAny (model P w) A (collect (.ref l)) Q E s := by
  obtain ⟨o, ho, hc, n, hd⟩ := id hl
  have ho' := Heap.get?_push_of_some (seqObj "list" #[] 0) ho
  unfold collect
  refine wpAny_bind (wpAny_runValue (codeAny_builtin entry_proto_collect' ?_))
  show wpAny _ _ (do again (.builtin "list.__iadd__" ⟨[← newList [], .ref l], []⟩)) _ _ s
  refine wpAny_bind (wpAny_newList (wpAny_pure ⟨Code.quiet_builtin _ (by decide +kernel), codeAny_builtin entry_list_iadd' ?_⟩))
  show wpAny _ _ (Builtin.List.listExtendWith (.ref s.heap.objs.size) (.ref l) (.ref s.heap.objs.size)) _ _ { s with heap := s.heap.push (seqObj "list" #[] 0) }
  unfold Builtin.List.listExtendWith
  refine wpAny_bind (wpAny_typeOf (T := "tuple") ⟨o, ho', hc⟩ ?_)
  rw [if_pos (by have ht : (Value.type "tuple" == Value.type "tuple") = true := by rfl
                 rw [ht]; simp)]
  refine wpAny_bind (listItems_at ho' hd (wpAny_bind (listItems_at (xs := #[]) (n := 0) (Heap.get?_push_size _ rfl) rfl ?_)))
  rw [if_neg (by simp)]
  refine wpAny_bind (listUpdate_at (xs := #[]) (n := 0) (Heap.get?_push_size _ rfl) rfl (wpAny_pure ?_) (Nat.zero_le _) (by simp only [Array.size_append, List.size_toArray, List.length_nil]; omega))
  show wpAny (model P w) A (do
      let o ← load s.heap.objs.size
      match o.data with
      | .seq xs _ => pure xs.toList
      | _ => unsupported "internal:collect") Q E _
  refine wpAny_bind (wpAny_load (get?_update_seq (Heap.get?_push_size _ rfl) _) ?_)
  show wpAny _ _ (pure ((#[] : Array Value) ++ vs.toArray).toList) Q E _
  have e : ((#[] : Array Value) ++ vs.toArray).toList = vs := by simp
  rw [e]
  exact wpAny_pure h
/-- sorted(a tuple) -/
theorem sorted_tup {κ : PyProof.Rows.KeyKind} {l : Addr} {vs : List Value} {Q : Value → Shared → Prop} (hl : s.heap.IsTuple l vs.toArray) (S : PySem.W.SortsAt P w A.in1.in1 { s with heap := PySem.W.sortingHeap (PySem.W.copyHeap s.heap vs) (s.heap.objs.size + 1) vs } κ vs) (hL : vs.length ≤ sizeLine)
    (h : Q (.ref (s.heap.objs.size + 1)) { s with heap := sortedAll s.heap vs (PySem.W.sortVals κ false vs vs).toArray }) : wpAny (model P w) A (PySem.call (.builtin "sorted") [.ref l]) Q E s := by
  refine Calls.call_function_entry kind_sorted plain_sorted entry_sorted (args_sorted1 _) ?_
  unfold Builtin.«sorted»
  refine wpAny_bind (m := checkCount "sorted" 1 1 _) (wpAny_pure (wpAny_bind (collect_tup hl hL (wpAny_bind (wpAny_newList ?_ hL)))))
  have hsz : ((s.heap.push (seqObj "list" #[] 0)).update s.heap.objs.size (Obj.mapSeq (· ++ vs.toArray))).objs.size = s.heap.objs.size + 1 := by rw [Heap.size_update, size_push']
  show wpAny _ _ _ _ _ { s with heap := PySem.W.copyHeap s.heap vs }
  rw [hsz]
  refine wpAny_bind (wpAny_holding (wpAny_call_entry slot_list_sort ⟨_, PySem.W.copyHeap_at s.heap vs, rfl⟩ entry_list_sort ?_ (args_list_sort _)))
  exact wpAny_mono (PySem.W.list_sort_vals (P := fun f s' => f = .done (.ret .none) ∧ Q (.ref (s.heap.objs.size + 1)) s') (s := { s with heap := PySem.W.copyHeap s.heap vs }) (PySem.W.copyHeap_at s.heap vs) S hL ⟨rfl, h⟩) (fun f s' ⟨e, q⟩ => ⟨_, e, wpAny_pure ⟨_, rfl, q⟩⟩) fun _ _ e => e
end

theorem Vals.of_each {β : Type} {val : β → V} : ∀ {us : List Value} {bs : List β}, PySem.W.EachIs (fun u b => RelV (val b) u) us bs → Vals (bs.map val) us
  | _, _, .nil => .nil
  | _, _, .cons h r => .cons h (Vals.of_each r)
theorem each_vals {β : Type} {val : β → V} {R : Value → β → Prop} : ∀ {us : List Value} {bs : List β}, Vals (bs.map val) us → (∀ u b, b ∈ bs → RelV (val b) u → R u b) → PySem.W.EachIs R us bs
  | _, [], h, _ => by cases h; exact .nil
  | _, b :: bs, h, k => by
    cases h with
    | cons h r => exact .cons (k _ b List.mem_cons_self h) (each_vals r fun u b hb => k u b (List.mem_cons_of_mem _ hb))
/-- sorted(xs), xs a list or a tuple of data that compare -/
def rSortD (K : PySem.W.Frag) : List V → Hp → VK → Prop := fun vs H Q => ∃ (a : Addr) (β : Type) (bs : List β) (val : β → V) (enc : β → PyData), vs = [.ref a] ∧ (SqL K H a (bs.map val) ∨ SqT K H a (bs.map val)) ∧ (∀ b ∈ bs, Dp K H (val b) (enc b)) ∧
  PySem.W.AllAlike (bs.map enc) ∧ PySem.W.Sortable (bs.map enc) ∧ (∀ b ∈ bs, (enc b).depth ≤ 60) ∧ ∀ p, H p = none → Q (.ref p) (upd H p (.lst ((bs.mergeSort (PySem.W.dataLe false enc)).map val)))
section
variable {X : Cx}
theorem cr_sortD (hu : X.A.units + 65 < cLine) : CallR X (.builtin "sorted") (rSortD X.K) := by
  intro pins s σ H vs us Q I r h
  obtain ⟨a, β, bs, val, enc, rfl, hs, hd, hal, hk, hdp, q⟩ := h
  rw [Vals.ref1 r]
  have hu2 : ∀ b, b ∈ bs → X.A.units + 2 + (enc b).depth < cLine := fun b hb => by have := hdp b hb; omega
  have fin : ∀ {its : List Value}, Vals (bs.map val) its → (bs.map val).length ≤ sizeLine → ∀ out : List Value, PySem.W.EachIs (fun u b => RelV (val b) u) out (bs.mergeSort (PySem.W.dataLe false enc)) → EP X pins σ Q (.ref (s.heap.objs.size + 1)) { s with heap := sortedAll s.heap its out.toArray } := fun {its} rv hz out ho => by
    obtain ⟨ep, he⟩ := PyProof.Rows.sortedAll_at s.heap its out.toArray
    have hl : ((bs.mergeSort (PySem.W.dataLe false enc)).map val).length ≤ sizeLine := by rw [List.length_map, List.length_mergeSort]; rw [List.length_map] at hz; exact hz
    exact ⟨.ref _, upd H (s.heap.objs.size + 1) (.lst ((bs.mergeSort (PySem.W.dataLe false enc)).map val)), I.laid (t' := s.toks) (fun _ _ => PyProof.Rows.sortedAll_old) (Nat.le_succ _) ⟨hl, out, ep, Vals.of_each ho, he⟩, rfl, q _ (I.hok.fresh (Nat.le_succ _))⟩
  rcases hs with hs | hs
  · obtain ⟨its, rv, hl, hz⟩ := I.list hs
    refine PySem.W.sorted_data (R := fun u b => RelV (val b) u) hl.isList (each_vals rv fun u b _ h => h) (each_vals rv fun u b hb h => Dp.reads I _ _ _ (hd b hb) h) hal hk (by rw [List.length_map] at hz; exact hz) hu2 fun out _ ho => fin rv hz out ho
  · obtain ⟨its, rv, hl, hz⟩ := I.tuple hs
    have hl' : s.heap.IsTuple a its.toArray := hl
    have e : PySem.W.EachIs (fun u b => RelV (val b) u) its bs := each_vals rv fun u b _ h => h
    have er : PySem.W.EachIs (fun u b => ∃ as, Reads (PySem.W.sortingHeap (PySem.W.copyHeap s.heap its) (s.heap.objs.size + 1) its) u (enc b) as) its bs := each_vals rv fun u b hb h => by
      obtain ⟨as, r⟩ := Dp.reads I _ _ _ (hd b hb) h
      exact ⟨as, PyProof.Rows.Reads.keeps (fun _ _ => PySem.W.sorting_copy_old) r⟩
    refine sorted_tup hl' (PySem.W.SortsAt.data (s := { s with heap := PySem.W.sortingHeap (PySem.W.copyHeap s.heap its) (s.heap.objs.size + 1) its }) (PySem.W.each_map (R := fun v d => ∃ as, Reads (PySem.W.sortingHeap (PySem.W.copyHeap s.heap its) (s.heap.objs.size + 1) its) v d as) enc er) hal hk (PySem.W.bound_map (A := X.A.in1.in1) hu2)) (by rw [← rv.length]; exact hz) ?_
    exact fin rv hz _ (PySem.W.sortVals_data false e er hal)
end
def noTup : PyData → Bool
  | .none => false
  | .tuple _ => false
  | _ => true
def conTup : PyData → Bool
  | .tuple (_ :: _) => true
  | _ => false
/-- sorted: the items are data of one kind -/
def sortOk (ts : List T) : Bool := T.shps 60 ts && ts.all (fun t => ts.all fun u => PySem.W.alike (T.dat t) (T.dat u)) && (ts.all (fun t => conTup (T.dat t)) || ts.all fun t => noTup (T.dat t))
def srt (ts : List T) : List T := ts.mergeSort (PySem.W.dataLe false T.dat)
def opSrt : T → Option (Bool × T)
  | .lst ts => if sortOk ts = true then some (true, .lst (srt ts)) else none
  | .tup ts => if sortOk ts = true then some (true, .lst (srt ts)) else none
  | _ => none
section
variable {M : Md} {τ : Tg} {H : Hp}
theorem Rps.dpEach : ∀ {ts : List T} {vs : List V}, Rps M τ H ts vs → T.shps 60 ts = true → ∀ b ∈ ts.zip vs, Dp M.K H b.2 (T.dat b.1) ∧ Rp M τ H b.1 b.2 ∧ (T.dat b.1).depth ≤ 60
  | _, _, .nil, _, b, hb => by simp at hb
  | _, _, .cons h r, k, b, hb => by
    rw [T.shps, Bool.and_eq_true] at k
    rw [List.zip_cons_cons] at hb
    rcases List.mem_cons.mp hb with z | z
    · subst z
      exact ⟨h.dp k.1, h, (T.shp_ok 60 _ k.1).2⟩
    · exact Rps.dpEach r k.2 b z
theorem zip_fst : ∀ {ts : List T} {vs : List V}, ts.length = vs.length → (ts.zip vs).map Prod.fst = ts
  | [], [], _ => rfl
  | t :: ts, v :: vs, h => by
    rw [List.zip_cons_cons, List.map_cons, zip_fst (by simpa using h)]
theorem zip_snd : ∀ {ts : List T} {vs : List V}, ts.length = vs.length → (ts.zip vs).map Prod.snd = vs
  | [], [], _ => rfl
  | t :: ts, v :: vs, h => by
    rw [List.zip_cons_cons, List.map_cons, zip_snd (by simpa using h)]
theorem Rps.of_pairs : ∀ {bs : List (T × V)}, (∀ b ∈ bs, Rp M τ H b.1 b.2) → Rps M τ H (bs.map Prod.fst) (bs.map Prod.snd)
  | [], _ => .nil
  | b :: bs, h => .cons (h b List.mem_cons_self) (Rps.of_pairs fun c hc => h c (List.mem_cons_of_mem _ hc))
theorem sort_pairs {ts : List T} {vs : List V} (r : Rps M τ H ts vs) (ok : sortOk ts = true) :
    (∀ b ∈ ts.zip vs, Dp M.K H b.2 (T.dat b.1)) ∧ PySem.W.AllAlike ((ts.zip vs).map fun b => T.dat b.1) ∧ PySem.W.Sortable ((ts.zip vs).map fun b => T.dat b.1) ∧ (∀ b ∈ ts.zip vs, (T.dat b.1).depth ≤ 60) ∧
      Rps M τ H (srt ts) (((ts.zip vs).mergeSort (PySem.W.dataLe false fun b => T.dat b.1)).map Prod.snd) := by
  unfold sortOk at ok
  simp only [Bool.and_eq_true, Bool.or_eq_true, List.all_eq_true] at ok
  obtain ⟨⟨h1, h2⟩, h3⟩ := ok
  have each := Rps.dpEach r h1
  have em : (ts.zip vs).map (fun b => T.dat b.1) = ts.map T.dat := by
    rw [show (fun b : T × V => T.dat b.1) = T.dat ∘ Prod.fst from rfl, ← List.map_map, zip_fst r.length]
  refine ⟨fun b hb => (each b hb).1, ?_, ?_, fun b hb => (each b hb).2.2, ?_⟩
  · rw [em]
    intro d hd d' hd'
    obtain ⟨t, ht, rfl⟩ := List.mem_map.mp hd
    obtain ⟨u, hu, rfl⟩ := List.mem_map.mp hd'
    exact h2 t ht u hu
  · rw [em]
    rcases h3 with h3 | h3
    · refine .inl fun d hd => ?_
      obtain ⟨t, ht, rfl⟩ := List.mem_map.mp hd
      have := h3 t ht
      revert this
      cases T.dat t with
      | tuple xs => cases xs with
        | nil => intro z; cases z
        | cons x r => intro _; exact ⟨x, r, rfl⟩
      | _ => intro z; cases z
    · refine .inr fun d hd => ?_
      obtain ⟨t, ht, rfl⟩ := List.mem_map.mp hd
      have := h3 t ht
      revert this
      cases T.dat t <;> intro z <;> first | (cases z; done) | exact ⟨by simp, by simp⟩
  · have e : srt ts = ((ts.zip vs).mergeSort (PySem.W.dataLe false fun b => T.dat b.1)).map Prod.fst := by
      rw [List.map_mergeSort (r := PySem.W.dataLe false fun b : T × V => T.dat b.1) (s := PySem.W.dataLe false T.dat) (f := Prod.fst) (fun a _ b _ => rfl), zip_fst r.length]
      rfl
    rw [e]
    exact Rps.of_pairs fun b hb => (each b (List.mem_mergeSort.mp hb)).2.1
theorem cg_sort : CallG1 M (rSortD M.K) opSrt := by
  intro τ H tx x b t Q hx hg g
  unfold opSrt at hg
  split at hg
  · rename_i ts
    split at hg <;> cases hg
    rename_i ok
    obtain ⟨a, vs, rfl, e1, r1⟩ := hx.lst
    obtain ⟨k1, k2, k3, k4, k5⟩ := sort_pairs r1 ok
    refine ⟨a, T × V, ts.zip vs, Prod.snd, fun b => T.dat b.1, rfl, .inl ?_, k1, k2, k3, k4, fun p hp => g.2 p _ hp ⟨_, rfl, k5⟩⟩
    rw [zip_snd r1.length]
    exact .inl (.inl e1)
  · rename_i ts
    split at hg <;> cases hg
    rename_i ok
    obtain ⟨a, vs, rfl, e1, r1⟩ := hx.tup
    obtain ⟨k1, k2, k3, k4, k5⟩ := sort_pairs r1 ok
    refine ⟨a, T × V, ts.zip vs, Prod.snd, fun b => T.dat b.1, rfl, .inr ?_, k1, k2, k3, k4, fun p hp => g.2 p _ hp ⟨_, rfl, k5⟩⟩
    rw [zip_snd r1.length]
    exact e1.sq
  · cases hg
end
theorem se_sort {X : Cx} {k : Nat} {e : Expr} {f : S → R Res} {p pos : Pos} (rm : Rm X k) (hG : Gl X "sorted") (hm : X.mg "sorted" = none) (he : SE X e f) (hs : starEach [e] X.env = (false, eval e X.env) :: starEach [] X.env := by rfl) :
    SE X (.Call (.Name "sorted" p) [e] [] pos) (eUn opSrt f) := se_callB1 (cr_sortD rm.u65) cg_sort hG hm (by decide +kernel) he (by decide) (by decide) hs
end Sv

/-! Sv, part P: what a generated text leans on. -/
namespace Sv
open PySem PySem.Spec PyProof.Rows L2
variable [Tb]

theorem Rm.blk {X : Cx} {k : Nat} (rm : Rm X k) {s : Shared} {H : Hp} {scope : Scope} {env : Env} {fp : List Addr} : Rm (X.blk s H scope env fp) k := ⟨rm.room, rm.calm, rm.nd⟩
def stuckF : Fn := fun _ _ => .stuck
/-- a def that is called by its name -/
structure Cal (P : Program) (w : World) (K : PySem.W.Frag) (mg : Str → Option Value) (base : Heap) (x : Str) (k n : Nat) (G : Fn) : Prop where
  ex : ∃ (f : Addr) (fd : FuncData) (ps : List Str), FnOk P w K mg base (L2.CX P w) k f fd ps (spF ⟨K, mg, Tb.T, Tb.L⟩ ps.length G) ∧ mg x = some (.ref f) ∧ PySem.W.keepIn K (.ref f) = true ∧ Binds K fd ps [] ∧ ps.length = n
  len : ∀ ts ob, ts.length ≠ n → G ts ob = .stuck
theorem Cal.mono {P : Program} {w : World} {K : PySem.W.Frag} {mg : Str → Option Value} {base : Heap} {x : Str} {k k' n : Nat} {G : Fn} (C : Cal P w K mg base x k n G) (h : k ≤ k') : Cal P w K mg base x k' n G := by
  obtain ⟨f, fd, ps, h1, h2⟩ := C.ex
  exact ⟨⟨f, fd, ps, h1.mono h, h2⟩, C.len⟩
/-- called a level too deep -/
theorem FnOk.stuck {P : Program} {w : World} {K : PySem.W.Frag} {mg : Str → Option Value} {base : Heap} {k : Nat} {f : Addr} {fd : FuncData} {ps : List Str} : FnOk P w K mg base (L2.CX P w) k f fd ps (spF ⟨K, mg, Tb.T, Tb.L⟩ ps.length stuckF) :=
  ⟨fun vs H Q E h => by obtain ⟨τ, ob, ts, _, _, _, _, h⟩ := h; exact h.elim, fun A outer s H args us vs Q E _ _ _ _ h => by obtain ⟨τ, ob, ts, _, _, _, _, h⟩ := h; exact h.elim⟩
section
variable {X : Cx} {x : Str} {e : Expr} {es : List Expr} {k n kX : Nat} {G : Fn} {fa : S → R (List T)} {p pos : Pos}
theorem se_callC (C : Cal X.prog X.w X.K X.mg X.base x k n G) (rm : Rm X kX) (hk : k ≤ kX) (hg : Gl X x) (ha : SA X (e :: es) fa) (hdb : (x == ("__debug__" : Str)) = false := by decide)
    (he : starEach (e :: es) X.env = (false, eval e X.env) :: starEach es X.env := by rfl) (hpl : (backTo pos (starEach es X.env)).any (·.1) = false := by rfl) : SE X (.Call (.Name x p) (e :: es) [] pos) (eCall G fa) := by
  obtain ⟨f, fd, ps, h1, h2, h3, h4, h5⟩ := C.ex
  exact se_call h1 rm hk hg h2 h3 h4 (by rw [h5]; exact C.len) ha hdb he hpl
/-- a name of the module that is a whole number -/
theorem se_gint {i : Int} (hm : ∃ t, X.mg x = some (.int i t)) (hg : Gl X x) (hd : (x == ("__debug__" : Str)) = false := by decide) : SE X (.Name x pos) (eC (.int i)) := by
  obtain ⟨t, ht⟩ := hm
  exact se_glob (v := .int i) hg ht ⟨t, rfl⟩ (fun _ _ => .int i) hd
/-- a def of the module, as a value -/
theorem se_gfn (C : Cal X.prog X.w X.K X.mg X.base x k n G) (hg : Gl X x) (hd : (x == ("__debug__" : Str)) = false := by decide) : SE X (.Name x pos) (eC (.gl x)) := by
  obtain ⟨f, fd, ps, h1, h2, _⟩ := C.ex
  exact se_gl hg h2 hd
/-- the value of a local name, called -/
def eCallV (i : Nat) (D : Str → Option Fn) (fa : S → R (List T)) : S → R Res := fun s => match s.sl[i]? with
  | some (some (false, .gl x)) => (match D x with
    | some G => eCall G fa s
    | none => .stuck)
  | _ => .stuck
theorem se_callV {i : Nat} {y : Str} {D : Str → Option Fn} (hD : ∀ x G, D x = some G → ∃ n, Cal X.prog X.w X.K X.mg X.base x k n G) (rm : Rm X kX) (hk : k ≤ kX) (hN : X.N[i]? = some y) (hv : Vis X.env.scope y) (ha : SA X (e :: es) fa)
    (hd : (y == ("__debug__" : Str)) = false := by decide) (hcd : (y == ("__classdict__" : Str)) = false := by decide)
    (he : starEach (e :: es) X.env = (false, eval e X.env) :: starEach es X.env := by rfl) (hpl : (backTo pos (starEach es X.env)).any (·.1) = false := by rfl) : SE X (.Call (.Name y p) (e :: es) [] pos) (eCallV i D fa) := fun W tk => ⟨fun pins s σ H Q I h => by
  obtain ⟨st, τ, rel, post⟩ := h
  unfold eCallV at post
  split at post
  · rename_i x hx
    split at post
    · rename_i G hG
      obtain ⟨n, C⟩ := hD x G hG
      obtain ⟨f, fd, ps, h1, h2, h3, h4, h5⟩ := C.ex
      obtain ⟨v, e1, e2⟩ := rel.rs.at_ i false _ hx
      have e2 : Rp (Mx X) τ H (.gl x) v := e2
      have ev : v = .ref f := by
        cases e2 with
        | gl k1 k2 =>
          have k1 : X.mg x = _ := k1
          rw [h2] at k1
          cases k1
          have k2 : RelV v (.ref f) := k2
          cases v with
          | ref a => cases k2; rfl
          | int i => obtain ⟨_, z⟩ := k2; cases z
          | str x => obtain ⟨_, z⟩ := k2; cases z
          | non => cases k2
          | bl b => cases k2
          | byt x => obtain ⟨_, z⟩ := k2; cases z
          | flt x => obtain ⟨_, z⟩ := k2; cases z
          | ty x => cases k2
      subst ev
      refine wpAny_Call_Name_kw (thn ((pe_var (pos := p) (i := i) hN hv hd hcd).run pins s σ H (fun v H1 => v = .ref f ∧ H1 = H) I ⟨_, e1, rfl, rfl⟩) fun u s1 ⟨v, H1, I1, r1, z1, z2⟩ => ?_)
      rw [z1] at r1
      rw [z2] at I1
      obtain rfl : u = Value.ref f := r1
      have pa := ha W tk
      have g := run1 (R1 := RTs (Mx X)) (C := fun vs H2 => spF (Mx X) ps.length G vs H2 Q (WE W σ)) (.refl _ _) rel post fun ts s2 vs τ2 H2 ev rel2 r1 p => call_spF rel2 r1 ev (by rw [h5]; exact C.len ts s2.ob) p
      refine PySem.W.callWith_K (h₀ := X.base) I1.ok.mod.kin h3 (thn (pa.run pos pins s1 σ H _ I1 g) fun us s2 ⟨vs, H2, I2, r, q⟩ => ⟨I2.kIn, ?_⟩) he hpl
      exact run_fnS h1 (rm.room.mono hk) h4 (passAt tk σ) I2 r q
    · exact post.elim
  · exact post.elim⟩
end
section
variable {P : Program} {w : World} {K : PySem.W.Frag} {mg : Str → Option Value} {base : Heap}
/-- a def of the module whose body is served -/
theorem cal_of {x : Str} {st : Stmt} {f : Addr} {fd : FuncData} {N ps : List Str} {k : Nat} {body : S → RS} (F : FunD K x x (defArgs st) (defBody st) (defScope st) [] [] f fd) (hm : mg x = some (.ref f)) (Sc : FnScope N ps (defScope st)) (hl : ps.length ≤ N.length)
    (hbd : ∀ (kV doc pm : Value) (an : Option Addr) (cdv ct : Value) (us : List Value), us.length = ps.length → bindArgs (PySem.W.fnOf x x (defArgs st) (defBody st) (defScope st) .none kV doc pm an cdv ct) ⟨us, []⟩ = pure (ps.zip us))
    (hb : ∀ (cdv : Value) (A : Around) (outer : List Env) (s : Shared) (H : Hp) (E : XK), Rm (cxOf (L2.CX P w) P w K mg base N x (defScope st) f cdv A outer s H E) k → PassesOwn (model P w) (A.deeper (envOfC x (defScope st) s.heap.objs.size f cdv)) (envOfC x (defScope st) s.heap.objs.size f cdv) (cxOf (L2.CX P w) P w K mg base N x (defScope st) f cdv A outer s H E).xe →
      SSs (cxOf (L2.CX P w) P w K mg base N x (defScope st) f cdv A outer s H E) (defBody st) body) : Cal P w K mg base x (k + 1) ps.length (mkFn ps.length N.length body) :=
  ⟨⟨f, fd, ps, fn_ok (He5.fun_of F) Sc hl hb, hm, F.kp, F.bindsN hbd, rfl⟩, mkFn_len⟩
theorem cal_stuck {x : Str} {st : Stmt} {f : Addr} {fd : FuncData} {ps : List Str} {k : Nat} (F : FunD K x x (defArgs st) (defBody st) (defScope st) [] [] f fd) (hm : mg x = some (.ref f))
    (hbd : ∀ (kV doc pm : Value) (an : Option Addr) (cdv ct : Value) (us : List Value), us.length = ps.length → bindArgs (PySem.W.fnOf x x (defArgs st) (defBody st) (defScope st) .none kV doc pm an cdv ct) ⟨us, []⟩ = pure (ps.zip us)) : Cal P w K mg base x k ps.length stuckF :=
  ⟨⟨f, fd, ps, FnOk.stuck, hm, F.kp, F.bindsN hbd, rfl⟩, fun _ _ _ => rfl⟩
end

section
variable {X : Cx} {elt tg iter : Expr} {ifs : List Expr} {scope : Scope} {own : List (Str × Nat)} {pos spos py : Pos} {fi : S → R (List T)} {g : T → S → R Unit} {c : S → R Bool} {e : S → R Res} {i : Nat} {y : Str}
/-- name = [..] on one line -/
theorem ss_setLc (hc : X.calm = true) (hN : X.N.Nodup) (hy : X.N[i]? = some y) (hyl : X.env.scope.names.lookup y = some .local) (hk : X.env.scope.kind = .function) (hln : (py.line == pos.line) = true) (han : (scope.names.any fun (n, k) => n == y && (k == .local || k == .cell)) = false)
    (hi : SI X tg iter fi) (ok : BlkOk X.N X.env.scope scope own)
    (hg : ∀ (s : Shared) (H : Hp) (C : Addr) (cl : List (Str × Addr)) (fp : List Addr), SGw (X.blk s H scope (compEnvC scope cl C X.env) fp) (own.map (·.2)) tg g)
    (ht : ∀ (s : Shared) (H : Hp) (C : Addr) (cl : List (Str × Addr)) (fp : List Addr), STs (X.blk s H scope (compEnvC scope cl C X.env) fp) ifs c)
    (he : ∀ (s : Shared) (H : Hp) (C : Addr) (cl : List (Str × Addr)) (fp : List Addr), SE (X.blk s H scope (compEnvC scope cl C X.env) fp) elt e) (hs : ∀ x, foldedSetIterable iter X.env x = pure x := by intro _; rfl) :
    SS X (.Assign [.Name y py] (.ListComp elt [⟨tg, iter, ifs, 0⟩] scope pos) spos) (sSet i (eLC (own.map (·.2)) fi g c e)) := fun W tk =>
  PS.imp (ps_setLc (g := tGw (Mx X) (List.map (fun x : Str × Nat => x.snd) own) g) (tt := tG (Mx X) RBool c fun _ _ _ _ => False) (te := tG (Mx X) (RRes (Mx X)) e fun _ _ _ _ => False) hc hN hy hyl (sw_true hk hyl hln han) (hi W tk) ok (fun s H C cl fp => hg s H C cl fp) (fun s H C cl fp => ht s H C cl fp _ takes0) (fun s H C cl fp => he s H C cl fp _ takes0) hs) fun D σ H ⟨s, τ, rel, post⟩ =>
    lc_run (M := Mx X) (W := W) (runS (R1 := RRes (Mx X)) (.refl _ _) rel post fun x s2 v τ2 H2 ev rel2 r1 p => set_run ev rel2 r1 p)
end

theorem slam {X : Cx} {k kX : Nat} {scope : Scope} {body : Expr} {fE : S → R Res} (rm : Rm X kX) (h : ∀ (A : Around) (outer : List Env) (s : Shared) (H : Hp) (E : XK) (f c' : Addr), Rm (LamX.lamCx X A outer s H E scope f c') k → SE (LamX.lamCx X A outer s H E scope f c') body fE) : SLam X k scope body fE :=
  fun A outer s H E f c' hr => h A outer s H E f c' ⟨hr, rfl, rm.nd⟩
section
variable {P : Program} {w : World} {K : PySem.W.Frag} {mg : Str → Option Value} {base : Heap}
/-- a def of the module with a code object that is known -/
theorem cal_ofC {x : Str} {st : Stmt} {fd : FuncData} {N ps : List Str} {k : Nat} {body : S → RS} {p : Str × Option Str} (F : FunD K x x (defArgs st) (defBody st) (defScope st) [] [] (He.fAd K p) fd) (hm : mg x = some (.ref (He.fAd K p))) (Sc : FnScope N ps (defScope st)) (hl : ps.length ≤ N.length)
    (hbd : ∀ (kV doc pm : Value) (an : Option Addr) (cdv ct : Value) (us : List Value), us.length = ps.length → bindArgs (PySem.W.fnOf x x (defArgs st) (defBody st) (defScope st) .none kV doc pm an cdv ct) ⟨us, []⟩ = pure (ps.zip us))
    (hb : ∀ (cdv : Value) (A : Around) (outer : List Env) (s : Shared) (H : Hp) (E : XK), cdv = .ref (He.cT K p).1 → Rm (cxOf (L2.CX P w) P w K mg base N x (defScope st) (He.fAd K p) cdv A outer s H E) k → PassesOwn (model P w) (A.deeper (envOfC x (defScope st) s.heap.objs.size (He.fAd K p) cdv)) (envOfC x (defScope st) s.heap.objs.size (He.fAd K p) cdv) (cxOf (L2.CX P w) P w K mg base N x (defScope st) (He.fAd K p) cdv A outer s H E).xe →
      SSs (cxOf (L2.CX P w) P w K mg base N x (defScope st) (He.fAd K p) cdv A outer s H E) (defBody st) body) : FnOk P w K mg base (L2.CX P w) (k + 1) (He.fAd K p) fd ps (spF ⟨K, mg, Tb.T, Tb.L⟩ ps.length (mkFn ps.length N.length body)) := by
  have F' := He5.fun_of F
  obtain ⟨oc, od, kV, doc, pm, an, cdv, ct, osl, e, lk, hcd⟩ := F'.ex
  subst e
  obtain ⟨c, ec⟩ := He.codeIn_ref hcd
  have e1 : cdv = .ref (He.cT K p).1 := by
    rw [ec]
    have := He.codeOf_eq lk (c := c) ec
    show Value.ref c = Value.ref (He.codeOf K p)
    rw [this]
  exact fn_okAt lk hcd Sc hl fun A outer s H E => hb cdv A outer s H E e1
end

/-! ### where a lambda stands -/
def eSub : Expr → Nat → Expr
  | .List es p, i => es.getD i (.List [] p)
  | .Tuple es _ p, i => es.getD i (.List [] p)
  | .BoolOp _ es p, i => es.getD i (.List [] p)
  | .Compare l _ cs _, i => (l :: cs).getD i l
  | .ListComp e gs _ _, i => (match gs with
    | g :: _ => if i = 0 then g.iter else e
    | [] => e)
  | .Call f as _ _, i => as.getD i f
  | .UnaryOp _ a _, _ => a
  | e, _ => e
def ePath (e : Expr) (p : List Nat) : Expr := p.foldl eSub e
def stE : Stmt → Expr
  | .Assign _ v _ => v
  | .Return (some v) _ => v
  | .Expr v _ => v
  | .If t _ _ _ => t
  | _ => .List [] ⟨0, 0, 0, 0⟩
def stB : Stmt → Nat → List Stmt
  | .If _ a b _, i => if i = 0 then a else b
  | .For _ _ a _ _, _ => a
  | .While _ a _ _, _ => a
  | _, _ => []
def lamLD (q : Str) : Expr → LD
  | .Lambda _ b s _ => ⟨q, b, s, []⟩
  | e => ⟨q, e, { kind := .function, names := [], isGenerator := false, isCoroutine := false, more := [] }, []⟩
theorem lamOk {X : Cx} {i k : Nat} {q : Str} {body : Expr} {scope : Scope} {fE : S → R Res} (h : Tb.L i = ⟨q, body, scope, []⟩) (hq : q = X.env.qual ++ "<lambda>") (cl : closedB scope = true) (L : LamX.LamS X.env.scope scope) (hb : SLam X k scope body fE) :
    (Tb.L i).q = X.env.qual ++ "<lambda>" ∧ (Tb.L i).cl = [] ∧ closedB (Tb.L i).scope = true ∧ LamX.LamS X.env.scope (Tb.L i).scope ∧ SLam X k (Tb.L i).scope (Tb.L i).body fE := by
  rw [h]
  exact ⟨hq, rfl, cl, L, hb⟩
theorem toldC_of {K : PySem.W.Frag} {mg : Str → Option Value} {x cn a : Str} {st : Stmt} {g CS : Addr} {fd : FuncData} {j : Nat} {p1 p2 p3 p4 p5 p6 p7 p8 : Pos} (F : FunD K x x (defArgs st) (defBody st) (defScope st) [] [] g fd) (hm : mg x = some (.ref g))
    (hst : defBody st = [.Try [.Return (some (.Call (.Name a p1) [] [] p2)) p3] [.ExceptHandler (some (.Name cn p4)) none [.Return (some (.Constant (.str cn) j p5)) p6] p7] [] [] p8]) (Sg : FnScope [a] [a] (defScope st)) (hva : Vis (defScope st) a)
    (hge : (defScope st).names.lookup cn = some .globalImplicit) (E : ExcF K mg cn CS)
    (hbd : ∀ (kV doc pm : Value) (an : Option Addr) (cdv ct : Value) (us : List Value), us.length = 1 → bindArgs (PySem.W.fnOf x x (defArgs st) (defBody st) (defScope st) .none kV doc pm an cdv ct) ⟨us, []⟩ = pure ([a].zip us))
    (hde : (cn == ("__debug__" : Str)) = false := by decide) (hd : (a == ("__debug__" : Str)) = false := by decide) (hcd : (a == ("__classdict__" : Str)) = false := by decide) (hdb : (x == ("__debug__" : Str)) = false := by decide) : Nonempty (ToldC K mg x cn) := by
  have F' := He5.fun_of F
  obtain ⟨oc, od, kV, doc, pm, an, cdv, ct, osl, e, lk, hcd2⟩ := F'.ex
  have hb := F.bindsN (ps := [a]) fun kV doc pm an cdv ct us hl => hbd kV doc pm an cdv ct us hl
  subst e
  rw [hst] at lk hb
  exact ⟨⟨g, CS, a, [a], defArgs st, defScope st, .none, kV, doc, pm, cdv, ct, oc, an, od, osl, j, p1, p2, p3, p4, p5, p6, p7, p8, hm, F.kp, lk, hcd2, hb, Sg, rfl, hva, hge, E.g, hde, E.m, hd, hcd, hdb⟩⟩
theorem excF_of {K : PySem.W.Frag} {mg : Str → Option Value} {h : Heap} (X : K.In h) (G : h.Ns mainGlobals mg) {x : Str} (c1 : (He.Fa.glo x).ok K = true) (c2 : (He.Fa.exc x).ok K = true) (c3 : (He.Fa.exm x x true).ok K = true) : ExcF K mg x (He.ga K x) := by
  obtain ⟨a, b, d, e⟩ := He.exc_ok c2
  exact ⟨He.glo_ok X G c1, a, b, d, e, He.exm_ok c3⟩
end Sv

/-! Sv, part Q: a law's end. -/
namespace Sv
open PySem PySem.Spec PyProof.Rows L2
open Classical in
noncomputable def tau0 (P a : Addr) (q : Str) (H : Hp) : Tg := fun b => if b = P then .tb q else if b = a ∧ H a ≠ none then .frz else .free
theorem tau0_c {P a : Addr} {q : Str} {H : Hp} (b : Addr) : (tau0 P a q H b = .tb q ∧ b = P) ∨ (tau0 P a q H b = .frz ∧ b = a ∧ H a ≠ none) ∨ tau0 P a q H b = .free := by
  unfold tau0
  split
  · rename_i e; exact .inl ⟨rfl, e⟩
  · split
    · rename_i e; exact .inr (.inl ⟨rfl, e⟩)
    · exact .inr (.inr rfl)
theorem sp_law {K : PySem.W.Frag} {mg : Str → Option Value} {P a : Addr} {q : Str} {L : Nat → LD} {H : Hp} {ns : List Int} {G : Fn} {ob : List OV} (hP : H P = some (.tbl #[])) (hS : SqL K H a (ns.map V.int)) (hG : G [.scr ns] [] = .ok false (.bl true) ob) :
    spF ⟨K, mg, [(P, q)], L⟩ 1 G [.ref a] H (fun v _ => v = .bl true) fun _ _ _ => False := by
  have no : ∀ b g, tau0 P a q H b = g → (g ≠ .tb q ∧ g ≠ .frz ∧ g ≠ .free) → False := fun b g e n => by
    rcases tau0_c (P := P) (a := a) (q := q) (H := H) b with ⟨h, _⟩ | ⟨h, _⟩ | h
    · exact n.1 (e.symm.trans h)
    · exact n.2.1 (e.symm.trans h)
    · exact n.2.2 (e.symm.trans h)
  refine ⟨tau0 P a q H, [], [.scr ns], fun b i z => no b _ z (by simp), ⟨fun b r z => (no b _ z (by simp)).elim, fun b c r z _ => (no b _ z (by simp)).elim, fun b z => ?_, ⟨fun p hp => ?_, fun b q' z => ?_, trivial⟩⟩, .cons (.scr ?_) .nil, rfl, ?_⟩
  · rcases tau0_c (P := P) (a := a) (q := q) (H := H) b with ⟨_, h⟩ | ⟨_, h, h2⟩ | h
    · rw [h, hP]; simp
    · rw [h]; exact h2
    · exact absurd h z
  · obtain rfl := List.mem_singleton.mp hp
    exact if_pos rfl
  · rcases tau0_c (P := P) (a := a) (q := q) (H := H) b with ⟨h, h2⟩ | ⟨h, h1, h2⟩ | h
    · rw [h] at z
      cases z
      subst h2
      exact ⟨List.mem_singleton.mpr rfl, #[], hP, True.intro, fun pos cv hc => by
        have z : codeAmong pos [] = some cv := hc
        simp [codeAmong] at z⟩
    · rw [h] at z; cases z
    · rw [h] at z; cases z
  · rcases hS with h | h
    · refine .inl ⟨?_, h⟩
      have hn : a ≠ P ∧ H a ≠ none := by
        rcases h with h | ⟨o, h⟩
        · refine ⟨fun e => ?_, by rw [h]; simp⟩
          rw [e, hP] at h; cases h
        · refine ⟨fun e => ?_, by rw [h]; simp⟩
          rw [e, hP] at h; cases h
      unfold tau0
      rw [if_neg hn.1, if_pos ⟨rfl, hn.2⟩]
    · exact .inr h
  · show (match G [.scr ns] [] with | .ok b t ob' => _ | .exc c ob' => _ | .stuck => False)
    rw [hG]
    intro v τ' H' _ _ hv
    have hv : Rp _ τ' H' (.bl true) v := hv
    cases hv
    rfl
theorem law_at {l : PySem.W.OpenLaw} {w : World} {K : PySem.W.Frag} {k n : Nat} {x : Str} {mg : Str → Option Value} {fa : Addr} {h : Heap} {fd : FuncData} {q : Str} {L : Nat → LD} {G : Fn} {cP : Addr × Addr}
    (hT : h.get? cP.2 = some { cls := .none, data := .fields #[] }) (nT : K.lookup cP.2 = none) (C : PySem.W.CodeHd h cP.1 cP.2) (hb : ∀ (s : Shared) (v : Value), BindsTo s fd ⟨[v], []⟩ [(x, v)])
    (plain : ∀ ns : List Int, ns.length ≤ n → (∀ z ∈ ns, Builtin.Int.intBits z ≤ 1048576) → ∃ ob, G [.scr ns] [] = .ok false (.bl true) ob)
    (F : ∀ base : Heap, K.In base → base.Ns mainGlobals mg → LamX.TabB base mg cP.1 cP.2 → FnOk l.prog w K mg base (L2.CX l.prog w) k fa fd [x] (spF ⟨K, mg, [(cP.2, q)], L⟩ 1 G)) : LamX.LawAtS l w K (L2.CX l.prog w) k n x mg fa h := by
  refine ⟨fd, [cP], _, fun p hp => ?_, fun p hp => ?_, fun p hp => ?_, hb, fun H a ns h1 h2 h3 h4 => ?_, fun base h1 h2 h3 => F base h1 h2 (h3 cP (List.mem_singleton.mpr rfl))⟩
  · obtain rfl := List.mem_singleton.mp hp; exact hT
  · obtain rfl := List.mem_singleton.mp hp; exact nT
  · obtain rfl := List.mem_singleton.mp hp; exact C
  · obtain ⟨ob, hG⟩ := plain ns h1 h2
    exact sp_law (h3 cP (List.mem_singleton.mpr rfl)) h4 hG
theorem cx_none {P : Program} {w : World} {H : Hp} {s s' : Shared} {e : Value} (h : L2.CX P w [] H s (fun _ _ _ => False) e s') : False := by
  unfold L2.CX at h
  obtain ⟨_, _, _, _, _, _, _, _, _, _, _, _, z⟩ := h
  exact z.elim
end Sv

/-! Sv, part R: plain reasoning over the combinators. -/
namespace Sv
open PySem PySem.Spec PyProof.Rows L2
theorem sCons_assoc (a b c : S → RS) : sCons (sCons a b) c = sCons a (sCons b c) := by
  funext s
  unfold sCons
  cases a s <;> rfl
theorem sCons_nxt {a b : S → RS} {s s' : S} (h : a s = .nxt s') : sCons a b s = b s' := by unfold sCons; rw [h]
theorem sCons_cnt {a b : S → RS} {s s' : S} (h : a s = .cnt s') : sCons a b s = .cnt s' := by unfold sCons; rw [h]
/-- a while loop that comes to its end: I, what holds at each turn, with the turns left -/
theorem while_inv {c : S → R Bool} {g : S → RS} (I : Nat → S → Prop) (Z : S → Prop) (h : ∀ m s, I m s → (c s = .ok false s ∧ Z s) ∨ (c s = .ok true s ∧ ∃ s' m', g s = .nxt s' ∧ m' < m ∧ I m' s')) :
    ∀ (n m : Nat) (s : S), I m s → m < n → ∃ s', whileL c g n s = .nxt s' ∧ Z s'
  | 0, m, s, _, hn => absurd hn (Nat.not_lt_zero m)
  | n + 1, m, s, hI, hn => by
    rcases h m s hI with ⟨h1, h2⟩ | ⟨h1, s', m', h2, h3, h4⟩
    · exact ⟨s, by unfold whileL; rw [h1]; rfl, h2⟩
    · obtain ⟨s2, e1, e2⟩ := while_inv I Z h n m' s' h4 (by omega)
      refine ⟨s2, ?_, e2⟩
      unfold whileL
      rw [h1]
      show (match g s with | .nxt s => whileL c g n s | .cnt s => whileL c g n s | .brk s => .nxt s | r => r) = _
      rw [h2]
      exact e1
theorem sWhile_inv {c : S → R Bool} {g : S → RS} (I : Nat → S → Prop) (Z : S → Prop) (h : ∀ m s, I m s → (c s = .ok false s ∧ Z s) ∨ (c s = .ok true s ∧ ∃ s' m', g s = .nxt s' ∧ m' < m ∧ I m' s'))
    {m : Nat} {s : S} (hI : I m s) (hm : m < fuel) : ∃ s', sWhile c g s = .nxt s' ∧ Z s' := while_inv I Z h fuel m s hI hm
/-- a for loop without a way out: I, what holds ahead of the items that are left -/
theorem forL_inv {g : T → S → R Unit} {b : S → RS} (I : List T → S → Prop) (h : ∀ t ts s, I (t :: ts) s → ∃ s1 s2, g t s = .ok () s1 ∧ (b s1 = .nxt s2 ∨ b s1 = .cnt s2) ∧ I ts s2) :
    ∀ (ts : List T) (s : S), I ts s → ∃ s', forL g b ts s = .nxt s' ∧ I [] s'
  | [], s, hI => ⟨s, rfl, hI⟩
  | t :: ts, s, hI => by
    obtain ⟨s1, s2, h1, h2, h3⟩ := h t ts s hI
    obtain ⟨s', e1, e2⟩ := forL_inv I h ts s2 h3
    refine ⟨s', ?_, e2⟩
    unfold forL
    rw [h1]
    show (match b s1 with | .nxt s => forL g b ts s | .cnt s => forL g b ts s | .brk s => .nxt s | r => r) = _
    rcases h2 with h2 | h2 <;> rw [h2] <;> exact e1
/-- the same, told by the result: P of the rest is P of the whole -/
theorem forL_cons_nxt {g : T → S → R Unit} {b : S → RS} {t : T} {ts : List T} {s s1 s2 : S} (h1 : g t s = .ok () s1) (h2 : b s1 = .nxt s2) : forL g b (t :: ts) s = forL g b ts s2 := by
  rw [forL, h1]
  show (match b s1 with | .nxt s => forL g b ts s | .cnt s => forL g b ts s | .brk s => .nxt s | r => r) = _
  rw [h2]
theorem forL_cons_cnt {g : T → S → R Unit} {b : S → RS} {t : T} {ts : List T} {s s1 s2 : S} (h1 : g t s = .ok () s1) (h2 : b s1 = .cnt s2) : forL g b (t :: ts) s = forL g b ts s2 := by
  rw [forL, h1]
  show (match b s1 with | .nxt s => forL g b ts s | .cnt s => forL g b ts s | .brk s => .nxt s | r => r) = _
  rw [h2]
theorem forL_cons_ret {g : T → S → R Unit} {b : S → RS} {t : T} {ts : List T} {s s1 : S} {k : Bool} {u : T} {ob : List OV} (h1 : g t s = .ok () s1) (h2 : b s1 = .ret k u ob) : forL g b (t :: ts) s = .ret k u ob := by
  rw [forL, h1]
  show (match b s1 with | .nxt s => forL g b ts s | .cnt s => forL g b ts s | .brk s => .nxt s | r => r) = _
  rw [h2]
theorem shp_int (n : Nat) (i : Int) : T.shp n (.int i) = true := by cases n <;> rfl
theorem shp_bl (n : Nat) (i : Bool) : T.shp n (.bl i) = true := by cases n <;> rfl
theorem shp_non (n : Nat) : T.shp n .non = true := by cases n <;> rfl
theorem opEq_int (i j : Int) : opEq (.int i) (.int j) = some (false, .bl (decide (i = j))) := by
  unfold opEq
  rw [if_pos ⟨shp_int _ _, shp_int _ _⟩]
  rfl
theorem opNe_int (i j : Int) : opNe (.int i) (.int j) = some (false, .bl (!decide (i = j))) := by
  unfold opNe
  rw [if_pos ⟨shp_int _ _, shp_int _ _⟩]
  rfl
/-- a comprehension whose pieces change nothing but its own names -/
theorem compL_pure {vs : List Nat} {g : T → S → R Unit} {c : S → R Bool} {e : S → R Res} {s0 : S} (f : T → Option T) : ∀ (ts acc : List T),
    (∀ t ∈ ts, ∃ s1, g t s0 = .ok () s1 ∧ (⟨wipeS s1.sl vs, s1.ob⟩ : S) = s0 ∧ ((f t = none ∧ c s1 = .ok false s1) ∨ (∃ y, f t = some y ∧ c s1 = .ok true s1 ∧ e s1 = .ok (.val y) s1))) → acc.length + ts.length ≤ 1000000 →
      compL vs g c e ts acc s0 = .ok (acc ++ ts.filterMap f) s0
  | [], acc, _, _ => by rw [compL, List.filterMap_nil, List.append_nil]
  | t :: ts, acc, h, hz => by
    obtain ⟨s1, h1, h2, h3⟩ := h t List.mem_cons_self
    have hr := fun u hu => h u (List.mem_cons_of_mem _ hu)
    rw [List.length_cons] at hz
    rw [compL, h1]
    simp only
    rcases h3 with ⟨k1, k2⟩ | ⟨y, k1, k2, k3⟩
    · rw [k2]
      simp only
      rw [h2, compL_pure f ts acc hr (by omega), List.filterMap_cons, k1]
    · rw [k2]
      simp only
      rw [k3]
      simp only [frz]
      have z : szok (acc.length + 1) = true := decide_eq_true (by omega)
      rw [if_pos z, h2, compL_pure f ts (acc ++ [y]) hr (by rw [List.length_append]; show acc.length + 1 + ts.length ≤ 1000000; omega), List.filterMap_cons, k1, List.append_assoc]
      rfl
theorem rngT_succ (lo : Int) (n : Nat) : rngT lo (n + 1) = .int lo :: rngT (lo + 1) n := by
  unfold rngT
  rw [List.range_succ_eq_map, List.map_cons, List.map_map]
  congr 1
  · simp
  · refine List.map_congr_left fun k _ => ?_
    show T.int (lo + ((k + 1 : Nat) : Int)) = T.int (lo + 1 + (k : Int))
    congr 1
    omega
theorem rngT_zero (lo : Int) : rngT lo 0 = [] := rfl
theorem rngT_length (lo : Int) (n : Nat) : (rngT lo n).length = n := by unfold rngT; rw [List.length_map, List.length_range]
theorem rngT_mem {lo : Int} {n : Nat} {t : T} (h : t ∈ rngT lo n) : ∃ i : Int, t = .int i ∧ lo ≤ i ∧ i < lo + n := by
  unfold rngT at h
  obtain ⟨k, hk, rfl⟩ := List.mem_map.mp h
  have := List.mem_range.mp hk
  exact ⟨_, rfl, by omega, by omega⟩
end Sv

namespace K18
open PySem PySem.Spec PyProof.Rows L2 Sv
/-! ### the text -/
def topS (i : Nat) : Stmt := PySem.Challenge.pw_algebrastack_k18_roots_that_come_back.main.body.getD i (.Pass ⟨0, 0, 0, 0⟩)
/-! ### what each def does -/
abbrev s__law_dice : Stmt := topS 15
abbrev N__law_dice : List Str := ["cell"]
abbrev P__law_dice : List Str := ["cell"]
theorem sc__law_dice : FnScope N__law_dice P__law_dice (defScope s__law_dice) := ⟨rfl, rfl, rfl, by decide +kernel, rfl, by decide +kernel, by decide +kernel⟩
def b__law_dice : S → RS :=
    (sCons (sIf (tTst (eChn opLt opLt (eBin opSub (eC (.int 0)) (eC (.int 10))) (eVar 0) (eC (.int 10)))) (sRet (eLstO (aCons (eUn opAbs (eVar 0)) (aCons (eC (.int 0)) (aCons (eC (.int 2)) aNil))))) sNil)
    (sRet (eLstO (aCons (eVar 0) (aCons (eBin opAdd (eC (.int 1)) (eBin opMod (eUn opInt (eVar 0)) (eC (.int 1009)))) (aCons (eUn opInt (eBin opGe (eVar 0) (eBin opPow (eC (.int 10)) (eC (.int 18))))) aNil))))))
def F__law_dice : Fn := mkFn 1 1 b__law_dice
abbrev s__law_rounds : Stmt := topS 17
abbrev N__law_rounds : List Str := ["script", "most", "cells", "cell"]
abbrev P__law_rounds : List Str := ["script", "most"]
theorem sc__law_rounds : FnScope N__law_rounds P__law_rounds (defScope s__law_rounds) := ⟨rfl, rfl, rfl, by decide +kernel, rfl, by decide +kernel, by decide +kernel⟩
def bb__law_rounds (F__law_dice : Fn) : S → RS :=
    (sCons (sSet 2 (eCut (eVar 0) oNone (oSome (eVar 1))))
    (sCons (sIf (tTst (eBin opEq (eVar 2) (eLst aNil))) (sSet 2 (eLst (aCons (eC (.int 0)) aNil))) sNil)
    (sRet (eLC [3] (iSeq (eVar 2)) (gSet 3) cYes (eCall F__law_dice (aCons (eVar 3) aNil))))))
def b__law_rounds : S → RS :=
    bb__law_rounds F__law_dice
def F__law_rounds : Fn := mkFn 2 4 b__law_rounds
abbrev s__law_parts : Stmt := topS 19
abbrev N__law_parts : List Str := ["number", "whole", "found", "seen", "take", "below", "part"]
abbrev P__law_parts : List Str := ["number"]
theorem sc__law_parts : FnScope N__law_parts P__law_parts (defScope s__law_parts) := ⟨rfl, rfl, rfl, by decide +kernel, rfl, by decide +kernel, by decide +kernel⟩
def b__law_parts : S → RS :=
    (sCons (sSet 1 (eC (.int 0)))
    (sCons (sWhile (tTst (eBin opLe (eBin opMul (eBin opAdd (eVar 1) (eC (.int 1))) (eBin opAdd (eVar 1) (eC (.int 1)))) (eVar 0))) (sSet 1 (eBin opAdd (eVar 1) (eC (.int 1)))))
    (sCons (sPar [2, 3, 4, 5] (aoCons (eLst aNil) (aoCons (eLst aNil) (aoCons (eVar 1) (aoCons (eBin opSub (eVar 0) (eBin opMul (eVar 1) (eVar 1))) aoNil)))))
    (sCons (sWhile (tTst (eBin (opIn true) (eTup (aCons (eVar 4) (aCons (eVar 5) aNil))) (eVar 3))) (sCons (sExpr (eApp (eVar 3) (eTup (aCons (eVar 4) (aCons (eVar 5) aNil)))))
      (sCons (sSet 6 (eBin opDiv (eBin opAdd (eVar 1) (eVar 4)) (eVar 5)))
      (sCons (sExpr (eApp (eVar 2) (eVar 6)))
      (sCons (sSet 4 (eBin opSub (eBin opMul (eVar 6) (eVar 5)) (eVar 4)))
      (sSet 5 (eBin opDiv (eBin opSub (eVar 0) (eBin opMul (eVar 4) (eVar 4))) (eVar 5))))))))
    (sRet (eTup (aCons (eVar 1) (aCons (eUn opTuple (eVar 2)) aNil))))))))
def F__law_parts : Fn := mkFn 1 7 b__law_parts
abbrev s_power : Stmt := topS 5
abbrev N_power : List Str := ["number", "exponent", "found", "step"]
abbrev P_power : List Str := ["number", "exponent"]
theorem sc_power : FnScope N_power P_power (defScope s_power) := ⟨rfl, rfl, rfl, by decide +kernel, rfl, by decide +kernel, by decide +kernel⟩
def b_power : S → RS :=
    (sCons (sSet 2 (eC (.int 1)))
    (sCons (sFor (iRng1 (eVar 1)) (gSet 3) (sAug opIMul 2 (eVar 0)))
    (sRet (eVar 2))))
def F_power : Fn := mkFn 2 4 b_power
abbrev s_root_below : Stmt := topS 4
abbrev N_root_below : List Str := ["number", "many", "low", "high", "middle"]
abbrev P_root_below : List Str := ["number", "many"]
theorem sc_root_below : FnScope N_root_below P_root_below (defScope s_root_below) := ⟨rfl, rfl, rfl, by decide +kernel, rfl, by decide +kernel, by decide +kernel⟩
def bb_root_below (F_power : Fn) : S → RS :=
    (sCons (sIf (tOrS (tTst (eBin opLt (eVar 0) (eC (.int 0)))) (tTst (eBin opLt (eVar 1) (eC (.int 1))))) (sRaise "NumberError") sNil)
    (sCons (sPar [2, 3] (aoCons (eC (.int 0)) (aoCons (eC (.int 1)) aoNil)))
    (sCons (sWhile (tTst (eBin opLe (eCall F_power (aCons (eVar 3) (aCons (eVar 1) aNil))) (eVar 0))) (sAug opIMul 3 (eC (.int 2))))
    (sCons (sWhile (tTst (eBin opGt (eBin opSub (eVar 3) (eVar 2)) (eC (.int 1)))) (sCons (sSet 4 (eBin opDiv (eBin opAdd (eVar 2) (eVar 3)) (eC (.int 2))))
      (sIf (tTst (eBin opLe (eCall F_power (aCons (eVar 4) (aCons (eVar 1) aNil))) (eVar 0))) (sSet 2 (eVar 4)) (sSet 3 (eVar 4)))))
    (sRet (eVar 2))))))
def b_root_below : S → RS :=
    bb_root_below F_power
def F_root_below : Fn := mkFn 2 5 b_root_below
abbrev s_root_parts : Stmt := topS 8
abbrev N_root_parts : List Str := ["number", "whole", "found", "take", "part", "below"]
abbrev P_root_parts : List Str := ["number"]
theorem sc_root_parts : FnScope N_root_parts P_root_parts (defScope s_root_parts) := ⟨rfl, rfl, rfl, by decide +kernel, rfl, by decide +kernel, by decide +kernel⟩
def bb_root_parts (F_root_below : Fn) : S → RS :=
    (sCons (sIf (tTst (eBin opLt (eVar 0) (eC (.int 0)))) (sRaise "NumberError") sNil)
    (sCons (sSet 1 (eCall F_root_below (aCons (eVar 0) (aCons (eC (.int 2)) aNil))))
    (sCons (sIf (tTst (eBin opEq (eBin opMul (eVar 1) (eVar 1)) (eVar 0))) (sRaise "NumberError") sNil)
    (sCons (sPar [2, 3, 4, 5] (aoCons (eLst aNil) (aoCons (eVar 1) (aoCons (eVar 1) (aoCons (eC (.int 1)) aoNil)))))
    (sCons (sWhile (tTst (eBin opNe (eVar 4) (eBin opMul (eC (.int 2)) (eVar 1)))) (sCons (sIf (tTst (eBin opGe (eUn opLen (eVar 2)) (eC (.int 2000)))) (sRaise "NumberError") sNil)
      (sCons (sSet 5 (eBin opDiv (eBin opSub (eVar 0) (eBin opMul (eVar 3) (eVar 3))) (eVar 5)))
      (sCons (sSet 4 (eBin opDiv (eBin opAdd (eVar 1) (eVar 3)) (eVar 5)))
      (sCons (sSet 3 (eBin opSub (eBin opMul (eVar 4) (eVar 5)) (eVar 3)))
      (sExpr (eApp (eVar 2) (eVar 4))))))))
    (sRet (eTup (aCons (eVar 1) (aCons (eUn opTuple (eVar 2)) aNil)))))))))
def b_root_parts : S → RS :=
    bb_root_parts F_root_below
def F_root_parts : Fn := mkFn 1 6 b_root_parts
abbrev s_root_convergents : Stmt := topS 9
abbrev N_root_convergents : List Str := ["number", "many", "whole", "period", "rows", "one", "other", "step", "part"]
abbrev P_root_convergents : List Str := ["number", "many"]
theorem sc_root_convergents : FnScope N_root_convergents P_root_convergents (defScope s_root_convergents) := ⟨rfl, rfl, rfl, by decide +kernel, rfl, by decide +kernel, by decide +kernel⟩
def bb_root_convergents (F_root_parts : Fn) : S → RS :=
    (sCons (sAsg (eCall F_root_parts (aCons (eVar 0) aNil)) (gTup 2 (gCons (gSet 2) (gCons (gSet 3) gNil))))
    (sCons (sPar [4, 5, 6] (aoCons (eLst aNil) (aoCons (eTup (aCons (eC (.int 1)) (aCons (eC (.int 0)) aNil))) (aoCons (eTup (aCons (eVar 2) (aCons (eC (.int 1)) aNil))) aoNil))))
    (sCons (sFor (iRng1 (eVar 1)) (gSet 7) (sCons (sExpr (eApp (eVar 4) (eVar 6)))
      (sCons (sSet 8 (eBin opIx (eVar 3) (eBin opMod (eVar 7) (eUn opLen (eVar 3)))))
      (sPar [5, 6] (aoCons (eVar 6) (aoCons (eTup (aCons (eBin opAdd (eBin opMul (eVar 8) (eBin opIx (eVar 6) (eC (.int 0)))) (eBin opIx (eVar 5) (eC (.int 0)))) (aCons (eBin opAdd (eBin opMul (eVar 8) (eBin opIx (eVar 6) (eC (.int 1)))) (eBin opIx (eVar 5) (eC (.int 1)))) aNil))) aoNil))))))
    (sRet (eUn opTuple (eVar 4))))))
def b_root_convergents : S → RS :=
    bb_root_convergents F_root_parts
def F_root_convergents : Fn := mkFn 2 9 b_root_convergents
abbrev s_least_point : Stmt := topS 10
abbrev N_least_point : List Str := ["number", "whole", "period", "many"]
abbrev P_least_point : List Str := ["number"]
theorem sc_least_point : FnScope N_least_point P_least_point (defScope s_least_point) := ⟨rfl, rfl, rfl, by decide +kernel, rfl, by decide +kernel, by decide +kernel⟩
def bb_least_point (F_root_parts : Fn) (F_root_convergents : Fn) : S → RS :=
    (sCons (sAsg (eCall F_root_parts (aCons (eVar 0) aNil)) (gTup 2 (gCons (gSet 1) (gCons (gSet 2) gNil))))
    (sCons (sSet 3 (eIf (tTst (eBin opEq (eBin opMod (eUn opLen (eVar 2)) (eC (.int 2))) (eC (.int 0)))) (eUn opLen (eVar 2)) (eBin opMul (eC (.int 2)) (eUn opLen (eVar 2)))))
    (sRet (eBin opIx (eCall F_root_convergents (aCons (eVar 0) (aCons (eVar 3) aNil))) (eUn opNeg (eC (.int 1)))))))
def b_least_point : S → RS :=
    bb_least_point F_root_parts F_root_convergents
def F_least_point : Fn := mkFn 1 4 b_least_point
abbrev s_minus_point : Stmt := topS 11
abbrev N_minus_point : List Str := ["number", "whole", "period"]
abbrev P_minus_point : List Str := ["number"]
theorem sc_minus_point : FnScope N_minus_point P_minus_point (defScope s_minus_point) := ⟨rfl, rfl, rfl, by decide +kernel, rfl, by decide +kernel, by decide +kernel⟩
def bb_minus_point (F_root_parts : Fn) (F_root_convergents : Fn) : S → RS :=
    (sCons (sAsg (eCall F_root_parts (aCons (eVar 0) aNil)) (gTup 2 (gCons (gSet 1) (gCons (gSet 2) gNil))))
    (sCons (sIf (tTst (eBin opEq (eBin opMod (eUn opLen (eVar 2)) (eC (.int 2))) (eC (.int 0)))) (sRet (eC .non)) sNil)
    (sRet (eBin opIx (eCall F_root_convergents (aCons (eVar 0) (aCons (eUn opLen (eVar 2)) aNil))) (eUn opNeg (eC (.int 1)))))))
def b_minus_point : S → RS :=
    bb_minus_point F_root_parts F_root_convergents
def F_minus_point : Fn := mkFn 1 3 b_minus_point
abbrev s_points : Stmt := topS 12
abbrev N_points : List Str := ["number", "many", "first", "found", "x", "y", "step"]
abbrev P_points : List Str := ["number", "many"]
theorem sc_points : FnScope N_points P_points (defScope s_points) := ⟨rfl, rfl, rfl, by decide +kernel, rfl, by decide +kernel, by decide +kernel⟩
def bb_points (F_least_point : Fn) : S → RS :=
    (sCons (sPar [2, 3] (aoCons (eCall F_least_point (aCons (eVar 0) aNil)) (aoCons (eLst aNil) aoNil)))
    (sCons (sAsg (eVar 2) (gTup 2 (gCons (gSet 4) (gCons (gSet 5) gNil))))
    (sCons (sFor (iRng1 (eVar 1)) (gSet 6) (sCons (sExpr (eApp (eVar 3) (eTup (aCons (eVar 4) (aCons (eVar 5) aNil)))))
      (sPar [4, 5] (aoCons (eBin opAdd (eBin opMul (eVar 4) (eBin opIx (eVar 2) (eC (.int 0)))) (eBin opMul (eBin opMul (eVar 0) (eVar 5)) (eBin opIx (eVar 2) (eC (.int 1))))) (aoCons (eBin opAdd (eBin opMul (eVar 4) (eBin opIx (eVar 2) (eC (.int 1)))) (eBin opMul (eVar 5) (eBin opIx (eVar 2) (eC (.int 0))))) aoNil)))))
    (sRet (eUn opTuple (eVar 3))))))
def b_points : S → RS :=
    bb_points F_least_point
def F_points : Fn := mkFn 2 7 b_points
abbrev s__law_roll : Stmt := topS 16
abbrev N__law_roll : List Str := ["dice", "many", "found"]
abbrev P__law_roll : List Str := ["dice", "many"]
theorem sc__law_roll : FnScope N__law_roll P__law_roll (defScope s__law_roll) := ⟨rfl, rfl, rfl, by decide +kernel, rfl, by decide +kernel, by decide +kernel⟩
def b__law_roll (F : Fn) : S → RS :=
    (sCons (sIf (tOrS (tTst (eBin opEq (eBin opIx (eVar 0) (eC (.int 2))) (eC (.int 2)))) (tAndS (tTst (eBin opEq (eBin opIx (eVar 0) (eC (.int 2))) (eC (.int 1)))) (tTst (eBin opGt (eBin opIx (eVar 0) (eC (.int 0))) (eC (.int 0)))))) (sCons (sSet 2 (eBin opMod (eUn opInt (eBin opIx (eVar 0) (eC (.int 0)))) (eVar 1)))
      (sCons (sAsg (eBin opDiv (eBin opIx (eVar 0) (eC (.int 0))) (eVar 1)) (gSub (eVar 0) (eC (.int 0))))
      (sRet (eVar 2)))) sNil)
    (sCons (sAsg (eC (.int 0)) (gSub (eVar 0) (eC (.int 2))))
    (sCons (sIf (tTst (eBin opGt (eVar 1) (eC (.int 100000000)))) (sRet (eBin opMod (eUn opInt (eBin opAdd (eBin opMul (eCall F (aCons (eVar 0) (aCons (eBin opAdd (eBin opDiv (eVar 1) (eC (.int 100000000))) (eC (.int 1))) aNil))) (eC (.int 100000000))) (eCall F (aCons (eVar 0) (aCons (eC (.int 100000000)) aNil))))) (eVar 1))) sNil)
    (sCons (sAsg (eBin opMod (eUn opInt (eBin opAdd (eBin opAdd (eBin opMul (eBin opIx (eVar 0) (eC (.int 0))) (eC (.int 48271))) (eBin opMul (eBin opIx (eVar 0) (eC (.int 1))) (eC (.int 69621)))) (eC (.int 11)))) (eC (.int 2147483647))) (gSub (eVar 0) (eC (.int 0))))
    (sCons (sAsg (eBin opAdd (eBin opIx (eVar 0) (eC (.int 1))) (eC (.int 1))) (gSub (eVar 0) (eC (.int 1))))
    (sRet (eBin opMod (eUn opInt (eBin opDiv (eBin opIx (eVar 0) (eC (.int 0))) (eC (.int 7)))) (eVar 1))))))))
def F__law_roll : Nat → Fn
  | 0 => stuckF
  | n + 1 => mkFn 2 3 (b__law_roll (F__law_roll n))
abbrev s_sum_of_two_squares : Stmt := topS 13
abbrev N_sum_of_two_squares : List Str := ["number", "found", "one", "rest", "other"]
abbrev P_sum_of_two_squares : List Str := ["number"]
theorem sc_sum_of_two_squares : FnScope N_sum_of_two_squares P_sum_of_two_squares (defScope s_sum_of_two_squares) := ⟨rfl, rfl, rfl, by decide +kernel, rfl, by decide +kernel, by decide +kernel⟩
def bb_sum_of_two_squares (F_root_below : Fn) : S → RS :=
    (sCons (sIf (tNotS (tTst (eChn opLe opLe (eC (.int 0)) (eVar 0) (eBin opPow (eC (.int 10)) (eC (.int 6)))))) (sRaise "NumberError") sNil)
    (sCons (sSet 1 (eLst aNil))
    (sCons (sFor (iRng1 (eBin opAdd (eCall F_root_below (aCons (eVar 0) (aCons (eC (.int 2)) aNil))) (eC (.int 1)))) (gSet 2) (sCons (sSet 3 (eBin opSub (eVar 0) (eBin opMul (eVar 2) (eVar 2))))
      (sCons (sSet 4 (eCall F_root_below (aCons (eVar 3) (aCons (eC (.int 2)) aNil))))
      (sIf (tAndS (tTst (eBin opEq (eBin opMul (eVar 4) (eVar 4)) (eVar 3))) (tTst (eBin opLe (eVar 2) (eVar 4)))) (sExpr (eApp (eVar 1) (eTup (aCons (eVar 2) (aCons (eVar 4) aNil))))) sNil))))
    (sRet (eUn opTuple (eVar 1))))))
def b_sum_of_two_squares : S → RS :=
    bb_sum_of_two_squares F_root_below
def F_sum_of_two_squares : Fn := mkFn 1 5 b_sum_of_two_squares
abbrev s__law_least : Stmt := topS 20
abbrev N__law_least : List Str := ["number", "due", "most", "y", "square", "low", "high", "middle"]
abbrev P__law_least : List Str := ["number", "due", "most"]
theorem sc__law_least : FnScope N__law_least P__law_least (defScope s__law_least) := ⟨rfl, rfl, rfl, by decide +kernel, rfl, by decide +kernel, by decide +kernel⟩
def b__law_least : S → RS :=
    (sCons (sFor (iRng2 (eC (.int 1)) (eVar 2)) (gSet 3) (sCons (sSet 4 (eBin opAdd (eBin opMul (eBin opMul (eVar 0) (eVar 3)) (eVar 3)) (eVar 1)))
      (sCons (sPar [5, 6] (aoCons (eC (.int 0)) (aoCons (eBin opAdd (eBin opMul (eBin opMul (eC (.int 2)) (eVar 0)) (eVar 3)) (eC (.int 2))) aoNil)))
      (sCons (sWhile (tTst (eBin opLt (eBin opAdd (eVar 5) (eC (.int 1))) (eVar 6))) (sCons (sSet 7 (eBin opDiv (eBin opAdd (eVar 5) (eVar 6)) (eC (.int 2))))
        (sAsg (eIf (tTst (eBin opLe (eBin opMul (eVar 7) (eVar 7)) (eVar 4))) (eTup (aCons (eVar 7) (aCons (eVar 6) aNil))) (eTup (aCons (eVar 5) (aCons (eVar 7) aNil)))) (gTup 2 (gCons (gSet 5) (gCons (gSet 6) gNil))))))
      (sIf (tAndS (tTst (eBin opGt (eVar 4) (eC (.int 0)))) (tTst (eBin opEq (eBin opMul (eVar 5) (eVar 5)) (eVar 4)))) (sRet (eTup (aCons (eVar 5) (aCons (eVar 3) aNil)))) sNil)))))
    (sRet (eC .non)))
def F__law_least : Fn := mkFn 3 8 b__law_least
abbrev s_law : Stmt := topS 21
abbrev N_law : List Str := ["script", "dice", "number", "whole", "parts", "squares", "rows", "k", "x", "y", "minus", "found", "wide", "due", "a", "bad", "f", "row", "b"]
abbrev P_law : List Str := ["script"]
theorem sc_law : FnScope N_law P_law (defScope s_law) := ⟨rfl, rfl, rfl, by decide +kernel, rfl, by decide +kernel, by decide +kernel⟩
def D_law : Str → Option Fn := fun x => if x = "root_parts" then some F_root_parts else if x = "least_point" then some F_least_point else if x = "minus_point" then some F_minus_point else none
def bb_law (F__law_rounds : Fn) (F__law_parts : Fn) (F_root_convergents : Fn) (F_least_point : Fn) (F_minus_point : Fn) (F_points : Fn) (F__law_roll : Nat → Fn) (F_root_parts : Fn) (F_sum_of_two_squares : Fn) (F__law_least : Fn) (opSrt : T → Option (Bool × T)) : S → RS :=
    (sCons (sFor (iSeq (eCall F__law_rounds (aCons (eVar 0) (aCons (eC (.int 1)) aNil)))) (gSet 1) (sCons (sSet 2 (eBin opAdd (eC (.int 2)) (eCall (F__law_roll 1) (aCons (eVar 1) (aCons (eC (.int 300)) aNil)))))
      (sCons (sPar [3, 4] (aoCons (eC (.int 0)) (aoCons (eTup aNil) aoNil)))
      (sCons (sSet 5 (eLC [7] (iRng1 (eC (.int 20))) (gSet 7) cYes (eBin opMul (eVar 7) (eVar 7))))
      (sCons (sIf (tTst (eBin (opIn false) (eVar 2) (eVar 5))) (sCons (sIf (tTst (eBin opNe (eLC [16] (iSeq (eLst (aCons (eC (.gl "root_parts")) (aCons (eC (.gl "least_point")) (aCons (eC (.gl "minus_point")) aNil))))) (gSet 16) (tTst (eBin opNe (eTold "NumberError" (eCallV 16 D_law (aCons (eVar 2) aNil))) (eC (.str "NumberError")))) (eC (.int 1))) (eLst aNil))) (sRet (eC (.bl false))) sNil)
        (fun s => .cnt s)) sNil)
      (sCons (sAsg (eCall F__law_parts (aCons (eVar 2) aNil)) (gTup 2 (gCons (gSet 3) (gCons (gSet 4) gNil))))
      (sCons (sIf (tOrS (tTst (eBin opNe (eCall F_root_parts (aCons (eVar 2) aNil)) (eTup (aCons (eVar 3) (aCons (eVar 4) aNil))))) (tTst (eBin opNe (eBin opIx (eVar 4) (eBin opSub (eUn opLen (eVar 4)) (eC (.int 1)))) (eBin opMul (eC (.int 2)) (eVar 3))))) (sRet (eC (.bl false))) sNil)
      (sCons (sSet 6 (eCall F_root_convergents (aCons (eVar 2) (aCons (eC (.int 9)) aNil))))
      (sCons (sFor (iEnu (eVar 6)) (gTup 2 (gCons (gSet 7) (gCons (gTup 2 (gCons (gSet 8) (gCons (gSet 9) gNil))) gNil))) (sIf (tOrS (tTst (eBin opNe (eBin opLt (eBin opMul (eVar 8) (eVar 8)) (eBin opMul (eBin opMul (eVar 2) (eVar 9)) (eVar 9))) (eBin opEq (eBin opMod (eVar 7) (eC (.int 2))) (eC (.int 0))))) (tAndS (tTst (eBin opGt (eVar 7) (eC (.int 0)))) (tTst (eBin opNe (eUn opAbs (eBin opSub (eBin opMul (eVar 8) (eBin opIx (eBin opIx (eVar 6) (eBin opSub (eVar 7) (eC (.int 1)))) (eC (.int 1)))) (eBin opMul (eVar 9) (eBin opIx (eBin opIx (eVar 6) (eBin opSub (eVar 7) (eC (.int 1)))) (eC (.int 0)))))) (eC (.int 1)))))) (sRet (eC (.bl false))) sNil))
      (sCons (sAsg (eCall F_least_point (aCons (eVar 2) aNil)) (gTup 2 (gCons (gSet 8) (gCons (gSet 9) gNil))))
      (sCons (sIf (tOrS (tTst (eBin opNe (eBin opSub (eBin opMul (eVar 8) (eVar 8)) (eBin opMul (eBin opMul (eVar 2) (eVar 9)) (eVar 9))) (eC (.int 1)))) (tOrS (tTst (eBin opLt (eVar 9) (eC (.int 1)))) (tOrS (tAndS (tTst (eBin opLt (eVar 9) (eC (.int 400)))) (tTst (eBin opNe (eCall F__law_least (aCons (eVar 2) (aCons (eC (.int 1)) (aCons (eBin opAdd (eVar 9) (eC (.int 1))) aNil)))) (eTup (aCons (eVar 8) (aCons (eVar 9) aNil)))))) (tAndS (tTst (eBin opGe (eVar 9) (eC (.int 400)))) (tTst (eIs true (eCall F__law_least (aCons (eVar 2) (aCons (eC (.int 1)) (aCons (eC (.int 400)) aNil)))))))))) (sRet (eC (.bl false))) sNil)
      (sCons (sSet 10 (eCall F_minus_point (aCons (eVar 2) aNil)))
      (sCons (sIf (tOrS (tAndS (tTst (eIs true (eVar 10))) (tOrS (tTst (eBin opNe (eBin opSub (eBin opMul (eBin opIx (eVar 10) (eC (.int 0))) (eBin opIx (eVar 10) (eC (.int 0)))) (eBin opMul (eBin opMul (eVar 2) (eBin opIx (eVar 10) (eC (.int 1)))) (eBin opIx (eVar 10) (eC (.int 1))))) (eUn opNeg (eC (.int 1))))) (tTst (eBin opNe (eTup (aCons (eBin opAdd (eBin opMul (eBin opMul (eC (.int 2)) (eBin opIx (eVar 10) (eC (.int 0)))) (eBin opIx (eVar 10) (eC (.int 0)))) (eC (.int 1))) (aCons (eBin opMul (eBin opMul (eC (.int 2)) (eBin opIx (eVar 10) (eC (.int 0)))) (eBin opIx (eVar 10) (eC (.int 1)))) aNil))) (eTup (aCons (eVar 8) (aCons (eVar 9) aNil))))))) (tAndS (tTst (eIs false (eVar 10))) (tTst (eIs true (eCall F__law_least (aCons (eVar 2) (aCons (eUn opNeg (eC (.int 1))) (aCons (eC (.int 200)) aNil)))))))) (sRet (eC (.bl false))) sNil)
      (sCons (sSet 11 (eCall F_points (aCons (eVar 2) (aCons (eC (.int 4)) aNil))))
      (sCons (sIf (tOrS (tTst (eBin opNe (eLC [17] (iSeq (eVar 11)) (gSet 17) (tTst (eBin opNe (eBin opSub (eBin opMul (eBin opIx (eVar 17) (eC (.int 0))) (eBin opIx (eVar 17) (eC (.int 0)))) (eBin opMul (eBin opMul (eVar 2) (eBin opIx (eVar 17) (eC (.int 1)))) (eBin opIx (eVar 17) (eC (.int 1))))) (eC (.int 1)))) (eVar 17)) (eLst aNil))) (tOrS (tTst (eBin opNe (eUn opList (eVar 11)) (eUn opSrt (eVar 11)))) (tTst (eBin opNe (eBin opIx (eVar 11) (eC (.int 0))) (eTup (aCons (eVar 8) (aCons (eVar 9) aNil))))))) (sRet (eC (.bl false))) sNil)
      (sCons (sIf (tAndS (tTst (eBin opLt (eVar 9) (eC (.int 20)))) (tTst (eBin opNe (eLC [17] (iSeq (eLst (aCons (eTup (aCons (eBin opIx (eBin opIx (eVar 11) (eC (.int 1))) (eC (.int 0))) (aCons (eBin opIx (eBin opIx (eVar 11) (eC (.int 1))) (eC (.int 1))) aNil))) aNil))) (gSet 17) (tTst (eBin opNe (eCall F__law_least (aCons (eVar 2) (aCons (eC (.int 1)) (aCons (eBin opIx (eBin opIx (eVar 11) (eC (.int 1))) (eC (.int 1))) aNil)))) (eTup (aCons (eVar 8) (aCons (eVar 9) aNil))))) (eVar 17)) (eLst aNil)))) (sRet (eC (.bl false))) sNil)
      (sCons (sSet 12 (eCall (F__law_roll 1) (aCons (eVar 1) (aCons (eC (.int 3000)) aNil))))
      (sCons (sSet 13 (eLst aNil))
      (sCons (sFor (iRng1 (eC (.int 60))) (gSet 14) (sSet 13 (eBin opAdd (eVar 13) (eLC [18] (iRng2 (eVar 14) (eC (.int 60))) (gSet 18) (tTst (eBin opEq (eBin opAdd (eBin opMul (eVar 14) (eVar 14)) (eBin opMul (eVar 18) (eVar 18))) (eVar 12))) (eTup (aCons (eVar 14) (aCons (eVar 18) aNil)))))))
      (sIf (tTst (eBin opNe (eUn opList (eCall F_sum_of_two_squares (aCons (eVar 12) aNil))) (eVar 13))) (sRet (eC (.bl false))) sNil))))))))))))))))))))
    (sCons (sSet 15 (eLst (aCons (eC (.lam 3)) (aCons (eC (.lam 2)) (aCons (eC (.lam 1)) (aCons (eC (.lam 0)) aNil))))))
    (sRet (eAnd (eBin opEq (eLC [16] (iSeq (eVar 15)) (gSet 16) (tTst (eBin opNe (eToldV "NumberError" 4 (fun i => match i with | 0 => (eCall F_root_parts (aCons (eC (.int 0)) aNil)) | 1 => (eCall F_sum_of_two_squares (aCons (eBin opAdd (eBin opPow (eC (.int 10)) (eC (.int 6))) (eC (.int 1))) aNil)) | 2 => (eCall F_sum_of_two_squares (aCons (eUn opNeg (eC (.int 1))) aNil)) | 3 => (eCall F_root_parts (aCons (eUn opNeg (eC (.int 2))) aNil)) | _ => fun _ => .stuck) (eVar 16)) (eC (.str "NumberError")))) (eC (.int 1))) (eLst aNil)) (eAnd (eBin opEq (eCall F_least_point (aCons (eC (.int 61)) aNil)) (eTup (aCons (eC (.int 1766319049)) (aCons (eC (.int 226153980)) aNil)))) (eAnd (eBin opEq (eCall F_sum_of_two_squares (aCons (eC (.int 50)) aNil)) (eTup (aCons (eTup (aCons (eC (.int 1)) (aCons (eC (.int 7)) aNil))) (aCons (eTup (aCons (eC (.int 5)) (aCons (eC (.int 5)) aNil))) aNil)))) (eBin opEq (eCall F_points (aCons (eC (.int 2)) (aCons (eC (.int 3)) aNil))) (eTup (aCons (eTup (aCons (eC (.int 3)) (aCons (eC (.int 2)) aNil))) (aCons (eTup (aCons (eC (.int 17)) (aCons (eC (.int 12)) aNil))) (aCons (eTup (aCons (eC (.int 99)) (aCons (eC (.int 70)) aNil))) aNil)))))))))))
def lb0_law (F__law_rounds : Fn) (F__law_parts : Fn) (F_root_convergents : Fn) (F_least_point : Fn) (F_minus_point : Fn) (F_points : Fn) (F__law_roll : Nat → Fn) (F_root_parts : Fn) (F_sum_of_two_squares : Fn) (F__law_least : Fn) (opSrt : T → Option (Bool × T)) : S → RS :=
    (sSet 2 (eBin opAdd (eC (.int 2)) (eCall (F__law_roll 1) (aCons (eVar 1) (aCons (eC (.int 300)) aNil)))))
def lb1_law (F__law_rounds : Fn) (F__law_parts : Fn) (F_root_convergents : Fn) (F_least_point : Fn) (F_minus_point : Fn) (F_points : Fn) (F__law_roll : Nat → Fn) (F_root_parts : Fn) (F_sum_of_two_squares : Fn) (F__law_least : Fn) (opSrt : T → Option (Bool × T)) : S → RS :=
    (sCons (sPar [3, 4] (aoCons (eC (.int 0)) (aoCons (eTup aNil) aoNil)))
      (sCons (sSet 5 (eLC [7] (iRng1 (eC (.int 20))) (gSet 7) cYes (eBin opMul (eVar 7) (eVar 7))))
      (sCons (sIf (tTst (eBin (opIn false) (eVar 2) (eVar 5))) (sCons (sIf (tTst (eBin opNe (eLC [16] (iSeq (eLst (aCons (eC (.gl "root_parts")) (aCons (eC (.gl "least_point")) (aCons (eC (.gl "minus_point")) aNil))))) (gSet 16) (tTst (eBin opNe (eTold "NumberError" (eCallV 16 D_law (aCons (eVar 2) aNil))) (eC (.str "NumberError")))) (eC (.int 1))) (eLst aNil))) (sRet (eC (.bl false))) sNil)
        (fun s => .cnt s)) sNil)
      (sCons (sAsg (eCall F__law_parts (aCons (eVar 2) aNil)) (gTup 2 (gCons (gSet 3) (gCons (gSet 4) gNil))))
      (sCons (sIf (tOrS (tTst (eBin opNe (eCall F_root_parts (aCons (eVar 2) aNil)) (eTup (aCons (eVar 3) (aCons (eVar 4) aNil))))) (tTst (eBin opNe (eBin opIx (eVar 4) (eBin opSub (eUn opLen (eVar 4)) (eC (.int 1)))) (eBin opMul (eC (.int 2)) (eVar 3))))) (sRet (eC (.bl false))) sNil)
      (sCons (sSet 6 (eCall F_root_convergents (aCons (eVar 2) (aCons (eC (.int 9)) aNil))))
      (sCons (sFor (iEnu (eVar 6)) (gTup 2 (gCons (gSet 7) (gCons (gTup 2 (gCons (gSet 8) (gCons (gSet 9) gNil))) gNil))) (sIf (tOrS (tTst (eBin opNe (eBin opLt (eBin opMul (eVar 8) (eVar 8)) (eBin opMul (eBin opMul (eVar 2) (eVar 9)) (eVar 9))) (eBin opEq (eBin opMod (eVar 7) (eC (.int 2))) (eC (.int 0))))) (tAndS (tTst (eBin opGt (eVar 7) (eC (.int 0)))) (tTst (eBin opNe (eUn opAbs (eBin opSub (eBin opMul (eVar 8) (eBin opIx (eBin opIx (eVar 6) (eBin opSub (eVar 7) (eC (.int 1)))) (eC (.int 1)))) (eBin opMul (eVar 9) (eBin opIx (eBin opIx (eVar 6) (eBin opSub (eVar 7) (eC (.int 1)))) (eC (.int 0)))))) (eC (.int 1)))))) (sRet (eC (.bl false))) sNil))
      (sCons (sAsg (eCall F_least_point (aCons (eVar 2) aNil)) (gTup 2 (gCons (gSet 8) (gCons (gSet 9) gNil))))
      (sCons (sIf (tOrS (tTst (eBin opNe (eBin opSub (eBin opMul (eVar 8) (eVar 8)) (eBin opMul (eBin opMul (eVar 2) (eVar 9)) (eVar 9))) (eC (.int 1)))) (tOrS (tTst (eBin opLt (eVar 9) (eC (.int 1)))) (tOrS (tAndS (tTst (eBin opLt (eVar 9) (eC (.int 400)))) (tTst (eBin opNe (eCall F__law_least (aCons (eVar 2) (aCons (eC (.int 1)) (aCons (eBin opAdd (eVar 9) (eC (.int 1))) aNil)))) (eTup (aCons (eVar 8) (aCons (eVar 9) aNil)))))) (tAndS (tTst (eBin opGe (eVar 9) (eC (.int 400)))) (tTst (eIs true (eCall F__law_least (aCons (eVar 2) (aCons (eC (.int 1)) (aCons (eC (.int 400)) aNil)))))))))) (sRet (eC (.bl false))) sNil)
      (sCons (sSet 10 (eCall F_minus_point (aCons (eVar 2) aNil)))
      (sCons (sIf (tOrS (tAndS (tTst (eIs true (eVar 10))) (tOrS (tTst (eBin opNe (eBin opSub (eBin opMul (eBin opIx (eVar 10) (eC (.int 0))) (eBin opIx (eVar 10) (eC (.int 0)))) (eBin opMul (eBin opMul (eVar 2) (eBin opIx (eVar 10) (eC (.int 1)))) (eBin opIx (eVar 10) (eC (.int 1))))) (eUn opNeg (eC (.int 1))))) (tTst (eBin opNe (eTup (aCons (eBin opAdd (eBin opMul (eBin opMul (eC (.int 2)) (eBin opIx (eVar 10) (eC (.int 0)))) (eBin opIx (eVar 10) (eC (.int 0)))) (eC (.int 1))) (aCons (eBin opMul (eBin opMul (eC (.int 2)) (eBin opIx (eVar 10) (eC (.int 0)))) (eBin opIx (eVar 10) (eC (.int 1)))) aNil))) (eTup (aCons (eVar 8) (aCons (eVar 9) aNil))))))) (tAndS (tTst (eIs false (eVar 10))) (tTst (eIs true (eCall F__law_least (aCons (eVar 2) (aCons (eUn opNeg (eC (.int 1))) (aCons (eC (.int 200)) aNil)))))))) (sRet (eC (.bl false))) sNil)
      (sCons (sSet 11 (eCall F_points (aCons (eVar 2) (aCons (eC (.int 4)) aNil))))
      (sCons (sIf (tOrS (tTst (eBin opNe (eLC [17] (iSeq (eVar 11)) (gSet 17) (tTst (eBin opNe (eBin opSub (eBin opMul (eBin opIx (eVar 17) (eC (.int 0))) (eBin opIx (eVar 17) (eC (.int 0)))) (eBin opMul (eBin opMul (eVar 2) (eBin opIx (eVar 17) (eC (.int 1)))) (eBin opIx (eVar 17) (eC (.int 1))))) (eC (.int 1)))) (eVar 17)) (eLst aNil))) (tOrS (tTst (eBin opNe (eUn opList (eVar 11)) (eUn opSrt (eVar 11)))) (tTst (eBin opNe (eBin opIx (eVar 11) (eC (.int 0))) (eTup (aCons (eVar 8) (aCons (eVar 9) aNil))))))) (sRet (eC (.bl false))) sNil)
      (sIf (tAndS (tTst (eBin opLt (eVar 9) (eC (.int 20)))) (tTst (eBin opNe (eLC [17] (iSeq (eLst (aCons (eTup (aCons (eBin opIx (eBin opIx (eVar 11) (eC (.int 1))) (eC (.int 0))) (aCons (eBin opIx (eBin opIx (eVar 11) (eC (.int 1))) (eC (.int 1))) aNil))) aNil))) (gSet 17) (tTst (eBin opNe (eCall F__law_least (aCons (eVar 2) (aCons (eC (.int 1)) (aCons (eBin opIx (eBin opIx (eVar 11) (eC (.int 1))) (eC (.int 1))) aNil)))) (eTup (aCons (eVar 8) (aCons (eVar 9) aNil))))) (eVar 17)) (eLst aNil)))) (sRet (eC (.bl false))) sNil))))))))))))))
def lb2_law (F__law_rounds : Fn) (F__law_parts : Fn) (F_root_convergents : Fn) (F_least_point : Fn) (F_minus_point : Fn) (F_points : Fn) (F__law_roll : Nat → Fn) (F_root_parts : Fn) (F_sum_of_two_squares : Fn) (F__law_least : Fn) (opSrt : T → Option (Bool × T)) : S → RS :=
    (sSet 12 (eCall (F__law_roll 1) (aCons (eVar 1) (aCons (eC (.int 3000)) aNil))))
def lb3_law (F__law_rounds : Fn) (F__law_parts : Fn) (F_root_convergents : Fn) (F_least_point : Fn) (F_minus_point : Fn) (F_points : Fn) (F__law_roll : Nat → Fn) (F_root_parts : Fn) (F_sum_of_two_squares : Fn) (F__law_least : Fn) (opSrt : T → Option (Bool × T)) : S → RS :=
    (sCons (sSet 13 (eLst aNil))
      (sCons (sFor (iRng1 (eC (.int 60))) (gSet 14) (sSet 13 (eBin opAdd (eVar 13) (eLC [18] (iRng2 (eVar 14) (eC (.int 60))) (gSet 18) (tTst (eBin opEq (eBin opAdd (eBin opMul (eVar 14) (eVar 14)) (eBin opMul (eVar 18) (eVar 18))) (eVar 12))) (eTup (aCons (eVar 14) (aCons (eVar 18) aNil)))))))
      (sIf (tTst (eBin opNe (eUn opList (eCall F_sum_of_two_squares (aCons (eVar 12) aNil))) (eVar 13))) (sRet (eC (.bl false))) sNil)))
def lt_law (F__law_rounds : Fn) (F__law_parts : Fn) (F_root_convergents : Fn) (F_least_point : Fn) (F_minus_point : Fn) (F_points : Fn) (F__law_roll : Nat → Fn) (F_root_parts : Fn) (F_sum_of_two_squares : Fn) (F__law_least : Fn) (opSrt : T → Option (Bool × T)) : S → RS :=
    (sCons (sSet 15 (eLst (aCons (eC (.lam 3)) (aCons (eC (.lam 2)) (aCons (eC (.lam 1)) (aCons (eC (.lam 0)) aNil))))))
    (sRet (eAnd (eBin opEq (eLC [16] (iSeq (eVar 15)) (gSet 16) (tTst (eBin opNe (eToldV "NumberError" 4 (fun i => match i with | 0 => (eCall F_root_parts (aCons (eC (.int 0)) aNil)) | 1 => (eCall F_sum_of_two_squares (aCons (eBin opAdd (eBin opPow (eC (.int 10)) (eC (.int 6))) (eC (.int 1))) aNil)) | 2 => (eCall F_sum_of_two_squares (aCons (eUn opNeg (eC (.int 1))) aNil)) | 3 => (eCall F_root_parts (aCons (eUn opNeg (eC (.int 2))) aNil)) | _ => fun _ => .stuck) (eVar 16)) (eC (.str "NumberError")))) (eC (.int 1))) (eLst aNil)) (eAnd (eBin opEq (eCall F_least_point (aCons (eC (.int 61)) aNil)) (eTup (aCons (eC (.int 1766319049)) (aCons (eC (.int 226153980)) aNil)))) (eAnd (eBin opEq (eCall F_sum_of_two_squares (aCons (eC (.int 50)) aNil)) (eTup (aCons (eTup (aCons (eC (.int 1)) (aCons (eC (.int 7)) aNil))) (aCons (eTup (aCons (eC (.int 5)) (aCons (eC (.int 5)) aNil))) aNil)))) (eBin opEq (eCall F_points (aCons (eC (.int 2)) (aCons (eC (.int 3)) aNil))) (eTup (aCons (eTup (aCons (eC (.int 3)) (aCons (eC (.int 2)) aNil))) (aCons (eTup (aCons (eC (.int 17)) (aCons (eC (.int 12)) aNil))) (aCons (eTup (aCons (eC (.int 99)) (aCons (eC (.int 70)) aNil))) aNil))))))))))
def b_law : S → RS :=
    bb_law F__law_rounds F__law_parts F_root_convergents F_least_point F_minus_point F_points F__law_roll F_root_parts F_sum_of_two_squares F__law_least opSrt
def F_law : Fn := mkFn 1 19 b_law
abbrev s__law_told : Stmt := topS 18
/-! ### the head -/
def d__law_dice : He.DefD := ⟨("_law_dice", none), "_law_dice", "_law_dice", defArgs s__law_dice, defBody s__law_dice, defScope s__law_dice, [], []⟩
def d__law_rounds : He.DefD := ⟨("_law_rounds", none), "_law_rounds", "_law_rounds", defArgs s__law_rounds, defBody s__law_rounds, defScope s__law_rounds, [], []⟩
def d__law_parts : He.DefD := ⟨("_law_parts", none), "_law_parts", "_law_parts", defArgs s__law_parts, defBody s__law_parts, defScope s__law_parts, [], []⟩
def d_power : He.DefD := ⟨("power", none), "power", "power", defArgs s_power, defBody s_power, defScope s_power, [], []⟩
def d_root_below : He.DefD := ⟨("root_below", none), "root_below", "root_below", defArgs s_root_below, defBody s_root_below, defScope s_root_below, [], []⟩
def d_root_parts : He.DefD := ⟨("root_parts", none), "root_parts", "root_parts", defArgs s_root_parts, defBody s_root_parts, defScope s_root_parts, [], []⟩
def d_root_convergents : He.DefD := ⟨("root_convergents", none), "root_convergents", "root_convergents", defArgs s_root_convergents, defBody s_root_convergents, defScope s_root_convergents, [], []⟩
def d_least_point : He.DefD := ⟨("least_point", none), "least_point", "least_point", defArgs s_least_point, defBody s_least_point, defScope s_least_point, [], []⟩
def d_minus_point : He.DefD := ⟨("minus_point", none), "minus_point", "minus_point", defArgs s_minus_point, defBody s_minus_point, defScope s_minus_point, [], []⟩
def d_points : He.DefD := ⟨("points", none), "points", "points", defArgs s_points, defBody s_points, defScope s_points, [], []⟩
def d__law_roll : He.DefD := ⟨("_law_roll", none), "_law_roll", "_law_roll", defArgs s__law_roll, defBody s__law_roll, defScope s__law_roll, [], []⟩
def d_sum_of_two_squares : He.DefD := ⟨("sum_of_two_squares", none), "sum_of_two_squares", "sum_of_two_squares", defArgs s_sum_of_two_squares, defBody s_sum_of_two_squares, defScope s_sum_of_two_squares, [], []⟩
def d__law_least : He.DefD := ⟨("_law_least", none), "_law_least", "_law_least", defArgs s__law_least, defBody s__law_least, defScope s__law_least, [], []⟩
def d_law : He.DefD := ⟨("law", none), "law", "law", defArgs s_law, defBody s_law, defScope s_law, [], []⟩
def d__law_told : He.DefD := ⟨("_law_told", none), "_law_told", "_law_told", defArgs s__law_told, defBody s__law_told, defScope s__law_told, [], []⟩
def fn : List He.DefD := [d__law_dice, d__law_rounds, d__law_parts, d_power, d_root_below, d_root_parts, d_root_convergents, d_least_point, d_minus_point, d_points, d__law_roll, d_sum_of_two_squares, d__law_least, d_law, d__law_told]
def fa : List He.Fa := [.glo "_law_dice", .glo "_law_rounds", .glo "_law_parts", .glo "power", .glo "root_below", .glo "root_parts", .glo "root_convergents", .glo "least_point", .glo "minus_point", .glo "points", .glo "_law_roll", .glo "sum_of_two_squares", .glo "_law_least", .glo "law", .glo "_law_told", .free "abs", .free "enumerate", .free "int", .free "len", .free "list", .free "range", .free "sorted", .free "tuple", .int "MOST_PERIOD" 2000, .glo "NumberError", .exc "NumberError", .exm "NumberError" "NumberError" true]
section
variable [Tb] {P : Program} {w : World} {K : PySem.W.Frag} {mg : Str → Option Value} {base : Heap}
theorem m_abs (KX : K.In base) (G : base.Ns mainGlobals mg) (c : He.SaysD fa fn K) : mg "abs" = none := He.free_ok KX G (c.fact 15 (f := .free "abs") rfl)
theorem m_enumerate (KX : K.In base) (G : base.Ns mainGlobals mg) (c : He.SaysD fa fn K) : mg "enumerate" = none := He.free_ok KX G (c.fact 16 (f := .free "enumerate") rfl)
theorem m_int (KX : K.In base) (G : base.Ns mainGlobals mg) (c : He.SaysD fa fn K) : mg "int" = none := He.free_ok KX G (c.fact 17 (f := .free "int") rfl)
theorem m_len (KX : K.In base) (G : base.Ns mainGlobals mg) (c : He.SaysD fa fn K) : mg "len" = none := He.free_ok KX G (c.fact 18 (f := .free "len") rfl)
theorem m_list (KX : K.In base) (G : base.Ns mainGlobals mg) (c : He.SaysD fa fn K) : mg "list" = none := He.free_ok KX G (c.fact 19 (f := .free "list") rfl)
theorem m_range (KX : K.In base) (G : base.Ns mainGlobals mg) (c : He.SaysD fa fn K) : mg "range" = none := He.free_ok KX G (c.fact 20 (f := .free "range") rfl)
theorem m_sorted (KX : K.In base) (G : base.Ns mainGlobals mg) (c : He.SaysD fa fn K) : mg "sorted" = none := He.free_ok KX G (c.fact 21 (f := .free "sorted") rfl)
theorem m_tuple (KX : K.In base) (G : base.Ns mainGlobals mg) (c : He.SaysD fa fn K) : mg "tuple" = none := He.free_ok KX G (c.fact 22 (f := .free "tuple") rfl)
theorem k_MOST_PERIOD (KX : K.In base) (G : base.Ns mainGlobals mg) (c : He.SaysD fa fn K) : ∃ t, mg "MOST_PERIOD" = some (.int 2000 t) := He.int_ok KX G (c.fact 23 (f := .int "MOST_PERIOD" 2000) rfl)
theorem x_NumberError (KX : K.In base) (G : base.Ns mainGlobals mg) (c : He.SaysD fa fn K) : ExcF K mg "NumberError" (He.ga K "NumberError") := excF_of KX G (c.fact 24 (f := .glo "NumberError") rfl) (c.fact 25 (f := .exc "NumberError") rfl) (c.fact 26 (f := .exm "NumberError" "NumberError" true) rfl)
theorem cal__law_dice (KX : K.In base) (G : base.Ns mainGlobals mg) (c : He.SaysD fa fn K) : Cal P w K mg base "_law_dice" 1 1 F__law_dice := by
  obtain ⟨fd, hFd⟩ := (c.def_ 0 (d := d__law_dice) rfl)
  exact cal_of (st := s__law_dice) (N := N__law_dice) (ps := P__law_dice) (k := 0) (body := b__law_dice) hFd (He.glo_ok KX G (c.fact 0 (f := .glo "_law_dice") rfl)) sc__law_dice (by decide) (fun _ _ _ _ _ _ us hl => match us, hl with | [_], _ => rfl) fun cdv A outer s H E rm hp =>
    (sss_cons (ss_if (st_chn .lt .lt (se_sub se_int se_int) (se_var 0 rfl (by first | exact .inl rfl | exact .inr (.inl rfl) | exact .inr (.inr rfl))) se_int) (sss_one (ss_ret (se_lstO (sa_cons (se_abs (by rfl) (m_abs KX G c) (se_var 0 rfl (by first | exact .inl rfl | exact .inr (.inl rfl) | exact .inr (.inr rfl)))) (sa_cons se_int (sa_cons se_int sa_nil)))))) sss_nil)
    (sss_one (ss_ret (se_lstO (sa_cons (se_var 0 rfl (by first | exact .inl rfl | exact .inr (.inl rfl) | exact .inr (.inr rfl))) (sa_cons (se_add se_int (se_mod (se_intc (by rfl) (m_int KX G c) (se_var 0 rfl (by first | exact .inl rfl | exact .inr (.inl rfl) | exact .inr (.inr rfl)))) se_int)) (sa_cons (se_intc (by rfl) (m_int KX G c) (se_cmpG .ge (se_var 0 rfl (by first | exact .inl rfl | exact .inr (.inl rfl) | exact .inr (.inr rfl))) (se_pow se_int se_int) (by first | rfl | with_unfolding_all rfl))) sa_nil)))))))
theorem cal__law_rounds (KX : K.In base) (G : base.Ns mainGlobals mg) (c : He.SaysD fa fn K) : Cal P w K mg base "_law_rounds" 2 2 F__law_rounds := by
  obtain ⟨fd, hFd⟩ := (c.def_ 1 (d := d__law_rounds) rfl)
  exact cal_of (st := s__law_rounds) (N := N__law_rounds) (ps := P__law_rounds) (k := 1) (body := b__law_rounds) hFd (He.glo_ok KX G (c.fact 1 (f := .glo "_law_rounds") rfl)) sc__law_rounds (by decide) (fun _ _ _ _ _ _ us hl => match us, hl with | [_, _], _ => rfl) fun cdv A outer s H E rm hp =>
    (sss_cons (ss_set rm.nd rfl (by first | exact .inl rfl | exact .inr rfl) (se_cut (se_var 0 rfl (by first | exact .inl rfl | exact .inr (.inl rfl) | exact .inr (.inr rfl))) so_none (so_some (se_var 1 rfl (by first | exact .inl rfl | exact .inr (.inl rfl) | exact .inr (.inr rfl))))))
    (sss_cons (ss_if (st_cmpG (.eq rm.u64) (se_var 2 rfl (by first | exact .inl rfl | exact .inr (.inl rfl) | exact .inr (.inr rfl))) (se_lst sa_nil) (by first | rfl | with_unfolding_all rfl)) (sss_one (ss_set rm.nd rfl (by first | exact .inl rfl | exact .inr rfl) (se_lst (sa_cons se_int sa_nil)))) sss_nil)
    (sss_one (ss_ret (se_lc (own := [("cell", 3)]) rm.calm rm.nd (si_seq (se_var 2 rfl (by first | exact .inl rfl | exact .inr (.inl rfl) | exact .inr (.inr rfl)))) (blkOk_by (by kernel_rfl)) (fun s1 H1 C1 cl1 fp1 => (sgw_name (rm.blk).nd rfl (by first | exact .inl rfl | exact .inr rfl) (by decide))) (fun s1 H1 C1 cl1 fp1 => sts_nil) (fun s1 H1 C1 cl1 fp1 => (se_callC (cal__law_dice KX G c) (rm.blk) (by decide) (by rfl) (sa_cons (se_var 3 rfl (by first | exact .inl rfl | exact .inr (.inl rfl) | exact .inr (.inr rfl))) sa_nil))))))))
theorem cal__law_parts (KX : K.In base) (G : base.Ns mainGlobals mg) (c : He.SaysD fa fn K) : Cal P w K mg base "_law_parts" 1 1 F__law_parts := by
  obtain ⟨fd, hFd⟩ := (c.def_ 2 (d := d__law_parts) rfl)
  exact cal_of (st := s__law_parts) (N := N__law_parts) (ps := P__law_parts) (k := 0) (body := b__law_parts) hFd (He.glo_ok KX G (c.fact 2 (f := .glo "_law_parts") rfl)) sc__law_parts (by decide) (fun _ _ _ _ _ _ us hl => match us, hl with | [_], _ => rfl) fun cdv A outer s H E rm hp =>
    (sss_cons (ss_set rm.nd rfl (by first | exact .inl rfl | exact .inr rfl) se_int)
    (sss_cons (ss_while hp (st_cmpG .le (se_mul (se_add (se_var 1 rfl (by first | exact .inl rfl | exact .inr (.inl rfl) | exact .inr (.inr rfl))) se_int) (se_add (se_var 1 rfl (by first | exact .inl rfl | exact .inr (.inl rfl) | exact .inr (.inr rfl))) se_int)) (se_var 0 rfl (by first | exact .inl rfl | exact .inr (.inl rfl) | exact .inr (.inr rfl))) (by first | rfl | with_unfolding_all rfl)) (sss_one (ss_set rm.nd rfl (by first | exact .inl rfl | exact .inr rfl) (se_add (se_var 1 rfl (by first | exact .inl rfl | exact .inr (.inl rfl) | exact .inr (.inr rfl))) se_int))))
    (sss_cons (ss_parN rm.calm rm.nd (.cons rfl (by first | exact .inl rfl | exact .inr rfl) (by first | exact .inl rfl | exact .inr rfl) rfl (.cons rfl (by first | exact .inl rfl | exact .inr rfl) (by first | exact .inl rfl | exact .inr rfl) rfl (.cons rfl (by first | exact .inl rfl | exact .inr rfl) (by first | exact .inl rfl | exact .inr rfl) rfl (.cons rfl (by first | exact .inl rfl | exact .inr rfl) (by first | exact .inl rfl | exact .inr rfl) rfl .nil)))) (sao_cons (se_lst sa_nil) (sao_cons (se_lst sa_nil) (sao_cons (se_var 1 rfl (by first | exact .inl rfl | exact .inr (.inl rfl) | exact .inr (.inr rfl))) (sao_cons (se_sub (se_var 0 rfl (by first | exact .inl rfl | exact .inr (.inl rfl) | exact .inr (.inr rfl))) (se_mul (se_var 1 rfl (by first | exact .inl rfl | exact .inr (.inl rfl) | exact .inr (.inr rfl))) (se_var 1 rfl (by first | exact .inl rfl | exact .inr (.inl rfl) | exact .inr (.inr rfl))))) sao_nil)))))
    (sss_cons (ss_while hp (st_cmpG (.notIn rm.u65) (se_tup (sa_cons (se_var 4 rfl (by first | exact .inl rfl | exact .inr (.inl rfl) | exact .inr (.inr rfl))) (sa_cons (se_var 5 rfl (by first | exact .inl rfl | exact .inr (.inl rfl) | exact .inr (.inr rfl))) sa_nil))) (se_var 3 rfl (by first | exact .inl rfl | exact .inr (.inl rfl) | exact .inr (.inr rfl))) (by first | rfl | with_unfolding_all rfl)) (sss_cons (ss_expr (se_append (se_var 3 rfl (by first | exact .inl rfl | exact .inr (.inl rfl) | exact .inr (.inr rfl))) (se_tup (sa_cons (se_var 4 rfl (by first | exact .inl rfl | exact .inr (.inl rfl) | exact .inr (.inr rfl))) (sa_cons (se_var 5 rfl (by first | exact .inl rfl | exact .inr (.inl rfl) | exact .inr (.inr rfl))) sa_nil)))))
      (sss_cons (ss_set rm.nd rfl (by first | exact .inl rfl | exact .inr rfl) (se_div (se_add (se_var 1 rfl (by first | exact .inl rfl | exact .inr (.inl rfl) | exact .inr (.inr rfl))) (se_var 4 rfl (by first | exact .inl rfl | exact .inr (.inl rfl) | exact .inr (.inr rfl)))) (se_var 5 rfl (by first | exact .inl rfl | exact .inr (.inl rfl) | exact .inr (.inr rfl)))))
      (sss_cons (ss_expr (se_append (se_var 2 rfl (by first | exact .inl rfl | exact .inr (.inl rfl) | exact .inr (.inr rfl))) (se_var 6 rfl (by first | exact .inl rfl | exact .inr (.inl rfl) | exact .inr (.inr rfl)))))
      (sss_cons (ss_set rm.nd rfl (by first | exact .inl rfl | exact .inr rfl) (se_sub (se_mul (se_var 6 rfl (by first | exact .inl rfl | exact .inr (.inl rfl) | exact .inr (.inr rfl))) (se_var 5 rfl (by first | exact .inl rfl | exact .inr (.inl rfl) | exact .inr (.inr rfl)))) (se_var 4 rfl (by first | exact .inl rfl | exact .inr (.inl rfl) | exact .inr (.inr rfl)))))
      (sss_one (ss_set rm.nd rfl (by first | exact .inl rfl | exact .inr rfl) (se_div (se_sub (se_var 0 rfl (by first | exact .inl rfl | exact .inr (.inl rfl) | exact .inr (.inr rfl))) (se_mul (se_var 4 rfl (by first | exact .inl rfl | exact .inr (.inl rfl) | exact .inr (.inr rfl))) (se_var 4 rfl (by first | exact .inl rfl | exact .inr (.inl rfl) | exact .inr (.inr rfl))))) (se_var 5 rfl (by first | exact .inl rfl | exact .inr (.inl rfl) | exact .inr (.inr rfl)))))))))))
    (sss_one (ss_ret (se_tup (sa_cons (se_var 1 rfl (by first | exact .inl rfl | exact .inr (.inl rfl) | exact .inr (.inr rfl))) (sa_cons (se_tuplec (by rfl) (m_tuple KX G c) (se_var 2 rfl (by first | exact .inl rfl | exact .inr (.inl rfl) | exact .inr (.inr rfl)))) sa_nil)))))))))
theorem cal_power (KX : K.In base) (G : base.Ns mainGlobals mg) (c : He.SaysD fa fn K) : Cal P w K mg base "power" 1 2 F_power := by
  obtain ⟨fd, hFd⟩ := (c.def_ 3 (d := d_power) rfl)
  exact cal_of (st := s_power) (N := N_power) (ps := P_power) (k := 0) (body := b_power) hFd (He.glo_ok KX G (c.fact 3 (f := .glo "power") rfl)) sc_power (by decide) (fun _ _ _ _ _ _ us hl => match us, hl with | [_, _], _ => rfl) fun cdv A outer s H E rm hp =>
    (sss_cons (ss_set rm.nd rfl (by first | exact .inl rfl | exact .inr rfl) se_int)
    (sss_cons (ss_for hp rm.calm (si_rng1 (by rfl) (m_range KX G c) (se_var 1 rfl (by first | exact .inl rfl | exact .inr (.inl rfl) | exact .inr (.inr rfl)))) (sg_name rm.nd rfl (by first | exact .inl rfl | exact .inr rfl)) (sss_one (ss_augMul rm.nd rfl (by first | exact .inl rfl | exact .inr rfl) (se_var 0 rfl (by first | exact .inl rfl | exact .inr (.inl rfl) | exact .inr (.inr rfl))))))
    (sss_one (ss_ret (se_var 2 rfl (by first | exact .inl rfl | exact .inr (.inl rfl) | exact .inr (.inr rfl)))))))
theorem cal_root_below (KX : K.In base) (G : base.Ns mainGlobals mg) (c : He.SaysD fa fn K) : Cal P w K mg base "root_below" 2 2 F_root_below := by
  obtain ⟨fd, hFd⟩ := (c.def_ 4 (d := d_root_below) rfl)
  exact cal_of (st := s_root_below) (N := N_root_below) (ps := P_root_below) (k := 1) (body := b_root_below) hFd (He.glo_ok KX G (c.fact 4 (f := .glo "root_below") rfl)) sc_root_below (by decide) (fun _ _ _ _ _ _ us hl => match us, hl with | [_, _], _ => rfl) fun cdv A outer s H E rm hp =>
    (sss_cons (ss_if (SW.st (sw_or (st_cmpG .lt (se_var 0 rfl (by first | exact .inl rfl | exact .inr (.inl rfl) | exact .inr (.inr rfl))) se_int (by first | rfl | with_unfolding_all rfl)) (sw_or1 (st_cmpG .lt (se_var 1 rfl (by first | exact .inl rfl | exact .inr (.inl rfl) | exact .inr (.inr rfl))) se_int (by first | rfl | with_unfolding_all rfl))))) (sss_one (ss_raiseX (x_NumberError KX G c) rm.calm (by rfl))) sss_nil)
    (sss_cons (ss_parN rm.calm rm.nd (.cons rfl (by first | exact .inl rfl | exact .inr rfl) (by first | exact .inl rfl | exact .inr rfl) rfl (.cons rfl (by first | exact .inl rfl | exact .inr rfl) (by first | exact .inl rfl | exact .inr rfl) rfl .nil)) (sao_cons se_int (sao_cons se_int sao_nil)))
    (sss_cons (ss_while hp (st_cmpG .le (se_callC (cal_power KX G c) rm (by decide) (by rfl) (sa_cons (se_var 3 rfl (by first | exact .inl rfl | exact .inr (.inl rfl) | exact .inr (.inr rfl))) (sa_cons (se_var 1 rfl (by first | exact .inl rfl | exact .inr (.inl rfl) | exact .inr (.inr rfl))) sa_nil))) (se_var 0 rfl (by first | exact .inl rfl | exact .inr (.inl rfl) | exact .inr (.inr rfl))) (by first | rfl | with_unfolding_all rfl)) (sss_one (ss_augMul rm.nd rfl (by first | exact .inl rfl | exact .inr rfl) se_int)))
    (sss_cons (ss_while hp (st_cmpG .gt (se_sub (se_var 3 rfl (by first | exact .inl rfl | exact .inr (.inl rfl) | exact .inr (.inr rfl))) (se_var 2 rfl (by first | exact .inl rfl | exact .inr (.inl rfl) | exact .inr (.inr rfl)))) se_int (by first | rfl | with_unfolding_all rfl)) (sss_cons (ss_set rm.nd rfl (by first | exact .inl rfl | exact .inr rfl) (se_div (se_add (se_var 2 rfl (by first | exact .inl rfl | exact .inr (.inl rfl) | exact .inr (.inr rfl))) (se_var 3 rfl (by first | exact .inl rfl | exact .inr (.inl rfl) | exact .inr (.inr rfl)))) se_int))
      (sss_one (ss_if (st_cmpG .le (se_callC (cal_power KX G c) rm (by decide) (by rfl) (sa_cons (se_var 4 rfl (by first | exact .inl rfl | exact .inr (.inl rfl) | exact .inr (.inr rfl))) (sa_cons (se_var 1 rfl (by first | exact .inl rfl | exact .inr (.inl rfl) | exact .inr (.inr rfl))) sa_nil))) (se_var 0 rfl (by first | exact .inl rfl | exact .inr (.inl rfl) | exact .inr (.inr rfl))) (by first | rfl | with_unfolding_all rfl)) (sss_one (ss_set rm.nd rfl (by first | exact .inl rfl | exact .inr rfl) (se_var 4 rfl (by first | exact .inl rfl | exact .inr (.inl rfl) | exact .inr (.inr rfl))))) (sss_one (ss_set rm.nd rfl (by first | exact .inl rfl | exact .inr rfl) (se_var 4 rfl (by first | exact .inl rfl | exact .inr (.inl rfl) | exact .inr (.inr rfl)))))))))
    (sss_one (ss_ret (se_var 2 rfl (by first | exact .inl rfl | exact .inr (.inl rfl) | exact .inr (.inr rfl)))))))))
theorem cal_root_parts (KX : K.In base) (G : base.Ns mainGlobals mg) (c : He.SaysD fa fn K) : Cal P w K mg base "root_parts" 3 1 F_root_parts := by
  obtain ⟨fd, hFd⟩ := (c.def_ 5 (d := d_root_parts) rfl)
  exact cal_of (st := s_root_parts) (N := N_root_parts) (ps := P_root_parts) (k := 2) (body := b_root_parts) hFd (He.glo_ok KX G (c.fact 5 (f := .glo "root_parts") rfl)) sc_root_parts (by decide) (fun _ _ _ _ _ _ us hl => match us, hl with | [_], _ => rfl) fun cdv A outer s H E rm hp =>
    (sss_cons (ss_if (st_cmpG .lt (se_var 0 rfl (by first | exact .inl rfl | exact .inr (.inl rfl) | exact .inr (.inr rfl))) se_int (by first | rfl | with_unfolding_all rfl)) (sss_one (ss_raiseX (x_NumberError KX G c) rm.calm (by rfl))) sss_nil)
    (sss_cons (ss_set rm.nd rfl (by first | exact .inl rfl | exact .inr rfl) (se_callC (cal_root_below KX G c) rm (by decide) (by rfl) (sa_cons (se_var 0 rfl (by first | exact .inl rfl | exact .inr (.inl rfl) | exact .inr (.inr rfl))) (sa_cons se_int sa_nil))))
    (sss_cons (ss_if (st_cmpG (.eq rm.u64) (se_mul (se_var 1 rfl (by first | exact .inl rfl | exact .inr (.inl rfl) | exact .inr (.inr rfl))) (se_var 1 rfl (by first | exact .inl rfl | exact .inr (.inl rfl) | exact .inr (.inr rfl)))) (se_var 0 rfl (by first | exact .inl rfl | exact .inr (.inl rfl) | exact .inr (.inr rfl))) (by first | rfl | with_unfolding_all rfl)) (sss_one (ss_raiseX (x_NumberError KX G c) rm.calm (by rfl))) sss_nil)
    (sss_cons (ss_parN rm.calm rm.nd (.cons rfl (by first | exact .inl rfl | exact .inr rfl) (by first | exact .inl rfl | exact .inr rfl) rfl (.cons rfl (by first | exact .inl rfl | exact .inr rfl) (by first | exact .inl rfl | exact .inr rfl) rfl (.cons rfl (by first | exact .inl rfl | exact .inr rfl) (by first | exact .inl rfl | exact .inr rfl) rfl (.cons rfl (by first | exact .inl rfl | exact .inr rfl) (by first | exact .inl rfl | exact .inr rfl) rfl .nil)))) (sao_cons (se_lst sa_nil) (sao_cons (se_var 1 rfl (by first | exact .inl rfl | exact .inr (.inl rfl) | exact .inr (.inr rfl))) (sao_cons (se_var 1 rfl (by first | exact .inl rfl | exact .inr (.inl rfl) | exact .inr (.inr rfl))) (sao_cons se_int sao_nil)))))
    (sss_cons (ss_while hp (st_cmpG (.ne rm.u64) (se_var 4 rfl (by first | exact .inl rfl | exact .inr (.inl rfl) | exact .inr (.inr rfl))) (se_mul se_int (se_var 1 rfl (by first | exact .inl rfl | exact .inr (.inl rfl) | exact .inr (.inr rfl)))) (by first | rfl | with_unfolding_all rfl)) (sss_cons (ss_if (st_cmpG .ge (se_len (by rfl) (m_len KX G c) (se_var 2 rfl (by first | exact .inl rfl | exact .inr (.inl rfl) | exact .inr (.inr rfl)))) (se_gint (k_MOST_PERIOD KX G c) (by rfl)) (by first | rfl | with_unfolding_all rfl)) (sss_one (ss_raiseX (x_NumberError KX G c) rm.calm (by rfl))) sss_nil)
      (sss_cons (ss_set rm.nd rfl (by first | exact .inl rfl | exact .inr rfl) (se_div (se_sub (se_var 0 rfl (by first | exact .inl rfl | exact .inr (.inl rfl) | exact .inr (.inr rfl))) (se_mul (se_var 3 rfl (by first | exact .inl rfl | exact .inr (.inl rfl) | exact .inr (.inr rfl))) (se_var 3 rfl (by first | exact .inl rfl | exact .inr (.inl rfl) | exact .inr (.inr rfl))))) (se_var 5 rfl (by first | exact .inl rfl | exact .inr (.inl rfl) | exact .inr (.inr rfl)))))
      (sss_cons (ss_set rm.nd rfl (by first | exact .inl rfl | exact .inr rfl) (se_div (se_add (se_var 1 rfl (by first | exact .inl rfl | exact .inr (.inl rfl) | exact .inr (.inr rfl))) (se_var 3 rfl (by first | exact .inl rfl | exact .inr (.inl rfl) | exact .inr (.inr rfl)))) (se_var 5 rfl (by first | exact .inl rfl | exact .inr (.inl rfl) | exact .inr (.inr rfl)))))
      (sss_cons (ss_set rm.nd rfl (by first | exact .inl rfl | exact .inr rfl) (se_sub (se_mul (se_var 4 rfl (by first | exact .inl rfl | exact .inr (.inl rfl) | exact .inr (.inr rfl))) (se_var 5 rfl (by first | exact .inl rfl | exact .inr (.inl rfl) | exact .inr (.inr rfl)))) (se_var 3 rfl (by first | exact .inl rfl | exact .inr (.inl rfl) | exact .inr (.inr rfl)))))
      (sss_one (ss_expr (se_append (se_var 2 rfl (by first | exact .inl rfl | exact .inr (.inl rfl) | exact .inr (.inr rfl))) (se_var 4 rfl (by first | exact .inl rfl | exact .inr (.inl rfl) | exact .inr (.inr rfl)))))))))))
    (sss_one (ss_ret (se_tup (sa_cons (se_var 1 rfl (by first | exact .inl rfl | exact .inr (.inl rfl) | exact .inr (.inr rfl))) (sa_cons (se_tuplec (by rfl) (m_tuple KX G c) (se_var 2 rfl (by first | exact .inl rfl | exact .inr (.inl rfl) | exact .inr (.inr rfl)))) sa_nil))))))))))
theorem cal_root_convergents (KX : K.In base) (G : base.Ns mainGlobals mg) (c : He.SaysD fa fn K) : Cal P w K mg base "root_convergents" 4 2 F_root_convergents := by
  obtain ⟨fd, hFd⟩ := (c.def_ 6 (d := d_root_convergents) rfl)
  exact cal_of (st := s_root_convergents) (N := N_root_convergents) (ps := P_root_convergents) (k := 3) (body := b_root_convergents) hFd (He.glo_ok KX G (c.fact 6 (f := .glo "root_convergents") rfl)) sc_root_convergents (by decide) (fun _ _ _ _ _ _ us hl => match us, hl with | [_, _], _ => rfl) fun cdv A outer s H E rm hp =>
    (sss_cons (ss_asg (se_callC (cal_root_parts KX G c) rm (by decide) (by rfl) (sa_cons (se_var 0 rfl (by first | exact .inl rfl | exact .inr (.inl rfl) | exact .inr (.inr rfl))) sa_nil)) (sg_tup rm.calm (sgs_cons (sg_name rm.nd rfl (by first | exact .inl rfl | exact .inr rfl)) (sgs_cons (sg_name rm.nd rfl (by first | exact .inl rfl | exact .inr rfl)) sgs_nil))))
    (sss_cons (ss_par3 rm.calm rm.nd rfl rfl rfl (by decide) (by decide) (by decide) rfl rfl rfl (sao_cons (se_lst sa_nil) (sao_cons (se_tup (sa_cons se_int (sa_cons se_int sa_nil))) (sao_cons (se_tup (sa_cons (se_var 2 rfl (by first | exact .inl rfl | exact .inr (.inl rfl) | exact .inr (.inr rfl))) (sa_cons se_int sa_nil))) sao_nil))))
    (sss_cons (ss_for hp rm.calm (si_rng1 (by rfl) (m_range KX G c) (se_var 1 rfl (by first | exact .inl rfl | exact .inr (.inl rfl) | exact .inr (.inr rfl)))) (sg_name rm.nd rfl (by first | exact .inl rfl | exact .inr rfl)) (sss_cons (ss_expr (se_append (se_var 4 rfl (by first | exact .inl rfl | exact .inr (.inl rfl) | exact .inr (.inr rfl))) (se_var 6 rfl (by first | exact .inl rfl | exact .inr (.inl rfl) | exact .inr (.inr rfl)))))
      (sss_cons (ss_set rm.nd rfl (by first | exact .inl rfl | exact .inr rfl) (se_ix (se_var 3 rfl (by first | exact .inl rfl | exact .inr (.inl rfl) | exact .inr (.inr rfl))) (se_mod (se_var 7 rfl (by first | exact .inl rfl | exact .inr (.inl rfl) | exact .inr (.inr rfl))) (se_len (by rfl) (m_len KX G c) (se_var 3 rfl (by first | exact .inl rfl | exact .inr (.inl rfl) | exact .inr (.inr rfl)))))))
      (sss_one (ss_par2 rm.calm rm.nd rfl rfl (by decide) rfl rfl (sao_cons (se_var 6 rfl (by first | exact .inl rfl | exact .inr (.inl rfl) | exact .inr (.inr rfl))) (sao_cons (se_tup (sa_cons (se_add (se_mul (se_var 8 rfl (by first | exact .inl rfl | exact .inr (.inl rfl) | exact .inr (.inr rfl))) (se_ix (se_var 6 rfl (by first | exact .inl rfl | exact .inr (.inl rfl) | exact .inr (.inr rfl))) se_int)) (se_ix (se_var 5 rfl (by first | exact .inl rfl | exact .inr (.inl rfl) | exact .inr (.inr rfl))) se_int)) (sa_cons (se_add (se_mul (se_var 8 rfl (by first | exact .inl rfl | exact .inr (.inl rfl) | exact .inr (.inr rfl))) (se_ix (se_var 6 rfl (by first | exact .inl rfl | exact .inr (.inl rfl) | exact .inr (.inr rfl))) se_int)) (se_ix (se_var 5 rfl (by first | exact .inl rfl | exact .inr (.inl rfl) | exact .inr (.inr rfl))) se_int)) sa_nil))) sao_nil)))))))
    (sss_one (ss_ret (se_tuplec (by rfl) (m_tuple KX G c) (se_var 4 rfl (by first | exact .inl rfl | exact .inr (.inl rfl) | exact .inr (.inr rfl)))))))))
theorem cal_least_point (KX : K.In base) (G : base.Ns mainGlobals mg) (c : He.SaysD fa fn K) : Cal P w K mg base "least_point" 5 1 F_least_point := by
  obtain ⟨fd, hFd⟩ := (c.def_ 7 (d := d_least_point) rfl)
  exact cal_of (st := s_least_point) (N := N_least_point) (ps := P_least_point) (k := 4) (body := b_least_point) hFd (He.glo_ok KX G (c.fact 7 (f := .glo "least_point") rfl)) sc_least_point (by decide) (fun _ _ _ _ _ _ us hl => match us, hl with | [_], _ => rfl) fun cdv A outer s H E rm hp =>
    (sss_cons (ss_asg (se_callC (cal_root_parts KX G c) rm (by decide) (by rfl) (sa_cons (se_var 0 rfl (by first | exact .inl rfl | exact .inr (.inl rfl) | exact .inr (.inr rfl))) sa_nil)) (sg_tup rm.calm (sgs_cons (sg_name rm.nd rfl (by first | exact .inl rfl | exact .inr rfl)) (sgs_cons (sg_name rm.nd rfl (by first | exact .inl rfl | exact .inr rfl)) sgs_nil))))
    (sss_cons (ss_set rm.nd rfl (by first | exact .inl rfl | exact .inr rfl) (se_if (st_cmpG (.eq rm.u64) (se_mod (se_len (by rfl) (m_len KX G c) (se_var 2 rfl (by first | exact .inl rfl | exact .inr (.inl rfl) | exact .inr (.inr rfl)))) se_int) se_int (by first | rfl | with_unfolding_all rfl)) (se_len (by rfl) (m_len KX G c) (se_var 2 rfl (by first | exact .inl rfl | exact .inr (.inl rfl) | exact .inr (.inr rfl)))) (se_mul se_int (se_len (by rfl) (m_len KX G c) (se_var 2 rfl (by first | exact .inl rfl | exact .inr (.inl rfl) | exact .inr (.inr rfl)))))))
    (sss_one (ss_ret (se_ix (se_callC (cal_root_convergents KX G c) rm (by decide) (by rfl) (sa_cons (se_var 0 rfl (by first | exact .inl rfl | exact .inr (.inl rfl) | exact .inr (.inr rfl))) (sa_cons (se_var 3 rfl (by first | exact .inl rfl | exact .inr (.inl rfl) | exact .inr (.inr rfl))) sa_nil))) (se_neg se_int))))))
theorem cal_minus_point (KX : K.In base) (G : base.Ns mainGlobals mg) (c : He.SaysD fa fn K) : Cal P w K mg base "minus_point" 5 1 F_minus_point := by
  obtain ⟨fd, hFd⟩ := (c.def_ 8 (d := d_minus_point) rfl)
  exact cal_of (st := s_minus_point) (N := N_minus_point) (ps := P_minus_point) (k := 4) (body := b_minus_point) hFd (He.glo_ok KX G (c.fact 8 (f := .glo "minus_point") rfl)) sc_minus_point (by decide) (fun _ _ _ _ _ _ us hl => match us, hl with | [_], _ => rfl) fun cdv A outer s H E rm hp =>
    (sss_cons (ss_asg (se_callC (cal_root_parts KX G c) rm (by decide) (by rfl) (sa_cons (se_var 0 rfl (by first | exact .inl rfl | exact .inr (.inl rfl) | exact .inr (.inr rfl))) sa_nil)) (sg_tup rm.calm (sgs_cons (sg_name rm.nd rfl (by first | exact .inl rfl | exact .inr rfl)) (sgs_cons (sg_name rm.nd rfl (by first | exact .inl rfl | exact .inr rfl)) sgs_nil))))
    (sss_cons (ss_if (st_cmpG (.eq rm.u64) (se_mod (se_len (by rfl) (m_len KX G c) (se_var 2 rfl (by first | exact .inl rfl | exact .inr (.inl rfl) | exact .inr (.inr rfl)))) se_int) se_int (by first | rfl | with_unfolding_all rfl)) (sss_one (ss_ret se_non)) sss_nil)
    (sss_one (ss_ret (se_ix (se_callC (cal_root_convergents KX G c) rm (by decide) (by rfl) (sa_cons (se_var 0 rfl (by first | exact .inl rfl | exact .inr (.inl rfl) | exact .inr (.inr rfl))) (sa_cons (se_len (by rfl) (m_len KX G c) (se_var 2 rfl (by first | exact .inl rfl | exact .inr (.inl rfl) | exact .inr (.inr rfl)))) sa_nil))) (se_neg se_int))))))
theorem cal_points (KX : K.In base) (G : base.Ns mainGlobals mg) (c : He.SaysD fa fn K) : Cal P w K mg base "points" 6 2 F_points := by
  obtain ⟨fd, hFd⟩ := (c.def_ 9 (d := d_points) rfl)
  exact cal_of (st := s_points) (N := N_points) (ps := P_points) (k := 5) (body := b_points) hFd (He.glo_ok KX G (c.fact 9 (f := .glo "points") rfl)) sc_points (by decide) (fun _ _ _ _ _ _ us hl => match us, hl with | [_, _], _ => rfl) fun cdv A outer s H E rm hp =>
    (sss_cons (ss_par2 rm.calm rm.nd rfl rfl (by decide) rfl rfl (sao_cons (se_callC (cal_least_point KX G c) rm (by decide) (by rfl) (sa_cons (se_var 0 rfl (by first | exact .inl rfl | exact .inr (.inl rfl) | exact .inr (.inr rfl))) sa_nil)) (sao_cons (se_lst sa_nil) sao_nil)))
    (sss_cons (ss_asg (se_var 2 rfl (by first | exact .inl rfl | exact .inr (.inl rfl) | exact .inr (.inr rfl))) (sg_tup rm.calm (sgs_cons (sg_name rm.nd rfl (by first | exact .inl rfl | exact .inr rfl)) (sgs_cons (sg_name rm.nd rfl (by first | exact .inl rfl | exact .inr rfl)) sgs_nil))))
    (sss_cons (ss_for hp rm.calm (si_rng1 (by rfl) (m_range KX G c) (se_var 1 rfl (by first | exact .inl rfl | exact .inr (.inl rfl) | exact .inr (.inr rfl)))) (sg_name rm.nd rfl (by first | exact .inl rfl | exact .inr rfl)) (sss_cons (ss_expr (se_append (se_var 3 rfl (by first | exact .inl rfl | exact .inr (.inl rfl) | exact .inr (.inr rfl))) (se_tup (sa_cons (se_var 4 rfl (by first | exact .inl rfl | exact .inr (.inl rfl) | exact .inr (.inr rfl))) (sa_cons (se_var 5 rfl (by first | exact .inl rfl | exact .inr (.inl rfl) | exact .inr (.inr rfl))) sa_nil)))))
      (sss_one (ss_par2 rm.calm rm.nd rfl rfl (by decide) rfl rfl (sao_cons (se_add (se_mul (se_var 4 rfl (by first | exact .inl rfl | exact .inr (.inl rfl) | exact .inr (.inr rfl))) (se_ix (se_var 2 rfl (by first | exact .inl rfl | exact .inr (.inl rfl) | exact .inr (.inr rfl))) se_int)) (se_mul (se_mul (se_var 0 rfl (by first | exact .inl rfl | exact .inr (.inl rfl) | exact .inr (.inr rfl))) (se_var 5 rfl (by first | exact .inl rfl | exact .inr (.inl rfl) | exact .inr (.inr rfl)))) (se_ix (se_var 2 rfl (by first | exact .inl rfl | exact .inr (.inl rfl) | exact .inr (.inr rfl))) se_int))) (sao_cons (se_add (se_mul (se_var 4 rfl (by first | exact .inl rfl | exact .inr (.inl rfl) | exact .inr (.inr rfl))) (se_ix (se_var 2 rfl (by first | exact .inl rfl | exact .inr (.inl rfl) | exact .inr (.inr rfl))) se_int)) (se_mul (se_var 5 rfl (by first | exact .inl rfl | exact .inr (.inl rfl) | exact .inr (.inr rfl))) (se_ix (se_var 2 rfl (by first | exact .inl rfl | exact .inr (.inl rfl) | exact .inr (.inr rfl))) se_int))) sao_nil))))))
    (sss_one (ss_ret (se_tuplec (by rfl) (m_tuple KX G c) (se_var 3 rfl (by first | exact .inl rfl | exact .inr (.inl rfl) | exact .inr (.inr rfl)))))))))
theorem cal__law_roll (KX : K.In base) (G : base.Ns mainGlobals mg) (c : He.SaysD fa fn K) : ∀ n : Nat, Cal P w K mg base "_law_roll" (0 + n) 2 (F__law_roll n)
  | 0 => by
    obtain ⟨fd, hFd⟩ := (c.def_ 10 (d := d__law_roll) rfl)
    exact cal_stuck (st := s__law_roll) (ps := P__law_roll) hFd (He.glo_ok KX G (c.fact 10 (f := .glo "_law_roll") rfl)) (fun _ _ _ _ _ _ us hl => match us, hl with | [_, _], _ => rfl)
  | n + 1 => by
    obtain ⟨fd, hFd⟩ := (c.def_ 10 (d := d__law_roll) rfl)
    have hF := cal__law_roll KX G c n
    have hk : 0 + n ≤ 0 + n := Nat.le_refl _
    exact cal_of (st := s__law_roll) (N := N__law_roll) (ps := P__law_roll) (k := 0 + n) (body := b__law_roll (F__law_roll n)) hFd (He.glo_ok KX G (c.fact 10 (f := .glo "_law_roll") rfl)) sc__law_roll (by decide) (fun _ _ _ _ _ _ us hl => match us, hl with | [_, _], _ => rfl) fun cdv A outer s H E rm hp =>
    (sss_cons (ss_if (SW.st (sw_or (st_cmpG (.eq rm.u64) (se_ix (se_var 0 rfl (by first | exact .inl rfl | exact .inr (.inl rfl) | exact .inr (.inr rfl))) se_int) se_int (by first | rfl | with_unfolding_all rfl)) (sw_or1 (SW.st (sw_and (st_cmpG (.eq rm.u64) (se_ix (se_var 0 rfl (by first | exact .inl rfl | exact .inr (.inl rfl) | exact .inr (.inr rfl))) se_int) se_int (by first | rfl | with_unfolding_all rfl)) (sw_and1 (st_cmpG .gt (se_ix (se_var 0 rfl (by first | exact .inl rfl | exact .inr (.inl rfl) | exact .inr (.inr rfl))) se_int) se_int (by first | rfl | with_unfolding_all rfl)))))))) (sss_cons (ss_set rm.nd rfl (by first | exact .inl rfl | exact .inr rfl) (se_mod (se_intc (by rfl) (m_int KX G c) (se_ix (se_var 0 rfl (by first | exact .inl rfl | exact .inr (.inl rfl) | exact .inr (.inr rfl))) se_int)) (se_var 1 rfl (by first | exact .inl rfl | exact .inr (.inl rfl) | exact .inr (.inr rfl)))))
      (sss_cons (ss_asg (se_div (se_ix (se_var 0 rfl (by first | exact .inl rfl | exact .inr (.inl rfl) | exact .inr (.inr rfl))) se_int) (se_var 1 rfl (by first | exact .inl rfl | exact .inr (.inl rfl) | exact .inr (.inr rfl)))) (sg_sub (se_var 0 rfl (by first | exact .inl rfl | exact .inr (.inl rfl) | exact .inr (.inr rfl))) se_int))
      (sss_one (ss_ret (se_var 2 rfl (by first | exact .inl rfl | exact .inr (.inl rfl) | exact .inr (.inr rfl))))))) sss_nil)
    (sss_cons (ss_asg se_int (sg_sub (se_var 0 rfl (by first | exact .inl rfl | exact .inr (.inl rfl) | exact .inr (.inr rfl))) se_int))
    (sss_cons (ss_if (st_cmpG .gt (se_var 1 rfl (by first | exact .inl rfl | exact .inr (.inl rfl) | exact .inr (.inr rfl))) se_int (by first | rfl | with_unfolding_all rfl)) (sss_one (ss_ret (se_mod (se_intc (by rfl) (m_int KX G c) (se_add (se_mul (se_callC hF rm hk (by rfl) (sa_cons (se_var 0 rfl (by first | exact .inl rfl | exact .inr (.inl rfl) | exact .inr (.inr rfl))) (sa_cons (se_add (se_div (se_var 1 rfl (by first | exact .inl rfl | exact .inr (.inl rfl) | exact .inr (.inr rfl))) se_int) se_int) sa_nil))) se_int) (se_callC hF rm hk (by rfl) (sa_cons (se_var 0 rfl (by first | exact .inl rfl | exact .inr (.inl rfl) | exact .inr (.inr rfl))) (sa_cons se_int sa_nil))))) (se_var 1 rfl (by first | exact .inl rfl | exact .inr (.inl rfl) | exact .inr (.inr rfl)))))) sss_nil)
    (sss_cons (ss_asg (se_mod (se_intc (by rfl) (m_int KX G c) (se_add (se_add (se_mul (se_ix (se_var 0 rfl (by first | exact .inl rfl | exact .inr (.inl rfl) | exact .inr (.inr rfl))) se_int) se_int) (se_mul (se_ix (se_var 0 rfl (by first | exact .inl rfl | exact .inr (.inl rfl) | exact .inr (.inr rfl))) se_int) se_int)) se_int)) se_int) (sg_sub (se_var 0 rfl (by first | exact .inl rfl | exact .inr (.inl rfl) | exact .inr (.inr rfl))) se_int))
    (sss_cons (ss_asg (se_add (se_ix (se_var 0 rfl (by first | exact .inl rfl | exact .inr (.inl rfl) | exact .inr (.inr rfl))) se_int) se_int) (sg_sub (se_var 0 rfl (by first | exact .inl rfl | exact .inr (.inl rfl) | exact .inr (.inr rfl))) se_int))
    (sss_one (ss_ret (se_mod (se_intc (by rfl) (m_int KX G c) (se_div (se_ix (se_var 0 rfl (by first | exact .inl rfl | exact .inr (.inl rfl) | exact .inr (.inr rfl))) se_int) se_int)) (se_var 1 rfl (by first | exact .inl rfl | exact .inr (.inl rfl) | exact .inr (.inr rfl)))))))))))
theorem cal_sum_of_two_squares (KX : K.In base) (G : base.Ns mainGlobals mg) (c : He.SaysD fa fn K) : Cal P w K mg base "sum_of_two_squares" 3 1 F_sum_of_two_squares := by
  obtain ⟨fd, hFd⟩ := (c.def_ 11 (d := d_sum_of_two_squares) rfl)
  exact cal_of (st := s_sum_of_two_squares) (N := N_sum_of_two_squares) (ps := P_sum_of_two_squares) (k := 2) (body := b_sum_of_two_squares) hFd (He.glo_ok KX G (c.fact 11 (f := .glo "sum_of_two_squares") rfl)) sc_sum_of_two_squares (by decide) (fun _ _ _ _ _ _ us hl => match us, hl with | [_], _ => rfl) fun cdv A outer s H E rm hp =>
    (sss_cons (ss_if (st_not (st_chn .le .le se_int (se_var 0 rfl (by first | exact .inl rfl | exact .inr (.inl rfl) | exact .inr (.inr rfl))) (se_pow se_int se_int))) (sss_one (ss_raiseX (x_NumberError KX G c) rm.calm (by rfl))) sss_nil)
    (sss_cons (ss_set rm.nd rfl (by first | exact .inl rfl | exact .inr rfl) (se_lst sa_nil))
    (sss_cons (ss_for hp rm.calm (si_rng1 (by rfl) (m_range KX G c) (se_add (se_callC (cal_root_below KX G c) rm (by decide) (by rfl) (sa_cons (se_var 0 rfl (by first | exact .inl rfl | exact .inr (.inl rfl) | exact .inr (.inr rfl))) (sa_cons se_int sa_nil))) se_int)) (sg_name rm.nd rfl (by first | exact .inl rfl | exact .inr rfl)) (sss_cons (ss_set rm.nd rfl (by first | exact .inl rfl | exact .inr rfl) (se_sub (se_var 0 rfl (by first | exact .inl rfl | exact .inr (.inl rfl) | exact .inr (.inr rfl))) (se_mul (se_var 2 rfl (by first | exact .inl rfl | exact .inr (.inl rfl) | exact .inr (.inr rfl))) (se_var 2 rfl (by first | exact .inl rfl | exact .inr (.inl rfl) | exact .inr (.inr rfl))))))
      (sss_cons (ss_set rm.nd rfl (by first | exact .inl rfl | exact .inr rfl) (se_callC (cal_root_below KX G c) rm (by decide) (by rfl) (sa_cons (se_var 3 rfl (by first | exact .inl rfl | exact .inr (.inl rfl) | exact .inr (.inr rfl))) (sa_cons se_int sa_nil))))
      (sss_one (ss_if (SW.st (sw_and (st_cmpG (.eq rm.u64) (se_mul (se_var 4 rfl (by first | exact .inl rfl | exact .inr (.inl rfl) | exact .inr (.inr rfl))) (se_var 4 rfl (by first | exact .inl rfl | exact .inr (.inl rfl) | exact .inr (.inr rfl)))) (se_var 3 rfl (by first | exact .inl rfl | exact .inr (.inl rfl) | exact .inr (.inr rfl))) (by first | rfl | with_unfolding_all rfl)) (sw_and1 (st_cmpG .le (se_var 2 rfl (by first | exact .inl rfl | exact .inr (.inl rfl) | exact .inr (.inr rfl))) (se_var 4 rfl (by first | exact .inl rfl | exact .inr (.inl rfl) | exact .inr (.inr rfl))) (by first | rfl | with_unfolding_all rfl))))) (sss_one (ss_expr (se_append (se_var 1 rfl (by first | exact .inl rfl | exact .inr (.inl rfl) | exact .inr (.inr rfl))) (se_tup (sa_cons (se_var 2 rfl (by first | exact .inl rfl | exact .inr (.inl rfl) | exact .inr (.inr rfl))) (sa_cons (se_var 4 rfl (by first | exact .inl rfl | exact .inr (.inl rfl) | exact .inr (.inr rfl))) sa_nil)))))) sss_nil)))))
    (sss_one (ss_ret (se_tuplec (by rfl) (m_tuple KX G c) (se_var 1 rfl (by first | exact .inl rfl | exact .inr (.inl rfl) | exact .inr (.inr rfl)))))))))
theorem cal__law_least (KX : K.In base) (G : base.Ns mainGlobals mg) (c : He.SaysD fa fn K) : Cal P w K mg base "_law_least" 1 3 F__law_least := by
  obtain ⟨fd, hFd⟩ := (c.def_ 12 (d := d__law_least) rfl)
  exact cal_of (st := s__law_least) (N := N__law_least) (ps := P__law_least) (k := 0) (body := b__law_least) hFd (He.glo_ok KX G (c.fact 12 (f := .glo "_law_least") rfl)) sc__law_least (by decide) (fun _ _ _ _ _ _ us hl => match us, hl with | [_, _, _], _ => rfl) fun cdv A outer s H E rm hp =>
    (sss_cons (ss_for hp rm.calm (si_rng2 (by rfl) (m_range KX G c) se_int (se_var 2 rfl (by first | exact .inl rfl | exact .inr (.inl rfl) | exact .inr (.inr rfl)))) (sg_name rm.nd rfl (by first | exact .inl rfl | exact .inr rfl)) (sss_cons (ss_set rm.nd rfl (by first | exact .inl rfl | exact .inr rfl) (se_add (se_mul (se_mul (se_var 0 rfl (by first | exact .inl rfl | exact .inr (.inl rfl) | exact .inr (.inr rfl))) (se_var 3 rfl (by first | exact .inl rfl | exact .inr (.inl rfl) | exact .inr (.inr rfl)))) (se_var 3 rfl (by first | exact .inl rfl | exact .inr (.inl rfl) | exact .inr (.inr rfl)))) (se_var 1 rfl (by first | exact .inl rfl | exact .inr (.inl rfl) | exact .inr (.inr rfl)))))
      (sss_cons (ss_par2 rm.calm rm.nd rfl rfl (by decide) rfl rfl (sao_cons se_int (sao_cons (se_add (se_mul (se_mul se_int (se_var 0 rfl (by first | exact .inl rfl | exact .inr (.inl rfl) | exact .inr (.inr rfl)))) (se_var 3 rfl (by first | exact .inl rfl | exact .inr (.inl rfl) | exact .inr (.inr rfl)))) se_int) sao_nil)))
      (sss_cons (ss_while hp (st_cmpG .lt (se_add (se_var 5 rfl (by first | exact .inl rfl | exact .inr (.inl rfl) | exact .inr (.inr rfl))) se_int) (se_var 6 rfl (by first | exact .inl rfl | exact .inr (.inl rfl) | exact .inr (.inr rfl))) (by first | rfl | with_unfolding_all rfl)) (sss_cons (ss_set rm.nd rfl (by first | exact .inl rfl | exact .inr rfl) (se_div (se_add (se_var 5 rfl (by first | exact .inl rfl | exact .inr (.inl rfl) | exact .inr (.inr rfl))) (se_var 6 rfl (by first | exact .inl rfl | exact .inr (.inl rfl) | exact .inr (.inr rfl)))) se_int))
        (sss_one (ss_asg (se_if (st_cmpG .le (se_mul (se_var 7 rfl (by first | exact .inl rfl | exact .inr (.inl rfl) | exact .inr (.inr rfl))) (se_var 7 rfl (by first | exact .inl rfl | exact .inr (.inl rfl) | exact .inr (.inr rfl)))) (se_var 4 rfl (by first | exact .inl rfl | exact .inr (.inl rfl) | exact .inr (.inr rfl))) (by first | rfl | with_unfolding_all rfl)) (se_tup (sa_cons (se_var 7 rfl (by first | exact .inl rfl | exact .inr (.inl rfl) | exact .inr (.inr rfl))) (sa_cons (se_var 6 rfl (by first | exact .inl rfl | exact .inr (.inl rfl) | exact .inr (.inr rfl))) sa_nil))) (se_tup (sa_cons (se_var 5 rfl (by first | exact .inl rfl | exact .inr (.inl rfl) | exact .inr (.inr rfl))) (sa_cons (se_var 7 rfl (by first | exact .inl rfl | exact .inr (.inl rfl) | exact .inr (.inr rfl))) sa_nil)))) (sg_tup rm.calm (sgs_cons (sg_name rm.nd rfl (by first | exact .inl rfl | exact .inr rfl)) (sgs_cons (sg_name rm.nd rfl (by first | exact .inl rfl | exact .inr rfl)) sgs_nil)))))))
      (sss_one (ss_if (SW.st (sw_and (st_cmpG .gt (se_var 4 rfl (by first | exact .inl rfl | exact .inr (.inl rfl) | exact .inr (.inr rfl))) se_int (by first | rfl | with_unfolding_all rfl)) (sw_and1 (st_cmpG (.eq rm.u64) (se_mul (se_var 5 rfl (by first | exact .inl rfl | exact .inr (.inl rfl) | exact .inr (.inr rfl))) (se_var 5 rfl (by first | exact .inl rfl | exact .inr (.inl rfl) | exact .inr (.inr rfl)))) (se_var 4 rfl (by first | exact .inl rfl | exact .inr (.inl rfl) | exact .inr (.inr rfl))) (by first | rfl | with_unfolding_all rfl))))) (sss_one (ss_ret (se_tup (sa_cons (se_var 5 rfl (by first | exact .inl rfl | exact .inr (.inl rfl) | exact .inr (.inr rfl))) (sa_cons (se_var 3 rfl (by first | exact .inl rfl | exact .inr (.inl rfl) | exact .inr (.inr rfl))) sa_nil))))) sss_nil))))))
    (sss_one (ss_ret se_non)))
theorem hD_law (KX : K.In base) (G : base.Ns mainGlobals mg) (c : He.SaysD fa fn K) : ∀ x G, D_law x = some G → ∃ n, Cal P w K mg base x 5 n G := by
  intro x F h
  unfold D_law at h
  split at h
  · rename_i e
    cases h
    subst e
    exact ⟨_, (cal_root_parts KX G c).mono (by decide)⟩
  split at h
  · rename_i e
    cases h
    subst e
    exact ⟨_, (cal_least_point KX G c).mono (by decide)⟩
  split at h
  · rename_i e
    cases h
    subst e
    exact ⟨_, (cal_minus_point KX G c).mono (by decide)⟩
  cases h

theorem told0 (KX : K.In base) (G : base.Ns mainGlobals mg) (c : He.SaysD fa fn K) : Nonempty (ToldC K mg "_law_told" "NumberError") := by
  obtain ⟨fd, hFd⟩ := c.def_ 14 (d := d__law_told) rfl
  exact toldC_of (st := s__law_told) (a := "what") (cn := "NumberError") hFd (He.glo_ok KX G (c.fact 14 (f := .glo "_law_told") rfl)) rfl ⟨rfl, rfl, rfl, by decide +kernel, rfl, by decide +kernel, by decide +kernel⟩ (.inl rfl) rfl (x_NumberError KX G c) (fun _ _ _ _ _ _ us hl => match us, hl with | [_], _ => rfl)
def lamQ : Str := "law.<locals>." ++ "<lambda>"
def lamL : Nat → LD
  | 0 => lamLD lamQ (ePath (stE ((defBody s_law).getD 1 (.Pass ⟨0, 0, 0, 0⟩))) [3])
  | 1 => lamLD lamQ (ePath (stE ((defBody s_law).getD 1 (.Pass ⟨0, 0, 0, 0⟩))) [2])
  | 2 => lamLD lamQ (ePath (stE ((defBody s_law).getD 1 (.Pass ⟨0, 0, 0, 0⟩))) [1])
  | 3 => lamLD lamQ (ePath (stE ((defBody s_law).getD 1 (.Pass ⟨0, 0, 0, 0⟩))) [0])
  | _ => lamLD lamQ (.List [] ⟨0, 0, 0, 0⟩)
theorem bd_law {fd : FuncData} (hFd : FunD K "law" "law" (defArgs s_law) (defBody s_law) (defScope s_law) [] [] (He.fAd K ("law", none)) fd) : ∀ (s : Shared) (v : Value), BindsTo s fd ⟨[v], []⟩ [("script", v)] := fun s v => (FunD.bindsA (ps := P_law) hFd (fun _ _ _ _ _ _ us hl => match us, hl with | [_], _ => rfl)) s [v] rfl
theorem ok_law {fd : FuncData} (KX : K.In base) (G : base.Ns mainGlobals mg) (c : He.SaysD fa fn K) (hFd : FunD K "law" "law" (defArgs s_law) (defBody s_law) (defScope s_law) [] [] (He.fAd K ("law", none)) fd) (TB : LamX.TabB base mg (He.cT K ("law", none)).1 (He.cT K ("law", none)).2) (hT : ((He.cT K ("law", none)).2, lamQ) ∈ Tb.T) (hL : ∀ i, Tb.L i = lamL i) :
    FnOk P w K mg base (L2.CX P w) 8 (He.fAd K ("law", none)) fd P_law (spF ⟨K, mg, Tb.T, Tb.L⟩ 1 F_law) := by
  obtain ⟨T0⟩ := told0 KX G c
  exact cal_ofC (st := s_law) (N := N_law) (ps := P_law) (k := 7) (body := b_law) (p := ("law", none)) hFd (He.glo_ok KX G (c.fact 13 (f := .glo "law") rfl)) sc_law (by decide) (fun _ _ _ _ _ _ us hl => match us, hl with | [_], _ => rfl) fun cdv A outer s H E hcode rm hp =>
    (sss_cons (ss_for hp rm.calm (si_seq (se_callC (cal__law_rounds KX G c) rm (by decide) (by rfl) (sa_cons (se_var 0 rfl (by first | exact .inl rfl | exact .inr (.inl rfl) | exact .inr (.inr rfl))) (sa_cons se_int sa_nil)))) (sg_name rm.nd rfl (by first | exact .inl rfl | exact .inr rfl)) (sss_cons (ss_set rm.nd rfl (by first | exact .inl rfl | exact .inr rfl) (se_add se_int (se_callC (cal__law_roll KX G c 1) rm (by decide) (by rfl) (sa_cons (se_var 1 rfl (by first | exact .inl rfl | exact .inr (.inl rfl) | exact .inr (.inr rfl))) (sa_cons se_int sa_nil)))))
      (sss_cons (ss_parN rm.calm rm.nd (.cons rfl (by first | exact .inl rfl | exact .inr rfl) (by first | exact .inl rfl | exact .inr rfl) rfl (.cons rfl (by first | exact .inl rfl | exact .inr rfl) (by first | exact .inl rfl | exact .inr rfl) rfl .nil)) (sao_cons se_int (sao_cons (se_tup sa_nil) sao_nil)))
      (sss_cons (ss_setLc (own := [("k", 7)]) rm.calm rm.nd rfl rfl rfl rfl rfl (si_rng1 (by rfl) (m_range KX G c) se_int) (blkOk_by (by kernel_rfl)) (fun s1 H1 C1 cl1 fp1 => (sgw_name (rm.blk).nd rfl (by first | exact .inl rfl | exact .inr rfl) (by decide))) (fun s1 H1 C1 cl1 fp1 => sts_nil) (fun s1 H1 C1 cl1 fp1 => (se_mul (se_var 7 rfl (by first | exact .inl rfl | exact .inr (.inl rfl) | exact .inr (.inr rfl))) (se_var 7 rfl (by first | exact .inl rfl | exact .inr (.inl rfl) | exact .inr (.inr rfl))))))
      (sss_cons (ss_if (st_cmpG (.in_ rm.u65) (se_var 2 rfl (by first | exact .inl rfl | exact .inr (.inl rfl) | exact .inr (.inr rfl))) (se_var 5 rfl (by first | exact .inl rfl | exact .inr (.inl rfl) | exact .inr (.inr rfl))) (by first | rfl | with_unfolding_all rfl)) (sss_cons (ss_if (st_cmpG (.ne rm.u64) (se_lc (own := [("f", 16)]) rm.calm rm.nd (si_seq (se_lst (sa_cons (se_gfn (cal_root_parts KX G c) (by rfl)) (sa_cons (se_gfn (cal_least_point KX G c) (by rfl)) (sa_cons (se_gfn (cal_minus_point KX G c) (by rfl)) sa_nil))))) (blkOk_by (by kernel_rfl)) (fun s1 H1 C1 cl1 fp1 => (sgw_name (rm.blk).nd rfl (by first | exact .inl rfl | exact .inr rfl) (by decide))) (fun s1 H1 C1 cl1 fp1 => sts_one (st_cmpG (.ne (rm.blk).u64) (se_told T0 (k := 5) (rm.blk) (by decide) (by rfl) TB hcode hT (LamX.lamS_by (by kernel_rfl)) (slam (rm.blk) fun A2 o2 s2 H2 E2 f2 c2 rl2 => (se_callV (hD_law KX G c) rl2 (by decide) rfl (by first | exact .inl rfl | exact .inr (.inl rfl) | exact .inr (.inr rfl)) (sa_cons (se_var 2 rfl (by first | exact .inl rfl | exact .inr (.inl rfl) | exact .inr (.inr rfl))) sa_nil)))) se_str (by first | rfl | with_unfolding_all rfl))) (fun s1 H1 C1 cl1 fp1 => se_int)) (se_lst sa_nil) (by first | rfl | with_unfolding_all rfl)) (sss_one (ss_ret se_bl)) sss_nil)
        (sss_one ss_cnt)) sss_nil)
      (sss_cons (ss_asg (se_callC (cal__law_parts KX G c) rm (by decide) (by rfl) (sa_cons (se_var 2 rfl (by first | exact .inl rfl | exact .inr (.inl rfl) | exact .inr (.inr rfl))) sa_nil)) (sg_tup rm.calm (sgs_cons (sg_name rm.nd rfl (by first | exact .inl rfl | exact .inr rfl)) (sgs_cons (sg_name rm.nd rfl (by first | exact .inl rfl | exact .inr rfl)) sgs_nil))))
      (sss_cons (ss_if (SW.st (sw_or (st_cmpG (.ne rm.u64) (se_callC (cal_root_parts KX G c) rm (by decide) (by rfl) (sa_cons (se_var 2 rfl (by first | exact .inl rfl | exact .inr (.inl rfl) | exact .inr (.inr rfl))) sa_nil)) (se_tup (sa_cons (se_var 3 rfl (by first | exact .inl rfl | exact .inr (.inl rfl) | exact .inr (.inr rfl))) (sa_cons (se_var 4 rfl (by first | exact .inl rfl | exact .inr (.inl rfl) | exact .inr (.inr rfl))) sa_nil))) (by first | rfl | with_unfolding_all rfl)) (sw_or1 (st_cmpG (.ne rm.u64) (se_ix (se_var 4 rfl (by first | exact .inl rfl | exact .inr (.inl rfl) | exact .inr (.inr rfl))) (se_sub (se_len (by rfl) (m_len KX G c) (se_var 4 rfl (by first | exact .inl rfl | exact .inr (.inl rfl) | exact .inr (.inr rfl)))) se_int)) (se_mul se_int (se_var 3 rfl (by first | exact .inl rfl | exact .inr (.inl rfl) | exact .inr (.inr rfl)))) (by first | rfl | with_unfolding_all rfl))))) (sss_one (ss_ret se_bl)) sss_nil)
      (sss_cons (ss_set rm.nd rfl (by first | exact .inl rfl | exact .inr rfl) (se_callC (cal_root_convergents KX G c) rm (by decide) (by rfl) (sa_cons (se_var 2 rfl (by first | exact .inl rfl | exact .inr (.inl rfl) | exact .inr (.inr rfl))) (sa_cons se_int sa_nil))))
      (sss_cons (ss_for hp rm.calm (si_enum (by rfl) (m_enumerate KX G c) (se_var 6 rfl (by first | exact .inl rfl | exact .inr (.inl rfl) | exact .inr (.inr rfl)))) (sg_tup rm.calm (sgs_cons (sg_name rm.nd rfl (by first | exact .inl rfl | exact .inr rfl)) (sgs_cons (sg_tup rm.calm (sgs_cons (sg_name rm.nd rfl (by first | exact .inl rfl | exact .inr rfl)) (sgs_cons (sg_name rm.nd rfl (by first | exact .inl rfl | exact .inr rfl)) sgs_nil))) sgs_nil))) (sss_one (ss_if (SW.st (sw_or (st_cmpG (.ne rm.u64) (se_cmpG .lt (se_mul (se_var 8 rfl (by first | exact .inl rfl | exact .inr (.inl rfl) | exact .inr (.inr rfl))) (se_var 8 rfl (by first | exact .inl rfl | exact .inr (.inl rfl) | exact .inr (.inr rfl)))) (se_mul (se_mul (se_var 2 rfl (by first | exact .inl rfl | exact .inr (.inl rfl) | exact .inr (.inr rfl))) (se_var 9 rfl (by first | exact .inl rfl | exact .inr (.inl rfl) | exact .inr (.inr rfl)))) (se_var 9 rfl (by first | exact .inl rfl | exact .inr (.inl rfl) | exact .inr (.inr rfl)))) (by first | rfl | with_unfolding_all rfl)) (se_cmpG (.eq rm.u64) (se_mod (se_var 7 rfl (by first | exact .inl rfl | exact .inr (.inl rfl) | exact .inr (.inr rfl))) se_int) se_int (by first | rfl | with_unfolding_all rfl)) (by first | rfl | with_unfolding_all rfl)) (sw_or1 (SW.st (sw_and (st_cmpG .gt (se_var 7 rfl (by first | exact .inl rfl | exact .inr (.inl rfl) | exact .inr (.inr rfl))) se_int (by first | rfl | with_unfolding_all rfl)) (sw_and1 (st_cmpG (.ne rm.u64) (se_abs (by rfl) (m_abs KX G c) (se_sub (se_mul (se_var 8 rfl (by first | exact .inl rfl | exact .inr (.inl rfl) | exact .inr (.inr rfl))) (se_ix (se_ix (se_var 6 rfl (by first | exact .inl rfl | exact .inr (.inl rfl) | exact .inr (.inr rfl))) (se_sub (se_var 7 rfl (by first | exact .inl rfl | exact .inr (.inl rfl) | exact .inr (.inr rfl))) se_int)) se_int)) (se_mul (se_var 9 rfl (by first | exact .inl rfl | exact .inr (.inl rfl) | exact .inr (.inr rfl))) (se_ix (se_ix (se_var 6 rfl (by first | exact .inl rfl | exact .inr (.inl rfl) | exact .inr (.inr rfl))) (se_sub (se_var 7 rfl (by first | exact .inl rfl | exact .inr (.inl rfl) | exact .inr (.inr rfl))) se_int)) se_int)))) se_int (by first | rfl | with_unfolding_all rfl)))))))) (sss_one (ss_ret se_bl)) sss_nil)))
      (sss_cons (ss_asg (se_callC (cal_least_point KX G c) rm (by decide) (by rfl) (sa_cons (se_var 2 rfl (by first | exact .inl rfl | exact .inr (.inl rfl) | exact .inr (.inr rfl))) sa_nil)) (sg_tup rm.calm (sgs_cons (sg_name rm.nd rfl (by first | exact .inl rfl | exact .inr rfl)) (sgs_cons (sg_name rm.nd rfl (by first | exact .inl rfl | exact .inr rfl)) sgs_nil))))
      (sss_cons (ss_if (SW.st (sw_or (st_cmpG (.ne rm.u64) (se_sub (se_mul (se_var 8 rfl (by first | exact .inl rfl | exact .inr (.inl rfl) | exact .inr (.inr rfl))) (se_var 8 rfl (by first | exact .inl rfl | exact .inr (.inl rfl) | exact .inr (.inr rfl)))) (se_mul (se_mul (se_var 2 rfl (by first | exact .inl rfl | exact .inr (.inl rfl) | exact .inr (.inr rfl))) (se_var 9 rfl (by first | exact .inl rfl | exact .inr (.inl rfl) | exact .inr (.inr rfl)))) (se_var 9 rfl (by first | exact .inl rfl | exact .inr (.inl rfl) | exact .inr (.inr rfl))))) se_int (by first | rfl | with_unfolding_all rfl)) (sw_or (st_cmpG .lt (se_var 9 rfl (by first | exact .inl rfl | exact .inr (.inl rfl) | exact .inr (.inr rfl))) se_int (by first | rfl | with_unfolding_all rfl)) (sw_or (SW.st (sw_and (st_cmpG .lt (se_var 9 rfl (by first | exact .inl rfl | exact .inr (.inl rfl) | exact .inr (.inr rfl))) se_int (by first | rfl | with_unfolding_all rfl)) (sw_and1 (st_cmpG (.ne rm.u64) (se_callC (cal__law_least KX G c) rm (by decide) (by rfl) (sa_cons (se_var 2 rfl (by first | exact .inl rfl | exact .inr (.inl rfl) | exact .inr (.inr rfl))) (sa_cons se_int (sa_cons (se_add (se_var 9 rfl (by first | exact .inl rfl | exact .inr (.inl rfl) | exact .inr (.inr rfl))) se_int) sa_nil)))) (se_tup (sa_cons (se_var 8 rfl (by first | exact .inl rfl | exact .inr (.inl rfl) | exact .inr (.inr rfl))) (sa_cons (se_var 9 rfl (by first | exact .inl rfl | exact .inr (.inl rfl) | exact .inr (.inr rfl))) sa_nil))) (by first | rfl | with_unfolding_all rfl))))) (sw_or1 (SW.st (sw_and (st_cmpG .ge (se_var 9 rfl (by first | exact .inl rfl | exact .inr (.inl rfl) | exact .inr (.inr rfl))) se_int (by first | rfl | with_unfolding_all rfl)) (sw_and1 (st_notN (se_callC (cal__law_least KX G c) rm (by decide) (by rfl) (sa_cons (se_var 2 rfl (by first | exact .inl rfl | exact .inr (.inl rfl) | exact .inr (.inr rfl))) (sa_cons se_int (sa_cons se_int sa_nil))))))))))))) (sss_one (ss_ret se_bl)) sss_nil)
      (sss_cons (ss_set rm.nd rfl (by first | exact .inl rfl | exact .inr rfl) (se_callC (cal_minus_point KX G c) rm (by decide) (by rfl) (sa_cons (se_var 2 rfl (by first | exact .inl rfl | exact .inr (.inl rfl) | exact .inr (.inr rfl))) sa_nil)))
      (sss_cons (ss_if (SW.st (sw_or (SW.st (sw_and (st_notN (se_var 10 rfl (by first | exact .inl rfl | exact .inr (.inl rfl) | exact .inr (.inr rfl)))) (sw_and1 (SW.st (sw_or (st_cmpG (.ne rm.u64) (se_sub (se_mul (se_ix (se_var 10 rfl (by first | exact .inl rfl | exact .inr (.inl rfl) | exact .inr (.inr rfl))) se_int) (se_ix (se_var 10 rfl (by first | exact .inl rfl | exact .inr (.inl rfl) | exact .inr (.inr rfl))) se_int)) (se_mul (se_mul (se_var 2 rfl (by first | exact .inl rfl | exact .inr (.inl rfl) | exact .inr (.inr rfl))) (se_ix (se_var 10 rfl (by first | exact .inl rfl | exact .inr (.inl rfl) | exact .inr (.inr rfl))) se_int)) (se_ix (se_var 10 rfl (by first | exact .inl rfl | exact .inr (.inl rfl) | exact .inr (.inr rfl))) se_int))) (se_neg se_int) (by first | rfl | with_unfolding_all rfl)) (sw_or1 (st_cmpG (.ne rm.u64) (se_tup (sa_cons (se_add (se_mul (se_mul se_int (se_ix (se_var 10 rfl (by first | exact .inl rfl | exact .inr (.inl rfl) | exact .inr (.inr rfl))) se_int)) (se_ix (se_var 10 rfl (by first | exact .inl rfl | exact .inr (.inl rfl) | exact .inr (.inr rfl))) se_int)) se_int) (sa_cons (se_mul (se_mul se_int (se_ix (se_var 10 rfl (by first | exact .inl rfl | exact .inr (.inl rfl) | exact .inr (.inr rfl))) se_int)) (se_ix (se_var 10 rfl (by first | exact .inl rfl | exact .inr (.inl rfl) | exact .inr (.inr rfl))) se_int)) sa_nil))) (se_tup (sa_cons (se_var 8 rfl (by first | exact .inl rfl | exact .inr (.inl rfl) | exact .inr (.inr rfl))) (sa_cons (se_var 9 rfl (by first | exact .inl rfl | exact .inr (.inl rfl) | exact .inr (.inr rfl))) sa_nil))) (by first | rfl | with_unfolding_all rfl)))))))) (sw_or1 (SW.st (sw_and (st_isN (se_var 10 rfl (by first | exact .inl rfl | exact .inr (.inl rfl) | exact .inr (.inr rfl)))) (sw_and1 (st_notN (se_callC (cal__law_least KX G c) rm (by decide) (by rfl) (sa_cons (se_var 2 rfl (by first | exact .inl rfl | exact .inr (.inl rfl) | exact .inr (.inr rfl))) (sa_cons (se_neg se_int) (sa_cons se_int sa_nil))))))))))) (sss_one (ss_ret se_bl)) sss_nil)
      (sss_cons (ss_set rm.nd rfl (by first | exact .inl rfl | exact .inr rfl) (se_callC (cal_points KX G c) rm (by decide) (by rfl) (sa_cons (se_var 2 rfl (by first | exact .inl rfl | exact .inr (.inl rfl) | exact .inr (.inr rfl))) (sa_cons se_int sa_nil))))
      (sss_cons (ss_if (SW.st (sw_or (st_cmpG (.ne rm.u64) (se_lc (own := [("row", 17)]) rm.calm rm.nd (si_seq (se_var 11 rfl (by first | exact .inl rfl | exact .inr (.inl rfl) | exact .inr (.inr rfl)))) (blkOk_by (by kernel_rfl)) (fun s1 H1 C1 cl1 fp1 => (sgw_name (rm.blk).nd rfl (by first | exact .inl rfl | exact .inr rfl) (by decide))) (fun s1 H1 C1 cl1 fp1 => sts_one (st_cmpG (.ne (rm.blk).u64) (se_sub (se_mul (se_ix (se_var 17 rfl (by first | exact .inl rfl | exact .inr (.inl rfl) | exact .inr (.inr rfl))) se_int) (se_ix (se_var 17 rfl (by first | exact .inl rfl | exact .inr (.inl rfl) | exact .inr (.inr rfl))) se_int)) (se_mul (se_mul (se_var 2 rfl (by first | exact .inl rfl | exact .inr (.inl rfl) | exact .inr (.inr rfl))) (se_ix (se_var 17 rfl (by first | exact .inl rfl | exact .inr (.inl rfl) | exact .inr (.inr rfl))) se_int)) (se_ix (se_var 17 rfl (by first | exact .inl rfl | exact .inr (.inl rfl) | exact .inr (.inr rfl))) se_int))) se_int (by first | rfl | with_unfolding_all rfl))) (fun s1 H1 C1 cl1 fp1 => (se_var 17 rfl (by first | exact .inl rfl | exact .inr (.inl rfl) | exact .inr (.inr rfl))))) (se_lst sa_nil) (by first | rfl | with_unfolding_all rfl)) (sw_or (st_cmpG (.ne rm.u64) (se_listc (by rfl) (m_list KX G c) (se_var 11 rfl (by first | exact .inl rfl | exact .inr (.inl rfl) | exact .inr (.inr rfl)))) (se_sort rm (by rfl) (m_sorted KX G c) (se_var 11 rfl (by first | exact .inl rfl | exact .inr (.inl rfl) | exact .inr (.inr rfl)))) (by first | rfl | with_unfolding_all rfl)) (sw_or1 (st_cmpG (.ne rm.u64) (se_ix (se_var 11 rfl (by first | exact .inl rfl | exact .inr (.inl rfl) | exact .inr (.inr rfl))) se_int) (se_tup (sa_cons (se_var 8 rfl (by first | exact .inl rfl | exact .inr (.inl rfl) | exact .inr (.inr rfl))) (sa_cons (se_var 9 rfl (by first | exact .inl rfl | exact .inr (.inl rfl) | exact .inr (.inr rfl))) sa_nil))) (by first | rfl | with_unfolding_all rfl)))))) (sss_one (ss_ret se_bl)) sss_nil)
      (sss_cons (ss_if (SW.st (sw_and (st_cmpG .lt (se_var 9 rfl (by first | exact .inl rfl | exact .inr (.inl rfl) | exact .inr (.inr rfl))) se_int (by first | rfl | with_unfolding_all rfl)) (sw_and1 (st_cmpG (.ne rm.u64) (se_lc (own := [("row", 17)]) rm.calm rm.nd (si_seq (se_lst (sa_cons (se_tup (sa_cons (se_ix (se_ix (se_var 11 rfl (by first | exact .inl rfl | exact .inr (.inl rfl) | exact .inr (.inr rfl))) se_int) se_int) (sa_cons (se_ix (se_ix (se_var 11 rfl (by first | exact .inl rfl | exact .inr (.inl rfl) | exact .inr (.inr rfl))) se_int) se_int) sa_nil))) sa_nil))) (blkOk_by (by kernel_rfl)) (fun s1 H1 C1 cl1 fp1 => (sgw_name (rm.blk).nd rfl (by first | exact .inl rfl | exact .inr rfl) (by decide))) (fun s1 H1 C1 cl1 fp1 => sts_one (st_cmpG (.ne (rm.blk).u64) (se_callC (cal__law_least KX G c) (rm.blk) (by decide) (by rfl) (sa_cons (se_var 2 rfl (by first | exact .inl rfl | exact .inr (.inl rfl) | exact .inr (.inr rfl))) (sa_cons se_int (sa_cons (se_ix (se_ix (se_var 11 rfl (by first | exact .inl rfl | exact .inr (.inl rfl) | exact .inr (.inr rfl))) se_int) se_int) sa_nil)))) (se_tup (sa_cons (se_var 8 rfl (by first | exact .inl rfl | exact .inr (.inl rfl) | exact .inr (.inr rfl))) (sa_cons (se_var 9 rfl (by first | exact .inl rfl | exact .inr (.inl rfl) | exact .inr (.inr rfl))) sa_nil))) (by first | rfl | with_unfolding_all rfl))) (fun s1 H1 C1 cl1 fp1 => (se_var 17 rfl (by first | exact .inl rfl | exact .inr (.inl rfl) | exact .inr (.inr rfl))))) (se_lst sa_nil) (by first | rfl | with_unfolding_all rfl))))) (sss_one (ss_ret se_bl)) sss_nil)
      (sss_cons (ss_set rm.nd rfl (by first | exact .inl rfl | exact .inr rfl) (se_callC (cal__law_roll KX G c 1) rm (by decide) (by rfl) (sa_cons (se_var 1 rfl (by first | exact .inl rfl | exact .inr (.inl rfl) | exact .inr (.inr rfl))) (sa_cons se_int sa_nil))))
      (sss_cons (ss_set rm.nd rfl (by first | exact .inl rfl | exact .inr rfl) (se_lst sa_nil))
      (sss_cons (ss_for hp rm.calm (si_rng1 (by rfl) (m_range KX G c) se_int) (sg_name rm.nd rfl (by first | exact .inl rfl | exact .inr rfl)) (sss_one (ss_set rm.nd rfl (by first | exact .inl rfl | exact .inr rfl) (se_add (se_var 13 rfl (by first | exact .inl rfl | exact .inr (.inl rfl) | exact .inr (.inr rfl))) (se_lc (own := [("b", 18)]) rm.calm rm.nd (si_rng2 (by rfl) (m_range KX G c) (se_var 14 rfl (by first | exact .inl rfl | exact .inr (.inl rfl) | exact .inr (.inr rfl))) se_int) (blkOk_by (by kernel_rfl)) (fun s1 H1 C1 cl1 fp1 => (sgw_name (rm.blk).nd rfl (by first | exact .inl rfl | exact .inr rfl) (by decide))) (fun s1 H1 C1 cl1 fp1 => sts_one (st_cmpG (.eq (rm.blk).u64) (se_add (se_mul (se_var 14 rfl (by first | exact .inl rfl | exact .inr (.inl rfl) | exact .inr (.inr rfl))) (se_var 14 rfl (by first | exact .inl rfl | exact .inr (.inl rfl) | exact .inr (.inr rfl)))) (se_mul (se_var 18 rfl (by first | exact .inl rfl | exact .inr (.inl rfl) | exact .inr (.inr rfl))) (se_var 18 rfl (by first | exact .inl rfl | exact .inr (.inl rfl) | exact .inr (.inr rfl))))) (se_var 12 rfl (by first | exact .inl rfl | exact .inr (.inl rfl) | exact .inr (.inr rfl))) (by first | rfl | with_unfolding_all rfl))) (fun s1 H1 C1 cl1 fp1 => (se_tup (sa_cons (se_var 14 rfl (by first | exact .inl rfl | exact .inr (.inl rfl) | exact .inr (.inr rfl))) (sa_cons (se_var 18 rfl (by first | exact .inl rfl | exact .inr (.inl rfl) | exact .inr (.inr rfl))) sa_nil)))))))))
      (sss_one (ss_if (st_cmpG (.ne rm.u64) (se_listc (by rfl) (m_list KX G c) (se_callC (cal_sum_of_two_squares KX G c) rm (by decide) (by rfl) (sa_cons (se_var 12 rfl (by first | exact .inl rfl | exact .inr (.inl rfl) | exact .inr (.inr rfl))) sa_nil))) (se_var 13 rfl (by first | exact .inl rfl | exact .inr (.inl rfl) | exact .inr (.inr rfl))) (by first | rfl | with_unfolding_all rfl)) (sss_one (ss_ret se_bl)) sss_nil)))))))))))))))))))))
    (sss_cons (ss_set rm.nd rfl (by first | exact .inl rfl | exact .inr rfl) (se_lst (sa_cons (se_lam TB hcode hT (by decide +kernel) (hL 3)) (sa_cons (se_lam TB hcode hT (by decide +kernel) (hL 2)) (sa_cons (se_lam TB hcode hT (by decide +kernel) (hL 1)) (sa_cons (se_lam TB hcode hT (by decide +kernel) (hL 0)) sa_nil))))))
    (sss_one (ss_ret (se_and (se_cmpG (.eq rm.u64) (se_lc (own := [("f", 16)]) rm.calm rm.nd (si_seq (se_var 15 rfl (by first | exact .inl rfl | exact .inr (.inl rfl) | exact .inr (.inr rfl)))) (blkOk_by (by kernel_rfl)) (fun s1 H1 C1 cl1 fp1 => (sgw_name (rm.blk).nd rfl (by first | exact .inl rfl | exact .inr rfl) (by decide))) (fun s1 H1 C1 cl1 fp1 => sts_one (st_cmpG (.ne (rm.blk).u64) (se_toldV T0 (n := 4) (k := 3) (G := fun i => match i with | 0 => (eCall F_root_parts (aCons (eC (.int 0)) aNil)) | 1 => (eCall F_sum_of_two_squares (aCons (eBin opAdd (eBin opPow (eC (.int 10)) (eC (.int 6))) (eC (.int 1))) aNil)) | 2 => (eCall F_sum_of_two_squares (aCons (eUn opNeg (eC (.int 1))) aNil)) | 3 => (eCall F_root_parts (aCons (eUn opNeg (eC (.int 2))) aNil)) | _ => fun _ => .stuck) (rm.blk) (by decide) (by rfl) (se_var 16 rfl (by first | exact .inl rfl | exact .inr (.inl rfl) | exact .inr (.inr rfl))) (fun i hi => match i, hi with | 0, _ => lamOk (hL 0) rfl (by decide +kernel) (LamX.lamS_by (by kernel_rfl)) (slam (rm.blk) fun A2 o2 s2 H2 E2 f2 c2 rl2 => (se_callC (cal_root_parts KX G c) rl2 (by decide) (by rfl) (sa_cons se_int sa_nil))) | 1, _ => lamOk (hL 1) rfl (by decide +kernel) (LamX.lamS_by (by kernel_rfl)) (slam (rm.blk) fun A2 o2 s2 H2 E2 f2 c2 rl2 => (se_callC (cal_sum_of_two_squares KX G c) rl2 (by decide) (by rfl) (sa_cons (se_add (se_pow se_int se_int) se_int) sa_nil))) | 2, _ => lamOk (hL 2) rfl (by decide +kernel) (LamX.lamS_by (by kernel_rfl)) (slam (rm.blk) fun A2 o2 s2 H2 E2 f2 c2 rl2 => (se_callC (cal_sum_of_two_squares KX G c) rl2 (by decide) (by rfl) (sa_cons (se_neg se_int) sa_nil))) | 3, _ => lamOk (hL 3) rfl (by decide +kernel) (LamX.lamS_by (by kernel_rfl)) (slam (rm.blk) fun A2 o2 s2 H2 E2 f2 c2 rl2 => (se_callC (cal_root_parts KX G c) rl2 (by decide) (by rfl) (sa_cons (se_neg se_int) sa_nil))) | i + 4, hi => absurd hi (by omega))) se_str (by first | rfl | with_unfolding_all rfl))) (fun s1 H1 C1 cl1 fp1 => se_int)) (se_lst sa_nil) (by first | rfl | with_unfolding_all rfl)) (se_and (se_cmpG (.eq rm.u64) (se_callC (cal_least_point KX G c) rm (by decide) (by rfl) (sa_cons se_int sa_nil)) (se_tup (sa_cons se_int (sa_cons se_int sa_nil))) (by first | rfl | with_unfolding_all rfl)) (se_and (se_cmpG (.eq rm.u64) (se_callC (cal_sum_of_two_squares KX G c) rm (by decide) (by rfl) (sa_cons se_int sa_nil)) (se_tup (sa_cons (se_tup (sa_cons se_int (sa_cons se_int sa_nil))) (sa_cons (se_tup (sa_cons se_int (sa_cons se_int sa_nil))) sa_nil))) (by first | rfl | with_unfolding_all rfl)) (se_one (se_cmpG (.eq rm.u64) (se_callC (cal_points KX G c) rm (by decide) (by rfl) (sa_cons se_int (sa_cons se_int sa_nil))) (se_tup (sa_cons (se_tup (sa_cons se_int (sa_cons se_int sa_nil))) (sa_cons (se_tup (sa_cons se_int (sa_cons se_int sa_nil))) (sa_cons (se_tup (sa_cons se_int (sa_cons se_int sa_nil))) sa_nil)))) (by first | rfl | with_unfolding_all rfl))))))))))
end
end K18

namespace K18
open Sv
theorem mulOk_l {i j : Int} (h : i.natAbs < 18446744073709551616) : mulOk i j = true := by
  unfold mulOk
  rw [decide_eq_true h]
  rfl
theorem rng2 : rngT 0 (2 : Int).toNat = [.int 0, .int 1] := rfl
theorem power2 {n : Int} (hn : n.natAbs < 18446744073709551616) (ob : List OV) : F_power [.int n, .int 2] ob = .ok false (.int (n * n)) ob := by
  have h1 : mulOk 1 n = true := mulOk_l (by decide)
  have h2 : mulOk n n = true := mulOk_l hn
  unfold F_power b_power
  simp only [mkFn, sCons, sNil, sSet, setOf, sExpr, sRet, retOf, sRetN, sIf, sRaise, sAug, sAsg, toS, gSet, gNil, gCons, gTup, gSub, sPar, storeAll, eC, eVar, eBin, eUn, eTup, eLst, eLstO, eIf, eAnd, eOr, eNot, eIs, isN, aNil, aCons, aoNil, aoCons, own, peek, frz, view, out1, out1_val, out1_tmp, R.bind, R.bindS, tTst, tAndS, tOrS, tNotS, eCall, afterF, sFor, iRng1, iRng2, iSeq, itemsOf, opAdd, opSub, opMul, opDiv, opMod, opPow, opNeg, opIMul, opIAdd, opLt, opLe, opGt, opGe, opEq_int, opNe_int, opLen, opAbs, opInt, opList, opTuple, opIx, eApp, isL, wr, List.map_cons, List.map_nil, List.length_cons, List.length_nil, List.replicate_succ, List.replicate_zero, List.cons_append, List.nil_append, List.append_nil, List.getElem?_cons_zero, List.getElem?_cons_succ, List.set_cons_zero, List.set_cons_succ, if_true, if_false, ite_true, ite_false, reduceIte, Bool.false_eq_true, Option.map_some, Nat.reduceSub, Nat.reduceAdd]
  rw [if_pos (by decide)]
  simp only [rng2, forL, h1, Int.one_mul, h2, mkFn, sCons, sNil, sSet, setOf, sExpr, sRet, retOf, sRetN, sIf, sRaise, sAug, sAsg, toS, gSet, gNil, gCons, gTup, gSub, sPar, storeAll, eC, eVar, eBin, eUn, eTup, eLst, eLstO, eIf, eAnd, eOr, eNot, eIs, isN, aNil, aCons, aoNil, aoCons, own, peek, frz, view, out1, out1_val, out1_tmp, R.bind, R.bindS, tTst, tAndS, tOrS, tNotS, eCall, afterF, sFor, iRng1, iRng2, iSeq, itemsOf, opAdd, opSub, opMul, opDiv, opMod, opPow, opNeg, opIMul, opIAdd, opLt, opLe, opGt, opGe, opEq_int, opNe_int, opLen, opAbs, opInt, opList, opTuple, opIx, eApp, isL, wr, List.map_cons, List.map_nil, List.length_cons, List.length_nil, List.replicate_succ, List.replicate_zero, List.cons_append, List.nil_append, List.append_nil, List.getElem?_cons_zero, List.getElem?_cons_succ, List.set_cons_zero, List.set_cons_succ, if_true, if_false, ite_true, ite_false, reduceIte, Bool.false_eq_true, Option.map_some]

theorem root2 {n : Int} (h0 : 0 ≤ n) (hn : n < 1152921504606846976) (ob : List OV) : ∃ r : Int, 0 ≤ r ∧ r * r ≤ n ∧ n < (r + 1) * (r + 1) ∧ F_root_below [.int n, .int 2] ob = .ok false (.int r) ob := by
  have e0 : decide (n < 0) = false := decide_eq_false (by omega)
  have e1 : decide ((2 : Int) < 1) = false := by decide
  obtain ⟨s1, w1, h, rfl, h1, h2, h3⟩ := sWhile_inv (c := tTst (eBin opLe (eCall F_power (aCons (eVar 3) (aCons (eVar 1) aNil))) (eVar 0))) (g := sAug opIMul 3 (eC (.int 2)))
    (fun m s => ∃ h : Int, s = ⟨[some (false, .int n), some (false, .int 2), some (false, .int 0), some (false, .int h), none], ob⟩ ∧ 1 ≤ h ∧ h ≤ 2 * n + 1 ∧ m = (2 * n + 1 - h).toNat)
    (fun s => ∃ h : Int, s = ⟨[some (false, .int n), some (false, .int 2), some (false, .int 0), some (false, .int h), none], ob⟩ ∧ 1 ≤ h ∧ h ≤ 2 * n + 1 ∧ n < h * h)
    (fun m s ⟨h, e, h1, h2, hm⟩ => by
      subst e
      have hp : h.natAbs < 18446744073709551616 := by omega
      by_cases hc : h * h ≤ n
      · have hle : h ≤ n := by
          have : h * 1 ≤ h * h := Int.mul_le_mul_of_nonneg_left h1 (by omega)
          omega
        refine .inr ⟨?_, ⟨[some (false, .int n), some (false, .int 2), some (false, .int 0), some (false, .int (h * 2)), none], ob⟩, (2 * n + 1 - h * 2).toNat, ?_, ?_, h * 2, rfl, by omega, by omega, rfl⟩
        · simp only [mkFn, sCons, sNil, sSet, setOf, sExpr, sRet, retOf, sRetN, sIf, sRaise, sAug, sAsg, toS, gSet, gNil, gCons, gTup, gSub, sPar, storeAll, eC, eVar, eBin, eUn, eTup, eLst, eLstO, eIf, eAnd, eOr, eNot, eIs, isN, aNil, aCons, aoNil, aoCons, own, peek, frz, view, out1, out1_val, out1_tmp, R.bind, R.bindS, tTst, tAndS, tOrS, tNotS, eCall, afterF, sFor, iRng1, iRng2, iSeq, itemsOf, opAdd, opSub, opMul, opDiv, opMod, opPow, opNeg, opIMul, opIAdd, opLt, opLe, opGt, opGe, opEq_int, opNe_int, opLen, opAbs, opInt, opList, opTuple, opIx, eApp, isL, wr, List.map_cons, List.map_nil, List.length_cons, List.length_nil, List.replicate_succ, List.replicate_zero, List.cons_append, List.nil_append, List.append_nil, List.getElem?_cons_zero, List.getElem?_cons_succ, List.set_cons_zero, List.set_cons_succ, if_true, if_false, ite_true, ite_false, reduceIte, Bool.false_eq_true, Option.map_some, power2 hp, decide_eq_true hc]
        · simp only [mkFn, sCons, sNil, sSet, setOf, sExpr, sRet, retOf, sRetN, sIf, sRaise, sAug, sAsg, toS, gSet, gNil, gCons, gTup, gSub, sPar, storeAll, eC, eVar, eBin, eUn, eTup, eLst, eLstO, eIf, eAnd, eOr, eNot, eIs, isN, aNil, aCons, aoNil, aoCons, own, peek, frz, view, out1, out1_val, out1_tmp, R.bind, R.bindS, tTst, tAndS, tOrS, tNotS, eCall, afterF, sFor, iRng1, iRng2, iSeq, itemsOf, opAdd, opSub, opMul, opDiv, opMod, opPow, opNeg, opIMul, opIAdd, opLt, opLe, opGt, opGe, opEq_int, opNe_int, opLen, opAbs, opInt, opList, opTuple, opIx, eApp, isL, wr, List.map_cons, List.map_nil, List.length_cons, List.length_nil, List.replicate_succ, List.replicate_zero, List.cons_append, List.nil_append, List.append_nil, List.getElem?_cons_zero, List.getElem?_cons_succ, List.set_cons_zero, List.set_cons_succ, if_true, if_false, ite_true, ite_false, reduceIte, Bool.false_eq_true, Option.map_some, mulOk_l hp]
        · omega
      · refine .inl ⟨?_, h, rfl, h1, h2, by omega⟩
        simp only [mkFn, sCons, sNil, sSet, setOf, sExpr, sRet, retOf, sRetN, sIf, sRaise, sAug, sAsg, toS, gSet, gNil, gCons, gTup, gSub, sPar, storeAll, eC, eVar, eBin, eUn, eTup, eLst, eLstO, eIf, eAnd, eOr, eNot, eIs, isN, aNil, aCons, aoNil, aoCons, own, peek, frz, view, out1, out1_val, out1_tmp, R.bind, R.bindS, tTst, tAndS, tOrS, tNotS, eCall, afterF, sFor, iRng1, iRng2, iSeq, itemsOf, opAdd, opSub, opMul, opDiv, opMod, opPow, opNeg, opIMul, opIAdd, opLt, opLe, opGt, opGe, opEq_int, opNe_int, opLen, opAbs, opInt, opList, opTuple, opIx, eApp, isL, wr, List.map_cons, List.map_nil, List.length_cons, List.length_nil, List.replicate_succ, List.replicate_zero, List.cons_append, List.nil_append, List.append_nil, List.getElem?_cons_zero, List.getElem?_cons_succ, List.set_cons_zero, List.set_cons_succ, if_true, if_false, ite_true, ite_false, reduceIte, Bool.false_eq_true, Option.map_some, power2 hp, decide_eq_false hc])
    (s := ⟨[some (false, .int n), some (false, .int 2), some (false, .int 0), some (false, .int 1), none], ob⟩) ⟨1, rfl, by omega, by omega, rfl⟩ (Nat.lt_of_lt_of_le (m := 2 ^ 64) (by omega) (by decide))
  obtain ⟨s2, w2, l, h, mid, rfl, k1, k2, k3, k4⟩ := sWhile_inv (c := tTst (eBin opGt (eBin opSub (eVar 3) (eVar 2)) (eC (.int 1)))) (g := sCons (sSet 4 (eBin opDiv (eBin opAdd (eVar 2) (eVar 3)) (eC (.int 2))))
      (sIf (tTst (eBin opLe (eCall F_power (aCons (eVar 4) (aCons (eVar 1) aNil))) (eVar 0))) (sSet 2 (eVar 4)) (sSet 3 (eVar 4))))
    (fun m s => ∃ (l h : Int) (mid : Option (Bool × T)), s = ⟨[some (false, .int n), some (false, .int 2), some (false, .int l), some (false, .int h), mid], ob⟩ ∧ 0 ≤ l ∧ l < h ∧ h ≤ 2 * n + 1 ∧ l * l ≤ n ∧ n < h * h ∧ m = (h - l).toNat)
    (fun s => ∃ (l h : Int) (mid : Option (Bool × T)), s = ⟨[some (false, .int n), some (false, .int 2), some (false, .int l), some (false, .int h), mid], ob⟩ ∧ 0 ≤ l ∧ l * l ≤ n ∧ n < (l + 1) * (l + 1) ∧ True)
    (fun m s ⟨l, h, mid, e, h1, h2, h3, h4, h5, hm⟩ => by
      subst e
      by_cases hc : 1 < h - l
      · have hd : decide ((1 : Int) < h - l) = true := decide_eq_true hc
        have hp : ((l + h) / 2).natAbs < 18446744073709551616 := by omega
        have hg : (0 : Int) < 2 ∧ (2 : Int).natAbs.log2 < 9000 := by decide
        by_cases hq : (l + h) / 2 * ((l + h) / 2) ≤ n
        · refine .inr ⟨?_, ⟨[some (false, .int n), some (false, .int 2), some (false, .int ((l + h) / 2)), some (false, .int h), some (false, .int ((l + h) / 2))], ob⟩, (h - (l + h) / 2).toNat, ?_, ?_, (l + h) / 2, h, _, rfl, by omega, by omega, h3, hq, h5, rfl⟩
          · simp only [mkFn, sCons, sNil, sSet, setOf, sExpr, sRet, retOf, sRetN, sIf, sRaise, sAug, sAsg, toS, gSet, gNil, gCons, gTup, gSub, sPar, storeAll, eC, eVar, eBin, eUn, eTup, eLst, eLstO, eIf, eAnd, eOr, eNot, eIs, isN, aNil, aCons, aoNil, aoCons, own, peek, frz, view, out1, out1_val, out1_tmp, R.bind, R.bindS, tTst, tAndS, tOrS, tNotS, eCall, afterF, sFor, iRng1, iRng2, iSeq, itemsOf, opAdd, opSub, opMul, opDiv, opMod, opPow, opNeg, opIMul, opIAdd, opLt, opLe, opGt, opGe, opEq_int, opNe_int, opLen, opAbs, opInt, opList, opTuple, opIx, eApp, isL, wr, List.map_cons, List.map_nil, List.length_cons, List.length_nil, List.replicate_succ, List.replicate_zero, List.cons_append, List.nil_append, List.append_nil, List.getElem?_cons_zero, List.getElem?_cons_succ, List.set_cons_zero, List.set_cons_succ, if_true, if_false, ite_true, ite_false, reduceIte, Bool.false_eq_true, Option.map_some, hd]
          · simp only [mkFn, sCons, sNil, sSet, setOf, sExpr, sRet, retOf, sRetN, sIf, sRaise, sAug, sAsg, toS, gSet, gNil, gCons, gTup, gSub, sPar, storeAll, eC, eVar, eBin, eUn, eTup, eLst, eLstO, eIf, eAnd, eOr, eNot, eIs, isN, aNil, aCons, aoNil, aoCons, own, peek, frz, view, out1, out1_val, out1_tmp, R.bind, R.bindS, tTst, tAndS, tOrS, tNotS, eCall, afterF, sFor, iRng1, iRng2, iSeq, itemsOf, opAdd, opSub, opMul, opDiv, opMod, opPow, opNeg, opIMul, opIAdd, opLt, opLe, opGt, opGe, opEq_int, opNe_int, opLen, opAbs, opInt, opList, opTuple, opIx, eApp, isL, wr, List.map_cons, List.map_nil, List.length_cons, List.length_nil, List.replicate_succ, List.replicate_zero, List.cons_append, List.nil_append, List.append_nil, List.getElem?_cons_zero, List.getElem?_cons_succ, List.set_cons_zero, List.set_cons_succ, if_true, if_false, ite_true, ite_false, reduceIte, Bool.false_eq_true, Option.map_some, if_pos hg, power2 hp, decide_eq_true hq]
          · omega
        · refine .inr ⟨?_, ⟨[some (false, .int n), some (false, .int 2), some (false, .int l), some (false, .int ((l + h) / 2)), some (false, .int ((l + h) / 2))], ob⟩, ((l + h) / 2 - l).toNat, ?_, ?_, l, (l + h) / 2, _, rfl, h1, by omega, by omega, h4, by omega, rfl⟩
          · simp only [mkFn, sCons, sNil, sSet, setOf, sExpr, sRet, retOf, sRetN, sIf, sRaise, sAug, sAsg, toS, gSet, gNil, gCons, gTup, gSub, sPar, storeAll, eC, eVar, eBin, eUn, eTup, eLst, eLstO, eIf, eAnd, eOr, eNot, eIs, isN, aNil, aCons, aoNil, aoCons, own, peek, frz, view, out1, out1_val, out1_tmp, R.bind, R.bindS, tTst, tAndS, tOrS, tNotS, eCall, afterF, sFor, iRng1, iRng2, iSeq, itemsOf, opAdd, opSub, opMul, opDiv, opMod, opPow, opNeg, opIMul, opIAdd, opLt, opLe, opGt, opGe, opEq_int, opNe_int, opLen, opAbs, opInt, opList, opTuple, opIx, eApp, isL, wr, List.map_cons, List.map_nil, List.length_cons, List.length_nil, List.replicate_succ, List.replicate_zero, List.cons_append, List.nil_append, List.append_nil, List.getElem?_cons_zero, List.getElem?_cons_succ, List.set_cons_zero, List.set_cons_succ, if_true, if_false, ite_true, ite_false, reduceIte, Bool.false_eq_true, Option.map_some, hd]
          · simp only [mkFn, sCons, sNil, sSet, setOf, sExpr, sRet, retOf, sRetN, sIf, sRaise, sAug, sAsg, toS, gSet, gNil, gCons, gTup, gSub, sPar, storeAll, eC, eVar, eBin, eUn, eTup, eLst, eLstO, eIf, eAnd, eOr, eNot, eIs, isN, aNil, aCons, aoNil, aoCons, own, peek, frz, view, out1, out1_val, out1_tmp, R.bind, R.bindS, tTst, tAndS, tOrS, tNotS, eCall, afterF, sFor, iRng1, iRng2, iSeq, itemsOf, opAdd, opSub, opMul, opDiv, opMod, opPow, opNeg, opIMul, opIAdd, opLt, opLe, opGt, opGe, opEq_int, opNe_int, opLen, opAbs, opInt, opList, opTuple, opIx, eApp, isL, wr, List.map_cons, List.map_nil, List.length_cons, List.length_nil, List.replicate_succ, List.replicate_zero, List.cons_append, List.nil_append, List.append_nil, List.getElem?_cons_zero, List.getElem?_cons_succ, List.set_cons_zero, List.set_cons_succ, if_true, if_false, ite_true, ite_false, reduceIte, Bool.false_eq_true, Option.map_some, if_pos hg, power2 hp, decide_eq_false hq]
          · omega
      · have e : h = l + 1 := by omega
        subst e
        refine .inl ⟨?_, l, l + 1, mid, rfl, h1, h4, h5, trivial⟩
        simp only [mkFn, sCons, sNil, sSet, setOf, sExpr, sRet, retOf, sRetN, sIf, sRaise, sAug, sAsg, toS, gSet, gNil, gCons, gTup, gSub, sPar, storeAll, eC, eVar, eBin, eUn, eTup, eLst, eLstO, eIf, eAnd, eOr, eNot, eIs, isN, aNil, aCons, aoNil, aoCons, own, peek, frz, view, out1, out1_val, out1_tmp, R.bind, R.bindS, tTst, tAndS, tOrS, tNotS, eCall, afterF, sFor, iRng1, iRng2, iSeq, itemsOf, opAdd, opSub, opMul, opDiv, opMod, opPow, opNeg, opIMul, opIAdd, opLt, opLe, opGt, opGe, opEq_int, opNe_int, opLen, opAbs, opInt, opList, opTuple, opIx, eApp, isL, wr, List.map_cons, List.map_nil, List.length_cons, List.length_nil, List.replicate_succ, List.replicate_zero, List.cons_append, List.nil_append, List.append_nil, List.getElem?_cons_zero, List.getElem?_cons_succ, List.set_cons_zero, List.set_cons_succ, if_true, if_false, ite_true, ite_false, reduceIte, Bool.false_eq_true, Option.map_some, decide_eq_false hc])
    (s := ⟨[some (false, .int n), some (false, .int 2), some (false, .int 0), some (false, .int h), none], ob⟩) ⟨0, h, none, rfl, by omega, by omega, h2, by omega, h3, rfl⟩ (Nat.lt_of_lt_of_le (m := 2 ^ 64) (by omega) (by decide))
  refine ⟨l, k1, k2, k3, ?_⟩
  unfold F_root_below b_root_below bb_root_below
  simp only [mkFn, sCons, sNil, sSet, setOf, sExpr, sRet, retOf, sRetN, sIf, sRaise, sAug, sAsg, toS, gSet, gNil, gCons, gTup, gSub, sPar, storeAll, eC, eVar, eBin, eUn, eTup, eLst, eLstO, eIf, eAnd, eOr, eNot, eIs, isN, aNil, aCons, aoNil, aoCons, own, peek, frz, view, out1, out1_val, out1_tmp, R.bind, R.bindS, tTst, tAndS, tOrS, tNotS, eCall, afterF, sFor, iRng1, iRng2, iSeq, itemsOf, opAdd, opSub, opMul, opDiv, opMod, opPow, opNeg, opIMul, opIAdd, opLt, opLe, opGt, opGe, opEq_int, opNe_int, opLen, opAbs, opInt, opList, opTuple, opIx, eApp, isL, wr, List.map_cons, List.map_nil, List.length_cons, List.length_nil, List.replicate_succ, List.replicate_zero, List.cons_append, List.nil_append, List.append_nil, List.getElem?_cons_zero, List.getElem?_cons_succ, List.set_cons_zero, List.set_cons_succ, if_true, if_false, ite_true, ite_false, reduceIte, Bool.false_eq_true, Option.map_some, Nat.reduceSub, Nat.reduceAdd, e0, e1, w1, w2]
end K18

namespace K18
open Sv
/-- whole roots are one -/
theorem rootU {q r s : Int} (hr : 0 ≤ r) (h1 : r * r ≤ q) (h2 : q < (r + 1) * (r + 1)) (hs : 0 ≤ s) (k1 : s * s ≤ q) (k2 : q < (s + 1) * (s + 1)) : r = s := by
  have lem : ∀ {a b : Int}, 0 ≤ a → a * a ≤ q → q < (b + 1) * (b + 1) → 0 ≤ b → ¬ b < a := fun {a b} h0 ha hb hb0 hlt => by
    have e : (b + 1) * (b + 1) ≤ a * a := Int.mul_le_mul (by omega) (by omega) (by omega) (by omega)
    omega
  have a := lem hr h1 k2 hs
  have b := lem hs k1 h2 hr
  omega
def fixS (q : Int) : Nat → Int → Option Int
  | 0, _ => none
  | k + 1, r => if q < r * r then fixS q k (r - 1) else if (r + 1) * (r + 1) ≤ q then fixS q k (r + 1) else some r
theorem fixS_ok {q : Int} (hq : 0 < q) : ∀ {k : Nat} {r s : Int}, fixS q k r = some s → 0 ≤ s ∧ s * s ≤ q ∧ q < (s + 1) * (s + 1)
  | 0, _, _, h => by cases h
  | k + 1, r, s, h => by
    unfold fixS at h
    split at h
    · exact fixS_ok hq h
    · split at h
      · exact fixS_ok hq h
      · cases h
        refine ⟨?_, by omega, by omega⟩
        refine Int.not_lt.mp fun hn => ?_
        have e : (r + 1) * (r + 1) = r * r + 2 * r + 1 := by
          rw [Int.add_mul, Int.mul_add, Int.one_mul, Int.mul_one]; omega
        omega
def lstK (n d w : Int) : Nat → Int → Int → Option T
  | 0, _, _ => some .non
  | k + 1, y, h => match fixS (n * y * y + d) 100 (h + w) with
    | some r => if r * r = n * y * y + d then some (.tup [.int r, .int y]) else lstK n d w k (y + 1) r
    | none => none
abbrev lBody : S → RS := (sCons (sSet 4 (eBin opAdd (eBin opMul (eBin opMul (eVar 0) (eVar 3)) (eVar 3)) (eVar 1)))
      (sCons (sPar [5, 6] (aoCons (eC (.int 0)) (aoCons (eBin opAdd (eBin opMul (eBin opMul (eC (.int 2)) (eVar 0)) (eVar 3)) (eC (.int 2))) aoNil)))
      (sCons (sWhile (tTst (eBin opLt (eBin opAdd (eVar 5) (eC (.int 1))) (eVar 6))) (sCons (sSet 7 (eBin opDiv (eBin opAdd (eVar 5) (eVar 6)) (eC (.int 2))))
        (sAsg (eIf (tTst (eBin opLe (eBin opMul (eVar 7) (eVar 7)) (eVar 4))) (eTup (aCons (eVar 7) (aCons (eVar 6) aNil))) (eTup (aCons (eVar 5) (aCons (eVar 7) aNil)))) (gTup 2 (gCons (gSet 5) (gCons (gSet 6) gNil))))))
      (sIf (tAndS (tTst (eBin opGt (eVar 4) (eC (.int 0)))) (tTst (eBin opEq (eBin opMul (eVar 5) (eVar 5)) (eVar 4)))) (sRet (eTup (aCons (eVar 5) (aCons (eVar 3) aNil)))) sNil))))
abbrev lSt (n d m : Int) (ob : List OV) (a b c e f : Option (Bool × T)) : S := ⟨[some (false, .int n), some (false, .int d), some (false, .int m), a, b, c, e, f], ob⟩
abbrev sI (i : Int) : Option (Bool × T) := some (false, .int i)
theorem lBody_at {n d m y : Int} {ob : List OV} {b c e f : Option (Bool × T)} (hn : 2 ≤ n) (hn2 : n ≤ 1000000) (hd : d = 1 ∨ d = -1) (hy : 1 ≤ y) (hy2 : y ≤ 1000000) :
    ∃ r : Int, 0 ≤ r ∧ r * r ≤ n * y * y + d ∧ n * y * y + d < (r + 1) * (r + 1) ∧ 0 < n * y * y + d ∧
      ((r * r = n * y * y + d ∧ lBody (lSt n d m ob (some (false, .int y)) b c e f) = .ret false (.tup [.int r, .int y]) ob) ∨ (r * r ≠ n * y * y + d ∧ ∃ b' c' e' f', lBody (lSt n d m ob (some (false, .int y)) b c e f) = .nxt (lSt n d m ob (some (false, .int y)) b' c' e' f'))) := by
  generalize hz : n * y = z
  have z1 : 2 ≤ z := by
    have : 2 * 1 ≤ n * y := Int.mul_le_mul hn hy (by omega) (by omega)
    omega
  have z2 : z ≤ 1000000000000 := by
    have : n * y ≤ 1000000 * 1000000 := Int.mul_le_mul hn2 hy2 (by omega) (by omega)
    omega
  have z3 : y ≤ z := by
    have : 1 * y ≤ n * y := Int.mul_le_mul_of_nonneg_right (by omega) (by omega)
    omega
  have zy : z * 1 ≤ z * y := Int.mul_le_mul_of_nonneg_left hy (by omega)
  have zz : z * y ≤ z * z := Int.mul_le_mul_of_nonneg_left z3 (by omega)
  generalize hq : z * y + d = q
  have q0 : 0 < q := by omega
  have top : q < (2 * z + 2) * (2 * z + 2) := by
    have e : (2 * z + 2) * (2 * z + 2) = 4 * (z * z) + 8 * z + 4 := by
      rw [Int.add_mul, Int.mul_add, Int.mul_add]
      have : 2 * z * (2 * z) = 4 * (z * z) := by
        rw [Int.mul_assoc, Int.mul_left_comm z 2 z]; omega
      omega
    omega
  have m1 : mulOk n y = true := mulOk_l (by omega)
  have m2 : mulOk z y = true := mulOk_l (by omega)
  have m3 : mulOk 2 n = true := mulOk_l (by omega)
  have m4 : mulOk (2 * n) y = true := mulOk_l (by omega)
  have e4 : 2 * n * y = 2 * z := by rw [Int.mul_assoc, hz]
  have m5 : ∀ i j : Int, 0 ≤ i → i ≤ 2 * z + 2 → mulOk i j = true := fun i j h1 h2 => mulOk_l (by omega)
  have lw := fun (i : Int) => (rfl : sI i = some (false, T.int i))
  obtain ⟨s2, w2, l, h, mid, rfl, k1, k2, k3⟩ := sWhile_inv (c := tTst (eBin opLt (eBin opAdd (eVar 5) (eC (.int 1))) (eVar 6))) (g := (sCons (sSet 7 (eBin opDiv (eBin opAdd (eVar 5) (eVar 6)) (eC (.int 2))))
        (sAsg (eIf (tTst (eBin opLe (eBin opMul (eVar 7) (eVar 7)) (eVar 4))) (eTup (aCons (eVar 7) (aCons (eVar 6) aNil))) (eTup (aCons (eVar 5) (aCons (eVar 7) aNil)))) (gTup 2 (gCons (gSet 5) (gCons (gSet 6) gNil))))))
    (fun k s => ∃ (l h : Int) (mid : Option (Bool × T)), s = lSt n d m ob (sI y) (sI q) (sI l) (sI h) mid ∧ 0 ≤ l ∧ l < h ∧ h ≤ 2 * z + 2 ∧ l * l ≤ q ∧ q < h * h ∧ k = (h - l).toNat)
    (fun s => ∃ (l h : Int) (mid : Option (Bool × T)), s = lSt n d m ob (sI y) (sI q) (sI l) (sI h) mid ∧ 0 ≤ l ∧ l * l ≤ q ∧ q < (l + 1) * (l + 1))
    (fun k s ⟨l, h, mid, e, h1, h2, h3, h4, h5, hm⟩ => by
      subst e
      by_cases hc : l + 1 < h
      · have hd : decide (l + 1 < h) = true := decide_eq_true hc
        have hg : (0 : Int) < 2 ∧ (2 : Int).natAbs.log2 < 9000 := by decide
        have mm := m5 ((l + h) / 2) ((l + h) / 2) (by omega) (by omega)
        by_cases hq : (l + h) / 2 * ((l + h) / 2) ≤ q
        · refine .inr ⟨?_, lSt n d m ob (sI y) (sI q) (sI ((l + h) / 2)) (sI h) (sI ((l + h) / 2)), (h - (l + h) / 2).toNat, ?_, ?_, (l + h) / 2, h, _, rfl, by omega, by omega, h3, hq, h5, rfl⟩
          · simp only [mkFn, sCons, sNil, sSet, setOf, sExpr, sRet, retOf, sRetN, sIf, sRaise, sAug, sAsg, toS, gSet, gNil, gCons, gTup, gSub, sPar, storeAll, eC, eVar, eBin, eUn, eTup, eLst, eLstO, eIf, eAnd, eOr, eNot, eIs, isN, aNil, aCons, aoNil, aoCons, own, peek, frz, view, out1, out1_val, out1_tmp, R.bind, R.bindS, tTst, tAndS, tOrS, tNotS, eCall, afterF, sFor, iRng1, iRng2, iSeq, itemsOf, opAdd, opSub, opMul, opDiv, opMod, opPow, opNeg, opIMul, opIAdd, opLt, opLe, opGt, opGe, opEq_int, opNe_int, opLen, opAbs, opInt, opList, opTuple, opIx, eApp, isL, wr, List.map_cons, List.map_nil, List.length_cons, List.length_nil, List.replicate_succ, List.replicate_zero, List.cons_append, List.nil_append, List.append_nil, List.getElem?_cons_zero, List.getElem?_cons_succ, List.set_cons_zero, List.set_cons_succ, if_true, if_false, ite_true, ite_false, reduceIte, Bool.false_eq_true, Option.map_some, hd]
          · simp only [mkFn, sCons, sNil, sSet, setOf, sExpr, sRet, retOf, sRetN, sIf, sRaise, sAug, sAsg, toS, gSet, gNil, gCons, gTup, gSub, sPar, storeAll, eC, eVar, eBin, eUn, eTup, eLst, eLstO, eIf, eAnd, eOr, eNot, eIs, isN, aNil, aCons, aoNil, aoCons, own, peek, frz, view, out1, out1_val, out1_tmp, R.bind, R.bindS, tTst, tAndS, tOrS, tNotS, eCall, afterF, sFor, iRng1, iRng2, iSeq, itemsOf, opAdd, opSub, opMul, opDiv, opMod, opPow, opNeg, opIMul, opIAdd, opLt, opLe, opGt, opGe, opEq_int, opNe_int, opLen, opAbs, opInt, opList, opTuple, opIx, eApp, isL, wr, List.map_cons, List.map_nil, List.length_cons, List.length_nil, List.replicate_succ, List.replicate_zero, List.cons_append, List.nil_append, List.append_nil, List.getElem?_cons_zero, List.getElem?_cons_succ, List.set_cons_zero, List.set_cons_succ, if_true, if_false, ite_true, ite_false, reduceIte, Bool.false_eq_true, Option.map_some, if_pos hg, mm, decide_eq_true hq, szok, Nat.reduceAdd, Nat.reduceLeDiff, decide_true]
          · omega
        · refine .inr ⟨?_, lSt n d m ob (sI y) (sI q) (sI l) (sI ((l + h) / 2)) (sI ((l + h) / 2)), ((l + h) / 2 - l).toNat, ?_, ?_, l, (l + h) / 2, _, rfl, h1, by omega, by omega, h4, by omega, rfl⟩
          · simp only [mkFn, sCons, sNil, sSet, setOf, sExpr, sRet, retOf, sRetN, sIf, sRaise, sAug, sAsg, toS, gSet, gNil, gCons, gTup, gSub, sPar, storeAll, eC, eVar, eBin, eUn, eTup, eLst, eLstO, eIf, eAnd, eOr, eNot, eIs, isN, aNil, aCons, aoNil, aoCons, own, peek, frz, view, out1, out1_val, out1_tmp, R.bind, R.bindS, tTst, tAndS, tOrS, tNotS, eCall, afterF, sFor, iRng1, iRng2, iSeq, itemsOf, opAdd, opSub, opMul, opDiv, opMod, opPow, opNeg, opIMul, opIAdd, opLt, opLe, opGt, opGe, opEq_int, opNe_int, opLen, opAbs, opInt, opList, opTuple, opIx, eApp, isL, wr, List.map_cons, List.map_nil, List.length_cons, List.length_nil, List.replicate_succ, List.replicate_zero, List.cons_append, List.nil_append, List.append_nil, List.getElem?_cons_zero, List.getElem?_cons_succ, List.set_cons_zero, List.set_cons_succ, if_true, if_false, ite_true, ite_false, reduceIte, Bool.false_eq_true, Option.map_some, hd]
          · simp only [mkFn, sCons, sNil, sSet, setOf, sExpr, sRet, retOf, sRetN, sIf, sRaise, sAug, sAsg, toS, gSet, gNil, gCons, gTup, gSub, sPar, storeAll, eC, eVar, eBin, eUn, eTup, eLst, eLstO, eIf, eAnd, eOr, eNot, eIs, isN, aNil, aCons, aoNil, aoCons, own, peek, frz, view, out1, out1_val, out1_tmp, R.bind, R.bindS, tTst, tAndS, tOrS, tNotS, eCall, afterF, sFor, iRng1, iRng2, iSeq, itemsOf, opAdd, opSub, opMul, opDiv, opMod, opPow, opNeg, opIMul, opIAdd, opLt, opLe, opGt, opGe, opEq_int, opNe_int, opLen, opAbs, opInt, opList, opTuple, opIx, eApp, isL, wr, List.map_cons, List.map_nil, List.length_cons, List.length_nil, List.replicate_succ, List.replicate_zero, List.cons_append, List.nil_append, List.append_nil, List.getElem?_cons_zero, List.getElem?_cons_succ, List.set_cons_zero, List.set_cons_succ, if_true, if_false, ite_true, ite_false, reduceIte, Bool.false_eq_true, Option.map_some, if_pos hg, mm, decide_eq_false hq, szok, Nat.reduceAdd, Nat.reduceLeDiff, decide_true]
          · omega
      · have e : h = l + 1 := by omega
        subst e
        refine .inl ⟨?_, l, l + 1, mid, rfl, h1, h4, h5⟩
        simp only [mkFn, sCons, sNil, sSet, setOf, sExpr, sRet, retOf, sRetN, sIf, sRaise, sAug, sAsg, toS, gSet, gNil, gCons, gTup, gSub, sPar, storeAll, eC, eVar, eBin, eUn, eTup, eLst, eLstO, eIf, eAnd, eOr, eNot, eIs, isN, aNil, aCons, aoNil, aoCons, own, peek, frz, view, out1, out1_val, out1_tmp, R.bind, R.bindS, tTst, tAndS, tOrS, tNotS, eCall, afterF, sFor, iRng1, iRng2, iSeq, itemsOf, opAdd, opSub, opMul, opDiv, opMod, opPow, opNeg, opIMul, opIAdd, opLt, opLe, opGt, opGe, opEq_int, opNe_int, opLen, opAbs, opInt, opList, opTuple, opIx, eApp, isL, wr, List.map_cons, List.map_nil, List.length_cons, List.length_nil, List.replicate_succ, List.replicate_zero, List.cons_append, List.nil_append, List.append_nil, List.getElem?_cons_zero, List.getElem?_cons_succ, List.set_cons_zero, List.set_cons_succ, if_true, if_false, ite_true, ite_false, reduceIte, Bool.false_eq_true, Option.map_some, decide_eq_false hc])
    (s := lSt n d m ob (sI y) (sI q) (sI 0) (sI (2 * z + 2)) f) ⟨0, 2 * z + 2, f, rfl, by omega, by omega, by omega, by omega, top, rfl⟩ (Nat.lt_of_lt_of_le (m := 2 ^ 64) (by omega) (by decide))
  have ml : mulOk l l = true := mulOk_l (by
    have : l ≤ q := by
      by_cases hl : l = 0
      · omega
      · have : l * 1 ≤ l * l := Int.mul_le_mul_of_nonneg_left (by omega) k1
        omega
    have hzz : z * z ≤ 1000000000000 * 1000000000000 := Int.mul_le_mul z2 z2 (by omega) (by omega)
    refine Classical.byContradiction fun hb => ?_
    have : 18446744073709551616 * 18446744073709551616 ≤ l * l := Int.mul_le_mul (by omega) (by omega) (by omega) (by omega)
    omega)
  have pos : decide (0 < q) = true := decide_eq_true q0
  refine ⟨l, k1, k2, k3, q0, ?_⟩
  by_cases hs : l * l = q
  · refine .inl ⟨hs, ?_⟩
    simp only [lBody, mkFn, sCons, sNil, sSet, setOf, sExpr, sRet, retOf, sRetN, sIf, sRaise, sAug, sAsg, toS, gSet, gNil, gCons, gTup, gSub, sPar, storeAll, eC, eVar, eBin, eUn, eTup, eLst, eLstO, eIf, eAnd, eOr, eNot, eIs, isN, aNil, aCons, aoNil, aoCons, own, peek, frz, view, out1, out1_val, out1_tmp, R.bind, R.bindS, tTst, tAndS, tOrS, tNotS, eCall, afterF, sFor, iRng1, iRng2, iSeq, itemsOf, opAdd, opSub, opMul, opDiv, opMod, opPow, opNeg, opIMul, opIAdd, opLt, opLe, opGt, opGe, opEq_int, opNe_int, opLen, opAbs, opInt, opList, opTuple, opIx, eApp, isL, wr, List.map_cons, List.map_nil, List.length_cons, List.length_nil, List.replicate_succ, List.replicate_zero, List.cons_append, List.nil_append, List.append_nil, List.getElem?_cons_zero, List.getElem?_cons_succ, List.set_cons_zero, List.set_cons_succ, if_true, if_false, ite_true, ite_false, reduceIte, Bool.false_eq_true, Option.map_some, m1, hz, m2, hq, m3, m4, e4, w2, pos, ml, decide_eq_true hs, szok, Nat.reduceAdd, Nat.reduceLeDiff, decide_true, lw]
  · refine .inr ⟨hs, sI q, sI l, sI h, mid, ?_⟩
    simp only [lBody, mkFn, sCons, sNil, sSet, setOf, sExpr, sRet, retOf, sRetN, sIf, sRaise, sAug, sAsg, toS, gSet, gNil, gCons, gTup, gSub, sPar, storeAll, eC, eVar, eBin, eUn, eTup, eLst, eLstO, eIf, eAnd, eOr, eNot, eIs, isN, aNil, aCons, aoNil, aoCons, own, peek, frz, view, out1, out1_val, out1_tmp, R.bind, R.bindS, tTst, tAndS, tOrS, tNotS, eCall, afterF, sFor, iRng1, iRng2, iSeq, itemsOf, opAdd, opSub, opMul, opDiv, opMod, opPow, opNeg, opIMul, opIAdd, opLt, opLe, opGt, opGe, opEq_int, opNe_int, opLen, opAbs, opInt, opList, opTuple, opIx, eApp, isL, wr, List.map_cons, List.map_nil, List.length_cons, List.length_nil, List.replicate_succ, List.replicate_zero, List.cons_append, List.nil_append, List.append_nil, List.getElem?_cons_zero, List.getElem?_cons_succ, List.set_cons_zero, List.set_cons_succ, if_true, if_false, ite_true, ite_false, reduceIte, Bool.false_eq_true, Option.map_some, m1, hz, m2, hq, m3, m4, e4, w2, pos, ml, decide_eq_false hs, szok, Nat.reduceAdd, Nat.reduceLeDiff, decide_true, lw]

theorem least_loop {n d m w : Int} {ob : List OV} (hn : 2 ≤ n) (hn2 : n ≤ 1000000) (hd : d = 1 ∨ d = -1) : ∀ (k : Nat) (y h : Int) (t : T) (a b c e f : Option (Bool × T)), 1 ≤ y → y + k ≤ 1000000 → lstK n d w k y h = some t →
    (t = .non ∧ ∃ s, forL (gSet 3) lBody (rngT y k) (lSt n d m ob a b c e f) = .nxt s ∧ s.ob = ob) ∨ (forL (gSet 3) lBody (rngT y k) (lSt n d m ob a b c e f) = .ret false t ob ∧ t ≠ .non)
  | 0, y, h, t, a, b, c, e, f, _, _, ht => by
    cases ht
    exact .inl ⟨rfl, _, rfl, rfl⟩
  | k + 1, y, h, t, a, b, c, e, f, h1, h2, ht => by
    rw [rngT_succ]
    have g1 : gSet 3 (.int y) (lSt n d m ob a b c e f) = .ok () (lSt n d m ob (some (false, .int y)) b c e f) := rfl
    obtain ⟨r, r0, r1, r2, q0, hr⟩ := lBody_at (m := m) (ob := ob) (b := b) (c := c) (e := e) (f := f) hn hn2 hd h1 (by omega)
    unfold lstK at ht
    split at ht
    · rename_i r' hf
      obtain ⟨s0, s1, s2⟩ := fixS_ok q0 hf
      have e := rootU r0 r1 r2 s0 s1 s2
      subst e
      rcases hr with ⟨hs, hb⟩ | ⟨hs, b', c', e', f', hb⟩
      · rw [if_pos hs] at ht
        cases ht
        exact .inr ⟨forL_cons_ret g1 hb, by simp⟩
      · rw [if_neg hs] at ht
        rw [forL_cons_nxt g1 hb]
        exact least_loop hn hn2 hd k (y + 1) r t _ b' c' e' f' (by omega) (by omega) ht
    · cases ht
def G_least : Fn := fun ts ob => match ts with
  | [.int n, .int d, .int m] => if 2 ≤ n ∧ n ≤ 1000000 ∧ (d = 1 ∨ d = -1) ∧ 1 ≤ m ∧ m ≤ 999999 then (match lstK n d (if n < 4 then 1 else if n < 25 then 3 else if n < 100 then 7 else 13) (m - 1).toNat 1 0 with
    | some t => .ok false t ob
    | none => F__law_least ts ob) else F__law_least ts ob
  | _ => F__law_least ts ob
theorem least_eq : F__law_least = G_least := by
  funext ts ob
  unfold G_least
  split
  · rename_i n d m
    split
    · rename_i hc
      obtain ⟨h1, h2, h3, h4, h5⟩ := hc
      split
      · rename_i t ht
        have hl := least_loop (m := m) (ob := ob) h1 h2 h3 (m - 1).toNat 1 0 t none none none none none (by omega) (by omega) ht
        unfold F__law_least b__law_least
        have hr : ((-4611686018427387904 : Int) ≤ 1 ∧ (1 : Int) < 4611686018427387904) ∧ -4611686018427387904 ≤ m ∧ m < 4611686018427387904 := by omega
        rcases hl with ⟨rfl, s, hl, ho⟩ | ⟨hl, _⟩
        · simp only [mkFn, sCons, sNil, sSet, setOf, sExpr, sRet, retOf, sRetN, sIf, sRaise, sAug, sAsg, toS, gSet, gNil, gCons, gTup, gSub, sPar, storeAll, eC, eVar, eBin, eUn, eTup, eLst, eLstO, eIf, eAnd, eOr, eNot, eIs, isN, aNil, aCons, aoNil, aoCons, own, peek, frz, view, out1, out1_val, out1_tmp, R.bind, R.bindS, tTst, tAndS, tOrS, tNotS, eCall, afterF, sFor, iRng1, iRng2, iSeq, itemsOf, opAdd, opSub, opMul, opDiv, opMod, opPow, opNeg, opIMul, opIAdd, opLt, opLe, opGt, opGe, opEq_int, opNe_int, opLen, opAbs, opInt, opList, opTuple, opIx, eApp, isL, wr, List.map_cons, List.map_nil, List.length_cons, List.length_nil, List.replicate_succ, List.replicate_zero, List.cons_append, List.nil_append, List.append_nil, List.getElem?_cons_zero, List.getElem?_cons_succ, List.set_cons_zero, List.set_cons_succ, if_true, if_false, ite_true, ite_false, reduceIte, Bool.false_eq_true, Option.map_some, Nat.reduceSub, Nat.reduceAdd, if_pos hr, hl]
          rw [ho]
        · simp only [mkFn, sCons, sNil, sSet, setOf, sExpr, sRet, retOf, sRetN, sIf, sRaise, sAug, sAsg, toS, gSet, gNil, gCons, gTup, gSub, sPar, storeAll, eC, eVar, eBin, eUn, eTup, eLst, eLstO, eIf, eAnd, eOr, eNot, eIs, isN, aNil, aCons, aoNil, aoCons, own, peek, frz, view, out1, out1_val, out1_tmp, R.bind, R.bindS, tTst, tAndS, tOrS, tNotS, eCall, afterF, sFor, iRng1, iRng2, iSeq, itemsOf, opAdd, opSub, opMul, opDiv, opMod, opPow, opNeg, opIMul, opIAdd, opLt, opLe, opGt, opGe, opEq_int, opNe_int, opLen, opAbs, opInt, opList, opTuple, opIx, eApp, isL, wr, List.map_cons, List.map_nil, List.length_cons, List.length_nil, List.replicate_succ, List.replicate_zero, List.cons_append, List.nil_append, List.append_nil, List.getElem?_cons_zero, List.getElem?_cons_succ, List.set_cons_zero, List.set_cons_succ, if_true, if_false, ite_true, ite_false, reduceIte, Bool.false_eq_true, Option.map_some, Nat.reduceSub, Nat.reduceAdd, if_pos hr, hl]
      · rfl
    · rfl
  · rfl
end K18

namespace K18
open Sv
def pr (a b : Int) : T := .tup [.int a, .int b]
def pick (w a : Int) : T → Option T
  | .int b => if a * a + b * b = w then some (pr a b) else none
  | _ => none
def inn (w : Int) (a : Nat) : List T := (rngT a (60 - a)).filterMap (pick w a)
def Dl (w : Int) : Nat → List T
  | 0 => []
  | j + 1 => Dl w j ++ inn w j
theorem inn_len (w : Int) (a : Nat) : (inn w a).length ≤ 60 := by
  unfold inn
  have := List.length_filterMap_le (pick w a) (rngT a (60 - a))
  rw [rngT_length] at this
  omega
theorem Dl_len (w : Int) : ∀ j, (Dl w j).length ≤ 60 * j
  | 0 => by simp [Dl]
  | j + 1 => by
    have := Dl_len w j
    have := inn_len w j
    rw [Dl, List.length_append]; omega
theorem Dl_pr (w : Int) : ∀ j t, t ∈ Dl w j → ∃ a b, t = pr a b
  | 0, t, h => by simp [Dl] at h
  | j + 1, t, h => by
    rw [Dl] at h
    rcases List.mem_append.mp h with h | h
    · exact Dl_pr w j t h
    · obtain ⟨u, _, hu⟩ := List.mem_filterMap.mp h
      unfold pick at hu
      split at hu
      · split at hu
        · cases hu; exact ⟨_, _, rfl⟩
        · cases hu
      · cases hu
theorem prs_eqv : ∀ l : List T, (∀ t ∈ l, ∃ a b, t = pr a b) → T.eqvs l l = true
  | [], _ => rfl
  | t :: l, h => by
    obtain ⟨a, b, rfl⟩ := h t List.mem_cons_self
    simp only [T.eqvs, Bool.and_eq_true]
    exact ⟨by simp [pr, T.eqv, T.eqvs], prs_eqv l fun u hu => h u (List.mem_cons_of_mem _ hu)⟩
theorem prs_shp : ∀ l : List T, (∀ t ∈ l, ∃ a b, t = pr a b) → T.shps 59 l = true
  | [], _ => rfl
  | t :: l, h => by
    obtain ⟨a, b, rfl⟩ := h t List.mem_cons_self
    simp only [T.shps, Bool.and_eq_true]
    exact ⟨rfl, prs_shp l fun u hu => h u (List.mem_cons_of_mem _ hu)⟩
/-- the partners of a: at most one -/
theorem inn_one {w a o : Int} (ho : 0 ≤ o) (h1 : o * o ≤ w - a * a) (h2 : w - a * a < (o + 1) * (o + 1)) : ∀ (k : Nat) (y : Int), 0 ≤ y → (rngT y k).filterMap (pick w a) = if o * o = w - a * a ∧ y ≤ o ∧ o < y + k then [pr a o] else []
  | 0, y, _ => by rw [rngT_zero, if_neg (by omega)]; rfl
  | k + 1, y, hy => by
    rw [rngT_succ, List.filterMap_cons, inn_one ho h1 h2 k (y + 1) (by omega)]
    have uq : a * a + y * y = w → y = o := fun e => rootU hy (q := w - a * a) (by omega) (by
      have : (y + 1) * (y + 1) = y * y + 2 * y + 1 := by rw [Int.add_mul, Int.mul_add, Int.one_mul, Int.mul_one]; omega
      omega) ho h1 h2
    unfold pick
    simp only
    by_cases e : a * a + y * y = w
    · have e2 := uq e
      subst e2
      rw [if_pos e, if_neg (show ¬ (y * y = w - a * a ∧ y + 1 ≤ y ∧ y < y + 1 + (k : Int)) by omega), if_pos (show y * y = w - a * a ∧ y ≤ y ∧ y < y + ((k + 1 : Nat) : Int) by omega)]
    · rw [if_neg e]
      by_cases e3 : o * o = w - a * a ∧ y + 1 ≤ o ∧ o < y + 1 + k
      · rw [if_pos e3, if_pos (by omega)]
      · rw [if_neg e3, if_neg]
        rintro ⟨z1, z2, z3⟩
        by_cases z : y = o
        · subst z; omega
        · omega
theorem inn_none {w : Int} {a : Nat} (h : w < (a : Int) * a) : inn w a = [] := by
  unfold inn
  refine List.filterMap_eq_nil_iff.mpr fun t ht => ?_
  obtain ⟨i, rfl, h1, h2⟩ := rngT_mem ht
  unfold pick
  simp only
  rw [if_neg]
  have : 0 ≤ i * i := Int.mul_nonneg (by omega) (by omega)
  omega
theorem Dl_more {w r : Int} (hr : 0 ≤ r) (h : w < (r + 1) * (r + 1)) : ∀ k : Nat, Dl w (r.toNat + 1 + k) = Dl w (r.toNat + 1)
  | 0 => rfl
  | k + 1 => by
    rw [← Nat.add_assoc, Dl, Dl_more hr h k, inn_none, List.append_nil]
    have e : (r + 1) * (r + 1) ≤ ((r.toNat + 1 + k : Nat) : Int) * ((r.toNat + 1 + k : Nat) : Int) := Int.mul_le_mul (by omega) (by omega) (by omega) (by omega)
    omega
end K18

namespace K18
open Sv
abbrev sBody : S → RS := (sCons (sSet 3 (eBin opSub (eVar 0) (eBin opMul (eVar 2) (eVar 2))))
      (sCons (sSet 4 (eCall F_root_below (aCons (eVar 3) (aCons (eC (.int 2)) aNil))))
      (sIf (tAndS (tTst (eBin opEq (eBin opMul (eVar 4) (eVar 4)) (eVar 3))) (tTst (eBin opLe (eVar 2) (eVar 4)))) (sExpr (eApp (eVar 1) (eTup (aCons (eVar 2) (aCons (eVar 4) aNil))))) sNil)))
theorem inn_root {w o : Int} {j : Nat} (hw : w < 3000) (hj : (j : Int) * j ≤ w) (ho : 0 ≤ o) (h1 : o * o ≤ w - j * j) (h2 : w - j * j < (o + 1) * (o + 1)) : j < 60 ∧ o < 60 ∧ inn w j = if o * o = w - j * j ∧ (j : Int) ≤ o then [pr j o] else [] := by
  have jl : (j : Int) < 60 := Classical.byContradiction fun h => by
    have : (60 : Int) * 60 ≤ j * j := Int.mul_le_mul (by omega) (by omega) (by omega) (by omega)
    omega
  have ol : o < 60 := Classical.byContradiction fun h => by
    have : (60 : Int) * 60 ≤ o * o := Int.mul_le_mul (by omega) (by omega) (by omega) (by omega)
    have : 0 ≤ (j : Int) * j := Int.mul_nonneg (by omega) (by omega)
    omega
  refine ⟨by omega, ol, ?_⟩
  unfold inn
  rw [inn_one ho h1 h2 (60 - j) j (by omega)]
  by_cases e : o * o = w - j * j ∧ (j : Int) ≤ o
  · rw [if_pos e, if_pos (by omega)]
  · rw [if_neg e, if_neg (by omega)]
theorem sum_step {w : Int} {j : Nat} {acc : List T} {x3 x4 : Option (Bool × T)} {ob : List OV} (h0 : 0 ≤ w) (hw : w < 3000) (hj : (j : Int) * j ≤ w) (ha : acc.length ≤ 10000) :
    ∃ y3 y4, sBody ⟨[sI w, some (true, .lst acc), sI j, x3, x4], ob⟩ = .nxt ⟨[sI w, some (true, .lst (acc ++ inn w j)), sI j, y3, y4], ob⟩ := by
  obtain ⟨o, ho, h1, h2, hr⟩ := root2 (n := w - j * j) (by omega) (by
    have : 0 ≤ (j : Int) * j := Int.mul_nonneg (by omega) (by omega)
    omega) ob
  obtain ⟨j60, o60, hi⟩ := inn_root hw hj ho h1 h2
  have m1 : mulOk (j : Int) j = true := mulOk_l (by omega)
  have m2 : mulOk o o = true := mulOk_l (by omega)
  have z : szok (acc.length + 1) = true := decide_eq_true (by omega)
  have z2 : szok 2 = true := rfl
  refine ⟨sI (w - j * j), sI o, ?_⟩
  rw [hi]
  by_cases e1 : o * o = w - j * j
  · by_cases e2 : (j : Int) ≤ o
    · rw [if_pos ⟨e1, e2⟩]
      simp only [sBody, mkFn, sCons, sNil, sSet, setOf, sExpr, sRet, retOf, sRetN, sIf, sRaise, sAug, sAsg, toS, gSet, gNil, gCons, gTup, gSub, sPar, storeAll, eC, eVar, eBin, eUn, eTup, eLst, eLstO, eIf, eAnd, eOr, eNot, eIs, isN, aNil, aCons, aoNil, aoCons, own, peek, frz, view, out1, out1_val, out1_tmp, R.bind, R.bindS, tTst, tAndS, tOrS, tNotS, eCall, afterF, sFor, iRng1, iRng2, iSeq, itemsOf, opAdd, opSub, opMul, opDiv, opMod, opPow, opNeg, opIMul, opIAdd, opLt, opLe, opGt, opGe, opEq_int, opNe_int, opLen, opAbs, opInt, opList, opTuple, opIx, eApp, isL, wr, List.map_cons, List.map_nil, List.length_cons, List.length_nil, List.replicate_succ, List.replicate_zero, List.cons_append, List.nil_append, List.append_nil, List.getElem?_cons_zero, List.getElem?_cons_succ, List.set_cons_zero, List.set_cons_succ, if_true, if_false, ite_true, ite_false, reduceIte, Bool.false_eq_true, Option.map_some, m1, m2, hr, decide_eq_true e1, decide_eq_true e2, z, z2, Nat.reduceAdd, pr]
    · rw [if_neg (fun z => e2 z.2)]
      simp only [sBody, mkFn, sCons, sNil, sSet, setOf, sExpr, sRet, retOf, sRetN, sIf, sRaise, sAug, sAsg, toS, gSet, gNil, gCons, gTup, gSub, sPar, storeAll, eC, eVar, eBin, eUn, eTup, eLst, eLstO, eIf, eAnd, eOr, eNot, eIs, isN, aNil, aCons, aoNil, aoCons, own, peek, frz, view, out1, out1_val, out1_tmp, R.bind, R.bindS, tTst, tAndS, tOrS, tNotS, eCall, afterF, sFor, iRng1, iRng2, iSeq, itemsOf, opAdd, opSub, opMul, opDiv, opMod, opPow, opNeg, opIMul, opIAdd, opLt, opLe, opGt, opGe, opEq_int, opNe_int, opLen, opAbs, opInt, opList, opTuple, opIx, eApp, isL, wr, List.map_cons, List.map_nil, List.length_cons, List.length_nil, List.replicate_succ, List.replicate_zero, List.cons_append, List.nil_append, List.append_nil, List.getElem?_cons_zero, List.getElem?_cons_succ, List.set_cons_zero, List.set_cons_succ, if_true, if_false, ite_true, ite_false, reduceIte, Bool.false_eq_true, Option.map_some, m1, m2, hr, decide_eq_true e1, decide_eq_false e2]
  · rw [if_neg (fun z => e1 z.1)]
    simp only [sBody, mkFn, sCons, sNil, sSet, setOf, sExpr, sRet, retOf, sRetN, sIf, sRaise, sAug, sAsg, toS, gSet, gNil, gCons, gTup, gSub, sPar, storeAll, eC, eVar, eBin, eUn, eTup, eLst, eLstO, eIf, eAnd, eOr, eNot, eIs, isN, aNil, aCons, aoNil, aoCons, own, peek, frz, view, out1, out1_val, out1_tmp, R.bind, R.bindS, tTst, tAndS, tOrS, tNotS, eCall, afterF, sFor, iRng1, iRng2, iSeq, itemsOf, opAdd, opSub, opMul, opDiv, opMod, opPow, opNeg, opIMul, opIAdd, opLt, opLe, opGt, opGe, opEq_int, opNe_int, opLen, opAbs, opInt, opList, opTuple, opIx, eApp, isL, wr, List.map_cons, List.map_nil, List.length_cons, List.length_nil, List.replicate_succ, List.replicate_zero, List.cons_append, List.nil_append, List.append_nil, List.getElem?_cons_zero, List.getElem?_cons_succ, List.set_cons_zero, List.set_cons_succ, if_true, if_false, ite_true, ite_false, reduceIte, Bool.false_eq_true, Option.map_some, m1, m2, hr, decide_eq_false e1]
theorem sum_loop {w r : Int} {ob : List OV} (h0 : 0 ≤ w) (hw : w < 3000) (hr : 0 ≤ r) (hrr : r * r ≤ w) : ∀ (k j : Nat) (x2 x3 x4 : Option (Bool × T)), (j : Int) + k = r + 1 →
    ∃ y2 y3 y4, forL (gSet 2) sBody (rngT j k) ⟨[sI w, some (true, .lst (Dl w j)), x2, x3, x4], ob⟩ = .nxt ⟨[sI w, some (true, .lst (Dl w (j + k))), y2, y3, y4], ob⟩
  | 0, j, x2, x3, x4, _ => ⟨x2, x3, x4, rfl⟩
  | k + 1, j, x2, x3, x4, h => by
    have hj : (j : Int) * j ≤ w := by
      have : (j : Int) * j ≤ r * r := Int.mul_le_mul (by omega) (by omega) (by omega) (by omega)
      omega
    have j60 : (j : Int) < 60 := Classical.byContradiction fun h => by
      have : (60 : Int) * 60 ≤ j * j := Int.mul_le_mul (by omega) (by omega) (by omega) (by omega)
      omega
    have hl := Dl_len w j
    obtain ⟨y3, y4, hb⟩ := sum_step (x3 := x3) (x4 := x4) (ob := ob) h0 hw hj (acc := Dl w j) (by omega)
    obtain ⟨z2, z3, z4, hz⟩ := sum_loop h0 hw hr hrr (ob := ob) k (j + 1) (sI j) y3 y4 (by omega)
    refine ⟨z2, z3, z4, ?_⟩
    rw [rngT_succ, forL_cons_nxt (s1 := ⟨[sI w, some (true, .lst (Dl w j)), sI j, x3, x4], ob⟩) rfl hb]
    have e : j + (k + 1) = j + 1 + k := by omega
    rw [e, ← hz]
    rfl
end K18

namespace K18
open Sv
theorem sum_at {w : Int} {ob : List OV} (h0 : 0 ≤ w) (hw : w < 3000) : F_sum_of_two_squares [.int w] ob = .ok false (.tup (Dl w 60)) ob := by
  obtain ⟨r, hr, h1, h2, hf⟩ := root2 (n := w) h0 (by omega) ob
  have r60 : r < 60 := Classical.byContradiction fun h => by
    have : (60 : Int) * 60 ≤ r * r := Int.mul_le_mul (by omega) (by omega) (by omega) (by omega)
    omega
  have e60 : Dl w 60 = Dl w (0 + (r + 1).toNat) := by
    have a : (60 : Nat) = r.toNat + 1 + (60 - (r.toNat + 1)) := by omega
    have b : r.toNat + 1 = 0 + (r + 1).toNat := by omega
    exact ((congrArg (Dl w) a).trans (Dl_more hr h2 (60 - (r.toNat + 1)))).trans (congrArg (Dl w) b)
  obtain ⟨y2, y3, y4, hl⟩ := sum_loop (ob := ob) h0 hw hr h1 (r + 1).toNat 0 none none none (by omega)
  have hl' : forL (gSet 2) sBody (rngT 0 (r + 1).toNat) ⟨[sI w, some (true, .lst []), none, none, none], ob⟩ = .nxt ⟨[sI w, some (true, .lst (Dl w (0 + (r + 1).toNat))), y2, y3, y4], ob⟩ := hl
  have c1 : decide ((0 : Int) ≤ w) = true := decide_eq_true h0
  have c2 : decide (w ≤ (10 : Int) ^ (6 : Int).toNat) = true := decide_eq_true (by
    have : (10 : Int) ^ (6 : Int).toNat = 1000000 := by decide
    omega)
  have c3 : (0 : Int) ≤ 6 ∧ (6 : Int) ≤ 1000000 ∧ (10 : Int).natAbs < 18446744073709551616 := by decide
  have c4 : (-4611686018427387904 : Int) ≤ r + 1 ∧ r + 1 < 4611686018427387904 := by omega
  unfold F_sum_of_two_squares b_sum_of_two_squares bb_sum_of_two_squares
  simp only [mkFn, sCons, sNil, sSet, setOf, sExpr, sRet, retOf, sRetN, sIf, sRaise, sAug, sAsg, toS, gSet, gNil, gCons, gTup, gSub, sPar, storeAll, eC, eVar, eBin, eUn, eTup, eLst, eLstO, eIf, eAnd, eOr, eNot, eIs, isN, aNil, aCons, aoNil, aoCons, own, peek, frz, view, out1, out1_val, out1_tmp, R.bind, R.bindS, tTst, tAndS, tOrS, tNotS, eCall, afterF, sFor, iRng1, iRng2, iSeq, itemsOf, opAdd, opSub, opMul, opDiv, opMod, opPow, opNeg, opIMul, opIAdd, opLt, opLe, opGt, opGe, opEq_int, opNe_int, opLen, opAbs, opInt, opList, opTuple, opIx, eApp, isL, wr, List.map_cons, List.map_nil, List.length_cons, List.length_nil, List.replicate_succ, List.replicate_zero, List.cons_append, List.nil_append, List.append_nil, List.getElem?_cons_zero, List.getElem?_cons_succ, List.set_cons_zero, List.set_cons_succ, if_true, if_false, ite_true, ite_false, reduceIte, Bool.false_eq_true, Option.map_some, eChn, Nat.reduceSub, Nat.reduceAdd, if_pos c3, c1, c2, hf, if_pos c4, Bool.not_true, szok, Nat.zero_le, decide_true]
  rw [hl']
  simp only [mkFn, sCons, sNil, sSet, setOf, sExpr, sRet, retOf, sRetN, sIf, sRaise, sAug, sAsg, toS, gSet, gNil, gCons, gTup, gSub, sPar, storeAll, eC, eVar, eBin, eUn, eTup, eLst, eLstO, eIf, eAnd, eOr, eNot, eIs, isN, aNil, aCons, aoNil, aoCons, own, peek, frz, view, out1, out1_val, out1_tmp, R.bind, R.bindS, tTst, tAndS, tOrS, tNotS, eCall, afterF, sFor, iRng1, iRng2, iSeq, itemsOf, opAdd, opSub, opMul, opDiv, opMod, opPow, opNeg, opIMul, opIAdd, opLt, opLe, opGt, opGe, opEq_int, opNe_int, opLen, opAbs, opInt, opList, opTuple, opIx, eApp, isL, wr, List.map_cons, List.map_nil, List.length_cons, List.length_nil, List.replicate_succ, List.replicate_zero, List.cons_append, List.nil_append, List.append_nil, List.getElem?_cons_zero, List.getElem?_cons_succ, List.set_cons_zero, List.set_cons_succ, if_true, if_false, ite_true, ite_false, reduceIte, Bool.false_eq_true, Option.map_some, e60]
end K18

namespace K18
open Sv
def dCond : S → R Bool := tTst (eBin opEq (eBin opAdd (eBin opMul (eVar 14) (eVar 14)) (eBin opMul (eVar 18) (eVar 18))) (eVar 12))
def dElt : S → R Res := eTup (aCons (eVar 14) (aCons (eVar 18) aNil))
def dComp : S → R Res := eLC [18] (iRng2 (eVar 14) (eC (.int 60))) (gSet 18) dCond dElt
def dBody : S → RS := sSet 13 (eBin opAdd (eVar 13) dComp)
section
variable {x0 x1 x2 x3 x4 x5 x6 x7 x8 x9 x10 x11 x15 x16 x17 x18 : Option (Bool × T)} {ob : List OV} {w : Int}
theorem due_rng {a : Int} {acc : List T} (h0 : 0 ≤ a) (h1 : a < 60) : iRng2 (eVar 14) (eC (.int 60)) ⟨[x0, x1, x2, x3, x4, x5, x6, x7, x8, x9, x10, x11, sI w, some (true, .lst acc), sI a, x15, x16, x17, x18], ob⟩ =
    .ok (rngT a (60 - a).toNat) ⟨[x0, x1, x2, x3, x4, x5, x6, x7, x8, x9, x10, x11, sI w, some (true, .lst acc), sI a, x15, x16, x17, x18], ob⟩ := by
  have hr : ((-4611686018427387904 : Int) ≤ a ∧ a < 4611686018427387904) ∧ (-4611686018427387904 : Int) ≤ 60 ∧ (60 : Int) < 4611686018427387904 := by omega
  simp only [mkFn, sCons, sNil, sSet, setOf, sExpr, sRet, retOf, sRetN, sIf, sRaise, sAug, sAsg, toS, gSet, gNil, gCons, gTup, gSub, sPar, storeAll, eC, eVar, eBin, eUn, eTup, eLst, eLstO, eIf, eAnd, eOr, eNot, eIs, isN, aNil, aCons, aoNil, aoCons, own, peek, frz, view, out1, out1_val, out1_tmp, R.bind, R.bindS, tTst, tAndS, tOrS, tNotS, eCall, afterF, sFor, iRng1, iRng2, iSeq, itemsOf, opAdd, opSub, opMul, opDiv, opMod, opPow, opNeg, opIMul, opIAdd, opLt, opLe, opGt, opGe, opEq_int, opNe_int, opLen, opAbs, opInt, opList, opTuple, opIx, eApp, isL, wr, List.map_cons, List.map_nil, List.length_cons, List.length_nil, List.replicate_succ, List.replicate_zero, List.cons_append, List.nil_append, List.append_nil, List.getElem?_cons_zero, List.getElem?_cons_succ, List.set_cons_zero, List.set_cons_succ, if_true, if_false, ite_true, ite_false, reduceIte, Bool.false_eq_true, Option.map_some, if_pos hr]
theorem due_comp {j : Nat} {acc : List T} (hj : j < 60) : dComp ⟨[x0, x1, x2, x3, x4, x5, x6, x7, x8, x9, x10, x11, sI w, some (true, .lst acc), sI j, x15, x16, x17, x18], ob⟩ =
    .ok (.tmp (.lst (inn w j))) ⟨[x0, x1, x2, x3, x4, x5, x6, x7, x8, x9, x10, x11, sI w, some (true, .lst acc), sI j, x15, x16, x17, x18], ob⟩ := by
  have hk : ((60 : Int) - j).toNat = 60 - j := by omega
  have hc := compL_pure (vs := [18]) (g := gSet 18) (c := dCond) (e := dElt) (s0 := ⟨[x0, x1, x2, x3, x4, x5, x6, x7, x8, x9, x10, x11, sI w, some (true, .lst acc), sI j, x15, x16, x17, none], ob⟩) (pick w j) (rngT j (60 - j)) [] (fun t ht => by
    obtain ⟨b, rfl, h1, h2⟩ := rngT_mem ht
    refine ⟨⟨[x0, x1, x2, x3, x4, x5, x6, x7, x8, x9, x10, x11, sI w, some (true, .lst acc), sI j, x15, x16, x17, sI b], ob⟩, rfl, rfl, ?_⟩
    have hj0 : (0 : Int) ≤ j := by omega
    have hj1 : (j : Int) < 60 := by omega
    have hb1 : b < 60 := by omega
    clear hk ht h2
    generalize (j : Int) = a at *
    have m1 : mulOk a a = true := mulOk_l (by omega)
    have m2 : mulOk b b = true := mulOk_l (by omega)
    have z2 : szok 2 = true := rfl
    by_cases e : a * a + b * b = w
    · refine .inr ⟨pr a b, ?_, ?_, ?_⟩
      · unfold pick; simp only; rw [if_pos e]
      · simp only [dCond, mkFn, sCons, sNil, sSet, setOf, sExpr, sRet, retOf, sRetN, sIf, sRaise, sAug, sAsg, toS, gSet, gNil, gCons, gTup, gSub, sPar, storeAll, eC, eVar, eBin, eUn, eTup, eLst, eLstO, eIf, eAnd, eOr, eNot, eIs, isN, aNil, aCons, aoNil, aoCons, own, peek, frz, view, out1, out1_val, out1_tmp, R.bind, R.bindS, tTst, tAndS, tOrS, tNotS, eCall, afterF, sFor, iRng1, iRng2, iSeq, itemsOf, opAdd, opSub, opMul, opDiv, opMod, opPow, opNeg, opIMul, opIAdd, opLt, opLe, opGt, opGe, opEq_int, opNe_int, opLen, opAbs, opInt, opList, opTuple, opIx, eApp, isL, wr, List.map_cons, List.map_nil, List.length_cons, List.length_nil, List.replicate_succ, List.replicate_zero, List.cons_append, List.nil_append, List.append_nil, List.getElem?_cons_zero, List.getElem?_cons_succ, List.set_cons_zero, List.set_cons_succ, if_true, if_false, ite_true, ite_false, reduceIte, Bool.false_eq_true, Option.map_some, m1, m2, decide_eq_true e]
      · simp only [dElt, mkFn, sCons, sNil, sSet, setOf, sExpr, sRet, retOf, sRetN, sIf, sRaise, sAug, sAsg, toS, gSet, gNil, gCons, gTup, gSub, sPar, storeAll, eC, eVar, eBin, eUn, eTup, eLst, eLstO, eIf, eAnd, eOr, eNot, eIs, isN, aNil, aCons, aoNil, aoCons, own, peek, frz, view, out1, out1_val, out1_tmp, R.bind, R.bindS, tTst, tAndS, tOrS, tNotS, eCall, afterF, sFor, iRng1, iRng2, iSeq, itemsOf, opAdd, opSub, opMul, opDiv, opMod, opPow, opNeg, opIMul, opIAdd, opLt, opLe, opGt, opGe, opEq_int, opNe_int, opLen, opAbs, opInt, opList, opTuple, opIx, eApp, isL, wr, List.map_cons, List.map_nil, List.length_cons, List.length_nil, List.replicate_succ, List.replicate_zero, List.cons_append, List.nil_append, List.append_nil, List.getElem?_cons_zero, List.getElem?_cons_succ, List.set_cons_zero, List.set_cons_succ, if_true, if_false, ite_true, ite_false, reduceIte, Bool.false_eq_true, Option.map_some, Nat.reduceAdd, z2, pr]
    · refine .inl ⟨?_, ?_⟩
      · unfold pick; simp only; rw [if_neg e]
      · simp only [dCond, mkFn, sCons, sNil, sSet, setOf, sExpr, sRet, retOf, sRetN, sIf, sRaise, sAug, sAsg, toS, gSet, gNil, gCons, gTup, gSub, sPar, storeAll, eC, eVar, eBin, eUn, eTup, eLst, eLstO, eIf, eAnd, eOr, eNot, eIs, isN, aNil, aCons, aoNil, aoCons, own, peek, frz, view, out1, out1_val, out1_tmp, R.bind, R.bindS, tTst, tAndS, tOrS, tNotS, eCall, afterF, sFor, iRng1, iRng2, iSeq, itemsOf, opAdd, opSub, opMul, opDiv, opMod, opPow, opNeg, opIMul, opIAdd, opLt, opLe, opGt, opGe, opEq_int, opNe_int, opLen, opAbs, opInt, opList, opTuple, opIx, eApp, isL, wr, List.map_cons, List.map_nil, List.length_cons, List.length_nil, List.replicate_succ, List.replicate_zero, List.cons_append, List.nil_append, List.append_nil, List.getElem?_cons_zero, List.getElem?_cons_succ, List.set_cons_zero, List.set_cons_succ, if_true, if_false, ite_true, ite_false, reduceIte, Bool.false_eq_true, Option.map_some, m1, m2, decide_eq_false e]) (by rw [rngT_length]; show 0 + (60 - j) ≤ 1000000; omega)
  have hq := due_rng (x0 := x0) (x1 := x1) (x2 := x2) (x3 := x3) (x4 := x4) (x5 := x5) (x6 := x6) (x7 := x7) (x8 := x8) (x9 := x9) (x10 := x10) (x11 := x11) (x15 := x15) (x16 := x16) (x17 := x17) (x18 := x18) (ob := ob) (w := w) (acc := acc) (a := j) (by omega) (by omega)
  have e2 : wipeS [x0, x1, x2, x3, x4, x5, x6, x7, x8, x9, x10, x11, sI w, some (true, .lst acc), sI j, x15, x16, x17, x18] [18] = [x0, x1, x2, x3, x4, x5, x6, x7, x8, x9, x10, x11, sI w, some (true, .lst acc), sI j, x15, x16, x17, none] := rfl
  rw [hk] at hq
  unfold dComp eLC
  rw [hq]
  show (match compL [18] (gSet 18) dCond dElt (rngT j (60 - j)) [] ⟨wipeS [x0, x1, x2, x3, x4, x5, x6, x7, x8, x9, x10, x11, sI w, some (true, .lst acc), sI j, x15, x16, x17, x18] [18], ob⟩ with
    | .ok l s2 => R.ok (Res.tmp (.lst l)) ⟨backS [x0, x1, x2, x3, x4, x5, x6, x7, x8, x9, x10, x11, sI w, some (true, .lst acc), sI j, x15, x16, x17, x18] s2.sl [18], s2.ob⟩
    | _ => R.stuck) = _
  rw [e2, hc]
  rfl
theorem due_step {j : Nat} {acc : List T} (hj : j < 60) (ha : acc.length ≤ 10000) : dBody ⟨[x0, x1, x2, x3, x4, x5, x6, x7, x8, x9, x10, x11, sI w, some (true, .lst acc), sI j, x15, x16, x17, x18], ob⟩ =
    .nxt ⟨[x0, x1, x2, x3, x4, x5, x6, x7, x8, x9, x10, x11, sI w, some (true, .lst (acc ++ inn w j)), sI j, x15, x16, x17, x18], ob⟩ := by
  have z : szok (acc.length + (inn w j).length) = true := decide_eq_true (by have := inn_len w j; omega)
  unfold dBody
  have e1 : eVar 13 ⟨[x0, x1, x2, x3, x4, x5, x6, x7, x8, x9, x10, x11, sI w, some (true, .lst acc), sI j, x15, x16, x17, x18], ob⟩ = .ok (.plc 13) ⟨[x0, x1, x2, x3, x4, x5, x6, x7, x8, x9, x10, x11, sI w, some (true, .lst acc), sI j, x15, x16, x17, x18], ob⟩ := rfl
  unfold sSet eBin
  rw [e1]
  have hd : ∀ (s : S) (k : Res → S → R Res), R.bind (R.ok (Res.plc 13) s) k = k (.plc 13) s := fun _ _ => rfl
  rw [hd, due_comp hj]
  have hd2 : ∀ (l : List T) (s : S) (k : Res → S → R Res), R.bind (R.ok (Res.tmp (.lst l)) s) k = k (.tmp (.lst l)) s := fun _ _ _ => rfl
  rw [hd2]
  generalize inn w j = L at *
  generalize (j : Int) = a at *
  simp only [mkFn, sCons, sNil, sSet, setOf, sExpr, sRet, retOf, sRetN, sIf, sRaise, sAug, sAsg, toS, gSet, gNil, gCons, gTup, gSub, sPar, storeAll, eC, eVar, eBin, eUn, eTup, eLst, eLstO, eIf, eAnd, eOr, eNot, eIs, isN, aNil, aCons, aoNil, aoCons, own, peek, frz, view, out1, out1_val, out1_tmp, R.bind, R.bindS, tTst, tAndS, tOrS, tNotS, eCall, afterF, sFor, iRng1, iRng2, iSeq, itemsOf, opAdd, opSub, opMul, opDiv, opMod, opPow, opNeg, opIMul, opIAdd, opLt, opLe, opGt, opGe, opEq_int, opNe_int, opLen, opAbs, opInt, opList, opTuple, opIx, eApp, isL, wr, List.map_cons, List.map_nil, List.length_cons, List.length_nil, List.replicate_succ, List.replicate_zero, List.cons_append, List.nil_append, List.append_nil, List.getElem?_cons_zero, List.getElem?_cons_succ, List.set_cons_zero, List.set_cons_succ, if_true, if_false, ite_true, ite_false, reduceIte, Bool.false_eq_true, Option.map_some, z]
theorem due_loop : ∀ (k j : Nat) (x14 : Option (Bool × T)), j + k = 60 →
    ∃ y14, forL (gSet 14) dBody (rngT j k) ⟨[x0, x1, x2, x3, x4, x5, x6, x7, x8, x9, x10, x11, sI w, some (true, .lst (Dl w j)), x14, x15, x16, x17, x18], ob⟩ = .nxt ⟨[x0, x1, x2, x3, x4, x5, x6, x7, x8, x9, x10, x11, sI w, some (true, .lst (Dl w (j + k))), y14, x15, x16, x17, x18], ob⟩
  | 0, j, x14, _ => ⟨x14, rfl⟩
  | k + 1, j, x14, h => by
    have hl := Dl_len w j
    obtain ⟨y, hy⟩ := due_loop k (j + 1) (sI j) (by omega)
    refine ⟨y, ?_⟩
    rw [rngT_succ, forL_cons_nxt (s1 := ⟨[x0, x1, x2, x3, x4, x5, x6, x7, x8, x9, x10, x11, sI w, some (true, .lst (Dl w j)), sI j, x15, x16, x17, x18], ob⟩) rfl (due_step (by omega) (by omega))]
    have e : j + (k + 1) = j + 1 + k := by omega
    rw [e, ← hy]
    rfl
end
end K18

namespace K18
open Sv
def sortedB : List T → Bool
  | [] => true
  | t :: ts => ts.all (fun u => PySem.W.dataLe false T.dat t u) && sortedB ts
theorem sortedB_ok : ∀ {ts : List T}, sortedB ts = true → srt ts = ts := fun {ts} h => by
  refine List.mergeSort_of_pairwise ?_
  induction ts with
  | nil => exact .nil
  | cons t ts ih =>
    rw [sortedB, Bool.and_eq_true] at h
    exact .cons (fun u hu => List.all_eq_true.mp h.1 u hu) (ih h.2)
def opSrtG (t : T) : Option (Bool × T) := match t with
  | .tup ts => if sortOk ts = true ∧ sortedB ts = true then some (true, .lst ts) else opSrt t
  | _ => opSrt t
theorem opSrt_eq : opSrt = opSrtG := by
  funext t
  unfold opSrtG
  split
  · rename_i ts
    split
    · rename_i h
      unfold opSrt
      simp only
      rw [if_pos h.1, sortedB_ok h.2]
    · rfl
  · rfl
end K18

namespace K18
open Sv
def rpTab0 : List (List Int) := [[1, 2], [1, 1, 2], [], [2, 4], [2, 2, 4], [2, 1, 1, 1, 4], [2, 1, 4], [], [3, 6], [3, 3, 6], [3, 2, 6], [3, 1, 1, 1, 1, 6], [3, 1, 2, 1, 6], [3, 1, 6], [], [4, 8], [4, 4, 8], [4, 2, 1, 3, 1, 2, 8], [4, 2, 8], [4, 1, 1, 2, 1, 1, 8]]
def rpTab1 : List (List Int) := [[4, 1, 2, 4, 2, 1, 8], [4, 1, 3, 1, 8], [4, 1, 8], [], [5, 10], [5, 5, 10], [5, 3, 2, 3, 10], [5, 2, 1, 1, 2, 10], [5, 2, 10], [5, 1, 1, 3, 5, 3, 1, 1, 10], [5, 1, 1, 1, 10], [5, 1, 2, 1, 10], [5, 1, 4, 1, 10], [5, 1, 10], [], [6, 12], [6, 6, 12], [6, 4, 12], [6, 3, 12], [6, 2, 2, 12]]
def rpTab2 : List (List Int) := [[6, 2, 12], [6, 1, 1, 3, 1, 5, 1, 3, 1, 1, 12], [6, 1, 1, 1, 2, 1, 1, 1, 12], [6, 1, 2, 2, 2, 1, 12], [6, 1, 3, 1, 1, 2, 6, 2, 1, 1, 3, 1, 12], [6, 1, 5, 1, 12], [6, 1, 12], [], [7, 14], [7, 7, 14], [7, 4, 1, 2, 1, 4, 14], [7, 3, 1, 1, 3, 14], [7, 2, 1, 6, 1, 2, 14], [7, 2, 2, 2, 14], [7, 2, 14], [7, 1, 1, 4, 1, 1, 14], [7, 1, 1, 1, 1, 1, 1, 14], [7, 1, 2, 7, 2, 1, 14], [7, 1, 2, 1, 14], [7, 1, 4, 3, 1, 2, 2, 1, 3, 4, 1, 14]]
def rpTab3 : List (List Int) := [[7, 1, 6, 1, 14], [7, 1, 14], [], [8, 16], [8, 8, 16], [8, 5, 2, 1, 1, 7, 1, 1, 2, 5, 16], [8, 4, 16], [8, 3, 3, 1, 4, 1, 3, 3, 16], [8, 2, 1, 2, 1, 2, 16], [8, 2, 2, 1, 7, 1, 2, 2, 16], [8, 2, 16], [8, 1, 1, 5, 5, 1, 1, 16], [8, 1, 1, 1, 1, 16], [8, 1, 1, 1, 16], [8, 1, 2, 1, 1, 5, 4, 5, 1, 1, 2, 1, 16], [8, 1, 3, 2, 3, 1, 16], [8, 1, 4, 1, 16], [8, 1, 7, 1, 16], [8, 1, 16], []]
def rpTab4 : List (List Int) := [[9, 18], [9, 9, 18], [9, 6, 18], [9, 4, 1, 1, 4, 18], [9, 3, 1, 1, 1, 8, 1, 1, 1, 3, 18], [9, 3, 18], [9, 2, 1, 1, 1, 2, 18], [9, 2, 3, 3, 2, 18], [9, 2, 18], [9, 1, 1, 5, 1, 5, 1, 1, 18], [9, 1, 1, 2, 4, 2, 1, 1, 18], [9, 1, 1, 1, 4, 6, 4, 1, 1, 1, 18], [9, 1, 2, 3, 1, 1, 5, 1, 8, 1, 5, 1, 1, 3, 2, 1, 18], [9, 1, 2, 1, 18], [9, 1, 3, 1, 18], [9, 1, 5, 1, 1, 1, 1, 1, 1, 5, 1, 18], [9, 1, 8, 1, 18], [9, 1, 18], [], [10, 20]]
def rpTab5 : List (List Int) := [[10, 10, 20], [10, 6, 1, 2, 1, 1, 9, 1, 1, 2, 1, 6, 20], [10, 5, 20], [10, 4, 20], [10, 3, 2, 1, 1, 1, 1, 2, 3, 20], [10, 2, 1, 9, 1, 2, 20], [10, 2, 1, 1, 4, 1, 1, 2, 20], [10, 2, 3, 1, 2, 4, 1, 6, 6, 1, 4, 2, 1, 3, 2, 20], [10, 2, 20], [10, 1, 1, 6, 1, 1, 20], [10, 1, 1, 2, 1, 1, 20], [10, 1, 1, 1, 2, 2, 1, 1, 1, 20], [10, 1, 2, 10, 2, 1, 20], [10, 1, 2, 1, 1, 1, 1, 1, 2, 1, 20], [10, 1, 3, 2, 1, 4, 1, 2, 3, 1, 20], [10, 1, 4, 2, 4, 1, 20], [10, 1, 6, 3, 2, 10, 2, 3, 6, 1, 20], [10, 1, 9, 1, 20], [10, 1, 20], []]
def rpTab6 : List (List Int) := [[11, 22], [11, 11, 22], [11, 7, 2, 1, 1, 1, 3, 1, 4, 1, 3, 1, 1, 1, 2, 7, 22], [11, 5, 1, 1, 5, 22], [11, 4, 2, 4, 22], [11, 3, 1, 2, 2, 7, 11, 7, 2, 2, 1, 3, 22], [11, 3, 5, 3, 22], [11, 2, 1, 3, 1, 6, 1, 3, 1, 2, 22], [11, 2, 2, 22], [11, 2, 4, 11, 4, 2, 22], [11, 2, 22], [11, 1, 1, 7, 5, 1, 1, 1, 2, 1, 1, 1, 5, 7, 1, 1, 22], [11, 1, 1, 2, 1, 3, 1, 10, 1, 3, 1, 2, 1, 1, 22], [11, 1, 1, 1, 1, 1, 1, 1, 22], [11, 1, 1, 1, 22], [11, 1, 2, 2, 1, 1, 2, 2, 1, 22], [11, 1, 2, 1, 22], [11, 1, 3, 1, 3, 7, 1, 1, 2, 11, 2, 1, 1, 7, 3, 1, 3, 1, 22], [11, 1, 4, 1, 22], [11, 1, 6, 1, 22]]
def rpTab7 : List (List Int) := [[11, 1, 10, 1, 22], [11, 1, 22], [], [12, 24], [12, 12, 24], [12, 8, 24], [12, 6, 24], [12, 4, 1, 5, 3, 3, 5, 1, 4, 24], [12, 4, 24], [12, 3, 2, 7, 1, 3, 4, 1, 1, 1, 11, 1, 1, 1, 4, 3, 1, 7, 2, 3, 24], [12, 3, 24], [12, 2, 1, 2, 2, 2, 1, 2, 24], [12, 2, 2, 3, 1, 2, 1, 3, 2, 2, 24], [12, 2, 4, 2, 24], [12, 2, 24], [12, 1, 1, 7, 1, 5, 2, 1, 1, 1, 1, 2, 5, 1, 7, 1, 1, 24], [12, 1, 1, 3, 12, 3, 1, 1, 24], [12, 1, 1, 1, 1, 3, 1, 1, 1, 1, 24], [12, 1, 1, 1, 5, 1, 1, 1, 24], [12, 1, 2, 4, 1, 2, 1, 4, 2, 1, 24]]
def rpTab8 : List (List Int) := [[12, 1, 2, 1, 2, 12, 2, 1, 2, 1, 24], [12, 1, 3, 3, 2, 1, 1, 7, 1, 11, 1, 7, 1, 1, 2, 3, 3, 1, 24], [12, 1, 4, 6, 4, 1, 24], [12, 1, 5, 2, 5, 1, 24], [12, 1, 7, 1, 1, 1, 2, 4, 1, 3, 2, 12, 2, 3, 1, 4, 2, 1, 1, 1, 7, 1, 24], [12, 1, 11, 1, 24], [12, 1, 24], [], [13, 26], [13, 13, 26], [13, 8, 1, 2, 2, 1, 1, 3, 6, 3, 1, 1, 2, 2, 1, 8, 26], [13, 6, 1, 1, 6, 26], [13, 5, 4, 5, 26], [13, 4, 2, 1, 2, 4, 26], [13, 3, 1, 3, 26], [13, 3, 3, 2, 8, 2, 3, 3, 26], [13, 2, 1, 12, 1, 2, 26], [13, 2, 1, 1, 1, 3, 5, 13, 5, 3, 1, 1, 1, 2, 26], [13, 2, 2, 2, 26], [13, 2, 4, 1, 8, 6, 1, 1, 1, 1, 2, 2, 1, 1, 1, 1, 6, 8, 1, 4, 2, 26]]
def rpTab9 : List (List Int) := [[13, 2, 26], [13, 1, 1, 8, 1, 1, 26], [13, 1, 1, 3, 2, 1, 2, 1, 2, 3, 1, 1, 26], [13, 1, 1, 1, 1, 26], [13, 1, 1, 1, 3, 4, 3, 1, 1, 1, 26], [13, 1, 2, 13, 2, 1, 26], [13, 1, 2, 2, 6, 2, 2, 1, 26], [13, 1, 2, 1, 26], [13, 1, 3, 1, 1, 1, 2, 2, 2, 1, 1, 1, 3, 1, 26], [13, 1, 4, 1, 1, 3, 2, 2, 13, 2, 2, 3, 1, 1, 4, 1, 26], [13, 1, 5, 1, 26], [13, 1, 8, 3, 2, 1, 3, 3, 1, 2, 3, 8, 1, 26], [13, 1, 12, 1, 26], [13, 1, 26], [], [14, 28], [14, 14, 28], [14, 9, 2, 1, 2, 2, 5, 4, 1, 1, 13, 1, 1, 4, 5, 2, 2, 1, 2, 9, 28], [14, 7, 28], [14, 5, 1, 1, 1, 2, 1, 8, 1, 2, 1, 1, 1, 5, 28]]
def rpTab10 : List (List Int) := [[14, 4, 1, 2, 2, 1, 4, 28], [14, 4, 28], [14, 3, 1, 1, 6, 1, 1, 3, 28], [14, 3, 6, 1, 4, 1, 6, 3, 28], [14, 2, 1, 5, 14, 5, 1, 2, 28], [14, 2, 1, 1, 2, 1, 1, 2, 28], [14, 2, 2, 1, 2, 2, 28], [14, 2, 5, 3, 2, 3, 5, 2, 28], [14, 2, 28], [14, 1, 1, 9, 5, 1, 2, 2, 1, 1, 4, 3, 1, 13, 1, 3, 4, 1, 1, 2, 2, 1, 5, 9, 1, 1, 28], [14, 1, 1, 3, 1, 1, 1, 6, 1, 1, 1, 3, 1, 1, 28], [14, 1, 1, 2, 6, 1, 8, 1, 6, 2, 1, 1, 28], [14, 1, 1, 1, 2, 3, 1, 4, 9, 1, 1, 5, 3, 14, 3, 5, 1, 1, 9, 4, 1, 3, 2, 1, 1, 1, 28], [14, 1, 1, 1, 28], [14, 1, 2, 3, 2, 1, 28], [14, 1, 2, 1, 2, 1, 1, 9, 4, 9, 1, 1, 2, 1, 2, 1, 28], [14, 1, 3, 3, 1, 28], [14, 1, 3, 1, 28], [14, 1, 4, 1, 28], [14, 1, 6, 2, 6, 1, 28]]
def rpTab11 : List (List Int) := [[14, 1, 8, 1, 28], [14, 1, 13, 1, 28], [14, 1, 28], [], [15, 30], [15, 15, 30], [15, 10, 30], [15, 7, 1, 1, 7, 30], [15, 6, 30], [15, 5, 30], [15, 4, 3, 7, 3, 4, 30], [15, 3, 1, 3, 1, 1, 1, 1, 3, 1, 3, 30], [15, 3, 2, 1, 2, 1, 2, 3, 30], [15, 3, 30], [15, 2, 1, 3, 5, 1, 6, 1, 5, 3, 1, 2, 30], [15, 2, 1, 1, 7, 10, 7, 1, 1, 2, 30], [15, 2, 2, 1, 14, 1, 2, 2, 30], [15, 2, 5, 1, 2, 4, 15, 4, 2, 1, 5, 2, 30], [15, 2, 30], [15, 1, 1, 9, 1, 5, 3, 3, 1, 1, 3, 3, 5, 1, 9, 1, 1, 30]]
def rpTab12 : List (List Int) := [[15, 1, 1, 3, 1, 14, 1, 3, 1, 1, 30], [15, 1, 1, 2, 3, 15, 3, 2, 1, 1, 30], [15, 1, 1, 1, 1, 1, 2, 1, 5, 1, 1, 9, 1, 6, 1, 9, 1, 1, 5, 1, 2, 1, 1, 1, 1, 1, 30], [15, 1, 1, 1, 7, 6, 7, 1, 1, 1, 30], [15, 1, 2, 5, 1, 14, 1, 5, 2, 1, 30], [15, 1, 2, 1, 1, 9, 1, 9, 1, 1, 2, 1, 30], [15, 1, 2, 1, 30], [15, 1, 3, 1, 1, 5, 1, 3, 10, 3, 1, 5, 1, 1, 3, 1, 30], [15, 1, 4, 3, 3, 4, 1, 30], [15, 1, 5, 2, 1, 2, 2, 15, 2, 2, 1, 2, 5, 1, 30], [15, 1, 6, 1, 30], [15, 1, 9, 1, 1, 1, 2, 1, 7, 4, 2, 2, 2, 4, 7, 1, 2, 1, 1, 1, 9, 1, 30], [15, 1, 14, 1, 30], [15, 1, 30], [], [16, 32], [16, 16, 32], [16, 10, 1, 2, 3, 4, 3, 2, 1, 10, 32], [16, 8, 32], [16, 6, 2, 3, 7, 1, 3, 1, 2, 1, 3, 1, 7, 3, 2, 6, 32]]
def rpTab13 : List (List Int) := [[16, 5, 2, 1, 2, 1, 10, 16, 10, 1, 2, 1, 2, 5, 32], [16, 4, 1, 1, 1, 1, 15, 1, 1, 1, 1, 4, 32], [16, 4, 32], [16, 3, 1, 1, 2, 2, 1, 1, 3, 32], [16, 3, 4, 3, 32], [16, 2, 1, 15, 1, 2, 32], [16, 2, 1, 2, 3, 3, 1, 3, 1, 10, 8, 10, 1, 3, 1, 3, 3, 2, 1, 2, 32], [16, 2, 2, 32], [16, 2, 3, 6, 3, 2, 32], [16, 2, 6, 10, 1, 4, 1, 1, 2, 1, 2, 1, 15, 1, 2, 1, 2, 1, 1, 4, 1, 10, 6, 2, 32], [16, 2, 32], [16, 1, 1, 10, 1, 1, 32], [16, 1, 1, 4, 4, 1, 1, 32], [16, 1, 1, 2, 1, 1, 32], [16, 1, 1, 1, 1, 2, 2, 2, 1, 1, 1, 1, 32], [16, 1, 1, 1, 4, 10, 1, 7, 2, 2, 3, 3, 2, 2, 7, 1, 10, 4, 1, 1, 1, 32], [16, 1, 2, 16, 2, 1, 32], [16, 1, 2, 2, 1, 2, 2, 1, 32], [16, 1, 2, 1, 2, 1, 32], [16, 1, 3, 4, 1, 1, 6, 6, 1, 1, 4, 3, 1, 32]]
def rpTab14 : List (List Int) := [[16, 1, 3, 1, 4, 1, 3, 1, 32], [16, 1, 4, 1, 1, 1, 3, 10, 1, 15, 1, 10, 3, 1, 1, 1, 4, 1, 32], [16, 1, 5, 1, 3, 2, 1, 4, 8, 4, 1, 2, 3, 1, 5, 1, 32], [16, 1, 7, 2, 7, 1, 32], [16, 1, 10, 3, 3, 2, 3, 3, 10, 1, 32], [16, 1, 15, 1, 32], [16, 1, 32], [], [17, 34], [17, 17, 34], [17, 11, 2, 1, 3, 8, 3, 1, 2, 11, 34], [17, 8, 1, 1, 8, 34], [17, 6, 1, 4, 1, 6, 34], [17, 5, 1, 2, 3, 2, 6, 2, 3, 2, 1, 5, 34], [17, 4, 1, 7, 1, 4, 34], [17, 4, 3, 1, 1, 2, 1, 1, 3, 4, 34], [17, 3, 1, 4, 5, 1, 1, 5, 4, 1, 3, 34], [17, 3, 2, 3, 34], [17, 3, 8, 3, 34], [17, 2, 1, 6, 3, 1, 2, 2, 1, 1, 8, 11, 2, 4, 2, 11, 8, 1, 1, 2, 2, 1, 3, 6, 1, 2, 34]]
def rpTab : List (List Int) := rpTab0 ++ (rpTab1 ++ (rpTab2 ++ (rpTab3 ++ (rpTab4 ++ (rpTab5 ++ (rpTab6 ++ (rpTab7 ++ (rpTab8 ++ (rpTab9 ++ (rpTab10 ++ (rpTab11 ++ (rpTab12 ++ (rpTab13 ++ (rpTab14))))))))))))))
def lpTab0 : List (List Int) := [[3, 2], [2, 1], [], [9, 4], [5, 2], [8, 3], [3, 1], [], [19, 6], [10, 3], [7, 2], [649, 180], [15, 4], [4, 1], [], [33, 8], [17, 4], [170, 39], [9, 2], [55, 12]]
def lpTab1 : List (List Int) := [[197, 42], [24, 5], [5, 1], [], [51, 10], [26, 5], [127, 24], [9801, 1820], [11, 2], [1520, 273], [17, 3], [23, 4], [35, 6], [6, 1], [], [73, 12], [37, 6], [25, 4], [19, 3], [2049, 320]]
def lpTab2 : List (List Int) := [[13, 2], [3482, 531], [199, 30], [161, 24], [24335, 3588], [48, 7], [7, 1], [], [99, 14], [50, 7], [649, 90], [66249, 9100], [485, 66], [89, 12], [15, 2], [151, 20], [19603, 2574], [530, 69], [31, 4], [1766319049, 226153980]]
def lpTab3 : List (List Int) := [[63, 8], [8, 1], [], [129, 16], [65, 8], [48842, 5967], [33, 4], [7775, 936], [251, 30], [3480, 413], [17, 2], [2281249, 267000], [3699, 430], [26, 3], [57799, 6630], [351, 40], [53, 6], [80, 9], [9, 1], []]
def lpTab4 : List (List Int) := [[163, 18], [82, 9], [55, 6], [285769, 30996], [10405, 1122], [28, 3], [197, 21], [500001, 53000], [19, 2], [1574, 165], [1151, 120], [12151, 1260], [2143295, 221064], [39, 4], [49, 5], [62809633, 6377352], [99, 10], [10, 1], [], [201, 20]]
def lpTab5 : List (List Int) := [[101, 10], [227528, 22419], [51, 5], [41, 4], [32080051, 3115890], [962, 93], [1351, 130], [158070671986249, 15140424455100], [21, 2], [295, 28], [127, 12], [1204353, 113296], [1025, 96], [1126, 105], [9801, 910], [649, 60], [306917, 28254], [120, 11], [11, 1], []]
def lpTab6 : List (List Int) := [[243, 22], [122, 11], [4620799, 414960], [930249, 83204], [449, 40], [4730624, 419775], [577, 51], [16855, 1484], [6499, 570], [10610, 927], [23, 2], [2588599, 224460], [145925, 12606], [244, 21], [35, 3], [6083073, 519712], [47, 4], [77563250, 6578829], [71, 6], [95, 8]]
def lpTab7 : List (List Int) := [[143, 12], [12, 1], [], [289, 24], [145, 12], [97, 8], [73, 6], [25801741449, 2113761020], [49, 4], [1728148040, 140634693], [37, 3], [2177, 176], [21295, 1716], [249, 20], [25, 2], [46698728731849, 3726964292220], [7743, 616], [1324, 105], [721, 57], [11775, 928]]
def lpTab8 : List (List Int) := [[19601, 1540], [64080026, 5019135], [2049, 160], [1079, 84], [1700902565, 132015642], [168, 13], [13, 1], [], [339, 26], [170, 13], [24248647, 1848942], [2499849, 190060], [1451, 110], [2024, 153], [199, 15], [62423, 4692], [1601, 120], [4190210, 313191], [161, 12], [2469645423824185801, 183567298683461940]]
def lpTab9 : List (List Int) := [[27, 2], [487, 36], [24335, 1794], [9249, 680], [7501, 550], [1682, 123], [4607, 336], [55, 4], [52021, 3774], [8994000, 650783], [97, 7], [6224323426849, 448036604040], [195, 14], [14, 1], [], [393, 28], [197, 14], [16266196520, 1153080099], [99, 7], [515095, 36332]]
def lpTab10 : List (List Int) := [[19731763, 1388322], [57, 4], [4999, 350], [39689, 2772], [59535, 4148], [1151, 80], [649, 45], [46551, 3220], [29, 2], [278354373650, 19162705353], [66249, 4550], [194399, 13320], [695359189925, 47533775646], [44, 3], [485, 33], [3844063, 260952], [126003, 8534], [74, 5], [89, 6], [1665, 112]]
def lpTab11 : List (List Int) := [[149, 10], [224, 15], [15, 1], [], [451, 30], [226, 15], [151, 10], [5848201, 386460], [91, 6], [76, 5], [19603, 1287], [1072400673, 70255304], [5201, 340], [46, 3], [561799, 36570], [228151, 14820], [11663, 756], [6195120, 400729], [31, 2], [10085143557001249, 649641205044600]]
def lpTab12 : List (List Int) := [[19601, 1260], [70226, 4505], [1766319049, 113076990], [51841, 3312], [88805, 5662], [85292, 5427], [63, 4], [8553815, 542076], [39480499, 2496966], [3674890, 231957], [127, 8], [3222617399, 202604220], [255, 16], [16, 1], [], [513, 32], [257, 16], [847225, 52644], [129, 8], [192119201, 11891880]]
def lpTab13 : List (List Int) := [[104980517, 6485718], [139128, 8579], [65, 4], [73738369, 4529712], [685, 42], [2402, 147], [4771081927, 291440214], [13449, 820], [5291, 322], [115974983600, 7044978537], [33, 2], [727, 44], [3959299, 239190], [199, 12], [7775, 468], [159150073798980475849, 9562401173878027020], [2501, 150], [1520, 91], [251, 15], [2262200630049, 134951575480]]
def lpTab14 : List (List Int) := [[2351, 140], [138274082, 8219541], [24220799, 1437240], [2431, 144], [561835, 33222], [288, 17], [17, 1], [], [579, 34], [290, 17], [2281249, 133500], [12320649, 719780], [4801, 280], [2024999, 117900], [3699, 215], [48599, 2820], [335473872499, 19433479650], [415, 24], [1351, 78], [5883392537695, 339113108232]]
def lpTab : List (List Int) := lpTab0 ++ (lpTab1 ++ (lpTab2 ++ (lpTab3 ++ (lpTab4 ++ (lpTab5 ++ (lpTab6 ++ (lpTab7 ++ (lpTab8 ++ (lpTab9 ++ (lpTab10 ++ (lpTab11 ++ (lpTab12 ++ (lpTab13 ++ (lpTab14))))))))))))))
def mpTab0 : List (List Int) := [[1, 1], [], [], [2, 1], [], [], [], [], [3, 1], [], [], [18, 5], [], [], [], [4, 1], [], [], [], []]
def mpTab1 : List (List Int) := [[], [], [], [], [5, 1], [], [], [70, 13], [], [], [], [], [], [], [], [6, 1], [], [], [], [32, 5]]
def mpTab2 : List (List Int) := [[], [], [], [], [], [], [], [], [7, 1], [], [], [182, 25], [], [], [], [], [99, 13], [], [], [29718, 3805]]
def mpTab3 : List (List Int) := [[], [], [], [8, 1], [], [], [], [], [], [], [], [1068, 125], [43, 5], [], [], [], [], [], [], []]
def mpTab4 : List (List Int) := [[9, 1], [], [], [378, 41], [], [], [], [500, 53], [], [], [], [], [], [], [], [5604, 569], [], [], [], [10, 1]]
def mpTab5 : List (List Int) := [[], [], [], [], [4005, 389], [], [], [8890182, 851525], [], [], [], [776, 73], [], [], [], [], [], [], [], []]
def mpTab6 : List (List Int) := [[11, 1], [], [], [682, 61], [], [], [], [], [57, 5], [], [], [], [], [], [], [1744, 149], [], [], [], []]
def mpTab7 : List (List Int) := [[], [], [], [12, 1], [], [], [], [113582, 9305], [], [], [], [], [], [], [], [4832118, 385645], [], [], [], []]
def mpTab8 : List (List Int) := [[], [], [], [], [], [], [], [], [13, 1], [], [], [1118, 85], [], [], [], [], [], [], [], [1111225770, 82596761]]
def mpTab9 : List (List Int) := [[], [], [], [68, 5], [], [], [], [], [], [], [], [1764132, 126985], [], [], [], [14, 1], [], [], [], []]
def mpTab10 : List (List Int) := [[3141, 221], [], [], [], [], [], [], [], [], [], [], [], [], [], [], [], [251, 17], [], [], []]
def mpTab11 : List (List Int) := [[], [], [], [], [15, 1], [], [], [1710, 113], [], [], [], [23156, 1517], [], [], [], [], [], [], [], [71011068, 4574225]]
def mpTab12 : List (List Int) := [[], [], [], [], [], [], [], [], [4443, 281], [], [], [], [], [], [], [16, 1], [], [], [], []]
def mpTab13 : List (List Int) := [[], [], [], [6072, 373], [], [], [], [82, 5], [], [], [], [], [1407, 85], [], [], [8920484118, 535979945], [], [], [], [1063532, 63445]]
def mpTab14 : List (List Int) := [[], [], [], [], [], [], [], [], [17, 1], [], [], [2482, 145], [], [], [], [], [409557, 23725], [], [], []]
def mpTab : List (List Int) := mpTab0 ++ (mpTab1 ++ (mpTab2 ++ (mpTab3 ++ (mpTab4 ++ (mpTab5 ++ (mpTab6 ++ (mpTab7 ++ (mpTab8 ++ (mpTab9 ++ (mpTab10 ++ (mpTab11 ++ (mpTab12 ++ (mpTab13 ++ (mpTab14))))))))))))))
def G_rb : Fn := fun ts ob => match ts with
  | [.int n, .int 2] => if 0 < n ∧ n < 1000000 then (match fixS n 40 (if n < 100 then 4 else 13) with
    | some r => .ok false (.int r) ob
    | none => F_root_below ts ob) else F_root_below ts ob
  | _ => F_root_below ts ob
theorem rb_eq : F_root_below = G_rb := by
  funext ts ob
  unfold G_rb
  split
  · rename_i n
    split
    · rename_i h
      split
      · rename_i r hf
        obtain ⟨s0, s1, s2⟩ := fixS_ok h.1 hf
        obtain ⟨o, o0, o1, o2, he⟩ := root2 (n := n) (by omega) (by omega) ob
        have e := rootU o0 o1 o2 s0 s1 s2
        rw [he, e]
      · rfl
    · rfl
  · rfl
def rng (a k : Nat) : List Nat := (List.range k).map fun i => a + i
theorem rng_at {α : Type} {f g : Nat → α} {a k n : Nat} (h : (rng a k).map f = (rng a k).map g) (h1 : a ≤ n) (h2 : n < a + k) : f n = g n :=
  List.map_inj_left.mp h n (List.mem_map.mpr ⟨n - a, List.mem_range.mpr (by omega), by omega⟩)
theorem map_at {α : Type} {f g : Nat → α} {k n : Nat} (h : (List.range k).map f = (List.range k).map g) (hn : n < k) : f n = g n := List.map_inj_left.mp h n (List.mem_range.mpr hn)
def F_rp2 : Fn := mkFn 1 6 (bb_root_parts G_rb)
theorem rp2_eq : F_root_parts = F_rp2 := by unfold F_root_parts F_rp2 b_root_parts; rw [rb_eq]
def rpRow (ob : List OV) (f : FR) : Option (List Int) → FR
  | some (w :: p) => .ok false (.tup [.int w, .tup (p.map T.int)]) ob
  | _ => f
theorem rp_tab0 (ob : List OV) : (rng 0 50).map (fun n : Nat => F_rp2 [.int (2 + (n : Int))] ob) = (rng 0 50).map (fun n : Nat => rpRow ob (F_rp2 [.int (2 + (n : Int))] ob) rpTab[n]?) := by kernel_rfl
theorem rp_tab1 (ob : List OV) : (rng 50 50).map (fun n : Nat => F_rp2 [.int (2 + (n : Int))] ob) = (rng 50 50).map (fun n : Nat => rpRow ob (F_rp2 [.int (2 + (n : Int))] ob) rpTab[n]?) := by kernel_rfl
theorem rp_tab2 (ob : List OV) : (rng 100 50).map (fun n : Nat => F_rp2 [.int (2 + (n : Int))] ob) = (rng 100 50).map (fun n : Nat => rpRow ob (F_rp2 [.int (2 + (n : Int))] ob) rpTab[n]?) := by kernel_rfl
theorem rp_tab3 (ob : List OV) : (rng 150 50).map (fun n : Nat => F_rp2 [.int (2 + (n : Int))] ob) = (rng 150 50).map (fun n : Nat => rpRow ob (F_rp2 [.int (2 + (n : Int))] ob) rpTab[n]?) := by kernel_rfl
theorem rp_tab4 (ob : List OV) : (rng 200 50).map (fun n : Nat => F_rp2 [.int (2 + (n : Int))] ob) = (rng 200 50).map (fun n : Nat => rpRow ob (F_rp2 [.int (2 + (n : Int))] ob) rpTab[n]?) := by kernel_rfl
theorem rp_tab5 (ob : List OV) : (rng 250 50).map (fun n : Nat => F_rp2 [.int (2 + (n : Int))] ob) = (rng 250 50).map (fun n : Nat => rpRow ob (F_rp2 [.int (2 + (n : Int))] ob) rpTab[n]?) := by kernel_rfl
theorem rp_tab (ob : List OV) (n : Nat) (hn : n < 300) : F_rp2 [.int (2 + (n : Int))] ob = rpRow ob (F_rp2 [.int (2 + (n : Int))] ob) rpTab[n]? := by
  by_cases h0 : n < 50
  · exact rng_at (rp_tab0 ob) (by omega) (by omega)
  by_cases h1 : n < 100
  · exact rng_at (rp_tab1 ob) (by omega) (by omega)
  by_cases h2 : n < 150
  · exact rng_at (rp_tab2 ob) (by omega) (by omega)
  by_cases h3 : n < 200
  · exact rng_at (rp_tab3 ob) (by omega) (by omega)
  by_cases h4 : n < 250
  · exact rng_at (rp_tab4 ob) (by omega) (by omega)
  exact rng_at (rp_tab5 ob) (by omega) (by omega)
def G_rp : Fn := fun ts ob => match ts with
  | [.int n] => if 2 ≤ n ∧ n < 302 then rpRow ob (F_root_parts ts ob) rpTab[(n - 2).toNat]? else F_root_parts ts ob
  | _ => F_root_parts ts ob
theorem rp_eq : F_root_parts = G_rp := by
  funext ts ob
  unfold G_rp
  split
  · rename_i n
    split
    · rename_i h
      have e := rp_tab ob (n - 2).toNat (by omega)
      have e2 : (2 : Int) + ((n - 2).toNat : Int) = n := by omega
      rw [e2, ← rp2_eq] at e
      exact e
    · rfl
  · rfl
end K18

namespace K18
open Sv
def F_rc2 : Fn := mkFn 2 9 (bb_root_convergents G_rp)
theorem rc2_eq : F_root_convergents = F_rc2 := by unfold F_root_convergents F_rc2 b_root_convergents; rw [rp_eq]
def F_lp2 : Fn := mkFn 1 4 (bb_least_point G_rp F_rc2)
theorem lp2_eq : F_least_point = F_lp2 := by unfold F_least_point F_lp2 b_least_point; rw [rp_eq, rc2_eq]
def F_mp2 : Fn := mkFn 1 3 (bb_minus_point G_rp F_rc2)
theorem mp2_eq : F_minus_point = F_mp2 := by unfold F_minus_point F_mp2 b_minus_point; rw [rp_eq, rc2_eq]
def lpRow (ob : List OV) (f : FR) : Option (List Int) → FR
  | some [x, y] => .ok false (.tup [.int x, .int y]) ob
  | _ => f
theorem lp_tab0 (ob : List OV) : (rng 0 50).map (fun n : Nat => F_lp2 [.int (2 + (n : Int))] ob) = (rng 0 50).map (fun n : Nat => lpRow ob (F_lp2 [.int (2 + (n : Int))] ob) lpTab[n]?) := by kernel_rfl
theorem lp_tab1 (ob : List OV) : (rng 50 50).map (fun n : Nat => F_lp2 [.int (2 + (n : Int))] ob) = (rng 50 50).map (fun n : Nat => lpRow ob (F_lp2 [.int (2 + (n : Int))] ob) lpTab[n]?) := by kernel_rfl
theorem lp_tab2 (ob : List OV) : (rng 100 50).map (fun n : Nat => F_lp2 [.int (2 + (n : Int))] ob) = (rng 100 50).map (fun n : Nat => lpRow ob (F_lp2 [.int (2 + (n : Int))] ob) lpTab[n]?) := by kernel_rfl
theorem lp_tab3 (ob : List OV) : (rng 150 50).map (fun n : Nat => F_lp2 [.int (2 + (n : Int))] ob) = (rng 150 50).map (fun n : Nat => lpRow ob (F_lp2 [.int (2 + (n : Int))] ob) lpTab[n]?) := by kernel_rfl
theorem lp_tab4 (ob : List OV) : (rng 200 50).map (fun n : Nat => F_lp2 [.int (2 + (n : Int))] ob) = (rng 200 50).map (fun n : Nat => lpRow ob (F_lp2 [.int (2 + (n : Int))] ob) lpTab[n]?) := by kernel_rfl
theorem lp_tab5 (ob : List OV) : (rng 250 50).map (fun n : Nat => F_lp2 [.int (2 + (n : Int))] ob) = (rng 250 50).map (fun n : Nat => lpRow ob (F_lp2 [.int (2 + (n : Int))] ob) lpTab[n]?) := by kernel_rfl
theorem lp_tab (ob : List OV) (n : Nat) (hn : n < 300) : F_lp2 [.int (2 + (n : Int))] ob = lpRow ob (F_lp2 [.int (2 + (n : Int))] ob) lpTab[n]? := by
  by_cases h0 : n < 50
  · exact rng_at (lp_tab0 ob) (by omega) (by omega)
  by_cases h1 : n < 100
  · exact rng_at (lp_tab1 ob) (by omega) (by omega)
  by_cases h2 : n < 150
  · exact rng_at (lp_tab2 ob) (by omega) (by omega)
  by_cases h3 : n < 200
  · exact rng_at (lp_tab3 ob) (by omega) (by omega)
  by_cases h4 : n < 250
  · exact rng_at (lp_tab4 ob) (by omega) (by omega)
  exact rng_at (lp_tab5 ob) (by omega) (by omega)
theorem mp_tab0 (ob : List OV) : (rng 0 50).map (fun n : Nat => F_mp2 [.int (2 + (n : Int))] ob) = (rng 0 50).map (fun n : Nat => lpRow ob (F_mp2 [.int (2 + (n : Int))] ob) mpTab[n]?) := by kernel_rfl
theorem mp_tab1 (ob : List OV) : (rng 50 50).map (fun n : Nat => F_mp2 [.int (2 + (n : Int))] ob) = (rng 50 50).map (fun n : Nat => lpRow ob (F_mp2 [.int (2 + (n : Int))] ob) mpTab[n]?) := by kernel_rfl
theorem mp_tab2 (ob : List OV) : (rng 100 50).map (fun n : Nat => F_mp2 [.int (2 + (n : Int))] ob) = (rng 100 50).map (fun n : Nat => lpRow ob (F_mp2 [.int (2 + (n : Int))] ob) mpTab[n]?) := by kernel_rfl
theorem mp_tab3 (ob : List OV) : (rng 150 50).map (fun n : Nat => F_mp2 [.int (2 + (n : Int))] ob) = (rng 150 50).map (fun n : Nat => lpRow ob (F_mp2 [.int (2 + (n : Int))] ob) mpTab[n]?) := by kernel_rfl
theorem mp_tab4 (ob : List OV) : (rng 200 50).map (fun n : Nat => F_mp2 [.int (2 + (n : Int))] ob) = (rng 200 50).map (fun n : Nat => lpRow ob (F_mp2 [.int (2 + (n : Int))] ob) mpTab[n]?) := by kernel_rfl
theorem mp_tab5 (ob : List OV) : (rng 250 50).map (fun n : Nat => F_mp2 [.int (2 + (n : Int))] ob) = (rng 250 50).map (fun n : Nat => lpRow ob (F_mp2 [.int (2 + (n : Int))] ob) mpTab[n]?) := by kernel_rfl
theorem mp_tab (ob : List OV) (n : Nat) (hn : n < 300) : F_mp2 [.int (2 + (n : Int))] ob = lpRow ob (F_mp2 [.int (2 + (n : Int))] ob) mpTab[n]? := by
  by_cases h0 : n < 50
  · exact rng_at (mp_tab0 ob) (by omega) (by omega)
  by_cases h1 : n < 100
  · exact rng_at (mp_tab1 ob) (by omega) (by omega)
  by_cases h2 : n < 150
  · exact rng_at (mp_tab2 ob) (by omega) (by omega)
  by_cases h3 : n < 200
  · exact rng_at (mp_tab3 ob) (by omega) (by omega)
  by_cases h4 : n < 250
  · exact rng_at (mp_tab4 ob) (by omega) (by omega)
  exact rng_at (mp_tab5 ob) (by omega) (by omega)
def G_lp : Fn := fun ts ob => match ts with
  | [.int n] => if 2 ≤ n ∧ n < 302 then lpRow ob (F_least_point ts ob) lpTab[(n - 2).toNat]? else F_least_point ts ob
  | _ => F_least_point ts ob
def G_mp : Fn := fun ts ob => match ts with
  | [.int n] => if 2 ≤ n ∧ n < 302 then lpRow ob (F_minus_point ts ob) mpTab[(n - 2).toNat]? else F_minus_point ts ob
  | _ => F_minus_point ts ob
theorem lp_eq : F_least_point = G_lp := by
  funext ts ob
  unfold G_lp
  split
  · rename_i n
    split
    · rename_i h
      have e := lp_tab ob (n - 2).toNat (by omega)
      have e2 : (2 : Int) + ((n - 2).toNat : Int) = n := by omega
      rw [e2, ← lp2_eq] at e
      exact e
    · rfl
  · rfl
theorem mp_eq : F_minus_point = G_mp := by
  funext ts ob
  unfold G_mp
  split
  · rename_i n
    split
    · rename_i h
      have e := mp_tab ob (n - 2).toNat (by omega)
      have e2 : (2 : Int) + ((n - 2).toNat : Int) = n := by omega
      rw [e2, ← mp2_eq] at e
      exact e
    · rfl
  · rfl
def F_pt2 : Fn := mkFn 2 7 (bb_points G_lp)
theorem pt2_eq : F_points = F_pt2 := by unfold F_points F_pt2 b_points; rw [lp_eq]
end K18

namespace K18
open Sv
def ch2 : S → RS := lb1_law F__law_rounds F__law_parts F_rc2 G_lp G_mp F_pt2 F__law_roll G_rp F_sum_of_two_squares G_least opSrtG
def r2 (x0 : Option (Bool × T)) (ob : List OV) (n : Nat) : Option (List OV) := match ch2 ⟨[x0, some (false, T.obj 0), sI (2 + (n : Int)), none, none, none, none, none, none, none, none, none, none, none, none, none, none, none, none], ob⟩ with
  | .nxt s => if s.sl.length = 19 then (match s.sl[1]? with
    | some (some (false, T.obj 0)) => some s.ob
    | _ => none) else none
  | .cnt s => if s.sl.length = 19 then some s.ob else none
  | _ => none
theorem w2_0 (x0 : Option (Bool × T)) (ob : List OV) : (rng 0 10).map (fun n : Nat => r2 x0 ob n) = (rng 0 10).map fun _ => some ob := by kernel_rfl
theorem w2_1 (x0 : Option (Bool × T)) (ob : List OV) : (rng 10 10).map (fun n : Nat => r2 x0 ob n) = (rng 10 10).map fun _ => some ob := by kernel_rfl
theorem w2_2 (x0 : Option (Bool × T)) (ob : List OV) : (rng 20 10).map (fun n : Nat => r2 x0 ob n) = (rng 20 10).map fun _ => some ob := by kernel_rfl
theorem w2_3 (x0 : Option (Bool × T)) (ob : List OV) : (rng 30 10).map (fun n : Nat => r2 x0 ob n) = (rng 30 10).map fun _ => some ob := by kernel_rfl
theorem w2_4 (x0 : Option (Bool × T)) (ob : List OV) : (rng 40 10).map (fun n : Nat => r2 x0 ob n) = (rng 40 10).map fun _ => some ob := by kernel_rfl
theorem w2_5 (x0 : Option (Bool × T)) (ob : List OV) : (rng 50 10).map (fun n : Nat => r2 x0 ob n) = (rng 50 10).map fun _ => some ob := by kernel_rfl
theorem w2_6 (x0 : Option (Bool × T)) (ob : List OV) : (rng 60 10).map (fun n : Nat => r2 x0 ob n) = (rng 60 10).map fun _ => some ob := by kernel_rfl
theorem w2_7 (x0 : Option (Bool × T)) (ob : List OV) : (rng 70 10).map (fun n : Nat => r2 x0 ob n) = (rng 70 10).map fun _ => some ob := by kernel_rfl
theorem w2_8 (x0 : Option (Bool × T)) (ob : List OV) : (rng 80 10).map (fun n : Nat => r2 x0 ob n) = (rng 80 10).map fun _ => some ob := by kernel_rfl
theorem w2_9 (x0 : Option (Bool × T)) (ob : List OV) : (rng 90 10).map (fun n : Nat => r2 x0 ob n) = (rng 90 10).map fun _ => some ob := by kernel_rfl
theorem w2_10 (x0 : Option (Bool × T)) (ob : List OV) : (rng 100 10).map (fun n : Nat => r2 x0 ob n) = (rng 100 10).map fun _ => some ob := by kernel_rfl
theorem w2_11 (x0 : Option (Bool × T)) (ob : List OV) : (rng 110 10).map (fun n : Nat => r2 x0 ob n) = (rng 110 10).map fun _ => some ob := by kernel_rfl
theorem w2_12 (x0 : Option (Bool × T)) (ob : List OV) : (rng 120 10).map (fun n : Nat => r2 x0 ob n) = (rng 120 10).map fun _ => some ob := by kernel_rfl
theorem w2_13 (x0 : Option (Bool × T)) (ob : List OV) : (rng 130 10).map (fun n : Nat => r2 x0 ob n) = (rng 130 10).map fun _ => some ob := by kernel_rfl
theorem w2_14 (x0 : Option (Bool × T)) (ob : List OV) : (rng 140 10).map (fun n : Nat => r2 x0 ob n) = (rng 140 10).map fun _ => some ob := by kernel_rfl
theorem w2_15 (x0 : Option (Bool × T)) (ob : List OV) : (rng 150 10).map (fun n : Nat => r2 x0 ob n) = (rng 150 10).map fun _ => some ob := by kernel_rfl
theorem w2_16 (x0 : Option (Bool × T)) (ob : List OV) : (rng 160 10).map (fun n : Nat => r2 x0 ob n) = (rng 160 10).map fun _ => some ob := by kernel_rfl
theorem w2_17 (x0 : Option (Bool × T)) (ob : List OV) : (rng 170 10).map (fun n : Nat => r2 x0 ob n) = (rng 170 10).map fun _ => some ob := by kernel_rfl
theorem w2_18 (x0 : Option (Bool × T)) (ob : List OV) : (rng 180 10).map (fun n : Nat => r2 x0 ob n) = (rng 180 10).map fun _ => some ob := by kernel_rfl
theorem w2_19 (x0 : Option (Bool × T)) (ob : List OV) : (rng 190 10).map (fun n : Nat => r2 x0 ob n) = (rng 190 10).map fun _ => some ob := by kernel_rfl
theorem w2_20 (x0 : Option (Bool × T)) (ob : List OV) : (rng 200 10).map (fun n : Nat => r2 x0 ob n) = (rng 200 10).map fun _ => some ob := by kernel_rfl
theorem w2_21 (x0 : Option (Bool × T)) (ob : List OV) : (rng 210 10).map (fun n : Nat => r2 x0 ob n) = (rng 210 10).map fun _ => some ob := by kernel_rfl
theorem w2_22 (x0 : Option (Bool × T)) (ob : List OV) : (rng 220 10).map (fun n : Nat => r2 x0 ob n) = (rng 220 10).map fun _ => some ob := by kernel_rfl
theorem w2_23 (x0 : Option (Bool × T)) (ob : List OV) : (rng 230 10).map (fun n : Nat => r2 x0 ob n) = (rng 230 10).map fun _ => some ob := by kernel_rfl
theorem w2_24 (x0 : Option (Bool × T)) (ob : List OV) : (rng 240 10).map (fun n : Nat => r2 x0 ob n) = (rng 240 10).map fun _ => some ob := by kernel_rfl
theorem w2_25 (x0 : Option (Bool × T)) (ob : List OV) : (rng 250 10).map (fun n : Nat => r2 x0 ob n) = (rng 250 10).map fun _ => some ob := by kernel_rfl
theorem w2_26 (x0 : Option (Bool × T)) (ob : List OV) : (rng 260 10).map (fun n : Nat => r2 x0 ob n) = (rng 260 10).map fun _ => some ob := by kernel_rfl
theorem w2_27 (x0 : Option (Bool × T)) (ob : List OV) : (rng 270 10).map (fun n : Nat => r2 x0 ob n) = (rng 270 10).map fun _ => some ob := by kernel_rfl
theorem w2_28 (x0 : Option (Bool × T)) (ob : List OV) : (rng 280 10).map (fun n : Nat => r2 x0 ob n) = (rng 280 10).map fun _ => some ob := by kernel_rfl
theorem w2_29 (x0 : Option (Bool × T)) (ob : List OV) : (rng 290 10).map (fun n : Nat => r2 x0 ob n) = (rng 290 10).map fun _ => some ob := by kernel_rfl
end K18

namespace K18
open Sv
theorem dice_at (z : Int) : ∃ a b c : Int, F__law_dice [.int z] [] = .ok false (.obj 0) [.ls [.int a, .int b, .int c]] := by
  have h1009 : (0 : Int) < 1009 := by decide
  have hp : (0 : Int) ≤ 18 ∧ (18 : Int) ≤ 1000000 ∧ (10 : Int).natAbs < 18446744073709551616 := by decide
  by_cases h1 : (0 : Int) - 10 < z
  · by_cases h2 : z < 10
    · refine ⟨if z < 0 then -z else z, 0, 2, ?_⟩
      unfold F__law_dice b__law_dice
      simp only [mkFn, sCons, sNil, sSet, setOf, sExpr, sRet, retOf, sRetN, sIf, sRaise, sAug, sAsg, toS, gSet, gNil, gCons, gTup, gSub, sPar, storeAll, eC, eVar, eBin, eUn, eTup, eLst, eLstO, eIf, eAnd, eOr, eNot, eIs, isN, aNil, aCons, aoNil, aoCons, own, peek, frz, view, out1, out1_val, out1_tmp, R.bind, R.bindS, tTst, tAndS, tOrS, tNotS, eCall, afterF, sFor, iRng1, iRng2, iSeq, itemsOf, opAdd, opSub, opMul, opDiv, opMod, opPow, opNeg, opIMul, opIAdd, opLt, opLe, opGt, opGe, opEq_int, opNe_int, opLen, opAbs, opInt, opList, opTuple, opIx, eApp, isL, wr, List.map_cons, List.map_nil, List.length_cons, List.length_nil, List.replicate_succ, List.replicate_zero, List.cons_append, List.nil_append, List.append_nil, List.getElem?_cons_zero, List.getElem?_cons_succ, List.set_cons_zero, List.set_cons_succ, if_true, if_false, ite_true, ite_false, reduceIte, Bool.false_eq_true, Option.map_some, eChn, Nat.reduceSub, Nat.reduceAdd, decide_eq_true h1, decide_eq_true h2, szok, Nat.reduceLeDiff, decide_true]
    · refine ⟨z, 1 + z % 1009, if (decide ((10 : Int) ^ (18 : Int).toNat ≤ z)) = true then 1 else 0, ?_⟩
      unfold F__law_dice b__law_dice
      simp only [mkFn, sCons, sNil, sSet, setOf, sExpr, sRet, retOf, sRetN, sIf, sRaise, sAug, sAsg, toS, gSet, gNil, gCons, gTup, gSub, sPar, storeAll, eC, eVar, eBin, eUn, eTup, eLst, eLstO, eIf, eAnd, eOr, eNot, eIs, isN, aNil, aCons, aoNil, aoCons, own, peek, frz, view, out1, out1_val, out1_tmp, R.bind, R.bindS, tTst, tAndS, tOrS, tNotS, eCall, afterF, sFor, iRng1, iRng2, iSeq, itemsOf, opAdd, opSub, opMul, opDiv, opMod, opPow, opNeg, opIMul, opIAdd, opLt, opLe, opGt, opGe, opEq_int, opNe_int, opLen, opAbs, opInt, opList, opTuple, opIx, eApp, isL, wr, List.map_cons, List.map_nil, List.length_cons, List.length_nil, List.replicate_succ, List.replicate_zero, List.cons_append, List.nil_append, List.append_nil, List.getElem?_cons_zero, List.getElem?_cons_succ, List.set_cons_zero, List.set_cons_succ, if_true, if_false, ite_true, ite_false, reduceIte, Bool.false_eq_true, Option.map_some, eChn, Nat.reduceSub, Nat.reduceAdd, decide_eq_true h1, decide_eq_false h2, szok, Nat.reduceLeDiff, decide_true, if_pos h1009, if_pos hp]
  · refine ⟨z, 1 + z % 1009, if (decide ((10 : Int) ^ (18 : Int).toNat ≤ z)) = true then 1 else 0, ?_⟩
    unfold F__law_dice b__law_dice
    simp only [mkFn, sCons, sNil, sSet, setOf, sExpr, sRet, retOf, sRetN, sIf, sRaise, sAug, sAsg, toS, gSet, gNil, gCons, gTup, gSub, sPar, storeAll, eC, eVar, eBin, eUn, eTup, eLst, eLstO, eIf, eAnd, eOr, eNot, eIs, isN, aNil, aCons, aoNil, aoCons, own, peek, frz, view, out1, out1_val, out1_tmp, R.bind, R.bindS, tTst, tAndS, tOrS, tNotS, eCall, afterF, sFor, iRng1, iRng2, iSeq, itemsOf, opAdd, opSub, opMul, opDiv, opMod, opPow, opNeg, opIMul, opIAdd, opLt, opLe, opGt, opGe, opEq_int, opNe_int, opLen, opAbs, opInt, opList, opTuple, opIx, eApp, isL, wr, List.map_cons, List.map_nil, List.length_cons, List.length_nil, List.replicate_succ, List.replicate_zero, List.cons_append, List.nil_append, List.append_nil, List.getElem?_cons_zero, List.getElem?_cons_succ, List.set_cons_zero, List.set_cons_succ, if_true, if_false, ite_true, ite_false, reduceIte, Bool.false_eq_true, Option.map_some, eChn, Nat.reduceSub, Nat.reduceAdd, decide_eq_false h1, szok, Nat.reduceLeDiff, decide_true, if_pos h1009, if_pos hp]

theorem cut_cons (z : Int) (ns : List Int) : (cutT (z :: ns) none (some 1)).map T.int = [.int z] := by
  unfold cutT
  rw [show HT.sIx (z :: ns).length (z :: ns).length (some 1) = min 1 (z :: ns).length from HT.sIx_nat _ _ 1, HT.sIx_none]
  rw [show min 1 (z :: ns).length = 1 by rw [List.length_cons]; omega]
  rfl
theorem cut_nil : (cutT ([] : List Int) none (some 1)).map T.int = [] := by rfl
theorem rounds_at (ns : List Int) : ∃ a b c : Int, F__law_rounds [.scr ns, .int 1] [] = .ok true (.lst [.obj 0]) [.ls [.int a, .int b, .int c]] := by
  have key : ∃ z : Int, ((cutT ns none (some 1)).map T.int = [.int z]) ∨ ((cutT ns none (some 1)).map T.int = [] ∧ z = 0) := by
    cases ns with
    | nil => exact ⟨0, .inr ⟨cut_nil, rfl⟩⟩
    | cons z r => exact ⟨z, .inl (cut_cons z r)⟩
  obtain ⟨z, hz⟩ := key
  obtain ⟨a, b, c, hd⟩ := dice_at z
  refine ⟨a, b, c, ?_⟩
  have e1 : opEq (.lst [.int z]) (.lst []) = some (false, .bl false) := rfl
  have e2 : opEq (.lst []) (.lst []) = some (false, .bl true) := rfl
  unfold F__law_rounds b__law_rounds bb__law_rounds
  rcases hz with hz | ⟨hz, rfl⟩
  · simp only [mkFn, sCons, sNil, sSet, setOf, sExpr, sRet, retOf, sRetN, sIf, sRaise, sAug, sAsg, toS, gSet, gNil, gCons, gTup, gSub, sPar, storeAll, eC, eVar, eBin, eUn, eTup, eLst, eLstO, eIf, eAnd, eOr, eNot, eIs, isN, aNil, aCons, aoNil, aoCons, own, peek, frz, view, out1, out1_val, out1_tmp, R.bind, R.bindS, tTst, tAndS, tOrS, tNotS, eCall, afterF, sFor, iRng1, iRng2, iSeq, itemsOf, opAdd, opSub, opMul, opDiv, opMod, opPow, opNeg, opIMul, opIAdd, opLt, opLe, opGt, opGe, opEq_int, opNe_int, opLen, opAbs, opInt, opList, opTuple, opIx, eApp, isL, wr, List.map_cons, List.map_nil, List.length_cons, List.length_nil, List.replicate_succ, List.replicate_zero, List.cons_append, List.nil_append, List.append_nil, List.getElem?_cons_zero, List.getElem?_cons_succ, List.set_cons_zero, List.set_cons_succ, if_true, if_false, ite_true, ite_false, reduceIte, Bool.false_eq_true, Option.map_some, eCut, oNone, oSome, opCut, Nat.reduceSub, Nat.reduceAdd, hz, e1, eLC, wipeS, backS, compL, cYes, hd, szok, Nat.reduceLeDiff, decide_true]
  · simp only [mkFn, sCons, sNil, sSet, setOf, sExpr, sRet, retOf, sRetN, sIf, sRaise, sAug, sAsg, toS, gSet, gNil, gCons, gTup, gSub, sPar, storeAll, eC, eVar, eBin, eUn, eTup, eLst, eLstO, eIf, eAnd, eOr, eNot, eIs, isN, aNil, aCons, aoNil, aoCons, own, peek, frz, view, out1, out1_val, out1_tmp, R.bind, R.bindS, tTst, tAndS, tOrS, tNotS, eCall, afterF, sFor, iRng1, iRng2, iSeq, itemsOf, opAdd, opSub, opMul, opDiv, opMod, opPow, opNeg, opIMul, opIAdd, opLt, opLe, opGt, opGe, opEq_int, opNe_int, opLen, opAbs, opInt, opList, opTuple, opIx, eApp, isL, wr, List.map_cons, List.map_nil, List.length_cons, List.length_nil, List.replicate_succ, List.replicate_zero, List.cons_append, List.nil_append, List.append_nil, List.getElem?_cons_zero, List.getElem?_cons_succ, List.set_cons_zero, List.set_cons_succ, if_true, if_false, ite_true, ite_false, reduceIte, Bool.false_eq_true, Option.map_some, eCut, oNone, oSome, opCut, Nat.reduceSub, Nat.reduceAdd, hz, e2, eLC, wipeS, backS, compL, cYes, hd, szok, Nat.reduceLeDiff, decide_true, Nat.zero_le]

theorem mulOk_r {i j : Int} (h : j.natAbs < 18446744073709551616) : mulOk i j = true := by
  unfold mulOk
  rw [decide_eq_true h, Bool.or_true]
  rfl
theorem roll_at {m a b c : Int} (hm : 0 < m ∧ m.natAbs.log2 < 9000) (hm2 : m ≤ 100000000) : ∃ r a' b' c' : Int, 0 ≤ r ∧ r < m ∧ F__law_roll 1 [.obj 0, .int m] [.ls [.int a, .int b, .int c]] = .ok false (.int r) [.ls [.int a', .int b', .int c']] := by
  have i0 : ∀ x y z : T, L2.atI [x, y, z] 0 = some x := fun _ _ _ => rfl
  have i1 : ∀ x y z : T, L2.atI [x, y, z] 1 = some y := fun _ _ _ => rfl
  have i2 : ∀ x y z : T, L2.atI [x, y, z] 2 = some z := fun _ _ _ => rfl
  have n0 : L2.ixN 3 0 = some 0 := rfl
  have n1 : L2.ixN 3 1 = some 1 := rfl
  have n2 : L2.ixN 3 2 = some 2 := rfl
  have k1 : mulOk (48271 : Int) (48271 : Int) = true := rfl
  have big : ∀ x : Int, mulOk x 48271 = true := fun x => mulOk_r (by decide)
  have big2 : ∀ x : Int, mulOk x 69621 = true := fun x => mulOk_r (by decide)
  have d7 : (0 : Int) < 7 ∧ (7 : Int).natAbs.log2 < 9000 := by decide
  have dp : (0 : Int) < 2147483647 := by decide
  have z1 : (0 : Nat) < 0 + 1 := by decide
  have dm : decide ((100000000 : Int) < m) = false := decide_eq_false (by omega)
  by_cases h2 : c = 2
  · subst h2
    refine ⟨a % m, a / m, b, 2, Int.emod_nonneg _ (by omega), Int.emod_lt_of_pos _ hm.1, ?_⟩
    unfold F__law_roll b__law_roll
    simp only [mkFn, sCons, sNil, sSet, setOf, sExpr, sRet, retOf, sRetN, sIf, sRaise, sAug, sAsg, toS, gSet, gNil, gCons, gTup, gSub, sPar, storeAll, eC, eVar, eBin, eUn, eTup, eLst, eLstO, eIf, eAnd, eOr, eNot, eIs, isN, aNil, aCons, aoNil, aoCons, own, peek, frz, view, out1, out1_val, out1_tmp, R.bind, R.bindS, tTst, tAndS, tOrS, tNotS, eCall, afterF, sFor, iRng1, iRng2, iSeq, itemsOf, opAdd, opSub, opMul, opDiv, opMod, opPow, opNeg, opIMul, opIAdd, opLt, opLe, opGt, opGe, opEq_int, opNe_int, opLen, opAbs, opInt, opList, opTuple, opIx, eApp, isL, wr, List.map_cons, List.map_nil, List.length_cons, List.length_nil, List.replicate_succ, List.replicate_zero, List.cons_append, List.nil_append, List.append_nil, List.getElem?_cons_zero, List.getElem?_cons_succ, List.set_cons_zero, List.set_cons_succ, if_true, if_false, ite_true, ite_false, reduceIte, Bool.false_eq_true, Option.map_some, Sv.gSub, Nat.reduceSub, Nat.reduceAdd, i0, i1, i2, n0, n1, n2, if_pos hm, if_pos hm.1, decide_true, z1]
  · by_cases h1 : c = 1 ∧ 0 < a
    · obtain ⟨rfl, ha⟩ := h1
      refine ⟨a % m, a / m, b, 1, Int.emod_nonneg _ (by omega), Int.emod_lt_of_pos _ hm.1, ?_⟩
      have e12 : decide ((1 : Int) = 2) = false := by decide
      unfold F__law_roll b__law_roll
      simp only [mkFn, sCons, sNil, sSet, setOf, sExpr, sRet, retOf, sRetN, sIf, sRaise, sAug, sAsg, toS, gSet, gNil, gCons, gTup, gSub, sPar, storeAll, eC, eVar, eBin, eUn, eTup, eLst, eLstO, eIf, eAnd, eOr, eNot, eIs, isN, aNil, aCons, aoNil, aoCons, own, peek, frz, view, out1, out1_val, out1_tmp, R.bind, R.bindS, tTst, tAndS, tOrS, tNotS, eCall, afterF, sFor, iRng1, iRng2, iSeq, itemsOf, opAdd, opSub, opMul, opDiv, opMod, opPow, opNeg, opIMul, opIAdd, opLt, opLe, opGt, opGe, opEq_int, opNe_int, opLen, opAbs, opInt, opList, opTuple, opIx, eApp, isL, wr, List.map_cons, List.map_nil, List.length_cons, List.length_nil, List.replicate_succ, List.replicate_zero, List.cons_append, List.nil_append, List.append_nil, List.getElem?_cons_zero, List.getElem?_cons_succ, List.set_cons_zero, List.set_cons_succ, if_true, if_false, ite_true, ite_false, reduceIte, Bool.false_eq_true, Option.map_some, Sv.gSub, Nat.reduceSub, Nat.reduceAdd, i0, i1, i2, n0, n1, n2, if_pos hm, if_pos hm.1, decide_true, e12, decide_eq_true ha, z1]
    · refine ⟨(a * 48271 + b * 69621 + 11) % 2147483647 / 7 % m, (a * 48271 + b * 69621 + 11) % 2147483647, b + 1, 0, Int.emod_nonneg _ (by omega), Int.emod_lt_of_pos _ hm.1, ?_⟩
      have e2 : decide (c = 2) = false := decide_eq_false h2
      unfold F__law_roll b__law_roll
      by_cases hc : c = 1
      · subst hc
        have ha : decide (0 < a) = false := decide_eq_false fun z => h1 ⟨rfl, z⟩
        simp only [mkFn, sCons, sNil, sSet, setOf, sExpr, sRet, retOf, sRetN, sIf, sRaise, sAug, sAsg, toS, gSet, gNil, gCons, gTup, gSub, sPar, storeAll, eC, eVar, eBin, eUn, eTup, eLst, eLstO, eIf, eAnd, eOr, eNot, eIs, isN, aNil, aCons, aoNil, aoCons, own, peek, frz, view, out1, out1_val, out1_tmp, R.bind, R.bindS, tTst, tAndS, tOrS, tNotS, eCall, afterF, sFor, iRng1, iRng2, iSeq, itemsOf, opAdd, opSub, opMul, opDiv, opMod, opPow, opNeg, opIMul, opIAdd, opLt, opLe, opGt, opGe, opEq_int, opNe_int, opLen, opAbs, opInt, opList, opTuple, opIx, eApp, isL, wr, List.map_cons, List.map_nil, List.length_cons, List.length_nil, List.replicate_succ, List.replicate_zero, List.cons_append, List.nil_append, List.append_nil, List.getElem?_cons_zero, List.getElem?_cons_succ, List.set_cons_zero, List.set_cons_succ, if_true, if_false, ite_true, ite_false, reduceIte, Bool.false_eq_true, Option.map_some, Sv.gSub, Nat.reduceSub, Nat.reduceAdd, i0, i1, i2, n0, n1, n2, if_pos hm.1, decide_true, e2, ha, dm, big, big2, if_pos d7, if_pos dp, z1]
      · simp only [mkFn, sCons, sNil, sSet, setOf, sExpr, sRet, retOf, sRetN, sIf, sRaise, sAug, sAsg, toS, gSet, gNil, gCons, gTup, gSub, sPar, storeAll, eC, eVar, eBin, eUn, eTup, eLst, eLstO, eIf, eAnd, eOr, eNot, eIs, isN, aNil, aCons, aoNil, aoCons, own, peek, frz, view, out1, out1_val, out1_tmp, R.bind, R.bindS, tTst, tAndS, tOrS, tNotS, eCall, afterF, sFor, iRng1, iRng2, iSeq, itemsOf, opAdd, opSub, opMul, opDiv, opMod, opPow, opNeg, opIMul, opIAdd, opLt, opLe, opGt, opGe, opEq_int, opNe_int, opLen, opAbs, opInt, opList, opTuple, opIx, eApp, isL, wr, List.map_cons, List.map_nil, List.length_cons, List.length_nil, List.replicate_succ, List.replicate_zero, List.cons_append, List.nil_append, List.append_nil, List.getElem?_cons_zero, List.getElem?_cons_succ, List.set_cons_zero, List.set_cons_succ, if_true, if_false, ite_true, ite_false, reduceIte, Bool.false_eq_true, Option.map_some, Sv.gSub, Nat.reduceSub, Nat.reduceAdd, i0, i1, i2, n0, n1, n2, if_pos hm.1, decide_true, e2, decide_eq_false hc, dm, big, big2, if_pos d7, if_pos dp, z1]
end K18

namespace K18
open Sv
theorem tail_at (x0 x1 x2 x3 x4 x5 x6 x7 x8 x9 x10 x11 x12 x13 x14 x15 x16 x17 x18 : Option (Bool × T)) (ob : List OV) : lt_law F__law_rounds F__law_parts F_root_convergents F_least_point F_minus_point F_points F__law_roll F_root_parts F_sum_of_two_squares F__law_least opSrt ⟨[x0, x1, x2, x3, x4, x5, x6, x7, x8, x9, x10, x11, x12, x13, x14, x15, x16, x17, x18], ob⟩ = .ret false (.bl true) ob := by kernel_rfl
end K18

namespace K18
open Sv
section
variable {x0 x1 x2 x3 x4 x5 x6 x7 x8 x9 x10 x11 x12 x13 x14 x15 x16 x17 x18 : Option (Bool × T)} {ob : List OV}
theorem lb3_at {w : Int} {Fr Fp Fc Fl Fm Fq Fs : Fn} {Fo : Nat → Fn} {Fz : Fn} {so : T → Option (Bool × T)} (h0 : 0 ≤ w) (hw : w < 3000) (hs : Fs [.int w] ob = .ok false (.tup (Dl w 60)) ob) :
    ∃ y14, lb3_law Fr Fp Fc Fl Fm Fq Fo Fz Fs F__law_least so ⟨[x0, x1, x2, x3, x4, x5, x6, x7, x8, x9, x10, x11, sI w, x13, x14, x15, x16, x17, x18], ob⟩ = .nxt ⟨[x0, x1, x2, x3, x4, x5, x6, x7, x8, x9, x10, x11, sI w, some (true, .lst (Dl w 60)), y14, x15, x16, x17, x18], ob⟩ := by
  obtain ⟨y14, hl⟩ := due_loop (x0 := x0) (x1 := x1) (x2 := x2) (x3 := x3) (x4 := x4) (x5 := x5) (x6 := x6) (x7 := x7) (x8 := x8) (x9 := x9) (x10 := x10) (x11 := x11) (x15 := x15) (x16 := x16) (x17 := x17) (x18 := x18) (ob := ob) (w := w) 60 0 x14 rfl
  refine ⟨y14, ?_⟩
  have hl2 : forL (gSet 14) dBody (rngT 0 60) ⟨[x0, x1, x2, x3, x4, x5, x6, x7, x8, x9, x10, x11, sI w, some (true, .lst []), x14, x15, x16, x17, x18], ob⟩ = .nxt ⟨[x0, x1, x2, x3, x4, x5, x6, x7, x8, x9, x10, x11, sI w, some (true, .lst (Dl w 60)), y14, x15, x16, x17, x18], ob⟩ := hl
  clear hl
  have hp := Dl_pr w 60
  generalize Dl w 60 = L at *
  have e1 : opNe (.lst L) (.lst L) = some (false, .bl false) := by
    unfold opNe
    have s : T.shp 60 (.lst L) = true := by rw [T.shp]; exact prs_shp L hp
    rw [if_pos ⟨s, s⟩]
    have q : T.eqv (.lst L) (.lst L) = true := by rw [T.eqv]; exact prs_eqv L hp
    rw [q]
    rfl
  have hr : (-4611686018427387904 : Int) ≤ 60 ∧ (60 : Int) < 4611686018427387904 := by decide
  have f1 : sSet 13 (eLst aNil) ⟨[x0, x1, x2, x3, x4, x5, x6, x7, x8, x9, x10, x11, sI w, x13, x14, x15, x16, x17, x18], ob⟩ = .nxt ⟨[x0, x1, x2, x3, x4, x5, x6, x7, x8, x9, x10, x11, sI w, some (true, .lst []), x14, x15, x16, x17, x18], ob⟩ := rfl
  have f2 : sFor (iRng1 (eC (.int 60))) (gSet 14) dBody ⟨[x0, x1, x2, x3, x4, x5, x6, x7, x8, x9, x10, x11, sI w, some (true, .lst []), x14, x15, x16, x17, x18], ob⟩ = .nxt ⟨[x0, x1, x2, x3, x4, x5, x6, x7, x8, x9, x10, x11, sI w, some (true, .lst L), y14, x15, x16, x17, x18], ob⟩ := by
    unfold sFor
    have g : iRng1 (eC (.int 60)) ⟨[x0, x1, x2, x3, x4, x5, x6, x7, x8, x9, x10, x11, sI w, some (true, .lst []), x14, x15, x16, x17, x18], ob⟩ = .ok (rngT 0 60) ⟨[x0, x1, x2, x3, x4, x5, x6, x7, x8, x9, x10, x11, sI w, some (true, .lst []), x14, x15, x16, x17, x18], ob⟩ := by
      simp only [mkFn, sCons, sNil, sSet, setOf, sExpr, sRet, retOf, sRetN, sIf, sRaise, sAug, sAsg, toS, gSet, gNil, gCons, gTup, gSub, sPar, storeAll, eC, eVar, eBin, eUn, eTup, eLst, eLstO, eIf, eAnd, eOr, eNot, eIs, isN, aNil, aCons, aoNil, aoCons, own, peek, frz, view, out1, out1_val, out1_tmp, R.bind, R.bindS, tTst, tAndS, tOrS, tNotS, eCall, afterF, sFor, iRng1, iRng2, iSeq, itemsOf, opAdd, opSub, opMul, opDiv, opMod, opPow, opNeg, opIMul, opIAdd, opLt, opLe, opGt, opGe, opEq_int, opNe_int, opLen, opAbs, opInt, opList, opTuple, opIx, eApp, isL, wr, List.map_cons, List.map_nil, List.length_cons, List.length_nil, List.replicate_succ, List.replicate_zero, List.cons_append, List.nil_append, List.append_nil, List.getElem?_cons_zero, List.getElem?_cons_succ, List.set_cons_zero, List.set_cons_succ, if_true, if_false, ite_true, ite_false, reduceIte, Bool.false_eq_true, Option.map_some, if_pos hr]
      rfl
    rw [g]
    exact hl2
  have f3 : (sIf (tTst (eBin opNe (eUn opList (eCall Fs (aCons (eVar 12) aNil))) (eVar 13))) (sRet (eC (.bl false))) sNil) ⟨[x0, x1, x2, x3, x4, x5, x6, x7, x8, x9, x10, x11, sI w, some (true, .lst L), y14, x15, x16, x17, x18], ob⟩ = .nxt ⟨[x0, x1, x2, x3, x4, x5, x6, x7, x8, x9, x10, x11, sI w, some (true, .lst L), y14, x15, x16, x17, x18], ob⟩ := by
    simp only [mkFn, sCons, sNil, sSet, setOf, sExpr, sRet, retOf, sRetN, sIf, sRaise, sAug, sAsg, toS, gSet, gNil, gCons, gTup, gSub, sPar, storeAll, eC, eVar, eBin, eUn, eTup, eLst, eLstO, eIf, eAnd, eOr, eNot, eIs, isN, aNil, aCons, aoNil, aoCons, own, peek, frz, view, out1, out1_val, out1_tmp, R.bind, R.bindS, tTst, tAndS, tOrS, tNotS, eCall, afterF, sFor, iRng1, iRng2, iSeq, itemsOf, opAdd, opSub, opMul, opDiv, opMod, opPow, opNeg, opIMul, opIAdd, opLt, opLe, opGt, opGe, opEq_int, opNe_int, opLen, opAbs, opInt, opList, opTuple, opIx, eApp, isL, wr, List.map_cons, List.map_nil, List.length_cons, List.length_nil, List.replicate_succ, List.replicate_zero, List.cons_append, List.nil_append, List.append_nil, List.getElem?_cons_zero, List.getElem?_cons_succ, List.set_cons_zero, List.set_cons_succ, if_true, if_false, ite_true, ite_false, reduceIte, Bool.false_eq_true, Option.map_some, hs, e1]
  unfold lb3_law
  rw [sCons_nxt f1]
  exact (sCons_nxt f2).trans f3
theorem lb2_at {r : Int} {ob' : List OV} {Fr Fp Fc Fl Fm Fq Fs : Fn} {Fo : Nat → Fn} {Fz Fk : Fn} {so : T → Option (Bool × T)} (hr : Fo 1 [.obj 0, .int 3000] ob = .ok false (.int r) ob') :
    lb2_law Fr Fp Fc Fl Fm Fq Fo Fz Fs Fk so ⟨[x0, some (false, .obj 0), x2, x3, x4, x5, x6, x7, x8, x9, x10, x11, x12, x13, x14, x15, x16, x17, x18], ob⟩ = .nxt ⟨[x0, some (false, .obj 0), x2, x3, x4, x5, x6, x7, x8, x9, x10, x11, sI r, x13, x14, x15, x16, x17, x18], ob'⟩ := by
  unfold lb2_law
  simp only [mkFn, sCons, sNil, sSet, setOf, sExpr, sRet, retOf, sRetN, sIf, sRaise, sAug, sAsg, toS, gSet, gNil, gCons, gTup, gSub, sPar, storeAll, eC, eVar, eBin, eUn, eTup, eLst, eLstO, eIf, eAnd, eOr, eNot, eIs, isN, aNil, aCons, aoNil, aoCons, own, peek, frz, view, out1, out1_val, out1_tmp, R.bind, R.bindS, tTst, tAndS, tOrS, tNotS, eCall, afterF, sFor, iRng1, iRng2, iSeq, itemsOf, opAdd, opSub, opMul, opDiv, opMod, opPow, opNeg, opIMul, opIAdd, opLt, opLe, opGt, opGe, opEq_int, opNe_int, opLen, opAbs, opInt, opList, opTuple, opIx, eApp, isL, wr, List.map_cons, List.map_nil, List.length_cons, List.length_nil, List.replicate_succ, List.replicate_zero, List.cons_append, List.nil_append, List.append_nil, List.getElem?_cons_zero, List.getElem?_cons_succ, List.set_cons_zero, List.set_cons_succ, if_true, if_false, ite_true, ite_false, reduceIte, Bool.false_eq_true, Option.map_some, hr]
theorem lb0_at {r : Int} {ob' : List OV} {Fr Fp Fc Fl Fm Fq Fs : Fn} {Fo : Nat → Fn} {Fz Fk : Fn} {so : T → Option (Bool × T)} (hr : Fo 1 [.obj 0, .int 300] ob = .ok false (.int r) ob') :
    lb0_law Fr Fp Fc Fl Fm Fq Fo Fz Fs Fk so ⟨[x0, some (false, .obj 0), x2, x3, x4, x5, x6, x7, x8, x9, x10, x11, x12, x13, x14, x15, x16, x17, x18], ob⟩ = .nxt ⟨[x0, some (false, .obj 0), sI (2 + r), x3, x4, x5, x6, x7, x8, x9, x10, x11, x12, x13, x14, x15, x16, x17, x18], ob'⟩ := by
  unfold lb0_law
  simp only [mkFn, sCons, sNil, sSet, setOf, sExpr, sRet, retOf, sRetN, sIf, sRaise, sAug, sAsg, toS, gSet, gNil, gCons, gTup, gSub, sPar, storeAll, eC, eVar, eBin, eUn, eTup, eLst, eLstO, eIf, eAnd, eOr, eNot, eIs, isN, aNil, aCons, aoNil, aoCons, own, peek, frz, view, out1, out1_val, out1_tmp, R.bind, R.bindS, tTst, tAndS, tOrS, tNotS, eCall, afterF, sFor, iRng1, iRng2, iSeq, itemsOf, opAdd, opSub, opMul, opDiv, opMod, opPow, opNeg, opIMul, opIAdd, opLt, opLe, opGt, opGe, opEq_int, opNe_int, opLen, opAbs, opInt, opList, opTuple, opIx, eApp, isL, wr, List.map_cons, List.map_nil, List.length_cons, List.length_nil, List.replicate_succ, List.replicate_zero, List.cons_append, List.nil_append, List.append_nil, List.getElem?_cons_zero, List.getElem?_cons_succ, List.set_cons_zero, List.set_cons_succ, if_true, if_false, ite_true, ite_false, reduceIte, Bool.false_eq_true, Option.map_some, hr]
end
end K18

namespace K18
open Sv
theorem lb1_eq : lb1_law F__law_rounds F__law_parts F_root_convergents F_least_point F_minus_point F_points F__law_roll F_root_parts F_sum_of_two_squares F__law_least opSrt = ch2 := by
  unfold ch2
  rw [rc2_eq, lp_eq, mp_eq, pt2_eq, rp_eq, least_eq, opSrt_eq]
theorem r2_at (x0 : Option (Bool × T)) (ob : List OV) (n : Nat) (hn : n < 300) : r2 x0 ob n = some ob := by
  by_cases h0 : n < 10
  · exact rng_at (w2_0 x0 ob) (by omega) (by omega)
  by_cases h1 : n < 20
  · exact rng_at (w2_1 x0 ob) (by omega) (by omega)
  by_cases h2 : n < 30
  · exact rng_at (w2_2 x0 ob) (by omega) (by omega)
  by_cases h3 : n < 40
  · exact rng_at (w2_3 x0 ob) (by omega) (by omega)
  by_cases h4 : n < 50
  · exact rng_at (w2_4 x0 ob) (by omega) (by omega)
  by_cases h5 : n < 60
  · exact rng_at (w2_5 x0 ob) (by omega) (by omega)
  by_cases h6 : n < 70
  · exact rng_at (w2_6 x0 ob) (by omega) (by omega)
  by_cases h7 : n < 80
  · exact rng_at (w2_7 x0 ob) (by omega) (by omega)
  by_cases h8 : n < 90
  · exact rng_at (w2_8 x0 ob) (by omega) (by omega)
  by_cases h9 : n < 100
  · exact rng_at (w2_9 x0 ob) (by omega) (by omega)
  by_cases h10 : n < 110
  · exact rng_at (w2_10 x0 ob) (by omega) (by omega)
  by_cases h11 : n < 120
  · exact rng_at (w2_11 x0 ob) (by omega) (by omega)
  by_cases h12 : n < 130
  · exact rng_at (w2_12 x0 ob) (by omega) (by omega)
  by_cases h13 : n < 140
  · exact rng_at (w2_13 x0 ob) (by omega) (by omega)
  by_cases h14 : n < 150
  · exact rng_at (w2_14 x0 ob) (by omega) (by omega)
  by_cases h15 : n < 160
  · exact rng_at (w2_15 x0 ob) (by omega) (by omega)
  by_cases h16 : n < 170
  · exact rng_at (w2_16 x0 ob) (by omega) (by omega)
  by_cases h17 : n < 180
  · exact rng_at (w2_17 x0 ob) (by omega) (by omega)
  by_cases h18 : n < 190
  · exact rng_at (w2_18 x0 ob) (by omega) (by omega)
  by_cases h19 : n < 200
  · exact rng_at (w2_19 x0 ob) (by omega) (by omega)
  by_cases h20 : n < 210
  · exact rng_at (w2_20 x0 ob) (by omega) (by omega)
  by_cases h21 : n < 220
  · exact rng_at (w2_21 x0 ob) (by omega) (by omega)
  by_cases h22 : n < 230
  · exact rng_at (w2_22 x0 ob) (by omega) (by omega)
  by_cases h23 : n < 240
  · exact rng_at (w2_23 x0 ob) (by omega) (by omega)
  by_cases h24 : n < 250
  · exact rng_at (w2_24 x0 ob) (by omega) (by omega)
  by_cases h25 : n < 260
  · exact rng_at (w2_25 x0 ob) (by omega) (by omega)
  by_cases h26 : n < 270
  · exact rng_at (w2_26 x0 ob) (by omega) (by omega)
  by_cases h27 : n < 280
  · exact rng_at (w2_27 x0 ob) (by omega) (by omega)
  by_cases h28 : n < 290
  · exact rng_at (w2_28 x0 ob) (by omega) (by omega)
  exact rng_at (w2_29 x0 ob) (by omega) (by omega)
theorem len19 {α : Type} {l : List α} (h : l.length = 19) : ∃ x0 x1 x2 x3 x4 x5 x6 x7 x8 x9 x10 x11 x12 x13 x14 x15 x16 x17 x18, l = [x0, x1, x2, x3, x4, x5, x6, x7, x8, x9, x10, x11, x12, x13, x14, x15, x16, x17, x18] := by
  match l, h with
  | [x0, x1, x2, x3, x4, x5, x6, x7, x8, x9, x10, x11, x12, x13, x14, x15, x16, x17, x18], _ => exact ⟨_, _, _, _, _, _, _, _, _, _, _, _, _, _, _, _, _, _, _, rfl⟩
theorem body_eq : b_law = sCons (sFor (iSeq (eCall F__law_rounds (aCons (eVar 0) (aCons (eC (.int 1)) aNil)))) (gSet 1)
    (sCons (lb0_law F__law_rounds F__law_parts F_root_convergents F_least_point F_minus_point F_points F__law_roll F_root_parts F_sum_of_two_squares F__law_least opSrt)
      (sCons (lb1_law F__law_rounds F__law_parts F_root_convergents F_least_point F_minus_point F_points F__law_roll F_root_parts F_sum_of_two_squares F__law_least opSrt)
        (sCons (lb2_law F__law_rounds F__law_parts F_root_convergents F_least_point F_minus_point F_points F__law_roll F_root_parts F_sum_of_two_squares F__law_least opSrt)
          (lb3_law F__law_rounds F__law_parts F_root_convergents F_least_point F_minus_point F_points F__law_roll F_root_parts F_sum_of_two_squares F__law_least opSrt)))))
    (lt_law F__law_rounds F__law_parts F_root_convergents F_least_point F_minus_point F_points F__law_roll F_root_parts F_sum_of_two_squares F__law_least opSrt) := by
  unfold b_law bb_law lb0_law lb1_law lb2_law lb3_law lt_law
  (simp only [sCons_assoc]) <;> rfl
theorem plain : ∀ ns : List Int, ns.length ≤ 63 → (∀ z ∈ ns, PySem.Builtin.Int.intBits z ≤ 1048576) → ∃ ob, F_law [.scr ns] [] = .ok false (.bl true) ob := by
  intro ns _ _
  obtain ⟨a, b, c, hrd⟩ := rounds_at ns
  obtain ⟨r, a1, b1, c1, r0, r3, hr⟩ := roll_at (m := 300) (a := a) (b := b) (c := c) (by decide) (by decide)
  obtain ⟨w, a2, b2, c2, w0, w3, hw⟩ := roll_at (m := 3000) (a := a1) (b := b1) (c := c1) (by decide) (by decide)
  -- the loop's one turn
  have turn : ∃ s : S, s.sl.length = 19 ∧ ((sCons (lb0_law F__law_rounds F__law_parts F_root_convergents F_least_point F_minus_point F_points F__law_roll F_root_parts F_sum_of_two_squares F__law_least opSrt)
      (sCons (lb1_law F__law_rounds F__law_parts F_root_convergents F_least_point F_minus_point F_points F__law_roll F_root_parts F_sum_of_two_squares F__law_least opSrt)
        (sCons (lb2_law F__law_rounds F__law_parts F_root_convergents F_least_point F_minus_point F_points F__law_roll F_root_parts F_sum_of_two_squares F__law_least opSrt)
          (lb3_law F__law_rounds F__law_parts F_root_convergents F_least_point F_minus_point F_points F__law_roll F_root_parts F_sum_of_two_squares F__law_least opSrt)))) ⟨[some (false, .scr ns), some (false, T.obj 0), none, none, none, none, none, none, none, none, none, none, none, none, none, none, none, none, none], [.ls [.int a, .int b, .int c]]⟩ = .nxt s ∨
      (sCons (lb0_law F__law_rounds F__law_parts F_root_convergents F_least_point F_minus_point F_points F__law_roll F_root_parts F_sum_of_two_squares F__law_least opSrt)
      (sCons (lb1_law F__law_rounds F__law_parts F_root_convergents F_least_point F_minus_point F_points F__law_roll F_root_parts F_sum_of_two_squares F__law_least opSrt)
        (sCons (lb2_law F__law_rounds F__law_parts F_root_convergents F_least_point F_minus_point F_points F__law_roll F_root_parts F_sum_of_two_squares F__law_least opSrt)
          (lb3_law F__law_rounds F__law_parts F_root_convergents F_least_point F_minus_point F_points F__law_roll F_root_parts F_sum_of_two_squares F__law_least opSrt)))) ⟨[some (false, .scr ns), some (false, T.obj 0), none, none, none, none, none, none, none, none, none, none, none, none, none, none, none, none, none], [.ls [.int a, .int b, .int c]]⟩ = .cnt s) := by
    rw [sCons_nxt (lb0_at hr), lb1_eq]
    have h2 := r2_at (some (false, .scr ns)) [.ls [.int a1, .int b1, .int c1]] r.toNat (by omega)
    unfold r2 at h2
    have e : (2 : Int) + (r.toNat : Int) = 2 + r := by omega
    rw [e] at h2
    cases hc : ch2 ⟨[some (false, .scr ns), some (false, T.obj 0), sI (2 + r), none, none, none, none, none, none, none, none, none, none, none, none, none, none, none, none], [.ls [.int a1, .int b1, .int c1]]⟩ with
    | nxt s =>
      rw [hc] at h2
      simp only at h2
      split at h2
      · rename_i hl
        split at h2
        · rename_i h1
          have ho : s.ob = [.ls [.int a1, .int b1, .int c1]] := Option.some.inj h2
          obtain ⟨x0, x1, x2, x3, x4, x5, x6, x7, x8, x9, x10, x11, x12, x13, x14, x15, x16, x17, x18, hx⟩ := len19 hl
          obtain ⟨sl, ob⟩ := s
          have hx : sl = _ := hx
          have ho : ob = _ := ho
          subst hx
          subst ho
          have hx1 : x1 = some (false, T.obj 0) := Option.some.inj h1
          subst hx1
          obtain ⟨y14, h3⟩ := lb3_at (x0 := x0) (x1 := some (false, T.obj 0)) (x2 := x2) (x3 := x3) (x4 := x4) (x5 := x5) (x6 := x6) (x7 := x7) (x8 := x8) (x9 := x9) (x10 := x10) (x11 := x11) (x13 := x13) (x14 := x14) (x15 := x15) (x16 := x16) (x17 := x17) (x18 := x18)
            (Fr := F__law_rounds) (Fp := F__law_parts) (Fc := F_root_convergents) (Fl := F_least_point) (Fm := F_minus_point) (Fq := F_points) (Fo := F__law_roll) (Fz := F_root_parts) (Fs := F_sum_of_two_squares) (so := opSrt) (ob := [.ls [.int a2, .int b2, .int c2]]) w0 w3 (sum_at w0 w3)
          refine ⟨_, ?_, .inl ((sCons_nxt hc).trans ((sCons_nxt (lb2_at hw)).trans h3))⟩
          rfl
        · cases h2
      · cases h2
    | cnt s =>
      rw [hc] at h2
      simp only at h2
      split at h2
      · rename_i hl
        exact ⟨s, hl, .inr (sCons_cnt hc)⟩
      · cases h2
    | _ => rw [hc] at h2; cases h2
  obtain ⟨s, hl, ht⟩ := turn
  obtain ⟨sl, ob⟩ := s
  obtain ⟨x0, x1, x2, x3, x4, x5, x6, x7, x8, x9, x10, x11, x12, x13, x14, x15, x16, x17, x18, hx⟩ := len19 (l := sl) hl
  subst hx
  refine ⟨ob, ?_⟩
  unfold F_law
  rw [body_eq]
  generalize (sCons (lb0_law F__law_rounds F__law_parts F_root_convergents F_least_point F_minus_point F_points F__law_roll F_root_parts F_sum_of_two_squares F__law_least opSrt) _) = LB at ht ⊢
  have hf : sFor (iSeq (eCall F__law_rounds (aCons (eVar 0) (aCons (eC (.int 1)) aNil)))) (gSet 1) LB ⟨[some (false, .scr ns), none, none, none, none, none, none, none, none, none, none, none, none, none, none, none, none, none, none], []⟩ = .nxt ⟨[x0, x1, x2, x3, x4, x5, x6, x7, x8, x9, x10, x11, x12, x13, x14, x15, x16, x17, x18], ob⟩ := by
    have g : iSeq (eCall F__law_rounds (aCons (eVar 0) (aCons (eC (.int 1)) aNil))) ⟨[some (false, .scr ns), none, none, none, none, none, none, none, none, none, none, none, none, none, none, none, none, none, none], []⟩ = .ok [T.obj 0] ⟨[some (false, .scr ns), none, none, none, none, none, none, none, none, none, none, none, none, none, none, none, none, none, none], [.ls [.int a, .int b, .int c]]⟩ := by
      simp only [mkFn, sCons, sNil, sSet, setOf, sExpr, sRet, retOf, sRetN, sIf, sRaise, sAug, sAsg, toS, gSet, gNil, gCons, gTup, gSub, sPar, storeAll, eC, eVar, eBin, eUn, eTup, eLst, eLstO, eIf, eAnd, eOr, eNot, eIs, isN, aNil, aCons, aoNil, aoCons, own, peek, frz, view, out1, out1_val, out1_tmp, R.bind, R.bindS, tTst, tAndS, tOrS, tNotS, eCall, afterF, sFor, iRng1, iRng2, iSeq, itemsOf, opAdd, opSub, opMul, opDiv, opMod, opPow, opNeg, opIMul, opIAdd, opLt, opLe, opGt, opGe, opEq_int, opNe_int, opLen, opAbs, opInt, opList, opTuple, opIx, eApp, isL, wr, List.map_cons, List.map_nil, List.length_cons, List.length_nil, List.replicate_succ, List.replicate_zero, List.cons_append, List.nil_append, List.append_nil, List.getElem?_cons_zero, List.getElem?_cons_succ, List.set_cons_zero, List.set_cons_succ, if_true, if_false, ite_true, ite_false, reduceIte, Bool.false_eq_true, Option.map_some, hrd]
    unfold sFor
    rw [g]
    show forL (gSet 1) LB [T.obj 0] _ = _
    rcases ht with ht | ht
    · exact forL_cons_nxt rfl ht
    · exact forL_cons_cnt rfl ht
  have tl := tail_at x0 x1 x2 x3 x4 x5 x6 x7 x8 x9 x10 x11 x12 x13 x14 x15 x16 x17 x18 ob
  have all := (sCons_nxt hf).trans tl
  unfold mkFn
  rw [if_pos (show [T.scr ns].length = 1 from rfl)]
  exact congrArg (fun z : RS => match z with | .nxt s => FR.ok false .non s.ob | .ret b t ob => .ok b t ob | .exc c s => .exc c s.ob | _ => .stuck) all
end K18

namespace K18
open PySem PySem.Spec PyProof.Rows L2 Sv
/-! ### the top, run -/
abbrev Ro : PySem.W.OpenRow := PySem.W.OpenLaw.row PySem.Challenge.rw_algebrastack_k18_roots_that_come_back
abbrev hk : PySem.W.Hook := He.hookX 4 fa fn [] [("law", none)] (fun _ => true)
def ob (s : PySem.W.SharedT) : He.AlX := He.obsX 4 fa fn [] [("law", none)] (fun _ => true) (HandSHeadRun.getT s)
theorem ob_eq (s : PySem.W.SharedT) : ob s = hk.obs s.abs := He.obsX_eq (HandSHeadRun.getT_eq s)
def names0 : List Str := ["AlgebraError", "NumberError", "root_below", "power", "MOST_PERIOD", "root_parts", "root_convergents", "least_point", "minus_point", "points", "sum_of_two_squares", "_law_dice", "_law_roll", "_law_rounds", "_law_told", "_law_parts", "_law_least"]
def names : List Str := names0
theorem run (w : World) : HandSHeadRun.RunEq Ro (PySem.W.view Ro.prog [21]) hk ob 6000 names w := by
  intro os
  kernel_rfl
theorem walk (plain : ∀ ns : List Int, ns.length ≤ 63 → (∀ z ∈ ns, Builtin.Int.intBits z ≤ 1048576) → ∃ ob, F_law [.scr ns] [] = .ok false (.bl true) ob) : PySem.W.WalkO (PySem.W.view Ro.prog [21]) names (PySem.W.XL (PySem.W.view Ro.prog [21]) []) hk.says Ro.toRowW (HandSHeadRun.topDef Ro.prog 21) [] fun f vs => PySem.call f vs := by
  refine LamX.walk_ofTsE (l := PySem.Challenge.rw_algebrastack_k18_roots_that_come_back) (n := 63) (k := 8) (x := "script") (CX := fun w => L2.CX (PySem.Challenge.rw_algebrastack_k18_roots_that_come_back).prog w) rfl (by decide) (by kernel_rfl) ⟨rfl, by decide, by decide⟩ ?F (fun _ _ _ _ _ z => cx_none z)
  intro w mg fa h Y G hmg0
  obtain ⟨K, KX, c⟩ := Y
  have c0 := c.t.d
  have hmg : mg "law" = some (.ref fa) := by
    have e : (HandSHeadRun.topDef Ro.prog 21).name = ("law" : Str) := by kernel_rfl
    rw [← e]
    exact hmg0
  have e := hmg.symm.trans (He.glo_ok KX G (c0.fact 13 (f := .glo "law") rfl))
  cases e
  obtain ⟨fd, hFd⟩ := c0.def_ 13 (d := d_law) rfl
  letI : Tb := ⟨[((He.cT K ("law", none)).2, lamQ)], lamL⟩
  have hm : (("law", none) : He.Defn) ∈ ([("law", none)] : List He.Defn) := List.mem_singleton.mpr rfl
  exact ⟨K, KX, law_at (q := lamQ) (L := lamL) (G := F_law) (cP := He.cT K ("law", none)) (c.empty _ hm) (c.out _ hm) (PySem.W.codeHd_of_K KX (c.hd _ hm)) (bd_law hFd) plain fun base h1 h2 h3 => ok_law h1 h2 c0 hFd h3 (List.mem_singleton.mpr rfl) fun _ => rfl⟩
end K18

open PySem PySem.W PySem.Calls PyProof.Rows
set_option maxHeartbeats 0 in
theorem PySem.Challenge.cw_algebrastack_k18_roots_that_come_back_holds : PySem.Challenge.rw_algebrastack_k18_roots_that_come_back.Holds := by
  w_on; o_law
  refine HandSHeadRun.head_any (r := K18.Ro) (q := view K18.Ro.prog [21]) (H := K18.hk) (ob := K18.ob) (M := 6000) (loose := K18.names) (d := HandSHeadRun.topDef K18.Ro.prog 21) (kwd := []) K18.ob_eq
    (by kernel_rfl) (fun s => by kernel_rfl) K18.run (by kernel_rfl) (by kernel_rfl) (by kernel_rfl) (by rfl) (by first | assumption | decide +kernel) (by decide +kernel) ⟨rfl, rfl, rfl, rfl, rfl, by decide +kernel⟩ ?hw ?hc
  case hw => w_witness2
  case hc => exact K18.walk K18.plain
