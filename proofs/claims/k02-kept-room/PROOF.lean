import PyProof.Rows.All
import HandS.Base
import HandS.Call
import HandS.List
import HandS.Comp
import HandS.Ends
import HandS.Dict
import HandS.Iter
import HandS.Text
import HandS.Words
import HandS.WordsList
import HandS.Style
import HandS.TupAny
import HandS.IsInst
import HandS.More
import HandS.DictComp
import HandS.Exc
import HandS.ExcOwn
import HandS.WordsExc
import HandS.Wide
import HandS.Flow
import HandS.Replace
import HandS.StrMore
import HandS.Codes
import KE.KDictPairs
import HandS.WordsDict
import HandS.NoneIn
import HandS.EndBits
import Wide.All
import OpenK.AllK
import Wide.FinOn
import PySem.Challenge.RW_evenhour_k02_kept_room
set_option Elab.async false
set_option linter.all false
set_option maxRecDepth 100000
set_option maxHeartbeats 2000000
namespace Iv
open PySem L2

/-! ### data -/
inductive D where
  | non | bl (b : Bool) | int (i : Int) | str (x : Str) | ty (n : String) | obj (k : Nat) | tup (xs : List D) | cl (xs : List D)
inductive O where
  | lst (xs : List D)
  | dct (kvs : List (Key × D))
  | dcf (kvs : List (Key × D))
  | ins (c : String) (fs : List (Str × D))
abbrev Stt := List O
structure Exn where
  c : String
  fs : List (Str × D)
inductive Res (α : Type) where
  | ok (a : α) (s : Stt)
  | ex (e : Exn) (s : Stt)
  | no
def Res.wp {α : Type} (r : Res α) (Q : α → Stt → Prop) (E : Exn → Stt → Prop) : Prop := match r with
  | .ok a s => Q a s
  | .ex e s => E e s
  | .no => False
def Res.bind {α β : Type} (r : Res α) (f : α → Stt → Res β) : Res β := match r with
  | .ok a s => f a s
  | .ex e s => .ex e s
  | .no => .no
def ofO {α : Type} (o : Option (α × Stt)) : Res α := match o with
  | some (a, s) => .ok a s
  | none => .no
theorem wp_bind {α β : Type} {r : Res α} {f : α → Stt → Res β} {Q : β → Stt → Prop} {E : Exn → Stt → Prop} :
    (r.bind f).wp Q E = r.wp (fun a s => (f a s).wp Q E) E := by cases r <;> rfl
theorem wp_mono {α : Type} {r : Res α} {Q Q' : α → Stt → Prop} {E E' : Exn → Stt → Prop} (h : r.wp Q E) (hQ : ∀ a s, Q a s → Q' a s) (hE : ∀ e s, E e s → E' e s) : r.wp Q' E' := by
  cases r with
  | ok a s => exact hQ a s h
  | ex e s => exact hE e s h
  | no => exact h
theorem wp_ofO {α : Type} {o : Option (α × Stt)} {Q : α → Stt → Prop} {E : Exn → Stt → Prop} (h : (ofO o).wp Q E) : ∃ a s, o = some (a, s) ∧ Q a s := by
  cases o with
  | none => exact h.elim
  | some p => exact ⟨p.1, p.2, rfl, h⟩

/-! ### data against values -/
/-- a list that stays as it is -/
def SqC (K : PySem.W.Frag) (H : Hp) (a : Addr) (xs : List V) : Prop := (∃ o, H a = some (.frz o (.lst xs))) ∨
  ∃ (o : Obj) (its : Array Value) (n : Nat), K.lookup a = some o ∧ o.cls = .type "list" ∧ o.dict = none ∧ o.data = .seq its n ∧ its.size ≤ sizeLine ∧ Vals xs its.toList
/-- a tuple without a dict of its own -/
def PlT (K : PySem.W.Frag) (H : Hp) (a : Addr) (xs : List V) : Prop := (∃ o, H a = some (.frz o (.tup xs)) ∧ o.dict = none) ∨
  ∃ (o : Obj) (its : Array Value) (n : Nat), K.lookup a = some o ∧ o.cls = .type "tuple" ∧ o.dict = none ∧ o.data = .seq its n ∧ its.size ≤ sizeLine ∧ Vals xs its.toList
theorem PlT.t {K : PySem.W.Frag} {H : Hp} {a : Addr} {xs : List V} (h : PlT K H a xs) : SqT K H a xs := by
  rcases h with ⟨o, h, _⟩ | ⟨o, its, n, h1, h2, _, h3, h4, h5⟩
  · exact .inl (.inr ⟨o, h⟩)
  · exact .inr ⟨o, its, n, h1, h2, h3, h4, h5⟩
theorem SqC.l {K : PySem.W.Frag} {H : Hp} {a : Addr} {xs : List V} (h : SqC K H a xs) : SqL K H a xs := by
  rcases h with ⟨o, h⟩ | h
  · exact .inl (.inr ⟨o, h⟩)
  · exact .inr h
section
variable (K : PySem.W.Frag) (H : Hp) (r : List Addr)
mutual
def RD : D → V → Prop
  | .non, v => v = .non
  | .bl b, v => v = .bl b
  | .int i, v => v = .int i
  | .str x, v => v = .str x
  | .ty n, v => v = .ty n
  | .obj k, v => ∃ a, r[k]? = some a ∧ v = .ref a
  | .tup ds, v => ∃ a xs, v = .ref a ∧ PlT K H a xs ∧ RDs ds xs
  | .cl ds, v => ∃ a xs, v = .ref a ∧ SqC K H a xs ∧ RDs ds xs
def RDs : List D → List V → Prop
  | [], xs => xs = []
  | d :: ds, xs => ∃ y ys, xs = y :: ys ∧ RD d y ∧ RDs ds ys
end
def RFs : List (Str × D) → List (Str × V) → Prop
  | [], xs => xs = []
  | (k, d) :: ds, xs => ∃ y ys, xs = (k, y) :: ys ∧ RD K H r d y ∧ RFs ds ys
def RKs : List (Key × D) → List (Key × V) → Prop
  | [], xs => xs = []
  | (k, d) :: ds, xs => ∃ y ys, xs = (k, y) :: ys ∧ RD K H r d y ∧ RKs ds ys
variable (cl : String → Addr)
def RO : O → Addr → Prop
  | .lst xs, a => ∃ vs, H a = some (.lst vs) ∧ RDs K H r xs vs
  | .dct kvs, a => ∃ vs, H a = some (.dK vs) ∧ RKs K H r kvs vs
  | .dcf kvs, a => ∃ o vs, H a = some (.frz o (.dK vs)) ∧ RKs K H r kvs vs
  | .ins c fs, a => ∃ dx vs, H a = some (.ins (cl c) dx vs) ∧ RFs K H r fs vs
structure RSt (st : Stt) : Prop where
  len : r.length = st.length
  nd : r.Nodup
  obj : ∀ (k : Nat) (a : Addr) (o : O), r[k]? = some a → st[k]? = some o → RO K H r cl o a
def ROpt : Option D → Option V → Prop
  | none, v => v = none
  | some d, v => ∃ y, v = some y ∧ RD K H r d y
def REnv : List (Option D) → St → Prop
  | [], σ => σ = []
  | d :: ds, σ => ∃ y ys, σ = y :: ys ∧ ROpt K H r d y ∧ REnv ds ys
end

structure Sub (H : Hp) (r : List Addr) (H' : Hp) (r' : List Addr) : Prop where
  pre : ∀ (k : Nat) (a : Addr), r[k]? = some a → r'[k]? = some a
  tups : ∀ a o xs, H a = some (.frz o (.tup xs)) → H' a = some (.frz o (.tup xs))
  frzs : ∀ a o xs, H a = some (.frz o (.lst xs)) → H' a = some (.frz o (.lst xs))
structure Ext (H : Hp) (r : List Addr) (H' : Hp) (r' : List Addr) : Prop where
  pre : ∀ (k : Nat) (a : Addr), r[k]? = some a → r'[k]? = some a
  fresh : ∀ b ∈ r', b ∈ r ∨ H b = none
  keep : ∀ b o, H b = some o → b ∉ r → H' b = some o
  tups : ∀ a o xs, H a = some (.frz o (.tup xs)) → H' a = some (.frz o (.tup xs))
  frzs : ∀ a o xs, H a = some (.frz o (.lst xs)) → H' a = some (.frz o (.lst xs))
  frzk : ∀ a o xs, H a = some (.frz o (.dK xs)) → H' a = some (.frz o (.dK xs))
theorem Ext.sb {H : Hp} {r : List Addr} {H' : Hp} {r' : List Addr} (x : Ext H r H' r') : Sub H r H' r' := ⟨x.pre, x.tups, x.frzs⟩
theorem Ext.refl (H : Hp) (r : List Addr) : Ext H r H r := ⟨fun _ _ h => h, fun _ h => .inl h, fun _ _ h _ => h, fun _ _ _ h => h, fun _ _ _ h => h, fun _ _ _ h => h⟩
theorem mem_of_get {r : List Addr} {k : Nat} {a : Addr} (h : r[k]? = some a) : a ∈ r := List.mem_of_getElem? h
theorem get_of_mem {r : List Addr} {a : Addr} (h : a ∈ r) : ∃ k : Nat, r[k]? = some a := by
  obtain ⟨k, hk, e⟩ := List.getElem_of_mem h
  exact ⟨k, by rw [List.getElem?_eq_getElem hk, e]⟩
theorem Ext.sub {H H' : Hp} {r r' : List Addr} (x : Ext H r H' r') {a : Addr} (h : a ∈ r) : a ∈ r' := by
  obtain ⟨k, e⟩ := get_of_mem h
  exact mem_of_get (x.pre k a e)
theorem Ext.trans {H H1 H2 : Hp} {r r1 r2 : List Addr} (x : Ext H r H1 r1) (y : Ext H1 r1 H2 r2) : Ext H r H2 r2 where
  pre := fun k a h => y.pre k a (x.pre k a h)
  fresh := fun b hb => by
    rcases y.fresh b hb with h | h
    · exact x.fresh b h
    · by_cases hr : b ∈ r
      · exact .inl hr
      · refine .inr ?_
        cases q : H b with
        | none => rfl
        | some o => rw [x.keep b o q hr] at h; cases h
  keep := fun b o h hr => by
    refine y.keep b o (x.keep b o h hr) fun h1 => ?_
    rcases x.fresh b h1 with z | z
    · exact hr z
    · rw [h] at z; cases z
  tups := fun a o xs h => y.tups a o xs (x.tups a o xs h)
  frzs := fun a o xs h => y.frzs a o xs (x.frzs a o xs h)
  frzk := fun a o xs h => y.frzk a o xs (x.frzk a o xs h)
theorem Sub.sqt {K : PySem.W.Frag} {H H' : Hp} {r r' : List Addr} (x : Sub H r H' r') {a : Addr} {xs : List V} (h : PlT K H a xs) : PlT K H' a xs := by
  rcases h with ⟨o, h, d⟩ | h
  · exact .inl ⟨o, x.tups a o xs h, d⟩
  · exact .inr h
theorem Sub.sqc {K : PySem.W.Frag} {H H' : Hp} {r r' : List Addr} (x : Sub H r H' r') {a : Addr} {xs : List V} (h : SqC K H a xs) : SqC K H' a xs := by
  rcases h with ⟨o, h⟩ | h
  · exact .inl ⟨o, x.frzs a o xs h⟩
  · exact .inr h
section
variable {K : PySem.W.Frag} {H H' : Hp} {r r' : List Addr}
mutual
theorem RD.monoS (x : Sub H r H' r') : ∀ {d : D} {v : V}, RD K H r d v → RD K H' r' d v
  | .non, _, h => h
  | .bl _, _, h => h
  | .int _, _, h => h
  | .str _, _, h => h
  | .ty _, _, h => h
  | .obj k, _, h => by
    obtain ⟨a, e, h⟩ := h
    exact ⟨a, x.pre k a e, h⟩
  | .tup ds, _, h => by
    obtain ⟨a, xs, e, hs, h⟩ := h
    exact ⟨a, xs, e, x.sqt hs, RDs.monoS x h⟩
  | .cl ds, _, h => by
    obtain ⟨a, xs, e, hs, h⟩ := h
    exact ⟨a, xs, e, x.sqc hs, RDs.monoS x h⟩
theorem RDs.monoS (x : Sub H r H' r') : ∀ {ds : List D} {vs : List V}, RDs K H r ds vs → RDs K H' r' ds vs
  | [], _, h => h
  | d :: ds, _, h => by
    obtain ⟨y, ys, e, h1, h2⟩ := h
    exact ⟨y, ys, e, RD.monoS x h1, RDs.monoS x h2⟩
end
theorem RFs.monoS (x : Sub H r H' r') : ∀ {ds : List (Str × D)} {vs : List (Str × V)}, RFs K H r ds vs → RFs K H' r' ds vs
  | [], _, h => h
  | (k, d) :: ds, _, h => by
    obtain ⟨y, ys, e, h1, h2⟩ := h
    exact ⟨y, ys, e, h1.monoS x, RFs.monoS x h2⟩
theorem RKs.monoS (x : Sub H r H' r') : ∀ {ds : List (Key × D)} {vs : List (Key × V)}, RKs K H r ds vs → RKs K H' r' ds vs
  | [], _, h => h
  | (k, d) :: ds, _, h => by
    obtain ⟨y, ys, e, h1, h2⟩ := h
    exact ⟨y, ys, e, h1.monoS x, RKs.monoS x h2⟩
theorem ROpt.monoS (x : Sub H r H' r') {d : Option D} {v : Option V} (h : ROpt K H r d v) : ROpt K H' r' d v := by
  cases d with
  | none => exact h
  | some d =>
    obtain ⟨y, e, h⟩ := h
    exact ⟨y, e, h.monoS x⟩
theorem REnv.monoS (x : Sub H r H' r') : ∀ {env : List (Option D)} {σ : St}, REnv K H r env σ → REnv K H' r' env σ
  | [], _, h => h
  | d :: ds, _, h => by
    obtain ⟨y, ys, e, h1, h2⟩ := h
    exact ⟨y, ys, e, h1.monoS x, REnv.monoS x h2⟩
theorem Ext.sqt {K : PySem.W.Frag} {H H' : Hp} {r r' : List Addr} (x : Ext H r H' r') {a : Addr} {xs : List V} (h : PlT K H a xs) : PlT K H' a xs := x.sb.sqt h
theorem Ext.sqc {K : PySem.W.Frag} {H H' : Hp} {r r' : List Addr} (x : Ext H r H' r') {a : Addr} {xs : List V} (h : SqC K H a xs) : SqC K H' a xs := x.sb.sqc h
theorem RD.mono (x : Ext H r H' r') {d : D} {v : V} (h : RD K H r d v) : RD K H' r' d v := h.monoS x.sb
theorem RDs.mono (x : Ext H r H' r') {d : List D} {v : List V} (h : RDs K H r d v) : RDs K H' r' d v := h.monoS x.sb
theorem RFs.mono (x : Ext H r H' r') {d : List (Str × D)} {v : List (Str × V)} (h : RFs K H r d v) : RFs K H' r' d v := h.monoS x.sb
theorem RKs.mono (x : Ext H r H' r') {d : List (Key × D)} {v : List (Key × V)} (h : RKs K H r d v) : RKs K H' r' d v := h.monoS x.sb
theorem ROpt.mono (x : Ext H r H' r') {d : Option D} {v : Option V} (h : ROpt K H r d v) : ROpt K H' r' d v := h.monoS x.sb
theorem REnv.mono (x : Ext H r H' r') {d : List (Option D)} {v : St} (h : REnv K H r d v) : REnv K H' r' d v := h.monoS x.sb
theorem REnv.get : ∀ {env : List (Option D)} {σ : St} {i : Nat} {d : D}, REnv K H r env σ → env[i]? = some (some d) → ∃ v, σ[i]? = some (some v) ∧ RD K H r d v
  | [], _, i, d, _, e => by simp at e
  | d0 :: ds, _, 0, d, h, e => by
    obtain ⟨y, ys, rfl, h1, h2⟩ := h
    simp at e
    subst e
    obtain ⟨z, rfl, h1⟩ := h1
    exact ⟨z, rfl, h1⟩
  | d0 :: ds, _, i + 1, d, h, e => by
    obtain ⟨y, ys, rfl, h1, h2⟩ := h
    obtain ⟨v, e1, e2⟩ := REnv.get (i := i) h2 (by simpa using e)
    exact ⟨v, by simpa using e1, e2⟩
theorem REnv.set : ∀ {env : List (Option D)} {σ : St} {i : Nat} {d : D} {v : V}, REnv K H r env σ → RD K H r d v → REnv K H r (env.set i (some d)) (σ.set i (some v))
  | [], _, i, d, v, h, _ => by cases h; exact rfl
  | d0 :: ds, _, 0, d, v, h, g => by
    obtain ⟨y, ys, rfl, h1, h2⟩ := h
    exact ⟨some v, ys, rfl, ⟨v, rfl, g⟩, h2⟩
  | d0 :: ds, _, i + 1, d, v, h, g => by
    obtain ⟨y, ys, rfl, h1, h2⟩ := h
    exact ⟨y, ys.set i (some v), rfl, h1, REnv.set h2 g⟩
theorem REnv.setn : ∀ {env : List (Option D)} {σ : St} {i : Nat}, REnv K H r env σ → REnv K H r (env.set i none) (σ.set i none)
  | [], _, i, h => by cases h; exact rfl
  | d0 :: ds, _, 0, h => by
    obtain ⟨y, ys, rfl, h1, h2⟩ := h
    exact ⟨none, ys, rfl, rfl, h2⟩
  | d0 :: ds, _, i + 1, h => by
    obtain ⟨y, ys, rfl, h1, h2⟩ := h
    exact ⟨y, ys.set i none, rfl, h1, REnv.setn h2⟩
theorem REnv.nones : ∀ n : Nat, REnv K H r (List.replicate n none) (List.replicate n none)
  | 0 => rfl
  | n + 1 => ⟨none, _, rfl, rfl, REnv.nones n⟩
theorem REnv.app : ∀ {e1 e2 : List (Option D)} {s1 s2 : St}, REnv K H r e1 s1 → REnv K H r e2 s2 → REnv K H r (e1 ++ e2) (s1 ++ s2)
  | [], _, _, _, h, g => by cases h; exact g
  | d :: ds, _, _, _, h, g => by
    obtain ⟨y, ys, rfl, h1, h2⟩ := h
    exact ⟨y, _, rfl, h1, REnv.app h2 g⟩
theorem REnv.args : ∀ {ds : List D} {vs : List V}, RDs K H r ds vs → REnv K H r (ds.map some) (vs.map some)
  | [], _, h => by cases h; exact rfl
  | d :: ds, _, h => by
    obtain ⟨y, ys, rfl, h1, h2⟩ := h
    exact ⟨some y, _, rfl, ⟨y, rfl, h1⟩, REnv.args h2⟩
theorem RDs.length : ∀ {ds : List D} {vs : List V}, RDs K H r ds vs → vs.length = ds.length
  | [], _, h => by cases h; rfl
  | d :: ds, _, h => by
    obtain ⟨y, ys, rfl, h1, h2⟩ := h
    show ys.length + 1 = ds.length + 1
    rw [RDs.length h2]
theorem RDs.get : ∀ {ds : List D} {vs : List V} {i : Nat} {d : D}, RDs K H r ds vs → ds[i]? = some d → ∃ v, vs[i]? = some v ∧ RD K H r d v
  | [], _, i, d, _, e => by simp at e
  | d0 :: ds, _, 0, d, h, e => by
    obtain ⟨y, ys, rfl, h1, h2⟩ := h
    simp at e
    subst e
    exact ⟨y, rfl, h1⟩
  | d0 :: ds, _, i + 1, d, h, e => by
    obtain ⟨y, ys, rfl, h1, h2⟩ := h
    obtain ⟨v, e1, e2⟩ := RDs.get (i := i) h2 (by simpa using e)
    exact ⟨v, by simpa using e1, e2⟩
theorem RDs.app : ∀ {ds es : List D} {vs ws : List V}, RDs K H r ds vs → RDs K H r es ws → RDs K H r (ds ++ es) (vs ++ ws)
  | [], _, _, _, h, g => by cases h; exact g
  | d :: ds, _, _, _, h, g => by
    obtain ⟨y, ys, rfl, h1, h2⟩ := h
    exact ⟨y, _, rfl, h1, RDs.app h2 g⟩
theorem RDs.one {d : D} {v : V} (h : RD K H r d v) : RDs K H r [d] [v] := ⟨v, [], rfl, h, rfl⟩
theorem RDs.set : ∀ {ds : List D} {vs : List V} {i : Nat} {d : D} {v : V}, RDs K H r ds vs → RD K H r d v → RDs K H r (ds.set i d) (vs.set i v)
  | [], _, i, d, v, h, _ => by cases h; exact rfl
  | d0 :: ds, _, 0, d, v, h, g => by
    obtain ⟨y, ys, rfl, h1, h2⟩ := h
    exact ⟨v, ys, rfl, g, h2⟩
  | d0 :: ds, _, i + 1, d, v, h, g => by
    obtain ⟨y, ys, rfl, h1, h2⟩ := h
    exact ⟨y, ys.set i v, rfl, h1, RDs.set h2 g⟩
theorem RDs.take : ∀ {ds : List D} {vs : List V} (n : Nat), RDs K H r ds vs → RDs K H r (ds.take n) (vs.take n)
  | _, _, 0, _ => by simp only [List.take_zero]; exact rfl
  | [], _, n + 1, h => by cases h; exact rfl
  | d :: ds, _, n + 1, h => by
    obtain ⟨y, ys, rfl, h1, h2⟩ := h
    exact ⟨y, ys.take n, rfl, h1, RDs.take n h2⟩
theorem RDs.drop : ∀ {ds : List D} {vs : List V} (n : Nat), RDs K H r ds vs → RDs K H r (ds.drop n) (vs.drop n)
  | _, _, 0, h => by simp only [List.drop_zero]; exact h
  | [], _, n + 1, h => by cases h; exact rfl
  | d :: ds, _, n + 1, h => by
    obtain ⟨y, ys, rfl, h1, h2⟩ := h
    exact RDs.drop n h2
end

/-! ### the store -/
section
variable {K : PySem.W.Frag} {H H' : Hp} {r r' : List Addr} {cl : String → Addr} {st : Stt}
/-- the objects stand as they stood, and what they hold is held -/
theorem RO.mono {o : O} {a : Addr} (x : Ext H r H' r') (h : RO K H r cl o a) (e : H' a = H a) : RO K H' r' cl o a := by
  cases o with
  | lst xs =>
    obtain ⟨vs, h1, h2⟩ := h
    exact ⟨vs, e.trans h1, h2.mono x⟩
  | dct kvs =>
    obtain ⟨vs, h1, h2⟩ := h
    exact ⟨vs, e.trans h1, h2.mono x⟩
  | dcf kvs =>
    obtain ⟨o, vs, h1, h2⟩ := h
    exact ⟨o, vs, e.trans h1, h2.mono x⟩
  | ins c fs =>
    obtain ⟨dx, vs, h1, h2⟩ := h
    exact ⟨dx, vs, e.trans h1, h2.mono x⟩
/-- a store's object is tracked -/
def MutX (u : HO) : Prop := Mut (some u) ∨ ∃ o vs, u = .frz o (.dK vs)
theorem RO.there {o : O} {a : Addr} (h : RO K H r cl o a) : ∃ u, H a = some u ∧ MutX u := by
  cases o with
  | lst xs => obtain ⟨vs, h1, _⟩ := h; exact ⟨_, h1, .inl trivial⟩
  | dct kvs => obtain ⟨vs, h1, _⟩ := h; exact ⟨_, h1, .inl trivial⟩
  | dcf kvs => obtain ⟨o, vs, h1, _⟩ := h; exact ⟨_, h1, .inr ⟨o, vs, rfl⟩⟩
  | ins c fs => obtain ⟨dx, vs, h1, _⟩ := h; exact ⟨_, h1, .inl trivial⟩
theorem RSt.there (h : RSt K H r cl st) {a : Addr} (ha : a ∈ r) : ∃ u, H a = some u ∧ MutX u := by
  obtain ⟨k, e⟩ := get_of_mem ha
  have hk : k < st.length := by
    rw [← h.len]
    exact (List.getElem?_eq_some_iff.mp e).1
  exact (h.obj k a st[k] e (by simp [hk])).there
theorem RSt.out (h : RSt K H r cl st) {p : Addr} (hp : H p = none) : p ∉ r := fun z => by
  obtain ⟨u, e, _⟩ := h.there z
  rw [hp] at e; cases e
theorem RSt.notin (h : RSt K H r cl st) {p : Addr} {u : HO} (hp : H p = some u) (hm : ¬ MutX u) : p ∉ r := fun z => by
  obtain ⟨w, e, m⟩ := h.there z
  rw [hp] at e; cases e
  exact hm m
/-- a thing that H did not know is laid beside -/
theorem Ext.beside {p : Addr} {o : HO} (h : H p = none) : Ext H r (upd H p o) r := by
  have ne : ∀ b u, H b = some u → b ≠ p := fun b u e z => by rw [z, h] at e; cases e
  exact ⟨fun _ _ h => h, fun _ h => .inl h, fun b u e _ => by rw [upd_ne (ne b u e)]; exact e, fun a ob xs e => by rw [upd_ne (ne a _ e)]; exact e, fun a ob xs e => by rw [upd_ne (ne a _ e)]; exact e, fun a ob xs e => by rw [upd_ne (ne a _ e)]; exact e⟩
theorem RSt.beside {p : Addr} {o : HO} (h : RSt K H r cl st) (hp : H p = none) : RSt K (upd H p o) r cl st :=
  ⟨h.len, h.nd, fun k a ob e1 e2 => (h.obj k a ob e1 e2).mono (Ext.beside hp) (upd_ne fun e => h.out hp (e ▸ mem_of_get e1))⟩
/-- a new tuple -/
theorem RD.tup {p : Addr} {o : Obj} {ds : List D} {vs : List V} (hp : H p = none) (ho : o.dict = none) (h : RDs K H r ds vs) : RD K (upd H p (.frz o (.tup vs))) r (.tup ds) (.ref p) :=
  ⟨p, vs, rfl, .inl ⟨o, upd_same, ho⟩, h.mono (Ext.beside hp)⟩
/-- a new object of the store -/
theorem Ext.more {p : Addr} (h : H p = none) : Ext H r H (r ++ [p]) :=
  ⟨fun k a e => by
    have hk := (List.getElem?_eq_some_iff.mp e).1
    rw [List.getElem?_append_left hk]; exact e, fun b hb => (List.mem_append.mp hb).elim .inl fun z => .inr (by rw [List.mem_singleton.mp z]; exact h), fun _ _ h _ => h, fun _ _ _ h => h, fun _ _ _ h => h, fun _ _ _ h => h⟩
theorem Ext.made {p : Addr} {o : HO} (h : H p = none) : Ext H r (upd H p o) (r ++ [p]) := by
  have a := Ext.beside (r := r) (o := o) h
  refine ⟨fun k b e => (Ext.more (r := r) h).pre k b e, (Ext.more (r := r) h).fresh, a.keep, a.tups, a.frzs, a.frzk⟩
theorem get_new (r : List Addr) (p : Addr) : (r ++ [p])[r.length]? = some p := by simp
theorem RSt.made {p : Addr} {u : HO} {o : O} (h : RSt K H r cl st) (hp : H p = none) (ho : RO K (upd H p u) (r ++ [p]) cl o p) : RSt K (upd H p u) (r ++ [p]) cl (st ++ [o]) := by
  refine ⟨by simp [h.len], ?_, fun k a ob e1 e2 => ?_⟩
  · refine List.nodup_append.mpr ⟨h.nd, by simp, fun a ha b hb e => ?_⟩
    rw [List.mem_singleton.mp hb] at e
    exact h.out hp (e ▸ ha)
  · by_cases hk : k < r.length
    · rw [List.getElem?_append_left hk] at e1
      rw [List.getElem?_append_left (by rw [← h.len]; exact hk)] at e2
      exact (h.obj k a ob e1 e2).mono (Ext.made hp) (upd_ne fun e => h.out hp (e ▸ mem_of_get e1))
    · have hl := (List.getElem?_eq_some_iff.mp e1).1
      have e : k = r.length := by simp at hl; omega
      subst e
      rw [get_new] at e1
      cases e1
      rw [h.len] at e2
      simp at e2
      subst e2
      exact ho
/-- an object of the store is changed -/
theorem Ext.write {k : Nat} {a : Addr} {o u : HO} (e : r[k]? = some a) (h : H a = some o) (hm : Mut (some o)) : Ext H r (upd H a u) r := by
  refine ⟨fun _ _ h => h, fun _ h => .inl h, fun b w q hb => ?_, fun b ob xs q => ?_, fun b ob xs q => ?_, fun b ob xs q => ?_⟩
  · rw [upd_ne fun z => hb (by rw [z]; exact mem_of_get e)]; exact q
  · rw [upd_ne fun z => by rw [z, h] at q; cases q; exact hm]; exact q
  · rw [upd_ne fun z => by rw [z, h] at q; cases q; exact hm]; exact q
  · rw [upd_ne fun z => by rw [z, h] at q; cases q; exact hm]; exact q
theorem nd_get {r : List Addr} (hN : r.Nodup) {i j : Nat} {x : Addr} (a : r[i]? = some x) (b : r[j]? = some x) : i = j := by
  obtain ⟨h1, e1⟩ := List.getElem?_eq_some_iff.mp a
  obtain ⟨h2, e2⟩ := List.getElem?_eq_some_iff.mp b
  exact (List.getElem_inj hN).mp (e1.trans e2.symm)
theorem RSt.write {k : Nat} {a : Addr} {o0 u : HO} {o : O} (h : RSt K H r cl st) (e : r[k]? = some a) (ha : H a = some o0) (hm : Mut (some o0)) (ho : RO K (upd H a u) r cl o a) : RSt K (upd H a u) r cl (st.set k o) := by
  refine ⟨by simp [h.len], h.nd, fun j b ob e1 e2 => ?_⟩
  by_cases hj : k = j
  · subst hj
    rw [e] at e1
    cases e1
    have hk : k < st.length := by rw [← h.len]; exact (List.getElem?_eq_some_iff.mp e).1
    rw [List.getElem?_set_self hk] at e2
    cases e2
    exact ho
  · rw [List.getElem?_set_ne hj] at e2
    exact (h.obj j b ob e1 e2).mono (Ext.write e ha hm) (upd_ne fun z => hj (nd_get h.nd e (z ▸ e1)))
theorem RSt.addr (h : RSt K H r cl st) {k : Nat} {o : O} (e : st[k]? = some o) : ∃ a, r[k]? = some a ∧ RO K H r cl o a := by
  have hk : k < r.length := by rw [h.len]; exact (List.getElem?_eq_some_iff.mp e).1
  exact ⟨r[k], by simp [hk], h.obj k _ o (by simp [hk]) e⟩
/- the younger objects are forgotten -/
mutual
theorem RD.cut (hr : ∀ (k : Nat) (a : Addr), k < r.length → r'[k]? = some a → r[k]? = some a) : ∀ {d : D} {v v' : V}, RD K H r d v → RD K H' r' d v' → RD K H' r d v'
  | .non, _, _, _, h => h
  | .bl _, _, _, _, h => h
  | .int _, _, _, _, h => h
  | .str _, _, _, _, h => h
  | .ty _, _, _, _, h => h
  | .obj k, _, _, g, h => by
    obtain ⟨a, e, h⟩ := h
    obtain ⟨b, e', _⟩ := g
    exact ⟨a, hr k a (List.getElem?_eq_some_iff.mp e').1 e, h⟩
  | .tup ds, _, _, g, h => by
    obtain ⟨a, xs, e, hs, h⟩ := h
    obtain ⟨b, ys, _, _, g⟩ := g
    exact ⟨a, xs, e, hs, RDs.cut hr g h⟩
  | .cl ds, _, _, g, h => by
    obtain ⟨a, xs, e, hs, h⟩ := h
    obtain ⟨b, ys, _, _, g⟩ := g
    exact ⟨a, xs, e, hs, RDs.cut hr g h⟩
theorem RDs.cut (hr : ∀ (k : Nat) (a : Addr), k < r.length → r'[k]? = some a → r[k]? = some a) : ∀ {ds : List D} {vs vs' : List V}, RDs K H r ds vs → RDs K H' r' ds vs' → RDs K H' r ds vs'
  | [], _, _, _, h => h
  | d :: ds, _, _, g, h => by
    obtain ⟨y, ys, e, h1, h2⟩ := h
    obtain ⟨z, zs, _, g1, g2⟩ := g
    exact ⟨y, ys, e, RD.cut hr g1 h1, RDs.cut hr g2 h2⟩
end
theorem RFs.cut (hr : ∀ (k : Nat) (a : Addr), k < r.length → r'[k]? = some a → r[k]? = some a) : ∀ {ds : List (Str × D)} {vs vs' : List (Str × V)}, RFs K H r ds vs → RFs K H' r' ds vs' → RFs K H' r ds vs'
  | [], _, _, _, h => h
  | (k, d) :: ds, _, _, g, h => by
    obtain ⟨y, ys, e, h1, h2⟩ := h
    obtain ⟨z, zs, _, g1, g2⟩ := g
    exact ⟨y, ys, e, RD.cut hr g1 h1, RFs.cut hr g2 h2⟩
theorem RKs.cut (hr : ∀ (k : Nat) (a : Addr), k < r.length → r'[k]? = some a → r[k]? = some a) : ∀ {ds : List (Key × D)} {vs vs' : List (Key × V)}, RKs K H r ds vs → RKs K H' r' ds vs' → RKs K H' r ds vs'
  | [], _, _, _, h => h
  | (k, d) :: ds, _, _, g, h => by
    obtain ⟨y, ys, e, h1, h2⟩ := h
    obtain ⟨z, zs, _, g1, g2⟩ := g
    exact ⟨y, ys, e, RD.cut hr g1 h1, RKs.cut hr g2 h2⟩
theorem RSt.cut (h : RSt K H r cl st) {more : Stt} (x : Ext H r H' r') (h' : RSt K H' r' cl (st ++ more)) : RSt K H' r cl st := by
  have hr : ∀ (k : Nat) (a : Addr), k < r.length → r'[k]? = some a → r[k]? = some a := fun k a hk e => by
    have e1 : r[k]? = some r[k] := by simp [hk]
    have e2 := x.pre k _ e1
    rw [e] at e2
    cases e2
    exact e1
  refine ⟨h.len, h.nd, fun k a o e1 e2 => ?_⟩
  have g := h.obj k a o e1 e2
  have hk := (List.getElem?_eq_some_iff.mp e2).1
  have g' := h'.obj k a o (x.pre k a e1) (by rw [List.getElem?_append_left hk]; exact e2)
  cases o with
  | lst xs =>
    obtain ⟨vs, h1, h2⟩ := g'
    obtain ⟨ws, _, g2⟩ := g
    exact ⟨vs, h1, RDs.cut hr g2 h2⟩
  | dct kvs =>
    obtain ⟨vs, h1, h2⟩ := g'
    obtain ⟨ws, _, g2⟩ := g
    exact ⟨vs, h1, RKs.cut hr g2 h2⟩
  | dcf kvs =>
    obtain ⟨o, vs, h1, h2⟩ := g'
    obtain ⟨o', ws, _, g2⟩ := g
    exact ⟨o, vs, h1, RKs.cut hr g2 h2⟩
  | ins c fs =>
    obtain ⟨dx, vs, h1, h2⟩ := g'
    obtain ⟨dy, ws, _, g2⟩ := g
    exact ⟨dx, vs, h1, RFs.cut hr g2 h2⟩
theorem Ext.cut (h : RSt K H r cl st) (x : Ext H r H' r') : Ext H r H' r := ⟨fun _ _ h => h, fun _ h => .inl h, x.keep, x.tups, x.frzs, x.frzk⟩
end
/- no object of the store within -/
mutual
def D.flat : D → Bool
  | .obj _ => false
  | .tup ds => flats ds
  | .cl ds => flats ds
  | _ => true
def flats : List D → Bool
  | [] => true
  | d :: ds => d.flat && flats ds
end
section
variable {K : PySem.W.Frag} {H H' : Hp} {r r' : List Addr}
mutual
theorem RD.flat : ∀ {d : D} {v : V}, d.flat = true → RD K H r' d v → RD K H r d v
  | .non, _, _, h => h
  | .bl _, _, _, h => h
  | .int _, _, _, h => h
  | .str _, _, _, h => h
  | .ty _, _, _, h => h
  | .obj k, _, f, _ => by cases f
  | .tup ds, _, f, h => by
    obtain ⟨a, xs, e, hs, h⟩ := h
    exact ⟨a, xs, e, hs, RDs.flat f h⟩
  | .cl ds, _, f, h => by
    obtain ⟨a, xs, e, hs, h⟩ := h
    exact ⟨a, xs, e, hs, RDs.flat f h⟩
theorem RDs.flat : ∀ {ds : List D} {vs : List V}, flats ds = true → RDs K H r' ds vs → RDs K H r ds vs
  | [], _, _, h => h
  | d :: ds, _, f, h => by
    obtain ⟨y, ys, e, h1, h2⟩ := h
    have f' : (d.flat && flats ds) = true := f
    rw [Bool.and_eq_true] at f'
    exact ⟨y, ys, e, RD.flat f'.1 h1, RDs.flat f'.2 h2⟩
end
end
end Iv

namespace Iv
open PySem L2

abbrev Lv := List (Option D)
abbrev IE := Lv → Stt → Res D
abbrev IT := Lv → Stt → Res Bool
abbrev IA := Lv → Stt → Res (List D)

/-! ### what is wanted -/
section
variable (K : PySem.W.Frag) (cl : String → Addr) (W : WX)
def RX (H : Hp) (r : List Addr) (e : Exn) (cls : Value) (d : Option Addr) : Prop := cls = .ref (cl e.c) ∧
  ((e.fs = [] ∧ d = none) ∨ ∃ dx vs, d = some dx ∧ H dx = some (.xd vs) ∧ RFs K H r e.fs vs)
/-- a result and what is wanted of it, seen from H and r -/
def Wp {α : Type} (σ : St) (H : Hp) (r : List Addr) (x : Res α) (post : α → Stt → Hp → List Addr → Prop) : Prop :=
  x.wp (fun a st' => ∀ H' r', Ext H r H' r' → RSt K H' r' cl st' → post a st' H' r')
    (fun e st' => ∀ H' r' cls d, Ext H r H' r' → RSt K H' r' cl st' → RX K cl H' r' e cls d → W cls d σ H')
structure Rn (σ : St) (H : Hp) (r : List Addr) (env : Lv) (st : Stt) : Prop where
  env : REnv K H r env σ
  st : RSt K H r cl st
def RE (f : IE) : TE := fun σ H Q => ∃ r env st, Rn K cl σ H r env st ∧ Wp K cl W σ H r (f env st) fun d _ H' r' => ∀ v, RD K H' r' d v → Q v H'
def RT (f : IT) : TT := fun σ H Q => ∃ r env st, Rn K cl σ H r env st ∧ Wp K cl W σ H r (f env st) fun b _ H' _ => Q b H'
def RA (f : IA) : TA := fun σ H Q => ∃ r env st, Rn K cl σ H r env st ∧ Wp K cl W σ H r (f env st) fun ds _ H' r' => ∀ vs, RDs K H' r' ds vs → Q vs H'
/-- what a step without exceptions gives -/
def WpO {α : Type} (H : Hp) (r : List Addr) (x : Option (α × Stt)) (post : α → Stt → Hp → List Addr → Prop) : Prop :=
  ∃ a st', x = some (a, st') ∧ ∀ H' r', Ext H r H' r' → RSt K H' r' cl st' → post a st' H' r'
end
section
variable {K : PySem.W.Frag} {cl : String → Addr} {W : WX} {σ : St} {H : Hp} {r : List Addr} {env : Lv} {st : Stt}
theorem Wp.mono {α : Type} {x : Res α} {post post' : α → Stt → Hp → List Addr → Prop} (h : Wp K cl W σ H r x post)
    (m : ∀ a st' H' r', Ext H r H' r' → RSt K H' r' cl st' → post a st' H' r' → post' a st' H' r') : Wp K cl W σ H r x post' :=
  wp_mono h (fun a st' q H' r' x s => m a st' H' r' x s (q H' r' x s)) fun _ _ q => q
theorem Wp.bind {α β : Type} {x : Res α} {f : α → Stt → Res β} {post : β → Stt → Hp → List Addr → Prop} (h : Wp K cl W σ H r (x.bind f) post) :
    Wp K cl W σ H r x fun a st' H' r' => Wp K cl W σ H' r' (f a st') post := by
  unfold Wp at h
  rw [wp_bind] at h
  refine wp_mono h (fun a st' q H' r' x s => ?_) fun _ _ q => q
  exact wp_mono q (fun b st'' q2 H'' r'' x2 s2 => q2 H'' r'' (x.trans x2) s2) fun e st'' q2 H'' r'' cls d x2 s2 rx => q2 H'' r'' cls d (x.trans x2) s2 rx
theorem Wp.ofO {α : Type} {x : Option (α × Stt)} {post : α → Stt → Hp → List Addr → Prop} (h : Wp K cl W σ H r (ofO x) post) : WpO K cl H r x post := wp_ofO h
theorem Wp.ok {α : Type} {a : α} {post : α → Stt → Hp → List Addr → Prop} (h : Wp K cl W σ H r (.ok a st) post) (s : RSt K H r cl st) : post a st H r := h H r (Ext.refl H r) s
theorem Rn.to {H' : Hp} {r' : List Addr} {st' : Stt} (n : Rn K cl σ H r env st) (x : Ext H r H' r') (s : RSt K H' r' cl st') : Rn K cl σ H' r' env st' := ⟨n.env.mono x, s⟩
end

/-! ### judgements weakened -/
section
variable {X : Cx} {e : Expr} {es : List Expr}
theorem pe_imp {t t' : TE} (h : PE X e t) (m : ∀ σ H Q, t' σ H Q → t σ H Q) : PE X e t' := ⟨fun pins s σ H Q I w => h.run pins s σ H Q I (m σ H Q w)⟩
theorem pt_imp {t t' : TT} (h : PT X e t) (m : ∀ σ H Q, t' σ H Q → t σ H Q) : PT X e t' := ⟨fun pins s σ H Q I w => h.run pins s σ H Q I (m σ H Q w)⟩
theorem pw_imp {t t' : TT} (h : PW X e t) (m : ∀ σ H Q, t' σ H Q → t σ H Q) : PW X e t' := ⟨fun wh pins s σ H Q I w => h.run wh pins s σ H Q I (m σ H Q w)⟩
theorem pa_imp {t t' : TA} (h : PA X es t) (m : ∀ σ H Q, t' σ H Q → t σ H Q) : PA X es t' := ⟨fun pos pins s σ H Q I w => h.run pos pins s σ H Q I (m σ H Q w)⟩
theorem op_imp {f : Value → Value → Sem Value} {t t' : R2} (h : OpR X f t) (m : ∀ x y H Q, t' x y H Q → t x y H Q) : OpR X f t' := fun pins s σ H x y v u Q I rx ry w => h pins s σ H x y v u Q I rx ry (m x y H Q w)
theorem un_imp {f : Value → Sem Value} {t t' : V → Hp → VK → Prop} (h : UnR X f t) (m : ∀ x H Q, t' x H Q → t x H Q) : UnR X f t' := fun pins s σ H x v Q I rx w => h pins s σ H x v Q I rx (m x H Q w)
theorem ix_imp {t t' : R2} (h : IxR X t) (m : ∀ x y H Q, t' x y H Q → t x y H Q) : IxR X t' := fun a b pins s σ H x y v u Q I rx ry w hs => h a b pins s σ H x y v u Q I rx ry (m x y H Q w) hs
theorem call_imp {f : Value} {t t' : List V → Hp → VK → Prop} (h : CallR X f t) (m : ∀ xs H Q, t' xs H Q → t xs H Q) : CallR X f t' := fun pins s σ H xs us Q I rx w => h pins s σ H xs us Q I rx (m xs H Q w)
theorem mt_imp {id : String} {t t' : V → List V → Hp → VK → Prop} (h : MtR X id t) (m : ∀ x xs H Q, t' x xs H Q → t x xs H Q) : MtR X id t' := fun pins s σ H x xs v us Q I rx rs w => h pins s σ H x xs v us Q I rx rs (m x xs H Q w)
theorem set_imp {t t' : TSet} (h : PSet X t) (m : ∀ o i v H Q, t' o i v H Q → t o i v H Q) : PSet X t' := fun pins s σ H o i v ov iv u Q I ro ri rv w => h pins s σ H o i v ov iv u Q I ro ri rv (m o i v H Q w)
theorem set_or {t t' : TSet} (h : PSet X t) (h' : PSet X t') : PSet X (fun o i v H Q => t o i v H Q ∨ t' o i v H Q) := fun pins s σ H o i v ov iv u Q I ro ri rv w => w.elim (h pins s σ H o i v ov iv u Q I ro ri rv) (h' pins s σ H o i v ov iv u Q I ro ri rv)
end

/-! ### steps by values -/
abbrev P1 := D → Stt → Option (D × Stt)
abbrev P2 := D → D → Stt → Option (D × Stt)
abbrev PN := List D → Stt → Option (D × Stt)
section
variable (K : PySem.W.Frag) (cl : String → Addr)
def R1 (g : P1) : V → Hp → VK → Prop := fun x H Q => ∃ r st dx, RSt K H r cl st ∧ RD K H r dx x ∧ WpO K cl H r (g dx st) fun d _ H' r' => ∀ v, RD K H' r' d v → Q v H'
def RR (g : P2) : R2 := fun x y H Q => ∃ r st dx dy, RSt K H r cl st ∧ RD K H r dx x ∧ RD K H r dy y ∧ WpO K cl H r (g dx dy st) fun d _ H' r' => ∀ v, RD K H' r' d v → Q v H'
def RN (g : PN) : List V → Hp → VK → Prop := fun xs H Q => ∃ r st ds, RSt K H r cl st ∧ RDs K H r ds xs ∧ WpO K cl H r (g ds st) fun d _ H' r' => ∀ v, RD K H' r' d v → Q v H'
def RM (g : D → PN) : V → List V → Hp → VK → Prop := fun x xs H Q => ∃ r st dx ds, RSt K H r cl st ∧ RD K H r dx x ∧ RDs K H r ds xs ∧ WpO K cl H r (g dx ds st) fun d _ H' r' => ∀ v, RD K H' r' d v → Q v H'
end

/-! ### tuples made -/
section
variable {X : Cx} {es : List Expr} {ta : TA} {pos : Pos}
theorem laidT {pins : List (Addr × Obj)} {σ : St} {H : Hp} {s : Shared} {xs : List V} {its : List Value} (I : Inv X pins σ H s) (rv : Vals xs its) (hz : xs.length ≤ sizeLine) :
    Inv X pins σ (upd H s.heap.objs.size (.frz { cls := .type "tuple", data := .seq its.toArray } (.tup xs))) { s with heap := s.heap.push { cls := .type "tuple", data := .seq its.toArray } } := by
  refine I.laid (t' := s.toks) (fun b u e => Heap.get?_push_of_some _ e) (Nat.le_refl _) ⟨Heap.get?_push_size _ rfl, ?_⟩
  exact ⟨hz, its, rv, PyProof.Rows.IsTup.new _ _⟩
/-- a new tuple at p -/
def NewT (H : Hp) (xs : List V) (Q : VK) : Prop := ∀ p o, H p = none → o.dict = none → Q (.ref p) (upd H p (.frz o (.tup xs)))
def tTupF (t : TA) : TE := fun σ H Q => t σ H fun xs H1 => xs.length ≤ sizeLine ∧ NewT H1 xs Q
theorem pe_tupF {x1} (h : PA X es ta) : PE X (.Tuple es x1 pos) (tTupF ta) := by
  refine ⟨fun pins s σ H Q I hq => ?_⟩
  refine PySem.wpAny_Tuple_spliced (thn (h.run pos pins s σ H _ I hq) fun us s1 ⟨xs, H1, I1, rv, z, q⟩ => ⟨by have := rv.length; omega, ?_⟩)
  exact ⟨.ref s1.heap.objs.size, _, laidT I1 rv z, rfl, q _ _ (I1.hok.fresh (Nat.le_refl _)) rfl⟩
def rCatF (K : PySem.W.Frag) : R2 := fun x y H Q => ∃ a b xs ys, x = .ref a ∧ y = .ref b ∧ SqT K H a xs ∧ SqT K H b ys ∧ xs.length + ys.length ≤ sizeLine ∧
  (xs = [] → Q (.ref b) H) ∧ (xs ≠ [] → ys = [] → Q (.ref a) H) ∧ NewT H (xs ++ ys) Q
theorem op_catF : OpR X (binaryOp .Add) (rCatF X.K) := by
  intro pins s σ H x y v u Q I rx ry h
  obtain ⟨a, b, xs, ys, rfl, rfl, ha, hb, hz, q0, q1, q2⟩ := h
  obtain rfl : v = Value.ref a := rx
  obtain rfl : u = Value.ref b := ry
  obtain ⟨its, r1, p1, _⟩ := I.tuple ha
  obtain ⟨its2, r2, p2, _⟩ := I.tuple hb
  by_cases hx : xs = []
  · subst hx
    cases r1
    exact cat_tup0 p1 p2 ⟨.ref b, H, I, rfl, q0 rfl⟩
  · refine HT.cat_tup p1 p2 (fun z => hx (r1.nil_iff.mp z)) (fun z => ⟨.ref a, H, I, rfl, q1 hx (r2.nil_iff.mp z)⟩) (fun z => ?_) (by have := r1.length; have := r2.length; omega)
    exact ⟨.ref s.heap.objs.size, _, laidT I (r1.append r2) (by rw [List.length_append]; exact hz), rfl, q2 _ _ (I.hok.fresh (Nat.le_refl _)) rfl⟩
def rTupF (K : PySem.W.Frag) : List V → Hp → VK → Prop := fun xs H Q => ∃ p ys, xs = [.ref p] ∧ ((SqL K H p ys ∧ NewT H ys Q) ∨ (SqT K H p ys ∧ Q (.ref p) H))
theorem call_tupF : CallR X (.type "tuple") (rTupF X.K) := by
  intro pins s σ H xs us Q I rv h
  obtain ⟨p, ys, rfl, h⟩ := h
  obtain ⟨u, rfl, rx⟩ := vals1 rv
  obtain rfl : u = Value.ref p := rx
  rcases h with ⟨hq, q⟩ | ⟨hq, q⟩
  · obtain ⟨its, r', pl, hz⟩ := I.list hq
    refine PySem.call_tuple_list pl.isList (fun h' kp => ?_) (by have := r'.length; simp only [List.size_toArray]; omega)
    have I1 : Inv X pins σ H { s with heap := h' } := I.kept (t' := s.toks) kp
    exact ⟨.ref h'.objs.size, _, laidT I1 r' hz, rfl, q _ _ (I1.hok.fresh (Nat.le_refl _)) rfl⟩
  · obtain ⟨its, r', pl, hz⟩ := I.tuple hq
    exact PySem.call_tuple_same pl ⟨.ref p, H, I, rfl, q⟩
def rSlF (K : PySem.W.Frag) : V → Option Int → Option Int → Hp → VK → Prop := fun x lo hi H Q => ∃ a xs, x = .ref a ∧ SqT K H a xs ∧
  (HT.sIx xs.length 0 lo = 0 ∧ HT.sIx xs.length xs.length hi = xs.length → Q (.ref a) H) ∧ NewT H (cutV xs lo hi) Q
theorem sl_tupF : SlR X (rSlF X.K) := by
  intro pins s σ H x v vl vu lo hi sl Q I rx hs pl pu h
  obtain ⟨a, xs, rfl, hx, q1, q2⟩ := h
  obtain rfl : v = Value.ref a := rx
  obtain ⟨its, rv, ht, hz⟩ := I.tuple hx
  have hlen : its.toArray.size = xs.length := by rw [List.size_toArray]; exact rv.length.symm
  refine ⟨"tuple", _, PyProof.Rows.slot_tuple_getitem.lookup, ht.typeIs, ?_⟩
  by_cases hw : HT.sIx xs.length 0 lo = 0 ∧ HT.sIx xs.length xs.length hi = xs.length
  · exact getItem_tuple_whole ht hs pl pu (by rw [hlen]; exact hw) ⟨.ref a, H, I, rfl, q1 hw⟩
  · refine HT.getItem_tuple_cut ht hs pl pu (by rw [hlen]; exact hw) ?_ (by rw [hlen]; exact hz)
    rw [hlen]
    exact ⟨.ref s.heap.objs.size, _, laidT I ((rv.drop (HT.sIx xs.length 0 lo)).take (HT.sIx xs.length xs.length hi - HT.sIx xs.length 0 lo)) (Nat.le_trans (cutV_length xs lo hi) hz), rfl, q2 _ _ (I.hok.fresh (Nat.le_refl _)) rfl⟩
end

/-! ### expressions -/
def eVar (i : Nat) : IE := fun env st => match env[i]? with
  | some (some d) => .ok d st
  | _ => .no
def eC (d : D) : IE := fun _ st => .ok d st
def eOp (g : P2) (fa fb : IE) : IE := fun env st => (fa env st).bind fun x st1 => (fb env st1).bind fun y st2 => ofO (g x y st2)
def eUn (g : P1) (fa : IE) : IE := fun env st => (fa env st).bind fun x st1 => ofO (g x st1)
def eIf (ft : IT) (fa fb : IE) : IE := fun env st => (ft env st).bind fun b st1 => if b then fa env st1 else fb env st1
def aNil : IA := fun _ st => .ok [] st
def aCons (fa : IE) (fr : IA) : IA := fun env st => (fa env st).bind fun x st1 => (fr env st1).bind fun xs st2 => .ok (x :: xs) st2
def eTup (fa : IA) : IE := fun env st => (fa env st).bind fun xs st1 => if xs.length ≤ 100000 then .ok (.tup xs) st1 else .no
def eLst (fa : IA) : IE := fun env st => (fa env st).bind fun xs st1 => if xs.length ≤ 100000 then .ok (.obj st1.length) (st1 ++ [.lst xs]) else .no
def eCB (g : PN) (fa : IA) : IE := fun env st => (fa env st).bind fun xs st1 => ofO (g xs st1)
def eMt (g : D → PN) (fo : IE) (fa : IA) : IE := fun env st => (fo env st).bind fun x st1 => (fa env st1).bind fun xs st2 => ofO (g x xs st2)
section
variable {X : Cx} {cl : String → Addr} {W : WX} {a b c e : Expr} {es : List Expr} {fa fb fe : IE} {ft : IT} {fr : IA} {pos p apos : Pos}
theorem sz_of {n : Nat} (h : n ≤ 100000) : n ≤ sizeLine := by rw [sizeLine_eq]; omega
theorem iv {i : Nat} {x : Str} (h : PE X (.Name x pos) (tVar i)) : PE X (.Name x pos) (RE X.K cl W (eVar i)) := by
  refine pe_imp h fun σ H Q ⟨r, env, st, n, w⟩ => ?_
  unfold eVar at w
  split at w
  · rename_i d hd
    obtain ⟨v, e1, e2⟩ := n.env.get hd
    exact ⟨v, e1, w.ok n.st v e2⟩
  · exact w.elim
/-- a constant: d tells v whatever stands -/
theorem ic {v : V} {d : D} (h : PE X e (tC v)) (hd : ∀ H r, RD X.K H r d v) : PE X e (RE X.K cl W (eC d)) := by
  refine pe_imp h fun σ H Q ⟨r, env, st, n, w⟩ => ?_
  exact w.ok n.st v (hd H r)
theorem i_int {i : Int} {j} : PE X (.Constant (.int i) j pos) (RE X.K cl W (eC (.int i))) := ic pe_int fun _ _ => rfl
theorem i_bl {i : Bool} {j} : PE X (.Constant (.bool i) j pos) (RE X.K cl W (eC (.bl i))) := ic pe_bl fun _ _ => rfl
theorem i_str {i : Str} {j} : PE X (.Constant (.str i) j pos) (RE X.K cl W (eC (.str i))) := ic pe_str fun _ _ => rfl
theorem i_non {j} : PE X (.Constant .none j pos) (RE X.K cl W (eC .non)) := ic pe_non fun _ _ => rfl
/-- two in a row, over a step by values -/
theorem two {g : P2} {σ : St} {H : Hp} {Q : VK} (h : RE X.K cl W (eOp g fa fb) σ H Q) : RE X.K cl W fa σ H fun x H1 => RE X.K cl W fb σ H1 fun y H2 => RR X.K cl g x y H2 Q := by
  obtain ⟨r, env, st, n, w⟩ := h
  refine ⟨r, env, st, n, (Wp.bind w).mono fun x st1 H1 r1 x1 s1 w1 v1 d1 => ?_⟩
  refine ⟨r1, env, st1, n.to x1 s1, (Wp.bind w1).mono fun y st2 H2 r2 x2 s2 w2 v2 d2 => ?_⟩
  exact ⟨r2, st2, x, y, s2, d1.mono x2, d2, w2.ofO⟩
theorem i_op {op : Operator} {g : P2} (ho : OpR X (binaryOp op) (RR X.K cl g)) (ha : PE X a (RE X.K cl W fa)) (hb : PE X b (RE X.K cl W fb)) : PE X (.BinOp a op b pos) (RE X.K cl W (eOp g fa fb)) :=
  pe_imp (pe_op ho ha hb) fun _ _ _ h => two h
theorem i_cmp {op : CmpOp} {g : P2} (ho : OpR X (compareOp op) (RR X.K cl g)) (ha : PE X a (RE X.K cl W fa)) (hb : PE X b (RE X.K cl W fb)) (hm : behindInMarks op b = false) : PE X (.Compare a [op] [b] pos) (RE X.K cl W (eOp g fa fb)) :=
  pe_imp (pe_cmpR ho ha hb hm) fun _ _ _ h => two h
theorem i_ix {g : P2} (ho : IxR X (RR X.K cl g)) (ha : PE X a (RE X.K cl W fa)) (hb : PE X b (RE X.K cl W fb)) (hs : PlainIx b) : PE X (.Subscript a b pos) (RE X.K cl W (eOp g fa fb)) :=
  pe_imp (pe_ix ho ha hb hs) fun _ _ _ h => two h
theorem i_un {op : UnaryOp} {g : P1} (ho : UnR X (unaryOp op) (R1 X.K cl g)) (ha : PE X a (RE X.K cl W fa)) : PE X (.UnaryOp op a pos) (RE X.K cl W (eUn g fa)) := by
  refine pe_imp (pe_un ho ha) fun σ H Q ⟨r, env, st, n, w⟩ => ?_
  exact ⟨r, env, st, n, (Wp.bind w).mono fun x st1 H1 r1 x1 s1 w1 v1 d1 => ⟨r1, st1, x, s1, d1, w1.ofO⟩⟩
theorem i_if (hc : PT X c (RT X.K cl W ft)) (ha : PE X a (RE X.K cl W fa)) (hb : PE X b (RE X.K cl W fb)) : PE X (.IfExp c a b pos) (RE X.K cl W (eIf ft fa fb)) := by
  refine pe_imp (pe_ifExp hc ha hb) fun σ H Q ⟨r, env, st, n, w⟩ => ?_
  refine ⟨r, env, st, n, (Wp.bind w).mono fun x st1 H1 r1 x1 s1 w1 => ?_⟩
  cases x with
  | true => exact ⟨r1, env, st1, n.to x1 s1, w1⟩
  | false => exact ⟨r1, env, st1, n.to x1 s1, w1⟩
theorem ia_nil : PA X [] (RA X.K cl W aNil) := pa_imp pa_nil fun σ H Q ⟨r, env, st, n, w⟩ => w.ok n.st [] rfl
theorem ia_cons (ha : PE X e (RE X.K cl W fe)) (hr : PA X es (RA X.K cl W fr)) (hs : starEach (e :: es) X.env = (false, eval e X.env) :: starEach es X.env := by rfl) : PA X (e :: es) (RA X.K cl W (aCons fe fr)) := by
  refine pa_imp (pa_cons ha hr hs) fun σ H Q ⟨r, env, st, n, w⟩ => ?_
  refine ⟨r, env, st, n, (Wp.bind w).mono fun x st1 H1 r1 x1 s1 w1 v1 d1 => ?_⟩
  refine ⟨r1, env, st1, n.to x1 s1, (Wp.bind w1).mono fun xs st2 H2 r2 x2 s2 w2 vs ds => ?_⟩
  exact w2.ok s2 (v1 :: vs) ⟨v1, vs, rfl, d1.mono x2, ds⟩
theorem i_tup {x1} (h : PA X es (RA X.K cl W fr)) : PE X (.Tuple es x1 pos) (RE X.K cl W (eTup fr)) := by
  refine pe_imp (pe_tupF h) fun σ H Q ⟨r, env, st, n, w⟩ => ?_
  refine ⟨r, env, st, n, (Wp.bind w).mono fun xs st1 H1 r1 x1 s1 w1 vs ds => ?_⟩
  by_cases hl : xs.length ≤ 100000
  · rw [if_pos hl] at w1
    refine ⟨by rw [ds.length]; exact sz_of hl, fun p o hp ho => ?_⟩
    exact w1 _ r1 (Ext.beside hp) (s1.beside hp) _ (RD.tup hp ho ds)
  · rw [if_neg hl] at w1
    exact w1.elim
theorem i_lst (h : PA X es (RA X.K cl W fr)) : PE X (.List es pos) (RE X.K cl W (eLst fr)) := by
  refine pe_imp (pe_lst h) fun σ H Q ⟨r, env, st, n, w⟩ => ?_
  refine ⟨r, env, st, n, (Wp.bind w).mono fun xs st1 H1 r1 x1 s1 w1 vs ds => ?_⟩
  by_cases hl : xs.length ≤ 100000
  · rw [if_pos hl] at w1
    refine ⟨by rw [ds.length]; exact sz_of hl, fun p hp => ?_⟩
    exact w1 _ _ (Ext.made hp) (s1.made hp ⟨vs, upd_same, ds.mono (Ext.made hp)⟩) _ ⟨p, by rw [← s1.len]; exact get_new r1 p, rfl⟩
  · rw [if_neg hl] at w1
    exact w1.elim
/-- a builtin by its name -/
theorem cb_in {g : PN} {σ : St} {H : Hp} {Q : VK} (h : RE X.K cl W (eCB g fr) σ H Q) : RA X.K cl W fr σ H fun vs H1 => RN X.K cl g vs H1 Q := by
  obtain ⟨r, env, st, n, w⟩ := h
  exact ⟨r, env, st, n, (Wp.bind w).mono fun xs st1 H1 r1 x1 s1 w1 vs ds => ⟨r1, st1, xs, s1, ds, w1.ofO⟩⟩
theorem i_callB {id : String} {x : Str} {g : PN} (hc : CallR X (.builtin id) (RN X.K cl g)) (hg : Gl X x) (hm : X.mg x = none) (hv : bootBuiltins x = some (.builtin id)) (ha : PA X (e :: es) (RA X.K cl W fr)) (hn : x ≠ "__name__" := by decide)
    (hdb : (x == ("__debug__" : Str)) = false := by decide) (he : starEach (e :: es) X.env = (false, eval e X.env) :: starEach es X.env := by rfl) (hpl : (backTo pos (starEach es X.env)).any (·.1) = false := by rfl) :
    PE X (.Call (.Name x p) (e :: es) [] pos) (RE X.K cl W (eCB g fr)) := pe_imp (pe_callB hc hg hm hv ha hn hdb he hpl) fun _ _ _ h => cb_in h
theorem i_callT {T : String} {x : Str} {g : PN} (hc : CallR X (.type T) (RN X.K cl g)) (hg : Gl X x) (hm : X.mg x = none) (hv : bootBuiltins x = some (.type T)) (ha : PA X (e :: es) (RA X.K cl W fr)) (hn : x ≠ "__name__" := by decide)
    (hdb : (x == ("__debug__" : Str)) = false := by decide) (he : starEach (e :: es) X.env = (false, eval e X.env) :: starEach es X.env := by rfl) (hpl : (backTo pos (starEach es X.env)).any (·.1) = false := by rfl) :
    PE X (.Call (.Name x p) (e :: es) [] pos) (RE X.K cl W (eCB g fr)) := pe_imp (pe_callTy hc hg hm hv ha hn hdb he hpl) fun _ _ _ h => cb_in h
end
end Iv

namespace Iv
open PySem L2

/-! ### tests -/
def gTruth (x : D) (st : Stt) : Option Bool := match x with
  | .non => some false
  | .bl b => some b
  | .int i => some (i != 0)
  | .str y => if y.length ≤ sizeLine then some ((y.length : Int) != 0) else none
  | .tup xs => some (!xs.isEmpty)
  | .cl xs => some (!xs.isEmpty)
  | .obj k => match st[k]? with
    | some (.lst xs) => some (!xs.isEmpty)
    | some (.dct kvs) => some (!kvs.isEmpty)
    | _ => none
  | .ty _ => none
def tTruth (fa : IE) : IT := fun env st => (fa env st).bind fun x st1 => match gTruth x st1 with
  | some b => .ok b st1
  | none => .no
def tBool (fa : IE) : IT := fun env st => (fa env st).bind fun x st1 => match x with
  | .bl b => .ok b st1
  | _ => .no
def tAndI (ft fu : IT) : IT := fun env st => (ft env st).bind fun b st1 => if b then fu env st1 else .ok false st1
def tOrI (ft fu : IT) : IT := fun env st => (ft env st).bind fun b st1 => if b then .ok true st1 else fu env st1
def tNotI (ft : IT) : IT := fun env st => (ft env st).bind fun b st1 => .ok (!b) st1
def eAnd (fa fb : IE) : IE := fun env st => (fa env st).bind fun x st1 => match gTruth x st1 with
  | some b => if b then fb env st1 else .ok x st1
  | none => .no
def eOr (fa fb : IE) : IE := fun env st => (fa env st).bind fun x st1 => match gTruth x st1 with
  | some b => if b then .ok x st1 else fb env st1
  | none => .no
def eNot (fa : IE) : IE := fun env st => (fa env st).bind fun x st1 => match gTruth x st1 with
  | some b => .ok (.bl (!b)) st1
  | none => .no
def eChain (g g' : P2) (fa fb fc : IE) : IE := fun env st => (fa env st).bind fun x st1 => (fb env st1).bind fun y st2 => (ofO (g x y st2)).bind fun z st3 => match z with
  | .bl true => (fc env st3).bind fun w st4 => ofO (g' y w st4)
  | .bl false => .ok (.bl false) st3
  | _ => .no
section
variable {K : PySem.W.Frag} {cl : String → Addr} {H : Hp} {r : List Addr} {st : Stt}
theorem empty_ds : ∀ {ds : List D} {vs : List V}, RDs K H r ds vs → vs.isEmpty = ds.isEmpty
  | [], _, h => by cases h; rfl
  | d :: ds, _, h => by obtain ⟨y, ys, rfl, _, _⟩ := h; rfl
theorem empty_ks : ∀ {ds : List (Key × D)} {vs : List (Key × V)}, RKs K H r ds vs → vs.isEmpty = ds.isEmpty
  | [], _, h => by cases h; rfl
  | (k, d) :: ds, _, h => by obtain ⟨y, ys, rfl, _, _⟩ := h; rfl
theorem truth_of {x : D} {v : V} {b : Bool} (s : RSt K H r cl st) (h : RD K H r x v) (e : gTruth x st = some b) : TruV K v H b := by
  cases x with
  | non => cases h; exact (Option.some.inj e).symm
  | bl c => cases h; exact (Option.some.inj e).symm
  | int i => cases h; exact (Option.some.inj e).symm
  | str y =>
    cases h
    unfold gTruth at e
    simp only at e
    split at e
    · rename_i hl
      exact ⟨hl, (Option.some.inj e).symm⟩
    · cases e
  | ty n => cases e
  | tup ds =>
    obtain ⟨a, xs, rfl, hs, hd⟩ := h
    refine .inr (.inl ⟨xs, hs.t, ?_⟩)
    rw [empty_ds hd]
    exact (Option.some.inj e).symm
  | cl ds =>
    obtain ⟨a, xs, rfl, hs, hd⟩ := h
    refine .inl ⟨xs, hs.l, ?_⟩
    rw [empty_ds hd]
    exact (Option.some.inj e).symm
  | obj k =>
    obtain ⟨a, ea, rfl⟩ := h
    unfold gTruth at e
    simp only at e
    cases q : st[k]? with
    | none => rw [q] at e; cases e
    | some o =>
      rw [q] at e
      have ho := s.obj k a o ea q
      cases o with
      | lst xs =>
        obtain ⟨vs, h1, h2⟩ := ho
        refine .inl ⟨vs, SqL.of h1, ?_⟩
        rw [empty_ds h2]
        exact (Option.some.inj e).symm
      | dct kvs =>
        obtain ⟨vs, h1, h2⟩ := ho
        refine .inr (.inr ⟨vs, h1, ?_⟩)
        rw [empty_ks h2]
        exact (Option.some.inj e).symm
      | dcf kvs => cases e
      | ins c fs => cases e
end
section
variable {X : Cx} {cl : String → Addr} {W : WX} {a b c e : Expr} {rest : List Expr} {fa fb fc fe : IE} {ft fu : IT} {pos : Pos}
theorem tru_in {σ : St} {H : Hp} {Q : Bool → Hp → Prop} (h : RT X.K cl W (tTruth fa) σ H Q) : RE X.K cl W fa σ H fun x H' => ∃ k, TruV X.K x H' k ∧ Q k H' := by
  obtain ⟨r, env, st, n, w⟩ := h
  refine ⟨r, env, st, n, (Wp.bind w).mono fun x st1 H1 r1 x1 s1 w1 v1 d1 => ?_⟩
  cases q : gTruth x st1 with
  | none => rw [q] at w1; exact w1.elim
  | some k =>
    rw [q] at w1
    exact ⟨k, truth_of s1 d1 q, w1.ok s1⟩
theorem it_truth (ha : PE X a (RE X.K cl W fa)) (he : ∀ whole, isTrue a X.env whole = (do let v ← whole; standAt a.pos; holding [v] (truthy v)) := by intro _; rfl) : PT X a (RT X.K cl W (tTruth fa)) :=
  pt_imp (pt_truth ha he) fun _ _ _ h => tru_in h
theorem bool_in {σ : St} {H : Hp} {Q : Bool → Hp → Prop} (h : RT X.K cl W (tBool fa) σ H Q) : RE X.K cl W fa σ H fun x H' => ∃ k, x = .bl k ∧ Q k H' := by
  obtain ⟨r, env, st, n, w⟩ := h
  refine ⟨r, env, st, n, (Wp.bind w).mono fun x st1 H1 r1 x1 s1 w1 v1 d1 => ?_⟩
  cases x with
  | bl k => cases d1; exact ⟨k, rfl, w1.ok s1⟩
  | _ => exact w1.elim
theorem it_cmp {op : CmpOp} {g : P2} (ho : OpR X (compareOp op) (RR X.K cl g)) (ha : PE X a (RE X.K cl W fa)) (hb : PE X b (RE X.K cl W fb)) (hm : behindInMarks op b = false) : PT X (.Compare a [op] [b] pos) (RT X.K cl W (tBool (eOp g fa fb))) :=
  pt_imp (pt_cmpR ho ha hb hm) fun _ _ _ h => two (bool_in h)
theorem three {g g' : P2} {σ : St} {H : Hp} {Q : VK} (h : RE X.K cl W (eChain g g' fa fb fc) σ H Q) : tChain (RR X.K cl g) (RR X.K cl g') (RE X.K cl W fa) (RE X.K cl W fb) (RE X.K cl W fc) σ H Q := by
  obtain ⟨r, env, st, n, w⟩ := h
  refine ⟨r, env, st, n, (Wp.bind w).mono fun x st1 H1 r1 x1 s1 w1 v1 d1 => ?_⟩
  refine ⟨r1, env, st1, n.to x1 s1, (Wp.bind w1).mono fun y st2 H2 r2 x2 s2 w2 v2 d2 => ?_⟩
  obtain ⟨z, st3, e3, w3⟩ := (Wp.bind w2).ofO
  refine ⟨r2, st2, x, y, s2, d1.mono x2, d2, z, st3, e3, fun H3 r3 x3 s3 v3 d3 => ?_⟩
  have w3 := w3 H3 r3 x3 s3
  cases z with
  | bl k =>
    cases d3
    cases k with
    | true =>
      refine ⟨true, rfl, iteT ?_⟩
      refine ⟨r3, env, st3, (n.to x1 s1).to (x2.trans x3) s3, (Wp.bind w3).mono fun u st4 H4 r4 x4 s4 w4 v4 d4 => ?_⟩
      exact ⟨r4, st4, y, u, s4, d2.mono (x3.trans x4), d4, w4.ofO⟩
    | false => exact ⟨false, rfl, iteF (w3.ok s3 _ rfl)⟩
  | _ => exact w3.elim
theorem i_chain {op op' : CmpOp} {g g' : P2} (ho : OpR X (compareOp op) (RR X.K cl g)) (ho' : OpR X (compareOp op') (RR X.K cl g')) (ha : PE X a (RE X.K cl W fa)) (hb : PE X b (RE X.K cl W fb)) (hc : PE X c (RE X.K cl W fc))
    (hm : lastMarks [op, op'] [b, c] = false := by with_unfolding_all rfl) : PE X (.Compare a [op, op'] [b, c] pos) (RE X.K cl W (eChain g g' fa fb fc)) := pe_imp (pe_chain ho ho' ha hb hc hm) fun _ _ _ h => three h
theorem it_chain {op op' : CmpOp} {g g' : P2} (ho : OpR X (compareOp op) (RR X.K cl g)) (ho' : OpR X (compareOp op') (RR X.K cl g')) (ha : PE X a (RE X.K cl W fa)) (hb : PE X b (RE X.K cl W fb)) (hc : PE X c (RE X.K cl W fc))
    (hm : lastMarks [op, op'] [b, c] = false := by with_unfolding_all rfl) : PT X (.Compare a [op, op'] [b, c] pos) (RT X.K cl W (tBool (eChain g g' fa fb fc))) := pt_imp (pt_chain ho ho' ha hb hc hm) fun _ _ _ h => three (bool_in h)
theorem iw_and1 (ha : PT X a (RT X.K cl W ft)) : PW X (.BoolOp .And [a] pos) (RT X.K cl W ft) := pw_and1 ha
theorem iw_or1 (ha : PT X a (RT X.K cl W ft)) : PW X (.BoolOp .Or [a] pos) (RT X.K cl W ft) := pw_or1 ha
theorem iw_and (ha : PT X a (RT X.K cl W ft)) (hb : PW X (.BoolOp .And (b :: rest) pos) (RT X.K cl W fu)) : PW X (.BoolOp .And (a :: b :: rest) pos) (RT X.K cl W (tAndI ft fu)) := by
  refine pw_imp (pw_and ha hb) fun σ H Q ⟨r, env, st, n, w⟩ => ?_
  refine ⟨r, env, st, n, (Wp.bind w).mono fun x st1 H1 r1 x1 s1 w1 => ?_⟩
  cases x with
  | true => exact iteT ⟨r1, env, st1, n.to x1 s1, w1⟩
  | false => exact iteF (w1.ok s1)
theorem iw_or (ha : PT X a (RT X.K cl W ft)) (hb : PW X (.BoolOp .Or (b :: rest) pos) (RT X.K cl W fu)) : PW X (.BoolOp .Or (a :: b :: rest) pos) (RT X.K cl W (tOrI ft fu)) := by
  refine pw_imp (pw_or ha hb) fun σ H Q ⟨r, env, st, n, w⟩ => ?_
  refine ⟨r, env, st, n, (Wp.bind w).mono fun x st1 H1 r1 x1 s1 w1 => ?_⟩
  cases x with
  | true => exact iteT (w1.ok s1)
  | false => exact iteF ⟨r1, env, st1, n.to x1 s1, w1⟩
theorem it_not (ha : PT X a (RT X.K cl W ft)) : PT X (.UnaryOp .Not a pos) (RT X.K cl W (tNotI ft)) := by
  refine pt_imp (pt_not ha) fun σ H Q ⟨r, env, st, n, w⟩ => ?_
  exact ⟨r, env, st, n, (Wp.bind w).mono fun x st1 H1 r1 x1 s1 w1 => w1.ok s1⟩
theorem i_one {op} (ha : PE X a (RE X.K cl W fa)) : PE X (.BoolOp op [a] pos) (RE X.K cl W fa) := pe_one ha
theorem i_and (ha : PE X a (RE X.K cl W fa)) (hb : PE X (.BoolOp .And (b :: rest) pos) (RE X.K cl W fb)) : PE X (.BoolOp .And (a :: b :: rest) pos) (RE X.K cl W (eAnd fa fb)) := by
  refine pe_imp (pe_andT ha hb) fun σ H Q ⟨r, env, st, n, w⟩ => ?_
  refine ⟨r, env, st, n, (Wp.bind w).mono fun x st1 H1 r1 x1 s1 w1 v1 d1 => ?_⟩
  cases q : gTruth x st1 with
  | none => rw [q] at w1; exact w1.elim
  | some k =>
    rw [q] at w1
    refine ⟨k, truth_of s1 d1 q, ?_⟩
    cases k with
    | true => exact iteT ⟨r1, env, st1, n.to x1 s1, w1⟩
    | false => exact iteF (w1.ok s1 _ d1)
theorem i_or (ha : PE X a (RE X.K cl W fa)) (hb : PE X (.BoolOp .Or (b :: rest) pos) (RE X.K cl W fb)) : PE X (.BoolOp .Or (a :: b :: rest) pos) (RE X.K cl W (eOr fa fb)) := by
  refine pe_imp (pe_orT ha hb) fun σ H Q ⟨r, env, st, n, w⟩ => ?_
  refine ⟨r, env, st, n, (Wp.bind w).mono fun x st1 H1 r1 x1 s1 w1 v1 d1 => ?_⟩
  cases q : gTruth x st1 with
  | none => rw [q] at w1; exact w1.elim
  | some k =>
    rw [q] at w1
    refine ⟨k, truth_of s1 d1 q, ?_⟩
    cases k with
    | true => exact iteT (w1.ok s1 _ d1)
    | false => exact iteF ⟨r1, env, st1, n.to x1 s1, w1⟩
theorem i_not (ha : PE X a (RE X.K cl W fa)) : PE X (.UnaryOp .Not a pos) (RE X.K cl W (eNot fa)) := by
  refine pe_imp (pe_notT ha) fun σ H Q ⟨r, env, st, n, w⟩ => ?_
  refine ⟨r, env, st, n, (Wp.bind w).mono fun x st1 H1 r1 x1 s1 w1 v1 d1 => ?_⟩
  cases q : gTruth x st1 with
  | none => rw [q] at w1; exact w1.elim
  | some k =>
    rw [q] at w1
    exact ⟨k, truth_of s1 d1 q, w1.ok s1 _ rfl⟩
end

/-! ### operators -/
/-- a step that leaves the store as it is -/
def still (o : Option D) (st : Stt) : Option (D × Stt) := match o with
  | some d => some (d, st)
  | none => none
section
variable {K : PySem.W.Frag} {cl : String → Addr} {H : Hp} {r : List Addr} {st : Stt}
theorem WpO.still {o : Option D} {post : D → Stt → Hp → List Addr → Prop} (h : WpO K cl H r (still o st) post) (s : RSt K H r cl st) : ∃ d, o = some d ∧ post d st H r := by
  obtain ⟨a, st', e, p⟩ := h
  cases o with
  | none => cases e
  | some d =>
    cases e
    exact ⟨_, rfl, p H r (Ext.refl H r) s⟩
theorem WpO.here {d : D} {post : D → Stt → Hp → List Addr → Prop} (h : WpO K cl H r (some (d, st)) post) (s : RSt K H r cl st) : post d st H r := by
  obtain ⟨a, st', e, p⟩ := h
  cases e
  exact p H r (Ext.refl H r) s
/-- a new tuple -/
theorem WpO.tup {ds : List D} {Q : VK} (h : WpO K cl H r (some (.tup ds, st)) fun d _ H' r' => ∀ v, RD K H' r' d v → Q v H') (s : RSt K H r cl st) {vs : List V} (hv : RDs K H r ds vs) : NewT H vs Q := fun p o hp ho => by
  obtain ⟨a, st', e, q⟩ := h
  cases e
  exact q _ r (Ext.beside hp) (s.beside hp) _ (RD.tup hp ho hv)
/-- a new list -/
theorem WpO.lst {ds : List D} {Q : VK} (h : WpO K cl H r (some (.obj st.length, st ++ [.lst ds])) fun d _ H' r' => ∀ v, RD K H' r' d v → Q v H') (s : RSt K H r cl st) {p : Addr} (hp : H p = none) {vs : List V} (hv : RDs K H r ds vs) : Q (.ref p) (upd H p (.lst vs)) := by
  obtain ⟨a, st', e, q⟩ := h
  cases e
  exact q _ _ (Ext.made hp) (s.made hp ⟨vs, upd_same, hv.mono (Ext.made hp)⟩) _ ⟨p, by rw [← s.len]; exact get_new r p, rfl⟩
/-- a new dict -/
theorem WpO.dct {ks : List (Key × D)} {Q : VK} (h : WpO K cl H r (some (.obj st.length, st ++ [.dct ks])) fun d _ H' r' => ∀ v, RD K H' r' d v → Q v H') (s : RSt K H r cl st) {p : Addr} (hp : H p = none) {vs : List (Key × V)} (hv : RKs K H r ks vs) : Q (.ref p) (upd H p (.dK vs)) := by
  obtain ⟨a, st', e, q⟩ := h
  cases e
  exact q _ _ (Ext.made hp) (s.made hp ⟨vs, upd_same, hv.mono (Ext.made hp)⟩) _ ⟨p, by rw [← s.len]; exact get_new r p, rfl⟩
/-- an object at k is written -/
theorem WpO.put {k : Nat} {a : Addr} {u0 u : HO} {o : O} {d : D} {v : V} {Q : VK} (h : WpO K cl H r (some (d, st.set k o)) fun d _ H' r' => ∀ v, RD K H' r' d v → Q v H') (s : RSt K H r cl st) (ea : r[k]? = some a) (h0 : H a = some u0) (hm : Mut (some u0))
    (ho : RO K (upd H a u) r cl o a) (hv : RD K (upd H a u) r d v) : Q v (upd H a u) := by
  obtain ⟨b, st', e, q⟩ := h
  cases e
  exact q _ r (Ext.write ea h0 hm) (s.write ea h0 hm ho) v hv
end
def cMul (i j : Int) : Bool := decide ((-(2 ^ 64) < i ∧ i < 2 ^ 64) ∨ (-(2 ^ 64) < j ∧ j < 2 ^ 64))
def gAdd : P2 := fun x y st => match x, y with
  | .int i, .int j => some (.int (i + j), st)
  | .str a, .str b => if a.length + b.length ≤ sizeLine then some (.str (a ++ b), st) else none
  | .tup a, .tup b => if a.length + b.length ≤ sizeLine then some (.tup (a ++ b), st) else none
  | .obj k, .obj j => match st[k]?, st[j]? with
    | some (.lst a), some (.lst b) => if a.length + b.length ≤ sizeLine then some (.obj st.length, st ++ [.lst (a ++ b)]) else none
    | _, _ => none
  | _, _ => none
def gSub : P2 := fun x y st => match x, y with
  | .int i, .int j => some (.int (i - j), st)
  | _, _ => none
def gMul : P2 := fun x y st => match x, y with
  | .int i, .int j => if cMul i j ∨ i.natAbs.log2 + j.natAbs.log2 < 1000000 then some (.int (i * j), st) else none
  | .obj k, .int j => match st[k]? with
    | some (.lst a) => if -(2 ^ 63) ≤ j ∧ j < 2 ^ 63 ∧ a.length * j.toNat ≤ sizeLine then some (.obj st.length, st ++ [.lst (List.replicate j.toNat a).flatten]) else none
    | _ => none
  | _, _ => none
def gFdiv : P2 := fun x y st => match x, y with
  | .int i, .int j => if 0 < j ∧ j.natAbs.log2 < 9000 then some (.int (i / j), st) else none
  | _, _ => none
def gMod : P2 := fun x y st => match x, y with
  | .int i, .int j => if 0 < j then some (.int (i % j), st) else none
  | _, _ => none
def gPow : P2 := fun x y st => match x, y with
  | .int i, .int j => if 0 ≤ j ∧ j ≤ 1000000 ∧ i.natAbs < 2 ^ 64 then some (.int (i ^ j.toNat), st) else none
  | _, _ => none
def gNeg : P1 := fun x st => match x with
  | .int i => some (.int (-i), st)
  | _ => none
section
variable {X : Cx} {cl : String → Addr}
theorem flat_rep {K : PySem.W.Frag} {H : Hp} {r : List Addr} {ds : List D} {vs : List V} (h : RDs K H r ds vs) : ∀ n : Nat, RDs K H r (List.replicate n ds).flatten (List.replicate n vs).flatten
  | 0 => rfl
  | n + 1 => by
    rw [List.replicate_succ, List.replicate_succ, List.flatten_cons, List.flatten_cons]
    exact h.app (flat_rep h n)
theorem o_add : OpR X (binaryOp .Add) (RR X.K cl gAdd) := by
  refine op_imp (op_add.or (op_add_str.or (op_catF.or op_cat))) fun x y H Q ⟨r, st, dx, dy, s, h1, h2, w⟩ => ?_
  cases dx with
  | int i =>
    cases dy with
    | int j => cases h1; cases h2; exact .inl ⟨i, j, rfl, rfl, w.here s _ rfl⟩
    | _ => obtain ⟨_, _, e, _⟩ := w; cases e
  | str a =>
    cases dy with
    | str b =>
      cases h1; cases h2
      unfold gAdd at w
      simp only at w
      split at w
      · rename_i hl
        exact .inr (.inl ⟨a, b, rfl, rfl, hl, w.here s _ rfl⟩)
      · obtain ⟨_, _, e, _⟩ := w; cases e
    | _ => obtain ⟨_, _, e, _⟩ := w; cases e
  | tup a =>
    cases dy with
    | tup b =>
      obtain ⟨p, xs, rfl, t1, d1⟩ := h1
      obtain ⟨q, ys, rfl, t2, d2⟩ := h2
      unfold gAdd at w
      simp only at w
      split at w
      · rename_i hl
        have e1 := d1.length
        have e2 := d2.length
        refine .inr (.inr (.inl ⟨p, q, xs, ys, rfl, rfl, t1.t, t2.t, by rw [e1, e2]; exact hl, fun e => ?_, fun _ e => ?_, w.tup s (d1.app d2)⟩))
        · refine w.here s _ ⟨q, ys, rfl, t2, ?_⟩
          subst e
          cases a with
          | nil => exact d2
          | cons _ _ => cases e1
        · refine w.here s _ ⟨p, xs, rfl, t1, ?_⟩
          subst e
          cases b with
          | nil => rw [List.append_nil]; exact d1
          | cons _ _ => cases e2
      · obtain ⟨_, _, e, _⟩ := w; cases e
    | _ => obtain ⟨_, _, e, _⟩ := w; cases e
  | obj k =>
    cases dy with
    | obj j =>
      obtain ⟨a, ea, rfl⟩ := h1
      obtain ⟨b, eb, rfl⟩ := h2
      unfold gAdd at w
      simp only at w
      split at w
      · rename_i xs ys q1 q2
        split at w
        · rename_i hl
          obtain ⟨vs, u1, u2⟩ := s.obj k a _ ea q1
          obtain ⟨ws, u3, u4⟩ := s.obj j b _ eb q2
          refine .inr (.inr (.inr ⟨a, b, vs, ws, rfl, rfl, u1, u3, by rw [u2.length, u4.length]; exact hl, fun p hp => ?_⟩))
          exact w.lst s hp (u2.app u4)
        · obtain ⟨_, _, e, _⟩ := w; cases e
      · obtain ⟨_, _, e, _⟩ := w; cases e
    | _ => obtain ⟨_, _, e, _⟩ := w; cases e
  | _ => obtain ⟨_, _, e, _⟩ := w; cases dy <;> cases e
theorem o_sub : OpR X (binaryOp .Sub) (RR X.K cl gSub) := by
  refine op_imp op_sub fun x y H Q ⟨r, st, dx, dy, s, h1, h2, w⟩ => ?_
  cases dx with
  | int i =>
    cases dy with
    | int j => cases h1; cases h2; exact ⟨i, j, rfl, rfl, w.here s _ rfl⟩
    | _ => obtain ⟨_, _, e, _⟩ := w; cases e
  | _ => obtain ⟨_, _, e, _⟩ := w; cases dy <;> cases e
theorem o_mul : OpR X (binaryOp .Mult) (RR X.K cl gMul) := by
  refine op_imp (op_mul.or (op_mulW.or op_rep)) fun x y H Q ⟨r, st, dx, dy, s, h1, h2, w⟩ => ?_
  cases dx with
  | int i =>
    cases dy with
    | int j =>
      cases h1; cases h2
      unfold gMul at w
      simp only at w
      split at w
      · rename_i hl
        rcases hl with hl | hl
        · exact .inl ⟨i, j, rfl, rfl, (by unfold cMul at hl; unfold CMul; exact of_decide_eq_true hl), w.here s _ rfl⟩
        · exact .inr (.inl ⟨i, j, rfl, rfl, hl, w.here s _ rfl⟩)
      · obtain ⟨_, _, e, _⟩ := w; cases e
    | _ => obtain ⟨_, _, e, _⟩ := w; cases e
  | obj k =>
    cases dy with
    | int j =>
      obtain ⟨a, ea, rfl⟩ := h1
      cases h2
      unfold gMul at w
      simp only at w
      split at w
      · rename_i xs q1
        split at w
        · rename_i hl
          obtain ⟨vs, u1, u2⟩ := s.obj k a _ ea q1
          refine .inr (.inr ⟨a, j, vs, rfl, rfl, u1, hl.1, hl.2.1, by rw [u2.length]; exact hl.2.2, fun p hp => ?_⟩)
          exact w.lst s hp (flat_rep u2 _)
        · obtain ⟨_, _, e, _⟩ := w; cases e
      · obtain ⟨_, _, e, _⟩ := w; cases e
    | _ => obtain ⟨_, _, e, _⟩ := w; cases e
  | _ => obtain ⟨_, _, e, _⟩ := w; cases dy <;> cases e
theorem o_fdiv : OpR X (binaryOp .FloorDiv) (RR X.K cl gFdiv) := by
  refine op_imp op_fdivW fun x y H Q ⟨r, st, dx, dy, s, h1, h2, w⟩ => ?_
  cases dx with
  | int i =>
    cases dy with
    | int j =>
      cases h1; cases h2
      unfold gFdiv at w
      simp only at w
      split at w
      · rename_i hl
        exact ⟨i, j, rfl, rfl, hl, w.here s _ rfl⟩
      · obtain ⟨_, _, e, _⟩ := w; cases e
    | _ => obtain ⟨_, _, e, _⟩ := w; cases e
  | _ => obtain ⟨_, _, e, _⟩ := w; cases dy <;> cases e
theorem o_mod : OpR X (binaryOp .Mod) (RR X.K cl gMod) := by
  refine op_imp op_mod fun x y H Q ⟨r, st, dx, dy, s, h1, h2, w⟩ => ?_
  cases dx with
  | int i =>
    cases dy with
    | int j =>
      cases h1; cases h2
      unfold gMod at w
      simp only at w
      split at w
      · rename_i hl
        exact ⟨i, j, rfl, rfl, hl, w.here s _ rfl⟩
      · obtain ⟨_, _, e, _⟩ := w; cases e
    | _ => obtain ⟨_, _, e, _⟩ := w; cases e
  | _ => obtain ⟨_, _, e, _⟩ := w; cases dy <;> cases e
theorem o_pow : OpR X (binaryOp .Pow) (RR X.K cl gPow) := by
  refine op_imp op_pow fun x y H Q ⟨r, st, dx, dy, s, h1, h2, w⟩ => ?_
  cases dx with
  | int i =>
    cases dy with
    | int j =>
      cases h1; cases h2
      unfold gPow at w
      simp only at w
      split at w
      · rename_i hl
        exact ⟨i, j, rfl, rfl, hl, w.here s _ rfl⟩
      · obtain ⟨_, _, e, _⟩ := w; cases e
    | _ => obtain ⟨_, _, e, _⟩ := w; cases e
  | _ => obtain ⟨_, _, e, _⟩ := w; cases dy <;> cases e
theorem o_neg : UnR X (unaryOp .USub) (R1 X.K cl gNeg) := by
  refine un_imp un_neg fun x H Q ⟨r, st, dx, s, h1, w⟩ => ?_
  cases dx with
  | int i => cases h1; exact ⟨i, rfl, w.here s _ rfl⟩
  | _ => obtain ⟨_, _, e, _⟩ := w; cases e
end
end Iv

namespace Iv
open PySem L2

/-! ### == of data -/
def allO {α β : Type} (f : α → Option β) : List α → Option (List β)
  | [] => some []
  | x :: xs => match f x, allO f xs with
    | some y, some ys => some (y :: ys)
    | _, _ => none
def toPy (st : Stt) : Nat → D → Option PyData
  | 0, _ => none
  | _ + 1, .non => some .none
  | _ + 1, .bl b => some (.bool b)
  | _ + 1, .int i => some (.int i)
  | _ + 1, .str x => some (.str x)
  | _ + 1, .ty _ => none
  | n + 1, .tup ds => (allO (toPy st n) ds).map .tuple
  | n + 1, .cl ds => (allO (toPy st n) ds).map .list
  | n + 1, .obj k => match st[k]? with
    | some (.lst ds) => (allO (toPy st n) ds).map .list
    | _ => none
theorem dp_all {K : PySem.W.Frag} {H : Hp} {r : List Addr} {f : D → Option PyData} (hf : ∀ d p v, f d = some p → RD K H r d v → Dp K H v p) : ∀ {ds : List D} {ps : List PyData} {vs : List V}, allO f ds = some ps → RDs K H r ds vs → DpAll K H vs ps
  | [], ps, vs, e, h => by cases e; cases h; exact .nil
  | d :: ds, ps, vs, e, h => by
    obtain ⟨y, ys, rfl, h1, h2⟩ := h
    unfold allO at e
    cases q : f d with
    | none => rw [q] at e; cases e
    | some p =>
      cases q2 : allO f ds with
      | none => rw [q, q2] at e; cases e
      | some qs =>
        rw [q, q2] at e
        cases e
        exact .cons (hf d p y q h1) (dp_all hf q2 h2)
theorem dp_of {K : PySem.W.Frag} {H : Hp} {r : List Addr} {cl : String → Addr} {st : Stt} (s : RSt K H r cl st) : ∀ (n : Nat) (d : D) (p : PyData) (v : V), toPy st n d = some p → RD K H r d v → Dp K H v p
  | 0, d, p, v, e, h => by cases e
  | n + 1, .non, p, v, e, h => by cases e; cases h; exact .non
  | n + 1, .bl b, p, v, e, h => by cases e; cases h; exact .bl b
  | n + 1, .int i, p, v, e, h => by cases e; cases h; exact .int i
  | n + 1, .str x, p, v, e, h => by cases e; cases h; exact .str x
  | n + 1, .ty x, p, v, e, h => by cases e
  | n + 1, .tup ds, p, v, e, h => by
    obtain ⟨a, xs, rfl, t, h⟩ := h
    have e' : (allO (toPy st n) ds).map PyData.tuple = some p := e
    cases q : allO (toPy st n) ds with
    | none => rw [q] at e'; cases e'
    | some ps => rw [q] at e'; cases e'; exact .tup t.t (dp_all (dp_of s n) q h)
  | n + 1, .cl ds, p, v, e, h => by
    obtain ⟨a, xs, rfl, t, h⟩ := h
    have e' : (allO (toPy st n) ds).map PyData.list = some p := e
    cases q : allO (toPy st n) ds with
    | none => rw [q] at e'; cases e'
    | some ps => rw [q] at e'; cases e'; exact .lst t.l (dp_all (dp_of s n) q h)
  | n + 1, .obj k, p, v, e, h => by
    obtain ⟨a, ea, rfl⟩ := h
    unfold toPy at e
    split at e
    · rename_i ds hk
      obtain ⟨vs, h1, h2⟩ := s.obj k a _ ea hk
      cases q : allO (toPy st n) ds with
      | none => rw [q] at e; cases e
      | some ps => rw [q] at e; cases e; exact .lst (SqL.of h1) (dp_all (dp_of s n) q h2)
    · cases e
def eqB (x y : D) (st : Stt) : Option Bool := match x, y with
  | .int i, .int j => some (decide (i = j))
  | .str a, .str b => some (decide (a = b))
  | .non, .non => some true
  | .bl a, .bl b => some (decide (a = b))
  | .int _, .str _ => some false
  | .str _, .int _ => some false
  | .non, .str _ => some false
  | .str _, .non => some false
  | .non, .int _ => some false
  | .int _, .non => some false
  | .bl _, .str _ => some false
  | .str _, .bl _ => some false
  | x, y => match toPy st 70 x, toPy st 70 y with
    | some p, some q => if SeqAt.shaped p = true ∧ SeqAt.shaped q = true then some (PyData.eqv p q) else none
    | _, _ => none
def gEq : P2 := fun x y st => still ((eqB x y st).map .bl) st
def gNe : P2 := fun x y st => still ((eqB x y st).map fun b => .bl (!b)) st
section
variable {X : Cx} {cl : String → Addr}
theorem eq_cases {H : Hp} {r : List Addr} {st : Stt} {x y : D} {v u : V} {b : Bool} (s : RSt X.K H r cl st) (h1 : RD X.K H r x v) (h2 : RD X.K H r y u) (e : eqB x y st = some b) :
    (scal v u = true ∧ b = decide (v = u)) ∨ ∃ d e', Dp X.K H v d ∧ Dp X.K H u e' ∧ SeqAt.shaped d = true ∧ SeqAt.shaped e' = true ∧ b = PyData.eqv d e' := by
  unfold eqB at e
  split at e
  · cases h1; cases h2; cases e; exact .inl ⟨rfl, by simp⟩
  · cases h1; cases h2; cases e; exact .inl ⟨rfl, by simp⟩
  · cases h1; cases h2; cases e; exact .inl ⟨rfl, by simp⟩
  · cases h1; cases h2; cases e; exact .inl ⟨rfl, by simp⟩
  · cases h1; cases h2; cases e; exact .inl ⟨rfl, by simp⟩
  · cases h1; cases h2; cases e; exact .inl ⟨rfl, by simp⟩
  · cases h1; cases h2; cases e; exact .inl ⟨rfl, by simp⟩
  · cases h1; cases h2; cases e; exact .inl ⟨rfl, by simp⟩
  · cases h1; cases h2; cases e; exact .inl ⟨rfl, by simp⟩
  · cases h1; cases h2; cases e; exact .inl ⟨rfl, by simp⟩
  · cases h1; cases h2; cases e; exact .inl ⟨rfl, by simp⟩
  · cases h1; cases h2; cases e; exact .inl ⟨rfl, by simp⟩
  · split at e
    · rename_i p q e1 e2
      split at e
      · rename_i hs
        exact .inr ⟨p, q, dp_of s 70 _ _ _ e1 h1, dp_of s 70 _ _ _ e2 h2, hs.1, hs.2, (Option.some.inj e).symm⟩
      · cases e
    · cases e
theorem o_eq (hu : X.A.units + 64 < cLine) : OpR X (compareOp .Eq) (RR X.K cl gEq) := by
  refine op_imp (op_eq.or (op_eqD hu)) fun x y H Q ⟨r, st, dx, dy, s, h1, h2, w⟩ => ?_
  obtain ⟨d, e, q⟩ := w.still s
  cases z : eqB dx dy st with
  | none => rw [z] at e; cases e
  | some b =>
    rw [z] at e
    cases e
    have q := q _ rfl
    rcases eq_cases s h1 h2 z with ⟨a1, rfl⟩ | ⟨d, e', a1, a2, a3, a4, rfl⟩
    · exact .inl ⟨a1, q⟩
    · exact .inr ⟨d, e', a1, a2, a3, a4, q⟩
theorem o_ne (hu : X.A.units + 64 < cLine) : OpR X (compareOp .NotEq) (RR X.K cl gNe) := by
  refine op_imp (op_ne.or (op_neD hu)) fun x y H Q ⟨r, st, dx, dy, s, h1, h2, w⟩ => ?_
  obtain ⟨d, e, q⟩ := w.still s
  cases z : eqB dx dy st with
  | none => rw [z] at e; cases e
  | some b =>
    rw [z] at e
    cases e
    have q := q _ rfl
    rcases eq_cases s h1 h2 z with ⟨a1, rfl⟩ | ⟨d, e', a1, a2, a3, a4, rfl⟩
    · exact .inl ⟨a1, q⟩
    · exact .inr ⟨d, e', a1, a2, a3, a4, q⟩
end

/-! ### order -/
def ltB (x y : D) : Option Bool := match x, y with
  | .int i, .int j => some (decide (i < j))
  | .str a, .str b => some (decide (a.cps.toList < b.cps.toList))
  | _, _ => none
def gLt : P2 := fun x y st => still ((ltB x y).map .bl) st
def gGt : P2 := fun x y st => still ((ltB y x).map .bl) st
def gLe : P2 := fun x y st => still ((ltB y x).map fun b => .bl (!b)) st
def gGe : P2 := fun x y st => still ((ltB x y).map fun b => .bl (!b)) st
theorem dec_le (i j : Int) : decide (i ≤ j) = !decide (j < i) := by
  by_cases h : i ≤ j
  · rw [decide_eq_true h, decide_eq_false (by omega)]; rfl
  · rw [decide_eq_false h, decide_eq_true (by omega)]; rfl
section
variable {X : Cx} {cl : String → Addr}
theorem o_lt : OpR X (compareOp .Lt) (RR X.K cl gLt) := by
  refine op_imp (op_lt.or op_lt_str) fun x y H Q ⟨r, st, dx, dy, s, h1, h2, w⟩ => ?_
  obtain ⟨d, e, q⟩ := w.still s
  cases dx with
  | int i =>
    cases dy with
    | int j => cases h1; cases h2; cases e; exact .inl ⟨i, j, rfl, rfl, q _ rfl⟩
    | _ => cases e
  | str i =>
    cases dy with
    | str j => cases h1; cases h2; cases e; exact .inr ⟨i, j, rfl, rfl, q _ rfl⟩
    | _ => cases e
  | _ => cases dy <;> cases e
theorem o_gt : OpR X (compareOp .Gt) (RR X.K cl gGt) := by
  refine op_imp (op_gt.or op_gt_str) fun x y H Q ⟨r, st, dx, dy, s, h1, h2, w⟩ => ?_
  obtain ⟨d, e, q⟩ := w.still s
  cases dx with
  | int i =>
    cases dy with
    | int j => cases h1; cases h2; cases e; exact .inl ⟨i, j, rfl, rfl, q _ rfl⟩
    | _ => cases e
  | str i =>
    cases dy with
    | str j => cases h1; cases h2; cases e; exact .inr ⟨i, j, rfl, rfl, q _ rfl⟩
    | _ => cases e
  | _ => cases dy <;> cases e
theorem o_le : OpR X (compareOp .LtE) (RR X.K cl gLe) := by
  refine op_imp (op_le.or op_le_str) fun x y H Q ⟨r, st, dx, dy, s, h1, h2, w⟩ => ?_
  obtain ⟨d, e, q⟩ := w.still s
  cases dx with
  | int i =>
    cases dy with
    | int j => cases h1; cases h2; cases e; exact .inl ⟨i, j, rfl, rfl, by show Q (.bl (decide (i ≤ j))) H; rw [dec_le]; exact q _ rfl⟩
    | _ => cases e
  | str i =>
    cases dy with
    | str j => cases h1; cases h2; cases e; exact .inr ⟨i, j, rfl, rfl, q _ rfl⟩
    | _ => cases e
  | _ => cases dy <;> cases e
theorem o_ge : OpR X (compareOp .GtE) (RR X.K cl gGe) := by
  refine op_imp (op_ge.or op_ge_str) fun x y H Q ⟨r, st, dx, dy, s, h1, h2, w⟩ => ?_
  obtain ⟨d, e, q⟩ := w.still s
  cases dx with
  | int i =>
    cases dy with
    | int j => cases h1; cases h2; cases e; exact .inl ⟨i, j, rfl, rfl, by show Q (.bl (decide (j ≤ i))) H; rw [dec_le]; exact q _ rfl⟩
    | _ => cases e
  | str i =>
    cases dy with
    | str j => cases h1; cases h2; cases e; exact .inr ⟨i, j, rfl, rfl, q _ rfl⟩
    | _ => cases e
  | _ => cases dy <;> cases e

/-! ### is -/
def isN (x : D) : Bool := match x with
  | .non => true
  | _ => false
def gIs : P2 := fun x y st => match y with
  | .non => some (.bl (isN x), st)
  | .bl b => match x with
    | .bl a => some (.bl (decide (a = b)), st)
    | .obj _ => some (.bl false, st)
    | .tup _ => some (.bl false, st)
    | .cl _ => some (.bl false, st)
    | .int _ => some (.bl false, st)
    | .str _ => some (.bl false, st)
    | .non => some (.bl false, st)
    | .ty _ => some (.bl false, st)
  | .ty n => match x with
    | .ty m => some (.bl (decide (m = n)), st)
    | _ => none
  | _ => none
def gIsNot : P2 := fun x y st => match gIs x y st with
  | some (.bl b, st') => some (.bl (!b), st')
  | _ => none
theorem isN_iff {K : PySem.W.Frag} {H : Hp} {r : List Addr} {d : D} {v : V} (h : RD K H r d v) : decide (v = .non) = isN d := by
  cases d with
  | non => cases h; rfl
  | bl _ => cases h; rfl
  | int _ => cases h; rfl
  | str _ => cases h; rfl
  | ty _ => cases h; rfl
  | obj k => obtain ⟨a, _, rfl⟩ := h; rfl
  | tup ds => obtain ⟨a, _, rfl, _⟩ := h; rfl
  | cl ds => obtain ⟨a, _, rfl, _⟩ := h; rfl
/-- another thing is no bool -/
def rIsO : R2 := fun x y H Q => (∃ b : Bool, y = .bl b) ∧ (∀ b : Bool, x ≠ .bl b) ∧ Q (.bl false) H
def rNotO : R2 := fun x y H Q => (∃ b : Bool, y = .bl b) ∧ (∀ b : Bool, x ≠ .bl b) ∧ Q (.bl true) H
theorem plain_same {x : V} {v : Value} {b : Bool} (rx : RelV x v) (n : ∀ b : Bool, x ≠ .bl b) : isSame v (Value.bool b) = pure false := by
  cases x with
  | bl c => exact absurd rfl (n c)
  | non => cases rx; rfl
  | int i => obtain ⟨t, rfl⟩ := rx; rfl
  | str i => obtain ⟨t, rfl⟩ := rx; rfl
  | byt i => obtain ⟨t, rfl⟩ := rx; rfl
  | flt i => obtain ⟨t, rfl⟩ := rx; rfl
  | ref a => cases rx; rfl
  | ty a => cases rx; rfl
theorem op_isO : OpR X (compareOp .Is) rIsO := by
  intro pins s σ H x y v u Q I rx ry h
  obtain ⟨⟨b, rfl⟩, n, q⟩ := h
  cases (show u = Value.bool b from ry)
  have e : compareOp .Is v (Value.bool b) = (do return Value.bool (← isSame v (Value.bool b))) := by rfl
  rw [e, plain_same rx n]
  exact wpAny_pure ⟨.bl false, H, I, rfl, q⟩
theorem op_notO : OpR X (compareOp .IsNot) rNotO := by
  intro pins s σ H x y v u Q I rx ry h
  obtain ⟨⟨b, rfl⟩, n, q⟩ := h
  cases (show u = Value.bool b from ry)
  have e : compareOp .IsNot v (Value.bool b) = (do return Value.bool (!(← isSame v (Value.bool b)))) := by rfl
  rw [e, plain_same rx n]
  exact wpAny_pure ⟨.bl true, H, I, rfl, q⟩
theorem not_bl {K : PySem.W.Frag} {H : Hp} {r : List Addr} {d : D} {v : V} (h : RD K H r d v) (n : ∀ b, d ≠ .bl b) : ∀ b : Bool, v ≠ .bl b := by
  intro b e
  subst e
  cases d with
  | bl c => exact n c rfl
  | non => cases h
  | int _ => cases h
  | str _ => cases h
  | ty _ => cases h
  | obj k => obtain ⟨a, _, z⟩ := h; cases z
  | tup ds => obtain ⟨a, _, z, _⟩ := h; cases z
  | cl ds => obtain ⟨a, _, z, _⟩ := h; cases z
theorem is_cases {H : Hp} {r : List Addr} {st st' : Stt} {x y d : D} {v u : V} (h1 : RD X.K H r x v) (h2 : RD X.K H r y u) (e : gIs x y st = some (d, st')) :
    ∃ b, d = .bl b ∧ st' = st ∧ ((u = .non ∧ b = decide (v = .non)) ∨ (∃ a c : Bool, v = .bl a ∧ u = .bl c ∧ b = decide (a = c)) ∨ ((∃ b : Bool, u = .bl b) ∧ (∀ b : Bool, v ≠ .bl b) ∧ b = false) ∨ ∃ m n, v = .ty m ∧ u = .ty n ∧ b = decide (m = n)) := by
  unfold gIs at e
  cases y with
  | non => cases h2; cases e; exact ⟨_, rfl, rfl, .inl ⟨rfl, (isN_iff h1).symm⟩⟩
  | bl c =>
    cases h2
    cases x with
    | bl a => cases h1; cases e; exact ⟨_, rfl, rfl, .inr (.inl ⟨a, c, rfl, rfl, rfl⟩)⟩
    | _ => cases e; exact ⟨_, rfl, rfl, .inr (.inr (.inl ⟨⟨c, rfl⟩, not_bl h1 (fun _ z => by cases z), rfl⟩))⟩
  | ty n =>
    cases h2
    cases x with
    | ty m => cases h1; cases e; exact ⟨_, rfl, rfl, .inr (.inr (.inr ⟨m, n, rfl, rfl, rfl⟩))⟩
    | _ => cases e
  | _ => cases x <;> cases e
theorem o_is : OpR X (compareOp .Is) (RR X.K cl gIs) := by
  refine op_imp (op_isN.or (op_isBl.or (op_isO.or op_isTyB))) fun x y H Q ⟨r, st, dx, dy, s, h1, h2, w⟩ => ?_
  obtain ⟨d, st', e, q⟩ := w
  obtain ⟨b, rfl, rfl, h⟩ := is_cases h1 h2 e
  have q := q H r (Ext.refl H r) s _ rfl
  rcases h with ⟨rfl, rfl⟩ | ⟨a, c, rfl, rfl, rfl⟩ | ⟨h, n, rfl⟩ | ⟨m, n, rfl, rfl, rfl⟩
  · exact .inl ⟨rfl, q⟩
  · exact .inr (.inl ⟨a, c, rfl, rfl, q⟩)
  · exact .inr (.inr (.inl ⟨h, n, q⟩))
  · exact .inr (.inr (.inr ⟨m, n, rfl, rfl, q⟩))
theorem o_isnot : OpR X (compareOp .IsNot) (RR X.K cl gIsNot) := by
  refine op_imp (op_notN.or (op_notBl.or (op_notO.or op_notTyB))) fun x y H Q ⟨r, st, dx, dy, s, h1, h2, w⟩ => ?_
  obtain ⟨d, st', e, q⟩ := w
  unfold gIsNot at e
  cases z : gIs dx dy st with
  | none => rw [z] at e; cases e
  | some p =>
    obtain ⟨d', st''⟩ := p
    rw [z] at e
    obtain ⟨b, rfl, rfl, h⟩ := is_cases h1 h2 z
    cases e
    have q := q H r (Ext.refl H r) s _ rfl
    rcases h with ⟨rfl, rfl⟩ | ⟨a, c, rfl, rfl, rfl⟩ | ⟨h, n, rfl⟩ | ⟨m, n, rfl, rfl, rfl⟩
    · exact .inl ⟨rfl, q⟩
    · exact .inr (.inl ⟨a, c, rfl, rfl, q⟩)
    · exact .inr (.inr (.inl ⟨h, n, q⟩))
    · exact .inr (.inr (.inr ⟨m, n, rfl, rfl, q⟩))
end

/-! ### dicts -/
def keyD : D → Option Key
  | .int i => some (.inl i)
  | .str x => some (.inr x)
  | _ => none
def dKey : Key → D
  | .inl i => .int i
  | .inr x => .str x
def valD (kvs : List (Key × D)) (k : Key) : Option D := (kvs.find? fun kv => decide (kv.1 = k)).map (·.2)
def putD (kvs : List (Key × D)) (k : Key) (v : D) : List (Key × D) :=
  if (kvs.any fun kv => decide (kv.1 = k)) = true then kvs.map (fun kv => if kv.1 = k then (kv.1, v) else kv) else kvs ++ [(k, v)]
def dropD (kvs : List (Key × D)) (k : Key) : List (Key × D) := kvs.filter fun kv => decide (kv.1 ≠ k)
section
variable {K : PySem.W.Frag} {H : Hp} {r : List Addr}
theorem key_of {d : D} {k : Key} {v : V} (e : keyD d = some k) (h : RD K H r d v) : v = kV k := by
  cases d with
  | int i => cases e; cases h; rfl
  | str x => cases e; cases h; rfl
  | _ => cases e
theorem RKs.length : ∀ {ds : List (Key × D)} {vs : List (Key × V)}, RKs K H r ds vs → vs.length = ds.length
  | [], _, h => by cases h; rfl
  | (k, d) :: ds, _, h => by
    obtain ⟨y, ys, rfl, h1, h2⟩ := h
    show ys.length + 1 = ds.length + 1
    rw [RKs.length h2]
theorem RKs.val {k : Key} : ∀ {ds : List (Key × D)} {vs : List (Key × V)}, RKs K H r ds vs → (valD ds k = none ∧ valV vs k = none) ∨ ∃ d v, valD ds k = some d ∧ valV vs k = some v ∧ RD K H r d v
  | [], _, h => by cases h; exact .inl ⟨rfl, rfl⟩
  | (j, d) :: ds, _, h => by
    obtain ⟨y, ys, rfl, h1, h2⟩ := h
    by_cases e : j = k
    · subst e
      exact .inr ⟨d, y, by simp [valD], by simp [valV], h1⟩
    · have e1 : valD ((j, d) :: ds) k = valD ds k := by simp [valD, List.find?_cons, e]
      have e2 : valV ((j, y) :: ys) k = valV ys k := by simp [valV, List.find?_cons, e]
      rw [e1, e2]
      exact RKs.val h2
theorem RKs.any {k : Key} : ∀ {ds : List (Key × D)} {vs : List (Key × V)}, RKs K H r ds vs → (vs.any fun kv => decide (kv.1 = k)) = ds.any fun kv => decide (kv.1 = k)
  | [], _, h => by cases h; rfl
  | (j, d) :: ds, _, h => by
    obtain ⟨y, ys, rfl, h1, h2⟩ := h
    rw [List.any_cons, List.any_cons, RKs.any h2]
theorem RKs.app : ∀ {ds es : List (Key × D)} {vs ws : List (Key × V)}, RKs K H r ds vs → RKs K H r es ws → RKs K H r (ds ++ es) (vs ++ ws)
  | [], _, _, _, h, g => by cases h; exact g
  | (k, d) :: ds, _, _, _, h, g => by
    obtain ⟨y, ys, rfl, h1, h2⟩ := h
    exact ⟨y, _, rfl, h1, RKs.app h2 g⟩
theorem RKs.repl {k : Key} {d : D} {v : V} (hd : RD K H r d v) : ∀ {ds : List (Key × D)} {vs : List (Key × V)}, RKs K H r ds vs →
    RKs K H r (ds.map (fun kv => if kv.1 = k then (kv.1, d) else kv)) (vs.map (fun kv => if kv.1 = k then (kv.1, v) else kv))
  | [], _, h => by cases h; exact rfl
  | (j, e) :: ds, _, h => by
    obtain ⟨y, ys, rfl, h1, h2⟩ := h
    have ih := RKs.repl (k := k) hd h2
    rw [List.map_cons, List.map_cons]
    by_cases q : j = k
    · rw [if_pos q, if_pos q]; exact ⟨v, _, rfl, hd, ih⟩
    · rw [if_neg q, if_neg q]; exact ⟨y, _, rfl, h1, ih⟩
theorem RKs.put {k : Key} {d : D} {v : V} {ds : List (Key × D)} {vs : List (Key × V)} (h : RKs K H r ds vs) (hd : RD K H r d v) : RKs K H r (putD ds k d) (putK vs k v) := by
  unfold putD putK
  rw [h.any]
  split
  · exact h.repl hd
  · exact h.app ⟨v, [], rfl, hd, rfl⟩
theorem RKs.drop {k : Key} : ∀ {ds : List (Key × D)} {vs : List (Key × V)}, RKs K H r ds vs → RKs K H r (dropD ds k) (dropK vs k)
  | [], _, h => by cases h; exact rfl
  | (j, e) :: ds, _, h => by
    obtain ⟨y, ys, rfl, h1, h2⟩ := h
    have ih := RKs.drop (k := k) h2
    by_cases q : j = k
    · have e1 : dropD ((j, e) :: ds) k = dropD ds k := by unfold dropD; rw [List.filter_cons]; simp [q]
      have e2 : dropK ((j, y) :: ys) k = dropK ys k := by unfold dropK; rw [List.filter_cons]; simp [q]
      rw [e1, e2]; exact ih
    · have e1 : dropD ((j, e) :: ds) k = (j, e) :: dropD ds k := by unfold dropD; rw [List.filter_cons]; simp [q]
      have e2 : dropK ((j, y) :: ys) k = (j, y) :: dropK ys k := by unfold dropK; rw [List.filter_cons]; simp [q]
      rw [e1, e2]; exact ⟨y, _, rfl, h1, ih⟩
end

/-! ### in -/
def flatD : D → Bool
  | .non => true
  | .bl _ => true
  | .int _ => true
  | .str _ => true
  | _ => false
def eqF : D → D → Bool
  | .non, .non => true
  | .bl a, .bl b => a == b
  | .bl a, .int b => (if a then 1 else 0) == b
  | .int a, .bl b => a == (if b then 1 else 0)
  | .int a, .int b => a == b
  | .str a, .str b => a == b
  | _, _ => false
def inD (x : D) (xs : List D) : Bool := xs.any fun y => eqF y x
def inSeq (x : D) (xs : List D) : Option D := if flatD x = true ∧ xs.all flatD = true then some (.bl (inD x xs)) else none
def gIn : P2 := fun x y st => match y with
  | .obj k => match st[k]? with
    | some (.dct kvs) => match keyD x with
      | some key => some (.bl (valD kvs key).isSome, st)
      | none => none
    | some (.dcf kvs) => match keyD x with
      | some key => some (.bl (valD kvs key).isSome, st)
      | none => none
    | some (.lst xs) => still (inSeq x xs) st
    | _ => none
  | .tup xs => still (inSeq x xs) st
  | .cl xs => still (inSeq x xs) st
  | .str z => match x with
    | .str a => some (.bl (!(Builtin.Str.occurrences z a 0 z.length 1).isEmpty), st)
    | _ => none
  | _ => none
def gNotIn : P2 := fun x y st => match gIn x y st with
  | some (.bl b, st') => some (.bl (!b), st')
  | _ => none
section
variable {K : PySem.W.Frag} {H : Hp} {r : List Addr}
theorem flat_of {d : D} {v : V} (f : flatD d = true) (h : RD K H r d v) : flatV v = true := by
  cases d with
  | non => cases h; rfl
  | bl _ => cases h; rfl
  | int _ => cases h; rfl
  | str _ => cases h; rfl
  | _ => cases f
theorem eqF_of {d e : D} {v u : V} (f : flatD d = true) (g : flatD e = true) (h1 : RD K H r d v) (h2 : RD K H r e u) : eqV v u = eqF d e := by
  cases d with
  | non =>
    cases h1
    cases e with
    | non => cases h2; rfl
    | bl _ => cases h2; rfl
    | int _ => cases h2; rfl
    | str _ => cases h2; rfl
    | _ => cases g
  | bl _ =>
    cases h1
    cases e with
    | non => cases h2; rfl
    | bl _ => cases h2; rfl
    | int _ => cases h2; rfl
    | str _ => cases h2; rfl
    | _ => cases g
  | int _ =>
    cases h1
    cases e with
    | non => cases h2; rfl
    | bl _ => cases h2; rfl
    | int _ => cases h2; rfl
    | str _ => cases h2; rfl
    | _ => cases g
  | str _ =>
    cases h1
    cases e with
    | non => cases h2; rfl
    | bl _ => cases h2; rfl
    | int _ => cases h2; rfl
    | str _ => cases h2; rfl
    | _ => cases g
  | _ => cases f
theorem in_of {x : D} {v : V} (f : flatD x = true) (hx : RD K H r x v) : ∀ {ds : List D} {vs : List V}, ds.all flatD = true → RDs K H r ds vs → vs.all flatV = true ∧ inV v vs = inD x ds
  | [], _, _, h => by cases h; exact ⟨rfl, rfl⟩
  | d :: ds, _, g, h => by
    obtain ⟨y, ys, rfl, h1, h2⟩ := h
    rw [List.all_cons, Bool.and_eq_true] at g
    obtain ⟨i1, i2⟩ := in_of f hx g.2 h2
    refine ⟨by rw [List.all_cons, flat_of g.1 h1, i1]; rfl, ?_⟩
    show (eqV y v || inV v ys) = (eqF d x || inD x ds)
    rw [eqF_of g.1 f h1 hx, i2]
end
section
variable {X : Cx} {cl : String → Addr}
theorem op_inDct (hu : X.A.units + 1 < cLine) : OpR X (compareOp .In) (fun y x H Q => ∃ a o, x = .ref a ∧ DGet H a y o ∧ Q (.bl o.isSome) H) := by
  intro pins s σ H y x iv u Q I ry rx h
  obtain ⟨a, o, rfl, g, q⟩ := h
  obtain rfl : u = Value.ref a := rx
  exact d_in hu I g ry fun s3 I3 => ⟨.bl o.isSome, H, I3, rfl, q⟩
theorem op_ninDct (hu : X.A.units + 1 < cLine) : OpR X (compareOp .NotIn) (fun y x H Q => ∃ a o, x = .ref a ∧ DGet H a y o ∧ Q (.bl (!o.isSome)) H) := by
  intro pins s σ H y x iv u Q I ry rx h
  obtain ⟨a, o, rfl, g, q⟩ := h
  obtain rfl : u = Value.ref a := rx
  exact d_notIn hu I g ry fun s3 I3 => ⟨.bl (!o.isSome), H, I3, rfl, q⟩
/-- what «in» tells, by the values -/
def InV (K : PySem.W.Frag) (H : Hp) (x y : V) (b : Bool) : Prop :=
  (∃ a o, y = .ref a ∧ DGet H a x o ∧ b = o.isSome) ∨ (∃ p xs, y = .ref p ∧ (SqL K H p xs ∨ SqT K H p xs) ∧ flatV x = true ∧ xs.all flatV = true ∧ b = inV x xs) ∨
  ∃ i j, x = .str i ∧ y = .str j ∧ b = !(Builtin.Str.occurrences j i 0 j.length 1).isEmpty
theorem inSeq_of {H : Hp} {r : List Addr} {x : D} {xs : List D} {d : D} {v : V} {vs : List V} (e : inSeq x xs = some d) (h1 : RD X.K H r x v) (h2 : RDs X.K H r xs vs) : ∃ b, d = .bl b ∧ flatV v = true ∧ vs.all flatV = true ∧ b = inV v vs := by
  unfold inSeq at e
  split at e
  · rename_i hf
    cases e
    obtain ⟨i1, i2⟩ := in_of hf.1 h1 hf.2 h2
    exact ⟨_, rfl, flat_of hf.1 h1, i1, i2.symm⟩
  · cases e
theorem still_some {o : Option D} {st st' : Stt} {d : D} (e : still o st = some (d, st')) : o = some d ∧ st' = st := by
  cases o with
  | none => cases e
  | some x => cases e; exact ⟨rfl, rfl⟩
theorem in_cases {H : Hp} {r : List Addr} {st st' : Stt} {x y d : D} {v u : V} (s : RSt X.K H r cl st) (h1 : RD X.K H r x v) (h2 : RD X.K H r y u) (e : gIn x y st = some (d, st')) :
    ∃ b, d = .bl b ∧ st' = st ∧ InV X.K H v u b := by
  unfold gIn at e
  cases y with
  | obj k =>
    obtain ⟨a, ea, rfl⟩ := h2
    simp only at e
    cases q : st[k]? with
    | none => rw [q] at e; cases e
    | some o =>
      rw [q] at e
      have ho := s.obj k a o ea q
      cases o with
      | dct kvs =>
        obtain ⟨vs, u1, u2⟩ := ho
        simp only at e
        cases qk : keyD x with
        | none => rw [qk] at e; cases e
        | some key =>
          rw [qk] at e
          cases e
          have ek := key_of qk h1
          subst ek
          refine ⟨_, rfl, rfl, .inl ⟨a, valV vs key, rfl, DGet.k u1, ?_⟩⟩
          rcases u2.val (k := key) with ⟨z1, z2⟩ | ⟨d, v, z1, z2, _⟩
          · rw [z1, z2] <;> rfl
          · rw [z1, z2] <;> rfl
      | dcf kvs =>
        obtain ⟨o, vs, u1, u2⟩ := ho
        simp only at e
        cases qk : keyD x with
        | none => rw [qk] at e; cases e
        | some key =>
          rw [qk] at e
          cases e
          have ek := key_of qk h1
          subst ek
          refine ⟨_, rfl, rfl, .inl ⟨a, valV vs key, rfl, .inl ⟨vs, key, .inr ⟨o, u1⟩, rfl, rfl⟩, ?_⟩⟩
          rcases u2.val (k := key) with ⟨z1, z2⟩ | ⟨d, v, z1, z2, _⟩
          · rw [z1, z2] <;> rfl
          · rw [z1, z2] <;> rfl
      | lst xs =>
        obtain ⟨vs, u1, u2⟩ := ho
        obtain ⟨e3, rfl⟩ := still_some e
        obtain ⟨b, rfl, f1, f2, f3⟩ := inSeq_of e3 h1 u2
        exact ⟨b, rfl, rfl, .inr (.inl ⟨a, vs, rfl, .inl (SqL.of u1), f1, f2, f3⟩)⟩
      | ins c fs => cases e
  | tup xs =>
    obtain ⟨a, vs, rfl, t, u2⟩ := h2
    obtain ⟨e3, rfl⟩ := still_some e
    obtain ⟨b, rfl, f1, f2, f3⟩ := inSeq_of e3 h1 u2
    exact ⟨b, rfl, rfl, .inr (.inl ⟨a, vs, rfl, .inr t.t, f1, f2, f3⟩)⟩
  | cl xs =>
    obtain ⟨a, vs, rfl, t, u2⟩ := h2
    obtain ⟨e3, rfl⟩ := still_some e
    obtain ⟨b, rfl, f1, f2, f3⟩ := inSeq_of e3 h1 u2
    exact ⟨b, rfl, rfl, .inr (.inl ⟨a, vs, rfl, .inl t.l, f1, f2, f3⟩)⟩
  | str z =>
    cases h2
    cases x with
    | str a => cases h1; cases e; exact ⟨_, rfl, rfl, .inr (.inr ⟨a, z, rfl, rfl, rfl⟩)⟩
    | _ => cases e
  | _ => cases e
theorem o_in (hu : X.A.units + 64 < cLine) : OpR X (compareOp .In) (RR X.K cl gIn) := by
  refine op_imp ((op_inDct (by omega)).or (op_in_seq.or op_in_str)) fun x y H Q ⟨r, st, dx, dy, s, h1, h2, w⟩ => ?_
  obtain ⟨d, st', e, q⟩ := w
  obtain ⟨b, rfl, rfl, h⟩ := in_cases s h1 h2 e
  have q := q H r (Ext.refl H r) s _ rfl
  rcases h with ⟨a, o, rfl, g, rfl⟩ | ⟨p, xs, rfl, t, f1, f2, rfl⟩ | ⟨i, j, rfl, rfl, rfl⟩
  · exact .inl ⟨a, o, rfl, g, q⟩
  · exact .inr (.inl ⟨p, xs, rfl, t, f1, f2, by simpa using q⟩)
  · exact .inr (.inr ⟨i, j, rfl, rfl, q⟩)
theorem o_notin (hu : X.A.units + 64 < cLine) : OpR X (compareOp .NotIn) (RR X.K cl gNotIn) := by
  refine op_imp ((op_ninDct (by omega)).or (op_notIn_seq.or op_notIn_str)) fun x y H Q ⟨r, st, dx, dy, s, h1, h2, w⟩ => ?_
  obtain ⟨d, st', e, q⟩ := w
  unfold gNotIn at e
  cases z : gIn dx dy st with
  | none => rw [z] at e; cases e
  | some p =>
    obtain ⟨d', st''⟩ := p
    rw [z] at e
    obtain ⟨b, rfl, rfl, h⟩ := in_cases s h1 h2 z
    cases e
    have q := q H r (Ext.refl H r) s _ rfl
    rcases h with ⟨a, o, rfl, g, rfl⟩ | ⟨p, xs, rfl, t, f1, f2, rfl⟩ | ⟨i, j, rfl, rfl, rfl⟩
    · exact .inl ⟨a, o, rfl, g, q⟩
    · exact .inr (.inl ⟨p, xs, rfl, t, f1, f2, by simpa using q⟩)
    · exact .inr (.inr ⟨i, j, rfl, rfl, q⟩)
end
end Iv

namespace Iv
open PySem L2

/-! ### subscripts -/
def gIx : P2 := fun x y st => match x, y with
  | .tup xs, .int i => still (atI xs i) st
  | .cl xs, .int i => still (atI xs i) st
  | .str z, .int i => if z.length ≤ sizeLine then still ((atI z.cps.toList i).map fun c => .str ⟨#[c]⟩) st else none
  | .obj k, y => match st[k]? with
    | some (.lst xs) => match y with
      | .int i => still (atI xs i) st
      | _ => none
    | some (.dct kvs) => match keyD y with
      | some key => still (valD kvs key) st
      | none => none
    | some (.dcf kvs) => match keyD y with
      | some key => still (valD kvs key) st
      | none => none
    | _ => none
  | _, _ => none
section
variable {X : Cx} {cl : String → Addr}
theorem at_ds {K : PySem.W.Frag} {H : Hp} {r : List Addr} {ds : List D} {vs : List V} {i : Int} {d : D} (h : RDs K H r ds vs) (e : atI ds i = some d) : ∃ v, atI vs i = some v ∧ RD K H r d v := by
  unfold atI at e ⊢
  rw [h.length]
  cases q : ixN ds.length i with
  | none => rw [q] at e; cases e
  | some j =>
    rw [q] at e
    exact h.get (i := j) e
theorem ix_dct (hu : X.A.units + 1 < cLine) : IxR X (fun x y H Q => ∃ a v, x = .ref a ∧ DGet H a y (some v) ∧ Q v H) := by
  intro value slice pins s σ H x y v u Q I rx ry h hs
  obtain ⟨a, w, rfl, g, q⟩ := h
  obtain rfl : v = Value.ref a := rx
  unfold PyProof.Rows.subscriptTail
  have hT := dict_typeIs I g
  refine wpAny_bind ?_
  rw [getitemInPython_of_ne hT.not_modules]
  refine wpAny_bind (wpAny_specialOf hT PySem.F.slot_dict_getitem.lookup ?_)
  have fin : wpAny (model X.prog X.w) X.A (subscripted slice false (.ref a) u) (fun r s₃ => wpAny (model X.prog X.w) X.A (letTemporaryGo value (.ref a) r >>= fun _ => pure r) (EP X pins σ Q) X.xe s₃) X.xe s := by
    rw [hs]
    exact wpAny_operating (d_getItem hu I g ry fun w' s3 I3 rw' => wpAny_bind (wpAny_letTemporaryGo (wpAny_pure ⟨w, H, I3, rw', q⟩)))
  first
    | exact wpAny_pure (wpAny_bind fin)
    | exact wpAny_bind (wpAny_pure (wpAny_bind fin))
    | exact wpAny_bind fin
theorem o_ix (hu : X.A.units + 64 < cLine) : IxR X (RR X.K cl gIx) := by
  refine ix_imp (ix_seq.or (ix_dct (by omega))) fun x y H Q ⟨r, st, dx, dy, s, h1, h2, w⟩ => ?_
  unfold gIx at w
  cases dx with
  | tup xs =>
    obtain ⟨a, vs, rfl, t, d1⟩ := h1
    cases dy with
    | int i =>
      cases h2
      obtain ⟨d, e, q⟩ := w.still s
      obtain ⟨v, e1, e2⟩ := at_ds d1 e
      exact .inl (.inr (.inl ⟨a, vs, i, v, rfl, rfl, t.t, e1, q _ e2⟩))
    | _ => obtain ⟨_, _, e, _⟩ := w; cases e
  | cl xs =>
    obtain ⟨a, vs, rfl, t, d1⟩ := h1
    cases dy with
    | int i =>
      cases h2
      obtain ⟨d, e, q⟩ := w.still s
      obtain ⟨v, e1, e2⟩ := at_ds d1 e
      exact .inl (.inl ⟨a, vs, i, v, rfl, rfl, t.l, e1, q _ e2⟩)
    | _ => obtain ⟨_, _, e, _⟩ := w; cases e
  | str z =>
    cases h1
    cases dy with
    | int i =>
      cases h2
      simp only at w
      split at w
      · rename_i hl
        obtain ⟨d, e, q⟩ := w.still s
        cases e2 : atI z.cps.toList i with
        | none => rw [e2] at e; cases e
        | some c =>
          rw [e2] at e
          cases e
          exact .inl (.inr (.inr ⟨z, i, c, rfl, rfl, hl, e2, q _ rfl⟩))
      · obtain ⟨_, _, e, _⟩ := w; cases e
    | _ => obtain ⟨_, _, e, _⟩ := w; cases e
  | obj k =>
    obtain ⟨a, ea, rfl⟩ := h1
    simp only at w
    cases q0 : st[k]? with
    | none => rw [q0] at w; obtain ⟨_, _, e, _⟩ := w; cases e
    | some o =>
      rw [q0] at w
      have ho := s.obj k a o ea q0
      cases o with
      | lst xs =>
        obtain ⟨vs, u1, u2⟩ := ho
        cases dy with
        | int i =>
          cases h2
          obtain ⟨d, e, q⟩ := WpO.still (o := atI xs i) w s
          obtain ⟨v, e1, e2⟩ := at_ds u2 e
          exact .inl (.inl ⟨a, vs, i, v, rfl, rfl, SqL.of u1, e1, q _ e2⟩)
        | _ => obtain ⟨_, _, e, _⟩ := w; cases e
      | dct kvs =>
        obtain ⟨vs, u1, u2⟩ := ho
        simp only at w
        cases qk : keyD dy with
        | none => rw [qk] at w; obtain ⟨_, _, e, _⟩ := w; cases e
        | some key =>
          rw [qk] at w
          have ek := key_of qk h2
          subst ek
          obtain ⟨d, e, q⟩ := WpO.still (o := valD kvs key) w s
          rcases u2.val (k := key) with ⟨z1, z2⟩ | ⟨d', v, z1, z2, hd⟩
          · rw [z1] at e; cases e
          · rw [z1] at e
            cases e
            exact .inr ⟨a, v, rfl, by rw [← z2]; exact DGet.k u1, q _ hd⟩
      | dcf kvs =>
        obtain ⟨o, vs, u1, u2⟩ := ho
        simp only at w
        cases qk : keyD dy with
        | none => rw [qk] at w; obtain ⟨_, _, e, _⟩ := w; cases e
        | some key =>
          rw [qk] at w
          have ek := key_of qk h2
          subst ek
          obtain ⟨d, e, q⟩ := WpO.still (o := valD kvs key) w s
          rcases u2.val (k := key) with ⟨z1, z2⟩ | ⟨d', v, z1, z2, hd⟩
          · rw [z1] at e; cases e
          · rw [z1] at e
            cases e
            exact .inr ⟨a, v, rfl, by rw [← z2]; exact .inl ⟨vs, key, .inr ⟨o, u1⟩, rfl, rfl⟩, q _ hd⟩
      | ins c fs => obtain ⟨_, _, e, _⟩ := w; cases e
  | _ => obtain ⟨_, _, e, _⟩ := w; cases dy <;> cases e
end

/-! ### slices -/
def cutD (xs : List D) (lo hi : Option Int) : List D := (xs.drop (HT.sIx xs.length 0 lo)).take (HT.sIx xs.length xs.length hi - HT.sIx xs.length 0 lo)
def gSl (x : D) (lo hi : Option Int) (st : Stt) : Option (D × Stt) := match x with
  | .tup xs => some (.tup (cutD xs lo hi), st)
  | .str z => if z.length ≤ sizeLine then some (.str (cutS z lo hi), st) else none
  | .cl xs => some (.obj st.length, st ++ [.lst (cutD xs lo hi)])
  | .obj k => match st[k]? with
    | some (.lst xs) => some (.obj st.length, st ++ [.lst (cutD xs lo hi)])
    | _ => none
  | _ => none
abbrev IO' := Lv → Stt → Res (Option Int)
def oNone : IO' := fun _ st => .ok none st
def oSome (fa : IE) : IO' := fun env st => (fa env st).bind fun x st1 => match x with
  | .int i => .ok (some i) st1
  | _ => .no
def eSl (fa : IE) (fl fh : IO') : IE := fun env st => (fa env st).bind fun x st1 => (fl env st1).bind fun l st2 => (fh env st2).bind fun h st3 => ofO (gSl x l h st3)
section
variable (K : PySem.W.Frag) (cl : String → Addr) (W : WX)
def RP (f : IO') : TO := fun σ H Q => ∃ r env st, Rn K cl σ H r env st ∧ Wp K cl W σ H r (f env st) fun o _ H' _ => Q o H'
def RS3 : V → Option Int → Option Int → Hp → VK → Prop := fun x lo hi H Q => ∃ r st dx, RSt K H r cl st ∧ RD K H r dx x ∧ WpO K cl H r (gSl dx lo hi st) fun d _ H' r' => ∀ v, RD K H' r' d v → Q v H'
end
section
variable {X : Cx} {cl : String → Addr} {W : WX} {e : Expr} {lo hi : Option Expr} {fa : IE} {fl fh : IO'} {pos p2 : Pos}
theorem po_imp {a : Option Expr} {t t' : TO} (h : PO X a t) (m : ∀ σ H Q, t' σ H Q → t σ H Q) : PO X a t' := ⟨fun pins s σ H Q I w => h.run pins s σ H Q I (m σ H Q w)⟩
theorem io_none : PO X none (RP X.K cl W oNone) := po_imp po_none fun σ H Q ⟨r, env, st, n, w⟩ => w.ok n.st
theorem io_some (h : PE X e (RE X.K cl W fa)) : PO X (some e) (RP X.K cl W (oSome fa)) := by
  refine po_imp (po_some h) fun σ H Q ⟨r, env, st, n, w⟩ => ?_
  refine ⟨r, env, st, n, (Wp.bind w).mono fun x st1 H1 r1 x1 s1 w1 v1 d1 => ?_⟩
  cases x with
  | int i => cases d1; exact ⟨i, rfl, w1.ok s1⟩
  | _ => exact w1.elim
theorem sl_imp {t t' : V → Option Int → Option Int → Hp → VK → Prop} (h : SlR X t) (m : ∀ x lo hi H Q, t' x lo hi H Q → t x lo hi H Q) : SlR X t' :=
  fun pins s σ H x v vl vu lo hi sl Q I rx hs pl pu q => h pins s σ H x v vl vu lo hi sl Q I rx hs pl pu (m x lo hi H Q q)
theorem cut_ds {K : PySem.W.Frag} {H : Hp} {r : List Addr} {ds : List D} {vs : List V} (h : RDs K H r ds vs) (lo hi : Option Int) : RDs K H r (cutD ds lo hi) (cutV vs lo hi) := by
  unfold cutD cutV
  rw [h.length]
  exact (h.drop _).take _
theorem o_sl : SlR X (RS3 X.K cl) := by
  refine sl_imp (sl_tupF.or (sl_str.or sl_list)) fun x lo hi H Q ⟨r, st, dx, s, h1, w⟩ => ?_
  unfold gSl at w
  cases dx with
  | tup xs =>
    obtain ⟨a, vs, rfl, t, d1⟩ := h1
    refine .inl ⟨a, vs, rfl, t.t, fun hw => ?_, w.tup s (cut_ds d1 lo hi)⟩
    · refine w.here s _ ⟨a, vs, rfl, t, ?_⟩
      have e : cutD xs lo hi = xs := by
        unfold cutD
        rw [← d1.length, hw.1, hw.2, d1.length]
        simp
      rw [e]; exact d1
  | str z =>
    cases h1
    simp only at w
    split at w
    · rename_i hl
      exact .inr (.inl ⟨z, rfl, hl, w.here s _ rfl⟩)
    · obtain ⟨_, _, e, _⟩ := w; cases e
  | cl xs =>
    obtain ⟨a, vs, rfl, t, d1⟩ := h1
    exact .inr (.inr ⟨a, vs, rfl, t.l, fun p hp => w.lst s hp (cut_ds d1 lo hi)⟩)
  | obj k =>
    obtain ⟨a, ea, rfl⟩ := h1
    simp only at w
    split at w
    · rename_i xs q0
      obtain ⟨vs, u1, u2⟩ := s.obj k a _ ea q0
      exact .inr (.inr ⟨a, vs, rfl, SqL.of u1, fun p hp => w.lst s hp (cut_ds u2 lo hi)⟩)
    · obtain ⟨_, _, e, _⟩ := w; cases e
  | _ => obtain ⟨_, _, e, _⟩ := w; cases e
theorem i_sl (he : PE X e (RE X.K cl W fa)) (hl : PO X lo (RP X.K cl W fl)) (hh : PO X hi (RP X.K cl W fh)) : PE X (.Subscript e (.Slice lo hi none p2) pos) (RE X.K cl W (eSl fa fl fh)) := by
  refine pe_imp (pe_slice (o_sl (cl := cl)) he hl hh) fun σ H Q ⟨r, env, st, n, w⟩ => ?_
  refine ⟨r, env, st, n, (Wp.bind w).mono fun x st1 H1 r1 x1 s1 w1 v1 d1 => ?_⟩
  refine ⟨r1, env, st1, n.to x1 s1, (Wp.bind w1).mono fun l st2 H2 r2 x2 s2 w2 => ?_⟩
  refine ⟨r2, env, st2, (n.to x1 s1).to x2 s2, (Wp.bind w2).mono fun h st3 H3 r3 x3 s3 w3 => ?_⟩
  exact ⟨r3, st3, x, s3, d1.mono (x2.trans x3), w3.ofO⟩
end

/-! ### methods of built-in types -/
def isTy (T : String) (x : D) (st : Stt) : Bool := match x with
  | .str _ => decide (T = "str")
  | .cl _ => decide (T = "list")
  | .obj k => match st[k]? with
    | some (.lst _) => decide (T = "list")
    | some (.dct _) => decide (T = "dict")
    | _ => false
  | _ => false
def eM (T : String) (g : D → PN) (fo : IE) (fa : IA) : IE := fun env st => (fo env st).bind fun x st1 => if isTy T x st1 = true then (fa env st1).bind fun xs st2 => ofO (g x xs st2) else .no
section
variable {X : Cx} {cl : String → Addr} {W : WX} {e o : Expr} {es : List Expr} {fo : IE} {fr : IA} {pos apos cpos : Pos} {T id : String} {name : Str} {g : D → PN}
theorem ty_of {H : Hp} {r : List Addr} {st : Stt} {x : D} {v : V} (s : RSt X.K H r cl st) (h : RD X.K H r x v) (e : isTy T x st = true) : tyV X.K T v H := by
  unfold isTy at e
  cases x with
  | str z => cases h; exact (show T = "str" from of_decide_eq_true e)
  | cl xs =>
    obtain ⟨a, vs, rfl, t, _⟩ := h
    exact .inl ⟨of_decide_eq_true e, vs, t.l⟩
  | obj k =>
    obtain ⟨a, ea, rfl⟩ := h
    simp only at e
    cases q : st[k]? with
    | none => rw [q] at e; cases e
    | some o =>
      rw [q] at e
      have ho := s.obj k a o ea q
      cases o with
      | lst xs =>
        obtain ⟨vs, u1, u2⟩ := ho
        exact .inl ⟨of_decide_eq_true e, vs, SqL.of u1⟩
      | dct kvs =>
        obtain ⟨vs, u1, u2⟩ := ho
        exact .inr (.inr (.inl ⟨of_decide_eq_true e, .inl ⟨vs, u1⟩⟩))
      | dcf kvs => cases e
      | ins c fs => cases e
  | _ => cases e
theorem i_m (pa : PlainAttrs T) (slot : Slot T name id) (hty : typeOf (.builtin id) = pure (.type "method_descriptor")) (hm : MtR X id (RM X.K cl g)) (ho : PE X o (RE X.K cl W fo)) (ha : PA X (e :: es) (RA X.K cl W fr))
    (hbase : attributeBase o name X.env (eval o X.env) = eval o X.env := by rfl)
    (hfew : ((backTo cpos (starEach (e :: es) X.env)).all (fun x => !x.1) && (backToKw cpos (keywordEach [] X.env)).all (fun x => x.1.isSome)
      && decide ((e :: es).length + ([] : List Keyword).length + (if ([] : List Keyword).isEmpty then 0 else 1) < 30)) = true := by rfl)
    (hline : (apos.endLine == cpos.line) = true := by rfl) (hs : starEach (e :: es) X.env = (false, eval e X.env) :: starEach es X.env := by rfl) (hplain : (backTo cpos (starEach es X.env)).any (·.1) = false := by rfl) :
    PE X (.Call (.Attribute o name apos) (e :: es) [] cpos) (RE X.K cl W (eM T g fo fr)) := by
  refine pe_imp (pe_bm pa slot hty hm ho ha hbase hfew hline hs hplain) fun σ H Q ⟨r, env, st, n, w⟩ => ?_
  refine ⟨r, env, st, n, (Wp.bind w).mono fun x st1 H1 r1 x1 s1 w1 v1 d1 => ?_⟩
  split at w1
  · rename_i ht
    refine ⟨ty_of s1 d1 ht, r1, env, st1, n.to x1 s1, (Wp.bind w1).mono fun xs st2 H2 r2 x2 s2 w2 vs ds => ?_⟩
    exact ⟨r2, st2, x, xs, s2, d1.mono x2, ds, w2.ofO⟩
  · exact w1.elim
theorem i_m0 (pa : PlainAttrs T) (slot : Slot T name id) (hty : typeOf (.builtin id) = pure (.type "method_descriptor")) (hm : MtR X id (RM X.K cl g)) (ho : PE X o (RE X.K cl W fo))
    (hbase : attributeBase o name X.env (eval o X.env) = eval o X.env := by rfl) (hline : (apos.endLine == cpos.line) = true := by rfl) :
    PE X (.Call (.Attribute o name apos) [] [] cpos) (RE X.K cl W (eM T g fo aNil)) := by
  refine pe_imp (pe_bm0 pa slot hty hm ho hbase hline) fun σ H Q ⟨r, env, st, n, w⟩ => ?_
  refine ⟨r, env, st, n, (Wp.bind w).mono fun x st1 H1 r1 x1 s1 w1 v1 d1 => ?_⟩
  split at w1
  · rename_i ht
    exact ⟨ty_of s1 d1 ht, r1, st1, x, [], s1, d1, rfl, Wp.ofO (K := X.K) (cl := cl) (W := W) (σ := σ) w1⟩
  · exact w1.elim
end
/-! #### lists -/
def gAppend : D → PN := fun x xs st => match x, xs with
  | .obj k, [d] => match st[k]? with
    | some (.lst ds) => if ds.length < sizeLine then some (.non, st.set k (.lst (ds ++ [d]))) else none
    | _ => none
  | _, _ => none
def gPop0 : D → PN := fun x xs st => match x, xs with
  | .obj k, [] => match st[k]? with
    | some (.lst ds) => match ds[ds.length - 1]? with
      | some d => some (d, st.set k (.lst ds.dropLast))
      | none => none
    | _ => none
  | _, _ => none
def gExtend : D → PN := fun x xs st => match x, xs with
  | .obj k, [.obj j] => match st[k]?, st[j]? with
    | some (.lst ds), some (.lst es) => if ds.length + es.length ≤ sizeLine then some (.non, st.set k (.lst (ds ++ es))) else none
    | _, _ => none
  | _, _ => none
def gReverse : D → PN := fun x xs st => match x, xs with
  | .obj k, [] => match st[k]? with
    | some (.lst ds) => some (.non, st.set k (.lst ds.reverse))
    | _ => none
  | _, _ => none
section
variable {X : Cx} {cl : String → Addr} {K : PySem.W.Frag} {H : Hp} {r : List Addr}
theorem RDs.reverse : ∀ {ds : List D} {vs : List V}, RDs K H r ds vs → RDs K H r ds.reverse vs.reverse
  | [], _, h => by cases h; exact rfl
  | d :: ds, _, h => by
    obtain ⟨y, ys, rfl, h1, h2⟩ := h
    rw [List.reverse_cons, List.reverse_cons]
    exact (RDs.reverse h2).app (.one h1)
theorem RDs.dropLast {ds : List D} {vs : List V} (h : RDs K H r ds vs) : RDs K H r ds.dropLast vs.dropLast := by
  rw [List.dropLast_eq_take, List.dropLast_eq_take, h.length]
  exact h.take _
theorem m_append : MtR X "list.append" (RM X.K cl gAppend) := by
  refine mt_imp mt_append fun x xs H Q ⟨r, st, dx, ds, s, h1, h2, w⟩ => ?_
  unfold gAppend at w
  split at w
  · rename_i k d
    obtain ⟨a, ea, rfl⟩ := h1
    obtain ⟨v, vs, rfl, hd, hn⟩ := h2
    cases hn
    split at w
    · rename_i es q0
      obtain ⟨ws, u1, u2⟩ := s.obj k a _ ea q0
      split at w
      · rename_i hl
        refine ⟨a, ws, v, rfl, rfl, u1, by rw [u2.length]; exact hl, ?_⟩
        have x1 := Ext.write (u := .lst (ws ++ [v])) ea u1 trivial
        exact w.put s ea u1 trivial ⟨_, upd_same, (u2.app (.one hd)).mono x1⟩ rfl
      · obtain ⟨_, _, e, _⟩ := w; cases e
    · obtain ⟨_, _, e, _⟩ := w; cases e
  · obtain ⟨_, _, e, _⟩ := w; cases e
theorem m_pop0 : MtR X "list.pop" (RM X.K cl gPop0) := by
  refine mt_imp mt_pop fun x xs H Q ⟨r, st, dx, ds, s, h1, h2, w⟩ => ?_
  unfold gPop0 at w
  split at w
  · rename_i k
    obtain ⟨a, ea, rfl⟩ := h1
    cases h2
    split at w
    · rename_i es q0
      obtain ⟨ws, u1, u2⟩ := s.obj k a _ ea q0
      split at w
      · rename_i d hd
        obtain ⟨v, ev, dv⟩ := u2.get hd
        refine ⟨a, ws, v, rfl, rfl, u1, by rw [u2.length]; exact ev, ?_⟩
        have x1 := Ext.write (u := .lst ws.dropLast) ea u1 trivial
        exact w.put s ea u1 trivial ⟨_, upd_same, u2.dropLast.mono x1⟩ (dv.mono x1)
      · obtain ⟨_, _, e, _⟩ := w; cases e
    · obtain ⟨_, _, e, _⟩ := w; cases e
  · obtain ⟨_, _, e, _⟩ := w; cases e
theorem m_extend : MtR X "list.extend" (RM X.K cl gExtend) := by
  refine mt_imp mt_extend fun x xs H Q ⟨r, st, dx, ds, s, h1, h2, w⟩ => ?_
  unfold gExtend at w
  split at w
  · rename_i k j
    obtain ⟨a, ea, rfl⟩ := h1
    obtain ⟨v, vs, rfl, hd, hn⟩ := h2
    cases hn
    obtain ⟨b, eb, rfl⟩ := hd
    split at w
    · rename_i es fs q0 q1
      obtain ⟨ws, u1, u2⟩ := s.obj k a _ ea q0
      obtain ⟨zs, u3, u4⟩ := s.obj j b _ eb q1
      split at w
      · rename_i hl
        refine ⟨a, b, ws, zs, rfl, rfl, u1, u3, by rw [u2.length, u4.length]; exact hl, ?_⟩
        have x1 := Ext.write (u := .lst (ws ++ zs)) ea u1 trivial
        exact w.put s ea u1 trivial ⟨_, upd_same, (u2.app u4).mono x1⟩ rfl
      · obtain ⟨_, _, e, _⟩ := w; cases e
    · obtain ⟨_, _, e, _⟩ := w; cases e
  · obtain ⟨_, _, e, _⟩ := w; cases e
theorem m_reverse : MtR X "list.reverse" (RM X.K cl gReverse) := by
  refine mt_imp mt_reverse fun x xs H Q ⟨r, st, dx, ds, s, h1, h2, w⟩ => ?_
  unfold gReverse at w
  split at w
  · rename_i k
    obtain ⟨a, ea, rfl⟩ := h1
    cases h2
    split at w
    · rename_i es q0
      obtain ⟨ws, u1, u2⟩ := s.obj k a _ ea q0
      refine ⟨a, ws, rfl, rfl, u1, ?_⟩
      have x1 := Ext.write (u := .lst ws.reverse) ea u1 trivial
      exact w.put s ea u1 trivial ⟨_, upd_same, u2.reverse.mono x1⟩ rfl
    · obtain ⟨_, _, e, _⟩ := w; cases e
  · obtain ⟨_, _, e, _⟩ := w; cases e
end
/-! #### texts -/
def strsD : List D → Option (List Str)
  | [] => some []
  | .str x :: ds => (strsD ds).map (x :: ·)
  | _ :: _ => none
def seqD (x : D) (st : Stt) : Option (List D) := match x with
  | .tup xs => some xs
  | .cl xs => some xs
  | .obj k => match st[k]? with
    | some (.lst xs) => some xs
    | _ => none
  | _ => none
def gJoin : D → PN := fun x xs st => match x, xs with
  | .str a, [y] => match (seqD y st).bind strsD with
    | some ys => if (ys.map (·.length)).sum + ys.length * a.length ≤ 16777216 then some (.str (Txt.join a ys), st) else none
    | none => none
  | _, _ => none
section
variable {X : Cx} {cl : String → Addr} {K : PySem.W.Frag} {H : Hp} {r : List Addr}
theorem strs_of : ∀ {ds : List D} {vs : List V} {ys : List Str}, strsD ds = some ys → RDs K H r ds vs → vs = ys.map V.str
  | [], _, _, e, h => by cases h; cases e; rfl
  | d :: ds, _, _, e, h => by
    obtain ⟨v, vs, rfl, h1, h2⟩ := h
    cases d with
    | str x =>
      cases h1
      unfold strsD at e
      cases q : strsD ds with
      | none => rw [q] at e; cases e
      | some zs =>
        rw [q] at e
        cases e
        rw [strs_of q h2] <;> rfl
    | _ => cases e
theorem seq_of {st : Stt} {x : D} {v : V} {ds : List D} (s : RSt K H r cl st) (h : RD K H r x v) (e : seqD x st = some ds) : ∃ a vs, v = .ref a ∧ (SqL K H a vs ∨ SqT K H a vs) ∧ RDs K H r ds vs := by
  unfold seqD at e
  cases x with
  | tup xs => obtain ⟨a, vs, rfl, t, d⟩ := h; cases e; exact ⟨a, vs, rfl, .inr t.t, d⟩
  | cl xs => obtain ⟨a, vs, rfl, t, d⟩ := h; cases e; exact ⟨a, vs, rfl, .inl t.l, d⟩
  | obj k =>
    obtain ⟨a, ea, rfl⟩ := h
    simp only at e
    split at e
    · rename_i xs q0
      cases e
      obtain ⟨vs, u1, u2⟩ := s.obj k a _ ea q0
      exact ⟨a, vs, rfl, .inl (SqL.of u1), u2⟩
    · cases e
  | _ => cases e
theorem m_join : MtR X "str.join" (RM X.K cl gJoin) := by
  refine mt_imp mt_join fun x xs H Q ⟨r, st, dx, ds, s, h1, h2, w⟩ => ?_
  unfold gJoin at w
  split at w
  · rename_i a y
    cases h1
    obtain ⟨v, vs, rfl, hd, hn⟩ := h2
    cases hn
    split at w
    · rename_i ys q
      split at w
      · rename_i hl
        cases q1 : seqD y st with
        | none => rw [q1] at q; cases q
        | some es =>
          rw [q1] at q
          obtain ⟨p, zs, rfl, t, u⟩ := seq_of s hd q1
          have e := strs_of q u
          subst e
          exact ⟨a, p, ys, rfl, rfl, t, hl, w.here s _ rfl⟩
      · obtain ⟨_, _, e, _⟩ := w; cases e
    · obtain ⟨_, _, e, _⟩ := w; cases e
  · obtain ⟨_, _, e, _⟩ := w; cases e
end
end Iv

namespace Iv
open PySem L2

/-! ### statements -/
inductive Fl where
  | nx | rt (d : D) | bk | ct | ex (e : Exn)
abbrev IS := Lv → Stt → Option ((Lv × Fl) × Stt)
section
variable (K : PySem.W.Frag) (cl : String → Addr) (W : WX)
def PostS (D : Ends) (p : Lv × Fl) (H' : Hp) (r' : List Addr) : Prop := ∀ σ', REnv K H' r' p.1 σ' → match p.2 with
  | .nx => D.nx σ' H'
  | .rt d => ∀ v, RD K H' r' d v → D.rt v H'
  | .bk => D.bk σ' H'
  | .ct => D.ct σ' H'
  | .ex e => ∀ cls d, RX K cl H' r' e cls d → W cls d σ' H'
def RSs (f : IS) : TS := fun D σ H => ∃ r env st, Rn K cl σ H r env st ∧ WpO K cl H r (f env st) fun p _ H' r' => PostS K cl W D p H' r'
end
def sE (fa : IE) (k : D → IS) : IS := fun env st => match fa env st with
  | .ok d st1 => k d env st1
  | .ex e st1 => some ((env, .ex e), st1)
  | .no => none
def sT (ft : IT) (f g : IS) : IS := fun env st => match ft env st with
  | .ok b st1 => if b then f env st1 else g env st1
  | .ex e st1 => some ((env, .ex e), st1)
  | .no => none
def sSeq (f g : IS) : IS := fun env st => match f env st with
  | some ((env', .nx), st') => g env' st'
  | o => o
def sNx : IS := fun env st => some ((env, .nx), st)
def sBk : IS := fun env st => some ((env, .bk), st)
def sCt : IS := fun env st => some ((env, .ct), st)
def sNo : IS := fun _ _ => none
def sRet (fa : IE) : IS := sE fa fun d env st => some ((env, .rt d), st)
def sRetN : IS := fun env st => some ((env, .rt .non), st)
def sDrop (fa : IE) : IS := sE fa fun _ => sNx
def sSet (i : Nat) (fa : IE) : IS := sE fa fun d env st => some ((env.set i (some d), .nx), st)
section
variable {K : PySem.W.Frag} {cl : String → Addr} {W : WX} {σ : St} {H : Hp} {r : List Addr} {env : Lv} {st : Stt} {D : Ends}
theorem WpO.imp {α : Type} {x : Option (α × Stt)} {post post' : α → Stt → Hp → List Addr → Prop} (h : WpO K cl H r x post) (m : ∀ a st' H' r', Ext H r H' r' → RSt K H' r' cl st' → post a st' H' r' → post' a st' H' r') : WpO K cl H r x post' := by
  obtain ⟨a, st', e, q⟩ := h
  exact ⟨a, st', e, fun H' r' x s => m a st' H' r' x s (q H' r' x s)⟩
theorem WpO.from {α : Type} {x : Option (α × Stt)} {post : α → Stt → Hp → List Addr → Prop} {H' : Hp} {r' : List Addr} (h : WpO K cl H r x post) (e : Ext H r H' r') : WpO K cl H' r' x post := by
  obtain ⟨a, st', e', q⟩ := h
  exact ⟨a, st', e', fun H'' r'' x s => q H'' r'' (e.trans x) s⟩
/-- an expression ahead of the rest of a statement -/
theorem sE_in {fa : IE} {k : Iv.D → IS} (n : Rn K cl σ H r env st) (w : WpO K cl H r (sE fa k env st) fun p _ H' r' => PostS K cl W D p H' r') :
    Wp K cl W σ H r (fa env st) fun d st1 H1 r1 => WpO K cl H1 r1 (k d env st1) fun p _ H' r' => PostS K cl W D p H' r' := by
  obtain ⟨p, st', e, q⟩ := w
  unfold sE at e
  unfold Wp
  split at e
  · rename_i d st1 e1
    rw [e1]
    exact fun H1 r1 x1 s1 => ⟨p, st', e, fun H' r' x s => q H' r' (x1.trans x) s⟩
  · rename_i x st1 e1
    rw [e1]
    cases e
    exact fun H' r' cls d x s rx => q H' r' x s σ (n.env.mono x) cls d rx
  · cases e
theorem sT_in {ft : IT} {f g : IS} (n : Rn K cl σ H r env st) (w : WpO K cl H r (sT ft f g env st) fun p _ H' r' => PostS K cl W D p H' r') :
    Wp K cl W σ H r (ft env st) fun b st1 H1 r1 => WpO K cl H1 r1 (if b then f env st1 else g env st1) fun p _ H' r' => PostS K cl W D p H' r' := by
  obtain ⟨p, st', e, q⟩ := w
  unfold sT at e
  unfold Wp
  split at e
  · rename_i d st1 e1
    rw [e1]
    exact fun H1 r1 x1 s1 => ⟨p, st', e, fun H' r' x s => q H' r' (x1.trans x) s⟩
  · rename_i x st1 e1
    rw [e1]
    cases e
    exact fun H' r' cls d x s rx => q H' r' x s σ (n.env.mono x) cls d rx
  · cases e
end
section
variable {X : Cx} {cl : String → Addr} {W : WX} {st0 : Stmt} {sts rest : List Stmt} {e c : Expr} {fa fb : IE} {ft : IT} {f g : IS} {pos pos' : Pos}
theorem ps_imp {t t' : TS} (h : PS X st0 t) (m : ∀ D σ H, t' D σ H → t D σ H) : PS X st0 t' := ⟨fun pins s σ H D I w => h.run pins s σ H D I (m D σ H w)⟩
theorem pss_imp {t t' : TS} (h : PSs X sts t) (m : ∀ D σ H, t' D σ H → t D σ H) : PSs X sts t' := ⟨fun pins s σ H D I w => h.run pins s σ H D I (m D σ H w)⟩
theorem sNx_in {D : Ends} {σ : St} {H : Hp} (h : RSs X.K cl W sNx D σ H) : D.nx σ H := by
  obtain ⟨r, env, st, n, w⟩ := h
  obtain ⟨p, st', e, q⟩ := w
  cases e
  exact q H r (Ext.refl H r) n.st σ n.env
theorem is_nil : PSs X [] (RSs X.K cl W sNx) := pss_imp pss_nil fun D σ H h => sNx_in h
theorem is_one (h : PS X st0 (RSs X.K cl W f)) : PSs X [st0] (RSs X.K cl W f) := pss_one h
theorem is_cons (h : PS X st0 (RSs X.K cl W f)) (hr : PSs X rest (RSs X.K cl W g)) : PSs X (st0 :: rest) (RSs X.K cl W (sSeq f g)) := by
  refine pss_imp (pss_cons h hr) fun D σ H ⟨r, env, st, n, w⟩ => ?_
  refine ⟨r, env, st, n, ?_⟩
  obtain ⟨p, st', e, q⟩ := w
  unfold sSeq at e
  split at e
  · rename_i env1 st1 e1
    refine ⟨(env1, .nx), st1, e1, fun H1 r1 x1 s1 σ1 he => ?_⟩
    exact ⟨r1, env1, st1, ⟨he, s1⟩, p, st', e, fun H' r' x s => q H' r' (x1.trans x) s⟩
  · rename_i hno
    cases q1 : f env st with
    | none => rw [q1] at e; cases e
    | some p1 =>
      obtain ⟨⟨env1, fl⟩, st1⟩ := p1
      rw [q1] at e
      cases e
      refine ⟨_, _, rfl, fun H1 r1 x1 s1 σ1 he => ?_⟩
      have h := q H1 r1 x1 s1 σ1 he
      cases fl with
      | nx => exact absurd q1 (hno _ _)
      | rt d => exact h
      | bk => exact h
      | ct => exact h
      | ex e => exact h
/-- a body with a name of its own -/
theorem is_named {F : IS} (h : PSs X sts (RSs X.K cl W f)) (e : F = f) : PSs X sts (RSs X.K cl W F) := by rw [e]; exact h
theorem s_pass : PS X (.Pass pos) (RSs X.K cl W sNx) := ps_imp ps_pass fun D σ H h => sNx_in h
theorem s_doc {x j} : PS X (.Expr (.Constant (.str x) j pos) pos') (RSs X.K cl W sNx) := ps_imp ps_doc fun D σ H h => sNx_in h
theorem s_break : PS X (.Break pos) (RSs X.K cl W sBk) := ps_imp ps_break fun D σ H ⟨r, env, st, n, w⟩ => by
  obtain ⟨p, st', e, q⟩ := w
  cases e
  exact q H r (Ext.refl H r) n.st σ n.env
theorem s_cont : PS X (.Continue pos) (RSs X.K cl W sCt) := ps_imp ps_continue fun D σ H ⟨r, env, st, n, w⟩ => by
  obtain ⟨p, st', e, q⟩ := w
  cases e
  exact q H r (Ext.refl H r) n.st σ n.env
theorem s_never : PS X st0 (RSs X.K cl W sNo) := ps_imp ps_never fun D σ H ⟨r, env, st, n, w⟩ => by
  obtain ⟨p, st', e, q⟩ := w
  cases e
theorem s_ret (h : PE X e (RE X.K cl W fa)) : PS X (.Return (some e) pos) (RSs X.K cl W (sRet fa)) := by
  refine ps_imp (ps_ret h) fun D σ H ⟨r, env, st, n, w⟩ => ?_
  refine ⟨r, env, st, n, (sE_in n w).mono fun d st1 H1 r1 x1 s1 w1 v hd => ?_⟩
  obtain ⟨p, st', e, q⟩ := w1
  cases e
  exact q H1 r1 (Ext.refl H1 r1) s1 σ (n.env.mono x1) v hd
theorem s_retN : PS X (.Return none pos) (RSs X.K cl W sRetN) := ps_imp ps_retN fun D σ H ⟨r, env, st, n, w⟩ => by
  obtain ⟨p, st', e, q⟩ := w
  cases e
  exact q H r (Ext.refl H r) n.st σ n.env .non rfl
theorem s_drop (h : PE X e (RE X.K cl W fa)) (hs : swapsWith e none pos.line X.env = pure false := by rfl) : PS X (.Expr e pos) (RSs X.K cl W (sDrop fa)) := by
  refine ps_imp (ps_expr h hs) fun D σ H ⟨r, env, st, n, w⟩ => ?_
  refine ⟨r, env, st, n, (sE_in n w).mono fun d st1 H1 r1 x1 s1 w1 v hd => ?_⟩
  obtain ⟨p, st', e, q⟩ := w1
  cases e
  exact q H1 r1 (Ext.refl H1 r1) s1 σ (n.env.mono x1)
theorem s_set {i : Nat} {x : Str} (hN : X.N.Nodup) (hi : X.N[i]? = some x) (hx : Loc X.env.scope x) (h : PE X e (RE X.K cl W fa)) (hs : swapsWith e (some (.Name x pos')) pos.line X.env = pure false := by rfl)
    (hf : X.fn x = true ∨ X.env.scope.names.lookup x = some .local := by first | exact .inl rfl | exact .inr rfl | assumption) : PS X (.Assign [.Name x pos'] e pos) (RSs X.K cl W (sSet i fa)) := by
  refine ps_imp (ps_set hN hi hx h hs hf) fun D σ H ⟨r, env, st, n, w⟩ => ?_
  refine ⟨r, env, st, n, (sE_in n w).mono fun d st1 H1 r1 x1 s1 w1 v hd => ?_⟩
  obtain ⟨p, st', e, q⟩ := w1
  cases e
  exact q H1 r1 (Ext.refl H1 r1) s1 _ ((n.env.mono x1).set hd)
theorem s_if {a b : List Stmt} (hc : PT X c (RT X.K cl W ft)) (ha : PSs X a (RSs X.K cl W f)) (hb : PSs X b (RSs X.K cl W g)) : PS X (.If c a b pos) (RSs X.K cl W (sT ft f g)) := by
  refine ps_imp (ps_if hc ha hb) fun D σ H ⟨r, env, st, n, w⟩ => ?_
  refine ⟨r, env, st, n, (sT_in n w).mono fun b st1 H1 r1 x1 s1 w1 => ?_⟩
  cases b with
  | true => exact iteT ⟨r1, env, st1, n.to x1 s1, w1⟩
  | false => exact iteF ⟨r1, env, st1, n.to x1 s1, w1⟩
end

/-! ### while -/
def sWhN (ft : IT) (fb : IS) : Nat → IS
  | 0 => sNo
  | n + 1 => sT ft (fun env st => match fb env st with
    | some ((env', .nx), st') => sWhN ft fb n env' st'
    | some ((env', .ct), st') => sWhN ft fb n env' st'
    | some ((env', .bk), st') => some ((env', .nx), st')
    | o => o) sNx
def bigN : Nat := 100000000
def sWhile (ft : IT) (fb : IS) : IS := sWhN ft fb bigN
section
variable {X : Cx} {cl : String → Addr} {W : WX} {c : Expr} {body : List Stmt} {ft : IT} {fb : IS} {pos : Pos}
theorem s_while (hp : PassesOwn (model X.prog X.w) X.A X.env X.xe) (hc : PT X c (RT X.K cl W ft)) (hb : PSs X body (RSs X.K cl W fb)) : PS X (.While c body [] pos) (RSs X.K cl W (sWhile ft fb)) := by
  refine ps_imp (ps_while hp hc hb) fun D σ H ⟨r, env, st, n, w⟩ => ?_
  refine ⟨fun m σ H => ∃ r env st, Rn X.K cl σ H r env st ∧ WpO X.K cl H r (sWhN ft fb m env st) fun p _ H' r' => PostS X.K cl W D p H' r', ⟨bigN, r, env, st, n, w⟩, ?_⟩
  rintro m σ H ⟨r, env, st, n, w⟩
  cases m with
  | zero => obtain ⟨p, st', e, q⟩ := w; cases e
  | succ m =>
    unfold sWhN at w
    refine ⟨r, env, st, n, (sT_in n w).mono fun b st1 H1 r1 x1 s1 w1 => ?_⟩
    cases b with
    | false =>
      refine iteF ?_
      obtain ⟨p, st', e, q⟩ := w1
      cases e
      exact q H1 r1 (Ext.refl H1 r1) s1 σ (n.env.mono x1)
    | true =>
      refine iteT ⟨fun σ H => ∃ r env st, Rn X.K cl σ H r env st ∧ WpO X.K cl H r (sWhN ft fb m env st) fun p _ H' r' => PostS X.K cl W D p H' r', fun σ' H' h => ⟨m, Nat.lt_succ_self m, h⟩, ?_⟩
      refine ⟨r1, env, st1, n.to x1 s1, ?_⟩
      obtain ⟨p, st', e, q⟩ := w1
      have e : (match fb env st1 with
        | some ((env', .nx), st') => sWhN ft fb m env' st'
        | some ((env', .ct), st') => sWhN ft fb m env' st'
        | some ((env', .bk), st') => some ((env', .nx), st')
        | o => o) = some (p, st') := e
      cases q1 : fb env st1 with
      | none => rw [q1] at e; cases e
      | some p1 =>
        obtain ⟨⟨env1, fl⟩, st2⟩ := p1
        rw [q1] at e
        refine ⟨_, _, rfl, fun H2 r2 x2 s2 σ2 he => ?_⟩
        cases fl with
        | nx => exact ⟨r2, env1, st2, ⟨he, s2⟩, p, st', e, fun H' r' x s => q H' r' (x2.trans x) s⟩
        | ct => exact ⟨r2, env1, st2, ⟨he, s2⟩, p, st', e, fun H' r' x s => q H' r' (x2.trans x) s⟩
        | bk => cases e; exact q H2 r2 x2 s2 σ2 he
        | rt d => cases e; exact q H2 r2 x2 s2 σ2 he
        | ex z => cases e; exact q H2 r2 x2 s2 σ2 he
end

/-! ### targets -/
inductive Tg where
  | nm (i : Nat)
  | tp (ts : List Tg)
mutual
def Tg.put : Tg → Iv.D → Lv → Option Lv
  | .nm i, d, env => some (env.set i (some d))
  | .tp ts, .tup ds, env => if ts.length = ds.length then putAll ts ds env else none
  | .tp _, _, _ => none
def putAll : List Tg → List Iv.D → Lv → Option Lv
  | t :: ts, d :: ds, env => match t.put d env with
    | some env' => putAll ts ds env'
    | none => none
  | _, _, env => some env
end
mutual
def Tg.slots : Tg → List Nat
  | .nm i => [i]
  | .tp ts => slotsAll ts
def slotsAll : List Tg → List Nat
  | [] => []
  | t :: ts => t.slots ++ slotsAll ts
end
/-- only these slots have changed -/
def Only' (vs : List Nat) (σ σ' : St) : Prop := σ'.length = σ.length ∧ ∀ j, j ∉ vs → σ'[j]? = σ[j]?
theorem Only'.refl {vs : List Nat} {σ : St} : Only' vs σ σ := ⟨rfl, fun _ _ => rfl⟩
theorem Only'.trans {vs ws : List Nat} {σ σ1 σ2 : St} (a : Only' vs σ σ1) (b : Only' ws σ1 σ2) : Only' (vs ++ ws) σ σ2 :=
  ⟨b.1.trans a.1, fun j h => by rw [b.2 j fun z => h (List.mem_append_right _ z), a.2 j fun z => h (List.mem_append_left _ z)]⟩
theorem Only'.set {i : Nat} {σ : St} {v : Option V} : Only' [i] σ (σ.set i v) := ⟨by simp, fun j h => by
  rw [List.getElem?_set_ne]
  intro e
  exact h (by simp [e])⟩
section
variable (K : PySem.W.Frag) (cl : String → Addr)
/-- a pair that has just been made is told by its places alone -/
def RDx (t : Tg) (H : Hp) (r : List Addr) (d : Iv.D) (v : V) : Prop := RD K H r d v ∨ ∃ ts ds a vs, t = .tp ts ∧ d = .tup ds ∧ v = .ref a ∧ SqT K H a vs ∧ RDs K H r ds vs
def RG (t : Tg) : TG := fun v σ H Q => ∃ r env st d env', Rn K cl σ H r env st ∧ RDx K t H r d v ∧ t.put d env = some env' ∧ ∀ σ', Only' t.slots σ σ' → REnv K H r env' σ' → Q σ' H
def RGs (ts : List Tg) : TGs := fun vs σ H Q => ∃ r env st ds env', Rn K cl σ H r env st ∧ RDs K H r ds vs ∧ ts.length = ds.length ∧ putAll ts ds env = some env' ∧ ∀ σ', Only' (slotsAll ts) σ σ' → REnv K H r env' σ' → Q σ' H
end
section
variable {X : Cx} {cl : String → Addr} {W : WX} {tg e : Expr} {es : List Expr} {fa : IE} {t : Tg} {ts : List Tg} {pos : Pos}
theorem pg_imp {g g' : TG} (h : PG X tg g) (m : ∀ v σ H Q, g' v σ H Q → g v σ H Q) : PG X tg g' := ⟨fun pins s σ H v u Q I r w => h.run pins s σ H v u Q I r (m v σ H Q w)⟩
theorem pgs_imp {g g' : TGs} (h : PGs X es g) (m : ∀ v σ H Q, g' v σ H Q → g v σ H Q) : PGs X es g' := ⟨fun pins s σ H v u Q I r w => h.run pins s σ H v u Q I r (m v σ H Q w)⟩
theorem g_nm {i : Nat} {x : Str} (hN : X.N.Nodup) (hi : X.N[i]? = some x) (hx : Loc X.env.scope x) (hf : X.fn x = true ∨ X.env.scope.names.lookup x = some .local := by first | exact .inl rfl | exact .inr rfl | assumption) : PG X (.Name x pos) (RG X.K cl (.nm i)) := by
  refine pg_imp (pg_name hN hi hx hf) fun v σ H Q ⟨r, env, st, d, env', n, hd, e, q⟩ => ?_
  have hd : RD X.K H r d v := by
    rcases hd with z | ⟨_, _, _, _, z, _⟩
    · exact z
    · cases z
  cases e
  exact q _ Only'.set (n.env.set hd)
theorem gs_nil : PGs X [] (RGs X.K cl []) := by
  refine pgs_imp pgs_nil fun v σ H Q ⟨r, env, st, ds, env', n, hd, hl, e, q⟩ => ?_
  cases ds with
  | nil => cases hd; cases e; exact ⟨rfl, q σ Only'.refl n.env⟩
  | cons _ _ => cases hl
theorem gs_cons (h1 : PG X e (RG X.K cl t)) (h2 : PGs X es (RGs X.K cl ts)) (hs : (assignEach (e :: es) X.env).map (·.2) = assign e X.env :: (assignEach es X.env).map (·.2) := by rfl) : PGs X (e :: es) (RGs X.K cl (t :: ts)) := by
  refine pgs_imp (pgs_cons h1 h2 hs) fun v σ H Q ⟨r, env, st, ds, env', n, hd, hl, e, q⟩ => ?_
  cases ds with
  | nil => cases hl
  | cons d ds =>
    obtain ⟨y, ys, rfl, d1, d2⟩ := hd
    unfold putAll at e
    cases q1 : t.put d env with
    | none => rw [q1] at e; cases e
    | some env1 =>
      rw [q1] at e
      refine ⟨y, ys, rfl, r, env, st, d, env1, n, .inl d1, q1, fun σ1 o1 he1 => ?_⟩
      refine ⟨r, env1, st, ds, env', ⟨he1, n.st⟩, d2, by simpa using hl, e, fun σ2 o2 he2 => ?_⟩
      exact q σ2 (o1.trans o2) he2
theorem g_tp {k : Nat} {m : Nat} (hc : X.calm = true) (h : PGs X es (RGs X.K cl ts)) (hm : ts.length = m := by rfl) (hn : (assignEach es X.env).length = m := by rfl) (hst : (assignEach es X.env).findIdx? (·.1) = none := by rfl) : PG X (.Tuple es k pos) (RG X.K cl (.tp ts)) := by
  refine pg_imp (pg_tup hc h hn hst) fun v σ H Q ⟨r, env, st, d, env', n, hd, e, q⟩ => ?_
  cases d with
  | tup ds =>
    have hd : ∃ a vs, v = .ref a ∧ SqT X.K H a vs ∧ RDs X.K H r ds vs := by
      rcases hd with ⟨a, vs, rfl, t, dd⟩ | ⟨_, ds', a, vs, _, z, rfl, t, dd⟩
      · exact ⟨a, vs, rfl, t.t, dd⟩
      · cases z; exact ⟨a, vs, rfl, t, dd⟩
    obtain ⟨a, vs, rfl, t, dd⟩ := hd
    unfold Tg.put at e
    split at e
    · rename_i hl
      exact ⟨a, vs, rfl, t, by rw [dd.length, ← hl, hm], r, env, st, ds, env', n, dd, hl, e, q⟩
    · cases e
  | _ => unfold Tg.put at e; cases e
end
/-- target = value -/
def sTg (t : Tg) (fa : IE) : IS := sE fa fun d env st => match t.put d env with
  | some env' => some ((env', .nx), st)
  | none => none
section
variable {X : Cx} {cl : String → Addr} {W : WX} {tg e : Expr} {fa : IE} {t : Tg} {pos : Pos}
theorem s_tg (he : PE X e (RE X.K cl W fa)) (hg : PG X tg (RG X.K cl t)) (hs : swapsWithSole [tg] e pos.line X.env = pure false := by rfl) (hw : swappedStores [tg] e X.env = pure none := by rfl)
    (h1 : (assignEach [tg] X.env).map (·.2) = [assign tg X.env] := by rfl) : PS X (.Assign [tg] e pos) (RSs X.K cl W (sTg t fa)) := by
  refine ps_imp (ps_asg he hg hs hw h1) fun D σ H ⟨r, env, st, n, w⟩ => ?_
  refine ⟨r, env, st, n, (sE_in n w).mono fun d st1 H1 r1 x1 s1 w1 v hd => ?_⟩
  obtain ⟨p, st', e, q⟩ := w1
  cases q1 : t.put d env with
  | none =>
    rw [q1] at e; cases e
  | some env' =>
    rw [q1] at e
    cases e
    exact ⟨r1, env, st1, d, env', n.to x1 s1, .inl hd, q1, fun σ' o he => q H1 r1 (Ext.refl H1 r1) s1 σ' he⟩
end
/-- a, b = x, y -/
def sPar (i j : Nat) (fa : IA) : IS := fun env st => match fa env st with
  | .ok [x, y] st1 => some (((env.set i (some x)).set j (some y), .nx), st1)
  | .ok _ _ => none
  | .ex e st1 => some ((env, .ex e), st1)
  | .no => none
section
variable {X : Cx} {cl : String → Addr} {W : WX} {a b : Expr} {fr : IA} {pos : Pos}
theorem s_par {i j : Nat} {x y : Str} {px py pt : Pos} {kt k2 pt2} (hc : X.calm = true) (hN : X.N.Nodup) (hi : X.N[i]? = some x) (hj : X.N[j]? = some y) (hij : i ≠ j)
    (hx : X.env.scope.names.lookup x = some .local) (hy : X.env.scope.names.lookup y = some .local) (ha : PA X [a, b] (RA X.K cl W fr))
    (hw : swappedStores [.Tuple [.Name x px, .Name y py] kt pt] (.Tuple [a, b] k2 pt2) X.env = pure (some [x, y]))
    (hs : swapsWithSole [.Tuple [.Name x px, .Name y py] kt pt] (.Tuple [a, b] k2 pt2) pos.line X.env = pure false := by rfl) :
    PS X (.Assign [.Tuple [.Name x px, .Name y py] kt pt] (.Tuple [a, b] k2 pt2) pos) (RSs X.K cl W (sPar i j fr)) := by
  refine ps_imp (ps_par hc hN hi hj hij hx hy ha hw hs) fun D σ H ⟨r, env, st, n, w⟩ => ?_
  refine ⟨r, env, st, n, ?_⟩
  obtain ⟨p, st', e, q⟩ := w
  unfold sPar at e
  unfold Wp
  split at e
  · rename_i u v st1 e1
    rw [e1]
    cases e
    intro H1 r1 x1 s1 vs hv
    obtain ⟨y1, ys1, rfl, d1, hv⟩ := hv
    obtain ⟨y2, ys2, rfl, d2, hv⟩ := hv
    cases hv
    exact ⟨y1, y2, rfl, q H1 r1 x1 s1 _ (((n.env.mono x1).set d1).set d2)⟩
  · cases e
  · rename_i z st1 e1
    rw [e1]
    cases e
    exact fun H' r' cls d x s rx => q H' r' x s σ (n.env.mono x) cls d rx
  · cases e
end
end Iv

namespace Iv
open PySem L2

/-! ### stores into lists and dicts -/
def gSet (o i v : D) (st : Stt) : Option Stt := match o with
  | .obj k => match st[k]? with
    | some (.lst xs) => match i with
      | .int z => match ixN xs.length z with
        | some j => some (st.set k (.lst (xs.set j v)))
        | none => none
      | _ => none
    | some (.dct kvs) => match keyD i with
      | some key => if kvs.length < sizeLine then some (st.set k (.dct (putD kvs key v))) else none
      | none => none
    | _ => none
  | _ => none
def RSet (K : PySem.W.Frag) (cl : String → Addr) : TSet := fun o i v H Q => ∃ r st dx dy dv, RSt K H r cl st ∧ RD K H r dx o ∧ RD K H r dy i ∧ RD K H r dv v ∧ ∃ st', gSet dx dy dv st = some st' ∧ ∀ H' r', Ext H r H' r' → RSt K H' r' cl st' → Q H'
def sSub (fo fi fv : IE) : IS := sE fv fun v => sE fo fun o => sE fi fun i env st => match gSet o i v st with
  | some st' => some ((env, .nx), st')
  | none => none
section
variable {X : Cx} {cl : String → Addr} {W : WX} {o i e : Expr} {fo fi fv : IE} {pos pos' : Pos}
theorem set_dct (hu : X.A.units + 1 < cLine) : PSet X (fun o i v H Q => ∃ a H', o = .ref a ∧ DPut H a i v H' ∧ Q H') := by
  intro pins s σ H o i v ov iv u Q I ro ri rv h
  obtain ⟨a, H', rfl, g, q⟩ := h
  obtain rfl : ov = Value.ref a := ro
  exact d_setItem hu I g ri rv fun s' I' => ⟨H', I', q⟩
theorem o_set (hu : X.A.units + 64 < cLine) : PSet X (RSet X.K cl) := by
  refine set_imp (set_or set_list (set_dct (by omega))) fun o i v H Q ⟨r, st, dx, dy, dv, s, h1, h2, h3, st', e, q⟩ => ?_
  unfold gSet at e
  cases dx with
  | obj k =>
    obtain ⟨a, ea, rfl⟩ := h1
    simp only at e
    cases q0 : st[k]? with
    | none => rw [q0] at e; cases e
    | some ob =>
      rw [q0] at e
      have ho := s.obj k a ob ea q0
      cases ob with
      | lst xs =>
        obtain ⟨vs, u1, u2⟩ := ho
        simp only at e
        cases dy with
        | int z =>
          cases h2
          simp only at e
          cases qj : ixN xs.length z with
          | none => rw [qj] at e; cases e
          | some j =>
            rw [qj] at e
            cases e
            refine .inl ⟨a, vs, z, j, rfl, rfl, u1, by rw [u2.length]; exact qj, ?_⟩
            have x1 := Ext.write (u := .lst (vs.set j v)) ea u1 trivial
            exact q _ r x1 (s.write ea u1 trivial ⟨_, upd_same, (u2.set h3).mono x1⟩)
        | _ => cases e
      | dct kvs =>
        obtain ⟨vs, u1, u2⟩ := ho
        simp only at e
        cases qk : keyD dy with
        | none => rw [qk] at e; cases e
        | some key =>
          rw [qk] at e
          have ek := key_of qk h2
          subst ek
          simp only at e
          split at e
          · rename_i hl
            cases e
            refine .inr ⟨a, _, rfl, DPut.k u1 (by rw [u2.length]; exact hl), ?_⟩
            have x1 := Ext.write (u := .dK (putK vs key v)) ea u1 trivial
            exact q _ r x1 (s.write ea u1 trivial ⟨_, upd_same, (u2.put h3).mono x1⟩)
          · cases e
      | dcf kvs => cases e
      | ins c fs => cases e
  | _ => cases e
theorem s_sub (hu : X.A.units + 64 < cLine) (ho : PE X o (RE X.K cl W fo)) (hi : PE X i (RE X.K cl W fi)) (hv : PE X e (RE X.K cl W fv))
    (ha : ∀ v, assign (.Subscript o i pos') X.env v = (do
      let ov ← holding [v] (eval o X.env)
      let iv ← holding [v, ov] (eval i X.env)
      standAt pos'
      holding [v, ov, iv] (setItem ov iv v)
      release [v, ov, iv] []) := by intro _; rfl)
    (hs : swapsWithSole [.Subscript o i pos'] e pos.line X.env = pure false := by rfl) (hw : swappedStores [.Subscript o i pos'] e X.env = pure none := by rfl)
    (h1 : (assignEach [.Subscript o i pos'] X.env).map (·.2) = [assign (.Subscript o i pos') X.env] := by rfl) : PS X (.Assign [.Subscript o i pos'] e pos) (RSs X.K cl W (sSub fo fi fv)) := by
  refine ps_imp (ps_asg hv (pg_sub ho hi (o_set (cl := cl) hu) ha) hs hw h1) fun D σ H ⟨r, env, st, n, w⟩ => ?_
  refine ⟨r, env, st, n, (sE_in n w).mono fun v st1 H1 r1 x1 s1 w1 vv hv => ?_⟩
  have n1 := n.to x1 s1
  refine ⟨r1, env, st1, n1, (sE_in n1 w1).mono fun o st2 H2 r2 x2 s2 w2 vo hod => ?_⟩
  have n2 := n1.to x2 s2
  refine ⟨r2, env, st2, n2, (sE_in n2 w2).mono fun i st3 H3 r3 x3 s3 w3 vi hid => ?_⟩
  have n3 := n2.to x3 s3
  obtain ⟨p, st', e, q⟩ := w3
  refine ⟨r3, st3, o, i, v, s3, hod.mono x3, hid, hv.mono (x2.trans x3), ?_⟩
  cases q1 : gSet o i v st3 with
  | none => rw [q1] at e; cases e
  | some st4 =>
    rw [q1] at e
    cases e
    exact ⟨_, rfl, fun H4 r4 x4 s4 => q H4 r4 x4 s4 σ (n3.env.mono x4)⟩
end

/-! ### what is walked -/
abbrev Src := Nat → Stt → Option (Option D)
abbrev II := Lv → Stt → Res Src
section
variable (K : PySem.W.Frag) (cl : String → Addr) (W : WX)
def SrcOk (t : Tg) (H0 : Hp) (r0 : List Addr) (src : Src) (J : It) : Prop := ∀ H r st i o, Ext H0 r0 H r → RSt K H r cl st → src i st = some o → match o with
  | none => J.stop i H
  | some d => J.go i H ∧ ∀ x H', J.yld i H x H' → ∃ r', Ext H r H' r' ∧ RSt K H' r' cl st ∧ RDx K t H' r' d x
def RI (t : Tg) (f : II) : TI := fun σ H R => ∃ r env st, Rn K cl σ H r env st ∧ Wp K cl W σ H r (f env st) fun src _ H' r' => ∀ J, SrcOk K cl t H' r' src J → R J H'
end
theorem SrcOk.from {K : PySem.W.Frag} {cl : String → Addr} {t : Tg} {H0 H1 : Hp} {r0 r1 : List Addr} {src : Src} {J : It} (h : SrcOk K cl t H0 r0 src J) (x : Ext H0 r0 H1 r1) : SrcOk K cl t H1 r1 src J :=
  fun H r st i o y s e => h H r st i o (x.trans y) s e
def srcTup (xs : List D) : Src := fun i _ => some xs[i]?
def srcLst (k : Nat) : Src := fun i st => match st[k]? with
  | some (.lst xs) => some xs[i]?
  | _ => none
def srcRng (lo : Int) (n : Nat) : Src := fun i _ => some (if i < n then some (.int (lo + i)) else none)
/-- over a tuple or a list -/
def iSeq (fa : IE) : II := fun env st => (fa env st).bind fun x st1 => match x with
  | .tup xs => .ok (srcTup xs) st1
  | .cl xs => .ok (srcTup xs) st1
  | .obj k => match st1[k]? with
    | some (.lst _) => .ok (srcLst k) st1
    | _ => .no
  | _ => .no
/-- where the thing walked is known to be a tuple, a list -/
def iSeqT (fa : IE) : II := fun env st => (fa env st).bind fun x st1 => match x with
  | .tup xs => .ok (srcTup xs) st1
  | _ => .no
def iSeqL (fa : IE) : II := fun env st => (fa env st).bind fun x st1 => match x with
  | .cl xs => .ok (srcTup xs) st1
  | .obj k => match st1[k]? with
    | some (.lst _) => .ok (srcLst k) st1
    | _ => .no
  | _ => .no
def iRng1 (fa : IA) : II := fun env st => (fa env st).bind fun xs st1 => match xs with
  | [.int j] => if -(2 ^ 62) ≤ j ∧ j < 2 ^ 62 then .ok (srcRng 0 j.toNat) st1 else .no
  | _ => .no
def iRng2 (fa : IA) : II := fun env st => (fa env st).bind fun xs st1 => match xs with
  | [.int i, .int j] => if -(2 ^ 62) ≤ i ∧ i < 2 ^ 62 ∧ -(2 ^ 62) ≤ j ∧ j < 2 ^ 62 then .ok (srcRng i (j - i).toNat) st1 else .no
  | _ => .no
section
variable {X : Cx} {cl : String → Addr} {W : WX} {tg e e2 : Expr} {fa : IE} {fr : IA} {p pos : Pos} {tt : Tg}
theorem pi_imp {w w' : TI} (h : PI X tg e w) (m : ∀ σ H R, w' σ H R → w σ H R) : PI X tg e w' := ⟨fun pins s σ H R I q => h.run pins s σ H R I (m σ H R q)⟩
theorem src_tup {H : Hp} {r : List Addr} {a : Addr} {xs : List D} {vs : List V} (t : PlT X.K H a vs) (d : RDs X.K H r xs vs) : SrcOk X.K cl tt H r (srcTup xs) (Itt X.K a) := by
  intro H' r' st i o x s e
  have t' := (x.sqt t).t
  have d' := d.mono x
  cases e
  cases q : xs[i]? with
  | none =>
    refine ⟨vs, t', ?_⟩
    rw [d'.length]
    exact List.getElem?_eq_none_iff.mp q
  | some z =>
    obtain ⟨v, e1, e2⟩ := d'.get q
    refine ⟨⟨vs, v, t', e1⟩, fun y H2 hy => ?_⟩
    obtain ⟨rfl, hy⟩ := hy
    have e3 := hy vs t'
    rw [e1] at e3
    cases e3
    exact ⟨r', Ext.refl _ _, s, .inl e2⟩
theorem src_cl {H : Hp} {r : List Addr} {a : Addr} {xs : List D} {vs : List V} (t : SqC X.K H a vs) (d : RDs X.K H r xs vs) : SrcOk X.K cl tt H r (srcTup xs) (Itl X.K a) := by
  intro H' r' st i o x s e
  have t' := (x.sqc t).l
  have d' := d.mono x
  cases e
  cases q : xs[i]? with
  | none =>
    refine ⟨vs, t', ?_⟩
    rw [d'.length]
    exact List.getElem?_eq_none_iff.mp q
  | some z =>
    obtain ⟨v, e1, e2⟩ := d'.get q
    refine ⟨⟨vs, v, t', e1⟩, fun y H2 hy => ?_⟩
    obtain ⟨rfl, hy⟩ := hy
    have e3 := hy vs t'
    rw [e1] at e3
    cases e3
    exact ⟨r', Ext.refl _ _, s, .inl e2⟩
theorem src_lst {H : Hp} {r : List Addr} {a : Addr} {k : Nat} (ea : r[k]? = some a) : SrcOk X.K cl tt H r (srcLst k) (Itl X.K a) := by
  intro H' r' st i o x s e
  have ea' := x.pre k a ea
  unfold srcLst at e
  split at e
  · rename_i xs q0
    obtain ⟨vs, u1, u2⟩ := s.obj k a _ ea' q0
    have t' : SqL X.K H' a vs := SqL.of u1
    cases e
    cases q : xs[i]? with
    | none =>
      refine ⟨vs, t', ?_⟩
      rw [u2.length]
      exact List.getElem?_eq_none_iff.mp q
    | some z =>
      obtain ⟨v, e1, e2⟩ := u2.get q
      refine ⟨⟨vs, v, t', e1⟩, fun y H2 hy => ?_⟩
      obtain ⟨rfl, hy⟩ := hy
      have e3 := hy vs t'
      rw [e1] at e3
      cases e3
      exact ⟨r', Ext.refl _ _, s, .inl e2⟩
  · cases e
theorem src_rng {H : Hp} {r : List Addr} {lo : Int} {n : Nat} : SrcOk X.K cl tt H r (srcRng lo n) (Itr lo n) := by
  intro H' r' st i o x s e
  cases e
  by_cases h : i < n
  · rw [if_pos h]
    refine ⟨h, fun y H2 hy => ?_⟩
    obtain ⟨rfl, rfl⟩ := hy
    exact ⟨r', Ext.refl _ _, s, .inl rfl⟩
  · rw [if_neg h]
    exact Nat.le_of_not_lt h
theorem ii_tup (h : PE X e (RE X.K cl W fa)) : PI X tg e (RI X.K cl W tt (iSeqT fa)) := by
  refine pi_imp (pi_tup h) fun σ H R ⟨r, env, st, n, w⟩ => ?_
  refine ⟨r, env, st, n, (Wp.bind w).mono fun x st1 H1 r1 x1 s1 w1 v hd => ?_⟩
  cases x with
  | tup xs =>
    obtain ⟨a, vs, rfl, t, d⟩ := hd
    exact ⟨a, rfl, ⟨vs, t.t⟩, w1.ok s1 _ (src_tup t d)⟩
  | _ => exact w1.elim
theorem ii_lst (h : PE X e (RE X.K cl W fa)) : PI X tg e (RI X.K cl W tt (iSeqL fa)) := by
  refine pi_imp (pi_list h) fun σ H R ⟨r, env, st, n, w⟩ => ?_
  refine ⟨r, env, st, n, (Wp.bind w).mono fun x st1 H1 r1 x1 s1 w1 v hd => ?_⟩
  cases x with
  | cl xs =>
    obtain ⟨a, vs, rfl, t, d⟩ := hd
    exact ⟨a, rfl, ⟨vs, t.l⟩, w1.ok s1 _ (src_cl t d)⟩
  | obj k =>
    obtain ⟨a, ea, rfl⟩ := hd
    simp only at w1
    split at w1
    · rename_i xs q0
      obtain ⟨vs, u1, u2⟩ := s1.obj k a _ ea q0
      exact ⟨a, rfl, ⟨vs, SqL.of u1⟩, w1.ok s1 _ (src_lst ea)⟩
    · exact w1.elim
  | _ => exact w1.elim
theorem ii_rng1 (hg : Gl X "range") (hm : X.mg "range" = none) (ha : PA X [e] (RA X.K cl W fr)) (hs : starEach [e] X.env = [(false, eval e X.env)] := by rfl) : PI X tg (.Call (.Name "range" p) [e] [] pos) (RI X.K cl W tt (Iv.iRng1 fr)) := by
  refine pi_imp (pi_range1 hg hm ha hs) fun σ H R ⟨r, env, st, n, w⟩ => ?_
  refine ⟨r, env, st, n, (Wp.bind w).mono fun xs st1 H1 r1 x1 s1 w1 vs hd => ?_⟩
  split at w1
  · rename_i j
    split at w1
    · rename_i hj
      obtain ⟨y, ys, rfl, d1, d2⟩ := hd
      cases d1; cases d2
      exact ⟨j, rfl, hj.1, hj.2, w1.ok s1 _ src_rng⟩
    · exact w1.elim
  · exact w1.elim
theorem ii_rng2 (hg : Gl X "range") (hm : X.mg "range" = none) (ha : PA X [e, e2] (RA X.K cl W fr)) (hs : starEach [e, e2] X.env = [(false, eval e X.env), (false, eval e2 X.env)] := by rfl) (hs2 : starEach [e2] X.env = [(false, eval e2 X.env)] := by rfl) :
    PI X tg (.Call (.Name "range" p) [e, e2] [] pos) (RI X.K cl W tt (Iv.iRng2 fr)) := by
  refine pi_imp (pi_range2 hg hm ha hs hs2) fun σ H R ⟨r, env, st, n, w⟩ => ?_
  refine ⟨r, env, st, n, (Wp.bind w).mono fun xs st1 H1 r1 x1 s1 w1 vs hd => ?_⟩
  split at w1
  · rename_i i j
    split at w1
    · rename_i hj
      obtain ⟨y, ys, rfl, d1, d2⟩ := hd
      obtain ⟨y2, ys2, rfl, d2, d3⟩ := d2
      cases d1; cases d2; cases d3
      exact ⟨i, j, rfl, hj, w1.ok s1 _ src_rng⟩
    · exact w1.elim
  · exact w1.elim
end

/-! ### for -/
def sForN (src : Src) (t : Tg) (fb : IS) : Nat → Nat → IS
  | 0, i => fun env st => match src i st with
    | some none => some ((env, .nx), st)
    | _ => none
  | n + 1, i => fun env st => match src i st with
    | some none => some ((env, .nx), st)
    | some (some d) => match t.put d env with
      | some env1 => match fb env1 st with
        | some ((env2, .nx), st2) => sForN src t fb n (i + 1) env2 st2
        | some ((env2, .ct), st2) => sForN src t fb n (i + 1) env2 st2
        | some ((env2, .bk), st2) => some ((env2, .nx), st2)
        | o => o
      | none => none
    | none => none
def sFor (fi : II) (t : Tg) (fb : IS) : IS := fun env st => match fi env st with
  | .ok src st1 => sForN src t fb bigN 0 env st1
  | .ex e st1 => some ((env, .ex e), st1)
  | .no => none
section
variable {X : Cx} {cl : String → Addr} {W : WX} {tg iter : Expr} {body : List Stmt} {fi : II} {t : Tg} {fb : IS} {pos : Pos}
theorem sFor_in {σ : St} {H : Hp} {r : List Addr} {env : Lv} {st : Stt} {D : Ends} (n : Rn X.K cl σ H r env st) (w : WpO X.K cl H r (sFor fi t fb env st) fun p _ H' r' => PostS X.K cl W D p H' r') :
    Wp X.K cl W σ H r (fi env st) fun src st1 H1 r1 => WpO X.K cl H1 r1 (sForN src t fb bigN 0 env st1) fun p _ H' r' => PostS X.K cl W D p H' r' := by
  obtain ⟨p, st', e, q⟩ := w
  unfold sFor at e
  unfold Wp
  split at e
  · rename_i d st1 e1
    rw [e1]
    exact fun H1 r1 x1 s1 => ⟨p, st', e, fun H' r' x s => q H' r' (x1.trans x) s⟩
  · rename_i x st1 e1
    rw [e1]
    cases e
    exact fun H' r' cls d x s rx => q H' r' x s σ (n.env.mono x) cls d rx
  · cases e
theorem s_for (hp : PassesOwn (model X.prog X.w) X.A X.env X.xe) (hc : X.calm = true) (hi : PI X tg iter (RI X.K cl W t fi)) (hg : PG X tg (RG X.K cl t)) (hb : PSs X body (RSs X.K cl W fb))
    (hs : ∀ x, foldedSetIterable iter X.env x = pure x := by intro _; rfl) : PS X (.For tg iter body [] pos) (RSs X.K cl W (sFor fi t fb)) := by
  refine ps_imp (ps_for hp hc hi hg hb hs) fun D σ H ⟨r, env, st, n, w⟩ => ?_
  refine ⟨r, env, st, n, (sFor_in n w).mono fun src st1 H1 r1 x1 s1 w1 J hJ => ?_⟩
  refine ⟨fun i m σ H => ∃ r env st, Ext H1 r1 H r ∧ Rn X.K cl σ H r env st ∧ WpO X.K cl H r (sForN src t fb m i env st) fun p _ H' r' => PostS X.K cl W D p H' r', ⟨bigN, r1, env, st1, Ext.refl _ _, n.to x1 s1, w1⟩, ?_⟩
  rintro i m σ H ⟨r, env, st, x0, n, w⟩
  cases m with
  | zero =>
    obtain ⟨p, st', e, q⟩ := w
    unfold sForN at e
    split at e
    · rename_i e1
      cases e
      exact .inl ⟨hJ H r _ i none x0 n.st e1, q H r (Ext.refl H r) n.st σ n.env⟩
    · cases e
  | succ m =>
    obtain ⟨p, st', e, q⟩ := w
    unfold sForN at e
    cases q0 : src i st with
    | none => rw [q0] at e; cases e
    | some o =>
      cases o with
      | none =>
        rw [q0] at e
        cases e
        exact .inl ⟨hJ H r _ i none x0 n.st q0, q H r (Ext.refl H r) n.st σ n.env⟩
      | some d =>
        rw [q0] at e
        obtain ⟨h1, h2⟩ := hJ H r st i (some d) x0 n.st q0
        refine .inr ⟨h1, fun σ H => ∃ r env st, Ext H1 r1 H r ∧ Rn X.K cl σ H r env st ∧ WpO X.K cl H r (sForN src t fb m (i + 1) env st) fun p _ H' r' => PostS X.K cl W D p H' r', fun σ' H' h => ⟨m, Nat.lt_succ_self m, h⟩, fun v H2 hy => ?_⟩
        obtain ⟨r2, x2, s2, hd⟩ := h2 v H2 hy
        cases q1 : t.put d env with
        | none =>
          have e : (match t.put d env with
            | some env1 => _
            | none => none) = some (p, st') := e
          rw [q1] at e; cases e
        | some env1 =>
          refine ⟨r2, env, st, d, env1, ⟨n.env.mono x2, s2⟩, hd, q1, fun σ1 _ he1 => ?_⟩
          refine ⟨r2, env1, st, ⟨he1, s2⟩, ?_⟩
          simp only [q1] at e
          cases q2 : fb env1 st with
          | none => rw [q2] at e; cases e
          | some p1 =>
            obtain ⟨⟨env2, fl⟩, st2⟩ := p1
            rw [q2] at e
            refine ⟨_, _, rfl, fun H3 r3 x3 s3 σ3 he => ?_⟩
            cases fl with
            | nx => exact ⟨r3, env2, st2, x0.trans (x2.trans x3), ⟨he, s3⟩, p, st', e, fun H' r' x s => q H' r' (x2.trans (x3.trans x)) s⟩
            | ct => exact ⟨r3, env2, st2, x0.trans (x2.trans x3), ⟨he, s3⟩, p, st', e, fun H' r' x s => q H' r' (x2.trans (x3.trans x)) s⟩
            | bk => cases e; exact q H3 r3 (x2.trans x3) s3 σ3 he
            | rt d => cases e; exact q H3 r3 (x2.trans x3) s3 σ3 he
            | ex z => cases e; exact q H3 r3 (x2.trans x3) s3 σ3 he
end

/-! ### comprehensions -/
def wipeL (env : Lv) : List Nat → Lv
  | [] => env
  | v :: vs => (wipeL env vs).set v none
theorem REnv.wipe {K : PySem.W.Frag} {H : Hp} {r : List Addr} {env : Lv} {σ : St} (h : REnv K H r env σ) : ∀ vs : List Nat, REnv K H r (wipeL env vs) (wipe σ vs)
  | [] => h
  | v :: vs => (REnv.wipe h vs).setn
theorem wipe_at {σ : St} {j : Nat} : ∀ {vs : List Nat}, j ∉ vs → (L2.wipe σ vs)[j]? = σ[j]?
  | [], _ => rfl
  | v :: vs, h => by
    unfold L2.wipe
    rw [List.getElem?_set_ne (fun e => h (by simp [e]))]
    exact wipe_at fun z => h (List.mem_cons_of_mem _ z)
theorem wipe_in {σ : St} {j : Nat} : ∀ {vs : List Nat}, j ∈ vs → j < σ.length → (L2.wipe σ vs)[j]? = some none
  | [], h, _ => by cases h
  | v :: vs, h, hl => by
    unfold L2.wipe
    by_cases e : v = j
    · subst e
      rw [List.getElem?_set_self (by rw [L2.wipe_length]; exact hl)]
    · rw [List.getElem?_set_ne e]
      exact wipe_in ((List.mem_cons.mp h).resolve_left fun z => e z.symm) hl
theorem wipe_only {vs ws : List Nat} {σ σ' : St} (h : Only' ws (L2.wipe σ vs) σ') (hs : ∀ j ∈ ws, j ∈ vs) : L2.wipe σ' vs = L2.wipe σ vs := by
  have hl : σ'.length = σ.length := by rw [h.1, L2.wipe_length]
  refine List.ext_getElem? fun j => ?_
  by_cases hj : j ∈ vs
  · by_cases hz : j < σ.length
    · rw [wipe_in hj hz, wipe_in hj (by rw [hl]; exact hz)]
    · rw [List.getElem?_eq_none (by rw [L2.wipe_length, hl]; omega), List.getElem?_eq_none (by rw [L2.wipe_length]; omega)]
  · rw [wipe_at hj, h.2 j fun z => hj (hs j z)]
def W0 : WX := fun _ _ _ _ => False
def compN (src : Src) (t : Tg) (tt : IT) (te : IE) (env : Lv) : Nat → Nat → List D → Stt → Option (List D × Stt)
  | 0, i, acc, st => match src i st with
    | some none => some (acc, st)
    | _ => none
  | n + 1, i, acc, st => match src i st with
    | some none => some (acc, st)
    | some (some d) => match t.put d env with
      | some env1 => match tt env1 st with
        | .ok true st1 => match te env1 st1 with
          | .ok y st2 => if acc.length < 10000000 then compN src t tt te env n (i + 1) (acc ++ [y]) st2 else none
          | _ => none
        | .ok false st1 => compN src t tt te env n (i + 1) acc st1
        | _ => none
      | none => none
    | none => none
def eLc (fi : II) (t : Tg) (tt : IT) (te : IE) (vs : List Nat) : IE := fun env st => (fi env st).bind fun src st1 => match compN src t tt te (wipeL env vs) bigN 0 [] st1 with
  | some (acc, st2) => .ok (.obj st2.length) (st2 ++ [.lst acc])
  | none => .no
def tYesI : IT := fun _ st => .ok true st
section
variable {K : PySem.W.Frag} {cl : String → Addr} {H : Hp} {r : List Addr} {st : Stt}
/-- a thing beside the store joins it -/
theorem Ext.join {p : Addr} {H0 : Hp} {r0 : List Addr} (x : Ext H0 r0 H r) (h0 : H0 p = none) : Ext H0 r0 H (r ++ [p]) := by
  refine ⟨fun k a e => ?_, fun b hb => ?_, x.keep, x.tups, x.frzs, x.frzk⟩
  · have e1 := x.pre k a e
    have hk := (List.getElem?_eq_some_iff.mp e1).1
    rw [List.getElem?_append_left hk]
    exact e1
  · rcases List.mem_append.mp hb with z | z
    · exact x.fresh b z
    · rw [List.mem_singleton.mp z]; exact .inr h0
theorem RSt.join {p : Addr} {o : O} (s : RSt K H r cl st) (hp : p ∉ r) (ho : RO K H (r ++ [p]) cl o p) : RSt K H (r ++ [p]) cl (st ++ [o]) := by
  have pr : ∀ (k : Nat) (a : Addr), r[k]? = some a → (r ++ [p])[k]? = some a := fun k a e => by
    rw [List.getElem?_append_left (List.getElem?_eq_some_iff.mp e).1]; exact e
  refine ⟨by simp [s.len], ?_, fun k a ob e1 e2 => ?_⟩
  · refine List.nodup_append.mpr ⟨s.nd, by simp, fun a ha b hb e => ?_⟩
    rw [List.mem_singleton.mp hb] at e
    exact hp (e ▸ ha)
  · by_cases hk : k < r.length
    · rw [List.getElem?_append_left hk] at e1
      rw [List.getElem?_append_left (by rw [← s.len]; exact hk)] at e2
      have g := s.obj k a ob e1 e2
      have x : Sub H r H (r ++ [p]) := ⟨pr, fun _ _ _ h => h, fun _ _ _ h => h⟩
      cases ob with
      | lst xs => obtain ⟨vs, u1, u2⟩ := g; exact ⟨vs, u1, u2.monoS x⟩
      | dct kvs => obtain ⟨vs, u1, u2⟩ := g; exact ⟨vs, u1, u2.monoS x⟩
      | dcf kvs => obtain ⟨o, vs, u1, u2⟩ := g; exact ⟨o, vs, u1, u2.monoS x⟩
      | ins c fs => obtain ⟨dx, vs, u1, u2⟩ := g; exact ⟨dx, vs, u1, u2.monoS x⟩
    · have hl := (List.getElem?_eq_some_iff.mp e1).1
      have e : k = r.length := by simp at hl; omega
      subst e
      rw [get_new] at e1
      cases e1
      rw [s.len] at e2
      simp at e2
      subst e2
      exact ho
/-- beside the store a list is written -/
theorem Ext.aside {p : Addr} {u0 u : HO} (hp : p ∉ r) (h0 : H p = some u0) (hm : Mut (some u0)) : Sub H r (upd H p u) r := by
  refine ⟨fun _ _ h => h, fun b ob xs q => ?_, fun b ob xs q => ?_⟩
  · rw [upd_ne fun z => by rw [z, h0] at q; cases q; exact hm]; exact q
  · rw [upd_ne fun z => by rw [z, h0] at q; cases q; exact hm]; exact q
theorem RO.monoS {o : O} {a : Addr} {H' : Hp} {r' : List Addr} (x : Sub H r H' r') (h : RO K H r cl o a) (e : H' a = H a) : RO K H' r' cl o a := by
  cases o with
  | lst xs => obtain ⟨vs, h1, h2⟩ := h; exact ⟨vs, e.trans h1, h2.monoS x⟩
  | dct kvs => obtain ⟨vs, h1, h2⟩ := h; exact ⟨vs, e.trans h1, h2.monoS x⟩
  | dcf kvs => obtain ⟨o, vs, h1, h2⟩ := h; exact ⟨o, vs, e.trans h1, h2.monoS x⟩
  | ins c fs => obtain ⟨dx, vs, h1, h2⟩ := h; exact ⟨dx, vs, e.trans h1, h2.monoS x⟩
theorem RSt.aside {p : Addr} {u0 u : HO} (s : RSt K H r cl st) (hp : p ∉ r) (h0 : H p = some u0) (hm : Mut (some u0)) : RSt K (upd H p u) r cl st :=
  ⟨s.len, s.nd, fun k a o e1 e2 => (s.obj k a o e1 e2).monoS (Ext.aside hp h0 hm) (upd_ne fun e => hp (e ▸ mem_of_get e1))⟩
/-- .. seen from a heap that did not know it -/
theorem Ext.aside2 {p : Addr} {u0 u : HO} {H0 : Hp} {r0 : List Addr} (x : Ext H0 r0 H r) (hp : p ∉ r) (hn : H0 p = none) (h0 : H p = some u0) (hm : Mut (some u0)) : Ext H0 r0 (upd H p u) r := by
  have y := Ext.aside (r := r) (u := u) hp h0 hm
  refine ⟨x.pre, x.fresh, fun b o e hb => ?_, fun a o xs h => y.tups a o xs (x.tups a o xs h), fun a o xs h => y.frzs a o xs (x.frzs a o xs h), fun a o xs h => by
    have q := x.frzk a o xs h
    rw [upd_ne fun z => by rw [z, h0] at q; cases q; exact hm]; exact q⟩
  rw [upd_ne fun z => by rw [z, hn] at e; cases e]
  exact x.keep b o e hb
end
section
variable {X : Cx} {cl : String → Addr} {W : WX} {tg iter elt : Expr} {ifs : List Expr} {fi : II} {t : Tg} {ft : IT} {fe : IE} {pos : Pos}
theorem its_nil : PTs X [] (RT X.K cl W tYesI) := ⟨fun pins s σ H Q I ⟨r, env, st, n, w⟩ => pts_nil.run pins s σ H Q I (w.ok n.st)⟩
theorem its_one {c : Expr} (h : PT X c (RT X.K cl W ft)) : PTs X [c] (RT X.K cl W ft) := pts_one h
theorem lc_in {ls : List Nat} (hsl : ∀ j ∈ t.slots, j ∈ ls) {σ : St} {H : Hp} {Q : VK} (h : RE X.K cl W (eLc fi t ft fe ls) σ H Q) : tLc (RI X.K cl W t fi) (RG X.K cl t) (RT X.K cl W0 ft) (RE X.K cl W0 fe) ls σ H Q := by
  obtain ⟨r, env, st, n, w⟩ := h
  refine ⟨r, env, st, n, (Wp.bind w).mono fun src st1 H1 r1 x1 s1 w1 J hJ Dl hD => ?_⟩
  have n1 := n.to x1 s1
  generalize hq : compN src t ft fe (wipeL env ls) bigN 0 [] st1 = q at w1
  cases q with
  | none => exact w1.elim
  | some p0 =>
    obtain ⟨accE, stE⟩ := p0
    have fin : ∀ H' r', Ext H1 r1 H' r' → RSt X.K H' r' cl (stE ++ [.lst accE]) → ∀ v, RD X.K H' r' (.obj stE.length) v → Q v H' := fun H' r' x s v h => w1 H' r' x s v h
    have x10 : Ext H1 r1 (upd H1 Dl (.lst [])) r1 := Ext.beside hD
    refine ⟨fun i m H2 => ∃ r2 st2 acc vs, Ext H1 r1 H2 r2 ∧ RSt X.K H2 r2 cl st2 ∧ Dl ∉ r2 ∧ H2 Dl = some (.lst vs) ∧ RDs X.K H2 r2 acc vs ∧ compN src t ft fe (wipeL env ls) m i acc st2 = some (accE, stE), ⟨bigN, r1, st1, [], [], x10, s1.beside hD, s1.out hD, upd_same, rfl, hq⟩, ?_⟩
    rintro i m H2 ⟨r2, st2, acc, vs, x2, s2, hn2, hD2, ha2, e⟩
    have stop : src i st2 = some none → (accE, stE) = (acc, st2) → (J.stop i H2 ∧ Q (.ref Dl) H2) := fun q0 q1 => by
      cases q1
      refine ⟨hJ H2 r2 _ i none x2 s2 q0, ?_⟩
      have sb : Sub H2 r2 H2 (r2 ++ [Dl]) := ⟨fun k a e => by rw [List.getElem?_append_left (List.getElem?_eq_some_iff.mp e).1]; exact e, fun _ _ _ h => h, fun _ _ _ h => h⟩
      exact fin H2 (r2 ++ [Dl]) (x2.join hD) (s2.join hn2 ⟨vs, hD2, ha2.monoS sb⟩) _ ⟨Dl, by rw [← s2.len]; exact get_new r2 Dl, rfl⟩
    cases m with
    | zero =>
      unfold compN at e
      split at e
      · rename_i e1
        exact .inl (stop e1 (Option.some.inj e).symm)
      · cases e
    | succ m =>
      unfold compN at e
      cases q0 : src i st2 with
      | none => rw [q0] at e; cases e
      | some o =>
        cases o with
        | none =>
          rw [q0] at e
          exact .inl (stop q0 (Option.some.inj e).symm)
        | some d =>
          rw [q0] at e
          obtain ⟨h1, h2⟩ := hJ H2 r2 st2 i (some d) x2 s2 q0
          refine .inr ⟨h1, _, fun H' h => ⟨m, Nat.lt_succ_self m, h⟩, fun v H3 hy => ?_⟩
          obtain ⟨r3, x3, s3, hd⟩ := h2 v H3 hy
          simp only at e
          cases q1 : t.put d (wipeL env ls) with
          | none => rw [q1] at e; cases e
          | some env1 =>
            simp only [q1] at e
            have hD3 : H3 Dl = some (.lst vs) := x3.keep Dl _ hD2 hn2
            have hn3 : Dl ∉ r3 := fun z => by
              rcases x3.fresh Dl z with z | z
              · exact hn2 z
              · rw [hD2] at z; cases z
            have x13 := x2.trans x3
            refine ⟨r3, _, st2, d, env1, ⟨(n1.env.mono x13).wipe _, s3⟩, hd, q1, fun σ4 o4 he4 => ⟨wipe_only o4 hsl, ?_⟩⟩
            refine ⟨r3, env1, st2, ⟨he4, s3⟩, ?_⟩
            cases q2 : ft env1 st2 with
            | no => rw [q2] at e; cases e
            | ex _ _ => rw [q2] at e; cases e
            | ok b st4 =>
              rw [q2] at e
              intro H4 r4 x4 s4
              have hD4 : H4 Dl = some (.lst vs) := x4.keep Dl _ hD3 hn3
              have hn4 : Dl ∉ r4 := fun z => by
                rcases x4.fresh Dl z with z | z
                · exact hn3 z
                · rw [hD3] at z; cases z
              have x24 := x3.trans x4
              cases b with
              | false => exact iteF ⟨r4, st4, acc, vs, x13.trans x4, s4, hn4, hD4, ha2.mono x24, e⟩
              | true =>
                refine iteT ⟨r4, env1, st4, ⟨he4.mono x4, s4⟩, ?_⟩
                simp only at e
                cases q3 : fe env1 st4 with
                | no => rw [q3] at e; cases e
                | ex _ _ => rw [q3] at e; cases e
                | ok y st5 =>
                  simp only [q3] at e
                  split at e
                  · rename_i hz
                    intro H5 r5 x5 s5 vy hy5
                    have hD5 : H5 Dl = some (.lst vs) := x5.keep Dl _ hD4 hn4
                    have hn5 : Dl ∉ r5 := fun z => by
                      rcases x5.fresh Dl z with z | z
                      · exact hn4 z
                      · rw [hD4] at z; cases z
                    have ha5 := ha2.mono (x24.trans x5)
                    refine ⟨vs, hD5, by rw [ha5.length, sizeLine_eq]; omega, r5, st5, acc ++ [y], vs ++ [vy], ?_, s5.aside hn5 hD5 trivial, hn5, upd_same, ?_, e⟩
                    · exact Ext.aside2 ((x13.trans x4).trans x5) hn5 hD hD5 trivial
                    · exact (ha5.app (.one hy5)).monoS (Ext.aside hn5 hD5 trivial)
                  · cases e
theorem i_lc {scope : Scope} {own : List (Str × Nat)} (hc : X.calm = true) (hN : X.N.Nodup) (hi : PI X tg iter (RI X.K cl W t fi)) (ok : BlkOk X.N X.env.scope scope own) (hsl : ∀ j ∈ t.slots, j ∈ own.map (·.2))
    (hg : ∀ (s : Shared) (H : Hp) (C : Addr) (cl' : List (Str × Addr)) (fp : List Addr), PG (X.blk s H scope (compEnvC scope cl' C X.env) fp) tg (RG X.K cl t))
    (ht : ∀ (s : Shared) (H : Hp) (C : Addr) (cl' : List (Str × Addr)) (fp : List Addr), PTs (X.blk s H scope (compEnvC scope cl' C X.env) fp) ifs (RT X.K cl W0 ft))
    (he : ∀ (s : Shared) (H : Hp) (C : Addr) (cl' : List (Str × Addr)) (fp : List Addr), PE (X.blk s H scope (compEnvC scope cl' C X.env) fp) elt (RE X.K cl W0 fe)) (hs : ∀ x, foldedSetIterable iter X.env x = pure x := by intro _; rfl) :
    PE X (.ListComp elt [⟨tg, iter, ifs, 0⟩] scope pos) (RE X.K cl W (eLc fi t ft fe (own.map (·.2)))) :=
  pe_imp (pe_lc hc hN hi ok hg ht he hs) fun σ H Q h => lc_in hsl h
theorem s_setLc {i : Nat} {y : Str} {py spos : Pos} {scope : Scope} {own : List (Str × Nat)} (hc : X.calm = true) (hN : X.N.Nodup) (hy : X.N[i]? = some y) (hyl : X.env.scope.names.lookup y = some .local)
    (hsw : swapsWith (.ListComp elt [⟨tg, iter, ifs, 0⟩] scope pos) (some (.Name y py)) spos.line X.env = pure true) (hi : PI X tg iter (RI X.K cl W t fi)) (ok : BlkOk X.N X.env.scope scope own) (hsl : ∀ j ∈ t.slots, j ∈ own.map (·.2))
    (hg : ∀ (s : Shared) (H : Hp) (C : Addr) (cl' : List (Str × Addr)) (fp : List Addr), PG (X.blk s H scope (compEnvC scope cl' C X.env) fp) tg (RG X.K cl t))
    (ht : ∀ (s : Shared) (H : Hp) (C : Addr) (cl' : List (Str × Addr)) (fp : List Addr), PTs (X.blk s H scope (compEnvC scope cl' C X.env) fp) ifs (RT X.K cl W0 ft))
    (he : ∀ (s : Shared) (H : Hp) (C : Addr) (cl' : List (Str × Addr)) (fp : List Addr), PE (X.blk s H scope (compEnvC scope cl' C X.env) fp) elt (RE X.K cl W0 fe)) (hs : ∀ x, foldedSetIterable iter X.env x = pure x := by intro _; rfl) :
    PS X (.Assign [.Name y py] (.ListComp elt [⟨tg, iter, ifs, 0⟩] scope pos) spos) (RSs X.K cl W (sSet i (eLc fi t ft fe (own.map (·.2))))) := by
  refine ps_imp (ps_setLc hc hN hy hyl hsw hi ok hg ht he hs) fun D σ H ⟨r, env, st, n, w⟩ => lc_in hsl ?_
  refine ⟨r, env, st, n, (sE_in n w).mono fun d st1 H1 r1 x1 s1 w1 v hd => ?_⟩
  obtain ⟨p, st', e, q⟩ := w1
  cases e
  exact q H1 r1 (Ext.refl H1 r1) s1 _ ((n.env.mono x1).set hd)
end
end Iv

namespace Iv
open PySem L2

/-! ### builtins -/
def tyName (x : D) (st : Stt) : Option String := match x with
  | .non => some "NoneType"
  | .bl _ => some "bool"
  | .int _ => some "int"
  | .str _ => some "str"
  | .tup _ => some "tuple"
  | .cl _ => some "list"
  | .obj k => match st[k]? with
    | some (.lst _) => some "list"
    | some (.dct _) => some "dict"
    | _ => none
  | .ty _ => none
def gLen : PN := fun xs st => match xs with
  | [.str z] => if z.length ≤ sizeLine then some (.int z.length, st) else none
  | [.tup ds] => some (.int ds.length, st)
  | [.cl ds] => some (.int ds.length, st)
  | [.obj k] => match st[k]? with
    | some (.lst ds) => some (.int ds.length, st)
    | some (.dct ks) => some (.int ks.length, st)
    | _ => none
  | _ => none
def gInt : PN := fun xs st => match xs with
  | [.int i] => some (.int i, st)
  | [.bl b] => some (.int (if b then 1 else 0), st)
  | [.str a] => match PySem.intText? a with
    | some n => if a.length ≤ 640 then some (.int n, st) else none
    | none => none
  | _ => none
def gStr : PN := fun xs st => match xs with
  | [.int i] => if i.natAbs.log2 < 1920 then some (.str (toString i), st) else none
  | _ => none
def gAbs : PN := fun xs st => match xs with
  | [.int i] => some (.int (if i < 0 then -i else i), st)
  | _ => none
def gMax2 : PN := fun xs st => match xs with
  | [.int i, .int j] => some (.int (if j > i then j else i), st)
  | _ => none
def gMin2 : PN := fun xs st => match xs with
  | [.int i, .int j] => some (.int (if j < i then j else i), st)
  | _ => none
def intsD : List D → Option (List Int)
  | [] => some []
  | .int i :: ds => (intsD ds).map (i :: ·)
  | _ :: _ => none
def boolsD : List D → Option (List Bool)
  | [] => some []
  | .bl b :: ds => (boolsD ds).map (b :: ·)
  | _ :: _ => none
/-- the items of a list -/
def lstD (x : D) (st : Stt) : Option (List D) := match x with
  | .cl xs => some xs
  | .obj k => match st[k]? with
    | some (.lst xs) => some xs
    | _ => none
  | _ => none
def maxI : List Int → Int
  | [] => 0
  | [x] => x
  | x :: xs => if maxI xs > x then maxI xs else x
def minI : List Int → Int
  | [] => 0
  | [x] => x
  | x :: xs => if minI xs < x then minI xs else x
def gMax : PN := fun xs st => match xs with
  | [x] => match (lstD x st).bind intsD with
    | some (n :: ns) => some (.int (maxI (n :: ns)), st)
    | _ => none
  | _ => none
def gMin : PN := fun xs st => match xs with
  | [x] => match (lstD x st).bind intsD with
    | some (n :: ns) => some (.int (minI (n :: ns)), st)
    | _ => none
  | _ => none
def gSum : PN := fun xs st => match xs with
  | [x] => match (lstD x st).bind intsD with
    | some ns => some (.int ns.sum, st)
    | _ => none
  | _ => none
def gAny : PN := fun xs st => match xs with
  | [x] => match (lstD x st).bind boolsD with
    | some bs => some (.bl (bs.any id), st)
    | _ => none
  | _ => none
def gAll : PN := fun xs st => match xs with
  | [x] => match (lstD x st).bind boolsD with
    | some bs => some (.bl (bs.all id), st)
    | _ => none
  | _ => none
def gTuple : PN := fun xs st => match xs with
  | [.tup ds] => some (.tup ds, st)
  | [x] => match lstD x st with
    | some ds => some (.tup ds, st)
    | none => none
  | _ => none
def gList : PN := fun xs st => match xs with
  | [x] => match seqD x st with
    | some ds => some (.obj st.length, st ++ [.lst ds])
    | none => none
  | _ => none
def isiB (a b : String) : Option Bool :=
  if ["NoneType", "bool", "int", "str", "tuple", "list", "dict"].contains a && ["bool", "int", "str", "tuple", "list", "dict"].contains b then some (decide (a = b) || (decide (a = "bool") && decide (b = "int"))) else none
def gIsi : PN := fun xs st => match xs with
  | [x, .ty b] => match tyName x st with
    | some a => still ((isiB a b).map .bl) st
    | none => none
  | _ => none
def gType : PN := fun xs st => match xs with
  | [x] => still ((tyName x st).map .ty) st
  | _ => none
def pairsD : List D → Option (List (Key × D))
  | [] => some []
  | .tup [k, v] :: ds => match keyD k, pairsD ds with
    | some key, some r => some ((key, v) :: r)
    | _, _ => none
  | _ :: _ => none
def mergeD (kvs more : List (Key × D)) : List (Key × D) := more.foldl (fun acc kv => putD acc kv.1 kv.2) kvs
def gDict : PN := fun xs st => match xs with
  | [.obj k] => match st[k]? with
    | some (.dct ks) => some (.obj st.length, st ++ [.dct ks])
    | some (.lst ds) => match pairsD ds with
      | some ps => some (.obj st.length, st ++ [.dct (mergeD [] ps)])
      | none => none
    | _ => none
  | [.tup ds] => match pairsD ds with
    | some ps => if ps.length ≤ sizeLine then some (.obj st.length, st ++ [.dct (mergeD [] ps)]) else none
    | none => none
  | _ => none
section
variable {X : Cx} {cl : String → Addr} {K : PySem.W.Frag} {H : Hp} {r : List Addr}
theorem one_of {ds : List D} {d : D} {vs : List V} (h : RDs K H r [d] vs) : ∃ v, vs = [v] ∧ RD K H r d v := by
  obtain ⟨v, ws, rfl, h1, h2⟩ := h
  cases h2
  exact ⟨v, rfl, h1⟩
theorem two_of {d e : D} {vs : List V} (h : RDs K H r [d, e] vs) : ∃ v u, vs = [v, u] ∧ RD K H r d v ∧ RD K H r e u := by
  obtain ⟨v, ws, rfl, h1, h2⟩ := h
  obtain ⟨u, zs, rfl, h3, h4⟩ := h2
  cases h4
  exact ⟨v, u, rfl, h1, h3⟩
theorem ints_of : ∀ {ds : List D} {vs : List V} {ns : List Int}, intsD ds = some ns → RDs K H r ds vs → vs = ns.map V.int
  | [], _, _, e, h => by cases h; cases e; rfl
  | d :: ds, _, _, e, h => by
    obtain ⟨v, vs, rfl, h1, h2⟩ := h
    cases d with
    | int x =>
      cases h1
      unfold intsD at e
      cases q : intsD ds with
      | none => rw [q] at e; cases e
      | some zs => rw [q] at e; cases e; rw [ints_of q h2] <;> rfl
    | _ => cases e
theorem bools_of : ∀ {ds : List D} {vs : List V} {ns : List Bool}, boolsD ds = some ns → RDs K H r ds vs → vs = ns.map V.bl
  | [], _, _, e, h => by cases h; cases e; rfl
  | d :: ds, _, _, e, h => by
    obtain ⟨v, vs, rfl, h1, h2⟩ := h
    cases d with
    | bl x =>
      cases h1
      unfold boolsD at e
      cases q : boolsD ds with
      | none => rw [q] at e; cases e
      | some zs => rw [q] at e; cases e; rw [bools_of q h2] <;> rfl
    | _ => cases e
theorem lst_of {st : Stt} {x : D} {v : V} {ds : List D} (s : RSt K H r cl st) (h : RD K H r x v) (e : lstD x st = some ds) : ∃ a vs, v = .ref a ∧ SqL K H a vs ∧ RDs K H r ds vs := by
  unfold lstD at e
  cases x with
  | cl xs => obtain ⟨a, vs, rfl, t, d⟩ := h; cases e; exact ⟨a, vs, rfl, t.l, d⟩
  | obj k =>
    obtain ⟨a, ea, rfl⟩ := h
    simp only at e
    split at e
    · rename_i xs q0
      cases e
      obtain ⟨vs, u1, u2⟩ := s.obj k a _ ea q0
      exact ⟨a, vs, rfl, SqL.of u1, u2⟩
    · cases e
  | _ => cases e
theorem c_len : CallR X (.builtin "len") (RN X.K cl gLen) := by
  refine call_imp (call_len_str.or (call_len_seq.or call_lenD)) fun xs H Q ⟨r, st, ds, s, h, w⟩ => ?_
  unfold gLen at w
  split at w
  · rename_i z
    obtain ⟨v, rfl, h1⟩ := one_of (ds := []) h
    cases h1
    split at w
    · rename_i hl
      exact .inl ⟨z, rfl, hl, w.here s _ rfl⟩
    · obtain ⟨_, _, e, _⟩ := w; cases e
  · obtain ⟨v, rfl, h1⟩ := one_of (ds := []) h
    obtain ⟨a, vs, rfl, t, d⟩ := h1
    exact .inr (.inl ⟨a, vs, rfl, .inr t.t, by rw [d.length]; exact w.here s _ rfl⟩)
  · obtain ⟨v, rfl, h1⟩ := one_of (ds := []) h
    obtain ⟨a, vs, rfl, t, d⟩ := h1
    exact .inr (.inl ⟨a, vs, rfl, .inl t.l, by rw [d.length]; exact w.here s _ rfl⟩)
  · obtain ⟨v, rfl, h1⟩ := one_of (ds := []) h
    obtain ⟨a, ea, rfl⟩ := h1
    split at w
    · rename_i xs q0
      obtain ⟨vs, u1, u2⟩ := s.obj _ a _ ea q0
      exact .inr (.inl ⟨a, vs, rfl, .inl (SqL.of u1), by rw [u2.length]; exact w.here s _ rfl⟩)
    · rename_i xs q0
      obtain ⟨vs, u1, u2⟩ := s.obj _ a _ ea q0
      exact .inr (.inr ⟨a, vs, rfl, u1, by rw [u2.length]; exact w.here s _ rfl⟩)
    · obtain ⟨_, _, e, _⟩ := w; cases e
  · obtain ⟨_, _, e, _⟩ := w; cases e
theorem c_int : CallR X (.type "int") (RN X.K cl gInt) := by
  refine call_imp (call_int1.or call_int_str) fun xs H Q ⟨r, st, ds, s, h, w⟩ => ?_
  unfold gInt at w
  split at w
  · obtain ⟨v, rfl, h1⟩ := one_of (ds := []) h
    cases h1
    exact .inl (.inl ⟨_, rfl, w.here s _ rfl⟩)
  · obtain ⟨v, rfl, h1⟩ := one_of (ds := []) h
    cases h1
    exact .inl (.inr ⟨_, rfl, w.here s _ rfl⟩)
  · obtain ⟨v, rfl, h1⟩ := one_of (ds := []) h
    cases h1
    split at w
    · rename_i n hn
      split at w
      · rename_i hl
        exact .inr ⟨_, n, rfl, hn, hl, w.here s _ rfl⟩
      · obtain ⟨_, _, e, _⟩ := w; cases e
    · obtain ⟨_, _, e, _⟩ := w; cases e
  · obtain ⟨_, _, e, _⟩ := w; cases e
theorem c_str : CallR X (.type "str") (RN X.K cl gStr) := by
  refine call_imp call_str_int fun xs H Q ⟨r, st, ds, s, h, w⟩ => ?_
  unfold gStr at w
  split at w
  · obtain ⟨v, rfl, h1⟩ := one_of (ds := []) h
    cases h1
    split at w
    · rename_i hl
      exact ⟨_, rfl, hl, w.here s _ rfl⟩
    · obtain ⟨_, _, e, _⟩ := w; cases e
  · obtain ⟨_, _, e, _⟩ := w; cases e
theorem c_abs : CallR X (.builtin "abs") (RN X.K cl gAbs) := by
  refine call_imp call_abs fun xs H Q ⟨r, st, ds, s, h, w⟩ => ?_
  unfold gAbs at w
  split at w
  · obtain ⟨v, rfl, h1⟩ := one_of (ds := []) h
    cases h1
    exact ⟨_, rfl, w.here s _ rfl⟩
  · obtain ⟨_, _, e, _⟩ := w; cases e
theorem c_max2 (hc : X.calm = true) : CallR X (.builtin "max") (RN X.K cl gMax2) := by
  refine call_imp (call_max2 hc) fun xs H Q ⟨r, st, ds, s, h, w⟩ => ?_
  unfold gMax2 at w
  split at w
  · obtain ⟨v, u, rfl, h1, h2⟩ := two_of h
    cases h1; cases h2
    exact ⟨_, _, rfl, w.here s _ rfl⟩
  · obtain ⟨_, _, e, _⟩ := w; cases e
theorem c_min2 (hc : X.calm = true) : CallR X (.builtin "min") (RN X.K cl gMin2) := by
  refine call_imp (call_min2 hc) fun xs H Q ⟨r, st, ds, s, h, w⟩ => ?_
  unfold gMin2 at w
  split at w
  · obtain ⟨v, u, rfl, h1, h2⟩ := two_of h
    cases h1; cases h2
    exact ⟨_, _, rfl, w.here s _ rfl⟩
  · obtain ⟨_, _, e, _⟩ := w; cases e
theorem maxI_spec : ∀ (n : Int) (ns : List Int), maxI (n :: ns) ∈ n :: ns ∧ ∀ y ∈ n :: ns, y ≤ maxI (n :: ns)
  | n, [] => ⟨by simp [maxI], fun y hy => by rw [List.mem_singleton.mp hy]; exact Int.le_refl _⟩
  | n, m :: ms => by
    obtain ⟨h1, h2⟩ := maxI_spec m ms
    have e : maxI (n :: m :: ms) = if maxI (m :: ms) > n then maxI (m :: ms) else n := rfl
    rw [e]
    split
    · refine ⟨List.mem_cons_of_mem _ h1, fun y hy => ?_⟩
      rcases List.mem_cons.mp hy with rfl | hy
      · omega
      · exact h2 y hy
    · refine ⟨List.mem_cons_self, fun y hy => ?_⟩
      rcases List.mem_cons.mp hy with rfl | hy
      · exact Int.le_refl _
      · have := h2 y hy; omega
theorem minI_spec : ∀ (n : Int) (ns : List Int), minI (n :: ns) ∈ n :: ns ∧ ∀ y ∈ n :: ns, minI (n :: ns) ≤ y
  | n, [] => ⟨by simp [minI], fun y hy => by rw [List.mem_singleton.mp hy]; exact Int.le_refl _⟩
  | n, m :: ms => by
    obtain ⟨h1, h2⟩ := minI_spec m ms
    have e : minI (n :: m :: ms) = if minI (m :: ms) < n then minI (m :: ms) else n := rfl
    rw [e]
    split
    · refine ⟨List.mem_cons_of_mem _ h1, fun y hy => ?_⟩
      rcases List.mem_cons.mp hy with rfl | hy
      · omega
      · exact h2 y hy
    · refine ⟨List.mem_cons_self, fun y hy => ?_⟩
      rcases List.mem_cons.mp hy with rfl | hy
      · exact Int.le_refl _
      · have := h2 y hy; omega
theorem ints_at {st : Stt} {x : D} {v : V} {ns : List Int} (s : RSt K H r cl st) (h : RD K H r x v) (e : (lstD x st).bind intsD = some ns) : ∃ a, v = .ref a ∧ SqL K H a (ns.map V.int) := by
  cases q : lstD x st with
  | none => rw [q] at e; cases e
  | some ds =>
    rw [q] at e
    obtain ⟨a, vs, rfl, t, d⟩ := lst_of s h q
    rw [ints_of e d] at t
    exact ⟨a, rfl, t⟩
theorem bools_at {st : Stt} {x : D} {v : V} {ns : List Bool} (s : RSt K H r cl st) (h : RD K H r x v) (e : (lstD x st).bind boolsD = some ns) : ∃ a, v = .ref a ∧ SqL K H a (ns.map V.bl) := by
  cases q : lstD x st with
  | none => rw [q] at e; cases e
  | some ds =>
    rw [q] at e
    obtain ⟨a, vs, rfl, t, d⟩ := lst_of s h q
    rw [bools_of e d] at t
    exact ⟨a, rfl, t⟩
theorem c_max (hc : X.calm = true) : CallR X (.builtin "max") (RN X.K cl gMax) := by
  refine call_imp (cr_max hc) fun xs H Q ⟨r, st, ds, s, h, w⟩ => ?_
  unfold gMax at w
  split at w
  · obtain ⟨v, rfl, h1⟩ := one_of (ds := []) h
    split at w
    · rename_i n ns q
      obtain ⟨a, rfl, t⟩ := ints_at s h1 q
      refine ⟨a, n :: ns, rfl, t, Nat.succ_pos _, fun m hm hy => ?_⟩
      obtain ⟨g1, g2⟩ := maxI_spec n ns
      have e : m = maxI (n :: ns) := Int.le_antisymm (g2 m hm) (hy _ g1)
      subst e
      exact w.here s _ rfl
    · obtain ⟨_, _, e, _⟩ := w; cases e
  · obtain ⟨_, _, e, _⟩ := w; cases e
theorem c_min (hc : X.calm = true) : CallR X (.builtin "min") (RN X.K cl gMin) := by
  refine call_imp (cr_min hc) fun xs H Q ⟨r, st, ds, s, h, w⟩ => ?_
  unfold gMin at w
  split at w
  · obtain ⟨v, rfl, h1⟩ := one_of (ds := []) h
    split at w
    · rename_i n ns q
      obtain ⟨a, rfl, t⟩ := ints_at s h1 q
      refine ⟨a, n :: ns, rfl, t, Nat.succ_pos _, fun m hm hy => ?_⟩
      obtain ⟨g1, g2⟩ := minI_spec n ns
      have e : m = minI (n :: ns) := Int.le_antisymm (hy _ g1) (g2 m hm)
      subst e
      exact w.here s _ rfl
    · obtain ⟨_, _, e, _⟩ := w; cases e
  · obtain ⟨_, _, e, _⟩ := w; cases e
theorem c_sum (hc : X.calm = true) : CallR X (.builtin "sum") (RN X.K cl gSum) := by
  refine call_imp (cr_sum hc) fun xs H Q ⟨r, st, ds, s, h, w⟩ => ?_
  unfold gSum at w
  split at w
  · obtain ⟨v, rfl, h1⟩ := one_of (ds := []) h
    split at w
    · rename_i ns q
      obtain ⟨a, rfl, t⟩ := ints_at s h1 q
      exact ⟨a, ns, rfl, t, w.here s _ rfl⟩
    · obtain ⟨_, _, e, _⟩ := w; cases e
  · obtain ⟨_, _, e, _⟩ := w; cases e
theorem c_any (hc : X.calm = true) : CallR X (.builtin "any") (RN X.K cl gAny) := by
  refine call_imp (cr_any hc) fun xs H Q ⟨r, st, ds, s, h, w⟩ => ?_
  unfold gAny at w
  split at w
  · obtain ⟨v, rfl, h1⟩ := one_of (ds := []) h
    split at w
    · rename_i ns q
      obtain ⟨a, rfl, t⟩ := bools_at s h1 q
      exact ⟨a, ns, rfl, t, w.here s _ rfl⟩
    · obtain ⟨_, _, e, _⟩ := w; cases e
  · obtain ⟨_, _, e, _⟩ := w; cases e
theorem c_all (hc : X.calm = true) : CallR X (.builtin "all") (RN X.K cl gAll) := by
  refine call_imp (cr_all hc) fun xs H Q ⟨r, st, ds, s, h, w⟩ => ?_
  unfold gAll at w
  split at w
  · obtain ⟨v, rfl, h1⟩ := one_of (ds := []) h
    split at w
    · rename_i ns q
      obtain ⟨a, rfl, t⟩ := bools_at s h1 q
      exact ⟨a, ns, rfl, t, w.here s _ rfl⟩
    · obtain ⟨_, _, e, _⟩ := w; cases e
  · obtain ⟨_, _, e, _⟩ := w; cases e
theorem c_tuple : CallR X (.type "tuple") (RN X.K cl gTuple) := by
  refine call_imp call_tupF fun xs H Q ⟨r, st, ds, s, h, w⟩ => ?_
  unfold gTuple at w
  split at w
  · obtain ⟨v, rfl, h1⟩ := one_of (ds := []) h
    obtain ⟨a, vs, rfl, t, d⟩ := id h1
    exact ⟨a, vs, rfl, .inr ⟨t.t, w.here s _ h1⟩⟩
  · obtain ⟨v, rfl, h1⟩ := one_of (ds := []) h
    split at w
    · rename_i es q
      obtain ⟨a, vs, rfl, t, d⟩ := lst_of s h1 q
      exact ⟨a, vs, rfl, .inl ⟨t, w.tup s d⟩⟩
    · obtain ⟨_, _, e, _⟩ := w; cases e
  · obtain ⟨_, _, e, _⟩ := w; cases e
theorem c_list : CallR X (.type "list") (RN X.K cl gList) := by
  refine call_imp call_list_of fun xs H Q ⟨r, st, ds, s, h, w⟩ => ?_
  unfold gList at w
  split at w
  · obtain ⟨v, rfl, h1⟩ := one_of (ds := []) h
    split at w
    · rename_i es q
      obtain ⟨a, vs, rfl, t, d⟩ := seq_of s h1 q
      exact ⟨a, vs, rfl, t, fun l hl => w.lst s hl d⟩
    · obtain ⟨_, _, e, _⟩ := w; cases e
  · obtain ⟨_, _, e, _⟩ := w; cases e
theorem tyx_of {st : Stt} {x : D} {v : V} {T : String} (s : RSt K H r cl st) (h : RD K H r x v) (e : tyName x st = some T) : TyX K H v (.type T) := by
  unfold tyName at e
  cases x with
  | non => cases h; cases e; exact .base .non
  | bl b => cases h; cases e; exact .base (.bl b)
  | int i => cases h; cases e; exact .base (.int i)
  | str z => cases h; cases e; exact .base (.str z)
  | ty n => cases e
  | tup ds =>
    obtain ⟨a, vs, rfl, t, d⟩ := h
    cases e
    rcases t with ⟨o, t, _⟩ | ⟨o, its, n, t, hc, _⟩
    · exact .fTuple t
    · exact .kTuple t hc
  | cl ds =>
    obtain ⟨a, vs, rfl, t, d⟩ := h
    cases e
    rcases t with ⟨o, t⟩ | ⟨o, its, n, t, hc, _⟩
    · exact .base (.frz t)
    · exact .kList t hc
  | obj k =>
    obtain ⟨a, ea, rfl⟩ := h
    simp only at e
    split at e
    · rename_i xs q0
      cases e
      obtain ⟨vs, u1, u2⟩ := s.obj _ a _ ea q0
      exact .base (.lst u1)
    · rename_i xs q0
      cases e
      obtain ⟨vs, u1, u2⟩ := s.obj _ a _ ea q0
      exact .base (.dK u1)
    · cases e
theorem isi_kit (K : PySem.W.Frag) {a b : String} {c : Bool} (h : isiB a b = some c) : PySem.W.kitOne K (.type a) (.type b) = some c := by
  refine kit_ty ?_
  unfold isiB at h
  split at h
  · rename_i hc
    rw [Bool.and_eq_true, List.contains_iff_mem, List.contains_iff_mem] at hc
    obtain ⟨h1, h2⟩ := hc
    have all : ∀ x ∈ ["NoneType", "bool", "int", "str", "tuple", "list", "dict"], ∀ y ∈ ["bool", "int", "str", "tuple", "list", "dict"], kitB x y = some (decide (x = y) || (decide (x = "bool") && decide (y = "int"))) := by decide +kernel
    rw [all a h1 b h2]
    exact h
  · cases h
theorem c_isi : CallR X (.builtin "isinstance") (RN X.K cl gIsi) := by
  refine call_imp call_isi fun xs H Q ⟨r, st, ds, s, h, w⟩ => ?_
  unfold gIsi at w
  split at w
  · rename_i x b
    obtain ⟨v, u, rfl, h1, h2⟩ := two_of h
    cases h2
    split at w
    · rename_i a q
      obtain ⟨d, e, qq⟩ := w.still s
      cases z : isiB a b with
      | none => rw [z] at e; cases e
      | some c =>
        rw [z] at e
        cases e
        exact ⟨v, .ty b, .type a, .type b, c, rfl, .ty b, tyx_of s h1 q, isi_kit X.K z, qq _ rfl⟩
    · obtain ⟨_, _, e, _⟩ := w; cases e
  · obtain ⟨_, _, e, _⟩ := w; cases e
theorem tyb_of {st : Stt} {x : D} {v : V} {T : String} (s : RSt K H r cl st) (h : RD K H r x v) (e : tyName x st = some T) : TyB K H v T := by
  unfold tyName at e
  cases x with
  | non => cases h; cases e; exact .non
  | bl b => cases h; cases e; exact .bl b
  | int i => cases h; cases e; exact .int i
  | str z => cases h; cases e; exact .str z
  | ty n => cases e
  | tup ds => obtain ⟨a, vs, rfl, t, d⟩ := h; cases e; exact .tup t.t
  | cl ds => obtain ⟨a, vs, rfl, t, d⟩ := h; cases e; exact .lst t.l
  | obj k =>
    obtain ⟨a, ea, rfl⟩ := h
    simp only at e
    split at e
    · rename_i xs q0
      cases e
      obtain ⟨vs, u1, u2⟩ := s.obj _ a _ ea q0
      exact .lst (SqL.of u1)
    · rename_i xs q0
      cases e
      obtain ⟨vs, u1, u2⟩ := s.obj _ a _ ea q0
      exact .dK u1
    · cases e
theorem c_type : CallR X (.type "type") (RN X.K cl gType) := by
  refine call_imp call_type1 fun xs H Q ⟨r, st, ds, s, h, w⟩ => ?_
  unfold gType at w
  split at w
  · obtain ⟨v, rfl, h1⟩ := one_of (ds := []) h
    obtain ⟨d, e, qq⟩ := w.still s
    cases z : tyName _ st with
    | none => rw [z] at e; cases e
    | some T =>
      rw [z] at e
      cases e
      exact ⟨v, T, rfl, tyb_of s h1 z, qq _ rfl⟩
  · obtain ⟨_, _, e, _⟩ := w; cases e
end
end Iv

namespace Iv
open PySem L2

/-! ### dict(..) -/
section
variable {X : Cx} {cl : String → Addr} {K : PySem.W.Frag} {H : Hp} {r : List Addr}
theorem RKs.merge : ∀ {more : List (Key × D)} {ms : List (Key × V)} {ks : List (Key × D)} {vs : List (Key × V)}, RKs K H r more ms → RKs K H r ks vs → RKs K H r (mergeD ks more) (mergeK vs ms)
  | [], _, _, _, h, g => by cases h; exact g
  | (k, d) :: more, _, ks, vs, h, g => by
    obtain ⟨y, ys, rfl, h1, h2⟩ := h
    show RKs K H r (mergeD (putD ks k d) more) (mergeK (putK vs k y) ys)
    exact RKs.merge h2 (g.put h1)
theorem pairs_ds : ∀ {ds : List D} {vs : List V} {ps : List (Key × D)}, pairsD ds = some ps → RDs K H r ds vs →
    ∃ (as : List Addr) (kvs : List (Key × V)), vs = as.map V.ref ∧ Paired (fun p kv => SqT K H p [kV kv.1, kv.2]) as kvs ∧ RKs K H r ps kvs
  | [], _, _, e, h => by cases h; cases e; exact ⟨[], [], rfl, .nil, rfl⟩
  | d :: ds, _, ps, e, h => by
    obtain ⟨v, vs, rfl, h1, h2⟩ := h
    unfold pairsD at e
    split at e
    · rename_i heq
      cases heq
    · rename_i k x ds' heq
      cases heq
      split at e
      · rename_i key rr q1 q2
        cases e
        obtain ⟨as, kvs, rfl, hp, hk⟩ := pairs_ds q2 h2
        obtain ⟨a, ws, rfl, t, hd⟩ := h1
        obtain ⟨y1, y2, rfl, d1, d2⟩ := two_of hd
        have ek := key_of q1 d1
        subst ek
        exact ⟨a :: as, (key, y2) :: kvs, rfl, .cons t.t hp, y2, kvs, rfl, d2, hk⟩
      · cases e
    · cases e
theorem pairs_two {pins : List (Addr × Obj)} {σ : St} {s : Shared} (I : Inv X pins σ H s) : ∀ {ps : List Addr} {kvs : List (Key × V)}, Paired (fun p kv => SqT X.K H p [kV kv.1, kv.2]) ps kvs →
    ∃ (prs : List (Key × Value)) (us : List Value), KV kvs prs ∧ prs.length = ps.length ∧ us.length = ps.length ∧
      ∀ (j : Nat) (q : Key × Value), prs[j]? = some q → ∃ (b : Addr) (u : Value), ps[j]? = some b ∧ us[j]? = some u ∧ PyProof.Rows.IsTup s.heap b #[u, q.2] ∧ (mixKind X.prog X.w).is q.1 u = true
  | _, _, .nil => ⟨[], [], .nil, rfl, rfl, fun j q e => by simp at e⟩
  | _, _, .cons (a := p) (b := kv) h t => by
    obtain ⟨prs, us, rk, hl, hl2, hp⟩ := pairs_two I t
    obtain ⟨its, rv, ht, _⟩ := I.tuple h
    obtain ⟨u, y, rfl, ru, ry⟩ := vals2 rv
    refine ⟨(kv.1, y) :: prs, u :: us, .cons ⟨rfl, ry⟩ rk, congrArg (· + 1) hl, congrArg (· + 1) hl2, fun j q e => ?_⟩
    cases j with
    | zero =>
      cases (show (kv.1, y) = q from Option.some.inj e)
      exact ⟨p, u, rfl, rfl, ht, kV_is (P := X.prog) (w := X.w) ru⟩
    | succ j =>
      obtain ⟨b, u', e1, e2, e3⟩ := hp j q (by simpa using e)
      exact ⟨b, u', by simpa using e1, by simpa using e2, e3⟩
theorem PlT.plain {pins : List (Addr × Obj)} {σ : St} {s : Shared} {a : Addr} {xs : List V} (I : Inv X pins σ H s) (h : PlT X.K H a xs) : ∃ its : List Value, Vals xs its ∧ PySem.PlainSeq "tuple" s.heap a its.toArray ∧ xs.length ≤ sizeLine := by
  rcases h with ⟨o, h, hd⟩ | ⟨o, its, n, h1, h2, h3, h4, h5, h6⟩
  · obtain ⟨e, hz, its, rv, o', e', hc, n, hdat⟩ := (show ObjOk X.prog X.w H s.heap a (.frz o (.tup xs)) from I.hok a _ h)
    rw [e] at e'
    cases e'
    exact ⟨its, rv, ⟨o, n, e, hc, hd, hdat⟩, hz⟩
  · refine ⟨its.toList, h6, ⟨o, n, I.kIn a o h1, h2, h3, by simpa using h4⟩, ?_⟩
    have e := h6.length
    simp only [Array.length_toList] at e
    omega
def rDictT (K : PySem.W.Frag) : List V → Hp → VK → Prop := fun xs H Q => ∃ (a : Addr) (ps : List Addr) (kvs : List (Key × V)), xs = [.ref a] ∧ PlT K H a (ps.map V.ref) ∧ Paired (fun p kv => SqT K H p [kV kv.1, kv.2]) ps kvs ∧
  ∀ p, H p = none → Q (.ref p) (upd H p (.dK (mergeK [] kvs)))
theorem refs_at' : ∀ {ps : List Addr} {us : List Value}, Vals (ps.map V.ref) us → us = ps.map Value.ref
  | [], _, h => by cases h; rfl
  | p :: ps, _, h => by
    cases h with
    | cons h1 h2 =>
      cases h1
      rw [refs_at' h2]
      rfl
theorem call_dictT (hcalm : X.calm = true) : CallR X (.type "dict") (rDictT X.K) := by
  intro pins s σ H xs us Q I rv h
  obtain ⟨a, ps, kvs, rfl, ht, hp, q⟩ := h
  obtain ⟨u, rfl, rx⟩ := vals1 rv
  obtain rfl : u = Value.ref a := rx
  obtain ⟨its, r', pl, hz⟩ := ht.plain I
  have e := refs_at' r'
  subst e
  rw [List.length_map] at hz
  obtain ⟨prs, us, rk, hl, hl2, hpr⟩ := pairs_two I hp
  have hzip : (us.zip (prs.map (·.2))).length = ps.length := by simp [hl, hl2]
  have at_zip : ∀ (j : Nat) (k v : Value), (us.zip (prs.map (·.2)))[j]? = some (k, v) → us[j]? = some k ∧ ∃ key, prs[j]? = some (key, v) := fun j k v e => by
    rw [List.getElem?_zip_eq_some] at e
    obtain ⟨e1, e2⟩ := e
    refine ⟨e1, ?_⟩
    rw [List.getElem?_map] at e2
    cases z : prs[j]? with
    | none => rw [z] at e2; cases e2
    | some p => rw [z] at e2; cases e2; exact ⟨p.1, rfl⟩
  have P := PySem.PairArg.tuple (prog := X.prog) (w := X.w) a (ps.map Value.ref).toArray (fun j => ps.getD j 0) (us.zip (prs.map (·.2)))
  have hm : (s.heap.objs.size == sysModules) = false := beq_eq_false_iff_ne.mpr (Nat.ne_of_gt I.big)
  refine PySem.call_dict_pairs (knd := mixKind X.prog X.w) (kvs := prs) P (I.ok.hd hcalm) ⟨pl, by simp [hzip], fun j k v e => ?_⟩ ⟨by rw [hl, hzip], fun i key v e => ?_⟩ (by rw [hzip]; exact hz) fun h' tk hd' kp => ?_
  · obtain ⟨e1, key, e2⟩ := at_zip j k v e
    obtain ⟨b, u, e3, e4, e5, _⟩ := hpr j _ e2
    rw [e1] at e4
    cases e4
    refine ⟨by simp [e3], .inl ?_⟩
    have eb : ps.getD j 0 = b := by simp [List.getD_eq_getElem?_getD, e3]
    show s.heap.IsTuple (ps.getD j 0) #[k, v]
    rw [eb]
    exact e5
  · obtain ⟨e1, k, e2⟩ := at_zip i key v e
    obtain ⟨b, u, e3, e4, e5, e6⟩ := hpr i _ e2
    rw [e1] at e4
    cases e4
    exact ⟨k, e2, e6⟩
  · have hlen : (mergeK [] kvs).length ≤ sizeLine := by
      have h1 := length_mergeK kvs []
      have h2 := rk.length
      rw [List.length_nil, Nat.zero_add] at h1
      omega
    exact ⟨.ref s.heap.objs.size, upd H s.heap.objs.size (.dK (mergeK [] kvs)), I.laid (t' := tk) (fun b o e => kp b o (by simp) e) (Nat.le_refl _) (show ObjOk X.prog X.w _ _ _ (.dK (mergeK [] kvs)) from ⟨hlen, hm, merged [] prs, KV.merge rk .nil, hd'⟩), rfl, q _ (I.hok.fresh (Nat.le_refl _))⟩
theorem c_dict (hc : X.calm = true) : CallR X (.type "dict") (RN X.K cl gDict) := by
  refine call_imp ((call_dictT hc).or ((call_dictP hc).or call_dictD)) fun xs H Q ⟨r, st, ds, s, h, w⟩ => ?_
  unfold gDict at w
  split at w
  · rename_i k
    obtain ⟨v, rfl, h1⟩ := one_of (ds := []) h
    obtain ⟨a, ea, rfl⟩ := h1
    split at w
    · rename_i ks q0
      obtain ⟨vs, u1, u2⟩ := s.obj _ a _ ea q0
      exact .inr (.inr ⟨a, vs, rfl, .inl u1, fun p hp => w.dct s hp u2⟩)
    · rename_i es q0
      obtain ⟨vs, u1, u2⟩ := s.obj _ a _ ea q0
      split at w
      · rename_i ps q1
        obtain ⟨as, kvs, rfl, hp, hk⟩ := pairs_ds q1 u2
        exact .inr (.inl ⟨a, as, kvs, rfl, SqL.of u1, hp, fun p hp => w.dct s hp (hk.merge (ks := []) (vs := []) rfl)⟩)
      · obtain ⟨_, _, e, _⟩ := w; cases e
    · obtain ⟨_, _, e, _⟩ := w; cases e
  · rename_i es
    obtain ⟨v, rfl, h1⟩ := one_of (ds := []) h
    obtain ⟨a, vs, rfl, t, u2⟩ := h1
    split at w
    · rename_i ps q1
      split at w
      · obtain ⟨as, kvs, rfl, hp, hk⟩ := pairs_ds q1 u2
        exact .inl ⟨a, as, kvs, rfl, t, hp, fun p hp => w.dct s hp (hk.merge (ks := []) (vs := []) rfl)⟩
      · obtain ⟨_, _, e, _⟩ := w; cases e
    · obtain ⟨_, _, e, _⟩ := w; cases e
  · obtain ⟨_, _, e, _⟩ := w; cases e
end

/-! ### methods of dicts -/
def gGet : D → PN := fun x xs st => match x, xs with
  | .obj k, [y] => match st[k]?, keyD y with
    | some (.dct ks), some key => some ((valD ks key).getD .non, st)
    | _, _ => none
  | .obj k, [y, z] => match st[k]?, keyD y with
    | some (.dct ks), some key => some ((valD ks key).getD z, st)
    | _, _ => none
  | _, _ => none
def gPopD : D → PN := fun x xs st => match x, xs with
  | .obj k, [y] => match st[k]?, keyD y with
    | some (.dct ks), some key => match valD ks key with
      | some v => some (v, st.set k (.dct (dropD ks key)))
      | none => none
    | _, _ => none
  | .obj k, [y, z] => match st[k]?, keyD y with
    | some (.dct ks), some key => match valD ks key with
      | some v => some (v, st.set k (.dct (dropD ks key)))
      | none => some (z, st)
    | _, _ => none
  | _, _ => none
section
variable {X : Cx} {cl : String → Addr}
theorem mt_dget (hu : X.A.units + 1 < cLine) : MtR X "dict.get" (fun x xs H Q => (∃ a y o, x = .ref a ∧ xs = [y] ∧ DGet H a y o ∧ Q (o.getD .non) H) ∨ ∃ a y z o, x = .ref a ∧ xs = [y, z] ∧ DGet H a y o ∧ Q (o.getD z) H) := by
  intro pins s σ H x xs v us Q I rx rs h
  rcases h with ⟨a, y, o, rfl, rfl, g, q⟩ | ⟨a, y, z, o, rfl, rfl, g, q⟩
  · obtain rfl : v = Value.ref a := rx
    obtain ⟨u, rfl, ru⟩ := vals1 rs
    exact d_get1 hu I g ru fun w' s' I' rw' => ⟨_, H, I', rw', q⟩
  · obtain rfl : v = Value.ref a := rx
    obtain ⟨u, u2, rfl, ru, ru2⟩ := vals2 rs
    exact d_get2 hu I g ru ru2 fun w' s' I' rw' => ⟨_, H, I', rw', q⟩
theorem m_get (hu : X.A.units + 64 < cLine) : MtR X "dict.get" (RM X.K cl gGet) := by
  refine mt_imp (mt_dget (by omega)) fun x xs H Q ⟨r, st, dx, ds, s, h1, h2, w⟩ => ?_
  unfold gGet at w
  split at w
  · obtain ⟨a, ea, rfl⟩ := h1
    obtain ⟨v, rfl, hv⟩ := one_of (ds := []) h2
    split at w
    · rename_i ks key q0 q1
      obtain ⟨vs, u1, u2⟩ := s.obj _ a _ ea q0
      have ek := key_of q1 hv
      subst ek
      refine .inl ⟨a, _, valV vs key, rfl, rfl, DGet.k u1, ?_⟩
      rcases u2.val (k := key) with ⟨z1, z2⟩ | ⟨d', v', z1, z2, hd⟩
      · rw [z1] at w; rw [z2]; exact w.here s _ rfl
      · rw [z1] at w; rw [z2]; exact w.here s _ hd
    · obtain ⟨_, _, e, _⟩ := w; cases e
  · obtain ⟨a, ea, rfl⟩ := h1
    obtain ⟨v, u, rfl, hv, hz⟩ := two_of h2
    split at w
    · rename_i ks key q0 q1
      obtain ⟨vs, u1, u2⟩ := s.obj _ a _ ea q0
      have ek := key_of q1 hv
      subst ek
      refine .inr ⟨a, _, u, valV vs key, rfl, rfl, DGet.k u1, ?_⟩
      rcases u2.val (k := key) with ⟨z1, z2⟩ | ⟨d', v', z1, z2, hd⟩
      · rw [z1] at w; rw [z2]; exact w.here s _ hz
      · rw [z1] at w; rw [z2]; exact w.here s _ hd
    · obtain ⟨_, _, e, _⟩ := w; cases e
  · obtain ⟨_, _, e, _⟩ := w; cases e
theorem mt_dpop : MtR X "dict.pop" (fun x xs H Q => (∃ a kvs k v, x = .ref a ∧ xs = [kV k] ∧ H a = some (.dK kvs) ∧ valV kvs k = some v ∧ Q v (upd H a (.dK (dropK kvs k)))) ∨
    ∃ a kvs k z, x = .ref a ∧ xs = [kV k, z] ∧ H a = some (.dK kvs) ∧ (∀ v, valV kvs k = some v → Q v (upd H a (.dK (dropK kvs k)))) ∧ (valV kvs k = none → Q z H)) := by
  intro pins s σ H x xs v us Q I rx rs h
  rcases h with ⟨a, kvs, k, y, rfl, rfl, ea, e, q⟩ | ⟨a, kvs, k, z, rfl, rfl, ea, q1, q2⟩
  · obtain rfl : v = Value.ref a := rx
    obtain ⟨u, rfl, ru⟩ := vals1 rs
    exact d_pop I ea ru e (.inl rfl) fun w' s' I' rw' => ⟨y, _, I', rw', q⟩
  · obtain rfl : v = Value.ref a := rx
    obtain ⟨u, u2, rfl, ru, ru2⟩ := vals2 rs
    cases e : valV kvs k with
    | some y => exact d_pop I ea ru e (.inr ⟨u2, rfl⟩) fun w' s' I' rw' => ⟨y, _, I', rw', q1 y e⟩
    | none => exact d_popD I ea ru e fun s' I' => ⟨z, H, I', ru2, q2 e⟩
theorem m_popd : MtR X "dict.pop" (RM X.K cl gPopD) := by
  refine mt_imp mt_dpop fun x xs H Q ⟨r, st, dx, ds, s, h1, h2, w⟩ => ?_
  unfold gPopD at w
  split at w
  · obtain ⟨a, ea, rfl⟩ := h1
    obtain ⟨v, rfl, hv⟩ := one_of (ds := []) h2
    split at w
    · rename_i ks key q0 q1
      obtain ⟨vs, u1, u2⟩ := s.obj _ a _ ea q0
      have ek := key_of q1 hv
      subst ek
      split at w
      · rename_i d qd
        rcases u2.val (k := key) with ⟨z1, z2⟩ | ⟨d', v', z1, z2, hd⟩
        · rw [z1] at qd; cases qd
        · rw [z1] at qd
          cases qd
          have x1 := Ext.write (u := .dK (dropK vs key)) ea u1 trivial
          exact .inl ⟨a, vs, key, v', rfl, rfl, u1, z2, w.put s ea u1 trivial ⟨_, upd_same, u2.drop.mono x1⟩ (hd.mono x1)⟩
      · obtain ⟨_, _, e, _⟩ := w; cases e
    · obtain ⟨_, _, e, _⟩ := w; cases e
  · obtain ⟨a, ea, rfl⟩ := h1
    obtain ⟨v, u, rfl, hv, hz⟩ := two_of h2
    split at w
    · rename_i ks key q0 q1
      obtain ⟨vs, u1, u2⟩ := s.obj _ a _ ea q0
      have ek := key_of q1 hv
      subst ek
      rcases u2.val (k := key) with ⟨z1, z2⟩ | ⟨d', v', z1, z2, hd⟩
      · rw [z1] at w
        exact .inr ⟨a, vs, key, u, rfl, rfl, u1, fun v e => (by rw [z2] at e; cases e), fun _ => w.here s _ hz⟩
      · rw [z1] at w
        have x1 := Ext.write (u := .dK (dropK vs key)) ea u1 trivial
        refine .inr ⟨a, vs, key, u, rfl, rfl, u1, fun v e => ?_, fun e => (by rw [z2] at e; cases e)⟩
        rw [z2] at e
        cases e
        exact w.put s ea u1 trivial ⟨_, upd_same, u2.drop.mono x1⟩ (hd.mono x1)
    · obtain ⟨_, _, e, _⟩ := w; cases e
  · obtain ⟨_, _, e, _⟩ := w; cases e
end

/-! ### dict displays and comprehensions -/
def eDnew : IE := fun _ st => .ok (.obj st.length) (st ++ [.dct []])
abbrev IPs := Lv → Stt → Res (List (Key × D))
def psNil : IPs := fun _ st => .ok [] st
def psCons (fk fv : IE) (fr : IPs) : IPs := fun env st => (fk env st).bind fun k st1 => (fv env st1).bind fun v st2 => match keyD k with
  | some key => (fr env st2).bind fun ps st3 => .ok ((key, v) :: ps) st3
  | none => .no
/-- the dict is made ahead of its items -/
def eDisp (fr : IPs) : IE := fun env st => match fr env (st ++ [.dct []]) with
  | .ok ps st1 => match st1[st.length]? with
    | some (.dct []) => if ps.length ≤ 15 then .ok (.obj st.length) (st1.set st.length (.dct (mergeD [] ps))) else .no
    | _ => .no
  | .ex e st1 => .ex e st1
  | .no => .no
section
variable (K : PySem.W.Frag) (cl : String → Addr) (W : WX)
/-- the pairs' readings, told by the steps -/
inductive PRs : List (TE × TE) → IPs → Prop
  | nil : PRs [] psNil
  | cons {fk fv : IE} {fr : IPs} {trs : List (TE × TE)} : PRs trs fr → PRs ((RE K cl W fk, RE K cl W fv) :: trs) (psCons fk fv fr)
end
section
variable {K : PySem.W.Frag} {cl : String → Addr} {W : WX}
theorem prs_in {trs : List (TE × TE)} {fr : IPs} (h : PRs K cl W trs fr) : ∀ {σ : St} {H : Hp} {r : List Addr} {env : Lv} {st : Stt} {Q : List (V × V) → Hp → Prop}, Rn K cl σ H r env st →
    Wp K cl W σ H r (fr env st) (fun ps _ H' r' => ∀ kvs, RKs K H' r' ps kvs → Q (kvs.map fun kv => (kV kv.1, kv.2)) H') → tPairs trs σ H Q := by
  induction h with
  | nil => intro σ H r env st Q n w; exact w.ok n.st [] rfl
  | @cons fk fv fr trs h ih =>
    intro σ H r env st Q n w
    refine ⟨r, env, st, n, (Wp.bind w).mono fun k st1 H1 r1 x1 s1 w1 vk hk => ?_⟩
    have n1 := n.to x1 s1
    refine ⟨r1, env, st1, n1, (Wp.bind w1).mono fun v st2 H2 r2 x2 s2 w2 vv hv => ?_⟩
    cases q : keyD k with
    | none => rw [q] at w2; exact w2.elim
    | some key =>
      rw [q] at w2
      have ek := key_of q hk
      subst ek
      refine ih (n1.to x2 s2) ((Wp.bind w2).mono fun ps st3 H3 r3 x3 s3 w3 kvs hkv => ?_)
      exact w3.ok s3 ((key, vv) :: kvs) ⟨vv, kvs, rfl, hv.mono x3, hkv⟩
end
section
variable {X : Cx} {cl : String → Addr} {W : WX} {pos : Pos} {tg iter kx vx : Expr} {ifs : List Expr} {fi : II} {t : Tg} {ft : IT} {fk fv : IE}
theorem i_dnew : PE X (.Dict [] [] pos) (RE X.K cl W eDnew) := by
  refine pe_imp pe_dnewK fun σ H Q ⟨r, env, st, n, w⟩ => fun p hp => ?_
  exact w _ _ (Ext.made hp) (n.st.made hp ⟨[], upd_same, rfl⟩) _ ⟨p, by rw [← n.st.len]; exact get_new r p, rfl⟩
theorem i_disp {keys : List (Option Expr)} {values : List Expr} {trs : List (TE × TE)} {fr : IPs} (h : PPs X pos keys values trs) (hp : PRs X.K cl W trs fr) (hall : keys.all (·.isSome) = true) (hl : keys.length = values.length) (h0 : keys ≠ [])
    (h15 : keys.length ≤ 15) : PE X (.Dict keys values pos) (RE X.K cl W (eDisp fr)) := by
  refine pe_imp (pe_disp h hall hl h0 h15) fun σ H Q ⟨r, env, st, n, w⟩ => fun p hpn => ?_
  have s1 := n.st.made (o := .dct []) (u := .dK []) hpn ⟨[], upd_same, rfl⟩
  have x1 : Ext H r (upd H p (.dK [])) (r ++ [p]) := Ext.made hpn
  have n1 : Rn X.K cl σ (upd H p (.dK [])) (r ++ [p]) env (st ++ [.dct []]) := ⟨n.env.mono x1, s1⟩
  refine prs_in hp n1 ?_
  unfold eDisp at w
  unfold Wp
  cases q : fr env (st ++ [.dct []]) with
  | no => rw [q] at w; exact w.elim
  | ex e st1 =>
    rw [q] at w
    exact fun H' r' cls d x s rx => w H' r' cls d (x1.trans x) s rx
  | ok ps st1 =>
    rw [q] at w
    intro H2 r2 x2 s2 kvs hkv
    simp only at w
    split at w
    · rename_i q2
      split at w
      · rename_i hl15
        have er : r2[st.length]? = some p := x2.pre _ _ (by rw [← n.st.len]; exact get_new r p)
        obtain ⟨vs, u1, u2⟩ := s2.obj _ p _ er q2
        cases u2
        refine ⟨u1, kvs, rfl, by rw [hkv.length]; exact hl15, ?_⟩
        have x3 := Ext.write (u := .dK (mergeK [] kvs)) er u1 trivial
        have s3 := s2.write er u1 trivial (o := .dct (mergeD [] ps)) ⟨_, upd_same, (hkv.merge (ks := []) (vs := []) rfl).mono x3⟩
        exact w _ r2 ((x1.trans x2).trans x3) s3 _ ⟨p, er, rfl⟩
      · exact w.elim
    · exact w.elim
def dcompN (src : Src) (t : Tg) (tt : IT) (tk tv : IE) (env : Lv) : Nat → Nat → List (Key × D) → Stt → Option (List (Key × D) × Stt)
  | 0, i, acc, st => match src i st with
    | some none => some (acc, st)
    | _ => none
  | n + 1, i, acc, st => match src i st with
    | some none => some (acc, st)
    | some (some d) => match t.put d env with
      | some env1 => match tt env1 st with
        | .ok true st1 => match tk env1 st1 with
          | .ok y st2 => match tv env1 st2 with
            | .ok z st3 => match keyD y with
              | some key => if acc.length < 10000000 then dcompN src t tt tk tv env n (i + 1) (putD acc key z) st3 else none
              | none => none
            | _ => none
          | _ => none
        | .ok false st1 => dcompN src t tt tk tv env n (i + 1) acc st1
        | _ => none
      | none => none
    | none => none
def eDc (fi : II) (t : Tg) (tt : IT) (tk tv : IE) (vs : List Nat) : IE := fun env st => (fi env st).bind fun src st1 => match dcompN src t tt tk tv (wipeL env vs) bigN 0 [] st1 with
  | some (acc, st2) => .ok (.obj st2.length) (st2 ++ [.dct acc])
  | none => .no
theorem dc_in {ls : List Nat} (hsl : ∀ j ∈ t.slots, j ∈ ls) {σ : St} {H : Hp} {Q : VK} (h : RE X.K cl W (eDc fi t ft fk fv ls) σ H Q) : tDc (RI X.K cl W t fi) (RG X.K cl t) (RT X.K cl W0 ft) (RE X.K cl W0 fk) (RE X.K cl W0 fv) ls σ H Q := by
  obtain ⟨r, env, st, n, w⟩ := h
  refine ⟨r, env, st, n, (Wp.bind w).mono fun src st1 H1 r1 x1 s1 w1 J hJ Dl hD => ?_⟩
  have n1 := n.to x1 s1
  generalize hq : dcompN src t ft fk fv (wipeL env ls) bigN 0 [] st1 = q at w1
  cases q with
  | none => exact w1.elim
  | some p0 =>
    obtain ⟨accE, stE⟩ := p0
    have fin : ∀ H' r', Ext H1 r1 H' r' → RSt X.K H' r' cl (stE ++ [.dct accE]) → ∀ v, RD X.K H' r' (.obj stE.length) v → Q v H' := fun H' r' x s v h => w1 H' r' x s v h
    have x10 : Ext H1 r1 (upd H1 Dl (.dK [])) r1 := Ext.beside hD
    refine ⟨fun i m H2 => ∃ r2 st2 acc vs, Ext H1 r1 H2 r2 ∧ RSt X.K H2 r2 cl st2 ∧ Dl ∉ r2 ∧ H2 Dl = some (.dK vs) ∧ RKs X.K H2 r2 acc vs ∧ dcompN src t ft fk fv (wipeL env ls) m i acc st2 = some (accE, stE), ⟨bigN, r1, st1, [], [], x10, s1.beside hD, s1.out hD, upd_same, rfl, hq⟩, ?_⟩
    rintro i m H2 ⟨r2, st2, acc, vs, x2, s2, hn2, hD2, ha2, e⟩
    have stop : src i st2 = some none → (accE, stE) = (acc, st2) → (J.stop i H2 ∧ Q (.ref Dl) H2) := fun q0 q1 => by
      cases q1
      refine ⟨hJ H2 r2 _ i none x2 s2 q0, ?_⟩
      have sb : Sub H2 r2 H2 (r2 ++ [Dl]) := ⟨fun k a e => by rw [List.getElem?_append_left (List.getElem?_eq_some_iff.mp e).1]; exact e, fun _ _ _ h => h, fun _ _ _ h => h⟩
      exact fin H2 (r2 ++ [Dl]) (x2.join hD) (s2.join hn2 ⟨vs, hD2, ha2.monoS sb⟩) _ ⟨Dl, by rw [← s2.len]; exact get_new r2 Dl, rfl⟩
    cases m with
    | zero =>
      unfold dcompN at e
      split at e
      · rename_i e1
        exact .inl (stop e1 (Option.some.inj e).symm)
      · cases e
    | succ m =>
      unfold dcompN at e
      cases q0 : src i st2 with
      | none => rw [q0] at e; cases e
      | some o =>
        cases o with
        | none =>
          rw [q0] at e
          exact .inl (stop q0 (Option.some.inj e).symm)
        | some d =>
          rw [q0] at e
          obtain ⟨h1, h2⟩ := hJ H2 r2 st2 i (some d) x2 s2 q0
          refine .inr ⟨h1, _, fun H' h => ⟨m, Nat.lt_succ_self m, h⟩, fun v H3 hy => ?_⟩
          obtain ⟨r3, x3, s3, hd⟩ := h2 v H3 hy
          simp only at e
          cases q1 : t.put d (wipeL env ls) with
          | none => rw [q1] at e; cases e
          | some env1 =>
            simp only [q1] at e
            have out : ∀ {Ha Hb : Hp} {ra rb : List Addr} {o : HO}, Ext Ha ra Hb rb → Ha Dl = some o → Dl ∉ ra → Dl ∉ rb := fun x h hn z => by
              rcases x.fresh Dl z with z | z
              · exact hn z
              · rw [h] at z; cases z
            have hD3 : H3 Dl = some (.dK vs) := x3.keep Dl _ hD2 hn2
            have hn3 := out x3 hD2 hn2
            have x13 := x2.trans x3
            refine ⟨r3, _, st2, d, env1, ⟨(n1.env.mono x13).wipe _, s3⟩, hd, q1, fun σ4 o4 he4 => ⟨wipe_only o4 hsl, ?_⟩⟩
            refine ⟨r3, env1, st2, ⟨he4, s3⟩, ?_⟩
            cases q2 : ft env1 st2 with
            | no => rw [q2] at e; cases e
            | ex _ _ => rw [q2] at e; cases e
            | ok b st4 =>
              rw [q2] at e
              intro H4 r4 x4 s4
              have hD4 : H4 Dl = some (.dK vs) := x4.keep Dl _ hD3 hn3
              have hn4 := out x4 hD3 hn3
              have x24 := x3.trans x4
              cases b with
              | false => exact iteF ⟨r4, st4, acc, vs, x13.trans x4, s4, hn4, hD4, ha2.mono x24, e⟩
              | true =>
                refine iteT ⟨r4, env1, st4, ⟨he4.mono x4, s4⟩, ?_⟩
                simp only at e
                cases q3 : fk env1 st4 with
                | no => rw [q3] at e; cases e
                | ex _ _ => rw [q3] at e; cases e
                | ok y st5 =>
                  simp only [q3] at e
                  intro H5 r5 x5 s5 vy hy5
                  have hD5 : H5 Dl = some (.dK vs) := x5.keep Dl _ hD4 hn4
                  have hn5 := out x5 hD4 hn4
                  refine ⟨r5, env1, st5, ⟨(he4.mono x4).mono x5, s5⟩, ?_⟩
                  cases q4 : fv env1 st5 with
                  | no => rw [q4] at e; cases e
                  | ex _ _ => rw [q4] at e; cases e
                  | ok z st6 =>
                    simp only [q4] at e
                    cases q5 : keyD y with
                    | none => rw [q5] at e; cases e
                    | some key =>
                      simp only [q5] at e
                      have ek := key_of q5 hy5
                      subst ek
                      split at e
                      · rename_i hz
                        intro H6 r6 x6 s6 vz hz6
                        have hD6 : H6 Dl = some (.dK vs) := x6.keep Dl _ hD5 hn5
                        have hn6 := out x6 hD5 hn5
                        have ha6 := ha2.mono ((x24.trans x5).trans x6)
                        refine ⟨vs, key, rfl, hD6, by rw [ha6.length, sizeLine_eq]; omega, r6, st6, putD acc key z, putK vs key vz, ?_, s6.aside hn6 hD6 trivial, hn6, upd_same, ?_, e⟩
                        · exact Ext.aside2 (((x13.trans x4).trans x5).trans x6) hn6 hD hD6 trivial
                        · exact (ha6.put hz6).monoS (Ext.aside hn6 hD6 trivial)
                      · cases e
theorem i_dc {scope : Scope} {own : List (Str × Nat)} (hc : X.calm = true) (hN : X.N.Nodup) (hi : PI X tg iter (RI X.K cl W t fi)) (ok : BlkOk X.N X.env.scope scope own) (hsl : ∀ j ∈ t.slots, j ∈ own.map (·.2))
    (hg : ∀ (s : Shared) (H : Hp) (C : Addr) (cl' : List (Str × Addr)) (fp : List Addr), PG (X.blk s H scope (compEnvC scope cl' C X.env) fp) tg (RG X.K cl t))
    (ht : ∀ (s : Shared) (H : Hp) (C : Addr) (cl' : List (Str × Addr)) (fp : List Addr), PTs (X.blk s H scope (compEnvC scope cl' C X.env) fp) ifs (RT X.K cl W0 ft))
    (hk : ∀ (s : Shared) (H : Hp) (C : Addr) (cl' : List (Str × Addr)) (fp : List Addr), PE (X.blk s H scope (compEnvC scope cl' C X.env) fp) kx (RE X.K cl W0 fk))
    (he : ∀ (s : Shared) (H : Hp) (C : Addr) (cl' : List (Str × Addr)) (fp : List Addr), PE (X.blk s H scope (compEnvC scope cl' C X.env) fp) vx (RE X.K cl W0 fv)) (hs : ∀ x, foldedSetIterable iter X.env x = pure x := by intro _; rfl) :
    PE X (.DictComp kx vx [⟨tg, iter, ifs, 0⟩] scope pos) (RE X.K cl W (eDc fi t ft fk fv (own.map (·.2)))) :=
  pe_imp (pe_dc hc hN hi ok hg ht hk he hs) fun σ H Q h => dc_in hsl h
/-- name = {..} on one line, the name a local -/
theorem ps_setDc {i : Nat} {y : Str} {py spos : Pos} {scope : Scope} {own : List (Str × Nat)} {wi : TI} {g : TG} {tt : TT} {tk tv : TE} (hc : X.calm = true) (hN : X.N.Nodup) (hy : X.N[i]? = some y) (hyl : X.env.scope.names.lookup y = some .local)
    (hsw : swapsWith (.DictComp kx vx [⟨tg, iter, ifs, 0⟩] scope pos) (some (.Name y py)) spos.line X.env = pure true) (hi : PI X tg iter wi) (ok : BlkOk X.N X.env.scope scope own)
    (hg : ∀ (s : Shared) (H : Hp) (C : Addr) (cl' : List (Str × Addr)) (fp : List Addr), PG (X.blk s H scope (compEnvC scope cl' C X.env) fp) tg g)
    (ht : ∀ (s : Shared) (H : Hp) (C : Addr) (cl' : List (Str × Addr)) (fp : List Addr), PTs (X.blk s H scope (compEnvC scope cl' C X.env) fp) ifs tt)
    (hk : ∀ (s : Shared) (H : Hp) (C : Addr) (cl' : List (Str × Addr)) (fp : List Addr), PE (X.blk s H scope (compEnvC scope cl' C X.env) fp) kx tk)
    (he : ∀ (s : Shared) (H : Hp) (C : Addr) (cl' : List (Str × Addr)) (fp : List Addr), PE (X.blk s H scope (compEnvC scope cl' C X.env) fp) vx tv) (hs : ∀ x, foldedSetIterable iter X.env x = pure x := by intro _; rfl) :
    PS X (.Assign [.Name y py] (.DictComp kx vx [⟨tg, iter, ifs, 0⟩] scope pos) spos) (tAsg (tDc wi g tt tk tv (own.map (·.2))) (gName i)) := by
  refine ⟨fun pins s σ H D I h => ?_⟩
  rw [PySem.exec_Assign_Name_used _ _ _ _ hsw]
  refine wpAny_bind (wpAny_standAt (wpAny_bind ?_))
  show wpAny _ X.A (do let _ ← comprehension (.DictComp kx vx [⟨tg, iter, ifs, 0⟩] scope pos) scope X.env (firstIterPos [⟨tg, iter, ifs, 0⟩] pos) newDict false (eval iter X.env) (some (assign (.Name y py) X.env))) _ _ s
  have h' : tDc wi g tt tk tv (own.map (·.2)) σ H (fun x H1 => gName i x σ H1 D.nx) := h
  refine wpAny_bind (thn (dc_core (Qf := fun _ s' => SP X pins D .next s') hc hN I hi ok hg ht hk he hs h' fun L C s' m H' I' q hn f => ?_) fun _ s' hq => wpAny_pure (wpAny_pure hq))
  show wpAny _ _ (assign (.Name y py) X.env (.ref L)) _ _ _
  refine wpAny_assign_Name (store_ok2 (v := V.ref L) I' hN hy (.inl hyl) rfl (fun s2 I2 ⟨a, sb, ha⟩ => ?_) (.inr hyl))
  obtain ⟨f0, f1, f2, f3, f4, f5⟩ := f
  have haC : C ≠ a := by
    rcases ha with z | z
    · exact fun e => f1 (e.trans z)
    · exact fun e => f4 y a z e.symm
  refine ⟨m, hn.sameBut sb haC, fun h3 sb3 => ⟨_, H', I2.turned (t' := s2.toks) (fun b o hb e => (sb3.2 b hb).trans e) f0 f1 f3 f4 f5, q⟩⟩
theorem s_setDc {i : Nat} {y : Str} {py spos : Pos} {scope : Scope} {own : List (Str × Nat)} (hc : X.calm = true) (hN : X.N.Nodup) (hy : X.N[i]? = some y) (hyl : X.env.scope.names.lookup y = some .local)
    (hsw : swapsWith (.DictComp kx vx [⟨tg, iter, ifs, 0⟩] scope pos) (some (.Name y py)) spos.line X.env = pure true) (hi : PI X tg iter (RI X.K cl W t fi)) (ok : BlkOk X.N X.env.scope scope own) (hsl : ∀ j ∈ t.slots, j ∈ own.map (·.2))
    (hg : ∀ (s : Shared) (H : Hp) (C : Addr) (cl' : List (Str × Addr)) (fp : List Addr), PG (X.blk s H scope (compEnvC scope cl' C X.env) fp) tg (RG X.K cl t))
    (ht : ∀ (s : Shared) (H : Hp) (C : Addr) (cl' : List (Str × Addr)) (fp : List Addr), PTs (X.blk s H scope (compEnvC scope cl' C X.env) fp) ifs (RT X.K cl W0 ft))
    (hk : ∀ (s : Shared) (H : Hp) (C : Addr) (cl' : List (Str × Addr)) (fp : List Addr), PE (X.blk s H scope (compEnvC scope cl' C X.env) fp) kx (RE X.K cl W0 fk))
    (he : ∀ (s : Shared) (H : Hp) (C : Addr) (cl' : List (Str × Addr)) (fp : List Addr), PE (X.blk s H scope (compEnvC scope cl' C X.env) fp) vx (RE X.K cl W0 fv)) (hs : ∀ x, foldedSetIterable iter X.env x = pure x := by intro _; rfl) :
    PS X (.Assign [.Name y py] (.DictComp kx vx [⟨tg, iter, ifs, 0⟩] scope pos) spos) (RSs X.K cl W (sSet i (eDc fi t ft fk fv (own.map (·.2))))) := by
  refine ps_imp (ps_setDc hc hN hy hyl hsw hi ok hg ht hk he hs) fun D σ H ⟨r, env, st, n, w⟩ => dc_in hsl ?_
  refine ⟨r, env, st, n, (sE_in n w).mono fun d st1 H1 r1 x1 s1 w1 v hd => ?_⟩
  obtain ⟨p, st', e, q⟩ := w1
  cases e
  exact q H1 r1 (Ext.refl H1 r1) s1 _ ((n.env.mono x1).set hd)
end
end Iv

namespace Iv
open PySem L2

/-! ### data compared -/
mutual
def D.beq : D → D → Bool
  | .non, .non => true
  | .bl a, .bl b => a == b
  | .int a, .int b => a == b
  | .str a, .str b => a == b
  | .ty a, .ty b => a == b
  | .obj a, .obj b => a == b
  | .tup a, .tup b => beqs a b
  | .cl a, .cl b => beqs a b
  | _, _ => false
def beqs : List D → List D → Bool
  | [], [] => true
  | a :: as, b :: bs => a.beq b && beqs as bs
  | _, _ => false
end
mutual
theorem D.beq_eq : ∀ {a b : D}, a.beq b = true → a = b
  | .non, b, h => by cases b <;> first | rfl | cases h
  | .bl a, b, h => by
    cases b with
    | bl b => rw [eq_of_beq (show (a == b) = true from h)]
    | _ => cases h
  | .int a, b, h => by
    cases b with
    | int b => rw [eq_of_beq (show (a == b) = true from h)]
    | _ => cases h
  | .str a, b, h => by
    cases b with
    | str b => rw [eq_of_beq (show (a == b) = true from h)]
    | _ => cases h
  | .ty a, b, h => by
    cases b with
    | ty b => rw [eq_of_beq (show (a == b) = true from h)]
    | _ => cases h
  | .obj a, b, h => by
    cases b with
    | obj b => rw [eq_of_beq (show (a == b) = true from h)]
    | _ => cases h
  | .tup a, b, h => by
    cases b with
    | tup b => rw [beqs_eq (show beqs a b = true from h)]
    | _ => cases h
  | .cl a, b, h => by
    cases b with
    | cl b => rw [beqs_eq (show beqs a b = true from h)]
    | _ => cases h
theorem beqs_eq : ∀ {a b : List D}, beqs a b = true → a = b
  | [], [], _ => rfl
  | [], _ :: _, h => by cases h
  | _ :: _, [], h => by cases h
  | a :: as, b :: bs, h => by
    have h' : (a.beq b && beqs as bs) = true := h
    rw [Bool.and_eq_true] at h'
    rw [D.beq_eq h'.1, beqs_eq h'.2]
end
mutual
theorem D.beq_refl : ∀ a : D, a.beq a = true
  | .non => rfl
  | .bl a => beq_self_eq_true a
  | .int a => beq_self_eq_true a
  | .str a => beq_self_eq_true a
  | .ty a => beq_self_eq_true a
  | .obj a => beq_self_eq_true a
  | .tup a => beqs_refl a
  | .cl a => beqs_refl a
theorem beqs_refl : ∀ a : List D, beqs a a = true
  | [] => rfl
  | a :: as => by
    show (a.beq a && beqs as as) = true
    rw [D.beq_refl a, beqs_refl as] <;> rfl
end
def beqK : List (Key × D) → List (Key × D) → Bool
  | [], [] => true
  | (k, a) :: as, (j, b) :: bs => decide (k = j) && (a.beq b && beqK as bs)
  | _, _ => false
def beqF : List (Str × D) → List (Str × D) → Bool
  | [], [] => true
  | (k, a) :: as, (j, b) :: bs => decide (k = j) && (a.beq b && beqF as bs)
  | _, _ => false
def O.beq : O → O → Bool
  | .lst a, .lst b => beqs a b
  | .dct a, .dct b => beqK a b
  | .dcf a, .dcf b => beqK a b
  | .ins c a, .ins e b => decide (c = e) && beqF a b
  | _, _ => false
theorem beqK_eq : ∀ {a b : List (Key × D)}, beqK a b = true → a = b
  | [], [], _ => rfl
  | [], _ :: _, h => by cases h
  | _ :: _, [], h => by cases h
  | (k, a) :: as, (j, b) :: bs, h => by
    have h' : (decide (k = j) && (a.beq b && beqK as bs)) = true := h
    rw [Bool.and_eq_true, Bool.and_eq_true] at h'
    rw [of_decide_eq_true h'.1, D.beq_eq h'.2.1, beqK_eq h'.2.2]
theorem beqF_eq : ∀ {a b : List (Str × D)}, beqF a b = true → a = b
  | [], [], _ => rfl
  | [], _ :: _, h => by cases h
  | _ :: _, [], h => by cases h
  | (k, a) :: as, (j, b) :: bs, h => by
    have h' : (decide (k = j) && (a.beq b && beqF as bs)) = true := h
    rw [Bool.and_eq_true, Bool.and_eq_true] at h'
    rw [of_decide_eq_true h'.1, D.beq_eq h'.2.1, beqF_eq h'.2.2]
theorem beqK_refl : ∀ a : List (Key × D), beqK a a = true
  | [] => rfl
  | (k, a) :: as => by
    show (decide (k = k) && (a.beq a && beqK as as)) = true
    rw [decide_eq_true rfl, D.beq_refl, beqK_refl] <;> rfl
theorem beqF_refl : ∀ a : List (Str × D), beqF a a = true
  | [] => rfl
  | (k, a) :: as => by
    show (decide (k = k) && (a.beq a && beqF as as)) = true
    rw [decide_eq_true rfl, D.beq_refl, beqF_refl] <;> rfl
theorem O.beq_eq {a b : O} (h : a.beq b = true) : a = b := by
  cases a with
  | lst a =>
    cases b with
    | lst b => rw [beqs_eq (show beqs a b = true from h)]
    | _ => cases h
  | dct a =>
    cases b with
    | dct b => rw [beqK_eq (show beqK a b = true from h)]
    | _ => cases h
  | dcf a =>
    cases b with
    | dcf b => rw [beqK_eq (show beqK a b = true from h)]
    | _ => cases h
  | ins c a =>
    cases b with
    | ins e b =>
      have h' : (decide (c = e) && beqF a b) = true := h
      rw [Bool.and_eq_true] at h'
      rw [of_decide_eq_true h'.1, beqF_eq h'.2]
    | _ => cases h
theorem O.beq_refl (a : O) : a.beq a = true := by
  cases a with
  | lst a => exact beqs_refl a
  | dct a => exact beqK_refl a
  | dcf a => exact beqK_refl a
  | ins c a =>
    show (decide (c = c) && beqF a a) = true
    rw [decide_eq_true rfl, beqF_refl] <;> rfl
/-- the one store is the other one's beginning -/
def begins : Stt → Stt → Bool
  | [], _ => true
  | o :: os, p :: ps => o.beq p && begins os ps
  | _ :: _, [] => false
theorem begins_eq : ∀ {a b : Stt}, begins a b = true → ∃ c, b = a ++ c
  | [], b, _ => ⟨b, rfl⟩
  | _ :: _, [], h => by cases h
  | o :: os, p :: ps, h => by
    have h' : (o.beq p && begins os ps) = true := h
    rw [Bool.and_eq_true] at h'
    obtain ⟨c, e⟩ := begins_eq h'.2
    exact ⟨c, by rw [O.beq_eq h'.1, e] <;> rfl⟩
theorem begins_app : ∀ a c : Stt, begins a (a ++ c) = true
  | [], _ => rfl
  | o :: os, c => by
    show (o.beq o && begins os (os ++ c)) = true
    rw [O.beq_refl, begins_app os c] <;> rfl

/-! ### defs -/
abbrev Fn := List D → Stt → Res D
def flatF : List (Str × D) → Bool
  | [] => true
  | (_, d) :: ds => d.flat && flatF ds
/-- the store is as it was ahead of the call: what the def made is forgotten -/
def cutFn (F : Fn) : Fn := fun ds st => match F ds st with
  | .ok d st' => if (d.flat && begins st st') = true then .ok d st else .no
  | .ex e st' => if (flatF e.fs && begins st st') = true then .ex e st else .no
  | .no => .no
def fnB (n N : Nat) (b : IS) : Fn := fun ds st => if ds.length = n then (match b (ds.map some ++ List.replicate (N - n) none) st with
  | some ((_, .rt d), st') => .ok d st'
  | some ((_, .nx), st') => .ok .non st'
  | some ((_, .ex e), st') => .ex e st'
  | _ => .no) else .no
def spI (K : PySem.W.Frag) (cl : String → Addr) (n : Nat) (F : Fn) : Sp := fun vs H Q E => vs.length = n ∧ ∃ r st ds, RSt K H r cl st ∧ RDs K H r ds vs ∧
  (F ds st).wp (fun d st' => ∀ v H' r', Ext H r H' r' → RSt K H' r' cl st' → RD K H' r' d v → Q v H') (fun e st' => ∀ H' r' cls d, Ext H r H' r' → RSt K H' r' cl st' → RX K cl H' r' e cls d → E cls d H')
theorem RFs.flat {K : PySem.W.Frag} {H : Hp} {r r' : List Addr} : ∀ {ds : List (Str × D)} {vs : List (Str × V)}, flatF ds = true → RFs K H r' ds vs → RFs K H r ds vs
  | [], _, _, h => h
  | (k, d) :: ds, _, f, h => by
    obtain ⟨y, ys, e, h1, h2⟩ := h
    have f' : (d.flat && flatF ds) = true := f
    rw [Bool.and_eq_true] at f'
    exact ⟨y, ys, e, h1.flat f'.1, RFs.flat f'.2 h2⟩
theorem spI_cut {K : PySem.W.Frag} {cl : String → Addr} {n : Nat} {F : Fn} (vs : List V) (H : Hp) (Q : VK) (E : XK) (h : spI K cl n (cutFn F) vs H Q E) : spI K cl n F vs H Q E := by
  obtain ⟨hl, r, st, ds, s, hd, w⟩ := h
  refine ⟨hl, r, st, ds, s, hd, ?_⟩
  unfold cutFn at w
  cases q : F ds st with
  | no => rw [q] at w; exact w.elim
  | ok d st' =>
    rw [q] at w
    simp only at w
    split at w
    · rename_i hc
      rw [Bool.and_eq_true] at hc
      obtain ⟨c, rfl⟩ := begins_eq hc.2
      intro v H' r' x s' h'
      exact w v H' r (Ext.cut s x) (s.cut x s') (h'.flat hc.1)
    · exact w.elim
  | ex e st' =>
    rw [q] at w
    simp only at w
    split at w
    · rename_i hc
      rw [Bool.and_eq_true] at hc
      obtain ⟨c, rfl⟩ := begins_eq hc.2
      intro H' r' cls d x s' h'
      refine w H' r cls d (Ext.cut s x) (s.cut x s') ⟨h'.1, ?_⟩
      rcases h'.2 with h2 | ⟨dx, ws, h2, h3, h4⟩
      · exact .inl h2
      · exact .inr ⟨dx, ws, h2, h3, h4.flat hc.1⟩
    · exact w.elim
/-- a def that may be called: F is what it computes -/
structure Callee (P : Program) (w : World) (K : PySem.W.Frag) (mg : Str → Option Value) (base : Heap) (cl : String → Addr) (k : Nat) (x : Str) (n : Nat) (F : Fn) : Prop where
  ex : ∃ (f : Addr) (fd : FuncData) (ps : List Str), mg x = some (.ref f) ∧ PySem.W.keepIn K (.ref f) = true ∧ Binds K fd ps [] ∧ FnOk P w K mg base (L2.CX P w) k f fd ps (spI K cl n F)
def noFn : Fn := fun _ _ => .no
section
variable {P : Program} {w : World} {K : PySem.W.Frag} {mg : Str → Option Value} {base : Heap} {cl : String → Addr} {k n : Nat} {x : Str} {F : Fn}
theorem Callee.cut (C : Callee P w K mg base cl k x n F) : Callee P w K mg base cl k x n (cutFn F) := by
  obtain ⟨f, fd, ps, h1, h2, h3, h4⟩ := C.ex
  exact ⟨f, fd, ps, h1, h2, h3, h4.imp spI_cut⟩
theorem Callee.mono {j : Nat} (C : Callee P w K mg base cl j x n F) (h : j ≤ k) : Callee P w K mg base cl k x n F := by
  obtain ⟨f, fd, ps, h1, h2, h3, h4⟩ := C.ex
  exact ⟨f, fd, ps, h1, h2, h3, h4.mono h⟩
theorem spI_no (vs : List V) (H : Hp) (Q : VK) (E : XK) : ¬ spI K cl n noFn vs H Q E := by
  rintro ⟨_, r, st, ds, s, hd, w⟩
  exact w
theorem Callee.no {f : Addr} {fd : FuncData} {ps : List Str} (hm : mg x = some (.ref f)) (hk : PySem.W.keepIn K (.ref f) = true) (hb : Binds K fd ps []) : Callee P w K mg base cl k x n noFn :=
  ⟨f, fd, ps, hm, hk, hb, ⟨fun vs H Q E h => (spI_no vs H Q E h).elim, fun A outer s H args us vs Q E hr he hbb hv h => (spI_no vs H Q E h).elim⟩⟩
/-- a def by its body -/
theorem fnOk_of {qual : Str} {stm : Stmt} {f : Addr} {fd : FuncData} {N ps : List Str} {body : IS} (F : Fun K x qual stm f fd) (S : FnScope N ps (defScope stm)) (hn : ps.length = n)
    (h : ∀ (cdv : Value) (A : Around) (outer : List Env) (s : Shared) (H : Hp) (E : XK), Room k (A.deeper (PyProof.Rows.envOfC qual (defScope stm) s.heap.objs.size f cdv)) →
      PSs (cxOf (L2.CX P w) P w K mg base N qual (defScope stm) f cdv A outer s H E) (defBody stm) (RSs K cl (fun cls d _ H' => E cls d H') body)) :
    FnOk P w K mg base (L2.CX P w) (k + 1) f fd ps (spI K cl n (fnB n N.length body)) := by
  subst hn
  refine F.okX S (fun vs H Q E h => h.1) fun cdv A outer s H vs Q E hr hsp => ⟨_, h cdv A outer s H E hr, ?_⟩
  obtain ⟨hl, r, st, ds, s0, hd, w⟩ := hsp
  have el : ds.length = ps.length := by rw [← hd.length]; exact hl
  unfold fnB at w
  rw [if_pos el] at w
  have e0 : REnv K H r (ds.map some ++ List.replicate (N.length - ps.length) none) (L2.start N vs) := by
    unfold L2.start
    rw [hl]
    exact (REnv.args hd).app (REnv.nones _)
  refine ⟨r, _, st, ⟨e0, s0⟩, ?_⟩
  cases q : body (ds.map some ++ List.replicate (N.length - ps.length) none) st with
  | none => rw [q] at w; exact w.elim
  | some p =>
    obtain ⟨⟨env', fl⟩, st'⟩ := p
    rw [q] at w
    refine ⟨_, _, rfl, fun H' r' x s' σ' he => ?_⟩
    cases fl with
    | nx => exact w .non H' r' x s' rfl
    | rt d => exact fun v hv => w v H' r' x s' hv
    | bk => exact w.elim
    | ct => exact w.elim
    | ex e => exact fun cls d rx => w H' r' cls d x s' rx
theorem Callee.of {qual : Str} {stm : Stmt} {f : Addr} {fd : FuncData} {N ps : List Str} {body : IS} (F : Fun K x qual stm f fd) (S : FnScope N ps (defScope stm)) (hm : mg x = some (.ref f)) (hb : Binds K fd ps []) (hn : ps.length = n)
    (h : ∀ (cdv : Value) (A : Around) (outer : List Env) (s : Shared) (H : Hp) (E : XK), Room k (A.deeper (PyProof.Rows.envOfC qual (defScope stm) s.heap.objs.size f cdv)) →
      PSs (cxOf (L2.CX P w) P w K mg base N qual (defScope stm) f cdv A outer s H E) (defBody stm) (RSs K cl (fun cls d _ H' => E cls d H') body)) :
    Callee P w K mg base cl (k + 1) x n (fnB n N.length body) := ⟨f, fd, ps, hm, F.kp, hb, fnOk_of F S hn h⟩
end
def eCall (n : Nat) (F : Fn) (fa : IA) : IE := fun env st => (fa env st).bind fun xs st1 => if xs.length = n then F xs st1 else .no
section
variable {X : Cx} {cl : String → Addr} {W : WX} {e : Expr} {es : List Expr} {fr : IA} {p pos : Pos} {k n : Nat} {x : Str} {F : Fn}
theorem passAt0 {X : Cx} (σ : St) : PassesAt (L2.CX X.prog X.w) X σ (WE W0 σ) := fun pins H s e s' I c => passL pins σ H s e s' I c
theorem i_call (C : Callee X.prog X.w X.K X.mg X.base cl k x n F) (hr : Room k X.A) (hg : Gl X x) (hx : ∀ σ, PassesAt (L2.CX X.prog X.w) X σ (WE W σ))
    (ha : PA X (e :: es) (RA X.K cl W fr)) (hdb : (x == ("__debug__" : Str)) = false := by decide) (he : starEach (e :: es) X.env = (false, eval e X.env) :: starEach es X.env := by rfl) (hpl : (backTo pos (starEach es X.env)).any (·.1) = false := by rfl) :
    PE X (.Call (.Name x p) (e :: es) [] pos) (RE X.K cl W (eCall n F fr)) := by
  obtain ⟨f, fd, ps, hm, hk, hb, hF⟩ := C.ex
  refine pe_imp (pe_callS (E := WE W) hF hr hg hm hk hb hx ha hdb he hpl) fun σ H Q ⟨r, env, st, nn, w⟩ => ?_
  refine ⟨r, env, st, nn, ?_⟩
  refine (Wp.bind w).mono ?_
  intro xs st1 H1 r1 x1 s1 w1
  intro vs hd
  by_cases el : xs.length = n
  · rw [if_pos el] at w1
    exact ⟨by rw [hd.length]; exact el, r1, st1, xs, s1, hd, wp_mono w1 (fun d st' q v H' r' x s h => q H' r' x s v h) fun e st' q H' r' cls d x s h => q H' r' cls d x s h⟩
  · rw [if_neg el] at w1
    exact w1.elim
end
end Iv

namespace Iv
open PySem L2

/-! ### built-in types as values; what leaves a def -/
section
variable {X : Cx} {cl : String → Addr} {W : WX} {pos : Pos}
theorem i_ty {x : Str} {T : String} (hg : Gl X x) (hm : X.mg x = none) (hv : bootBuiltins x = some (.type T)) (hn : x ≠ "__name__" := by decide) (hd : (x == ("__debug__" : Str)) = false := by decide) :
    PE X (.Name x pos) (RE X.K cl W (eC (.ty T))) := ic (pe_bltn (v := .ty T) hg hm hv (show RelV (.ty T) (.type T) from rfl) hn hd) fun _ _ => rfl
end
section
variable {P : Program} {w : World} {K : PySem.W.Frag} {mg : Str → Option Value} {base : Heap} {N : List Str} {qual : Str} {scope : Scope} {f : Addr} {cd : Value} {A : Around} {outer : List Env} {s : Shared} {H : Hp} {E : XK}
theorem passD (σ : St) : PassesAt (L2.CX P w) (cxOf (L2.CX P w) P w K mg base N qual scope f cd A outer s H E) σ (WE (fun cls d _ H' => E cls d H') σ) :=
  passAt (takes_of rfl rfl rfl rfl) σ
theorem ppD : PassesOwn (model P w) (cxOf (L2.CX P w) P w K mg base N qual scope f cd A outer s H E).A (cxOf (L2.CX P w) P w K mg base N qual scope f cd A outer s H E).env (cxOf (L2.CX P w) P w K mg base N qual scope f cd A outer s H E).xe :=
  passes_of (K := fun e s'' => L2.CX P w outer H s E e s'') rfl
end

/-! ### walks over what may be a tuple, a list, a text, the keys of a locked dict -/
def srcKeys (k : Nat) : Src := fun i st => match st[k]? with
  | some (.dcf ks) => some ((ks.map fun kv => dKey kv.1)[i]?)
  | _ => none
def srcVals (k : Nat) : Src := fun i st => match st[k]? with
  | some (.dcf ks) => some ((ks.map fun kv => kv.2)[i]?)
  | _ => none
def srcItems (k : Nat) : Src := fun i st => match st[k]? with
  | some (.dcf ks) => some ((ks.map fun kv => D.tup [dKey kv.1, kv.2])[i]?)
  | _ => none
def iAny (fa : IE) : II := fun env st => (fa env st).bind fun x st1 => match x with
  | .tup xs => .ok (srcTup xs) st1
  | .cl xs => .ok (srcTup xs) st1
  | .str z => .ok (srcTup (z.cps.toList.map fun c => .str ⟨#[c]⟩)) st1
  | .obj k => match st1[k]? with
    | some (.lst _) => .ok (srcLst k) st1
    | some (.dcf _) => .ok (srcKeys k) st1
    | _ => .no
  | _ => .no
def iVals (fa : IE) : II := fun env st => (fa env st).bind fun x st1 => match x with
  | .obj k => match st1[k]? with
    | some (.dcf _) => .ok (srcVals k) st1
    | _ => .no
  | _ => .no
def iItems (fa : IE) : II := fun env st => (fa env st).bind fun x st1 => match x with
  | .obj k => match st1[k]? with
    | some (.dcf _) => .ok (srcItems k) st1
    | _ => .no
  | _ => .no
section
variable {X : Cx} {cl : String → Addr} {W : WX} {tg e : Expr} {fa : IE} {t : Tg} {apos cpos : Pos}
theorem pi_or {w w' : TI} (h : PI X tg e w) (h' : PI X tg e w') : PI X tg e (fun σ H R => w σ H R ∨ w' σ H R) := ⟨fun pins s σ H R I q => q.elim (h.run pins s σ H R I) (h'.run pins s σ H R I)⟩
theorem RKs.at {K : PySem.W.Frag} {H : Hp} {r : List Addr} : ∀ {ds : List (Key × D)} {vs : List (Key × V)} {i : Nat}, RKs K H r ds vs → (ds[i]? = none ∧ vs[i]? = none) ∨ ∃ k d v, ds[i]? = some (k, d) ∧ vs[i]? = some (k, v) ∧ RD K H r d v
  | [], _, i, h => by cases h; exact .inl ⟨rfl, rfl⟩
  | (k, d) :: ds, _, 0, h => by
    obtain ⟨y, ys, rfl, h1, h2⟩ := h
    exact .inr ⟨k, d, y, rfl, rfl, h1⟩
  | (k, d) :: ds, _, i + 1, h => by
    obtain ⟨y, ys, rfl, h1, h2⟩ := h
    simpa using RKs.at (i := i) h2
theorem rd_key {K : PySem.W.Frag} {H : Hp} {r : List Addr} (k : Key) : RD K H r (dKey k) (kV k) := by
  cases k <;> exact rfl
theorem src_str {H : Hp} {r : List Addr} {z : Str} : SrcOk X.K cl t H r (srcTup (z.cps.toList.map fun c => .str ⟨#[c]⟩)) (Its z) := by
  intro H' r' st i o x s e
  cases e
  rw [List.getElem?_map, Array.getElem?_toList]
  cases q : z.cps[i]? with
  | none => exact Array.getElem?_eq_none_iff.mp q
  | some c =>
    refine ⟨(Array.getElem?_eq_some_iff.mp q).1, fun y H2 hy => ?_⟩
    obtain ⟨rfl, c', hc, rfl⟩ := hy
    rw [q] at hc
    cases hc
    exact ⟨r', Ext.refl _ _, s, .inl rfl⟩
theorem src_keys {H : Hp} {r : List Addr} {a : Addr} {k : Nat} {o : Obj} {vs : List (Key × V)} (ea : r[k]? = some a) (hz : H a = some (.frz o (.dK vs))) : SrcOk X.K cl t H r (srcKeys k) (Itk a o vs) := by
  intro H' r' st i z x s e
  have ea' := x.pre k a ea
  have hz' := x.frzk a o vs hz
  unfold srcKeys at e
  split at e
  · rename_i ks q0
    obtain ⟨o', vs', u1, u2⟩ := s.obj k a _ ea' q0
    rw [hz'] at u1
    cases u1
    cases e
    rw [List.getElem?_map]
    rcases u2.at (i := i) with ⟨z1, z2⟩ | ⟨key, d, v, z1, z2, hd⟩
    · rw [z1]
      exact ⟨hz', List.getElem?_eq_none_iff.mp z2⟩
    · rw [z1]
      refine ⟨⟨hz', (List.getElem?_eq_some_iff.mp z2).1⟩, fun y H2 hy => ?_⟩
      obtain ⟨rfl, k', v', e1, rfl⟩ := hy
      rw [z2] at e1
      cases e1
      exact ⟨r', Ext.refl _ _, s, .inl (rd_key _)⟩
  · cases e
theorem src_vals {H : Hp} {r : List Addr} {a : Addr} {k : Nat} {o : Obj} {vs : List (Key × V)} (ea : r[k]? = some a) (hz : H a = some (.frz o (.dK vs))) : SrcOk X.K cl t H r (srcVals k) (Itd a o vs) := by
  intro H' r' st i z x s e
  have ea' := x.pre k a ea
  have hz' := x.frzk a o vs hz
  unfold srcVals at e
  split at e
  · rename_i ks q0
    obtain ⟨o', vs', u1, u2⟩ := s.obj k a _ ea' q0
    rw [hz'] at u1
    cases u1
    cases e
    rw [List.getElem?_map]
    rcases u2.at (i := i) with ⟨z1, z2⟩ | ⟨key, d, v, z1, z2, hd⟩
    · rw [z1]
      exact ⟨hz', List.getElem?_eq_none_iff.mp z2⟩
    · rw [z1]
      refine ⟨⟨hz', (List.getElem?_eq_some_iff.mp z2).1⟩, fun y H2 hy => ?_⟩
      obtain ⟨rfl, k', e1⟩ := hy
      rw [z2] at e1
      cases e1
      exact ⟨r', Ext.refl _ _, s, .inl hd⟩
  · cases e
theorem src_items {ts : List Tg} {H : Hp} {r : List Addr} {a : Addr} {k : Nat} {o : Obj} {vs : List (Key × V)} (ea : r[k]? = some a) (hz : H a = some (.frz o (.dK vs))) : SrcOk X.K cl (.tp ts) H r (srcItems k) (Iti a o vs) := by
  intro H' r' st i z x s e
  have ea' := x.pre k a ea
  have hz' := x.frzk a o vs hz
  unfold srcItems at e
  split at e
  · rename_i ks q0
    obtain ⟨o', vs', u1, u2⟩ := s.obj k a _ ea' q0
    rw [hz'] at u1
    cases u1
    cases e
    rw [List.getElem?_map]
    rcases u2.at (i := i) with ⟨z1, z2⟩ | ⟨key, d, v, z1, z2, hd⟩
    · rw [z1]
      exact ⟨hz', List.getElem?_eq_none_iff.mp z2⟩
    · rw [z1]
      refine ⟨⟨hz', (List.getElem?_eq_some_iff.mp z2).1⟩, fun y H2 hy => ?_⟩
      obtain ⟨T, k', v', e1, rfl, hT, rfl⟩ := hy
      rw [z2] at e1
      cases e1
      have xb : Ext H' r' (upd H' T (.tup [kV key, v])) r' := Ext.beside hT
      refine ⟨r', xb, s.beside hT, .inr ⟨ts, _, T, _, rfl, rfl, rfl, SqT.of upd_same, ?_⟩⟩
      exact ⟨_, _, rfl, rd_key key, _, _, rfl, hd.mono xb, rfl⟩
  · cases e
theorem ii_any (h : PE X e (RE X.K cl W fa)) : PI X tg e (RI X.K cl W t (iAny fa)) := by
  refine pi_imp (pi_or (pi_tup h) (pi_or (pi_list h) (pi_or (pi_str h) (pi_keys h)))) fun σ H R ⟨r, env, st, n, w⟩ => ?_
  unfold iAny at w
  cases q : fa env st with
  | no => rw [q] at w; exact w.elim
  | ex z st1 =>
    refine .inl ⟨r, env, st, n, ?_⟩
    rw [q] at w ⊢
    exact w
  | ok d st1 =>
    have wb := Wp.bind w
    rw [q] at wb
    have go : ∀ (post : V → Hp → Prop), (∀ H1 r1, Ext H r H1 r1 → RSt X.K H1 r1 cl st1 → ∀ v, RD X.K H1 r1 d v → post v H1) → RE X.K cl W fa σ H post := fun post hp => by
      refine ⟨r, env, st, n, ?_⟩
      rw [q]
      exact fun H1 r1 x1 s1 v hv => hp H1 r1 x1 s1 v hv
    cases d with
    | tup xs =>
      refine .inl (go _ fun H1 r1 x1 s1 v hv => ?_)
      obtain ⟨a, vs, rfl, t, d⟩ := hv
      have w1 := wb H1 r1 x1 s1
      exact ⟨a, rfl, ⟨vs, t.t⟩, w1.ok s1 _ (src_tup t d)⟩
    | cl xs =>
      refine .inr (.inl (go _ fun H1 r1 x1 s1 v hv => ?_))
      obtain ⟨a, vs, rfl, t, d⟩ := hv
      have w1 := wb H1 r1 x1 s1
      exact ⟨a, rfl, ⟨vs, t.l⟩, w1.ok s1 _ (src_cl t d)⟩
    | str z =>
      refine .inr (.inr (.inl (go _ fun H1 r1 x1 s1 v hv => ?_)))
      cases hv
      have w1 := wb H1 r1 x1 s1
      exact ⟨z, rfl, w1.ok s1 _ src_str⟩
    | obj k =>
      cases q0 : st1[k]? with
      | none => simp only [q, Res.bind, q0] at w; exact w.elim
      | some o =>
        cases o with
        | lst xs =>
          refine .inr (.inl (go _ fun H1 r1 x1 s1 v hv => ?_))
          obtain ⟨a, ea, rfl⟩ := hv
          have w1 := wb H1 r1 x1 s1
          simp only [q0] at w1
          obtain ⟨vs, u1, u2⟩ := s1.obj k a _ ea q0
          exact ⟨a, rfl, ⟨vs, SqL.of u1⟩, w1.ok s1 _ (src_lst ea)⟩
        | dcf xs =>
          refine .inr (.inr (.inr (go _ fun H1 r1 x1 s1 v hv => ?_)))
          obtain ⟨a, ea, rfl⟩ := hv
          have w1 := wb H1 r1 x1 s1
          simp only [q0] at w1
          obtain ⟨o, vs, u1, u2⟩ := s1.obj k a _ ea q0
          exact ⟨a, o, rfl, .inl ⟨vs, u1, w1.ok s1 _ (src_keys ea u1)⟩⟩
        | dct xs => simp only [q, Res.bind, q0] at w; exact w.elim
        | ins c fs => simp only [q, Res.bind, q0] at w; exact w.elim
    | _ => rw [q] at w; exact w.elim
theorem ii_vals (h : PE X e (RE X.K cl W fa)) (hbase : attributeBase e "values" X.env (eval e X.env) = eval e X.env := by rfl) (hline : (apos.endLine == cpos.line) = true := by rfl) : PI X tg (.Call (.Attribute e "values" apos) [] [] cpos) (RI X.K cl W t (Iv.iVals fa)) := by
  refine pi_imp (pi_values h hbase hline) fun σ H R ⟨r, env, st, n, w⟩ => ?_
  refine ⟨r, env, st, n, (Wp.bind w).mono fun x st1 H1 r1 x1 s1 w1 v hd => ?_⟩
  cases x with
  | obj k =>
    obtain ⟨a, ea, rfl⟩ := hd
    simp only at w1
    split at w1
    · rename_i xs q0
      obtain ⟨o, vs, u1, u2⟩ := s1.obj k a _ ea q0
      exact ⟨a, o, vs, rfl, u1, w1.ok s1 _ (src_vals ea u1)⟩
    · exact w1.elim
  | _ => exact w1.elim
theorem ii_items {ts : List Tg} {elts : List Expr} {kk : Nat} {tpos : Pos} (h : PE X e (RE X.K cl W fa)) (hbase : attributeBase e "items" X.env (eval e X.env) = eval e X.env := by rfl) (hline : (apos.endLine == cpos.line) = true := by rfl) : PI X (.Tuple elts kk tpos) (.Call (.Attribute e "items" apos) [] [] cpos) (RI X.K cl W (.tp ts) (Iv.iItems fa)) := by
  refine pi_imp (pi_items h hbase hline) fun σ H R ⟨r, env, st, n, w⟩ => ?_
  refine ⟨r, env, st, n, (Wp.bind w).mono fun x st1 H1 r1 x1 s1 w1 v hd => ?_⟩
  cases x with
  | obj k =>
    obtain ⟨a, ea, rfl⟩ := hd
    simp only at w1
    split at w1
    · rename_i xs q0
      obtain ⟨o, vs, u1, u2⟩ := s1.obj k a _ ea q0
      exact ⟨a, o, vs, rfl, u1, w1.ok s1 _ (src_items ea u1)⟩
    · exact w1.elim
  | _ => exact w1.elim
end

/-! ### locks: a dict that is walked -/
/-- is it a dict that may be locked, and which -/
def lkOf (fa : IE) (env : Lv) (st : Stt) : Option (Nat × List (Key × D)) := match fa env st with
  | .ok (.obj k) _ => match st[k]? with
    | some (.dct ks) => some (k, ks)
    | _ => none
  | _ => none
def unlk (k : Nat) (st : Stt) : Option Stt := match st[k]? with
  | some (.dcf ks) => some (st.set k (.dct ks))
  | _ => none
def sLk (fa : IE) (f : IS) : IS := fun env st => match lkOf fa env st with
  | some (k, ks) => match f env (st.set k (.dcf ks)) with
    | some ((env', .ex e), st') => some ((env', .ex e), st')
    | some (p, st') => match unlk k st' with
      | some st'' => some (p, st'')
      | none => none
    | none => none
  | none => f env st
def eLk (fa : IE) (f : IE) : IE := fun env st => match lkOf fa env st with
  | some (k, ks) => match f env (st.set k (.dcf ks)) with
    | .ok d st' => match unlk k st' with
      | some st'' => .ok d st''
      | none => .no
    | .ex e st' => .ex e st'
    | .no => .no
  | none => f env st
section
variable {X : Cx} {cl : String → Addr} {W : WX} {st0 : Stmt} {e : Expr} {fa fe : IE} {f : IS}
theorem lk_in {env : Lv} {st : Stt} {k : Nat} {ks : List (Key × D)} (h : lkOf fa env st = some (k, ks)) : st[k]? = some (.dct ks) := by
  unfold lkOf at h
  split at h
  · split at h
    · rename_i q
      cases h
      exact q
    · cases h
  · cases h
theorem lock_ext {H : Hp} {r : List Addr} {a : Addr} {k : Nat} {od : Obj} {vs : List (Key × V)} (ea : r[k]? = some a) (h : H a = some (.dK vs)) : Ext H r (upd H a (.frz od (.dK vs))) r := Ext.write ea h trivial
/-- the lock is taken off again -/
theorem unlock_ext {K : PySem.W.Frag} {H H' : Hp} {r r' : List Addr} {a : Addr} {k : Nat} {od : Obj} {vs : List (Key × V)} (ea : r[k]? = some a) (h : H a = some (.dK vs)) (x : Ext (upd H a (.frz od (.dK vs))) r H' r') :
    Ext H r (upd H' a (.dK vs)) r' := by
  have y := (lock_ext (od := od) ea h).trans x
  refine ⟨y.pre, y.fresh, fun b o e hb => ?_, fun b o xs e => ?_, fun b o xs e => ?_, fun b o xs e => ?_⟩
  · rw [upd_ne fun z => hb (by rw [z]; exact mem_of_get ea)]; exact y.keep b o e hb
  · rw [upd_ne fun z => by rw [z, h] at e; cases e]; exact y.tups b o xs e
  · rw [upd_ne fun z => by rw [z, h] at e; cases e]; exact y.frzs b o xs e
  · rw [upd_ne fun z => by rw [z, h] at e; cases e]; exact y.frzk b o xs e
theorem unlock_sub {H' : Hp} {r' : List Addr} {a : Addr} {od : Obj} {vs : List (Key × V)} (hz : H' a = some (.frz od (.dK vs))) : Sub H' r' (upd H' a (.dK vs)) r' := by
  refine ⟨fun _ _ h => h, fun b ob xs q => ?_, fun b ob xs q => ?_⟩
  · rw [upd_ne fun z => by rw [z, hz] at q; cases q]; exact q
  · rw [upd_ne fun z => by rw [z, hz] at q; cases q]; exact q
theorem unlock_st {K : PySem.W.Frag} {H' : Hp} {r' : List Addr} {a : Addr} {k : Nat} {od : Obj} {vs : List (Key × V)} {st' st'' : Stt} (ea : r'[k]? = some a) (s : RSt K H' r' cl st') (hz : H' a = some (.frz od (.dK vs))) (e : unlk k st' = some st'') :
    RSt K (upd H' a (.dK vs)) r' cl st'' := by
  unfold unlk at e
  split at e
  · rename_i ks q
    cases e
    obtain ⟨o', vs', u1, u2⟩ := s.obj k a _ ea q
    rw [hz] at u1
    cases u1
    have sb := unlock_sub (r' := r') hz
    refine ⟨by simp [s.len], s.nd, fun j b ob e1 e2 => ?_⟩
    by_cases hj : k = j
    · subst hj
      rw [ea] at e1
      cases e1
      have hk : k < st'.length := by rw [← s.len]; exact (List.getElem?_eq_some_iff.mp ea).1
      rw [List.getElem?_set_self hk] at e2
      cases e2
      exact ⟨vs, upd_same, u2.monoS sb⟩
    · rw [List.getElem?_set_ne hj] at e2
      exact (s.obj j b ob e1 e2).monoS sb (upd_ne fun z => hj (nd_get s.nd ea (z ▸ e1)))
  · cases e
theorem s_lk (h : PS X st0 (RSs X.K cl W f)) : PS X st0 (RSs X.K cl W (sLk fa f)) := by
  refine ⟨fun pins s σ H D I hw => ?_⟩
  obtain ⟨r, env, st, n, p, st', e, q⟩ := hw
  unfold sLk at e
  cases q0 : lkOf fa env st with
  | none => rw [q0] at e; exact h.run pins s σ H D I ⟨r, env, st, n, p, st', e, q⟩
  | some kk =>
    obtain ⟨k, ks⟩ := kk
    rw [q0] at e
    simp only at e
    obtain ⟨a, ea, vs, u1, u2⟩ := n.st.addr (lk_in q0)
    refine (ps_lock h).run pins s σ H D I ⟨a, .dK vs, u1, trivial, fun od => ?_⟩
    have x0 := lock_ext (od := od) ea u1
    have s0 := n.st.write ea u1 trivial (o := .dcf ks) (u := .frz od (.dK vs)) ⟨od, vs, upd_same, u2.mono x0⟩
    cases q1 : f env (st.set k (.dcf ks)) with
    | none => rw [q1] at e; cases e
    | some pp =>
      obtain ⟨⟨env', fl⟩, st1⟩ := pp
      rw [q1] at e
      refine ⟨r, env, _, ⟨n.env.mono x0, s0⟩, _, _, q1, fun H1 r1 x1 s1 σ1 he => ?_⟩
      have hz := x1.frzk a od vs upd_same
      have ea1 := x1.pre k a ea
      cases fl with
      | ex z =>
        cases e
        exact fun cls d rx => q H1 r1 (x0.trans x1) s1 σ1 he cls d rx
      | nx =>
        simp only at e
        cases q2 : unlk k st1 with
        | none => rw [q2] at e; cases e
        | some st2 =>
          rw [q2] at e; cases e
          exact ⟨hz, q _ r1 (unlock_ext (K := X.K) ea u1 x1) (unlock_st ea1 s1 hz q2) σ1 (he.monoS (unlock_sub hz))⟩
      | bk =>
        simp only at e
        cases q2 : unlk k st1 with
        | none => rw [q2] at e; cases e
        | some st2 =>
          rw [q2] at e; cases e
          exact ⟨hz, q _ r1 (unlock_ext (K := X.K) ea u1 x1) (unlock_st ea1 s1 hz q2) σ1 (he.monoS (unlock_sub hz))⟩
      | ct =>
        simp only at e
        cases q2 : unlk k st1 with
        | none => rw [q2] at e; cases e
        | some st2 =>
          rw [q2] at e; cases e
          exact ⟨hz, q _ r1 (unlock_ext (K := X.K) ea u1 x1) (unlock_st ea1 s1 hz q2) σ1 (he.monoS (unlock_sub hz))⟩
      | rt d =>
        simp only at e
        cases q2 : unlk k st1 with
        | none => rw [q2] at e; cases e
        | some st2 =>
          rw [q2] at e; cases e
          intro v hv
          exact ⟨hz, q _ r1 (unlock_ext (K := X.K) ea u1 x1) (unlock_st ea1 s1 hz q2) σ1 (he.monoS (unlock_sub hz)) v (hv.monoS (unlock_sub hz))⟩
theorem i_lk (h : PE X e (RE X.K cl W fe)) : PE X e (RE X.K cl W (eLk fa fe)) := by
  refine ⟨fun pins s σ H Q I hw => ?_⟩
  obtain ⟨r, env, st, n, w⟩ := hw
  unfold eLk at w
  cases q0 : lkOf fa env st with
  | none => rw [q0] at w; exact h.run pins s σ H Q I ⟨r, env, st, n, w⟩
  | some kk =>
    obtain ⟨k, ks⟩ := kk
    rw [q0] at w
    simp only at w
    obtain ⟨a, ea, vs, u1, u2⟩ := n.st.addr (lk_in q0)
    refine (pe_lock h).run pins s σ H Q I ⟨a, .dK vs, u1, trivial, fun od => ?_⟩
    have x0 := lock_ext (od := od) ea u1
    have s0 := n.st.write ea u1 trivial (o := .dcf ks) (u := .frz od (.dK vs)) ⟨od, vs, upd_same, u2.mono x0⟩
    refine ⟨r, env, _, ⟨n.env.mono x0, s0⟩, ?_⟩
    cases q1 : fe env (st.set k (.dcf ks)) with
    | no => rw [q1] at w; exact w.elim
    | ex z st1 =>
      rw [q1] at w
      exact fun H1 r1 cls d x1 s1 rx => w H1 r1 cls d (x0.trans x1) s1 rx
    | ok d st1 =>
      rw [q1] at w
      simp only at w
      cases q2 : unlk k st1 with
      | none => rw [q2] at w; exact w.elim
      | some st2 =>
        rw [q2] at w
        intro H1 r1 x1 s1 v hv
        have hz := x1.frzk a od vs upd_same
        have ea1 := x1.pre k a ea
        exact ⟨hz, w _ r1 (unlock_ext (K := X.K) ea u1 x1) (unlock_st ea1 s1 hz q2) v (hv.monoS (unlock_sub hz))⟩
end
end Iv
namespace Iv
open PySem L2
theorem sw_trueD {kx vx : Expr} {gs : List Comprehension} {scope : Scope} {pos py : Pos} {y : Str} {l : Nat} {env : Env} (hk : env.scope.kind = .function) (hy : env.scope.names.lookup y = some .local) (hl : (py.line == pos.line) = true)
    (ha : (scope.names.any fun (n, k) => n == y && (k == .local || k == .cell)) = false) : swapsWith (.DictComp kx vx gs scope pos) (some (.Name y py)) l env = pure true := by
  have ky : env.kindOf y = some .local := hy
  have hb : env.blockKind = .function := by unfold Env.blockKind; rw [hk]; rfl
  unfold swapsWith
  simp only [hb, ky, ha, Expr.pos, hl]
  rfl
end Iv
/-! ### a list taken apart -/
namespace Iv
open PySem L2
def sTgL (ts : List Tg) (fa : IE) : IS := sE fa fun d env st => match d with
  | .obj k => match st[k]? with
    | some (.lst ds) => if ts.length = ds.length then (match putAll ts ds env with
      | some env' => some ((env', .nx), st)
      | none => none) else none
    | _ => none
  | _ => none
section
variable {X : Cx} {cl : String → Addr} {W : WX} {e : Expr} {es : List Expr} {fa : IE} {ts : List Tg} {pos tpos : Pos} {k m : Nat}
theorem s_tgL (hc : X.calm = true) (he : PE X e (RE X.K cl W fa)) (h : PGs X es (RGs X.K cl ts)) (hm : ts.length = m := by rfl) (hn : (assignEach es X.env).length = m := by rfl) (hst : (assignEach es X.env).findIdx? (·.1) = none := by rfl)
    (hs : swapsWithSole [.Tuple es k tpos] e pos.line X.env = pure false := by rfl) (hw : swappedStores [.Tuple es k tpos] e X.env = pure none := by rfl)
    (h1 : (assignEach [.Tuple es k tpos] X.env).map (·.2) = [assign (.Tuple es k tpos) X.env] := by rfl) : PS X (.Assign [.Tuple es k tpos] e pos) (RSs X.K cl W (sTgL ts fa)) := by
  refine ps_imp (ps_asg he (pg_unl hc h hn hst) hs hw h1) fun D σ H ⟨r, env, st, n, w⟩ => ?_
  refine ⟨r, env, st, n, (sE_in n w).mono fun d st1 H1 r1 x1 s1 w1 v hd => ?_⟩
  obtain ⟨p, st', e, q⟩ := w1
  cases d with
  | obj j =>
    obtain ⟨a, ea, rfl⟩ := hd
    simp only at e
    split at e
    · rename_i ds q0
      obtain ⟨vs, u1, u2⟩ := s1.obj j a _ ea q0
      split at e
      · rename_i hl
        cases q1 : putAll ts ds env with
        | none => rw [q1] at e; cases e
        | some env' =>
          rw [q1] at e
          cases e
          exact ⟨a, vs, rfl, SqL.of u1, by rw [u2.length, ← hl, hm], r1, env, st1, ds, env', n.to x1 s1, u2, hl, q1, fun σ' o he => q H1 r1 (Ext.refl H1 r1) s1 σ' he⟩
      · cases e
    · cases e
  | _ => cases e
end
end Iv

namespace Iv
open PySem L2
theorem rds_ints {K : PySem.W.Frag} {H : Hp} {r : List Addr} : ∀ ns : List Int, RDs K H r (ns.map D.int) (ns.map V.int)
  | [] => rfl
  | n :: ns => ⟨_, _, rfl, rfl, rds_ints ns⟩
theorem sp_law {K : PySem.W.Frag} {cl : String → Addr} {F : Fn} {H : Hp} {a : Addr} {ns : List Int} (ho : Only H) (hs : SqL K H a (ns.map V.int)) (m : ∃ st, F [.cl (ns.map D.int)] [] = .ok (.bl true) st) :
    spI K cl 1 F [.ref a] H (fun v _ => v = .bl true) fun _ _ _ => False := by
  obtain ⟨st, e⟩ := m
  refine ⟨rfl, [], [], [.cl (ns.map D.int)], ⟨rfl, List.nodup_nil, fun k a o e1 _ => by cases e1⟩, ⟨_, _, rfl, ⟨a, _, rfl, ?_, rds_ints ns⟩, rfl⟩, ?_⟩
  · rcases hs with h | h
    · rcases h with h | ⟨o, h⟩
      · rcases ho a with z | ⟨o, xs, z⟩
        · rw [h] at z; cases z
        · rw [h] at z; cases z
      · exact .inl ⟨o, h⟩
    · exact .inr h
  · rw [e]
    intro v H' r' x s h
    exact h
theorem law_end {l : PySem.W.OpenLaw} {k : Nat} {q : Program} {loose : List Str} {XP : (Str → Option Value) → Heap → Prop} {YP : World → Heap → Prop} {d : DefRec} {K : Params → PySem.W.Frag} {cl : String → Addr} {F : Fn}
    (hn : l.most = some 63) (hdf : d.params.defaults = []) (hr : Room k callerA) (hY : ∀ (w : World) (h : Heap), YP w h → (K w.params).In h)
    (Fk : ∀ (w : World) (mg : Str → Option Value) (fa : Addr) (h : Heap), (K w.params).In h → h.Ns mainGlobals mg → mg d.name = some (.ref fa) →
      ∃ fd : FuncData, (∀ (s : Shared) (u : Value), BindsTo s fd ⟨[u], []⟩ [("script", u)]) ∧
        ∀ base : Heap, (K w.params).In base → base.Ns mainGlobals mg → FnOk l.prog w (K w.params) mg base (L2.CX l.prog w) k fa fd ["script"] (spI (K w.params) cl 1 F))
    (m : ∀ ns : List Int, ns.length ≤ 63 → (∀ z ∈ ns, Builtin.Int.intBits z ≤ 1048576) → ∃ st, F [.cl (ns.map D.int)] [] = .ok (.bl true) st) :
    PySem.W.WalkO q loose XP YP l.row.toRowW d [] (fun f vs => PySem.call f vs) :=
  L2.walk_ofB (n := 63) (k := k) (x := "script") (CX := fun w => L2.CX l.prog w) (sp := fun w => spI (K w.params) cl 1 F) hn (by decide) hdf hr hY Fk (fun _ H a ns hl hb ho hS => sp_law ho hS (m ns hl hb))
    fun w H s e s' ⟨_, _, _, _, _, _, _, _, _, _, _, _, z⟩ => z
end Iv

namespace Iv
open PySem L2

/-! ### what a result is good for -/
def Res.W {α : Type} (r : Res α) (Q : α → Stt → Prop) : Prop := ∃ a s, r = .ok a s ∧ Q a s
def oW {α : Type} (o : Option (α × Stt)) (Q : α → Stt → Prop) : Prop := ∃ a s, o = some (a, s) ∧ Q a s
def sW (o : Option ((Lv × Fl) × Stt)) (Q : Lv → Fl → Stt → Prop) : Prop := ∃ env fl s, o = some ((env, fl), s) ∧ (∀ e, fl ≠ .ex e) ∧ Q env fl s
theorem Res.W.mono {α : Type} {r : Res α} {Q Q' : α → Stt → Prop} (h : r.W Q) (m : ∀ a s, Q a s → Q' a s) : r.W Q' := by
  obtain ⟨a, s, e, q⟩ := h
  exact ⟨a, s, e, m a s q⟩
theorem sW.mono {o : Option ((Lv × Fl) × Stt)} {Q Q' : Lv → Fl → Stt → Prop} (h : sW o Q) (m : ∀ env fl s, Q env fl s → Q' env fl s) : sW o Q' := by
  obtain ⟨a, f, s, e, n, q⟩ := h
  exact ⟨a, f, s, e, n, m a f s q⟩
@[simp] theorem W_ok {α : Type} {a : α} {s : Stt} {Q : α → Stt → Prop} : (Res.ok a s).W Q ↔ Q a s := by
  constructor
  · rintro ⟨b, t, e, q⟩
    cases e
    exact q
  · exact fun q => ⟨a, s, rfl, q⟩
@[simp] theorem W_no {α : Type} {Q : α → Stt → Prop} : (Res.no : Res α).W Q ↔ False := by
  constructor
  · rintro ⟨b, t, e, q⟩
    cases e
  · exact False.elim
@[simp] theorem W_ex {α : Type} {x : Exn} {s : Stt} {Q : α → Stt → Prop} : (Res.ex x s : Res α).W Q ↔ False := by
  constructor
  · rintro ⟨b, t, e, q⟩
    cases e
  · exact False.elim
@[simp] theorem W_bind {α β : Type} {r : Res α} {f : α → Stt → Res β} {Q : β → Stt → Prop} : (r.bind f).W Q ↔ r.W fun a s => (f a s).W Q := by
  cases r <;> simp [Res.bind]
@[simp] theorem W_ofO {α : Type} {o : Option (α × Stt)} {Q : α → Stt → Prop} : (ofO o).W Q ↔ oW o Q := by
  cases o with
  | none => simp [ofO, oW]
  | some p => exact ⟨fun ⟨a, s, e, q⟩ => ⟨a, s, by obtain ⟨b, t⟩ := p; cases e; rfl, q⟩, fun ⟨a, s, e, q⟩ => ⟨a, s, by cases e; rfl, q⟩⟩
@[simp] theorem oW_some {α : Type} {p : α × Stt} {Q : α → Stt → Prop} : oW (some p) Q ↔ Q p.1 p.2 := by
  constructor
  · rintro ⟨b, t, e, q⟩
    cases e
    exact q
  · exact fun q => ⟨p.1, p.2, rfl, q⟩
@[simp] theorem oW_none {α : Type} {Q : α → Stt → Prop} : oW (none : Option (α × Stt)) Q ↔ False := by
  constructor
  · rintro ⟨b, t, e, q⟩
    cases e
  · exact False.elim
@[simp] theorem sW_nx {env : Lv} {s : Stt} {Q : Lv → Fl → Stt → Prop} : sW (some ((env, .nx), s)) Q ↔ Q env .nx s := by
  constructor
  · rintro ⟨a, f, t, e, n, q⟩
    cases e
    exact q
  · exact fun q => ⟨env, .nx, s, rfl, (fun _ h => nomatch h), q⟩
@[simp] theorem sW_rt {env : Lv} {s : Stt} {d : D} {Q : Lv → Fl → Stt → Prop} : sW (some ((env, .rt d), s)) Q ↔ Q env (.rt d) s := by
  constructor
  · rintro ⟨a, f, t, e, n, q⟩
    cases e
    exact q
  · exact fun q => ⟨env, .rt d, s, rfl, (fun _ h => nomatch h), q⟩
@[simp] theorem sW_bk {env : Lv} {s : Stt} {Q : Lv → Fl → Stt → Prop} : sW (some ((env, .bk), s)) Q ↔ Q env .bk s := by
  constructor
  · rintro ⟨a, f, t, e, n, q⟩
    cases e
    exact q
  · exact fun q => ⟨env, .bk, s, rfl, (fun _ h => nomatch h), q⟩
@[simp] theorem sW_ct {env : Lv} {s : Stt} {Q : Lv → Fl → Stt → Prop} : sW (some ((env, .ct), s)) Q ↔ Q env .ct s := by
  constructor
  · rintro ⟨a, f, t, e, n, q⟩
    cases e
    exact q
  · exact fun q => ⟨env, .ct, s, rfl, (fun _ h => nomatch h), q⟩
@[simp] theorem sW_none {Q : Lv → Fl → Stt → Prop} : sW none Q ↔ False := by
  constructor
  · rintro ⟨a, f, t, e, n, q⟩
    cases e
  · exact False.elim
@[simp] theorem sW_sE {fa : IE} {k : D → IS} {env : Lv} {st : Stt} {Q : Lv → Fl → Stt → Prop} : sW (sE fa k env st) Q ↔ (fa env st).W fun d st1 => sW (k d env st1) Q := by
  unfold sE
  cases fa env st with
  | ok d s => simp
  | ex e s =>
    simp only [W_ex, iff_false]
    rintro ⟨a, f, t, z, n, q⟩
    cases z
    exact n e rfl
  | no => simp
@[simp] theorem sW_sT {ft : IT} {f g : IS} {env : Lv} {st : Stt} {Q : Lv → Fl → Stt → Prop} : sW (sT ft f g env st) Q ↔ (ft env st).W fun b st1 => if b = true then sW (f env st1) Q else sW (g env st1) Q := by
  unfold sT
  cases ft env st with
  | ok d s => cases d <;> simp
  | ex e s =>
    simp only [W_ex, iff_false]
    rintro ⟨a, f, t, z, n, q⟩
    cases z
    exact n e rfl
  | no => simp
/-- behind a statement -/
def sN (g : IS) (Q : Lv → Fl → Stt → Prop) (env : Lv) (fl : Fl) (st : Stt) : Prop := match fl with
  | .nx => sW (g env st) Q
  | fl => Q env fl st
@[simp] theorem sN_nx {g : IS} {Q : Lv → Fl → Stt → Prop} {env : Lv} {st : Stt} : sN g Q env .nx st ↔ sW (g env st) Q := Iff.rfl
@[simp] theorem sN_rt {g : IS} {Q : Lv → Fl → Stt → Prop} {env : Lv} {st : Stt} {d : D} : sN g Q env (.rt d) st ↔ Q env (.rt d) st := Iff.rfl
@[simp] theorem sN_bk {g : IS} {Q : Lv → Fl → Stt → Prop} {env : Lv} {st : Stt} : sN g Q env .bk st ↔ Q env .bk st := Iff.rfl
@[simp] theorem sN_ct {g : IS} {Q : Lv → Fl → Stt → Prop} {env : Lv} {st : Stt} : sN g Q env .ct st ↔ Q env .ct st := Iff.rfl
@[simp] theorem sW_seq {f g : IS} {env : Lv} {st : Stt} {Q : Lv → Fl → Stt → Prop} : sW (sSeq f g env st) Q ↔ sW (f env st) (sN g Q) := by
  unfold sSeq
  cases h : f env st with
  | none => simp
  | some p =>
    obtain ⟨⟨e, fl⟩, s⟩ := p
    cases fl with
    | ex x =>
      constructor
      · rintro ⟨a, f, t, z, n, q⟩
        cases z
        exact (n x rfl).elim
      · rintro ⟨a, f, t, z, n, q⟩
        cases z
        exact (n x rfl).elim
    | _ => simp
@[simp] theorem w_var {i : Nat} {env : Lv} {st : Stt} {Q : D → Stt → Prop} : (eVar i env st).W Q ↔ ∃ d, env[i]? = some (some d) ∧ Q d st := by
  unfold eVar
  split
  · rename_i d h
    simp [h]
  · rename_i h
    simp only [W_no, false_iff]
    rintro ⟨d, e, _⟩
    exact h d e
@[simp] theorem w_c {d : D} {env : Lv} {st : Stt} : eC d env st = .ok d st := rfl
@[simp] theorem w_op {g : P2} {fa fb : IE} {env : Lv} {st : Stt} : eOp g fa fb env st = (fa env st).bind fun x st1 => (fb env st1).bind fun y st2 => ofO (g x y st2) := rfl
@[simp] theorem w_un {g : P1} {fa : IE} {env : Lv} {st : Stt} : eUn g fa env st = (fa env st).bind fun x st1 => ofO (g x st1) := rfl
@[simp] theorem w_if {ft : IT} {fa fb : IE} {env : Lv} {st : Stt} {Q : D → Stt → Prop} : (eIf ft fa fb env st).W Q ↔ (ft env st).W fun b st1 => if b = true then (fa env st1).W Q else (fb env st1).W Q := by
  unfold eIf
  rw [W_bind]
  constructor <;>
  · intro h
    refine h.mono fun a s q => ?_
    cases a <;> simpa using q
@[simp] theorem w_anil {env : Lv} {st : Stt} : aNil env st = .ok [] st := rfl
@[simp] theorem w_acons {fa : IE} {fr : IA} {env : Lv} {st : Stt} : aCons fa fr env st = (fa env st).bind fun x st1 => (fr env st1).bind fun xs st2 => .ok (x :: xs) st2 := rfl
theorem W_ite {α : Type} {c : Prop} [Decidable c] {x y : Res α} {Q : α → Stt → Prop} : (if c then x else y).W Q ↔ if c then x.W Q else y.W Q := by
  split <;> rfl
@[simp] theorem w_tup {fa : IA} {env : Lv} {st : Stt} {Q : D → Stt → Prop} : (eTup fa env st).W Q ↔ (fa env st).W fun xs st1 => xs.length ≤ 100000 ∧ Q (.tup xs) st1 := by
  unfold eTup
  rw [W_bind]
  constructor <;>
  · intro h
    refine h.mono fun a s q => ?_
    by_cases hl : a.length ≤ 100000 <;> simpa [hl] using q
@[simp] theorem w_lst {fa : IA} {env : Lv} {st : Stt} {Q : D → Stt → Prop} : (eLst fa env st).W Q ↔ (fa env st).W fun xs st1 => xs.length ≤ 100000 ∧ Q (.obj st1.length) (st1 ++ [.lst xs]) := by
  unfold eLst
  rw [W_bind]
  constructor <;>
  · intro h
    refine h.mono fun a s q => ?_
    by_cases hl : a.length ≤ 100000 <;> simpa [hl] using q
@[simp] theorem w_cb {g : PN} {fa : IA} {env : Lv} {st : Stt} : eCB g fa env st = (fa env st).bind fun xs st1 => ofO (g xs st1) := rfl
@[simp] theorem w_m {T : String} {g : D → PN} {fo : IE} {fa : IA} {env : Lv} {st : Stt} {Q : D → Stt → Prop} : (eM T g fo fa env st).W Q ↔ (fo env st).W fun x st1 => isTy T x st1 = true ∧ (fa env st1).W fun xs st2 => oW (g x xs st2) Q := by
  unfold eM
  rw [W_bind]
  constructor <;>
  · intro h
    refine h.mono fun a s q => ?_
    by_cases hl : isTy T a s = true <;> simpa [hl] using q
@[simp] theorem w_call {n : Nat} {F : Fn} {fa : IA} {env : Lv} {st : Stt} {Q : D → Stt → Prop} : (eCall n F fa env st).W Q ↔ (fa env st).W fun xs st1 => xs.length = n ∧ (F xs st1).W Q := by
  unfold eCall
  rw [W_bind]
  constructor <;>
  · intro h
    refine h.mono fun a s q => ?_
    by_cases hl : a.length = n <;> simpa [hl] using q
@[simp] theorem w_truth {fa : IE} {env : Lv} {st : Stt} {Q : Bool → Stt → Prop} : (tTruth fa env st).W Q ↔ (fa env st).W fun x st1 => ∃ b, gTruth x st1 = some b ∧ Q b st1 := by
  unfold tTruth
  rw [W_bind]
  constructor <;>
  · intro h
    refine h.mono fun a s q => ?_
    cases e : gTruth a s <;> simp [e] at q ⊢
    try exact q
@[simp] theorem w_bool {fa : IE} {env : Lv} {st : Stt} {Q : Bool → Stt → Prop} : (tBool fa env st).W Q ↔ (fa env st).W fun x st1 => ∃ b, x = .bl b ∧ Q b st1 := by
  unfold tBool
  rw [W_bind]
  constructor <;>
  · intro h
    refine h.mono fun a s q => ?_
    cases a <;> simp at q ⊢
    try exact q
@[simp] theorem w_and {ft fu : IT} {env : Lv} {st : Stt} {Q : Bool → Stt → Prop} : (tAndI ft fu env st).W Q ↔ (ft env st).W fun b st1 => if b = true then (fu env st1).W Q else Q false st1 := by
  unfold tAndI
  rw [W_bind]
  constructor <;>
  · intro h
    refine h.mono fun a s q => ?_
    cases a <;> simpa using q
@[simp] theorem w_or {ft fu : IT} {env : Lv} {st : Stt} {Q : Bool → Stt → Prop} : (tOrI ft fu env st).W Q ↔ (ft env st).W fun b st1 => if b = true then Q true st1 else (fu env st1).W Q := by
  unfold tOrI
  rw [W_bind]
  constructor <;>
  · intro h
    refine h.mono fun a s q => ?_
    cases a <;> simpa using q
@[simp] theorem w_not {ft : IT} {env : Lv} {st : Stt} {Q : Bool → Stt → Prop} : (tNotI ft env st).W Q ↔ (ft env st).W fun b st1 => Q (!b) st1 := by
  unfold tNotI
  rw [W_bind]
  simp
@[simp] theorem w_sl {fa : IE} {fl fh : IO'} {env : Lv} {st : Stt} : eSl fa fl fh env st = (fa env st).bind fun x st1 => (fl env st1).bind fun l st2 => (fh env st2).bind fun h st3 => ofO (gSl x l h st3) := rfl
@[simp] theorem w_onone {env : Lv} {st : Stt} : oNone env st = .ok none st := rfl
@[simp] theorem w_osome {fa : IE} {env : Lv} {st : Stt} {Q : Option Int → Stt → Prop} : (oSome fa env st).W Q ↔ (fa env st).W fun x st1 => ∃ i, x = .int i ∧ Q (some i) st1 := by
  unfold oSome
  rw [W_bind]
  constructor <;>
  · intro h
    refine h.mono fun a s q => ?_
    cases a <;> simp at q ⊢
    try exact q
@[simp] theorem w_snx {env : Lv} {st : Stt} : sNx env st = some ((env, .nx), st) := rfl
@[simp] theorem w_sbk {env : Lv} {st : Stt} : sBk env st = some ((env, .bk), st) := rfl
@[simp] theorem w_sct {env : Lv} {st : Stt} : sCt env st = some ((env, .ct), st) := rfl
@[simp] theorem w_sret {fa : IE} {env : Lv} {st : Stt} {Q : Lv → Fl → Stt → Prop} : sW (sRet fa env st) Q ↔ (fa env st).W fun d st1 => Q env (.rt d) st1 := by
  unfold sRet
  simp
@[simp] theorem w_sretN {env : Lv} {st : Stt} : sRetN env st = some ((env, .rt .non), st) := rfl
@[simp] theorem w_sdrop {fa : IE} {env : Lv} {st : Stt} {Q : Lv → Fl → Stt → Prop} : sW (sDrop fa env st) Q ↔ (fa env st).W fun d st1 => Q env .nx st1 := by
  unfold sDrop
  simp
@[simp] theorem w_sset {i : Nat} {fa : IE} {env : Lv} {st : Stt} {Q : Lv → Fl → Stt → Prop} : sW (sSet i fa env st) Q ↔ (fa env st).W fun d st1 => Q (env.set i (some d)) .nx st1 := by
  unfold sSet
  simp
@[simp] theorem w_stg {t : Tg} {fa : IE} {env : Lv} {st : Stt} {Q : Lv → Fl → Stt → Prop} : sW (sTg t fa env st) Q ↔ (fa env st).W fun d st1 => ∃ env', t.put d env = some env' ∧ Q env' .nx st1 := by
  unfold sTg
  rw [sW_sE]
  constructor <;>
  · intro h
    refine h.mono fun a s q => ?_
    cases e : t.put a env <;> simp [e] at q ⊢
    try exact q
@[simp] theorem w_spar {i j : Nat} {fa : IA} {env : Lv} {st : Stt} {Q : Lv → Fl → Stt → Prop} : sW (sPar i j fa env st) Q ↔ (fa env st).W fun xs st1 => ∃ x y, xs = [x, y] ∧ Q ((env.set i (some x)).set j (some y)) .nx st1 := by
  unfold sPar
  cases fa env st with
  | ok xs s =>
    match xs with
    | [] => simp
    | [x] => simp
    | [x, y] =>
      simp only [W_ok, sW_nx]
      exact ⟨fun q => ⟨x, y, rfl, q⟩, fun ⟨_, _, e, q⟩ => by cases e; exact q⟩
    | x :: y :: z :: zs => simp
  | ex e s =>
    simp only [W_ex, iff_false]
    rintro ⟨a, f, t, z, n, q⟩
    cases z
    exact n e rfl
  | no => simp
@[simp] theorem w_ssub {fo fi fv : IE} {env : Lv} {st : Stt} {Q : Lv → Fl → Stt → Prop} : sW (sSub fo fi fv env st) Q ↔ (fv env st).W fun v st1 => (fo env st1).W fun o st2 => (fi env st2).W fun i st3 => ∃ st4, gSet o i v st3 = some st4 ∧ Q env .nx st4 := by
  unfold sSub
  rw [sW_sE]
  constructor <;>
  · intro h
    refine h.mono fun v s q => ?_
    first | rw [sW_sE] at q | rw [sW_sE]
    refine q.mono fun o s2 q => ?_
    first | rw [sW_sE] at q | rw [sW_sE]
    refine q.mono fun i s3 q => ?_
    cases e : gSet o i v s3 <;> simp [e] at q ⊢
    try exact q
/-- a def's result -/
theorem w_fn {n N : Nat} {b : IS} {ds : List D} {st : Stt} {Q : D → Stt → Prop} (hl : ds.length = n)
    (h : sW (b (ds.map some ++ List.replicate (N - n) none) st) fun env fl st' => match fl with
      | .rt d => Q d st'
      | .nx => Q .non st'
      | _ => False) : (fnB n N b ds st).W Q := by
  unfold fnB
  rw [if_pos hl]
  obtain ⟨env, fl, st', e, n, q⟩ := h
  rw [e]
  cases fl with
  | nx => exact ⟨_, _, rfl, q⟩
  | rt d => exact ⟨_, _, rfl, q⟩
  | bk => exact q.elim
  | ct => exact q.elim
  | ex x => exact q.elim
/-- .. with what it has made forgotten -/
theorem w_cut {F : Fn} {ds : List D} {st : Stt} {Q : D → Stt → Prop} (h : (F ds st).W fun d st' => d.flat = true ∧ (∃ c, st' = st ++ c) ∧ Q d st) : (cutFn F ds st).W Q := by
  obtain ⟨d, st', e, f, ⟨c, rfl⟩, q⟩ := h
  unfold cutFn
  rw [e]
  simp only [f, begins_app, Bool.and_self, if_true]
  exact ⟨_, _, rfl, q⟩
end Iv

namespace Iv
open PySem L2

/-! ### loops by invariants -/
/-- behind a turn -/
def fB (Nx : Lv → Stt → Prop) (Q : Lv → Fl → Stt → Prop) (env : Lv) (fl : Fl) (st : Stt) : Prop := match fl with
  | .nx => Nx env st
  | .ct => Nx env st
  | .bk => Q env .nx st
  | .rt d => Q env (.rt d) st
  | .ex _ => False
@[simp] theorem fB_nx {Nx : Lv → Stt → Prop} {Q : Lv → Fl → Stt → Prop} {env : Lv} {st : Stt} : fB Nx Q env .nx st ↔ Nx env st := Iff.rfl
@[simp] theorem fB_ct {Nx : Lv → Stt → Prop} {Q : Lv → Fl → Stt → Prop} {env : Lv} {st : Stt} : fB Nx Q env .ct st ↔ Nx env st := Iff.rfl
@[simp] theorem fB_bk {Nx : Lv → Stt → Prop} {Q : Lv → Fl → Stt → Prop} {env : Lv} {st : Stt} : fB Nx Q env .bk st ↔ Q env .nx st := Iff.rfl
@[simp] theorem fB_rt {Nx : Lv → Stt → Prop} {Q : Lv → Fl → Stt → Prop} {env : Lv} {st : Stt} {d : D} : fB Nx Q env (.rt d) st ↔ Q env (.rt d) st := Iff.rfl
theorem forN_gen {src : Src} {t : Tg} {fb : IS} {Q : Lv → Fl → Stt → Prop} (n : Nat) (x : Nat → D) (I : Nat → Lv → Stt → Prop)
    (hsrc : ∀ i env st, I i env st → src i st = some (if i < n then some (x i) else none))
    (step : ∀ i env st, i < n → I i env st → ∃ env1, t.put (x i) env = some env1 ∧ sW (fb env1 st) (fB (I (i + 1)) Q))
    (fin : ∀ env st, I n env st → Q env .nx st) : ∀ (m i : Nat) (env : Lv) (st : Stt), i ≤ n → n ≤ i + m → I i env st → sW (sForN src t fb m i env st) Q
  | 0, i, env, st, h1, h2, h => by
    have e : i = n := by omega
    subst e
    unfold sForN
    rw [hsrc i env st h, if_neg (Nat.lt_irrefl _)]
    simpa using fin env st h
  | m + 1, i, env, st, h1, h2, h => by
    unfold sForN
    rw [hsrc i env st h]
    by_cases hi : i < n
    · rw [if_pos hi]
      obtain ⟨env1, e1, w⟩ := step i env st hi h
      simp only [e1]
      obtain ⟨env2, fl, st2, e2, nx, q⟩ := w
      rw [e2]
      cases fl with
      | nx => exact forN_gen n x I hsrc step fin m (i + 1) env2 st2 (by omega) (by omega) q
      | ct => exact forN_gen n x I hsrc step fin m (i + 1) env2 st2 (by omega) (by omega) q
      | bk => simpa using q
      | rt d => simpa using q
      | ex e => exact q.elim
    · rw [if_neg hi]
      have e : i = n := by omega
      subst e
      simpa using fin env st h
@[simp] theorem sW_for {fi : II} {t : Tg} {fb : IS} {env : Lv} {st : Stt} {Q : Lv → Fl → Stt → Prop} : sW (sFor fi t fb env st) Q ↔ (fi env st).W fun src st1 => sW (sForN src t fb bigN 0 env st1) Q := by
  unfold sFor
  cases fi env st with
  | ok s st1 => simp
  | ex e s =>
    simp only [W_ex, iff_false]
    rintro ⟨a, f, t, z, n, q⟩
    cases z
    exact n e rfl
  | no => simp
/-- over a tuple, or what is like one -/
theorem for_tup {xs : List D} {t : Tg} {fb : IS} {env : Lv} {st : Stt} {Q : Lv → Fl → Stt → Prop} (I : Nat → Lv → Stt → Prop) (h0 : I 0 env st)
    (step : ∀ i x env st, xs[i]? = some x → I i env st → ∃ env1, t.put x env = some env1 ∧ sW (fb env1 st) (fB (I (i + 1)) Q))
    (fin : ∀ env st, I xs.length env st → Q env .nx st) (hn : xs.length ≤ 100000000) : sW (sForN (srcTup xs) t fb bigN 0 env st) Q := by
  refine forN_gen xs.length (fun i => xs.getD i .non) I (fun i env st _ => ?_) (fun i env st hi h => ?_) fin bigN 0 env st (Nat.zero_le _) (by unfold bigN; omega) h0
  · unfold srcTup
    split
    · rename_i h; rw [List.getD_eq_getElem?_getD, List.getElem?_eq_getElem h] <;> rfl
    · rename_i h; rw [List.getElem?_eq_none (by omega)]
  · refine step i _ env st ?_ h
    rw [List.getD_eq_getElem?_getD, List.getElem?_eq_getElem hi] <;> rfl
/-- over a list that stays -/
theorem for_lst {xs : List D} {k : Nat} {t : Tg} {fb : IS} {env : Lv} {st : Stt} {Q : Lv → Fl → Stt → Prop} (I : Nat → Lv → Stt → Prop) (h0 : I 0 env st) (hk : ∀ i env st, I i env st → st[k]? = some (.lst xs))
    (step : ∀ i x env st, xs[i]? = some x → I i env st → ∃ env1, t.put x env = some env1 ∧ sW (fb env1 st) (fB (I (i + 1)) Q))
    (fin : ∀ env st, I xs.length env st → Q env .nx st) (hn : xs.length ≤ 100000000) : sW (sForN (srcLst k) t fb bigN 0 env st) Q := by
  refine forN_gen xs.length (fun i => xs.getD i .non) I (fun i env st h => ?_) (fun i env st hi h => ?_) fin bigN 0 env st (Nat.zero_le _) (by unfold bigN; omega) h0
  · unfold srcLst
    rw [hk i env st h]
    show some xs[i]? = _
    split
    · rename_i h; rw [List.getD_eq_getElem?_getD, List.getElem?_eq_getElem h] <;> rfl
    · rename_i h; rw [List.getElem?_eq_none (by omega)]
  · refine step i _ env st ?_ h
    rw [List.getD_eq_getElem?_getD, List.getElem?_eq_getElem hi] <;> rfl
theorem for_rng {lo : Int} {n : Nat} {t : Tg} {fb : IS} {env : Lv} {st : Stt} {Q : Lv → Fl → Stt → Prop} (I : Nat → Lv → Stt → Prop) (h0 : I 0 env st)
    (step : ∀ i env st, i < n → I i env st → ∃ env1, t.put (.int (lo + i)) env = some env1 ∧ sW (fb env1 st) (fB (I (i + 1)) Q))
    (fin : ∀ env st, I n env st → Q env .nx st) (hn : n ≤ 100000000) : sW (sForN (srcRng lo n) t fb bigN 0 env st) Q :=
  forN_gen n (fun i => .int (lo + i)) I (fun i env st _ => rfl) step fin bigN 0 env st (Nat.zero_le _) (by unfold bigN; omega) h0
/-- while, by what is left -/
theorem while_gen {ft : IT} {fb : IS} {Q : Lv → Fl → Stt → Prop} (I : Nat → Lv → Stt → Prop)
    (step : ∀ m env st, I m env st → (ft env st).W fun b st1 => if b = true then sW (fb env st1) (fB (fun env' st' => ∃ m', m' < m ∧ I m' env' st') Q) else Q env .nx st1) :
    ∀ (f m : Nat) (env : Lv) (st : Stt), m < f → I m env st → sW (sWhN ft fb f env st) Q
  | 0, m, env, st, h, _ => by omega
  | f + 1, m, env, st, hm, h => by
    have w := step m env st h
    unfold sWhN
    rw [sW_sT]
    refine w.mono fun b st1 q => ?_
    cases b with
    | false => simpa using q
    | true =>
      rw [if_pos rfl] at q ⊢
      obtain ⟨env2, fl, st2, e, n, q⟩ := q
      rw [e]
      cases fl with
      | nx =>
        obtain ⟨m', h', i'⟩ := q
        exact while_gen I step f m' env2 st2 (by omega) i'
      | ct =>
        obtain ⟨m', h', i'⟩ := q
        exact while_gen I step f m' env2 st2 (by omega) i'
      | bk => simpa using q
      | rt d => simpa using q
      | ex x => exact q.elim

/-! ### comprehensions -/
theorem compN_gen {src : Src} {t : Tg} {tt : IT} {te : IE} {env : Lv} (n : Nat) (x : Nat → D) (I : Nat → List D → Stt → Prop)
    (hsrc : ∀ i acc st, I i acc st → src i st = some (if i < n then some (x i) else none))
    (step : ∀ i acc st, i < n → I i acc st → ∃ env1, t.put (x i) env = some env1 ∧ (tt env1 st).W fun b st1 => if b = true then (te env1 st1).W fun y st2 => acc.length < 10000000 ∧ I (i + 1) (acc ++ [y]) st2 else I (i + 1) acc st1) :
    ∀ (m i : Nat) (acc : List D) (st : Stt), i ≤ n → n ≤ i + m → I i acc st → oW (compN src t tt te env m i acc st) (I n)
  | 0, i, acc, st, h1, h2, h => by
    have e : i = n := by omega
    subst e
    unfold compN
    rw [hsrc i acc st h, if_neg (Nat.lt_irrefl _)]
    simpa using h
  | m + 1, i, acc, st, h1, h2, h => by
    unfold compN
    rw [hsrc i acc st h]
    by_cases hi : i < n
    · rw [if_pos hi]
      obtain ⟨env1, e1, w⟩ := step i acc st hi h
      simp only [e1]
      obtain ⟨b, st1, e2, q⟩ := w
      rw [e2]
      cases b with
      | false => exact compN_gen n x I hsrc step m (i + 1) acc st1 (by omega) (by omega) q
      | true =>
        rw [if_pos rfl] at q
        obtain ⟨y, st2, e3, hl, q⟩ := q
        simp only [e3, if_pos hl]
        exact compN_gen n x I hsrc step m (i + 1) (acc ++ [y]) st2 (by omega) (by omega) q
    · rw [if_neg hi]
      have e : i = n := by omega
      subst e
      simpa using h
theorem comp_tup {xs : List D} {t : Tg} {tt : IT} {te : IE} {env : Lv} {st : Stt} (I : Nat → List D → Stt → Prop) (h0 : I 0 [] st)
    (step : ∀ i x acc st, xs[i]? = some x → I i acc st → ∃ env1, t.put x env = some env1 ∧ (tt env1 st).W fun b st1 => if b = true then (te env1 st1).W fun y st2 => acc.length < 10000000 ∧ I (i + 1) (acc ++ [y]) st2 else I (i + 1) acc st1)
    (hn : xs.length ≤ 100000000) : oW (compN (srcTup xs) t tt te env bigN 0 [] st) (I xs.length) := by
  refine compN_gen xs.length (fun i => xs.getD i .non) I (fun i acc st _ => ?_) (fun i acc st hi h => ?_) bigN 0 [] st (Nat.zero_le _) (by unfold bigN; omega) h0
  · unfold srcTup
    split
    · rename_i h; rw [List.getD_eq_getElem?_getD, List.getElem?_eq_getElem h] <;> rfl
    · rename_i h; rw [List.getElem?_eq_none (by omega)]
  · refine step i _ acc st ?_ h
    rw [List.getD_eq_getElem?_getD, List.getElem?_eq_getElem hi] <;> rfl
theorem comp_lst {xs : List D} {k : Nat} {t : Tg} {tt : IT} {te : IE} {env : Lv} {st : Stt} (I : Nat → List D → Stt → Prop) (h0 : I 0 [] st) (hk : ∀ i acc st, I i acc st → st[k]? = some (.lst xs))
    (step : ∀ i x acc st, xs[i]? = some x → I i acc st → ∃ env1, t.put x env = some env1 ∧ (tt env1 st).W fun b st1 => if b = true then (te env1 st1).W fun y st2 => acc.length < 10000000 ∧ I (i + 1) (acc ++ [y]) st2 else I (i + 1) acc st1)
    (hn : xs.length ≤ 100000000) : oW (compN (srcLst k) t tt te env bigN 0 [] st) (I xs.length) := by
  refine compN_gen xs.length (fun i => xs.getD i .non) I (fun i acc st h => ?_) (fun i acc st hi h => ?_) bigN 0 [] st (Nat.zero_le _) (by unfold bigN; omega) h0
  · unfold srcLst
    rw [hk i acc st h]
    show some xs[i]? = _
    split
    · rename_i h; rw [List.getD_eq_getElem?_getD, List.getElem?_eq_getElem h] <;> rfl
    · rename_i h; rw [List.getElem?_eq_none (by omega)]
  · refine step i _ acc st ?_ h
    rw [List.getD_eq_getElem?_getD, List.getElem?_eq_getElem hi] <;> rfl
theorem comp_rng {lo : Int} {n : Nat} {t : Tg} {tt : IT} {te : IE} {env : Lv} {st : Stt} (I : Nat → List D → Stt → Prop) (h0 : I 0 [] st)
    (step : ∀ i acc st, i < n → I i acc st → ∃ env1, t.put (.int (lo + i)) env = some env1 ∧ (tt env1 st).W fun b st1 => if b = true then (te env1 st1).W fun y st2 => acc.length < 10000000 ∧ I (i + 1) (acc ++ [y]) st2 else I (i + 1) acc st1)
    (hn : n ≤ 100000000) : oW (compN (srcRng lo n) t tt te env bigN 0 [] st) (I n) :=
  compN_gen n (fun i => .int (lo + i)) I (fun i acc st _ => rfl) step bigN 0 [] st (Nat.zero_le _) (by unfold bigN; omega) h0
theorem take_succ_of {α : Type} {xs : List α} {i : Nat} {x : α} (h : xs[i]? = some x) : xs.take (i + 1) = xs.take i ++ [x] := by
  rw [List.take_succ, h]
  rfl
/-- where nothing of the store moves: filter, then map -/
theorem comp_pure {xs : List D} {t : Tg} {tt : IT} {te : IE} {env : Lv} {st : Stt} (p : D → Bool) (g : D → D)
    (step : ∀ x ∈ xs, ∃ env1, t.put x env = some env1 ∧ (tt env1 st).W fun b st1 => b = p x ∧ st1 = st ∧ (b = true → (te env1 st).W fun y st2 => y = g x ∧ st2 = st)) (hn : xs.length < 10000000) :
    compN (srcTup xs) t tt te env bigN 0 [] st = some ((xs.filter p).map g, st) := by
  have w : oW (compN (srcTup xs) t tt te env bigN 0 [] st) (fun acc st' => acc = ((xs.take xs.length).filter p).map g ∧ st' = st) := by
    refine comp_tup (fun i acc st' => acc = ((xs.take i).filter p).map g ∧ st' = st) ⟨by simp, rfl⟩ (fun i x acc st' hx h => ?_) (by omega)
    obtain ⟨rfl, rfl⟩ := h
    have hm : x ∈ xs := List.mem_of_getElem? hx
    obtain ⟨env1, e1, b, st1, e2, rfl, rfl, q⟩ := step x hm
    refine ⟨env1, e1, ?_⟩
    rw [e2]
    simp only [W_ok]
    cases hb : p x with
    | false =>
      simp only [Bool.false_eq_true, if_false]
      rw [take_succ_of hx, List.filter_append, List.filter_cons_of_neg (by simp [hb])]
      simp
    | true =>
      simp only [if_true]
      refine (q hb).mono fun y st2 ⟨hy, hs⟩ => ⟨?_, ?_, hs⟩
      · rw [List.length_map]
        have := List.length_filter_le p (xs.take i)
        have h2 : (xs.take i).length ≤ xs.length := by rw [List.length_take]; omega
        omega
      · rw [take_succ_of hx, List.filter_append, List.filter_cons_of_pos hb, hy]
        simp
  obtain ⟨acc, st', e, rfl, rfl⟩ := w
  rw [e, List.take_length]
@[simp] theorem w_lc {fi : II} {t : Tg} {tt : IT} {te : IE} {vs : List Nat} {env : Lv} {st : Stt} {Q : D → Stt → Prop} : (eLc fi t tt te vs env st).W Q ↔ (fi env st).W fun src st1 => oW (compN src t tt te (wipeL env vs) bigN 0 [] st1) fun acc st2 => Q (.obj st2.length) (st2 ++ [.lst acc]) := by
  unfold eLc
  rw [W_bind]
  constructor <;>
  · intro h
    refine h.mono fun a s q => ?_
    cases e : compN a t tt te (wipeL env vs) bigN 0 [] s with
    | none => simp [e] at q
    | some p => simpa [e] using q
theorem oW.mono {α : Type} {o : Option (α × Stt)} {Q Q' : α → Stt → Prop} (h : oW o Q) (m : ∀ a s, Q a s → Q' a s) : oW o Q' := by
  obtain ⟨a, s, e, q⟩ := h
  exact ⟨a, s, e, m a s q⟩
@[simp] theorem w_yes {env : Lv} {st : Stt} : tYesI env st = .ok true st := rfl
@[simp] theorem w_any {fa : IE} {env : Lv} {st : Stt} : iAny fa env st = (fa env st).bind fun x st1 => match x with
  | .tup xs => .ok (srcTup xs) st1
  | .cl xs => .ok (srcTup xs) st1
  | .str z => .ok (srcTup (z.cps.toList.map fun c => .str ⟨#[c]⟩)) st1
  | .obj k => match st1[k]? with
    | some (.lst _) => .ok (srcLst k) st1
    | some (.dcf _) => .ok (srcKeys k) st1
    | _ => .no
  | _ => .no := rfl
@[simp] theorem w_rng1 {fa : IA} {env : Lv} {st : Stt} {Q : Src → Stt → Prop} : (Iv.iRng1 fa env st).W Q ↔ (fa env st).W fun xs st1 => ∃ j, xs = [.int j] ∧ (-(2 ^ 62) ≤ j ∧ j < 2 ^ 62) ∧ Q (srcRng 0 j.toNat) st1 := by
  unfold Iv.iRng1
  rw [W_bind]
  constructor
  · intro h
    refine h.mono fun a s q => ?_
    split at q
    · rename_i j
      by_cases hl : -(2 ^ 62) ≤ j ∧ j < 2 ^ 62
      · rw [if_pos hl] at q
        exact ⟨j, rfl, hl, by simpa using q⟩
      · rw [if_neg hl] at q; simp at q
    · simp at q
  · intro h
    refine h.mono fun a s q => ?_
    obtain ⟨j, rfl, hl, q⟩ := q
    simp only [if_pos hl]
    simpa using q
@[simp] theorem w_rng2 {fa : IA} {env : Lv} {st : Stt} {Q : Src → Stt → Prop} : (Iv.iRng2 fa env st).W Q ↔ (fa env st).W fun xs st1 => ∃ i j, xs = [.int i, .int j] ∧ (-(2 ^ 62) ≤ i ∧ i < 2 ^ 62 ∧ -(2 ^ 62) ≤ j ∧ j < 2 ^ 62) ∧ Q (srcRng i (j - i).toNat) st1 := by
  unfold Iv.iRng2
  rw [W_bind]
  constructor
  · intro h
    refine h.mono fun a s q => ?_
    split at q
    · rename_i i j
      by_cases hl : -(2 ^ 62) ≤ i ∧ i < 2 ^ 62 ∧ -(2 ^ 62) ≤ j ∧ j < 2 ^ 62
      · rw [if_pos hl] at q
        exact ⟨i, j, rfl, hl, by simpa using q⟩
      · rw [if_neg hl] at q; simp at q
    · simp at q
  · intro h
    refine h.mono fun a s q => ?_
    obtain ⟨i, j, rfl, hl, q⟩ := q
    simp only [if_pos hl]
    simpa using q
end Iv

namespace Iv
open PySem L2
@[simp] theorem oW_still {o : Option D} {st : Stt} {Q : D → Stt → Prop} : oW (still o st) Q ↔ ∃ d, o = some d ∧ Q d st := by
  cases o <;> simp [still]
theorem ixN_nat (n k : Nat) : ixN n (k : Int) = if k < n then some k else none := by
  unfold ixN
  rw [if_pos (by omega)]
  by_cases h : k < n
  · rw [if_pos h, if_pos (by omega)]
    simp
  · rw [if_neg h, if_neg (by omega)]
@[simp] theorem atI_nat {α : Type} (xs : List α) (k : Nat) : atI xs (k : Int) = xs[k]? := by
  unfold atI
  rw [ixN_nat]
  by_cases h : k < xs.length
  · rw [if_pos h] <;> rfl
  · rw [if_neg h, List.getElem?_eq_none (by omega)] <;> rfl
@[simp] theorem atI_0 {α : Type} (xs : List α) : atI xs 0 = xs[0]? := atI_nat xs 0
@[simp] theorem atI_1 {α : Type} (xs : List α) : atI xs 1 = xs[1]? := atI_nat xs 1
@[simp] theorem atI_2 {α : Type} (xs : List α) : atI xs 2 = xs[2]? := atI_nat xs 2
@[simp] theorem atI_3 {α : Type} (xs : List α) : atI xs 3 = xs[3]? := atI_nat xs 3
@[simp] theorem atI_4 {α : Type} (xs : List α) : atI xs 4 = xs[4]? := atI_nat xs 4
@[simp] theorem atI_5 {α : Type} (xs : List α) : atI xs 5 = xs[5]? := atI_nat xs 5
theorem atI_of {α : Type} (xs : List α) (i : Int) (h0 : 0 ≤ i) : atI xs i = xs[i.toNat]? := by
  obtain ⟨k, rfl⟩ := Int.eq_ofNat_of_zero_le h0
  rw [atI_nat] <;> rfl
@[simp] theorem gIx_tup {xs : List D} {i : Int} {st : Stt} : gIx (.tup xs) (.int i) st = still (atI xs i) st := rfl
@[simp] theorem gIx_cl {xs : List D} {i : Int} {st : Stt} : gIx (.cl xs) (.int i) st = still (atI xs i) st := rfl
theorem gIx_lst {k : Nat} {xs : List D} {i : Int} {st : Stt} (h : st[k]? = some (.lst xs)) : gIx (.obj k) (.int i) st = still (atI xs i) st := by
  show (match st[k]? with | some (.lst xs) => _ | some (.dct kvs) => _ | some (.dcf kvs) => _ | _ => none) = _
  rw [h] <;> rfl
theorem gIx_dct {k : Nat} {kvs : List (Key × D)} {y : D} {key : Key} {st : Stt} (h : st[k]? = some (.dct kvs)) (hk : keyD y = some key) : gIx (.obj k) y st = still (valD kvs key) st := by
  unfold gIx
  cases y <;> first | (simp [keyD] at hk; done) | (simp only [h, hk])
theorem gIx_dcf {k : Nat} {kvs : List (Key × D)} {y : D} {key : Key} {st : Stt} (h : st[k]? = some (.dcf kvs)) (hk : keyD y = some key) : gIx (.obj k) y st = still (valD kvs key) st := by
  unfold gIx
  cases y <;> first | (simp [keyD] at hk; done) | (simp only [h, hk])
@[simp] theorem g_add {i j : Int} {st : Stt} : gAdd (.int i) (.int j) st = some (.int (i + j), st) := rfl
@[simp] theorem g_sub {i j : Int} {st : Stt} : gSub (.int i) (.int j) st = some (.int (i - j), st) := rfl
@[simp] theorem g_neg {i : Int} {st : Stt} : gNeg (.int i) st = some (.int (-i), st) := rfl
@[simp] theorem g_lt {i j : Int} {st : Stt} : gLt (.int i) (.int j) st = some (.bl (decide (i < j)), st) := rfl
@[simp] theorem g_gt {i j : Int} {st : Stt} : gGt (.int i) (.int j) st = some (.bl (decide (j < i)), st) := rfl
@[simp] theorem g_le {i j : Int} {st : Stt} : gLe (.int i) (.int j) st = some (.bl (!decide (j < i)), st) := rfl
@[simp] theorem g_ge {i j : Int} {st : Stt} : gGe (.int i) (.int j) st = some (.bl (!decide (i < j)), st) := rfl
@[simp] theorem g_eqi {i j : Int} {st : Stt} : gEq (.int i) (.int j) st = some (.bl (decide (i = j)), st) := rfl
@[simp] theorem g_nei {i j : Int} {st : Stt} : gNe (.int i) (.int j) st = some (.bl (!decide (i = j)), st) := rfl
@[simp] theorem g_eqs {i j : Str} {st : Stt} : gEq (.str i) (.str j) st = some (.bl (decide (i = j)), st) := rfl
@[simp] theorem g_nes {i j : Str} {st : Stt} : gNe (.str i) (.str j) st = some (.bl (!decide (i = j)), st) := rfl
theorem g_mul {i j : Int} {st : Stt} (h : cMul i j = true) : gMul (.int i) (.int j) st = some (.int (i * j), st) := by
  unfold gMul
  simp only [h, true_or, if_true]
theorem cMul_l {i j : Int} (h1 : -(2 ^ 64) < i) (h2 : i < 2 ^ 64) : cMul i j = true := decide_eq_true (.inl ⟨h1, h2⟩)
theorem cMul_r {i j : Int} (h1 : -(2 ^ 64) < j) (h2 : j < 2 ^ 64) : cMul i j = true := decide_eq_true (.inr ⟨h1, h2⟩)
theorem g_mod {i j : Int} {st : Stt} (h : 0 < j) : gMod (.int i) (.int j) st = some (.int (i % j), st) := by
  unfold gMod
  simp only [h, if_true]
theorem g_fdiv {i j : Int} {st : Stt} (h : 0 < j) (h2 : j.natAbs.log2 < 9000) : gFdiv (.int i) (.int j) st = some (.int (i / j), st) := by
  unfold gFdiv
  simp only [h, h2, and_self, if_true]
@[simp] theorem g_int {i : Int} {st : Stt} : gInt [.int i] st = some (.int i, st) := rfl
@[simp] theorem g_intb {b : Bool} {st : Stt} : gInt [.bl b] st = some (.int (if b then 1 else 0), st) := rfl
@[simp] theorem g_lent {xs : List D} {st : Stt} : gLen [.tup xs] st = some (.int xs.length, st) := rfl
@[simp] theorem g_lenc {xs : List D} {st : Stt} : gLen [.cl xs] st = some (.int xs.length, st) := rfl
theorem g_lenl {k : Nat} {xs : List D} {st : Stt} (h : st[k]? = some (.lst xs)) : gLen [.obj k] st = some (.int xs.length, st) := by
  show (match st[k]? with | some (.lst ds) => _ | some (.dct ks) => _ | _ => none) = _
  rw [h] <;> rfl
theorem g_append {k : Nat} {xs : List D} {d : D} {st : Stt} (h : st[k]? = some (.lst xs)) (hl : xs.length < 16777216) : gAppend (.obj k) [d] st = some (.non, st.set k (.lst (xs ++ [d]))) := by
  show (match st[k]? with | some (.lst ds) => _ | _ => none) = _
  rw [h]
  show (if xs.length < sizeLine then _ else none) = _
  rw [if_pos (by rw [sizeLine_eq]; exact hl)]
theorem isTy_lst {k : Nat} {xs : List D} {st : Stt} (h : st[k]? = some (.lst xs)) : isTy "list" (.obj k) st = true := by
  show (match st[k]? with | some (.lst _) => _ | some (.dct _) => _ | _ => false) = true
  rw [h] <;> rfl
theorem isTy_dct {k : Nat} {xs : List (Key × D)} {st : Stt} (h : st[k]? = some (.dct xs)) : isTy "dict" (.obj k) st = true := by
  show (match st[k]? with | some (.lst _) => _ | some (.dct _) => _ | _ => false) = true
  rw [h] <;> rfl
@[simp] theorem put_nm {i : Nat} {d : D} {env : Lv} : (Tg.nm i).put d env = some (env.set i (some d)) := rfl
@[simp] theorem g_isnon {x : D} {st : Stt} : gIs x .non st = some (.bl (isN x), st) := rfl
@[simp] theorem isN_int {i : Int} : isN (.int i) = false := rfl
@[simp] theorem isN_str {i : Str} : isN (.str i) = false := rfl
@[simp] theorem isN_tup {i : List D} : isN (.tup i) = false := rfl
@[simp] theorem isN_non : isN .non = true := rfl

theorem seq_cut {f g : IS} {env : Lv} {st : Stt} {Q : Lv → Fl → Stt → Prop} (R : Lv → Stt → Prop) (h1 : sW (f env st) fun env' fl st' => fl = .nx ∧ R env' st') (h2 : ∀ env' st', R env' st' → sW (g env' st') Q) : sW (sSeq f g env st) Q := by
  rw [sW_seq]
  refine h1.mono fun env' fl st' ⟨e, r⟩ => ?_
  subst e
  exact h2 env' st' r
@[simp] theorem oW_ite {α : Type} {c : Prop} [Decidable c] {o : Option (α × Stt)} {Q : α → Stt → Prop} : oW (if c then o else none) Q ↔ c ∧ oW o Q := by
  by_cases h : c <;> simp [h]
@[simp] theorem g_muli {i j : Int} {st : Stt} : gMul (.int i) (.int j) st = if cMul i j ∨ i.natAbs.log2 + j.natAbs.log2 < 1000000 then some (.int (i * j), st) else none := rfl
@[simp] theorem g_modi {i j : Int} {st : Stt} : gMod (.int i) (.int j) st = if 0 < j then some (.int (i % j), st) else none := rfl
@[simp] theorem g_fdivi {i j : Int} {st : Stt} : gFdiv (.int i) (.int j) st = if 0 < j ∧ j.natAbs.log2 < 9000 then some (.int (i / j), st) else none := rfl
@[simp] theorem g_powi {i j : Int} {st : Stt} : gPow (.int i) (.int j) st = if 0 ≤ j ∧ j ≤ 1000000 ∧ i.natAbs < 2 ^ 64 then some (.int (i ^ j.toNat), st) else none := rfl
@[simp] theorem g_leno {k : Nat} {st : Stt} : gLen [.obj k] st = match st[k]? with
    | some (.lst ds) => some (.int ds.length, st)
    | some (.dct ks) => some (.int ks.length, st)
    | _ => none := rfl
@[simp] theorem g_ixo {k : Nat} {y : D} {st : Stt} : gIx (.obj k) y st = match st[k]? with
    | some (.lst xs) => match y with
      | .int i => still (atI xs i) st
      | _ => none
    | some (.dct kvs) => match keyD y with
      | some key => still (valD kvs key) st
      | none => none
    | some (.dcf kvs) => match keyD y with
      | some key => still (valD kvs key) st
      | none => none
    | _ => none := by cases y <;> rfl
@[simp] theorem g_appo {k : Nat} {d : D} {st : Stt} : gAppend (.obj k) [d] st = match st[k]? with
    | some (.lst ds) => if ds.length < sizeLine then some (.non, st.set k (.lst (ds ++ [d]))) else none
    | _ => none := rfl
@[simp] theorem isTyo {T : String} {k : Nat} {st : Stt} : isTy T (.obj k) st = match st[k]? with
    | some (.lst _) => decide (T = "list")
    | some (.dct _) => decide (T = "dict")
    | _ => false := rfl
@[simp] theorem g_seto {k : Nat} {i v : D} {st : Stt} : gSet (.obj k) i v st = match st[k]? with
    | some (.lst xs) => match i with
      | .int z => match ixN xs.length z with
        | some j => some (st.set k (.lst (xs.set j v)))
        | none => none
      | _ => none
    | some (.dct kvs) => match keyD i with
      | some key => if kvs.length < sizeLine then some (st.set k (.dct (putD kvs key v))) else none
      | none => none
    | _ => none := rfl
@[simp] theorem g_ino {x : D} {k : Nat} {st : Stt} : gIn x (.obj k) st = match st[k]? with
    | some (.dct kvs) => match keyD x with
      | some key => some (.bl (valD kvs key).isSome, st)
      | none => none
    | some (.dcf kvs) => match keyD x with
      | some key => some (.bl (valD kvs key).isSome, st)
      | none => none
    | some (.lst xs) => still (inSeq x xs) st
    | _ => none := rfl
@[simp] theorem g_notin {x y : D} {st : Stt} : gNotIn x y st = match gIn x y st with
  | some (.bl b, st') => some (.bl (!b), st')
  | _ => none := rfl
@[simp] theorem g_isnotnon {x : D} {st : Stt} : gIsNot x .non st = some (.bl (!isN x), st) := rfl
@[simp] theorem g_tupt {xs : List D} {st : Stt} : gTuple [.tup xs] st = some (.tup xs, st) := rfl
@[simp] theorem g_tupo {k : Nat} {st : Stt} : gTuple [.obj k] st = match lstD (.obj k) st with
    | some ds => some (.tup ds, st)
    | none => none := rfl
@[simp] theorem lstDo {k : Nat} {st : Stt} : lstD (.obj k) st = match st[k]? with
    | some (.lst xs) => some xs
    | _ => none := rfl
@[simp] theorem key_str {x : Str} : keyD (.str x) = some (.inr x) := rfl
@[simp] theorem key_int {x : Int} : keyD (.int x) = some (.inl x) := rfl
@[simp] theorem log2_1000 : Nat.log2 1000 = 9 := by decide +kernel
@[simp] theorem log2_997 : Nat.log2 997 = 9 := by decide +kernel
@[simp] theorem log2_2 : Nat.log2 2 = 1 := by decide +kernel
@[simp] theorem ixN_0 {n : Nat} : ixN n 0 = if 0 < n then some 0 else none := ixN_nat n 0
@[simp] theorem ixN_1 {n : Nat} : ixN n 1 = if 1 < n then some 1 else none := ixN_nat n 1
end Iv

namespace BF
variable {α : Type} [DecidableEq α]
structure Row (α : Type) where
  b : α
  e : α
  w : Int
/-- a walk along rows: from, to, weight, steps -/
inductive Walk (R : List (Row α)) : α → α → Int → Nat → Prop
  | nil (v : α) : Walk R v v 0 0
  | snoc {u v : α} {w : Int} {n : Nat} (h : Walk R u v w n) (r : Row α) (hr : r ∈ R) (hb : r.b = v) : Walk R u r.e (w + r.w) (n + 1)
theorem Walk.cast {R : List (Row α)} {u v : α} {w w' : Int} {n n' : Nat} (h : Walk R u v w n) (e : w = w') (e' : n = n') : Walk R u v w' n' := by subst e e'; exact h
theorem Walk.trans {R : List (Row α)} {u v x : α} {w w' : Int} {n n' : Nat} (h : Walk R u v w n) (g : Walk R v x w' n') : Walk R u x (w + w') (n + n') := by
  induction g with
  | nil => exact h.cast (by omega) (by omega)
  | snoc g r hr hb ih => exact (ih.snoc r hr hb).cast (by omega) (by omega)
theorem Walk.one {R : List (Row α)} {r : Row α} (hr : r ∈ R) : Walk R r.b r.e r.w 1 := ((Walk.nil r.b).snoc r hr rfl).cast (by omega) rfl
def Pot (R : List (Row α)) (p : α → Int) : Prop := ∀ r ∈ R, p r.b + r.w ≤ p r.e
theorem Walk.pot {R : List (Row α)} {p : α → Int} (hp : Pot R p) {u v : α} {w : Int} {n : Nat} (h : Walk R u v w n) : p u + w ≤ p v := by
  induction h with
  | nil => omega
  | snoc h r hr hb ih =>
    have := hp r hr
    subst hb
    omega
/-- the vertices of a walk, the last one first -/
inductive WalkV (R : List (Row α)) : α → α → Int → List α → Prop
  | nil (v : α) : WalkV R v v 0 [v]
  | snoc {u v : α} {w : Int} {l : List α} (h : WalkV R u v w l) (r : Row α) (hr : r ∈ R) (hb : r.b = v) : WalkV R u r.e (w + r.w) (r.e :: l)
theorem Walk.v {R : List (Row α)} {u v : α} {w : Int} {n : Nat} (h : Walk R u v w n) : ∃ l, WalkV R u v w l ∧ l.length = n + 1 := by
  induction h with
  | nil => exact ⟨_, .nil u, rfl⟩
  | snoc h r hr hb ih =>
    obtain ⟨l, g, e⟩ := ih
    exact ⟨_, g.snoc r hr hb, by simp [e]⟩
theorem WalkV.walk {R : List (Row α)} {u v : α} {w : Int} {l : List α} (h : WalkV R u v w l) : ∃ n, Walk R u v w n ∧ l.length = n + 1 := by
  induction h with
  | nil => exact ⟨_, .nil u, rfl⟩
  | snoc h r hr hb ih =>
    obtain ⟨n, g, e⟩ := ih
    exact ⟨_, g.snoc r hr hb, by simp [e]⟩
/-- a walk is parted at a vertex on it -/
theorem WalkV.part {R : List (Row α)} {u v x : α} {w : Int} {l : List α} (h : WalkV R u v w l) (hx : x ∈ l) : ∃ w1 w2 n1 n2, Walk R u x w1 n1 ∧ Walk R x v w2 n2 ∧ w = w1 + w2 ∧ n1 + n2 + 1 = l.length := by
  induction h with
  | nil =>
    rw [List.mem_singleton.mp hx]
    exact ⟨0, 0, 0, 0, .nil _, .nil _, rfl, rfl⟩
  | @snoc v w l h r hr hb ih =>
    rcases List.mem_cons.mp hx with rfl | hx
    · obtain ⟨n, g, e⟩ := (h.snoc r hr hb).walk
      exact ⟨_, 0, n, 0, g, .nil _, by omega, by omega⟩
    · obtain ⟨w1, w2, n1, n2, a, b, e1, e2⟩ := ih hx
      exact ⟨w1, w2 + r.w, n1, n2 + 1, a, b.snoc r hr hb, by omega, by simp; omega⟩
/-- as many as vertices there are, or one twice -/
theorem nodup_short : ∀ {l V : List α}, l.Nodup → (∀ x ∈ l, x ∈ V) → l.length ≤ V.length
  | [], V, _, _ => Nat.zero_le _
  | x :: l, V, hn, hs => by
    have hx : x ∈ V := hs x (List.mem_cons_self ..)
    obtain ⟨n1, n2⟩ := List.nodup_cons.mp hn
    have := nodup_short (l := l) (V := V.erase x) n2 fun y hy => by
      have hne : y ≠ x := fun e => n1 (e ▸ hy)
      exact (List.mem_erase_of_ne hne).mpr (hs y (List.mem_cons_of_mem _ hy))
    rw [List.length_erase_of_mem hx] at this
    have hpos : 0 < V.length := List.length_pos_of_mem hx
    simp
    omega
theorem WalkV.mem {R : List (Row α)} {V : List α} (hR : ∀ r ∈ R, r.e ∈ V) {u v : α} {w : Int} {l : List α} (hu : u ∈ V) (h : WalkV R u v w l) : ∀ x ∈ l, x ∈ V := by
  induction h with
  | nil => intro x hx; rw [List.mem_singleton.mp hx]; exact hu
  | snoc h r hr hb ih =>
    intro x hx
    rcases List.mem_cons.mp hx with rfl | hx
    · exact hR r hr
    · exact ih x hx
/-- a vertex twice: a circle -/
theorem WalkV.twice {R : List (Row α)} {u v : α} {w : Int} {l : List α} (h : WalkV R u v w l) (hd : ¬ l.Nodup) : ∃ x wa wb wc na nb nc, Walk R u x wa na ∧ Walk R x x wb nb ∧ Walk R x v wc nc ∧ 0 < nb ∧ w = wa + wb + wc ∧ na + nb + nc + 1 = l.length := by
  induction h with
  | nil => exact (hd (by simp)).elim
  | @snoc v w l h r hr hb ih =>
    by_cases hx : r.e ∈ l
    · obtain ⟨wa, wb, na, nb, a, b, e1, e2⟩ := h.part hx
      exact ⟨r.e, wa, wb + r.w, 0, na, nb + 1, 0, a, b.snoc r hr hb, .nil _, Nat.succ_pos _, by omega, by simp; omega⟩
    · have hl : ¬ l.Nodup := fun q => hd (List.nodup_cons.mpr ⟨hx, q⟩)
      obtain ⟨x, wa, wb, wc, na, nb, nc, a, b, c, e0, e1, e2⟩ := ih hl
      exact ⟨x, wa, wb, wc + r.w, na, nb, nc + 1, a, b, c.snoc r hr hb, e0, by omega, by simp; omega⟩
/-- where there is a potential, each walk has a short one that is no lighter -/
theorem short {R : List (Row α)} {V : List α} {p : α → Int} (hp : Pot R p) (hR : ∀ r ∈ R, r.e ∈ V) {u : α} (hu : u ∈ V) {v : α} : ∀ (n : Nat) {w : Int}, Walk R u v w n → ∃ w' n', Walk R u v w' n' ∧ w ≤ w' ∧ n' < V.length := by
  intro n
  induction n using Nat.strongRecOn with
  | _ n ih =>
    intro w h
    by_cases hl : n < V.length
    · exact ⟨w, n, h, Int.le_refl _, hl⟩
    · obtain ⟨l, g, el⟩ := h.v
      have hd : ¬ l.Nodup := fun q => by
        have := nodup_short q (g.mem hR hu)
        omega
      obtain ⟨x, wa, wb, wc, na, nb, nc, a, b, c, e0, e1, e2⟩ := g.twice hd
      have hb := b.pot hp
      obtain ⟨w', n', q1, q2, q3⟩ := ih (na + nc) (by omega) (a.trans c)
      exact ⟨w', n', q1, by omega, q3⟩

/-! ### rounds -/
abbrev Mp (α : Type) := α → Option Int
def upM (f : Mp α) (a : α) (x : Int) : Mp α := fun b => if b = a then some x else f b
def rlx (f : Mp α) (r : Row α) : Mp α := match f r.b with
  | none => f
  | some x => match f r.e with
    | none => upM f r.e (x + r.w)
    | some y => if y < x + r.w then upM f r.e (x + r.w) else f
def round (R : List (Row α)) (f : Mp α) : Mp α := R.foldl rlx f
def rounds (R : List (Row α)) : Nat → Mp α → Mp α
  | 0, f => f
  | n + 1, f => round R (rounds R n f)
/-- what can be reached from the beginnings -/
def Reach (R : List (Row α)) (f0 : Mp α) (v : α) (x : Int) : Prop := ∃ u x0 w n, f0 u = some x0 ∧ Walk R u v w n ∧ x = x0 + w
def Le (o p : Option Int) : Prop := ∀ x, o = some x → ∃ y, p = some y ∧ x ≤ y
theorem Le.refl (o : Option Int) : Le o o := fun x e => ⟨x, e, Int.le_refl _⟩
theorem Le.trans {o p q : Option Int} (a : Le o p) (b : Le p q) : Le o q := fun x e => by
  obtain ⟨y, e1, h1⟩ := a x e
  obtain ⟨z, e2, h2⟩ := b y e1
  exact ⟨z, e2, by omega⟩
theorem rlx_cases (f : Mp α) (r : Row α) : (f r.b = none ∧ rlx f r = f) ∨ ∃ x, f r.b = some x ∧ ((f r.e = none ∧ rlx f r = upM f r.e (x + r.w)) ∨ ∃ y, f r.e = some y ∧ ((y < x + r.w ∧ rlx f r = upM f r.e (x + r.w)) ∨ (¬ y < x + r.w ∧ rlx f r = f))) := by
  unfold rlx
  cases h : f r.b with
  | none => exact .inl ⟨rfl, rfl⟩
  | some x =>
    refine .inr ⟨x, rfl, ?_⟩
    cases h2 : f r.e with
    | none => exact .inl ⟨rfl, rfl⟩
    | some y =>
      refine .inr ⟨y, rfl, ?_⟩
      by_cases h3 : y < x + r.w
      · exact .inl ⟨h3, by simp only [h3, if_true]⟩
      · exact .inr ⟨h3, by simp only [h3, if_false]⟩
theorem upM_self (f : Mp α) (a : α) (x : Int) : upM f a x a = some x := if_pos rfl
theorem upM_ne (f : Mp α) {a b : α} (x : Int) (h : b ≠ a) : upM f a x b = f b := if_neg h
theorem upM_le (f : Mp α) (a : α) (x : Int) (h : Le (f a) (some x)) (v : α) : Le (f v) (upM f a x v) := by
  by_cases hv : v = a
  · subst hv; rw [upM_self]; exact h
  · rw [upM_ne f x hv]; exact Le.refl _
theorem rlx_le (f : Mp α) (r : Row α) (v : α) : Le (f v) (rlx f r v) := by
  rcases rlx_cases f r with ⟨_, e⟩ | ⟨x, hx, ⟨h, e⟩ | ⟨y, hy, ⟨h, e⟩ | ⟨_, e⟩⟩⟩
  · rw [e]; exact Le.refl _
  · rw [e]; exact upM_le f _ _ (by rw [h]; intro z q; cases q) v
  · rw [e]; exact upM_le f _ _ (by rw [hy]; intro z q; cases q; exact ⟨_, rfl, by omega⟩) v
  · rw [e]; exact Le.refl _
theorem rlx_row (f : Mp α) (r : Row α) {x : Int} (h : f r.b = some x) : Le (some (x + r.w)) (rlx f r r.e) := by
  rcases rlx_cases f r with ⟨h', e⟩ | ⟨x', hx, ⟨h', e⟩ | ⟨y, hy, ⟨h', e⟩ | ⟨h', e⟩⟩⟩
  · rw [h] at h'; cases h'
  · rw [h] at hx; cases hx
    rw [e, upM_self]; exact Le.refl _
  · rw [h] at hx; cases hx
    rw [e, upM_self]; exact Le.refl _
  · rw [h] at hx; cases hx
    rw [e, hy]
    intro z q; cases q
    exact ⟨y, rfl, by omega⟩
theorem fold_le : ∀ (R : List (Row α)) (f : Mp α) (v : α), Le (f v) (R.foldl rlx f v)
  | [], f, v => Le.refl _
  | r :: R, f, v => (rlx_le f r v).trans (fold_le R (rlx f r) v)
theorem fold_row : ∀ (R : List (Row α)) (f : Mp α) (r : Row α), r ∈ R → ∀ x, f r.b = some x → Le (some (x + r.w)) (R.foldl rlx f r.e)
  | [], f, r, h, _, _ => by cases h
  | q :: R, f, r, h, x, hx => by
    rcases List.mem_cons.mp h with rfl | h
    · exact (rlx_row f r hx).trans (fold_le R _ _)
    · obtain ⟨y, e, l⟩ := rlx_le f q r.b x hx
      obtain h2 := fold_row R (rlx f q) r h y e
      intro z ez
      cases ez
      obtain ⟨t, e1, l1⟩ := h2 _ rfl
      exact ⟨t, e1, by omega⟩
theorem rounds_le (R : List (Row α)) (f0 : Mp α) : ∀ (n : Nat) (v : α), Le (f0 v) (rounds R n f0 v)
  | 0, v => Le.refl _
  | n + 1, v => (rounds_le R f0 n v).trans (fold_le R _ v)
theorem rounds_walk {R : List (Row α)} {f0 : Mp α} {u : α} {x0 : Int} (h0 : f0 u = some x0) {v : α} {w : Int} {n : Nat} (h : Walk R u v w n) : ∀ k, n ≤ k → Le (some (x0 + w)) (rounds R k f0 v) := by
  induction h with
  | nil =>
    intro k _ z e
    cases e
    obtain ⟨y, e1, l⟩ := rounds_le R f0 k u x0 h0
    exact ⟨y, e1, by omega⟩
  | snoc h r hr hb ih =>
    intro k hk
    match k with
    | 0 => omega
    | k + 1 =>
      obtain ⟨y, e1, l1⟩ := ih k (by omega) _ rfl
      subst hb
      intro z e
      cases e
      obtain ⟨t, e2, l2⟩ := fold_row R (rounds R k f0) r hr y e1 _ rfl
      exact ⟨t, e2, by omega⟩
def Sound (R : List (Row α)) (f0 f : Mp α) : Prop := ∀ v x, f v = some x → Reach R f0 v x
theorem Sound.start (R : List (Row α)) (f0 : Mp α) : Sound R f0 f0 := fun v x e => ⟨v, x, 0, 0, e, .nil v, by omega⟩
theorem Sound.rlx {R : List (Row α)} {f0 f : Mp α} (h : Sound R f0 f) {r : Row α} (hr : r ∈ R) : Sound R f0 (rlx f r) := by
  have up : ∀ x, f r.b = some x → Sound R f0 (upM f r.e (x + r.w)) := fun x hx v y e => by
    by_cases hv : v = r.e
    · subst hv
      rw [upM_self] at e
      cases e
      obtain ⟨u, x0, w, n, a, b, c⟩ := h _ _ hx
      exact ⟨u, x0, w + r.w, n + 1, a, b.snoc r hr rfl, by omega⟩
    · rw [upM_ne f _ hv] at e
      exact h v y e
  rcases rlx_cases f r with ⟨_, e⟩ | ⟨x, hx, ⟨_, e⟩ | ⟨y, hy, ⟨_, e⟩ | ⟨_, e⟩⟩⟩
  · rw [e]; exact h
  · rw [e]; exact up x hx
  · rw [e]; exact up x hx
  · rw [e]; exact h
theorem Sound.fold {R R' : List (Row α)} {f0 f : Mp α} (h : Sound R f0 f) (hs : ∀ r ∈ R', r ∈ R) : Sound R f0 (R'.foldl BF.rlx f) := by
  induction R' generalizing f with
  | nil => exact h
  | cons r R' ih => exact ih (h.rlx (hs r (List.mem_cons_self ..))) fun q hq => hs q (List.mem_cons_of_mem _ hq)
theorem Sound.rounds {R : List (Row α)} {f0 : Mp α} : ∀ n, Sound R f0 (BF.rounds R n f0)
  | 0 => Sound.start R f0
  | n + 1 => (Sound.rounds n).fold fun _ h => h
/-- the greatest that can be reached, everywhere -/
def Top (R : List (Row α)) (f0 f : Mp α) : Prop := Sound R f0 f ∧ ∀ v x, Reach R f0 v x → Le (some x) (f v)
theorem Top.uniq {R : List (Row α)} {f0 f g : Mp α} (a : Top R f0 f) (b : Top R f0 g) : f = g := by
  funext v
  have key : ∀ {f g : Mp α}, Top R f0 f → Top R f0 g → ∀ x, f v = some x → g v = some x := fun {f g} a b x e => by
    obtain ⟨y, e1, l1⟩ := b.2 v x (a.1 v x e) x rfl
    obtain ⟨z, e2, l2⟩ := a.2 v y (b.1 v y e1) y rfl
    rw [e] at e2
    cases e2
    have : x = y := by omega
    rw [e1, this]
  cases h : f v with
  | none =>
    cases h2 : g v with
    | none => rfl
    | some y => rw [key b a y h2] at h; cases h
  | some x => rw [key a b x h]
theorem Top.of {R : List (Row α)} {V : List α} {p : α → Int} (hp : Pot R p) (hR : ∀ r ∈ R, r.e ∈ V) {f0 : Mp α} (h0 : ∀ u x, f0 u = some x → u ∈ V) {k : Nat} (hk : V.length ≤ k + 1) : Top R f0 (BF.rounds R k f0) := by
  refine ⟨Sound.rounds k, fun v x ⟨u, x0, w, n, e, h, ex⟩ => ?_⟩
  obtain ⟨w', n', h', l', s'⟩ := short hp hR (h0 u x0 e) n h
  intro z ez
  cases ez
  obtain ⟨y, e1, l1⟩ := rounds_walk e h' k (by omega) _ rfl
  exact ⟨y, e1, by omega⟩
theorem Top.fix {R : List (Row α)} {f0 f : Mp α} (h : Top R f0 f) : round R f = f := by
  refine Top.uniq (R := R) (f0 := f0) ⟨h.1.fold fun _ h => h, fun v x q => (h.2 v x q).trans (fold_le R f v)⟩ h
theorem rounds_fix {R : List (Row α)} {f0 : Mp α} {k : Nat} (h : round R (BF.rounds R k f0) = BF.rounds R k f0) : ∀ m, k ≤ m → BF.rounds R m f0 = BF.rounds R k f0 := by
  intro m hm
  induction m with
  | zero => rw [Nat.le_zero.mp hm]
  | succ m ih =>
    by_cases e : k = m + 1
    · rw [e]
    · have := ih (by omega)
      show round R (BF.rounds R m f0) = _
      rw [this, h]
/-- where nothing changes any more and all is reached, there is a potential -/
theorem pot_of_fix {R : List (Row α)} {f : Mp α} (h : round R f = f) (ht : ∀ r ∈ R, ∃ x, f r.b = some x) : Pot R fun v => (f v).getD 0 := by
  intro r hr
  obtain ⟨x, hx⟩ := ht r hr
  obtain ⟨y, e1, l1⟩ := fold_row R f r hr x hx _ rfl
  have e2 : f r.e = some y := by
    have : round R f r.e = some y := e1
    rwa [h] at this
  simp [hx, e2]
  exact l1
end BF

namespace Iv
open PySem L2
/-! ### dicts -/
theorem valD_nil (k : Key) : valD [] k = none := rfl
theorem valD_cons (k j : Key) (d : D) (K : List (Key × D)) : valD ((k, d) :: K) j = if k = j then some d else valD K j := by
  unfold valD
  rw [List.find?_cons]
  by_cases h : k = j
  · simp [h]
  · simp [h]
theorem valD_app (K L : List (Key × D)) (j : Key) : valD (K ++ L) j = (valD K j).or (valD L j) := by
  induction K with
  | nil => simp [valD_nil]
  | cons p K ih =>
    obtain ⟨k, d⟩ := p
    rw [List.cons_append, valD_cons, valD_cons, ih]
    by_cases h : k = j <;> simp [h]
theorem valD_any (K : List (Key × D)) (j : Key) : (K.any fun kv => decide (kv.1 = j)) = (valD K j).isSome := by
  induction K with
  | nil => rfl
  | cons p K ih =>
    obtain ⟨k, d⟩ := p
    rw [List.any_cons, valD_cons, ih]
    by_cases h : k = j <;> simp [h]
theorem valD_repl (K : List (Key × D)) (k j : Key) (v : D) : valD (K.map (fun kv => if kv.1 = k then (kv.1, v) else kv)) j = if k = j then (valD K j).map (fun _ => v) else valD K j := by
  induction K with
  | nil => simp [valD_nil]
  | cons p K ih =>
    obtain ⟨i, d⟩ := p
    rw [List.map_cons, valD_cons]
    by_cases h1 : i = k
    · subst h1
      simp only [if_true]
      rw [valD_cons, ih]
      by_cases h2 : i = j <;> simp [h2]
    · simp only [h1, if_false]
      rw [valD_cons, ih]
      by_cases h2 : i = j
      · subst h2
        simp [Ne.symm h1]
      · simp [h2]
theorem valD_put (K : List (Key × D)) (k j : Key) (v : D) : valD (putD K k v) j = if j = k then some v else valD K j := by
  unfold putD
  rw [valD_any]
  by_cases h : j = k
  · subst h
    cases hv : valD K j with
    | none => simp [valD_app, hv, valD_cons]
    | some d => simp [valD_repl, hv]
  · have h' : ¬ k = j := fun e => h e.symm
    cases hv : valD K k with
    | none => simp [valD_app, valD_cons, valD_nil, h, h']
    | some d => simp [valD_repl, h, h']
theorem putD_len (K : List (Key × D)) (k : Key) (v : D) : (putD K k v).length ≤ K.length + 1 := by
  unfold putD
  split <;> simp

@[simp] theorem w_dc {fi : II} {t : Tg} {tt : IT} {tk tv : IE} {vs : List Nat} {env : Lv} {st : Stt} {Q : D → Stt → Prop} : (eDc fi t tt tk tv vs env st).W Q ↔ (fi env st).W fun src st1 => oW (dcompN src t tt tk tv (wipeL env vs) bigN 0 [] st1) fun acc st2 => Q (.obj st2.length) (st2 ++ [.dct acc]) := by
  unfold eDc
  rw [W_bind]
  constructor <;>
  · intro h
    refine h.mono fun a s q => ?_
    cases e : dcompN a t tt tk tv (wipeL env vs) bigN 0 [] s with
    | none => simp [e] at q
    | some p => simpa [e] using q
theorem dcompN_gen {src : Src} {t : Tg} {tt : IT} {tk tv : IE} {env : Lv} (n : Nat) (x : Nat → D) (I : Nat → List (Key × D) → Stt → Prop)
    (hsrc : ∀ i acc st, I i acc st → src i st = some (if i < n then some (x i) else none))
    (step : ∀ i acc st, i < n → I i acc st → ∃ env1, t.put (x i) env = some env1 ∧ (tt env1 st).W fun b st1 => if b = true then (tk env1 st1).W fun y st2 => (tv env1 st2).W fun z st3 => ∃ key, keyD y = some key ∧ acc.length < 10000000 ∧ I (i + 1) (putD acc key z) st3 else I (i + 1) acc st1) :
    ∀ (m i : Nat) (acc : List (Key × D)) (st : Stt), i ≤ n → n ≤ i + m → I i acc st → oW (dcompN src t tt tk tv env m i acc st) (I n)
  | 0, i, acc, st, h1, h2, h => by
    have e : i = n := by omega
    subst e
    unfold dcompN
    rw [hsrc i acc st h, if_neg (Nat.lt_irrefl _)]
    simpa using h
  | m + 1, i, acc, st, h1, h2, h => by
    unfold dcompN
    rw [hsrc i acc st h]
    by_cases hi : i < n
    · rw [if_pos hi]
      obtain ⟨env1, e1, w⟩ := step i acc st hi h
      simp only [e1]
      obtain ⟨b, st1, e2, q⟩ := w
      rw [e2]
      cases b with
      | false => exact dcompN_gen n x I hsrc step m (i + 1) acc st1 (by omega) (by omega) q
      | true =>
        rw [if_pos rfl] at q
        obtain ⟨y, st2, e3, z, st3, e4, key, ek, hl, q⟩ := q
        simp only [e3, e4, ek, if_pos hl]
        exact dcompN_gen n x I hsrc step m (i + 1) (putD acc key z) st3 (by omega) (by omega) q
    · rw [if_neg hi]
      have e : i = n := by omega
      subst e
      simpa using h
theorem dcomp_tup {xs : List D} {t : Tg} {tt : IT} {tk tv : IE} {env : Lv} {st : Stt} (I : Nat → List (Key × D) → Stt → Prop) (h0 : I 0 [] st)
    (step : ∀ i x acc st, xs[i]? = some x → I i acc st → ∃ env1, t.put x env = some env1 ∧ (tt env1 st).W fun b st1 => if b = true then (tk env1 st1).W fun y st2 => (tv env1 st2).W fun z st3 => ∃ key, keyD y = some key ∧ acc.length < 10000000 ∧ I (i + 1) (putD acc key z) st3 else I (i + 1) acc st1)
    (hn : xs.length ≤ 100000000) : oW (dcompN (srcTup xs) t tt tk tv env bigN 0 [] st) (I xs.length) := by
  refine dcompN_gen xs.length (fun i => xs.getD i .non) I (fun i acc st _ => ?_) (fun i acc st hi h => ?_) bigN 0 [] st (Nat.zero_le _) (by unfold bigN; omega) h0
  · unfold srcTup
    split
    · rename_i h; rw [List.getD_eq_getElem?_getD, List.getElem?_eq_getElem h] <;> rfl
    · rename_i h; rw [List.getElem?_eq_none (by omega)]
  · refine step i _ acc st ?_ h
    rw [List.getD_eq_getElem?_getD, List.getElem?_eq_getElem hi] <;> rfl
/-- over the keys of a locked dict -/
theorem dcomp_keys {ks : List (Key × D)} {k : Nat} {t : Tg} {tt : IT} {tk tv : IE} {env : Lv} {st : Stt} (I : Nat → List (Key × D) → Stt → Prop) (h0 : I 0 [] st) (hk : ∀ i acc st, I i acc st → st[k]? = some (.dcf ks))
    (step : ∀ i x acc st, ks[i]? = some x → I i acc st → ∃ env1, t.put (dKey x.1) env = some env1 ∧ (tt env1 st).W fun b st1 => if b = true then (tk env1 st1).W fun y st2 => (tv env1 st2).W fun z st3 => ∃ key, keyD y = some key ∧ acc.length < 10000000 ∧ I (i + 1) (putD acc key z) st3 else I (i + 1) acc st1)
    (hn : ks.length ≤ 100000000) : oW (dcompN (srcKeys k) t tt tk tv env bigN 0 [] st) (I ks.length) := by
  refine dcompN_gen ks.length (fun i => (ks.map fun kv => dKey kv.1).getD i .non) I (fun i acc st h => ?_) (fun i acc st hi h => ?_) bigN 0 [] st (Nat.zero_le _) (by unfold bigN; omega) h0
  · unfold srcKeys
    rw [hk i acc st h]
    show some (ks.map fun kv => dKey kv.1)[i]? = _
    split
    · rename_i h; rw [List.getD_eq_getElem?_getD, List.getElem?_map, List.getElem?_eq_getElem h] <;> rfl
    · rename_i h; rw [List.getElem?_map, List.getElem?_eq_none (by omega)] <;> rfl
  · obtain ⟨env1, e1, w⟩ := step i ks[i] acc st (List.getElem?_eq_getElem hi) h
    refine ⟨env1, ?_, w⟩
    rw [← e1, List.getD_eq_getElem?_getD, List.getElem?_map, List.getElem?_eq_getElem hi] <;> rfl
theorem w_elk {fa fe : IE} {env : Lv} {st : Stt} {Q : D → Stt → Prop} {k : Nat} {ks : List (Key × D)} (h : lkOf fa env st = some (k, ks)) (w : (fe env (st.set k (.dcf ks))).W fun d st' => ∃ st'', unlk k st' = some st'' ∧ Q d st'') : (eLk fa fe env st).W Q := by
  unfold eLk
  rw [h]
  obtain ⟨d, st', e, st'', e2, q⟩ := w
  simp only [e, e2]
  exact ⟨d, st'', rfl, q⟩
theorem map_get {α β : Type} {f : α → β} {xs : List α} {i : Nat} {y : β} (h : (xs.map f)[i]? = some y) : ∃ x, xs[i]? = some x ∧ y = f x := by
  rw [List.getElem?_map] at h
  cases q : xs[i]? with
  | none => rw [q] at h; cases h
  | some r => rw [q] at h; exact ⟨r, rfl, (Option.some.inj h).symm⟩
theorem app_at1 {st : Stt} (a : O) : (st ++ [a])[st.length]? = some a := by simp
theorem app_lt {st more : Stt} {k : Nat} {o : O} (h : st[k]? = some o) : (st ++ more)[k]? = some o := by
  rw [List.getElem?_append_left (List.getElem?_eq_some_iff.mp h).1]; exact h
theorem app_at {st more : Stt} (j : Nat) : (st ++ more)[st.length + j]? = more[j]? := by
  rw [List.getElem?_append_right (by omega)]
  congr 1
  omega

@[simp] theorem w_psnil {env : Lv} {st : Stt} : psNil env st = .ok [] st := rfl
@[simp] theorem w_pscons {fk fv : IE} {fr : IPs} {env : Lv} {st : Stt} {Q : List (Key × D) → Stt → Prop} : (psCons fk fv fr env st).W Q ↔ (fk env st).W fun k st1 => (fv env st1).W fun v st2 => ∃ key, keyD k = some key ∧ (fr env st2).W fun ps st3 => Q ((key, v) :: ps) st3 := by
  unfold psCons
  rw [W_bind]
  constructor <;>
  · intro h
    refine h.mono fun k s q => ?_
    first | rw [W_bind] at q | rw [W_bind]
    refine q.mono fun v s2 q => ?_
    cases e : keyD k with
    | none => simp [e] at q
    | some key => simpa [e] using q
@[simp] theorem w_disp {fr : IPs} {env : Lv} {st : Stt} {Q : D → Stt → Prop} : (eDisp fr env st).W Q ↔ (fr env (st ++ [.dct []])).W fun ps st1 => st1[st.length]? = some (.dct []) ∧ ps.length ≤ 15 ∧ Q (.obj st.length) (st1.set st.length (.dct (mergeD [] ps))) := by
  unfold eDisp
  cases fr env (st ++ [.dct []]) with
  | no => simp
  | ex e s => simp
  | ok ps st1 =>
    simp only [W_ok]
    cases h : st1[st.length]? with
    | none => simp
    | some o =>
      cases o with
      | dct K =>
        cases K with
        | nil =>
          by_cases hl : ps.length ≤ 15 <;> simp [hl]
        | cons p K => simp
      | _ => simp
@[simp] theorem w_dnew {env : Lv} {st : Stt} : eDnew env st = .ok (.obj st.length) (st ++ [.dct []]) := rfl
theorem app_at1' (st : Stt) (a : O) {k : Nat} (h : k = st.length) : (st ++ [a])[k]? = some a := by subst h; simp
theorem app_at1'' (st : Stt) (a b : O) {k : Nat} (h : k = st.length + 1) : (st ++ [a, b])[k]? = some b := by subst h; simp
theorem putD_keys {K : List (Key × D)} {k : Key} {v : D} {kv : Key × D} (h : kv ∈ putD K k v) : kv.1 = k ∨ ∃ kv' ∈ K, kv'.1 = kv.1 := by
  unfold putD at h
  split at h
  · obtain ⟨kv', h1, h2⟩ := List.mem_map.mp h
    by_cases e : kv'.1 = k
    · rw [if_pos e] at h2
      subst h2
      exact .inl e
    · rw [if_neg e] at h2
      subst h2
      exact .inr ⟨kv', h1, rfl⟩
  · rcases List.mem_append.mp h with h | h
    · exact .inr ⟨kv, h, rfl⟩
    · rw [List.mem_singleton.mp h]; exact .inl rfl
theorem valD_mem {K : List (Key × D)} {kv : Key × D} (h : kv ∈ K) : ∃ d, valD K kv.1 = some d := by
  induction K with
  | nil => cases h
  | cons p K ih =>
    obtain ⟨k, d⟩ := p
    rw [valD_cons]
    by_cases e : k = kv.1
    · exact ⟨d, if_pos e⟩
    · rw [if_neg e]
      rcases List.mem_cons.mp h with z | z
      · exact (e (by rw [z])).elim
      · exact ih z
theorem comp_pureL {xs : List D} {k : Nat} {t : Tg} {tt : IT} {te : IE} {env : Lv} {st : Stt} (p : D → Bool) (g : D → D) (hk : st[k]? = some (.lst xs))
    (step : ∀ x ∈ xs, ∃ env1, t.put x env = some env1 ∧ (tt env1 st).W fun b st1 => b = p x ∧ st1 = st ∧ (b = true → (te env1 st).W fun y st2 => y = g x ∧ st2 = st)) (hn : xs.length < 10000000) :
    compN (srcLst k) t tt te env bigN 0 [] st = some ((xs.filter p).map g, st) := by
  have w : oW (compN (srcLst k) t tt te env bigN 0 [] st) (fun acc st' => acc = ((xs.take xs.length).filter p).map g ∧ st' = st) := by
    refine comp_lst (xs := xs) (fun i acc st' => acc = ((xs.take i).filter p).map g ∧ st' = st) ⟨by simp, rfl⟩ (fun i acc st' h => by obtain ⟨_, rfl⟩ := h; exact hk) (fun i x acc st' hx h => ?_) (by omega)
    obtain ⟨rfl, rfl⟩ := h
    have hm : x ∈ xs := List.mem_of_getElem? hx
    obtain ⟨env1, e1, b, st1, e2, rfl, rfl, q⟩ := step x hm
    refine ⟨env1, e1, ?_⟩
    rw [e2]
    simp only [W_ok]
    cases hb : p x with
    | false =>
      simp only [Bool.false_eq_true, if_false]
      rw [take_succ_of hx, List.filter_append, List.filter_cons_of_neg (by simp [hb])]
      simp
    | true =>
      simp only [if_true]
      refine (q hb).mono fun y st2 ⟨hy, hs⟩ => ⟨?_, ?_, hs⟩
      · rw [List.length_map]
        have := List.length_filter_le p (xs.take i)
        have h2 : (xs.take i).length ≤ xs.length := by rw [List.length_take]; omega
        omega
      · rw [take_succ_of hx, List.filter_append, List.filter_cons_of_pos hb, hy]
        simp
  obtain ⟨acc, st', e, rfl, rfl⟩ := w
  rw [e, List.take_length]
theorem fold_putD_len : ∀ (ps : List (Key × D)) (K : List (Key × D)), (ps.foldl (fun acc kv => putD acc kv.1 kv.2) K).length ≤ K.length + ps.length
  | [], K => Nat.le_refl _
  | p :: ps, K => by
    have := fold_putD_len ps (putD K p.1 p.2)
    have := putD_len K p.1 p.2
    simp only [List.foldl_cons, List.length_cons]
    omega
theorem dcomp_pure {xs : List D} {t : Tg} {tk tv : IE} {env : Lv} {st : Stt} (kf : D → Key) (vf : D → D)
    (step : ∀ x ∈ xs, ∃ env1, t.put x env = some env1 ∧ (tk env1 st).W fun y st2 => keyD y = some (kf x) ∧ st2 = st ∧ (tv env1 st).W fun z st3 => z = vf x ∧ st3 = st) (hn : xs.length < 10000000) :
    dcompN (srcTup xs) t tYesI tk tv env bigN 0 [] st = some ((xs.map fun x => (kf x, vf x)).foldl (fun acc kv => putD acc kv.1 kv.2) [], st) := by
  have w : oW (dcompN (srcTup xs) t tYesI tk tv env bigN 0 [] st) (fun acc st' => acc = ((xs.take xs.length).map fun x => (kf x, vf x)).foldl (fun acc kv => putD acc kv.1 kv.2) [] ∧ st' = st) := by
    refine dcomp_tup (fun i acc st' => acc = ((xs.take i).map fun x => (kf x, vf x)).foldl (fun acc kv => putD acc kv.1 kv.2) [] ∧ st' = st) ⟨by simp, rfl⟩ (fun i x acc st' hx h => ?_) (by omega)
    obtain ⟨rfl, rfl⟩ := h
    obtain ⟨env1, e1, y, st2, e2, hy, rfl, z, st3, e3, rfl, rfl⟩ := step x (List.mem_of_getElem? hx)
    refine ⟨env1, e1, ?_⟩
    simp only [w_yes, W_ok, if_true, e2, e3]
    refine ⟨kf x, hy, ?_, ?_, trivial⟩
    · have := fold_putD_len ((xs.take i).map fun x => (kf x, vf x)) []
      have h2 : (xs.take i).length ≤ xs.length := by rw [List.length_take]; omega
      simp only [List.length_map, List.length_nil] at this
      omega
    · rw [take_succ_of hx, List.map_append, List.foldl_append]
      rfl
  obtain ⟨acc, st', e, rfl, rfl⟩ := w
  rw [e, List.take_length]
theorem dcomp_pureK {ks : List (Key × D)} {k : Nat} {t : Tg} {tk tv : IE} {env : Lv} {st : Stt} (kf : Key → Key) (vf : Key → D) (hk : st[k]? = some (.dcf ks))
    (step : ∀ x ∈ ks, ∃ env1, t.put (dKey x.1) env = some env1 ∧ (tk env1 st).W fun y st2 => keyD y = some (kf x.1) ∧ st2 = st ∧ (tv env1 st).W fun z st3 => z = vf x.1 ∧ st3 = st) (hn : ks.length < 10000000) :
    dcompN (srcKeys k) t tYesI tk tv env bigN 0 [] st = some ((ks.map fun x => (kf x.1, vf x.1)).foldl (fun acc kv => putD acc kv.1 kv.2) [], st) := by
  have w : oW (dcompN (srcKeys k) t tYesI tk tv env bigN 0 [] st) (fun acc st' => acc = ((ks.take ks.length).map fun x => (kf x.1, vf x.1)).foldl (fun acc kv => putD acc kv.1 kv.2) [] ∧ st' = st) := by
    refine dcomp_keys (ks := ks) (fun i acc st' => acc = ((ks.take i).map fun x => (kf x.1, vf x.1)).foldl (fun acc kv => putD acc kv.1 kv.2) [] ∧ st' = st) ⟨by simp, rfl⟩ (fun i acc st' h => by obtain ⟨_, rfl⟩ := h; exact hk) (fun i x acc st' hx h => ?_) (by omega)
    obtain ⟨rfl, rfl⟩ := h
    obtain ⟨env1, e1, y, st2, e2, hy, rfl, z, st3, e3, rfl, rfl⟩ := step x (List.mem_of_getElem? hx)
    refine ⟨env1, e1, ?_⟩
    simp only [w_yes, W_ok, if_true, e2, e3]
    refine ⟨kf x.1, hy, ?_, ?_, trivial⟩
    · have := fold_putD_len ((ks.take i).map fun x => (kf x.1, vf x.1)) []
      have h2 : (ks.take i).length ≤ ks.length := by rw [List.length_take]; omega
      simp only [List.length_map, List.length_nil] at this
      omega
    · rw [take_succ_of hx, List.map_append, List.foldl_append]
      rfl
  obtain ⟨acc, st', e, rfl, rfl⟩ := w
  rw [e, List.take_length]
theorem valD_keyfold (g : Key → D) (j : Key) : ∀ (ks K0 : List (Key × D)), valD ((ks.map fun x => (x.1, g x.1)).foldl (fun acc kv => putD acc kv.1 kv.2) K0) j = if (valD ks j).isSome then some (g j) else valD K0 j
  | [], K0 => by simp [valD_nil]
  | (k, d) :: ks, K0 => by
    rw [List.map_cons, List.foldl_cons, valD_keyfold g j ks, valD_put, valD_cons]
    by_cases h : k = j
    · subst h
      by_cases h2 : (valD ks k).isSome = true <;> simp [h2]
    · simp [h, Ne.symm h]
end Iv

namespace BF
variable {α : Type} [DecidableEq α]
def one (u : α) (x : Int) : Mp α := upM (fun _ => none) u x
theorem one_some {u v : α} {x y : Int} : one u x v = some y ↔ v = u ∧ y = x := by
  unfold one
  by_cases h : v = u
  · subst h
    rw [upM_self]
    exact ⟨fun e => ⟨rfl, (Option.some.inj e).symm⟩, fun ⟨_, e⟩ => by rw [e]⟩
  · rw [upM_ne _ _ h]
    exact ⟨(fun e => nomatch e), fun ⟨e, _⟩ => (h e).elim⟩
/-- the greatest weight from u -/
def far (R : List (Row α)) (V : List α) (u : α) : Mp α := rounds R V.length (one u 0)
section
variable {R : List (Row α)} {V : List α} {p : α → Int}
theorem far_top (hp : Pot R p) (hR : ∀ r ∈ R, r.e ∈ V) {u : α} (hu : u ∈ V) : Top R (one u 0) (far R V u) :=
  Top.of hp hR (fun v x e => by rw [(one_some.mp e).1]; exact hu) (by omega)
theorem far_walk {u v : α} {y : Int} (h : far R V u v = some y) : ∃ n, Walk R u v y n := by
  obtain ⟨u', x0, w, n, e, g, rfl⟩ := Sound.rounds (R := R) (f0 := one u 0) V.length v y h
  obtain ⟨rfl, rfl⟩ := one_some.mp e
  exact ⟨n, g.cast (by omega) rfl⟩
theorem far_max (hp : Pot R p) (hR : ∀ r ∈ R, r.e ∈ V) {u : α} (hu : u ∈ V) {v : α} {w : Int} {n : Nat} (h : Walk R u v w n) : ∃ y, far R V u v = some y ∧ w ≤ y := by
  obtain ⟨y, e, l⟩ := (far_top hp hR hu).2 v w ⟨u, 0, w, n, one_some.mpr ⟨rfl, rfl⟩, h, by omega⟩ w rfl
  exact ⟨y, e, l⟩
theorem far_self (hp : Pot R p) (hR : ∀ r ∈ R, r.e ∈ V) {u : α} (hu : u ∈ V) : far R V u u = some 0 := by
  obtain ⟨y, e, l⟩ := far_max hp hR hu (Walk.nil u)
  obtain ⟨n, g⟩ := far_walk e
  have := g.pot hp
  have : y = 0 := by omega
  rw [e, this]
/-- beginnings at several places: the greatest of all -/
theorem top_some (hp : Pot R p) (hR : ∀ r ∈ R, r.e ∈ V) {f0 : Mp α} (h0 : ∀ u x, f0 u = some x → u ∈ V) {v : α} {y : Int} (h : rounds R V.length f0 v = some y) :
    (∃ u x w, f0 u = some x ∧ far R V u v = some w ∧ y = x + w) ∧ ∀ u x w, f0 u = some x → far R V u v = some w → x + w ≤ y := by
  have T : Top R f0 (rounds R V.length f0) := Top.of hp hR h0 (by omega)
  have up : ∀ u x w, f0 u = some x → far R V u v = some w → x + w ≤ y := fun u x w e1 e2 => by
    obtain ⟨n, g⟩ := far_walk e2
    obtain ⟨z, e3, l⟩ := T.2 v (x + w) ⟨u, x, w, n, e1, g, rfl⟩ _ rfl
    rw [h] at e3
    cases e3
    exact l
  refine ⟨?_, up⟩
  obtain ⟨u, x0, w, n, e, g, rfl⟩ := T.1 v y h
  obtain ⟨z, e2, l⟩ := far_max hp hR (h0 u x0 e) g
  have := up u x0 z e e2
  exact ⟨u, x0, z, e, e2, by omega⟩
theorem top_none (hp : Pot R p) (hR : ∀ r ∈ R, r.e ∈ V) {f0 : Mp α} (h0 : ∀ u x, f0 u = some x → u ∈ V) {v : α} (h : rounds R V.length f0 v = none) {u : α} {x : Int} (e : f0 u = some x) : far R V u v = none := by
  cases q : far R V u v with
  | none => rfl
  | some w =>
    obtain ⟨n, g⟩ := far_walk q
    have T : Top R f0 (rounds R V.length f0) := Top.of hp hR h0 (by omega)
    obtain ⟨z, e3, l⟩ := T.2 v (x + w) ⟨u, x, w, n, e, g, rfl⟩ _ rfl
    rw [h] at e3
    cases e3
/-- one beginning -/
theorem top_one (hp : Pot R p) (hR : ∀ r ∈ R, r.e ∈ V) {u : α} (hu : u ∈ V) (x : Int) (v : α) : rounds R V.length (one u x) v = (far R V u v).map (x + ·) := by
  have h0 : ∀ a b, one u x a = some b → a ∈ V := fun a b e => by rw [(one_some.mp e).1]; exact hu
  cases h : rounds R V.length (one u x) v with
  | none =>
    rw [top_none hp hR h0 h (one_some.mpr ⟨rfl, rfl⟩)]
    rfl
  | some y =>
    obtain ⟨⟨u', x', w, e1, e2, e3⟩, _⟩ := top_some hp hR h0 h
    obtain ⟨rfl, rfl⟩ := one_some.mp e1
    rw [e2, e3]
    rfl
/-- turned about -/
def bk (R : List (Row α)) : List (Row α) := R.map fun r => ⟨r.e, r.b, r.w⟩
theorem bk_mem {r : Row α} (h : r ∈ R) : (⟨r.e, r.b, r.w⟩ : Row α) ∈ bk R := List.mem_map_of_mem h
theorem bk_bk : bk (bk R) = R := by
  unfold bk
  rw [List.map_map]
  exact List.map_id R
theorem walk_bk {u v : α} {w : Int} {n : Nat} (h : Walk R u v w n) : Walk (bk R) v u w n := by
  induction h with
  | nil => exact .nil _
  | snoc h r hr hb ih =>
    subst hb
    exact ((Walk.one (bk_mem hr)).trans ih).cast (by show r.w + _ = _; omega) (by omega)
theorem pot_bk (hp : Pot R p) : Pot (bk R) fun v => -p v := fun r hr => by
  obtain ⟨q, hq, rfl⟩ := List.mem_map.mp hr
  have := hp q hq
  simp only
  omega
theorem far_bk (hp : Pot R p) (hR : ∀ r ∈ R, r.e ∈ V) (hR' : ∀ r ∈ R, r.b ∈ V) {u v : α} (hu : u ∈ V) (hv : v ∈ V) : far (bk R) V u v = far R V v u := by
  have hB : ∀ r ∈ bk R, r.e ∈ V := fun r hr => by
    obtain ⟨q, hq, rfl⟩ := List.mem_map.mp hr
    exact hR' q hq
  cases h : far (bk R) V u v with
  | none =>
    cases h2 : far R V v u with
    | none => rfl
    | some y =>
      obtain ⟨n, g⟩ := far_walk h2
      obtain ⟨z, e, _⟩ := far_max (pot_bk hp) hB hu (walk_bk g)
      rw [h] at e
      cases e
  | some y =>
    obtain ⟨n, g⟩ := far_walk h
    have g2 := walk_bk g
    rw [bk_bk] at g2
    obtain ⟨z, e, l⟩ := far_max hp hR hv g2
    obtain ⟨m, g3⟩ := far_walk e
    obtain ⟨z', e', l'⟩ := far_max (pot_bk hp) hB hu (walk_bk g3)
    rw [h] at e'
    cases e'
    have : y = z := by omega
    rw [e, this]
end
end BF

set_option maxHeartbeats 4000000
namespace Ev02
open PySem L2 Iv
def top (i : Nat) : Stmt := PySem.Challenge.pw_evenhour_k02_kept_room.main.body.getD i (.Pass ⟨0, 0, 0, 0⟩)
abbrev s_weighted : Stmt := top 1
abbrev s_greatest_sums : Stmt := top 2
abbrev s_against : Stmt := top 5
abbrev s_room : Stmt := top 4
abbrev s__law_cell : Stmt := top 7
abbrev s__law_digits : Stmt := top 8
abbrev s__law_draw : Stmt := top 9
abbrev s__law_pick : Stmt := top 10
abbrev s__law_like : Stmt := top 11
abbrev s__law_net : Stmt := top 12
abbrev s__law_far : Stmt := top 13
abbrev s__law_is_keepable : Stmt := top 14
abbrev s__law_kept_table : Stmt := top 15
abbrev s__law_period_of : Stmt := top 16
abbrev s__law_running : Stmt := top 17
abbrev s_law : Stmt := top 18
structure Zs (mg : Str → Option Value) : Prop where
  z_any : mg "any" = none
  z_bool : mg "bool" = none
  z_dict : mg "dict" = none
  z_int : mg "int" = none
  z_isinstance : mg "isinstance" = none
  z_len : mg "len" = none
  z_max : mg "max" = none
  z_min : mg "min" = none
  z_range : mg "range" = none
  z_str : mg "str" = none
  z_tuple : mg "tuple" = none
/-! ### what the defs compute -/
def b_weighted : IS :=
  sRet (eLc (iAny (eOp gIx (eVar 0) (eC (.int 2)))) (.tp [.nm 2, .nm 3, .nm 4, .nm 5, .nm 6]) (tYesI) (eTup (aCons (eVar 2) (aCons (eVar 3) (aCons (eVar 4) (aCons (eOp gSub (eVar 5) (eOp gMul (eVar 6) (eVar 1))) (aNil)))))) [2, 3, 4, 5, 6])
def F_weighted : Fn := fnB 2 7 (b_weighted)
def b_greatest_sums : IS :=
  sSeq (sSet 3 (eCB gDict (aCons (eVar 1) (aNil)))) (sSeq (sSet 4 (eDnew)) (sSeq (sSet 5 (eC .non)) (sSeq (sFor (Iv.iRng1 (aCons (eVar 2) (aNil))) (.nm 6) (sSeq (sSet 5 (eC .non)) (sSeq (sFor (iAny (eVar 0)) (.tp [.nm 7, .nm 8, .nm 9, .nm 10]) (sT (tAndI (tBool (eOp gIn (eVar 8) (eVar 3))) (tOrI (tBool (eOp gNotIn (eVar 9) (eVar 3))) (tBool (eOp gGt (eOp gAdd (eOp gIx (eVar 3) (eVar 8)) (eVar 10)) (eOp gIx (eVar 3) (eVar 9)))))) (sSeq (sSub (eVar 3) (eVar 9) (eOp gAdd (eOp gIx (eVar 3) (eVar 8)) (eVar 10))) (sSeq (sSub (eVar 4) (eVar 9) (eTup (aCons (eVar 7) (aCons (eVar 8) (aNil))))) (sSet 5 (eVar 9)))) (sNx))) (sT (tBool (eOp gIs (eVar 5) (eC .non))) (sBk) (sNx))))) (sRet (eTup (aCons (eVar 3) (aCons (eVar 4) (aCons (eVar 5) (aNil)))))))))
def F_greatest_sums : Fn := fnB 3 11 (b_greatest_sums)
def b_against (F_greatest_sums : Fn) : IS :=
  sSeq (sFor (iAny (eVar 1)) (.tp [.nm 3, .nm 4]) (sSeq (sTg (.tp [.nm 5, .nm 6, .nm 6]) (eCall 3 F_greatest_sums (aCons (eVar 0) (aCons (eDisp (psCons (eVar 3) (eVar 4) (psNil))) (aCons (eVar 2) (aNil)))))) (sFor (iAny (eVar 1)) (.tp [.nm 7, .nm 8]) (sT (tAndI (tBool (eOp gIn (eVar 7) (eVar 5))) (tBool (eOp gGt (eOp gIx (eVar 5) (eVar 7)) (eVar 8)))) (sRet (eTup (aCons (eC (.str "against")) (aCons (eVar 3) (aCons (eVar 7) (aNil)))))) (sNx))))) (sRet (eC .non))
def F_against : Fn := cutFn (fnB 3 9 (b_against F_greatest_sums))
def b_room (F_greatest_sums : Fn) (F_against : Fn) (F_weighted : Fn) : IS :=
  sSeq (sSet 3 (eCall 2 F_weighted (aCons (eVar 0) (aCons (eVar 1) (aNil))))) (sSeq (sSet 4 (eCB gLen (aCons (eOp gIx (eVar 0) (eC (.int 1))) (aNil)))) (sSeq (sTg (.tp [.nm 5, .nm 6, .nm 6]) (eCall 3 F_greatest_sums (aCons (eVar 3) (aCons (eCB gDict (aCons (eVar 2) (aNil))) (aCons (eVar 4) (aNil)))))) (sSeq (sT (tTruth (eCB gAny (aCons (eLc (iAny (eVar 2)) (.tp [.nm 10, .nm 11]) (tYesI) (eOp gGt (eOp gIx (eVar 5) (eVar 10)) (eVar 11)) [10, 11]) (aNil)))) (sRet (eCall 3 F_against (aCons (eVar 3) (aCons (eVar 2) (aCons (eVar 4) (aNil)))))) (sNx)) (sSeq (sSet 7 (eLc (iAny (eVar 3)) (.tp [.nm 12, .nm 13, .nm 14, .nm 15]) (tYesI) (eTup (aCons (eVar 12) (aCons (eVar 14) (aCons (eVar 13) (aCons (eVar 15) (aNil)))))) [12, 13, 14, 15])) (sSeq (sTg (.tp [.nm 8, .nm 6, .nm 6]) (eCall 3 F_greatest_sums (aCons (eVar 7) (aCons (eDc (iAny (eVar 2)) (.tp [.nm 10, .nm 11]) (tYesI) (eVar 10) (eUn gNeg (eVar 11)) [10, 11]) (aCons (eVar 4) (aNil)))))) (sSeq (sSet 9 (eLk (eVar 8) (eDc (iAny (eVar 8)) (.nm 10) (tYesI) (eVar 10) (eUn gNeg (eOp gIx (eVar 8) (eVar 10))) [10]))) (sRet (eTup (aCons (eC (.str "room")) (aCons (eCB gTuple (aCons (eLc (iAny (eOp gIx (eVar 0) (eC (.int 1)))) (.nm 10) (tYesI) (eTup (aCons (eVar 10) (aCons (eM "dict" gGet (eVar 5) (aCons (eVar 10) (aNil))) (aCons (eM "dict" gGet (eVar 9) (aCons (eVar 10) (aNil))) (aNil))))) [10]) (aNil))) (aNil)))))))))))
def F_room : Fn := cutFn (fnB 3 16 (b_room F_greatest_sums F_against F_weighted))
def b__law_cell : IS :=
  sSeq (sT (tBool (eOp gLt (eVar 1) (eCB gLen (aCons (eVar 0) (aNil))))) (sRet (eOp gIx (eVar 0) (eVar 1))) (sNx)) (sRet (eC (.int 0)))
def F__law_cell : Fn := fnB 2 2 (b__law_cell)
def b__law_digits (F__law_cell : Fn) : IS :=
  sSeq (sSet 3 (eLst (aNil))) (sSeq (sFor (iRng2 (aCons (eVar 1) (aCons (eVar 2) (aNil)))) (.nm 4) (sSeq (sSet 5 (eCall 2 F__law_cell (aCons (eVar 0) (aCons (eVar 4) (aNil))))) (sSeq (sT (tBool (eOp gLt (eVar 5) (eC (.int 0)))) (sSet 5 (eOp gSub (eC (.int 1)) (eOp gMul (eC (.int 2)) (eVar 5)))) (sNx)) (sSeq (sT (tBool (eOp gGt (eCB gLen (aCons (eVar 3) (aNil))) (eC (.int 1500)))) (sBk) (sNx)) (sT (tBool (eOp gGe (eVar 5) (eOp gPow (eC (.int 10)) (eC (.int 18))))) (sFor (Iv.iRng1 (aCons (eC (.int 60)) (aNil))) (.nm 6) (sT (tBool (eOp gGt (eVar 5) (eC (.int 0)))) (sSeq (sDrop (eM "list" gAppend (eVar 3) (aCons (eOp gMod (eCB gInt (aCons (eVar 5) (aNil))) (eC (.int 1000))) (aNil)))) (sSet 5 (eOp gFdiv (eVar 5) (eC (.int 1000))))) (sNx))) (sSeq (sSet 7 (eOp gMod (eCB gInt (aCons (eOp gAdd (eOp gAdd (eOp gMul (eVar 5) (eC (.int 48271))) (eOp gMul (eVar 4) (eC (.int 69621)))) (eC (.int 11))) (aNil))) (eC (.int 2147483647)))) (sFor (Iv.iRng1 (aCons (eC (.int 12)) (aNil))) (.nm 6) (sSeq (sSet 7 (eOp gMod (eCB gInt (aCons (eOp gAdd (eOp gAdd (eOp gMul (eVar 7) (eC (.int 16807))) (eOp gMul (eC (.int 7)) (eVar 6))) (eC (.int 1))) (aNil))) (eC (.int 2147483647)))) (sDrop (eM "list" gAppend (eVar 3) (aCons (eOp gMod (eCB gInt (aCons (eOp gFdiv (eVar 7) (eC (.int 997))) (aNil))) (eC (.int 1000))) (aNil)))))))))))) (sRet (eVar 3)))
def F__law_digits : Fn := fnB 3 8 (b__law_digits F__law_cell)
def b__law_draw : IS :=
  sSeq (sSet 2 (eOp gIx (eVar 0) (eC (.int 1)))) (sSeq (sSub (eVar 0) (eC (.int 1)) (eOp gAdd (eVar 2) (eC (.int 1)))) (sSeq (sT (tBool (eOp gLt (eVar 2) (eCB gLen (aCons (eOp gIx (eVar 0) (eC (.int 0))) (aNil))))) (sRet (eOp gMod (eCB gInt (aCons (eOp gIx (eOp gIx (eVar 0) (eC (.int 0))) (eVar 2)) (aNil))) (eVar 1))) (sNx)) (sRet (eOp gMod (eCB gInt (aCons (eOp gMul (eVar 2) (eC (.int 7))) (aNil))) (eVar 1)))))
def F__law_draw : Fn := fnB 2 3 (b__law_draw)
def b__law_pick (F__law_draw : Fn) : IS :=
  sRet (eOp gIx (eVar 1) (eOp gMod (eCB gInt (aCons (eCall 2 F__law_draw (aCons (eVar 0) (aCons (eC (.int 900)) (aNil)))) (aNil))) (eCB gLen (aCons (eVar 1) (aNil)))))
def F__law_pick : Fn := fnB 2 2 (b__law_pick F__law_draw)
def b__law_like (F__law_like : Fn) : IS :=
  sSeq (sT (tTruth (eCB gIsi (aCons (eVar 1) (aCons (eC (.ty "tuple")) (aNil))))) (sSeq (sT (tOrI (tNotI (tTruth (eCB gIsi (aCons (eVar 0) (aCons (eC (.ty "tuple")) (aNil)))))) (tBool (eOp gNe (eCB gLen (aCons (eVar 0) (aNil))) (eCB gLen (aCons (eVar 1) (aNil)))))) (sRet (eC (.bl false))) (sNx)) (sRet (eOp gEq (eLc (Iv.iRng1 (aCons (eCB gLen (aCons (eVar 1) (aNil))) (aNil))) (.nm 2) (tNotI (tTruth (eCall 2 F__law_like (aCons (eOp gIx (eVar 0) (eVar 2)) (aCons (eOp gIx (eVar 1) (eVar 2)) (aNil)))))) (eC (.int 1)) [2]) (eLst (aNil))))) (sNx)) (sSeq (sT (tBool (eOp gIs (eVar 1) (eC .non))) (sRet (eOp gIs (eVar 0) (eC .non))) (sNx)) (sSeq (sT (tBool (eOp gIs (eVar 1) (eC (.bl true)))) (sRet (eOp gIs (eVar 0) (eC (.bl true)))) (sNx)) (sSeq (sT (tBool (eOp gIs (eVar 1) (eC (.bl false)))) (sRet (eOp gIs (eVar 0) (eC (.bl false)))) (sNx)) (sSeq (sT (tTruth (eCB gIsi (aCons (eVar 1) (aCons (eC (.ty "str")) (aNil))))) (sRet (eAnd (eCB gIsi (aCons (eVar 0) (aCons (eC (.ty "str")) (aNil)))) (eOp gEq (eM "str" gJoin (eC (.str "")) (aCons (eLst (aCons (eVar 0) (aNil))) (aNil))) (eVar 1)))) (sNx)) (sRet (eAnd (eCB gIsi (aCons (eVar 0) (aCons (eC (.ty "int")) (aNil)))) (eAnd (eNot (eCB gIsi (aCons (eVar 0) (aCons (eC (.ty "bool")) (aNil))))) (eOp gEq (eVar 0) (eVar 1)))))))))
def R__law_like : Nat → Fn
  | 0 => noFn
  | k + 1 => cutFn (fnB 2 3 (b__law_like (R__law_like k)))
def F__law_like : Fn := R__law_like 6
def b__law_net (F__law_draw : Fn) (F__law_pick : Fn) : IS :=
  sSeq (sSet 3 (eSl (eLst (aCons (eC (.str "a")) (aCons (eC (.str "b")) (aCons (eC (.str "c")) (aCons (eC (.str "d")) (aCons (eC (.str "e")) (aCons (eC (.str "f")) (aNil)))))))) (oNone) (oSome (eOp gAdd (eC (.int 2)) (eCall 2 F__law_draw (aCons (eVar 0) (aCons (eOp gSub (eVar 1) (eC (.int 1))) (aNil)))))))) (sSeq (sSet 4 (eLst (aNil))) (sSeq (sFor (Iv.iRng1 (aCons (eCB gLen (aCons (eVar 3) (aNil))) (aNil))) (.nm 5) (sSeq (sSet 6 (eOp gAdd (eOp gIx (eLst (aCons (eC (.int 0)) (aCons (eC (.int 0)) (aCons (eC (.int 0)) (aCons (eC (.int 1)) (aNil)))))) (eCall 2 F__law_draw (aCons (eVar 0) (aCons (eC (.int 4)) (aNil))))) (eCB gInt (aCons (eOp gEq (eVar 5) (eOp gSub (eCB gLen (aCons (eVar 3) (aNil))) (eC (.int 1)))) (aNil))))) (sDrop (eM "list" gAppend (eVar 4) (aCons (eTup (aCons (eOp gAdd (eC (.str "r")) (eCB gStr (aCons (eVar 5) (aNil)))) (aCons (eOp gIx (eVar 3) (eVar 5)) (aCons (eOp gIx (eVar 3) (eOp gMod (eCB gInt (aCons (eOp gAdd (eVar 5) (eC (.int 1))) (aNil))) (eCB gLen (aCons (eVar 3) (aNil))))) (aCons (eCall 2 F__law_draw (aCons (eVar 0) (aCons (eC (.int 14)) (aNil)))) (aCons (eVar 6) (aNil))))))) (aNil)))))) (sSeq (sFor (Iv.iRng1 (aCons (eCall 2 F__law_draw (aCons (eVar 0) (aCons (eVar 2) (aNil)))) (aNil))) (.nm 5) (sSeq (sSet 6 (eOp gIx (eLst (aCons (eC (.int 0)) (aCons (eC (.int 1)) (aCons (eC (.int 1)) (aCons (eC (.int 2)) (aNil)))))) (eCall 2 F__law_draw (aCons (eVar 0) (aCons (eC (.int 4)) (aNil)))))) (sDrop (eM "list" gAppend (eVar 4) (aCons (eTup (aCons (eOp gAdd (eC (.str "s")) (eCB gStr (aCons (eVar 5) (aNil)))) (aCons (eCall 2 F__law_pick (aCons (eVar 0) (aCons (eVar 3) (aNil)))) (aCons (eCall 2 F__law_pick (aCons (eVar 0) (aCons (eVar 3) (aNil)))) (aCons (eCall 2 F__law_draw (aCons (eVar 0) (aCons (eC (.int 20)) (aNil)))) (aCons (eVar 6) (aNil))))))) (aNil)))))) (sSeq (sSet 7 (eLc (iAny (eVar 4)) (.nm 8) (tOrI (tBool (eOp gGt (eCall 2 F__law_draw (aCons (eVar 0) (aCons (eC (.int 8)) (aNil)))) (eC (.int 0)))) (tBool (eOp gEq (eOp gIx (eVar 8) (eC (.int 0))) (eC (.str "r0"))))) (eVar 8) [8])) (sRet (eTup (aCons (eC (.str "net")) (aCons (eCB gTuple (aCons (eVar 3) (aNil))) (aCons (eCB gTuple (aCons (eVar 7) (aNil))) (aNil))))))))))
def F__law_net : Fn := fnB 3 9 (b__law_net F__law_draw F__law_pick)
def b__law_far : IS :=
  sSeq (sSet 3 (eDnew)) (sSeq (sFor (iAny (eOp gIx (eVar 0) (eC (.int 1)))) (.nm 4) (sSub (eVar 3) (eVar 4) (eIf (tOrI (tBool (eOp gIs (eVar 2) (eC .non))) (tBool (eOp gEq (eVar 4) (eVar 2)))) (eC (.int 0)) (eC .non)))) (sSeq (sFor (Iv.iRng1 (aCons (eOp gAdd (eCB gLen (aCons (eOp gIx (eVar 0) (eC (.int 1))) (aNil))) (eC (.int 1))) (aNil))) (.nm 5) (sSeq (sSet 6 (eC (.bl false))) (sSeq (sFor (iAny (eOp gIx (eVar 0) (eC (.int 2)))) (.tp [.nm 7, .nm 8, .nm 9, .nm 10, .nm 11]) (sT (tBool (eOp gIsNot (eOp gIx (eVar 3) (eVar 8)) (eC .non))) (sSeq (sSet 12 (eOp gSub (eOp gAdd (eOp gIx (eVar 3) (eVar 8)) (eVar 10)) (eOp gMul (eVar 11) (eVar 1)))) (sT (tOrI (tBool (eOp gIs (eOp gIx (eVar 3) (eVar 9)) (eC .non))) (tBool (eOp gLt (eOp gIx (eVar 3) (eVar 9)) (eVar 12)))) (sSeq (sSub (eVar 3) (eVar 9) (eVar 12)) (sSet 6 (eC (.bl true)))) (sNx))) (sNx))) (sT (tNotI (tTruth (eVar 6))) (sRet (eVar 3)) (sNx))))) (sRet (eC .non))))
def F__law_far : Fn := fnB 3 13 (b__law_far)
def b__law_is_keepable (F__law_far : Fn) : IS :=
  sRet (eOp gIsNot (eCall 3 F__law_far (aCons (eVar 0) (aCons (eVar 1) (aCons (eC .non) (aNil))))) (eC .non))
def F__law_is_keepable : Fn := cutFn (fnB 2 2 (b__law_is_keepable F__law_far))
def b__law_kept_table (F__law_draw : Fn) : IS :=
  sSeq (sSet 3 (eDnew)) (sSeq (sFor (iAny (eOp gIx (eVar 1) (eC (.int 1)))) (.nm 4) (sSub (eVar 3) (eVar 4) (eOp gSub (eCall 2 F__law_draw (aCons (eVar 0) (aCons (eC (.int 30)) (aNil)))) (eC (.int 10))))) (sSeq (sFor (Iv.iRng1 (aCons (eOp gAdd (eCB gLen (aCons (eOp gIx (eVar 1) (eC (.int 1))) (aNil))) (eC (.int 1))) (aNil))) (.nm 5) (sFor (iAny (eOp gIx (eVar 1) (eC (.int 2)))) (.tp [.nm 6, .nm 7, .nm 8, .nm 9, .nm 10]) (sSub (eVar 3) (eVar 8) (eCB gMax2 (aCons (eOp gIx (eVar 3) (eVar 8)) (aCons (eOp gSub (eOp gAdd (eOp gIx (eVar 3) (eVar 7)) (eVar 9)) (eOp gMul (eVar 10) (eVar 2))) (aNil))))))) (sRet (eTup (aCons (eC (.str "table")) (aCons (eVar 2) (aCons (eCB gTuple (aCons (eLc (iAny (eOp gIx (eVar 1) (eC (.int 1)))) (.nm 4) (tYesI) (eTup (aCons (eVar 4) (aCons (eOp gIx (eVar 3) (eVar 4)) (aNil)))) [4]) (aNil))) (aNil))))))))
def F__law_kept_table : Fn := fnB 3 11 (b__law_kept_table F__law_draw)
def b__law_period_of (F__law_pick : Fn) (F__law_is_keepable : Fn) : IS :=
  sSeq (sTg (.tp [.nm 2, .nm 3]) (eTup (aCons (eC (.int 0)) (aCons (eC (.int 400)) (aNil))))) (sSeq (sT (tNotI (tTruth (eCall 2 F__law_is_keepable (aCons (eVar 1) (aCons (eVar 3) (aNil)))))) (sRet (eC .non)) (sNx)) (sSeq (sWhile (tBool (eOp gGt (eOp gSub (eVar 3) (eVar 2)) (eC (.int 1)))) (sSeq (sSet 4 (eOp gFdiv (eOp gAdd (eVar 2) (eVar 3)) (eC (.int 2)))) (sT (tTruth (eCall 2 F__law_is_keepable (aCons (eVar 1) (aCons (eVar 4) (aNil))))) (sSet 3 (eVar 4)) (sSet 2 (eVar 4))))) (sRet (eOp gAdd (eVar 3) (eCall 2 F__law_pick (aCons (eVar 0) (aCons (eLst (aCons (eC (.int 0)) (aCons (eC (.int 0)) (aCons (eC (.int 1)) (aCons (eC (.int 3)) (aCons (eC (.int 10)) (aNil))))))) (aNil))))))))
def F__law_period_of : Fn := fnB 2 5 (b__law_period_of F__law_pick F__law_is_keepable)
def b__law_running (F__law_period_of : Fn) (F__law_net : Fn) : IS :=
  sSeq (sSet 3 (eCall 3 F__law_net (aCons (eVar 0) (aCons (eVar 1) (aCons (eVar 2) (aNil)))))) (sSeq (sSet 4 (eCall 2 F__law_period_of (aCons (eVar 0) (aCons (eVar 3) (aNil))))) (sSeq (sT (tBool (eOp gIs (eVar 4) (eC .non))) (sSeq (sSet 3 (eOp gAdd (eSl (eVar 3) (oNone) (oSome (eC (.int 2)))) (eTup (aCons (eCB gTuple (aCons (eLc (iAny (eOp gIx (eVar 3) (eC (.int 2)))) (.nm 5) (tYesI) (eOp gAdd (eSl (eVar 5) (oNone) (oSome (eC (.int 4)))) (eTup (aCons (eCB gMax2 (aCons (eOp gIx (eVar 5) (eC (.int 4))) (aCons (eCB gInt (aCons (eOp gGe (eOp gIx (eVar 5) (eC (.int 0))) (eC (.str "s"))) (aNil))) (aNil)))) (aNil)))) [5]) (aNil))) (aNil))))) (sSet 4 (eCall 2 F__law_period_of (aCons (eVar 0) (aCons (eVar 3) (aNil)))))) (sNx)) (sRet (eLst (aCons (eVar 3) (aCons (eVar 4) (aNil)))))))
def F__law_running : Fn := fnB 3 6 (b__law_running F__law_period_of F__law_net)
def b_law (F__law_like : Fn) (F_room : Fn) (F__law_far : Fn) (F__law_draw : Fn) (F__law_pick : Fn) (F__law_kept_table : Fn) (F__law_running : Fn) (F__law_digits : Fn) : IS :=
  sSeq (sSet 1 (eLst (aCons (eCall 3 F__law_digits (aCons (eVar 0) (aCons (eC (.int 0)) (aCons (eC (.int 63)) (aNil))))) (aCons (eC (.int 0)) (aNil))))) (sSeq (sTgL [.nm 2, .nm 3] (eCall 3 F__law_running (aCons (eVar 1) (aCons (eC (.int 5)) (aCons (eC (.int 7)) (aNil)))))) (sSeq (sSet 4 (eCall 3 F__law_kept_table (aCons (eVar 1) (aCons (eVar 2) (aCons (eVar 3) (aNil)))))) (sSeq (sSet 5 (eLst (aNil))) (sSeq (sFor (iAny (eOp gIx (eVar 4) (eC (.int 2)))) (.tp [.nm 6, .nm 7]) (sT (tBool (eOp gEq (eCall 2 F__law_draw (aCons (eVar 1) (aCons (eC (.int 3)) (aNil)))) (eC (.int 0)))) (sDrop (eM "list" gAppend (eVar 5) (aCons (eTup (aCons (eVar 6) (aCons (eOp gAdd (eVar 7) (eCall 2 F__law_pick (aCons (eVar 1) (aCons (eLst (aCons (eC (.int 0)) (aCons (eC (.int 0)) (aCons (eC (.int 0)) (aCons (eC (.int 0)) (aCons (eC (.int 0)) (aCons (eC (.int 0)) (aCons (eC (.int 1)) (aCons (eOp gSub (eC (.int 0)) (eC (.int 4))) (aNil)))))))))) (aNil))))) (aNil)))) (aNil)))) (sNx))) (sSeq (sSet 8 (eCB gDict (aCons (eLc (iAny (eOp gIx (eVar 2) (eC (.int 1)))) (.nm 6) (tYesI) (eTup (aCons (eVar 6) (aCons (eCall 3 F__law_far (aCons (eVar 2) (aCons (eVar 3) (aCons (eVar 6) (aNil))))) (aNil)))) [6]) (aNil)))) (sSeq (sSet 9 (eC .non)) (sSeq (sFor (iAny (eVar 5)) (.tp [.nm 10, .nm 7]) (sFor (iAny (eVar 5)) (.tp [.nm 11, .nm 12]) (sT (tAndI (tBool (eOp gIs (eVar 9) (eC .non))) (tAndI (tBool (eOp gNe (eVar 10) (eVar 11))) (tAndI (tBool (eOp gIsNot (eOp gIx (eOp gIx (eVar 8) (eVar 10)) (eVar 11)) (eC .non))) (tBool (eOp gGt (eOp gIx (eOp gIx (eVar 8) (eVar 10)) (eVar 11)) (eOp gSub (eVar 12) (eVar 7))))))) (sSet 9 (eTup (aCons (eC (.str "against")) (aCons (eVar 10) (aCons (eVar 11) (aNil)))))) (sNx)))) (sSeq (sT (tBool (eOp gIs (eVar 9) (eC .non))) (sSeq (sSet 13 (eLst (aNil))) (sSeq (sFor (iAny (eOp gIx (eVar 2) (eC (.int 1)))) (.nm 6) (sSeq (sSet 14 (eLc (iAny (eVar 5)) (.tp [.nm 10, .nm 7]) (tBool (eOp gIsNot (eOp gIx (eOp gIx (eVar 8) (eVar 10)) (eVar 6)) (eC .non))) (eOp gAdd (eVar 7) (eOp gIx (eOp gIx (eVar 8) (eVar 10)) (eVar 6))) [10, 7])) (sSeq (sSet 15 (eLc (iAny (eVar 5)) (.tp [.nm 10, .nm 7]) (tBool (eOp gIsNot (eOp gIx (eOp gIx (eVar 8) (eVar 6)) (eVar 10)) (eC .non))) (eOp gSub (eVar 7) (eOp gIx (eOp gIx (eVar 8) (eVar 6)) (eVar 10))) [10, 7])) (sDrop (eM "list" gAppend (eVar 13) (aCons (eTup (aCons (eVar 6) (aCons (eIf (tBool (eOp gEq (eVar 14) (eLst (aNil)))) (eC .non) (eCB gMax (aCons (eVar 14) (aNil)))) (aCons (eIf (tBool (eOp gEq (eVar 15) (eLst (aNil)))) (eC .non) (eCB gMin (aCons (eVar 15) (aNil)))) (aNil))))) (aNil))))))) (sSet 9 (eTup (aCons (eC (.str "room")) (aCons (eCB gTuple (aCons (eVar 13) (aNil))) (aNil))))))) (sNx)) (sRet (eCall 2 F__law_like (aCons (eCall 3 F_room (aCons (eVar 2) (aCons (eVar 3) (aCons (eCB gTuple (aCons (eVar 5) (aNil))) (aNil))))) (aCons (eVar 9) (aNil)))))))))))))
def F_law : Fn := fnB 1 16 (b_law F__law_like F_room F__law_far F__law_draw F__law_pick F__law_kept_table F__law_running F__law_digits)
/-! ### the walk -/
section
variable {P : Program} {w : World} {K : PySem.W.Frag} {mg : Str → Option Value} {base : Heap} {cl : String → Addr} {f : Addr} {fd : FuncData}
theorem sc_weighted : FnScope ["net", "period", "name", "begin", "end", "least", "turns"] ["net", "period"] (defScope s_weighted) := ⟨rfl, rfl, rfl, by decide +kernel, rfl, by decide +kernel, by decide +kernel⟩
theorem ok_weighted (F : Fun K "weighted" "weighted" s_weighted f fd) (hm : mg "weighted" = some (.ref f)) (hb : Binds K fd ["net", "period"] []) (Z : Zs mg)  : Callee P w K mg base cl 1 "weighted" 2 F_weighted := by
  have sc := sc_weighted
  refine (Callee.of F sc hm hb rfl fun cdv A outer s H E hr => ?_ : Callee P w K mg base cl 1 "weighted" 2 (fnB 2 7 (b_weighted)))
  have hu := hr.units
  unfold b_weighted
  exact (is_one (s_ret (i_lc (own := [("name", 2), ("begin", 3), ("end", 4), ("least", 5), ("turns", 6)]) rfl sc.nd (ii_any (i_ix (o_ix hu) (iv (pv 0)) i_int (fun _ _ => rfl))) (blkOk_by (by kernel_rfl)) (by decide) (fun _ _ _ _ _ => (g_tp rfl (gs_cons (g_nm sc.nd rfl (by first | exact .inl rfl | exact .inr rfl)) (gs_cons (g_nm sc.nd rfl (by first | exact .inl rfl | exact .inr rfl)) (gs_cons (g_nm sc.nd rfl (by first | exact .inl rfl | exact .inr rfl)) (gs_cons (g_nm sc.nd rfl (by first | exact .inl rfl | exact .inr rfl)) (gs_cons (g_nm sc.nd rfl (by first | exact .inl rfl | exact .inr rfl)) gs_nil))))))) (fun _ _ _ _ _ => its_nil) (fun _ _ _ _ _ => (i_tup (ia_cons (iv (pv 2)) (ia_cons (iv (pv 3)) (ia_cons (iv (pv 4)) (ia_cons (i_op o_sub (iv (pv 5)) (i_op o_mul (iv (pv 6)) (iv (pv 1)))) ia_nil)))))))))
theorem sc_greatest_sums : FnScope ["rows", "starts", "many", "sums", "last", "raised", "_", "name", "begin", "end", "weight"] ["rows", "starts", "many"] (defScope s_greatest_sums) := ⟨rfl, rfl, rfl, by decide +kernel, rfl, by decide +kernel, by decide +kernel⟩
theorem ok_greatest_sums (F : Fun K "greatest_sums" "greatest_sums" s_greatest_sums f fd) (hm : mg "greatest_sums" = some (.ref f)) (hb : Binds K fd ["rows", "starts", "many"] []) (Z : Zs mg)  : Callee P w K mg base cl 1 "greatest_sums" 3 F_greatest_sums := by
  have sc := sc_greatest_sums
  refine (Callee.of F sc hm hb rfl fun cdv A outer s H E hr => ?_ : Callee P w K mg base cl 1 "greatest_sums" 3 (fnB 3 11 (b_greatest_sums)))
  have hu := hr.units
  unfold b_greatest_sums
  exact (is_cons (s_set sc.nd rfl (by first | exact .inl rfl | exact .inr rfl) (i_callT (c_dict rfl) rfl Z.z_dict rfl (ia_cons (iv (pv 1)) ia_nil))) (is_cons (s_set sc.nd rfl (by first | exact .inl rfl | exact .inr rfl) i_dnew) (is_cons (s_set sc.nd rfl (by first | exact .inl rfl | exact .inr rfl) i_non) (is_cons (s_for ppD rfl (ii_rng1 rfl Z.z_range (ia_cons (iv (pv 2)) ia_nil)) (g_nm sc.nd rfl (by first | exact .inl rfl | exact .inr rfl)) (is_cons (s_set sc.nd rfl (by first | exact .inl rfl | exact .inr rfl) i_non) (is_cons (s_for ppD rfl (ii_any (iv (pv 0))) (g_tp rfl (gs_cons (g_nm sc.nd rfl (by first | exact .inl rfl | exact .inr rfl)) (gs_cons (g_nm sc.nd rfl (by first | exact .inl rfl | exact .inr rfl)) (gs_cons (g_nm sc.nd rfl (by first | exact .inl rfl | exact .inr rfl)) (gs_cons (g_nm sc.nd rfl (by first | exact .inl rfl | exact .inr rfl)) gs_nil))))) (is_one (s_if (PW.pt (iw_and (it_cmp (o_in hu) (iv (pv 8)) (iv (pv 3)) rfl) (iw_and1 (PW.pt (iw_or (it_cmp (o_notin hu) (iv (pv 9)) (iv (pv 3)) rfl) (iw_or1 (it_cmp o_gt (i_op o_add (i_ix (o_ix hu) (iv (pv 3)) (iv (pv 8)) (fun _ _ => rfl)) (iv (pv 10))) (i_ix (o_ix hu) (iv (pv 3)) (iv (pv 9)) (fun _ _ => rfl)) rfl))))))) (is_cons (s_sub hu (iv (pv 3)) (iv (pv 9)) (i_op o_add (i_ix (o_ix hu) (iv (pv 3)) (iv (pv 8)) (fun _ _ => rfl)) (iv (pv 10)))) (is_cons (s_sub hu (iv (pv 4)) (iv (pv 9)) (i_tup (ia_cons (iv (pv 7)) (ia_cons (iv (pv 8)) ia_nil)))) (is_one (s_set sc.nd rfl (by first | exact .inl rfl | exact .inr rfl) (iv (pv 9)))))) is_nil))) (is_one (s_if (it_cmp o_is (iv (pv 5)) i_non rfl) (is_one s_break) is_nil))))) (is_one (s_ret (i_tup (ia_cons (iv (pv 3)) (ia_cons (iv (pv 4)) (ia_cons (iv (pv 5)) ia_nil))))))))))
theorem sc_against : FnScope ["rows", "fixed", "many", "first", "minute", "sums", "_", "second", "other"] ["rows", "fixed", "many"] (defScope s_against) := ⟨rfl, rfl, rfl, by decide +kernel, rfl, by decide +kernel, by decide +kernel⟩
theorem ok_against (F : Fun K "against" "against" s_against f fd) (hm : mg "against" = some (.ref f)) (hb : Binds K fd ["rows", "fixed", "many"] []) (Z : Zs mg) (C_greatest_sums : Callee P w K mg base cl 1 "greatest_sums" 3 F_greatest_sums) : Callee P w K mg base cl 2 "against" 3 F_against := by
  have sc := sc_against
  refine Callee.cut (Callee.of F sc hm hb rfl fun cdv A outer s H E hr => ?_ : Callee P w K mg base cl 2 "against" 3 (fnB 3 9 (b_against F_greatest_sums)))
  have hu := hr.units
  unfold b_against
  exact (is_cons (s_for ppD rfl (ii_any (iv (pv 1))) (g_tp rfl (gs_cons (g_nm sc.nd rfl (by first | exact .inl rfl | exact .inr rfl)) (gs_cons (g_nm sc.nd rfl (by first | exact .inl rfl | exact .inr rfl)) gs_nil))) (is_cons (s_tg (i_call C_greatest_sums (hr.mono (by decide)) rfl passD (ia_cons (iv (pv 0)) (ia_cons (i_disp (pps_cons (iv (pv 3)) (iv (pv 4)) pps_nil) (.cons .nil) rfl rfl (by intro h; cases h) (by decide)) (ia_cons (iv (pv 2)) ia_nil)))) (g_tp rfl (gs_cons (g_nm sc.nd rfl (by first | exact .inl rfl | exact .inr rfl)) (gs_cons (g_nm sc.nd rfl (by first | exact .inl rfl | exact .inr rfl)) (gs_cons (g_nm sc.nd rfl (by first | exact .inl rfl | exact .inr rfl)) gs_nil))))) (is_one (s_for ppD rfl (ii_any (iv (pv 1))) (g_tp rfl (gs_cons (g_nm sc.nd rfl (by first | exact .inl rfl | exact .inr rfl)) (gs_cons (g_nm sc.nd rfl (by first | exact .inl rfl | exact .inr rfl)) gs_nil))) (is_one (s_if (PW.pt (iw_and (it_cmp (o_in hu) (iv (pv 7)) (iv (pv 5)) rfl) (iw_and1 (it_cmp o_gt (i_ix (o_ix hu) (iv (pv 5)) (iv (pv 7)) (fun _ _ => rfl)) (iv (pv 8)) rfl)))) (is_one (s_ret (i_tup (ia_cons i_str (ia_cons (iv (pv 3)) (ia_cons (iv (pv 7)) ia_nil)))))) is_nil)))))) (is_one (s_ret i_non)))
theorem sc_room : FnScope ["net", "period", "fixed", "rows", "many", "earliest", "_", "back", "below", "latest", "event", "minute", "name", "begin", "end", "weight"] ["net", "period", "fixed"] (defScope s_room) := ⟨rfl, rfl, rfl, by decide +kernel, rfl, by decide +kernel, by decide +kernel⟩
theorem ok_room (F : Fun K "room" "room" s_room f fd) (hm : mg "room" = some (.ref f)) (hb : Binds K fd ["net", "period", "fixed"] []) (Z : Zs mg) (C_greatest_sums : Callee P w K mg base cl 1 "greatest_sums" 3 F_greatest_sums) (C_against : Callee P w K mg base cl 2 "against" 3 F_against) (C_weighted : Callee P w K mg base cl 1 "weighted" 2 F_weighted) : Callee P w K mg base cl 3 "room" 3 F_room := by
  have sc := sc_room
  refine Callee.cut (Callee.of F sc hm hb rfl fun cdv A outer s H E hr => ?_ : Callee P w K mg base cl 3 "room" 3 (fnB 3 16 (b_room F_greatest_sums F_against F_weighted)))
  have hu := hr.units
  unfold b_room
  exact (is_cons (s_set sc.nd rfl (by first | exact .inl rfl | exact .inr rfl) (i_call C_weighted (hr.mono (by decide)) rfl passD (ia_cons (iv (pv 0)) (ia_cons (iv (pv 1)) ia_nil)))) (is_cons (s_set sc.nd rfl (by first | exact .inl rfl | exact .inr rfl) (i_callB c_len rfl Z.z_len rfl (ia_cons (i_ix (o_ix hu) (iv (pv 0)) i_int (fun _ _ => rfl)) ia_nil))) (is_cons (s_tg (i_call C_greatest_sums (hr.mono (by decide)) rfl passD (ia_cons (iv (pv 3)) (ia_cons (i_callT (c_dict rfl) rfl Z.z_dict rfl (ia_cons (iv (pv 2)) ia_nil)) (ia_cons (iv (pv 4)) ia_nil)))) (g_tp rfl (gs_cons (g_nm sc.nd rfl (by first | exact .inl rfl | exact .inr rfl)) (gs_cons (g_nm sc.nd rfl (by first | exact .inl rfl | exact .inr rfl)) (gs_cons (g_nm sc.nd rfl (by first | exact .inl rfl | exact .inr rfl)) gs_nil))))) (is_cons (s_if (it_truth (i_callB (c_any rfl) rfl Z.z_any rfl (ia_cons (i_lc (own := [("event", 10), ("minute", 11)]) rfl sc.nd (ii_any (iv (pv 2))) (blkOk_by (by kernel_rfl)) (by decide) (fun _ _ _ _ _ => (g_tp rfl (gs_cons (g_nm sc.nd rfl (by first | exact .inl rfl | exact .inr rfl)) (gs_cons (g_nm sc.nd rfl (by first | exact .inl rfl | exact .inr rfl)) gs_nil)))) (fun _ _ _ _ _ => its_nil) (fun _ _ _ _ _ => (i_cmp o_gt (i_ix (o_ix hu) (iv (pv 5)) (iv (pv 10)) (fun _ _ => rfl)) (iv (pv 11)) rfl))) ia_nil))) (is_one (s_ret (i_call C_against (hr.mono (by decide)) rfl passD (ia_cons (iv (pv 3)) (ia_cons (iv (pv 2)) (ia_cons (iv (pv 4)) ia_nil)))))) is_nil) (is_cons (s_setLc (own := [("name", 12), ("begin", 13), ("end", 14), ("weight", 15)]) rfl sc.nd rfl rfl (sw_true rfl rfl rfl rfl) (ii_any (iv (pv 3))) (blkOk_by (by kernel_rfl)) (by decide) (fun _ _ _ _ _ => (g_tp rfl (gs_cons (g_nm sc.nd rfl (by first | exact .inl rfl | exact .inr rfl)) (gs_cons (g_nm sc.nd rfl (by first | exact .inl rfl | exact .inr rfl)) (gs_cons (g_nm sc.nd rfl (by first | exact .inl rfl | exact .inr rfl)) (gs_cons (g_nm sc.nd rfl (by first | exact .inl rfl | exact .inr rfl)) gs_nil)))))) (fun _ _ _ _ _ => its_nil) (fun _ _ _ _ _ => (i_tup (ia_cons (iv (pv 12)) (ia_cons (iv (pv 14)) (ia_cons (iv (pv 13)) (ia_cons (iv (pv 15)) ia_nil))))))) (is_cons (s_tg (i_call C_greatest_sums (hr.mono (by decide)) rfl passD (ia_cons (iv (pv 7)) (ia_cons (i_dc (own := [("event", 10), ("minute", 11)]) rfl sc.nd (ii_any (iv (pv 2))) (blkOk_by (by kernel_rfl)) (by decide) (fun _ _ _ _ _ => (g_tp rfl (gs_cons (g_nm sc.nd rfl (by first | exact .inl rfl | exact .inr rfl)) (gs_cons (g_nm sc.nd rfl (by first | exact .inl rfl | exact .inr rfl)) gs_nil)))) (fun _ _ _ _ _ => its_nil) (fun _ _ _ _ _ => (iv (pv 10))) (fun _ _ _ _ _ => (i_un o_neg (iv (pv 11))))) (ia_cons (iv (pv 4)) ia_nil)))) (g_tp rfl (gs_cons (g_nm sc.nd rfl (by first | exact .inl rfl | exact .inr rfl)) (gs_cons (g_nm sc.nd rfl (by first | exact .inl rfl | exact .inr rfl)) (gs_cons (g_nm sc.nd rfl (by first | exact .inl rfl | exact .inr rfl)) gs_nil))))) (is_cons (s_set sc.nd rfl (by first | exact .inl rfl | exact .inr rfl) (i_lk (i_dc (own := [("event", 10)]) rfl sc.nd (ii_any (iv (pv 8))) (blkOk_by (by kernel_rfl)) (by decide) (fun _ _ _ _ _ => (g_nm sc.nd rfl (by first | exact .inl rfl | exact .inr rfl))) (fun _ _ _ _ _ => its_nil) (fun _ _ _ _ _ => (iv (pv 10))) (fun _ _ _ _ _ => (i_un o_neg (i_ix (o_ix hu) (iv (pv 8)) (iv (pv 10)) (fun _ _ => rfl))))))) (is_one (s_ret (i_tup (ia_cons i_str (ia_cons (i_callT c_tuple rfl Z.z_tuple rfl (ia_cons (i_lc (own := [("event", 10)]) rfl sc.nd (ii_any (i_ix (o_ix hu) (iv (pv 0)) i_int (fun _ _ => rfl))) (blkOk_by (by kernel_rfl)) (by decide) (fun _ _ _ _ _ => (g_nm sc.nd rfl (by first | exact .inl rfl | exact .inr rfl))) (fun _ _ _ _ _ => its_nil) (fun _ _ _ _ _ => (i_tup (ia_cons (iv (pv 10)) (ia_cons (i_m PySem.F.plainAttrs_dict PySem.F.slot_dict_get PySem.F.type_dict_get (m_get hu) (iv (pv 5)) (ia_cons (iv (pv 10)) ia_nil)) (ia_cons (i_m PySem.F.plainAttrs_dict PySem.F.slot_dict_get PySem.F.type_dict_get (m_get hu) (iv (pv 9)) (ia_cons (iv (pv 10)) ia_nil)) ia_nil)))))) ia_nil)) ia_nil))))))))))))
theorem sc__law_cell : FnScope ["script", "k"] ["script", "k"] (defScope s__law_cell) := ⟨rfl, rfl, rfl, by decide +kernel, rfl, by decide +kernel, by decide +kernel⟩
theorem ok__law_cell (F : Fun K "_law_cell" "_law_cell" s__law_cell f fd) (hm : mg "_law_cell" = some (.ref f)) (hb : Binds K fd ["script", "k"] []) (Z : Zs mg)  : Callee P w K mg base cl 1 "_law_cell" 2 F__law_cell := by
  have sc := sc__law_cell
  refine (Callee.of F sc hm hb rfl fun cdv A outer s H E hr => ?_ : Callee P w K mg base cl 1 "_law_cell" 2 (fnB 2 2 (b__law_cell)))
  have hu := hr.units
  unfold b__law_cell
  exact (is_cons (s_if (it_cmp o_lt (iv (pv 1)) (i_callB c_len rfl Z.z_len rfl (ia_cons (iv (pv 0)) ia_nil)) rfl) (is_one (s_ret (i_ix (o_ix hu) (iv (pv 0)) (iv (pv 1)) (fun _ _ => rfl)))) is_nil) (is_one (s_ret i_int)))
theorem sc__law_digits : FnScope ["script", "first", "last", "digits", "k", "cell", "turn", "seed"] ["script", "first", "last"] (defScope s__law_digits) := ⟨rfl, rfl, rfl, by decide +kernel, rfl, by decide +kernel, by decide +kernel⟩
theorem ok__law_digits (F : Fun K "_law_digits" "_law_digits" s__law_digits f fd) (hm : mg "_law_digits" = some (.ref f)) (hb : Binds K fd ["script", "first", "last"] []) (Z : Zs mg) (C__law_cell : Callee P w K mg base cl 1 "_law_cell" 2 F__law_cell) : Callee P w K mg base cl 2 "_law_digits" 3 F__law_digits := by
  have sc := sc__law_digits
  refine (Callee.of F sc hm hb rfl fun cdv A outer s H E hr => ?_ : Callee P w K mg base cl 2 "_law_digits" 3 (fnB 3 8 (b__law_digits F__law_cell)))
  have hu := hr.units
  unfold b__law_digits
  exact (is_cons (s_set sc.nd rfl (by first | exact .inl rfl | exact .inr rfl) (i_lst ia_nil)) (is_cons (s_for ppD rfl (ii_rng2 rfl Z.z_range (ia_cons (iv (pv 1)) (ia_cons (iv (pv 2)) ia_nil))) (g_nm sc.nd rfl (by first | exact .inl rfl | exact .inr rfl)) (is_cons (s_set sc.nd rfl (by first | exact .inl rfl | exact .inr rfl) (i_call C__law_cell (hr.mono (by decide)) rfl passD (ia_cons (iv (pv 0)) (ia_cons (iv (pv 4)) ia_nil)))) (is_cons (s_if (it_cmp o_lt (iv (pv 5)) i_int rfl) (is_one (s_set sc.nd rfl (by first | exact .inl rfl | exact .inr rfl) (i_op o_sub i_int (i_op o_mul i_int (iv (pv 5)))))) is_nil) (is_cons (s_if (it_cmp o_gt (i_callB c_len rfl Z.z_len rfl (ia_cons (iv (pv 3)) ia_nil)) i_int rfl) (is_one s_break) is_nil) (is_one (s_if (it_cmp o_ge (iv (pv 5)) (i_op o_pow i_int i_int) rfl) (is_one (s_for ppD rfl (ii_rng1 rfl Z.z_range (ia_cons i_int ia_nil)) (g_nm sc.nd rfl (by first | exact .inl rfl | exact .inr rfl)) (is_one (s_if (it_cmp o_gt (iv (pv 5)) i_int rfl) (is_cons (s_drop (i_m PySem.F.plainAttrs_list PySem.F.slot_list_append PySem.F.type_list_append m_append (iv (pv 3)) (ia_cons (i_op o_mod (i_callT c_int rfl Z.z_int rfl (ia_cons (iv (pv 5)) ia_nil)) i_int) ia_nil))) (is_one (s_set sc.nd rfl (by first | exact .inl rfl | exact .inr rfl) (i_op o_fdiv (iv (pv 5)) i_int)))) is_nil)))) (is_cons (s_set sc.nd rfl (by first | exact .inl rfl | exact .inr rfl) (i_op o_mod (i_callT c_int rfl Z.z_int rfl (ia_cons (i_op o_add (i_op o_add (i_op o_mul (iv (pv 5)) i_int) (i_op o_mul (iv (pv 4)) i_int)) i_int) ia_nil)) i_int)) (is_one (s_for ppD rfl (ii_rng1 rfl Z.z_range (ia_cons i_int ia_nil)) (g_nm sc.nd rfl (by first | exact .inl rfl | exact .inr rfl)) (is_cons (s_set sc.nd rfl (by first | exact .inl rfl | exact .inr rfl) (i_op o_mod (i_callT c_int rfl Z.z_int rfl (ia_cons (i_op o_add (i_op o_add (i_op o_mul (iv (pv 7)) i_int) (i_op o_mul i_int (iv (pv 6)))) i_int) ia_nil)) i_int)) (is_one (s_drop (i_m PySem.F.plainAttrs_list PySem.F.slot_list_append PySem.F.type_list_append m_append (iv (pv 3)) (ia_cons (i_op o_mod (i_callT c_int rfl Z.z_int rfl (ia_cons (i_op o_fdiv (iv (pv 7)) i_int) ia_nil)) i_int) ia_nil)))))))))))))) (is_one (s_ret (iv (pv 3))))))
theorem sc__law_draw : FnScope ["box", "many", "at"] ["box", "many"] (defScope s__law_draw) := ⟨rfl, rfl, rfl, by decide +kernel, rfl, by decide +kernel, by decide +kernel⟩
theorem ok__law_draw (F : Fun K "_law_draw" "_law_draw" s__law_draw f fd) (hm : mg "_law_draw" = some (.ref f)) (hb : Binds K fd ["box", "many"] []) (Z : Zs mg)  : Callee P w K mg base cl 1 "_law_draw" 2 F__law_draw := by
  have sc := sc__law_draw
  refine (Callee.of F sc hm hb rfl fun cdv A outer s H E hr => ?_ : Callee P w K mg base cl 1 "_law_draw" 2 (fnB 2 3 (b__law_draw)))
  have hu := hr.units
  unfold b__law_draw
  exact (is_cons (s_set sc.nd rfl (by first | exact .inl rfl | exact .inr rfl) (i_ix (o_ix hu) (iv (pv 0)) i_int (fun _ _ => rfl))) (is_cons (s_sub hu (iv (pv 0)) i_int (i_op o_add (iv (pv 2)) i_int)) (is_cons (s_if (it_cmp o_lt (iv (pv 2)) (i_callB c_len rfl Z.z_len rfl (ia_cons (i_ix (o_ix hu) (iv (pv 0)) i_int (fun _ _ => rfl)) ia_nil)) rfl) (is_one (s_ret (i_op o_mod (i_callT c_int rfl Z.z_int rfl (ia_cons (i_ix (o_ix hu) (i_ix (o_ix hu) (iv (pv 0)) i_int (fun _ _ => rfl)) (iv (pv 2)) (fun _ _ => rfl)) ia_nil)) (iv (pv 1))))) is_nil) (is_one (s_ret (i_op o_mod (i_callT c_int rfl Z.z_int rfl (ia_cons (i_op o_mul (iv (pv 2)) i_int) ia_nil)) (iv (pv 1))))))))
theorem sc__law_pick : FnScope ["box", "things"] ["box", "things"] (defScope s__law_pick) := ⟨rfl, rfl, rfl, by decide +kernel, rfl, by decide +kernel, by decide +kernel⟩
theorem ok__law_pick (F : Fun K "_law_pick" "_law_pick" s__law_pick f fd) (hm : mg "_law_pick" = some (.ref f)) (hb : Binds K fd ["box", "things"] []) (Z : Zs mg) (C__law_draw : Callee P w K mg base cl 1 "_law_draw" 2 F__law_draw) : Callee P w K mg base cl 2 "_law_pick" 2 F__law_pick := by
  have sc := sc__law_pick
  refine (Callee.of F sc hm hb rfl fun cdv A outer s H E hr => ?_ : Callee P w K mg base cl 2 "_law_pick" 2 (fnB 2 2 (b__law_pick F__law_draw)))
  have hu := hr.units
  unfold b__law_pick
  exact (is_one (s_ret (i_ix (o_ix hu) (iv (pv 1)) (i_op o_mod (i_callT c_int rfl Z.z_int rfl (ia_cons (i_call C__law_draw (hr.mono (by decide)) rfl passD (ia_cons (iv (pv 0)) (ia_cons i_int ia_nil))) ia_nil)) (i_callB c_len rfl Z.z_len rfl (ia_cons (iv (pv 1)) ia_nil))) (fun _ _ => rfl))))
theorem sc__law_like : FnScope ["told", "due", "k"] ["told", "due"] (defScope s__law_like) := ⟨rfl, rfl, rfl, by decide +kernel, rfl, by decide +kernel, by decide +kernel⟩
theorem st__law_like (F : Fun K "_law_like" "_law_like" s__law_like f fd) (hm : mg "_law_like" = some (.ref f)) (hb : Binds K fd ["told", "due"] []) (Z : Zs mg)  {k : Nat} (hk : 0 ≤ k + 0) (C__law_like : Callee P w K mg base cl (k + 0) "_law_like" 2 (R__law_like k)) : Callee P w K mg base cl (k + 1 + 0) "_law_like" 2 (R__law_like (k + 1)) := by
  have sc := sc__law_like
  have e : k + 1 + 0 = k + 0 + 1 := by omega
  rw [e]
  refine Callee.cut (Callee.of F sc hm hb rfl fun cdv A outer s H E hr => ?_ : Callee P w K mg base cl (k + 0 + 1) "_law_like" 2 (fnB 2 3 (b__law_like (R__law_like k))))
  have hu := hr.units
  unfold b__law_like
  exact (is_cons (s_if (it_truth (i_callB c_isi rfl Z.z_isinstance rfl (ia_cons (iv (pv 1)) (ia_cons (i_ty rfl Z.z_tuple rfl) ia_nil)))) (is_cons (s_if (PW.pt (iw_or (it_not (it_truth (i_callB c_isi rfl Z.z_isinstance rfl (ia_cons (iv (pv 0)) (ia_cons (i_ty rfl Z.z_tuple rfl) ia_nil))))) (iw_or1 (it_cmp (o_ne hu) (i_callB c_len rfl Z.z_len rfl (ia_cons (iv (pv 0)) ia_nil)) (i_callB c_len rfl Z.z_len rfl (ia_cons (iv (pv 1)) ia_nil)) rfl)))) (is_one (s_ret i_bl)) is_nil) (is_one (s_ret (i_cmp (o_eq hu) (i_lc (own := [("k", 2)]) rfl sc.nd (ii_rng1 rfl Z.z_range (ia_cons (i_callB c_len rfl Z.z_len rfl (ia_cons (iv (pv 1)) ia_nil)) ia_nil)) (blkOk_by (by kernel_rfl)) (by decide) (fun _ _ _ _ _ => (g_nm sc.nd rfl (by first | exact .inl rfl | exact .inr rfl))) (fun _ _ _ _ _ => (its_one (it_not (it_truth (i_call C__law_like hr rfl passAt0 (ia_cons (i_ix (o_ix hu) (iv (pv 0)) (iv (pv 2)) (fun _ _ => rfl)) (ia_cons (i_ix (o_ix hu) (iv (pv 1)) (iv (pv 2)) (fun _ _ => rfl)) ia_nil))))))) (fun _ _ _ _ _ => i_int)) (i_lst ia_nil) rfl)))) is_nil) (is_cons (s_if (it_cmp o_is (iv (pv 1)) i_non rfl) (is_one (s_ret (i_cmp o_is (iv (pv 0)) i_non rfl))) is_nil) (is_cons (s_if (it_cmp o_is (iv (pv 1)) i_bl rfl) (is_one (s_ret (i_cmp o_is (iv (pv 0)) i_bl rfl))) is_nil) (is_cons (s_if (it_cmp o_is (iv (pv 1)) i_bl rfl) (is_one (s_ret (i_cmp o_is (iv (pv 0)) i_bl rfl))) is_nil) (is_cons (s_if (it_truth (i_callB c_isi rfl Z.z_isinstance rfl (ia_cons (iv (pv 1)) (ia_cons (i_ty rfl Z.z_str rfl) ia_nil)))) (is_one (s_ret (i_and (i_callB c_isi rfl Z.z_isinstance rfl (ia_cons (iv (pv 0)) (ia_cons (i_ty rfl Z.z_str rfl) ia_nil))) (i_one (i_cmp (o_eq hu) (i_m PySem.F.plainAttrs_str PySem.F.slot_str_join PySem.F.type_str_join m_join i_str (ia_cons (i_lst (ia_cons (iv (pv 0)) ia_nil)) ia_nil)) (iv (pv 1)) rfl))))) is_nil) (is_one (s_ret (i_and (i_callB c_isi rfl Z.z_isinstance rfl (ia_cons (iv (pv 0)) (ia_cons (i_ty rfl Z.z_int rfl) ia_nil))) (i_and (i_not (i_callB c_isi rfl Z.z_isinstance rfl (ia_cons (iv (pv 0)) (ia_cons (i_ty rfl Z.z_bool rfl) ia_nil)))) (i_one (i_cmp (o_eq hu) (iv (pv 0)) (iv (pv 1)) rfl)))))))))))
theorem rc__law_like (F : Fun K "_law_like" "_law_like" s__law_like f fd) (hm : mg "_law_like" = some (.ref f)) (hb : Binds K fd ["told", "due"] []) (Z : Zs mg)  : ∀ k : Nat, Callee P w K mg base cl (k + 0) "_law_like" 2 (R__law_like k)
  | 0 => .no hm F.kp hb
  | k + 1 => st__law_like F hm hb Z  (Nat.zero_le _) (rc__law_like F hm hb Z  k)
theorem ok__law_like (F : Fun K "_law_like" "_law_like" s__law_like f fd) (hm : mg "_law_like" = some (.ref f)) (hb : Binds K fd ["told", "due"] []) (Z : Zs mg)  : Callee P w K mg base cl 7 "_law_like" 2 F__law_like := (rc__law_like F hm hb Z  6).mono (by decide)
theorem sc__law_net : FnScope ["box", "many", "most", "events", "rules", "k", "turns", "left", "rule"] ["box", "many", "most"] (defScope s__law_net) := ⟨rfl, rfl, rfl, by decide +kernel, rfl, by decide +kernel, by decide +kernel⟩
theorem ok__law_net (F : Fun K "_law_net" "_law_net" s__law_net f fd) (hm : mg "_law_net" = some (.ref f)) (hb : Binds K fd ["box", "many", "most"] []) (Z : Zs mg) (C__law_draw : Callee P w K mg base cl 1 "_law_draw" 2 F__law_draw) (C__law_pick : Callee P w K mg base cl 2 "_law_pick" 2 F__law_pick) : Callee P w K mg base cl 3 "_law_net" 3 F__law_net := by
  have sc := sc__law_net
  refine (Callee.of F sc hm hb rfl fun cdv A outer s H E hr => ?_ : Callee P w K mg base cl 3 "_law_net" 3 (fnB 3 9 (b__law_net F__law_draw F__law_pick)))
  have hu := hr.units
  unfold b__law_net
  exact (is_cons (s_set sc.nd rfl (by first | exact .inl rfl | exact .inr rfl) (i_sl (i_lst (ia_cons i_str (ia_cons i_str (ia_cons i_str (ia_cons i_str (ia_cons i_str (ia_cons i_str ia_nil))))))) io_none (io_some (i_op o_add i_int (i_call C__law_draw (hr.mono (by decide)) rfl passD (ia_cons (iv (pv 0)) (ia_cons (i_op o_sub (iv (pv 1)) i_int) ia_nil))))))) (is_cons (s_set sc.nd rfl (by first | exact .inl rfl | exact .inr rfl) (i_lst ia_nil)) (is_cons (s_for ppD rfl (ii_rng1 rfl Z.z_range (ia_cons (i_callB c_len rfl Z.z_len rfl (ia_cons (iv (pv 3)) ia_nil)) ia_nil)) (g_nm sc.nd rfl (by first | exact .inl rfl | exact .inr rfl)) (is_cons (s_set sc.nd rfl (by first | exact .inl rfl | exact .inr rfl) (i_op o_add (i_ix (o_ix hu) (i_lst (ia_cons i_int (ia_cons i_int (ia_cons i_int (ia_cons i_int ia_nil))))) (i_call C__law_draw (hr.mono (by decide)) rfl passD (ia_cons (iv (pv 0)) (ia_cons i_int ia_nil))) (fun _ _ => rfl)) (i_callT c_int rfl Z.z_int rfl (ia_cons (i_cmp (o_eq hu) (iv (pv 5)) (i_op o_sub (i_callB c_len rfl Z.z_len rfl (ia_cons (iv (pv 3)) ia_nil)) i_int) rfl) ia_nil)))) (is_one (s_drop (i_m PySem.F.plainAttrs_list PySem.F.slot_list_append PySem.F.type_list_append m_append (iv (pv 4)) (ia_cons (i_tup (ia_cons (i_op o_add i_str (i_callT c_str rfl Z.z_str rfl (ia_cons (iv (pv 5)) ia_nil))) (ia_cons (i_ix (o_ix hu) (iv (pv 3)) (iv (pv 5)) (fun _ _ => rfl)) (ia_cons (i_ix (o_ix hu) (iv (pv 3)) (i_op o_mod (i_callT c_int rfl Z.z_int rfl (ia_cons (i_op o_add (iv (pv 5)) i_int) ia_nil)) (i_callB c_len rfl Z.z_len rfl (ia_cons (iv (pv 3)) ia_nil))) (fun _ _ => rfl)) (ia_cons (i_call C__law_draw (hr.mono (by decide)) rfl passD (ia_cons (iv (pv 0)) (ia_cons i_int ia_nil))) (ia_cons (iv (pv 6)) ia_nil)))))) ia_nil)))))) (is_cons (s_for ppD rfl (ii_rng1 rfl Z.z_range (ia_cons (i_call C__law_draw (hr.mono (by decide)) rfl passD (ia_cons (iv (pv 0)) (ia_cons (iv (pv 2)) ia_nil))) ia_nil)) (g_nm sc.nd rfl (by first | exact .inl rfl | exact .inr rfl)) (is_cons (s_set sc.nd rfl (by first | exact .inl rfl | exact .inr rfl) (i_ix (o_ix hu) (i_lst (ia_cons i_int (ia_cons i_int (ia_cons i_int (ia_cons i_int ia_nil))))) (i_call C__law_draw (hr.mono (by decide)) rfl passD (ia_cons (iv (pv 0)) (ia_cons i_int ia_nil))) (fun _ _ => rfl))) (is_one (s_drop (i_m PySem.F.plainAttrs_list PySem.F.slot_list_append PySem.F.type_list_append m_append (iv (pv 4)) (ia_cons (i_tup (ia_cons (i_op o_add i_str (i_callT c_str rfl Z.z_str rfl (ia_cons (iv (pv 5)) ia_nil))) (ia_cons (i_call C__law_pick (hr.mono (by decide)) rfl passD (ia_cons (iv (pv 0)) (ia_cons (iv (pv 3)) ia_nil))) (ia_cons (i_call C__law_pick (hr.mono (by decide)) rfl passD (ia_cons (iv (pv 0)) (ia_cons (iv (pv 3)) ia_nil))) (ia_cons (i_call C__law_draw (hr.mono (by decide)) rfl passD (ia_cons (iv (pv 0)) (ia_cons i_int ia_nil))) (ia_cons (iv (pv 6)) ia_nil)))))) ia_nil)))))) (is_cons (s_setLc (own := [("rule", 8)]) rfl sc.nd rfl rfl (sw_true rfl rfl rfl rfl) (ii_any (iv (pv 4))) (blkOk_by (by kernel_rfl)) (by decide) (fun _ _ _ _ _ => (g_nm sc.nd rfl (by first | exact .inl rfl | exact .inr rfl))) (fun _ _ _ _ _ => (its_one (PW.pt (iw_or (it_cmp o_gt (i_call C__law_draw (hr.mono (by decide)) rfl passAt0 (ia_cons (iv (pv 0)) (ia_cons i_int ia_nil))) i_int rfl) (iw_or1 (it_cmp (o_eq hu) (i_ix (o_ix hu) (iv (pv 8)) i_int (fun _ _ => rfl)) i_str rfl)))))) (fun _ _ _ _ _ => (iv (pv 8)))) (is_one (s_ret (i_tup (ia_cons i_str (ia_cons (i_callT c_tuple rfl Z.z_tuple rfl (ia_cons (iv (pv 3)) ia_nil)) (ia_cons (i_callT c_tuple rfl Z.z_tuple rfl (ia_cons (iv (pv 7)) ia_nil)) ia_nil)))))))))))
theorem sc__law_far : FnScope ["net", "period", "begin", "best", "event", "turn", "is_turned", "name", "one", "other", "least", "turns", "value"] ["net", "period", "begin"] (defScope s__law_far) := ⟨rfl, rfl, rfl, by decide +kernel, rfl, by decide +kernel, by decide +kernel⟩
theorem ok__law_far (F : Fun K "_law_far" "_law_far" s__law_far f fd) (hm : mg "_law_far" = some (.ref f)) (hb : Binds K fd ["net", "period", "begin"] []) (Z : Zs mg)  : Callee P w K mg base cl 1 "_law_far" 3 F__law_far := by
  have sc := sc__law_far
  refine (Callee.of F sc hm hb rfl fun cdv A outer s H E hr => ?_ : Callee P w K mg base cl 1 "_law_far" 3 (fnB 3 13 (b__law_far)))
  have hu := hr.units
  unfold b__law_far
  exact (is_cons (s_set sc.nd rfl (by first | exact .inl rfl | exact .inr rfl) i_dnew) (is_cons (s_for ppD rfl (ii_any (i_ix (o_ix hu) (iv (pv 0)) i_int (fun _ _ => rfl))) (g_nm sc.nd rfl (by first | exact .inl rfl | exact .inr rfl)) (is_one (s_sub hu (iv (pv 3)) (iv (pv 4)) (i_if (PW.pt (iw_or (it_cmp o_is (iv (pv 2)) i_non rfl) (iw_or1 (it_cmp (o_eq hu) (iv (pv 4)) (iv (pv 2)) rfl)))) i_int i_non)))) (is_cons (s_for ppD rfl (ii_rng1 rfl Z.z_range (ia_cons (i_op o_add (i_callB c_len rfl Z.z_len rfl (ia_cons (i_ix (o_ix hu) (iv (pv 0)) i_int (fun _ _ => rfl)) ia_nil)) i_int) ia_nil)) (g_nm sc.nd rfl (by first | exact .inl rfl | exact .inr rfl)) (is_cons (s_set sc.nd rfl (by first | exact .inl rfl | exact .inr rfl) i_bl) (is_cons (s_for ppD rfl (ii_any (i_ix (o_ix hu) (iv (pv 0)) i_int (fun _ _ => rfl))) (g_tp rfl (gs_cons (g_nm sc.nd rfl (by first | exact .inl rfl | exact .inr rfl)) (gs_cons (g_nm sc.nd rfl (by first | exact .inl rfl | exact .inr rfl)) (gs_cons (g_nm sc.nd rfl (by first | exact .inl rfl | exact .inr rfl)) (gs_cons (g_nm sc.nd rfl (by first | exact .inl rfl | exact .inr rfl)) (gs_cons (g_nm sc.nd rfl (by first | exact .inl rfl | exact .inr rfl)) gs_nil)))))) (is_one (s_if (it_cmp o_isnot (i_ix (o_ix hu) (iv (pv 3)) (iv (pv 8)) (fun _ _ => rfl)) i_non rfl) (is_cons (s_set sc.nd rfl (by first | exact .inl rfl | exact .inr rfl) (i_op o_sub (i_op o_add (i_ix (o_ix hu) (iv (pv 3)) (iv (pv 8)) (fun _ _ => rfl)) (iv (pv 10))) (i_op o_mul (iv (pv 11)) (iv (pv 1))))) (is_one (s_if (PW.pt (iw_or (it_cmp o_is (i_ix (o_ix hu) (iv (pv 3)) (iv (pv 9)) (fun _ _ => rfl)) i_non rfl) (iw_or1 (it_cmp o_lt (i_ix (o_ix hu) (iv (pv 3)) (iv (pv 9)) (fun _ _ => rfl)) (iv (pv 12)) rfl)))) (is_cons (s_sub hu (iv (pv 3)) (iv (pv 9)) (iv (pv 12))) (is_one (s_set sc.nd rfl (by first | exact .inl rfl | exact .inr rfl) i_bl))) is_nil))) is_nil))) (is_one (s_if (it_not (it_truth (iv (pv 6)))) (is_one (s_ret (iv (pv 3)))) is_nil))))) (is_one (s_ret i_non)))))
theorem sc__law_is_keepable : FnScope ["net", "period"] ["net", "period"] (defScope s__law_is_keepable) := ⟨rfl, rfl, rfl, by decide +kernel, rfl, by decide +kernel, by decide +kernel⟩
theorem ok__law_is_keepable (F : Fun K "_law_is_keepable" "_law_is_keepable" s__law_is_keepable f fd) (hm : mg "_law_is_keepable" = some (.ref f)) (hb : Binds K fd ["net", "period"] []) (Z : Zs mg) (C__law_far : Callee P w K mg base cl 1 "_law_far" 3 F__law_far) : Callee P w K mg base cl 2 "_law_is_keepable" 2 F__law_is_keepable := by
  have sc := sc__law_is_keepable
  refine Callee.cut (Callee.of F sc hm hb rfl fun cdv A outer s H E hr => ?_ : Callee P w K mg base cl 2 "_law_is_keepable" 2 (fnB 2 2 (b__law_is_keepable F__law_far)))
  have hu := hr.units
  unfold b__law_is_keepable
  exact (is_one (s_ret (i_cmp o_isnot (i_call C__law_far (hr.mono (by decide)) rfl passD (ia_cons (iv (pv 0)) (ia_cons (iv (pv 1)) (ia_cons i_non ia_nil)))) i_non rfl)))
theorem sc__law_kept_table : FnScope ["box", "net", "period", "best", "event", "turn", "name", "one", "other", "least", "turns"] ["box", "net", "period"] (defScope s__law_kept_table) := ⟨rfl, rfl, rfl, by decide +kernel, rfl, by decide +kernel, by decide +kernel⟩
theorem ok__law_kept_table (F : Fun K "_law_kept_table" "_law_kept_table" s__law_kept_table f fd) (hm : mg "_law_kept_table" = some (.ref f)) (hb : Binds K fd ["box", "net", "period"] []) (Z : Zs mg) (C__law_draw : Callee P w K mg base cl 1 "_law_draw" 2 F__law_draw) : Callee P w K mg base cl 2 "_law_kept_table" 3 F__law_kept_table := by
  have sc := sc__law_kept_table
  refine (Callee.of F sc hm hb rfl fun cdv A outer s H E hr => ?_ : Callee P w K mg base cl 2 "_law_kept_table" 3 (fnB 3 11 (b__law_kept_table F__law_draw)))
  have hu := hr.units
  unfold b__law_kept_table
  exact (is_cons (s_set sc.nd rfl (by first | exact .inl rfl | exact .inr rfl) i_dnew) (is_cons (s_for ppD rfl (ii_any (i_ix (o_ix hu) (iv (pv 1)) i_int (fun _ _ => rfl))) (g_nm sc.nd rfl (by first | exact .inl rfl | exact .inr rfl)) (is_one (s_sub hu (iv (pv 3)) (iv (pv 4)) (i_op o_sub (i_call C__law_draw (hr.mono (by decide)) rfl passD (ia_cons (iv (pv 0)) (ia_cons i_int ia_nil))) i_int)))) (is_cons (s_for ppD rfl (ii_rng1 rfl Z.z_range (ia_cons (i_op o_add (i_callB c_len rfl Z.z_len rfl (ia_cons (i_ix (o_ix hu) (iv (pv 1)) i_int (fun _ _ => rfl)) ia_nil)) i_int) ia_nil)) (g_nm sc.nd rfl (by first | exact .inl rfl | exact .inr rfl)) (is_one (s_for ppD rfl (ii_any (i_ix (o_ix hu) (iv (pv 1)) i_int (fun _ _ => rfl))) (g_tp rfl (gs_cons (g_nm sc.nd rfl (by first | exact .inl rfl | exact .inr rfl)) (gs_cons (g_nm sc.nd rfl (by first | exact .inl rfl | exact .inr rfl)) (gs_cons (g_nm sc.nd rfl (by first | exact .inl rfl | exact .inr rfl)) (gs_cons (g_nm sc.nd rfl (by first | exact .inl rfl | exact .inr rfl)) (gs_cons (g_nm sc.nd rfl (by first | exact .inl rfl | exact .inr rfl)) gs_nil)))))) (is_one (s_sub hu (iv (pv 3)) (iv (pv 8)) (i_callB (c_max2 rfl) rfl Z.z_max rfl (ia_cons (i_ix (o_ix hu) (iv (pv 3)) (iv (pv 8)) (fun _ _ => rfl)) (ia_cons (i_op o_sub (i_op o_add (i_ix (o_ix hu) (iv (pv 3)) (iv (pv 7)) (fun _ _ => rfl)) (iv (pv 9))) (i_op o_mul (iv (pv 10)) (iv (pv 2)))) ia_nil)))))))) (is_one (s_ret (i_tup (ia_cons i_str (ia_cons (iv (pv 2)) (ia_cons (i_callT c_tuple rfl Z.z_tuple rfl (ia_cons (i_lc (own := [("event", 4)]) rfl sc.nd (ii_any (i_ix (o_ix hu) (iv (pv 1)) i_int (fun _ _ => rfl))) (blkOk_by (by kernel_rfl)) (by decide) (fun _ _ _ _ _ => (g_nm sc.nd rfl (by first | exact .inl rfl | exact .inr rfl))) (fun _ _ _ _ _ => its_nil) (fun _ _ _ _ _ => (i_tup (ia_cons (iv (pv 4)) (ia_cons (i_ix (o_ix hu) (iv (pv 3)) (iv (pv 4)) (fun _ _ => rfl)) ia_nil))))) ia_nil)) ia_nil)))))))))
theorem sc__law_period_of : FnScope ["box", "net", "low", "high", "middle"] ["box", "net"] (defScope s__law_period_of) := ⟨rfl, rfl, rfl, by decide +kernel, rfl, by decide +kernel, by decide +kernel⟩
theorem ok__law_period_of (F : Fun K "_law_period_of" "_law_period_of" s__law_period_of f fd) (hm : mg "_law_period_of" = some (.ref f)) (hb : Binds K fd ["box", "net"] []) (Z : Zs mg) (C__law_pick : Callee P w K mg base cl 2 "_law_pick" 2 F__law_pick) (C__law_is_keepable : Callee P w K mg base cl 2 "_law_is_keepable" 2 F__law_is_keepable) : Callee P w K mg base cl 3 "_law_period_of" 2 F__law_period_of := by
  have sc := sc__law_period_of
  refine (Callee.of F sc hm hb rfl fun cdv A outer s H E hr => ?_ : Callee P w K mg base cl 3 "_law_period_of" 2 (fnB 2 5 (b__law_period_of F__law_pick F__law_is_keepable)))
  have hu := hr.units
  unfold b__law_period_of
  exact (is_cons (s_tg (i_tup (ia_cons i_int (ia_cons i_int ia_nil))) (g_tp rfl (gs_cons (g_nm sc.nd rfl (by first | exact .inl rfl | exact .inr rfl)) (gs_cons (g_nm sc.nd rfl (by first | exact .inl rfl | exact .inr rfl)) gs_nil)))) (is_cons (s_if (it_not (it_truth (i_call C__law_is_keepable (hr.mono (by decide)) rfl passD (ia_cons (iv (pv 1)) (ia_cons (iv (pv 3)) ia_nil))))) (is_one (s_ret i_non)) is_nil) (is_cons (s_while ppD (it_cmp o_gt (i_op o_sub (iv (pv 3)) (iv (pv 2))) i_int rfl) (is_cons (s_set sc.nd rfl (by first | exact .inl rfl | exact .inr rfl) (i_op o_fdiv (i_op o_add (iv (pv 2)) (iv (pv 3))) i_int)) (is_one (s_if (it_truth (i_call C__law_is_keepable (hr.mono (by decide)) rfl passD (ia_cons (iv (pv 1)) (ia_cons (iv (pv 4)) ia_nil)))) (is_one (s_set sc.nd rfl (by first | exact .inl rfl | exact .inr rfl) (iv (pv 4)))) (is_one (s_set sc.nd rfl (by first | exact .inl rfl | exact .inr rfl) (iv (pv 4)))))))) (is_one (s_ret (i_op o_add (iv (pv 3)) (i_call C__law_pick (hr.mono (by decide)) rfl passD (ia_cons (iv (pv 0)) (ia_cons (i_lst (ia_cons i_int (ia_cons i_int (ia_cons i_int (ia_cons i_int (ia_cons i_int ia_nil)))))) ia_nil)))))))))
theorem sc__law_running : FnScope ["box", "many", "most", "net", "period", "rule"] ["box", "many", "most"] (defScope s__law_running) := ⟨rfl, rfl, rfl, by decide +kernel, rfl, by decide +kernel, by decide +kernel⟩
theorem ok__law_running (F : Fun K "_law_running" "_law_running" s__law_running f fd) (hm : mg "_law_running" = some (.ref f)) (hb : Binds K fd ["box", "many", "most"] []) (Z : Zs mg) (C__law_period_of : Callee P w K mg base cl 3 "_law_period_of" 2 F__law_period_of) (C__law_net : Callee P w K mg base cl 3 "_law_net" 3 F__law_net) : Callee P w K mg base cl 4 "_law_running" 3 F__law_running := by
  have sc := sc__law_running
  refine (Callee.of F sc hm hb rfl fun cdv A outer s H E hr => ?_ : Callee P w K mg base cl 4 "_law_running" 3 (fnB 3 6 (b__law_running F__law_period_of F__law_net)))
  have hu := hr.units
  unfold b__law_running
  exact (is_cons (s_set sc.nd rfl (by first | exact .inl rfl | exact .inr rfl) (i_call C__law_net (hr.mono (by decide)) rfl passD (ia_cons (iv (pv 0)) (ia_cons (iv (pv 1)) (ia_cons (iv (pv 2)) ia_nil))))) (is_cons (s_set sc.nd rfl (by first | exact .inl rfl | exact .inr rfl) (i_call C__law_period_of (hr.mono (by decide)) rfl passD (ia_cons (iv (pv 0)) (ia_cons (iv (pv 3)) ia_nil)))) (is_cons (s_if (it_cmp o_is (iv (pv 4)) i_non rfl) (is_cons (s_set sc.nd rfl (by first | exact .inl rfl | exact .inr rfl) (i_op o_add (i_sl (iv (pv 3)) io_none (io_some i_int)) (i_tup (ia_cons (i_callT c_tuple rfl Z.z_tuple rfl (ia_cons (i_lc (own := [("rule", 5)]) rfl sc.nd (ii_any (i_ix (o_ix hu) (iv (pv 3)) i_int (fun _ _ => rfl))) (blkOk_by (by kernel_rfl)) (by decide) (fun _ _ _ _ _ => (g_nm sc.nd rfl (by first | exact .inl rfl | exact .inr rfl))) (fun _ _ _ _ _ => its_nil) (fun _ _ _ _ _ => (i_op o_add (i_sl (iv (pv 5)) io_none (io_some i_int)) (i_tup (ia_cons (i_callB (c_max2 rfl) rfl Z.z_max rfl (ia_cons (i_ix (o_ix hu) (iv (pv 5)) i_int (fun _ _ => rfl)) (ia_cons (i_callT c_int rfl Z.z_int rfl (ia_cons (i_cmp o_ge (i_ix (o_ix hu) (iv (pv 5)) i_int (fun _ _ => rfl)) i_str rfl) ia_nil)) ia_nil))) ia_nil))))) ia_nil)) ia_nil)))) (is_one (s_set sc.nd rfl (by first | exact .inl rfl | exact .inr rfl) (i_call C__law_period_of (hr.mono (by decide)) rfl passD (ia_cons (iv (pv 0)) (ia_cons (iv (pv 3)) ia_nil)))))) is_nil) (is_one (s_ret (i_lst (ia_cons (iv (pv 3)) (ia_cons (iv (pv 4)) ia_nil))))))))
theorem sc_law : FnScope ["script", "box", "net", "period", "table", "fixed", "event", "minute", "far", "due", "one", "other", "later", "rows", "firsts", "lasts"] ["script"] (defScope s_law) := ⟨rfl, rfl, rfl, by decide +kernel, rfl, by decide +kernel, by decide +kernel⟩
theorem ok_law (F : Fun K "law" "law" s_law f fd) (Z : Zs mg) (C__law_like : Callee P w K mg base cl 7 "_law_like" 2 F__law_like) (C_room : Callee P w K mg base cl 3 "room" 3 F_room) (C__law_far : Callee P w K mg base cl 1 "_law_far" 3 F__law_far) (C__law_draw : Callee P w K mg base cl 1 "_law_draw" 2 F__law_draw) (C__law_pick : Callee P w K mg base cl 2 "_law_pick" 2 F__law_pick) (C__law_kept_table : Callee P w K mg base cl 2 "_law_kept_table" 3 F__law_kept_table) (C__law_running : Callee P w K mg base cl 4 "_law_running" 3 F__law_running) (C__law_digits : Callee P w K mg base cl 2 "_law_digits" 3 F__law_digits) : FnOk P w K mg base (L2.CX P w) 8 f fd ["script"] (spI K cl 1 F_law) := by
  have sc := sc_law
  refine (fnOk_of F sc rfl fun cdv A outer s H E hr => ?_ : FnOk P w K mg base (L2.CX P w) 8 f fd ["script"] (spI K cl 1 (fnB 1 16 (b_law F__law_like F_room F__law_far F__law_draw F__law_pick F__law_kept_table F__law_running F__law_digits))))
  have hu := hr.units
  unfold b_law
  exact (is_cons (s_set sc.nd rfl (by first | exact .inl rfl | exact .inr rfl) (i_lst (ia_cons (i_call C__law_digits (hr.mono (by decide)) rfl passD (ia_cons (iv (pv 0)) (ia_cons i_int (ia_cons i_int ia_nil)))) (ia_cons i_int ia_nil)))) (is_cons (s_tgL rfl (i_call C__law_running (hr.mono (by decide)) rfl passD (ia_cons (iv (pv 1)) (ia_cons i_int (ia_cons i_int ia_nil)))) (gs_cons (g_nm sc.nd rfl (by first | exact .inl rfl | exact .inr rfl)) (gs_cons (g_nm sc.nd rfl (by first | exact .inl rfl | exact .inr rfl)) gs_nil))) (is_cons (s_set sc.nd rfl (by first | exact .inl rfl | exact .inr rfl) (i_call C__law_kept_table (hr.mono (by decide)) rfl passD (ia_cons (iv (pv 1)) (ia_cons (iv (pv 2)) (ia_cons (iv (pv 3)) ia_nil))))) (is_cons (s_set sc.nd rfl (by first | exact .inl rfl | exact .inr rfl) (i_lst ia_nil)) (is_cons (s_for ppD rfl (ii_any (i_ix (o_ix hu) (iv (pv 4)) i_int (fun _ _ => rfl))) (g_tp rfl (gs_cons (g_nm sc.nd rfl (by first | exact .inl rfl | exact .inr rfl)) (gs_cons (g_nm sc.nd rfl (by first | exact .inl rfl | exact .inr rfl)) gs_nil))) (is_one (s_if (it_cmp (o_eq hu) (i_call C__law_draw (hr.mono (by decide)) rfl passD (ia_cons (iv (pv 1)) (ia_cons i_int ia_nil))) i_int rfl) (is_one (s_drop (i_m PySem.F.plainAttrs_list PySem.F.slot_list_append PySem.F.type_list_append m_append (iv (pv 5)) (ia_cons (i_tup (ia_cons (iv (pv 6)) (ia_cons (i_op o_add (iv (pv 7)) (i_call C__law_pick (hr.mono (by decide)) rfl passD (ia_cons (iv (pv 1)) (ia_cons (i_lst (ia_cons i_int (ia_cons i_int (ia_cons i_int (ia_cons i_int (ia_cons i_int (ia_cons i_int (ia_cons i_int (ia_cons (i_op o_sub i_int i_int) ia_nil))))))))) ia_nil)))) ia_nil))) ia_nil)))) is_nil))) (is_cons (s_set sc.nd rfl (by first | exact .inl rfl | exact .inr rfl) (i_callT (c_dict rfl) rfl Z.z_dict rfl (ia_cons (i_lc (own := [("event", 6)]) rfl sc.nd (ii_any (i_ix (o_ix hu) (iv (pv 2)) i_int (fun _ _ => rfl))) (blkOk_by (by kernel_rfl)) (by decide) (fun _ _ _ _ _ => (g_nm sc.nd rfl (by first | exact .inl rfl | exact .inr rfl))) (fun _ _ _ _ _ => its_nil) (fun _ _ _ _ _ => (i_tup (ia_cons (iv (pv 6)) (ia_cons (i_call C__law_far (hr.mono (by decide)) rfl passAt0 (ia_cons (iv (pv 2)) (ia_cons (iv (pv 3)) (ia_cons (iv (pv 6)) ia_nil)))) ia_nil))))) ia_nil))) (is_cons (s_set sc.nd rfl (by first | exact .inl rfl | exact .inr rfl) i_non) (is_cons (s_for ppD rfl (ii_any (iv (pv 5))) (g_tp rfl (gs_cons (g_nm sc.nd rfl (by first | exact .inl rfl | exact .inr rfl)) (gs_cons (g_nm sc.nd rfl (by first | exact .inl rfl | exact .inr rfl)) gs_nil))) (is_one (s_for ppD rfl (ii_any (iv (pv 5))) (g_tp rfl (gs_cons (g_nm sc.nd rfl (by first | exact .inl rfl | exact .inr rfl)) (gs_cons (g_nm sc.nd rfl (by first | exact .inl rfl | exact .inr rfl)) gs_nil))) (is_one (s_if (PW.pt (iw_and (it_cmp o_is (iv (pv 9)) i_non rfl) (iw_and (it_cmp (o_ne hu) (iv (pv 10)) (iv (pv 11)) rfl) (iw_and (it_cmp o_isnot (i_ix (o_ix hu) (i_ix (o_ix hu) (iv (pv 8)) (iv (pv 10)) (fun _ _ => rfl)) (iv (pv 11)) (fun _ _ => rfl)) i_non rfl) (iw_and1 (it_cmp o_gt (i_ix (o_ix hu) (i_ix (o_ix hu) (iv (pv 8)) (iv (pv 10)) (fun _ _ => rfl)) (iv (pv 11)) (fun _ _ => rfl)) (i_op o_sub (iv (pv 12)) (iv (pv 7))) rfl)))))) (is_one (s_set sc.nd rfl (by first | exact .inl rfl | exact .inr rfl) (i_tup (ia_cons i_str (ia_cons (iv (pv 10)) (ia_cons (iv (pv 11)) ia_nil)))))) is_nil))))) (is_cons (s_if (it_cmp o_is (iv (pv 9)) i_non rfl) (is_cons (s_set sc.nd rfl (by first | exact .inl rfl | exact .inr rfl) (i_lst ia_nil)) (is_cons (s_for ppD rfl (ii_any (i_ix (o_ix hu) (iv (pv 2)) i_int (fun _ _ => rfl))) (g_nm sc.nd rfl (by first | exact .inl rfl | exact .inr rfl)) (is_cons (s_setLc (own := [("one", 10), ("minute", 7)]) rfl sc.nd rfl rfl (sw_true rfl rfl rfl rfl) (ii_any (iv (pv 5))) (blkOk_by (by kernel_rfl)) (by decide) (fun _ _ _ _ _ => (g_tp rfl (gs_cons (g_nm sc.nd rfl (by first | exact .inl rfl | exact .inr rfl)) (gs_cons (g_nm sc.nd rfl (by first | exact .inl rfl | exact .inr rfl)) gs_nil)))) (fun _ _ _ _ _ => (its_one (it_cmp o_isnot (i_ix (o_ix hu) (i_ix (o_ix hu) (iv (pv 8)) (iv (pv 10)) (fun _ _ => rfl)) (iv (pv 6)) (fun _ _ => rfl)) i_non rfl))) (fun _ _ _ _ _ => (i_op o_add (iv (pv 7)) (i_ix (o_ix hu) (i_ix (o_ix hu) (iv (pv 8)) (iv (pv 10)) (fun _ _ => rfl)) (iv (pv 6)) (fun _ _ => rfl))))) (is_cons (s_setLc (own := [("one", 10), ("minute", 7)]) rfl sc.nd rfl rfl (sw_true rfl rfl rfl rfl) (ii_any (iv (pv 5))) (blkOk_by (by kernel_rfl)) (by decide) (fun _ _ _ _ _ => (g_tp rfl (gs_cons (g_nm sc.nd rfl (by first | exact .inl rfl | exact .inr rfl)) (gs_cons (g_nm sc.nd rfl (by first | exact .inl rfl | exact .inr rfl)) gs_nil)))) (fun _ _ _ _ _ => (its_one (it_cmp o_isnot (i_ix (o_ix hu) (i_ix (o_ix hu) (iv (pv 8)) (iv (pv 6)) (fun _ _ => rfl)) (iv (pv 10)) (fun _ _ => rfl)) i_non rfl))) (fun _ _ _ _ _ => (i_op o_sub (iv (pv 7)) (i_ix (o_ix hu) (i_ix (o_ix hu) (iv (pv 8)) (iv (pv 6)) (fun _ _ => rfl)) (iv (pv 10)) (fun _ _ => rfl))))) (is_one (s_drop (i_m PySem.F.plainAttrs_list PySem.F.slot_list_append PySem.F.type_list_append m_append (iv (pv 13)) (ia_cons (i_tup (ia_cons (iv (pv 6)) (ia_cons (i_if (it_cmp (o_eq hu) (iv (pv 14)) (i_lst ia_nil) rfl) i_non (i_callB (c_max rfl) rfl Z.z_max rfl (ia_cons (iv (pv 14)) ia_nil))) (ia_cons (i_if (it_cmp (o_eq hu) (iv (pv 15)) (i_lst ia_nil) rfl) i_non (i_callB (c_min rfl) rfl Z.z_min rfl (ia_cons (iv (pv 15)) ia_nil))) ia_nil)))) ia_nil))))))) (is_one (s_set sc.nd rfl (by first | exact .inl rfl | exact .inr rfl) (i_tup (ia_cons i_str (ia_cons (i_callT c_tuple rfl Z.z_tuple rfl (ia_cons (iv (pv 13)) ia_nil)) ia_nil))))))) is_nil) (is_one (s_ret (i_call C__law_like (hr.mono (by decide)) rfl passD (ia_cons (i_call C_room (hr.mono (by decide)) rfl passD (ia_cons (iv (pv 2)) (ia_cons (iv (pv 3)) (ia_cons (i_callT c_tuple rfl Z.z_tuple rfl (ia_cons (iv (pv 5)) ia_nil)) ia_nil)))) (ia_cons (iv (pv 9)) ia_nil))))))))))))))
theorem all_mk {l : PySem.W.OpenLaw} {h : Heap} {fa : Addr} (hP : l.prog = P) (X : K.In h) (G : h.Ns mainGlobals mg) (hfa : mg "law" = some (.ref fa))
    {f0 : Addr} {od0 an0 : Option Addr} {sl0 : Array (Option Value)} {oc0 kV0 dc0 pm0 cd0 ct0 : Value}
    (a0 : PySem.W.nsIn K mainGlobals "weighted" = some (some (.ref f0))) (l0 : K.lookup f0 = some ⟨oc0, od0, .func (PySem.W.fnOf "weighted" "weighted" (defArgs s_weighted) (defBody s_weighted) (defScope s_weighted) .none kV0 dc0 pm0 an0 cd0 ct0), sl0⟩) (c0 : PySem.W.codeIn K cd0 "weighted" = true) (k0 : PySem.W.keepIn K (.ref f0) = true)
    {f1 : Addr} {od1 an1 : Option Addr} {sl1 : Array (Option Value)} {oc1 kV1 dc1 pm1 cd1 ct1 : Value}
    (a1 : PySem.W.nsIn K mainGlobals "greatest_sums" = some (some (.ref f1))) (l1 : K.lookup f1 = some ⟨oc1, od1, .func (PySem.W.fnOf "greatest_sums" "greatest_sums" (defArgs s_greatest_sums) (defBody s_greatest_sums) (defScope s_greatest_sums) .none kV1 dc1 pm1 an1 cd1 ct1), sl1⟩) (c1 : PySem.W.codeIn K cd1 "greatest_sums" = true) (k1 : PySem.W.keepIn K (.ref f1) = true)
    {f2 : Addr} {od2 an2 : Option Addr} {sl2 : Array (Option Value)} {oc2 kV2 dc2 pm2 cd2 ct2 : Value}
    (a2 : PySem.W.nsIn K mainGlobals "against" = some (some (.ref f2))) (l2 : K.lookup f2 = some ⟨oc2, od2, .func (PySem.W.fnOf "against" "against" (defArgs s_against) (defBody s_against) (defScope s_against) .none kV2 dc2 pm2 an2 cd2 ct2), sl2⟩) (c2 : PySem.W.codeIn K cd2 "against" = true) (k2 : PySem.W.keepIn K (.ref f2) = true)
    {f3 : Addr} {od3 an3 : Option Addr} {sl3 : Array (Option Value)} {oc3 kV3 dc3 pm3 cd3 ct3 : Value}
    (a3 : PySem.W.nsIn K mainGlobals "room" = some (some (.ref f3))) (l3 : K.lookup f3 = some ⟨oc3, od3, .func (PySem.W.fnOf "room" "room" (defArgs s_room) (defBody s_room) (defScope s_room) .none kV3 dc3 pm3 an3 cd3 ct3), sl3⟩) (c3 : PySem.W.codeIn K cd3 "room" = true) (k3 : PySem.W.keepIn K (.ref f3) = true)
    {f4 : Addr} {od4 an4 : Option Addr} {sl4 : Array (Option Value)} {oc4 kV4 dc4 pm4 cd4 ct4 : Value}
    (a4 : PySem.W.nsIn K mainGlobals "_law_cell" = some (some (.ref f4))) (l4 : K.lookup f4 = some ⟨oc4, od4, .func (PySem.W.fnOf "_law_cell" "_law_cell" (defArgs s__law_cell) (defBody s__law_cell) (defScope s__law_cell) .none kV4 dc4 pm4 an4 cd4 ct4), sl4⟩) (c4 : PySem.W.codeIn K cd4 "_law_cell" = true) (k4 : PySem.W.keepIn K (.ref f4) = true)
    {f5 : Addr} {od5 an5 : Option Addr} {sl5 : Array (Option Value)} {oc5 kV5 dc5 pm5 cd5 ct5 : Value}
    (a5 : PySem.W.nsIn K mainGlobals "_law_digits" = some (some (.ref f5))) (l5 : K.lookup f5 = some ⟨oc5, od5, .func (PySem.W.fnOf "_law_digits" "_law_digits" (defArgs s__law_digits) (defBody s__law_digits) (defScope s__law_digits) .none kV5 dc5 pm5 an5 cd5 ct5), sl5⟩) (c5 : PySem.W.codeIn K cd5 "_law_digits" = true) (k5 : PySem.W.keepIn K (.ref f5) = true)
    {f6 : Addr} {od6 an6 : Option Addr} {sl6 : Array (Option Value)} {oc6 kV6 dc6 pm6 cd6 ct6 : Value}
    (a6 : PySem.W.nsIn K mainGlobals "_law_draw" = some (some (.ref f6))) (l6 : K.lookup f6 = some ⟨oc6, od6, .func (PySem.W.fnOf "_law_draw" "_law_draw" (defArgs s__law_draw) (defBody s__law_draw) (defScope s__law_draw) .none kV6 dc6 pm6 an6 cd6 ct6), sl6⟩) (c6 : PySem.W.codeIn K cd6 "_law_draw" = true) (k6 : PySem.W.keepIn K (.ref f6) = true)
    {f7 : Addr} {od7 an7 : Option Addr} {sl7 : Array (Option Value)} {oc7 kV7 dc7 pm7 cd7 ct7 : Value}
    (a7 : PySem.W.nsIn K mainGlobals "_law_pick" = some (some (.ref f7))) (l7 : K.lookup f7 = some ⟨oc7, od7, .func (PySem.W.fnOf "_law_pick" "_law_pick" (defArgs s__law_pick) (defBody s__law_pick) (defScope s__law_pick) .none kV7 dc7 pm7 an7 cd7 ct7), sl7⟩) (c7 : PySem.W.codeIn K cd7 "_law_pick" = true) (k7 : PySem.W.keepIn K (.ref f7) = true)
    {f8 : Addr} {od8 an8 : Option Addr} {sl8 : Array (Option Value)} {oc8 kV8 dc8 pm8 cd8 ct8 : Value}
    (a8 : PySem.W.nsIn K mainGlobals "_law_like" = some (some (.ref f8))) (l8 : K.lookup f8 = some ⟨oc8, od8, .func (PySem.W.fnOf "_law_like" "_law_like" (defArgs s__law_like) (defBody s__law_like) (defScope s__law_like) .none kV8 dc8 pm8 an8 cd8 ct8), sl8⟩) (c8 : PySem.W.codeIn K cd8 "_law_like" = true) (k8 : PySem.W.keepIn K (.ref f8) = true)
    {f9 : Addr} {od9 an9 : Option Addr} {sl9 : Array (Option Value)} {oc9 kV9 dc9 pm9 cd9 ct9 : Value}
    (a9 : PySem.W.nsIn K mainGlobals "_law_net" = some (some (.ref f9))) (l9 : K.lookup f9 = some ⟨oc9, od9, .func (PySem.W.fnOf "_law_net" "_law_net" (defArgs s__law_net) (defBody s__law_net) (defScope s__law_net) .none kV9 dc9 pm9 an9 cd9 ct9), sl9⟩) (c9 : PySem.W.codeIn K cd9 "_law_net" = true) (k9 : PySem.W.keepIn K (.ref f9) = true)
    {f10 : Addr} {od10 an10 : Option Addr} {sl10 : Array (Option Value)} {oc10 kV10 dc10 pm10 cd10 ct10 : Value}
    (a10 : PySem.W.nsIn K mainGlobals "_law_far" = some (some (.ref f10))) (l10 : K.lookup f10 = some ⟨oc10, od10, .func (PySem.W.fnOf "_law_far" "_law_far" (defArgs s__law_far) (defBody s__law_far) (defScope s__law_far) .none kV10 dc10 pm10 an10 cd10 ct10), sl10⟩) (c10 : PySem.W.codeIn K cd10 "_law_far" = true) (k10 : PySem.W.keepIn K (.ref f10) = true)
    {f11 : Addr} {od11 an11 : Option Addr} {sl11 : Array (Option Value)} {oc11 kV11 dc11 pm11 cd11 ct11 : Value}
    (a11 : PySem.W.nsIn K mainGlobals "_law_is_keepable" = some (some (.ref f11))) (l11 : K.lookup f11 = some ⟨oc11, od11, .func (PySem.W.fnOf "_law_is_keepable" "_law_is_keepable" (defArgs s__law_is_keepable) (defBody s__law_is_keepable) (defScope s__law_is_keepable) .none kV11 dc11 pm11 an11 cd11 ct11), sl11⟩) (c11 : PySem.W.codeIn K cd11 "_law_is_keepable" = true) (k11 : PySem.W.keepIn K (.ref f11) = true)
    {f12 : Addr} {od12 an12 : Option Addr} {sl12 : Array (Option Value)} {oc12 kV12 dc12 pm12 cd12 ct12 : Value}
    (a12 : PySem.W.nsIn K mainGlobals "_law_kept_table" = some (some (.ref f12))) (l12 : K.lookup f12 = some ⟨oc12, od12, .func (PySem.W.fnOf "_law_kept_table" "_law_kept_table" (defArgs s__law_kept_table) (defBody s__law_kept_table) (defScope s__law_kept_table) .none kV12 dc12 pm12 an12 cd12 ct12), sl12⟩) (c12 : PySem.W.codeIn K cd12 "_law_kept_table" = true) (k12 : PySem.W.keepIn K (.ref f12) = true)
    {f13 : Addr} {od13 an13 : Option Addr} {sl13 : Array (Option Value)} {oc13 kV13 dc13 pm13 cd13 ct13 : Value}
    (a13 : PySem.W.nsIn K mainGlobals "_law_period_of" = some (some (.ref f13))) (l13 : K.lookup f13 = some ⟨oc13, od13, .func (PySem.W.fnOf "_law_period_of" "_law_period_of" (defArgs s__law_period_of) (defBody s__law_period_of) (defScope s__law_period_of) .none kV13 dc13 pm13 an13 cd13 ct13), sl13⟩) (c13 : PySem.W.codeIn K cd13 "_law_period_of" = true) (k13 : PySem.W.keepIn K (.ref f13) = true)
    {f14 : Addr} {od14 an14 : Option Addr} {sl14 : Array (Option Value)} {oc14 kV14 dc14 pm14 cd14 ct14 : Value}
    (a14 : PySem.W.nsIn K mainGlobals "_law_running" = some (some (.ref f14))) (l14 : K.lookup f14 = some ⟨oc14, od14, .func (PySem.W.fnOf "_law_running" "_law_running" (defArgs s__law_running) (defBody s__law_running) (defScope s__law_running) .none kV14 dc14 pm14 an14 cd14 ct14), sl14⟩) (c14 : PySem.W.codeIn K cd14 "_law_running" = true) (k14 : PySem.W.keepIn K (.ref f14) = true)
    {f15 : Addr} {od15 an15 : Option Addr} {sl15 : Array (Option Value)} {oc15 kV15 dc15 pm15 cd15 ct15 : Value}
    (a15 : PySem.W.nsIn K mainGlobals "law" = some (some (.ref f15))) (l15 : K.lookup f15 = some ⟨oc15, od15, .func (PySem.W.fnOf "law" "law" (defArgs s_law) (defBody s_law) (defScope s_law) .none kV15 dc15 pm15 an15 cd15 ct15), sl15⟩) (c15 : PySem.W.codeIn K cd15 "law" = true) (k15 : PySem.W.keepIn K (.ref f15) = true)
    (z_any : PySem.W.nsIn K mainGlobals "any" = some none)
    (z_bool : PySem.W.nsIn K mainGlobals "bool" = some none)
    (z_dict : PySem.W.nsIn K mainGlobals "dict" = some none)
    (z_int : PySem.W.nsIn K mainGlobals "int" = some none)
    (z_isinstance : PySem.W.nsIn K mainGlobals "isinstance" = some none)
    (z_len : PySem.W.nsIn K mainGlobals "len" = some none)
    (z_max : PySem.W.nsIn K mainGlobals "max" = some none)
    (z_min : PySem.W.nsIn K mainGlobals "min" = some none)
    (z_range : PySem.W.nsIn K mainGlobals "range" = some none)
    (z_str : PySem.W.nsIn K mainGlobals "str" = some none)
    (z_tuple : PySem.W.nsIn K mainGlobals "tuple" = some none)
    : ∃ fd : FuncData, (∀ (s : Shared) (v : Value), BindsTo s fd ⟨[v], []⟩ [("script", v)]) ∧ ∀ base : Heap, K.In base → base.Ns mainGlobals mg → FnOk l.prog w K mg base (L2.CX l.prog w) 8 fa fd ["script"] (spI K (fun _ => 0) 1 F_law) := by
  subst hP
  have e := hfa.symm.trans (PySem.W.mg_of X G a15)
  cases e
  have Z : Zs mg := ⟨PySem.W.mg_none_of X G z_any, PySem.W.mg_none_of X G z_bool, PySem.W.mg_none_of X G z_dict, PySem.W.mg_none_of X G z_int, PySem.W.mg_none_of X G z_isinstance, PySem.W.mg_none_of X G z_len, PySem.W.mg_none_of X G z_max, PySem.W.mg_none_of X G z_min, PySem.W.mg_none_of X G z_range, PySem.W.mg_none_of X G z_str, PySem.W.mg_none_of X G z_tuple⟩
  have F0 := fun_mk (st := s_weighted) l0 c0 k0
  have b0 := F0.binds (ps := ["net", "period"]) fun _ _ _ _ _ _ us hl => match us, hl with | [_, _], _ => rfl
  have F1 := fun_mk (st := s_greatest_sums) l1 c1 k1
  have b1 := F1.binds (ps := ["rows", "starts", "many"]) fun _ _ _ _ _ _ us hl => match us, hl with | [_, _, _], _ => rfl
  have F2 := fun_mk (st := s_against) l2 c2 k2
  have b2 := F2.binds (ps := ["rows", "fixed", "many"]) fun _ _ _ _ _ _ us hl => match us, hl with | [_, _, _], _ => rfl
  have F3 := fun_mk (st := s_room) l3 c3 k3
  have b3 := F3.binds (ps := ["net", "period", "fixed"]) fun _ _ _ _ _ _ us hl => match us, hl with | [_, _, _], _ => rfl
  have F4 := fun_mk (st := s__law_cell) l4 c4 k4
  have b4 := F4.binds (ps := ["script", "k"]) fun _ _ _ _ _ _ us hl => match us, hl with | [_, _], _ => rfl
  have F5 := fun_mk (st := s__law_digits) l5 c5 k5
  have b5 := F5.binds (ps := ["script", "first", "last"]) fun _ _ _ _ _ _ us hl => match us, hl with | [_, _, _], _ => rfl
  have F6 := fun_mk (st := s__law_draw) l6 c6 k6
  have b6 := F6.binds (ps := ["box", "many"]) fun _ _ _ _ _ _ us hl => match us, hl with | [_, _], _ => rfl
  have F7 := fun_mk (st := s__law_pick) l7 c7 k7
  have b7 := F7.binds (ps := ["box", "things"]) fun _ _ _ _ _ _ us hl => match us, hl with | [_, _], _ => rfl
  have F8 := fun_mk (st := s__law_like) l8 c8 k8
  have b8 := F8.binds (ps := ["told", "due"]) fun _ _ _ _ _ _ us hl => match us, hl with | [_, _], _ => rfl
  have F9 := fun_mk (st := s__law_net) l9 c9 k9
  have b9 := F9.binds (ps := ["box", "many", "most"]) fun _ _ _ _ _ _ us hl => match us, hl with | [_, _, _], _ => rfl
  have F10 := fun_mk (st := s__law_far) l10 c10 k10
  have b10 := F10.binds (ps := ["net", "period", "begin"]) fun _ _ _ _ _ _ us hl => match us, hl with | [_, _, _], _ => rfl
  have F11 := fun_mk (st := s__law_is_keepable) l11 c11 k11
  have b11 := F11.binds (ps := ["net", "period"]) fun _ _ _ _ _ _ us hl => match us, hl with | [_, _], _ => rfl
  have F12 := fun_mk (st := s__law_kept_table) l12 c12 k12
  have b12 := F12.binds (ps := ["box", "net", "period"]) fun _ _ _ _ _ _ us hl => match us, hl with | [_, _, _], _ => rfl
  have F13 := fun_mk (st := s__law_period_of) l13 c13 k13
  have b13 := F13.binds (ps := ["box", "net"]) fun _ _ _ _ _ _ us hl => match us, hl with | [_, _], _ => rfl
  have F14 := fun_mk (st := s__law_running) l14 c14 k14
  have b14 := F14.binds (ps := ["box", "many", "most"]) fun _ _ _ _ _ _ us hl => match us, hl with | [_, _, _], _ => rfl
  have F15 := fun_mk (st := s_law) l15 c15 k15
  refine ⟨PySem.W.fnOf "law" "law" (defArgs s_law) (defBody s_law) (defScope s_law) .none kV15 dc15 pm15 an15 cd15 ct15, fun s v => .of_eq rfl, fun base _ _ => ?_⟩
  have C_weighted : Callee l.prog w K mg base (fun _ => 0) 1 "weighted" 2 F_weighted := ok_weighted F0 (PySem.W.mg_of X G a0) b0 Z 
  have C_greatest_sums : Callee l.prog w K mg base (fun _ => 0) 1 "greatest_sums" 3 F_greatest_sums := ok_greatest_sums F1 (PySem.W.mg_of X G a1) b1 Z 
  have C_against : Callee l.prog w K mg base (fun _ => 0) 2 "against" 3 F_against := ok_against F2 (PySem.W.mg_of X G a2) b2 Z C_greatest_sums
  have C_room : Callee l.prog w K mg base (fun _ => 0) 3 "room" 3 F_room := ok_room F3 (PySem.W.mg_of X G a3) b3 Z C_greatest_sums C_against C_weighted
  have C__law_cell : Callee l.prog w K mg base (fun _ => 0) 1 "_law_cell" 2 F__law_cell := ok__law_cell F4 (PySem.W.mg_of X G a4) b4 Z 
  have C__law_digits : Callee l.prog w K mg base (fun _ => 0) 2 "_law_digits" 3 F__law_digits := ok__law_digits F5 (PySem.W.mg_of X G a5) b5 Z C__law_cell
  have C__law_draw : Callee l.prog w K mg base (fun _ => 0) 1 "_law_draw" 2 F__law_draw := ok__law_draw F6 (PySem.W.mg_of X G a6) b6 Z 
  have C__law_pick : Callee l.prog w K mg base (fun _ => 0) 2 "_law_pick" 2 F__law_pick := ok__law_pick F7 (PySem.W.mg_of X G a7) b7 Z C__law_draw
  have C__law_like : Callee l.prog w K mg base (fun _ => 0) 7 "_law_like" 2 F__law_like := ok__law_like F8 (PySem.W.mg_of X G a8) b8 Z 
  have C__law_net : Callee l.prog w K mg base (fun _ => 0) 3 "_law_net" 3 F__law_net := ok__law_net F9 (PySem.W.mg_of X G a9) b9 Z C__law_draw C__law_pick
  have C__law_far : Callee l.prog w K mg base (fun _ => 0) 1 "_law_far" 3 F__law_far := ok__law_far F10 (PySem.W.mg_of X G a10) b10 Z 
  have C__law_is_keepable : Callee l.prog w K mg base (fun _ => 0) 2 "_law_is_keepable" 2 F__law_is_keepable := ok__law_is_keepable F11 (PySem.W.mg_of X G a11) b11 Z C__law_far
  have C__law_kept_table : Callee l.prog w K mg base (fun _ => 0) 2 "_law_kept_table" 3 F__law_kept_table := ok__law_kept_table F12 (PySem.W.mg_of X G a12) b12 Z C__law_draw
  have C__law_period_of : Callee l.prog w K mg base (fun _ => 0) 3 "_law_period_of" 2 F__law_period_of := ok__law_period_of F13 (PySem.W.mg_of X G a13) b13 Z C__law_pick C__law_is_keepable
  have C__law_running : Callee l.prog w K mg base (fun _ => 0) 4 "_law_running" 3 F__law_running := ok__law_running F14 (PySem.W.mg_of X G a14) b14 Z C__law_period_of C__law_net
  exact ok_law F15 Z C__law_like C_room C__law_far C__law_draw C__law_pick C__law_kept_table C__law_running C__law_digits
end
end Ev02

namespace Ev02
open PySem L2 Iv
theorem cell_ok (ns : List Int) (k : Nat) (st : Stt) {Q : D → Stt → Prop} (h : Q (.int (ns.getD k 0)) st) : (F__law_cell [.cl (ns.map .int), .int k] st).W Q := by
  refine w_fn rfl ?_
  unfold b__law_cell
  simp
  by_cases hk : k < ns.length
  · refine .inr ⟨hk, _, ⟨_, List.getElem?_eq_getElem hk, rfl⟩, ?_⟩
    rwa [List.getD_eq_getElem?_getD, List.getElem?_eq_getElem hk] at h
  · refine .inl ⟨by omega, ?_⟩
    rwa [List.getD_eq_getElem?_getD, List.getElem?_eq_none (by omega)] at h
def okd (x : Int) : Prop := 0 ≤ x ∧ x < 1000
theorem digits_ok (ns : List Int) (st : Stt) {Q : D → Stt → Prop} (h : ∀ ds : List Int, (∀ x ∈ ds, okd x) → Q (.obj st.length) (st ++ [.lst (ds.map .int)])) : (F__law_digits [.cl (ns.map .int), .int 0, .int 63] st).W Q := by
  refine w_fn rfl ?_
  unfold b__law_digits
  simp [and_assoc]
  refine for_rng (fun i env st' => ∃ (ds : List Int) (a b c d : Option D), (∀ x ∈ ds, okd x) ∧ ds.length ≤ 1560 ∧ st' = st ++ [.lst (ds.map .int)] ∧ env = [some (.cl (ns.map .int)), some (.int 0), some (.int 63), some (.obj st.length), a, b, c, d]) ?_ ?_ ?_ ?_
  · exact ⟨[], none, none, none, none, by simp, by simp, by simp, rfl⟩
  · rintro i env st' hi ⟨ds, a, b, c, d, hd, hl, rfl, rfl⟩
    simp only [put_nm, Option.some.injEq, exists_eq_left']
    refine seq_cut (fun env' st' => ∃ z : Int, env' = [some (.cl (ns.map .int)), some (.int 0), some (.int 63), some (.obj st.length), some (.int i), some (.int z), c, d] ∧ st' = st ++ [.lst (ds.map .int)]) ?_ ?_
    · simp [and_assoc]
      exact cell_ok ns i _ (by simp)
    rintro env' st' ⟨z, rfl, rfl⟩
    refine seq_cut (fun env' st' => ∃ z : Int, 0 ≤ z ∧ env' = [some (.cl (ns.map .int)), some (.int 0), some (.int 63), some (.obj st.length), some (.int i), some (.int z), c, d] ∧ st' = st ++ [.lst (ds.map .int)]) ?_ ?_
    · simp [and_assoc, cMul]
      omega
    rintro env' st' ⟨z, hz, rfl, rfl⟩
    have hm : ∀ y : Int, okd (y % 1000) := fun y => ⟨Int.emod_nonneg _ (by decide), Int.emod_lt_of_pos _ (by decide)⟩
    have happ : ∀ (ds : List Int) (y : Int), (∀ x ∈ ds, okd x) → ∀ x ∈ ds ++ [y % 1000], okd x := fun ds y h x hx => by
      rcases List.mem_append.mp hx with q | q
      · exact h x q
      · rw [List.mem_singleton.mp q]; exact hm y
    by_cases hlen : (1500 : Int) < ds.length
    · simp [and_assoc, hlen, cMul]
      exact h ds hd
    have hlen' : ds.length ≤ 1500 := by omega
    by_cases hb : z < 1000000000000000000
    · simp [and_assoc, hlen, hb, cMul]
      refine for_rng (fun j env st' => ∃ (es : List Int) (b : Option D) (d : Int), (∀ x ∈ es, okd x) ∧ es.length = ds.length + j ∧ st' = st ++ [.lst (es.map .int)] ∧ env = [some (.cl (ns.map .int)), some (.int 0), some (.int 63), some (.obj st.length), some (.int i), some (.int z), b, some (.int d)]) ?_ ?_ ?_ (by decide)
      · exact ⟨ds, _, _, hd, rfl, rfl, rfl⟩
      · rintro j env st' hj ⟨es, b, d, he, el, rfl, rfl⟩
        simp [and_assoc, cMul, sizeLine_eq]
        refine ⟨by omega, es ++ [(d * 16807 + 7 * j + 1) % 2147483647 / 997 % 1000], happ _ _ he, by simp; omega, by simp⟩
      · rintro env st' ⟨es, b, d, he, el, rfl, rfl⟩
        exact ⟨es, he, by omega, rfl, _, _, _, _, rfl⟩
    · simp [and_assoc, hlen, hb, cMul]
      refine for_rng (fun j env st' => ∃ (es : List Int) (b : Option D) (z : Int), (∀ x ∈ es, okd x) ∧ es.length ≤ ds.length + j ∧ st' = st ++ [.lst (es.map .int)] ∧ env = [some (.cl (ns.map .int)), some (.int 0), some (.int 63), some (.obj st.length), some (.int i), some (.int z), b, d]) ?_ ?_ ?_ (by decide)
      · exact ⟨ds, _, _, hd, Nat.le_refl _, rfl, rfl⟩
      · rintro j env st' hj ⟨es, b, z, he, el, rfl, rfl⟩
        by_cases hz : 0 < z
        · simp [and_assoc, cMul, sizeLine_eq, hz]
          refine ⟨by omega, es ++ [z % 1000], happ _ _ he, by simp; omega, by simp⟩
        · simp [and_assoc, cMul, sizeLine_eq, hz]
          exact ⟨es, he, by omega, rfl⟩
      · rintro env st' ⟨es, b, z, he, el, rfl, rfl⟩
        exact ⟨es, he, by omega, rfl, _, _, _, _, rfl⟩
  · rintro env st' ⟨ds, a, b, c, d, hd, hl, rfl, rfl⟩
    simp
    exact h ds hd
  · decide

/-! ### the box of digits -/
/-- at b stands a box -/
def Box (b : Nat) (st : Stt) : Prop := ∃ (d at' : Nat) (ds : List Int), d < b ∧ st[b]? = some (.lst [.obj d, .int at']) ∧ st[d]? = some (.lst (ds.map .int)) ∧ ∀ x ∈ ds, okd x
/-- behind draws: a box again, all else as it was -/
def Drawn (b : Nat) (st st' : Stt) : Prop := Box b st' ∧ st'.length = st.length ∧ ∀ j, j ≠ b → st'[j]? = st[j]?
theorem Drawn.refl {b : Nat} {st : Stt} (h : Box b st) : Drawn b st st := ⟨h, rfl, fun _ _ => rfl⟩
theorem Drawn.trans {b : Nat} {s1 s2 s3 : Stt} (h : Drawn b s1 s2) (g : Drawn b s2 s3) : Drawn b s1 s3 := ⟨g.1, g.2.1.trans h.2.1, fun j hj => (g.2.2 j hj).trans (h.2.2 j hj)⟩
theorem draw_ok {b : Nat} {st : Stt} {many : Int} (hb : Box b st) (hm : 0 < many) {Q : D → Stt → Prop} (h : ∀ v st', 0 ≤ v → v < many → Drawn b st st' → Q (.int v) st') : (F__law_draw [.obj b, .int many] st).W Q := by
  obtain ⟨d, a, ds, hd0, h1, h2, h3⟩ := hb
  have hd : d ≠ b := Nat.ne_of_lt hd0
  have hbl : b < st.length := (List.getElem?_eq_some_iff.mp h1).1
  have dr : Drawn b st (st.set b (.lst [.obj d, .int (((a + 1 : Nat)) : Int)])) := by
    refine ⟨⟨d, a + 1, ds, hd0, ?_, ?_, h3⟩, by simp, fun j hj => by rw [List.getElem?_set_ne (Ne.symm hj)]⟩
    · rw [List.getElem?_set_self hbl]
    · rw [List.getElem?_set_ne (Ne.symm hd)]; exact h2
  refine w_fn rfl ?_
  unfold b__law_draw
  have h4 : (st.set b (.lst [.obj d, .int ((a : Int) + 1)]))[b]? = some (.lst [.obj d, .int ((a : Int) + 1)]) := by rw [List.getElem?_set_self hbl]
  have h5 : (st.set b (.lst [.obj d, .int ((a : Int) + 1)]))[d]? = some (.lst (ds.map .int)) := by rw [List.getElem?_set_ne (Ne.symm hd)]; exact h2
  by_cases hl : a < ds.length
  · simp [and_assoc, h1, h4, h5, hm, hl]
    exact h _ _ (Int.emod_nonneg _ (by omega)) (Int.emod_lt_of_pos _ hm) dr
  · simp [and_assoc, h1, h4, h5, hm, hl, cMul]
    exact h _ _ (Int.emod_nonneg _ (by omega)) (Int.emod_lt_of_pos _ hm) dr
theorem pick_ok {b : Nat} {st : Stt} {l : Nat} {xs : List D} (hb : Box b st) (hl : st[l]? = some (.lst xs)) (hlb : l ≠ b) (h0 : xs ≠ []) {Q : D → Stt → Prop} (h : ∀ v st', v ∈ xs → Drawn b st st' → Q v st') : (F__law_pick [.obj b, .obj l] st).W Q := by
  refine w_fn rfl ?_
  unfold b__law_pick
  simp [and_assoc]
  refine draw_ok hb (by decide) fun v st' v0 v1 dr => ?_
  have hl' : st'[l]? = some (.lst xs) := (dr.2.2 l hlb).trans hl
  have hn : 0 < xs.length := List.length_pos_iff.mpr h0
  simp [hl']
  refine ⟨by omega, ?_⟩
  have i0 : 0 ≤ v % (xs.length : Int) := Int.emod_nonneg _ (by omega)
  have i1 : v % (xs.length : Int) < xs.length := Int.emod_lt_of_pos _ (by omega)
  rw [atI_of _ _ i0]
  have i2 : (v % (xs.length : Int)).toNat < xs.length := by omega
  rw [List.getElem?_eq_getElem i2]
  exact ⟨_, rfl, h _ _ (List.getElem_mem i2) dr⟩
/-- behind draws, with more in the store -/
structure Gr (b : Nat) (st st' : Stt) : Prop where
  box : Box b st'
  len : st.length ≤ st'.length
  old : ∀ j, j ≠ b → j < st.length → st'[j]? = st[j]?
theorem Box.lt {b : Nat} {st : Stt} (h : Box b st) : b < st.length := by
  obtain ⟨d, a, ds, hd, h1, h2, h3⟩ := h
  exact (List.getElem?_eq_some_iff.mp h1).1
theorem Box.app {b : Nat} {st : Stt} (h : Box b st) (more : Stt) : Box b (st ++ more) := by
  obtain ⟨d, a, ds, hd, h1, h2, h3⟩ := h
  exact ⟨d, a, ds, hd, app_lt h1, app_lt h2, h3⟩
theorem Box.set {b : Nat} {st : Stt} (h : Box b st) {L : Nat} (hL : b < L) (o : O) : Box b (st.set L o) := by
  obtain ⟨d, a, ds, hd, h1, h2, h3⟩ := h
  exact ⟨d, a, ds, hd, by rw [List.getElem?_set_ne (by omega)]; exact h1, by rw [List.getElem?_set_ne (by omega)]; exact h2, h3⟩
theorem Gr.refl {b : Nat} {st : Stt} (h : Box b st) : Gr b st st := ⟨h, Nat.le_refl _, fun _ _ _ => rfl⟩
theorem Gr.trans {b : Nat} {s1 s2 s3 : Stt} (h : Gr b s1 s2) (g : Gr b s2 s3) : Gr b s1 s3 := ⟨g.box, Nat.le_trans h.len g.len, fun j hj hl => (g.old j hj (Nat.lt_of_lt_of_le hl h.len)).trans (h.old j hj hl)⟩
theorem Gr.drawn {b : Nat} {st st' : Stt} (h : Drawn b st st') : Gr b st st' := ⟨h.1, Nat.le_of_eq h.2.1.symm, fun j hj _ => h.2.2 j hj⟩
theorem Gr.app {b : Nat} {st st' : Stt} (h : Gr b st st') (more : Stt) : Gr b st (st' ++ more) :=
  ⟨h.box.app more, by rw [List.length_append]; have := h.len; omega, fun j hj hl => by rw [List.getElem?_append_left (by have := h.len; omega)]; exact h.old j hj hl⟩
theorem Gr.set {b : Nat} {st st' : Stt} (h : Gr b st st') (hb : b < st.length) {L : Nat} (hL : st.length ≤ L) (o : O) : Gr b st (st'.set L o) :=
  ⟨h.box.set (by omega) o, by rw [List.length_set]; exact h.len, fun j hj hl => by rw [List.getElem?_set_ne (by omega)]; exact h.old j hj hl⟩
end Ev02

namespace Ev02
open PySem L2 Iv BF
abbrev NRow := Str × Row Str
def rowD (r : NRow) : D := .tup [.str r.1, .str r.2.b, .str r.2.e, .int r.2.w]
def rws (R : List NRow) : List (Row Str) := R.map (·.2)
/-- the sums stand in the dict -/
structure Sums (K : List (Key × D)) (f : Mp Str) : Prop where
  v : ∀ s : Str, valD K (.inr s) = (f s).map D.int
  k : ∀ kv ∈ K, ∃ s, kv.1 = .inr s
theorem Sums.put {K : List (Key × D)} {f : Mp Str} (h : Sums K f) (s : Str) (x : Int) : Sums (putD K (.inr s) (.int x)) (upM f s x) := by
  refine ⟨fun t => ?_, fun kv hk => ?_⟩
  · rw [valD_put]
    by_cases e : t = s
    · subst e
      rw [upM_self, if_pos rfl] <;> rfl
    · rw [upM_ne f x e, if_neg (by intro q; cases q; exact e rfl), h.v]
  · rcases putD_keys hk with e | ⟨kv', h1, h2⟩
    · exact ⟨s, e⟩
    · obtain ⟨t, e⟩ := h.k kv' h1
      exact ⟨t, h2 ▸ e⟩
theorem gs_ok {R : List NRow} {K0 : List (Key × D)} {f0 : Mp Str} {k j : Nat} {st : Stt} {many : Nat} (hk : st[k]? = some (.lst (R.map rowD))) (hj : st[j]? = some (.dct K0)) (S : Sums K0 f0)
    (hR : R.length ≤ 1000) (hK : K0.length ≤ 1000) (hm : many ≤ 1000) {Q : D → Stt → Prop}
    (h : ∀ K L z, Sums K (rounds (rws R) many f0) → K.length ≤ 1100000 → Q (.tup [.obj st.length, .obj (st.length + 1), z]) (st ++ [.dct K, .dct L])) : (F_greatest_sums [.obj k, .obj j, .int many] st).W Q := by
  have hkl : k < st.length := (List.getElem?_eq_some_iff.mp hk).1
  refine w_fn rfl ?_
  unfold b_greatest_sums
  simp [and_assoc, gDict, hj, eDnew]
  refine ⟨by omega, ?_⟩
  refine for_rng (fun i env st' => ∃ K L rz a b c d e, Sums K (rounds (rws R) i f0) ∧ K.length ≤ K0.length + i * R.length ∧ L.length ≤ i * R.length ∧ st' = st ++ [.dct K, .dct L] ∧
    env = [some (.obj k), some (.obj j), some (.int many), some (.obj st.length), some (.obj (st.length + 1)), some rz, a, b, c, d, e]) ?_ ?_ ?_ (show many ≤ 100000000 by omega)
  · exact ⟨K0, [], .non, none, none, none, none, none, S, by omega, by simp, rfl, rfl⟩
  · rintro i env st' hi ⟨K, L, rz, a, b, c, d, e, S1, l1, l2, rfl, rfl⟩
    simp only [put_nm, Option.some.injEq, exists_eq_left']
    refine seq_cut (fun env' st' => ∃ a, env' = [some (.obj k), some (.obj j), some (.int many), some (.obj st.length), some (.obj (st.length + 1)), some .non, a, b, c, d, e] ∧ st' = st ++ [.dct K, .dct L]) (by simp) ?_
    rintro env' st' ⟨a, rfl, rfl⟩
    have hk' : ∀ X Y : O, (st ++ [X, Y])[k]? = some (.lst (R.map rowD)) := fun X Y => by rw [List.getElem?_append_left hkl]; exact hk
    refine seq_cut (fun env' st' => ∃ K' L' rz b c d e, Sums K' (round (rws R) (rounds (rws R) i f0)) ∧ K'.length ≤ K.length + R.length ∧ L'.length ≤ L.length + R.length ∧ (rz = .non → round (rws R) (rounds (rws R) i f0) = rounds (rws R) i f0) ∧ (rz = .non ∨ ∃ s, rz = .str s) ∧ st' = st ++ [.dct K', .dct L'] ∧
      env' = [some (.obj k), some (.obj j), some (.int many), some (.obj st.length), some (.obj (st.length + 1)), some rz, a, b, c, d, e]) ?_ ?_
    · simp [and_assoc, hk']
      refine for_lst (xs := R.map rowD) (fun m env' st' => ∃ K' L' rz b c d e, Sums K' ((rws (R.take m)).foldl rlx (rounds (rws R) i f0)) ∧ K'.length ≤ K.length + m ∧ L'.length ≤ L.length + m ∧ (rz = .non → (rws (R.take m)).foldl rlx (rounds (rws R) i f0) = rounds (rws R) i f0) ∧ (rz = .non ∨ ∃ s, rz = .str s) ∧ st' = st ++ [.dct K', .dct L'] ∧
        env' = [some (.obj k), some (.obj j), some (.int many), some (.obj st.length), some (.obj (st.length + 1)), some rz, a, b, c, d, e]) ?_ ?_ ?_ ?_ (by simp; omega)
      · exact ⟨K, L, .non, b, c, d, e, S1, by omega, by omega, fun _ => rfl, .inl rfl, rfl, rfl⟩
      · rintro m env' st' ⟨K', L', rz, b, c, d, e, _, _, _, _, _, rfl, rfl⟩
        exact hk' _ _
      · rintro m x env' st' hx ⟨K', L', rz, b, c, d, e, S2, m1, m2, hz, hz2, rfl, rfl⟩
        obtain ⟨⟨nm, r⟩, hr, rfl⟩ : ∃ r, R[m]? = some r ∧ x = rowD r := by
          rw [List.getElem?_map] at hx
          cases q : R[m]? with
          | none => rw [q] at hx; cases hx
          | some r => rw [q] at hx; exact ⟨r, rfl, (Option.some.inj hx).symm⟩
        have hml : m < R.length := (List.getElem?_eq_some_iff.mp hr).1
        have hfold : (rws (R.take (m + 1))).foldl rlx (rounds (rws R) i f0) = rlx ((rws (R.take m)).foldl rlx (rounds (rws R) i f0)) r := by
          rw [take_succ_of hr]
          unfold rws
          rw [List.map_append, List.foldl_append] <;> rfl
        rw [hfold]
        generalize (rws (R.take m)).foldl rlx (rounds (rws R) i f0) = g at *
        have im : i * R.length ≤ 1000 * 1000 := Nat.mul_le_mul (by omega) hR
        refine ⟨_, rfl, ?_⟩
        rcases rlx_cases g r with ⟨h1, e1⟩ | ⟨x, h1, ⟨h2, e1⟩ | ⟨y, h2, ⟨h3, e1⟩ | ⟨h3, e1⟩⟩⟩
        · have v1 := S2.v r.b
          rw [h1] at v1
          simp [and_assoc, v1]
          rw [e1]
          exact ⟨K', S2, by omega, L', by omega, rz, hz, hz2, rfl, rfl, rfl⟩
        · have v1 := S2.v r.b
          have v2 := S2.v r.e
          rw [h1] at v1
          rw [h2] at v2
          simp [and_assoc, v1, v2, sizeLine_eq]
          rw [e1]
          have q1 := putD_len K' (.inr r.e) (.int (x + r.w))
          have q2 := putD_len L' (.inr r.e) (.tup [.str nm, .str r.b])
          exact ⟨by omega, by omega, _, S2.put r.e _, by omega, _, by omega, .str r.e, (fun h => nomatch h), .inr ⟨_, rfl⟩, rfl, rfl, rfl⟩
        · have v1 := S2.v r.b
          have v2 := S2.v r.e
          rw [h1] at v1
          rw [h2] at v2
          simp [and_assoc, v1, v2, sizeLine_eq, h3]
          rw [e1]
          have q1 := putD_len K' (.inr r.e) (.int (x + r.w))
          have q2 := putD_len L' (.inr r.e) (.tup [.str nm, .str r.b])
          exact ⟨by omega, by omega, _, S2.put r.e _, by omega, _, by omega, .str r.e, (fun h => nomatch h), .inr ⟨_, rfl⟩, rfl, rfl, rfl⟩
        · have v1 := S2.v r.b
          have v2 := S2.v r.e
          rw [h1] at v1
          rw [h2] at v2
          simp [and_assoc, v1, v2, h3]
          rw [e1]
          exact ⟨K', S2, by omega, L', by omega, rz, hz, hz2, rfl, rfl, rfl⟩
      · rintro env' st' ⟨K', L', rz, b, c, d, e, S2, m1, m2, hz, hz2, rfl, rfl⟩
        simp only [List.length_map, List.take_length] at *
        exact ⟨trivial, K', S2, m1, L', m2, rz, hz, hz2, rfl, _, _, _, _, rfl⟩
    · rintro env' st' ⟨K', L', rz, b, c, d, e, S2, m1, m2, hz, hz2, rfl, rfl⟩
      have im : (i + 1) * R.length = i * R.length + R.length := Nat.succ_mul _ _
      rcases hz2 with rfl | ⟨s, rfl⟩
      · simp
        have fx := rounds_fix (hz rfl) many (by omega)
        refine h K' L' .non ?_ ?_
        · rw [fx, ← hz rfl]; exact S2
        · have : (i + 1) * R.length ≤ 1000 * 1000 := Nat.mul_le_mul (by omega) hR
          omega
      · simp
        exact ⟨K', S2, by omega, by omega, rfl⟩
  · rintro env st' ⟨K, L, rz, a, b, c, d, e, S1, l1, l2, rfl, rfl⟩
    simp
    refine h K L rz S1 ?_
    have : many * R.length ≤ 1000 * 1000 := Nat.mul_le_mul hm hR
    omega
end Ev02

namespace Ev02
open PySem L2 Iv BF
/-- a rule: name, begin, end, least, turns -/
structure NRule where
  nm : Str
  b : Str
  e : Str
  l : Int
  t : Int
def ruleD (r : NRule) : D := .tup [.str r.nm, .str r.b, .str r.e, .int r.l, .int r.t]
def netD (ev : List Str) (rs : List NRule) : D := .tup [.str "net", .tup (ev.map .str), .tup (rs.map ruleD)]
def rowOf (p : Int) (r : NRule) : NRow := (r.nm, ⟨r.b, r.e, r.l - r.t * p⟩)
structure NetOk (ev : List Str) (rs : List NRule) : Prop where
  nd : ev.Nodup
  le : ev.length ≤ 6
  lr : rs.length ≤ 30
  inb : ∀ r ∈ rs, r.b ∈ ev
  ine : ∀ r ∈ rs, r.e ∈ ev
  tu : ∀ r ∈ rs, 0 ≤ r.t ∧ r.t < 100
theorem weighted_ok {ev : List Str} {rs : List NRule} {p : Int} {st : Stt} (N : NetOk ev rs) {Q : D → Stt → Prop} (h : Q (.obj st.length) (st ++ [.lst ((rs.map (rowOf p)).map rowD)])) : (F_weighted [netD ev rs, .int p] st).W Q := by
  refine w_fn rfl ?_
  unfold b_weighted
  simp [and_assoc, netD, wipeL]
  have e := comp_pure (xs := rs.map ruleD) (t := .tp [.nm 2, .nm 3, .nm 4, .nm 5, .nm 6]) (tt := tYesI) (te := eTup (aCons (eVar 2) (aCons (eVar 3) (aCons (eVar 4) (aCons (eOp Iv.gSub (eVar 5) (eOp gMul (eVar 6) (eVar 1))) (aNil))))))
    (env := [some (netD ev rs), some (.int p), none, none, none, none, none]) (st := st) (fun _ => true) (fun d => match d with | .tup [.str n, .str b, .str e, .int l, .int t] => .tup [.str n, .str b, .str e, .int (l - t * p)] | d => d) (fun x hx => ?_) (by have := N.lr; simp; omega)
  · unfold netD at e
    rw [e]
    have e2 : (List.map (fun d => match d with | .tup [.str n, .str b, .str e, .int l, .int t] => D.tup [.str n, .str b, .str e, .int (l - t * p)] | d => d) (List.filter (fun _ => true) (rs.map ruleD))) = (rs.map (rowOf p)).map rowD := by
      rw [List.filter_eq_self.mpr (by simp), List.map_map, List.map_map]
      rfl
    rw [e2]
    simpa using h
  · obtain ⟨r, hr, rfl⟩ := List.mem_map.mp hx
    refine ⟨_, rfl, ?_⟩
    have := N.tu r hr
    simp [and_assoc, ruleD, cMul]
    omega
def fxD (p : Str × Int) : D := .tup [.str p.1, .int p.2]
def fxF (f : Mp Str) (p : Str × Int) : Mp Str := upM f p.1 p.2
def nil0 : Mp Str := fun _ => none
theorem Sums.nil : Sums [] nil0 := ⟨fun s => rfl, fun _ h => nomatch h⟩
theorem rws_rows (rs : List NRule) (p : Int) : (rws (rs.map (rowOf p))) = rs.map fun r => (⟨r.b, r.e, r.l - r.t * p⟩ : Row Str) := by
  unfold rws
  rw [List.map_map]
  rfl
theorem rws_len (R : List NRow) : (rws R).length = R.length := by unfold rws; simp
/-- the first among the first i -/
def fsT {α β : Type} (f : α → Option β) (xs : List α) (i : Nat) : Option β := (xs.take i).findSome? f
theorem fsT_zero {α β : Type} (f : α → Option β) (xs : List α) : fsT f xs 0 = none := rfl
theorem fsT_succ {α β : Type} {f : α → Option β} {xs : List α} {i : Nat} {x : α} (h : xs[i]? = some x) : fsT f xs (i + 1) = (fsT f xs i).or (f x) := by
  unfold fsT
  rw [take_succ_of h, List.findSome?_append]
  cases (xs.take i).findSome? f <;> simp
theorem fsT_all {α β : Type} {f : α → Option β} {xs : List α} : fsT f xs xs.length = xs.findSome? f := by unfold fsT; rw [List.take_length]
theorem fsT_some {α β : Type} {f : α → Option β} {xs : List α} {i : Nat} {y : β} (h : fsT f xs i = some y) : xs.findSome? f = some y := by
  have e : xs = xs.take i ++ xs.drop i := (List.take_append_drop i xs).symm
  rw [e, List.findSome?_append]
  unfold fsT at h
  rw [h]
  rfl
/-- the pairs that contradict, as the program looks for them -/
def agP (R : List (Row Str)) (many : Nat) (f s : Str × Int) : Option D := match rounds R many (upM nil0 f.1 f.2) s.1 with
  | some y => if s.2 < y then some (.tup [.str "against", .str f.1, .str s.1]) else none
  | none => none
def agOne (R : List (Row Str)) (many : Nat) (fx : List (Str × Int)) (f : Str × Int) : Option D := fx.findSome? (agP R many f)
def agAll (R : List (Row Str)) (many : Nat) (fx : List (Str × Int)) : Option D := fx.findSome? (agOne R many fx)
theorem against_ok {R : List NRow} {fx : List (Str × Int)} {k : Nat} {st : Stt} {many : Nat} (hk : st[k]? = some (.lst (R.map rowD))) (hR : R.length ≤ 1000) (hf : fx.length ≤ 1000) (hm : many ≤ 1000) {Q : D → Stt → Prop}
    (h : Q ((agAll (rws R) many fx).getD .non) st) : (F_against [.obj k, .tup (fx.map fxD), .int many] st).W Q := by
  refine w_cut ?_
  refine w_fn rfl ?_
  unfold b_against
  simp [and_assoc]
  refine for_tup (xs := fx.map fxD) (fun i env st' => fsT (agOne (rws R) many fx) fx i = none ∧ (∃ c, st' = st ++ c) ∧ ∃ a b c d e f, env = [some (.obj k), some (.tup (fx.map fxD)), some (.int many), a, b, c, d, e, f]) ?_ ?_ ?_ (by simp; omega)
  · exact ⟨rfl, ⟨[], by simp⟩, none, none, none, none, none, none, rfl⟩
  · rintro i x env st' hx ⟨h1, ⟨c0, rfl⟩, a, b, c, d, e, f, rfl⟩
    obtain ⟨p, hp, rfl⟩ := map_get hx
    refine ⟨_, rfl, ?_⟩
    simp [and_assoc, mergeD, putD]
    refine gs_ok (R := R) (K0 := [(.inr p.1, .int p.2)]) (f0 := upM nil0 p.1 p.2) (by rw [List.getElem?_append_left (List.getElem?_eq_some_iff.mp hk).1]; exact hk) (by rw [← List.append_assoc]; exact app_at1' _ _ (by simp)) ?_ hR (by simp) hm fun K L z SK _ => ?_
    · exact Sums.nil.put p.1 p.2
    generalize hst : (st ++ (c0 ++ [O.dct [(Sum.inr p.1, D.int p.2)]])) = st1
    refine ⟨_, rfl, ?_⟩
    have hK : (st1 ++ [O.dct K, O.dct L])[st1.length]? = some (.dct K) := by
      have := app_at (st := st1) (more := [O.dct K, O.dct L]) 0
      simpa using this
    simp [and_assoc]
    refine for_tup (xs := fx.map fxD) (fun j env st' => fsT (agP (rws R) many p) fx j = none ∧ st' = st1 ++ [O.dct K, O.dct L] ∧ ∃ e f, env = [some (.obj k), some (.tup (fx.map fxD)), some (.int many), some (.str p.1), some (.int p.2), some (.obj st1.length), some z, e, f]) ?_ ?_ ?_ (by simp; omega)
    · exact ⟨rfl, rfl, _, _, rfl⟩
    · rintro j x env st' hx ⟨g1, rfl, e, f, rfl⟩
      obtain ⟨q, hq, rfl⟩ := map_get hx
      refine ⟨_, rfl, ?_⟩
      have hv := SK.v q.1
      have step := fsT_succ (f := agP (rws R) many p) hq
      rw [g1] at step
      cases hr : rounds (rws R) many (upM nil0 p.1 p.2) q.1 with
      | none =>
        rw [hr] at hv
        have e3 : agP (rws R) many p q = none := by unfold agP; rw [hr]
        rw [e3] at step
        simp [and_assoc, hK, hv]
        exact step
      | some y =>
        rw [hr] at hv
        by_cases hy : q.2 < y
        · have e3 : agP (rws R) many p q = some (D.tup [.str "against", .str p.1, .str q.1]) := by unfold agP; rw [hr]; simp [hy]
          rw [e3] at step
          simp [and_assoc, hK, hv, hy]
          have a1 : agOne (rws R) many fx p = some (D.tup [.str "against", .str p.1, .str q.1]) := fsT_some step
          have a2 : agAll (rws R) many fx = some (D.tup [.str "against", .str p.1, .str q.1]) := by
            refine fsT_some (i := i + 1) ?_
            rw [fsT_succ hp, h1, a1]
            rfl
          rw [a2] at h
          refine ⟨rfl, ?_, h⟩
          rw [← hst]
          exact ⟨c0 ++ ([O.dct [(Sum.inr p.1, D.int p.2)]] ++ [O.dct K, O.dct L]), by simp⟩
        · have e3 : agP (rws R) many p q = none := by unfold agP; rw [hr]; simp [hy]
          rw [e3] at step
          simp [and_assoc, hK, hv, hy]
          exact step
    · rintro env st' ⟨g1, rfl, e, f, rfl⟩
      rw [List.length_map, fsT_all] at g1
      refine ⟨?_, ?_, _, _, _, _, _, _, rfl⟩
      · rw [fsT_succ hp, h1]
        exact g1
      · rw [← hst]
        exact ⟨c0 ++ ([O.dct [(Sum.inr p.1, D.int p.2)]] ++ [O.dct K, O.dct L]), by simp⟩
  · rintro env st' ⟨h1, ⟨c0, rfl⟩, a, b, c, d, e, f, rfl⟩
    rw [List.length_map, fsT_all] at h1
    have e : agAll (rws R) many fx = none := h1
    rw [e] at h
    simpa [D.flat] using h
end Ev02

namespace Ev02
open PySem L2 Iv BF
def fxM (fx : List (Str × Int)) : Mp Str := fx.foldl fxF nil0
def optD : Option Int → D
  | none => .non
  | some x => .int x
def negs (fx : List (Str × Int)) : List (Str × Int) := fx.map fun q => (q.1, -q.2)
def backs (R : List NRow) : List NRow := R.map fun r => (r.1, ⟨r.2.e, r.2.b, r.2.w⟩)
theorem fold_some (fx : List (Str × Int)) : ∀ (f : Mp Str) (s : Str), (f s ≠ none ∨ s ∈ fx.map (·.1)) → fx.foldl fxF f s ≠ none := by
  induction fx with
  | nil => intro f s h; rcases h with h | h; exact h; cases h
  | cons q fx ih =>
    intro f s h
    refine ih (fxF f q) s ?_
    by_cases e : s = q.1
    · left
      unfold fxF
      rw [e, upM_self]
      exact fun z => nomatch z
    · rcases h with h | h
      · left
        unfold fxF
        rw [upM_ne f _ e]
        exact h
      · right
        rcases List.mem_cons.mp h with z | z
        · exact (e z).elim
        · exact z
theorem sums_fold : ∀ (fx : List (Str × Int)) (K : List (Key × D)) (f : Mp Str), Sums K f → Sums ((fx.map fun q => ((Sum.inr q.1 : Key), D.int q.2)).foldl (fun acc kv => putD acc kv.1 kv.2) K) (fx.foldl fxF f)
  | [], K, f, h => h
  | q :: fx, K, f, h => sums_fold fx _ _ (h.put q.1 q.2)
theorem pairs_fx : ∀ fx : List (Str × Int), pairsD (fx.map fxD) = some (fx.map fun q => ((Sum.inr q.1 : Key), D.int q.2))
  | [] => rfl
  | q :: fx => by
    show (match keyD (.str q.1), pairsD (fx.map fxD) with | some key, some r => some ((key, D.int q.2) :: r) | _, _ => none) = _
    rw [pairs_fx fx]
    rfl
theorem bools_map {α : Type} (f : α → Bool) : ∀ xs : List α, boolsD (xs.map fun x => D.bl (f x)) = some (xs.map f)
  | [] => rfl
  | x :: xs => by
    show (boolsD (xs.map fun x => D.bl (f x))).map (f x :: ·) = _
    rw [bools_map f xs]
    rfl
def bad (E : Mp Str) (q : Str × Int) : Bool := decide (q.2 < (E q.1).getD 0)
def roomD (ev : List Str) (rs : List NRule) (p : Int) (fx : List (Str × Int)) : D :=
  let R := rs.map (rowOf p)
  let E := rounds (rws R) ev.length (fxM fx)
  let B := rounds (rws (backs R)) ev.length (fxM (negs fx))
  if fx.any (bad E) = true then (agAll (rws R) ev.length fx).getD .non
  else .tup [.str "room", .tup (ev.map fun v => .tup [.str v, optD (E v), optD ((B v).map fun x => -x)])]
theorem flat_ag (R : List (Row Str)) (many : Nat) (fx : List (Str × Int)) : ((agAll R many fx).getD .non).flat = true := by
  cases q : agAll R many fx with
  | none => rfl
  | some d =>
    obtain ⟨f, _, hf⟩ := List.exists_of_findSome?_eq_some q
    obtain ⟨s, _, hs⟩ := List.exists_of_findSome?_eq_some hf
    unfold agP at hs
    split at hs
    · split at hs
      · cases hs; rfl
      · cases hs
    · cases hs
theorem flats_map {α : Type} (f : α → D) (h : ∀ x, (f x).flat = true) : ∀ xs : List α, flats (xs.map f) = true
  | [] => rfl
  | x :: xs => by
    show ((f x).flat && flats (xs.map f)) = true
    rw [h, flats_map f h xs] <;> rfl
theorem room_ok {ev : List Str} {rs : List NRule} {p : Int} {fx : List (Str × Int)} {st : Stt} (N : NetOk ev rs) (hf : fx.length ≤ 1000) {Q : D → Stt → Prop} (h : Q (roomD ev rs p fx) st) : (F_room [netD ev rs, .int p, .tup (fx.map fxD)] st).W Q := by
  have hle := N.le
  have hlr := N.lr
  refine w_cut ?_
  refine w_fn rfl ?_
  unfold b_room
  rw [sW_seq]
  simp only [w_sset, w_call, w_acons, W_bind, w_anil, W_ok, w_var]
  simp
  refine weighted_ok N ?_
  generalize hR : rs.map (rowOf p) = R
  have lR : R.length = rs.length := by rw [← hR]; simp
  generalize hE : rounds (rws R) ev.length (fxM fx) = E
  simp [netD, gDict, pairs_fx, sizeLine_eq, mergeD]
  refine ⟨by omega, ?_⟩
  have hE0 : ∀ q ∈ fx, ∃ y, E q.1 = some y := fun q hq => by
    have h1 := fold_some fx nil0 q.1 (.inr (List.mem_map_of_mem hq))
    cases e : fxM fx q.1 with
    | none => exact (h1 e).elim
    | some x =>
      obtain ⟨y, e2, _⟩ := rounds_le (rws R) (fxM fx) ev.length q.1 x e
      rw [hE] at e2
      exact ⟨y, e2⟩
  refine gs_ok (R := R) (f0 := fxM fx) (by simp) (app_at1'' _ _ _ rfl) (sums_fold fx [] nil0 Sums.nil) (by omega) ?_ (by omega) fun K L z SK _ => ?_
  · have := fold_putD_len (fx.map fun q => ((Sum.inr q.1 : Key), D.int q.2)) []
    simp only [List.length_map, List.length_nil] at this
    exact Nat.le_trans this (by omega)
  rw [hE] at SK
  generalize hst1 : (st ++ [O.lst (List.map rowD R), O.dct (List.foldl (fun acc kv => putD acc kv.1 kv.2) [] (List.map (fun q => ((Sum.inr q.1 : Key), D.int q.2)) fx))]) = st1
  refine ⟨_, rfl, ?_⟩
  have hK : (st1 ++ [O.dct K, O.dct L])[st1.length]? = some (.dct K) := by
    have := app_at (st := st1) (more := [O.dct K, O.dct L]) 0
    simpa using this
  have hrows : ∀ more, (st1 ++ more)[st.length]? = some (.lst (R.map rowD)) := fun more => by
    refine app_lt ?_
    rw [← hst1]
    simp
  simp [and_assoc]
  rw [comp_pure (fun _ => true) (fun d => match d with | .tup [.str s, .int m] => .bl (decide (m < (E s).getD 0)) | d => d) (fun x hx => ?_) (by simp; omega)]
  rotate_left
  · obtain ⟨q, hq, rfl⟩ := List.mem_map.mp hx
    refine ⟨_, rfl, ?_⟩
    obtain ⟨y, hy⟩ := hE0 q hq
    have hv := SK.v q.1
    rw [hy] at hv
    simp [and_assoc, wipeL, fxD, hK, hv, hy]
  have e2 : (List.map (fun d => match d with | .tup [.str s, .int m] => D.bl (decide (m < (E s).getD 0)) | d => d) (List.filter (fun _ => true) (fx.map fxD))) = fx.map fun q => D.bl (bad E q) := by
    rw [List.filter_eq_self.mpr (by simp), List.map_map]
    rfl
  rw [e2]
  simp [gAny, bools_map, gTruth]
  by_cases hb : fx.any (bad E) = true
  · refine .inr ⟨?_, ?_⟩
    · obtain ⟨q, hq, hq2⟩ := List.any_eq_true.mp hb
      exact ⟨q.1, q.2, hq, hq2⟩
    · refine against_ok (hrows _) (by omega) hf (by omega) ?_
      refine ⟨flat_ag _ _ _, ⟨_, by rw [← hst1, List.append_assoc]⟩, ?_⟩
      unfold roomD at h
      dsimp only at h
      rw [hR, hE, if_pos hb] at h
      exact h
  refine .inl ⟨?_, ?_⟩
  · intro s m hm
    cases hbb : bad E (s, m) with
    | false => rfl
    | true => exact (hb (List.any_eq_true.mpr ⟨_, hm, hbb⟩)).elim
  simp [hrows]
  rw [comp_pureL (xs := R.map rowD) (fun _ => true) (fun d => match d with | .tup [n, b, e, w] => .tup [n, e, b, w] | d => d) (hrows _) (fun x hx => ?_) (by simp; omega)]
  rotate_left
  · obtain ⟨q, hq, rfl⟩ := List.mem_map.mp hx
    refine ⟨_, rfl, ?_⟩
    simp [and_assoc, wipeL, rowD]
  have e3 : (List.map (fun d => match d with | .tup [n, b, e, w] => D.tup [n, e, b, w] | d => d) (List.filter (fun _ => true) (R.map rowD))) = (backs R).map rowD := by
    rw [List.filter_eq_self.mpr (by simp), List.map_map]
    unfold backs
    rw [List.map_map]
    rfl
  rw [e3]
  simp
  rw [dcomp_pure (fun d => match d with | .tup [.str s, _] => .inr s | _ => .inl 0) (fun d => match d with | .tup [_, .int m] => .int (-m) | d => d) (fun x hx => ?_) (by simp; omega)]
  rotate_left
  · obtain ⟨q, hq, rfl⟩ := List.mem_map.mp hx
    refine ⟨_, rfl, ?_⟩
    simp [and_assoc, wipeL, fxD]
  have e4 : ((fx.map fxD).map fun x => ((match x with | .tup [.str s, _] => (Sum.inr s : Key) | _ => .inl 0), (match x with | .tup [_, .int m] => D.int (-m) | d => d))) = (negs fx).map fun q => ((Sum.inr q.1 : Key), D.int q.2) := by
    unfold negs
    rw [List.map_map, List.map_map]
    rfl
  rw [e4]
  simp
  generalize hB : rounds (rws (backs R)) ev.length (fxM (negs fx)) = B
  have lB : (backs R).length = R.length := by unfold backs; simp
  have lN : (negs fx).length = fx.length := by unfold negs; simp
  refine gs_ok (R := backs R) (f0 := fxM (negs fx)) (by rw [app_at 3] <;> rfl) (by rw [app_at 4] <;> rfl) (sums_fold (negs fx) [] nil0 Sums.nil) (by omega) ?_ (by omega) fun K2 L2 z2 SB lK2 => ?_
  · have := fold_putD_len ((negs fx).map fun q => ((Sum.inr q.1 : Key), D.int q.2)) []
    simp only [List.length_map, List.length_nil] at this
    exact Nat.le_trans this (by omega)
  rw [hB] at SB
  generalize hst2 : (st1 ++ [O.dct K, O.dct L, O.lst (List.map (fun q => D.bl (bad E q)) fx), O.lst (List.map rowD (backs R)), O.dct (List.foldl (fun acc kv => putD acc kv.1 kv.2) [] (List.map (fun q => ((Sum.inr q.1 : Key), D.int q.2)) (negs fx)))]) = st2
  have hK2 : ∀ more, (st2 ++ more)[st1.length]? = some (.dct K) := fun more => by
    refine app_lt ?_
    rw [← hst2]
    have := app_at (st := st1) (more := [O.dct K, O.dct L, O.lst (List.map (fun q => D.bl (bad E q)) fx), O.lst (List.map rowD (backs R)), O.dct (List.foldl (fun acc kv => putD acc kv.1 kv.2) [] (List.map (fun q => ((Sum.inr q.1 : Key), D.int q.2)) (negs fx)))]) 0
    simpa using this
  have l12 : st1.length < st2.length := by rw [← hst2]; simp
  refine ⟨_, rfl, ?_⟩
  have hKB : (st2 ++ [O.dct K2, O.dct L2])[st2.length]? = some (.dct K2) := by
    have := app_at (st := st2) (more := [O.dct K2, O.dct L2]) 0
    simpa using this
  have hKF : (st2 ++ [O.dcf K2, O.dct L2])[st2.length]? = some (.dcf K2) := by
    have := app_at (st := st2) (more := [O.dcf K2, O.dct L2]) 0
    simpa using this
  refine w_elk (k := st2.length) (ks := K2) (by simp [lkOf, eVar, hKB]) ?_
  simp [hKF]
  rw [dcomp_pureK (ks := K2) (fun k => k) (fun k => match k with | .inr s => .int (-((B s).getD 0)) | .inl i => .int i) hKF (fun x hx => ?_) (by omega)]
  rotate_left
  · obtain ⟨s, hs⟩ := SB.k x hx
    obtain ⟨d, hd⟩ := valD_mem hx
    have hv := SB.v s
    rw [hs] at hd
    rw [hd] at hv
    refine ⟨_, rfl, ?_⟩
    cases hBs : B s with
    | none => rw [hBs] at hv; cases hv
    | some y =>
      rw [hBs] at hv
      cases hv
      simp [and_assoc, wipeL, hs, dKey, hKF, hd, hBs]
  simp only [oW_some]
  have hKn : ∀ s : Str, valD ((K2.map fun x => (x.1, (match x.1 with | .inr s => D.int (-((B s).getD 0)) | .inl i => .int i))).foldl (fun acc kv => putD acc kv.1 kv.2) []) (.inr s) = ((B s).map fun x => -x).map D.int := fun s => by
    rw [valD_keyfold (fun k => match k with | .inr s => D.int (-((B s).getD 0)) | .inl i => .int i), SB.v s]
    cases hh : B s <;> simp [valD_nil, hh]
  generalize hKL : ((K2.map fun x => (x.1, (match x.1 with | .inr s => D.int (-((B s).getD 0)) | .inl i => .int i))).foldl (fun acc kv => putD acc kv.1 kv.2) []) = KL at hKn
  refine ⟨st2 ++ [O.dct K2, O.dct L2, O.dct KL], by simp [unlk], ?_⟩
  have hKx : (st2 ++ [O.dct K2, O.dct L2, O.dct KL])[st2.length + 2]? = some (.dct KL) := by rw [app_at 2] <;> rfl
  have hv : ∀ (K : List (Key × D)) (F : Mp Str) (s : Str), valD K (.inr s) = (F s).map D.int → (valD K (.inr s)).getD .non = optD (F s) := fun K F s e => by
    rw [e]
    cases F s <;> rfl
  simp
  rw [comp_pure (fun _ => true) (fun d => match d with | .str v => .tup [.str v, optD (E v), optD ((B v).map fun x => -x)] | d => d) (fun x hx => ?_) (by simp; omega)]
  rotate_left
  · obtain ⟨v, hv0, rfl⟩ := List.mem_map.mp hx
    refine ⟨_, rfl, ?_⟩
    simp [and_assoc, wipeL, hK2, hKx, gGet]
    exact ⟨hv K E v (SK.v v), hv KL (fun v => (B v).map fun x => -x) v (hKn v)⟩
  have e5 : (List.map (fun d => match d with | .str v => D.tup [.str v, optD (E v), optD ((B v).map fun x => -x)] | d => d) (List.filter (fun _ => true) (ev.map D.str))) = ev.map fun v => D.tup [.str v, optD (E v), optD ((B v).map fun x => -x)] := by
    rw [List.filter_eq_self.mpr (by simp), List.map_map]
    rfl
  rw [e5]
  simp only [oW_some]
  have of : ∀ o, (optD o).flat = true := fun o => by cases o <;> rfl
  refine ⟨?_, ?_, ?_⟩
  · show (flats [.str "room", .tup _]) = true
    simp only [flats, D.flat, Bool.true_and, Bool.and_true]
    exact flats_map _ (fun v => by simp [D.flat, flats, of]) ev
  · rw [← hst2, ← hst1]
    simp only [List.append_assoc]
    exact ⟨_, rfl⟩
  · unfold roomD at h
    dsimp only at h
    rw [hR, hE, hB, if_neg hb] at h
    exact h
end Ev02

namespace Ev02
open PySem L2 Iv BF
def rowsOf (rs : List NRule) (p : Int) : List (Row Str) := rs.map fun r => ⟨r.b, r.e, r.l - r.t * p⟩
def beg : Option Str → D
  | none => .non
  | some s => .str s
def startF (ev : List Str) (b : Option Str) : Mp Str := fun v => if v ∈ ev ∧ (b = none ∨ b = some v) then some 0 else none
structure Best (ev : List Str) (K : List (Key × D)) (f : Mp Str) : Prop where
  v : ∀ s ∈ ev, valD K (.inr s) = some (optD (f s))
  l : K.length ≤ 100
theorem putD_len_old {K : List (Key × D)} {k : Key} {v d : D} (h : valD K k = some d) : (putD K k v).length = K.length := by
  unfold putD
  rw [valD_any, h]
  simp
theorem Best.put {ev : List Str} {K : List (Key × D)} {f : Mp Str} (h : Best ev K f) {s : Str} (hs : s ∈ ev) (x : Int) : Best ev (putD K (.inr s) (.int x)) (upM f s x) := by
  refine ⟨fun t ht => ?_, by rw [putD_len_old (h.v s hs)]; exact h.l⟩
  rw [valD_put]
  by_cases e : t = s
  · subst e
    rw [upM_self, if_pos rfl] <;> rfl
  · rw [upM_ne f x e, if_neg (by intro q; cases q; exact e rfl), h.v t ht]
def Grew (f g : Mp Str) : Prop := ∃ v y, g v = some y ∧ ∀ x, f v = some x → x < y
theorem Grew.ne {f g : Mp Str} (h : Grew f g) : g ≠ f := by
  rintro rfl
  obtain ⟨v, y, e, l⟩ := h
  have := l y e
  omega
theorem Grew.le {f g h : Mp Str} (q : Grew f g) (m : ∀ v, Le (g v) (h v)) : Grew f h := by
  obtain ⟨v, y, e, l⟩ := q
  obtain ⟨z, e2, l2⟩ := m v y e
  exact ⟨v, z, e2, fun x hx => by have := l x hx; omega⟩
theorem far_ok {ev : List Str} {rs : List NRule} {p : Int} {b : Option Str} {st : Stt} (N : NetOk ev rs) {Q : D → Stt → Prop}
    (h1 : ∀ i K, i ≤ ev.length → round (rowsOf rs p) (rounds (rowsOf rs p) i (startF ev b)) = rounds (rowsOf rs p) i (startF ev b) → Best ev K (rounds (rowsOf rs p) i (startF ev b)) → Q (.obj st.length) (st ++ [.dct K]))
    (h2 : ∀ K, (∀ i, i ≤ ev.length → round (rowsOf rs p) (rounds (rowsOf rs p) i (startF ev b)) ≠ rounds (rowsOf rs p) i (startF ev b)) → Q .non (st ++ [.dct K])) :
    (F__law_far [netD ev rs, .int p, beg b] st).W Q := by
  have hle := N.le
  have hlr := N.lr
  generalize hR : rowsOf rs p = R at h1 h2
  refine w_fn rfl ?_
  unfold b__law_far
  refine seq_cut (fun env st' => env = [some (netD ev rs), some (.int p), some (beg b), some (.obj st.length), none, none, none, none, none, none, none, none, none] ∧ st' = st ++ [.dct []]) (by simp) ?_
  rintro _ _ ⟨rfl, rfl⟩
  refine seq_cut (fun env st' => ∃ K a, Best ev K (startF ev b) ∧ env = [some (netD ev rs), some (.int p), some (beg b), some (.obj st.length), a, none, none, none, none, none, none, none, none] ∧ st' = st ++ [.dct K]) ?_ ?_
  · simp [netD]
    refine for_tup (xs := ev.map D.str) (fun i env st' => ∃ K a, (∀ s ∈ ev.take i, valD K (.inr s) = some (optD (startF ev b s))) ∧ K.length ≤ i ∧ env = [some (netD ev rs), some (.int p), some (beg b), some (.obj st.length), a, none, none, none, none, none, none, none, none] ∧ st' = st ++ [.dct K]) ?_ ?_ ?_ (by simp; omega)
    · exact ⟨[], none, by simp, by simp, rfl, rfl⟩
    · rintro i x env st' hx ⟨K, a, hv, hl, rfl, rfl⟩
      obtain ⟨s, hs, rfl⟩ := map_get hx
      have hil : i < ev.length := (List.getElem?_eq_some_iff.mp hs).1
      have hsm : s ∈ ev := List.mem_of_getElem? hs
      refine ⟨_, rfl, ?_⟩
      have fin : ∀ o : Option Int, o = startF ev b s → ∀ t ∈ ev.take (i + 1), valD (putD K (.inr s) (optD o)) (.inr t) = some (optD (startF ev b t)) := fun o ho t ht => by
        rw [take_succ_of hs] at ht
        rw [valD_put]
        by_cases e : t = s
        · subst e
          rw [if_pos rfl, ho]
        · rw [if_neg (by intro q; cases q; exact e rfl)]
          rcases List.mem_append.mp ht with z | z
          · exact hv t z
          · exact (e (List.mem_singleton.mp z)).elim
      cases b with
      | none =>
        simp [beg, and_assoc, sizeLine_eq]
        refine ⟨by omega, fin (some 0) (by simp [startF, hsm]), ?_⟩
        have := putD_len K (.inr s) (.int 0)
        omega
      | some b =>
        by_cases hbs : s = b
        · subst hbs
          simp [beg, and_assoc, sizeLine_eq]
          refine ⟨by omega, fin (some 0) (by simp [startF, hsm]), ?_⟩
          have := putD_len K (.inr s) (.int 0)
          omega
        · simp [beg, and_assoc, sizeLine_eq, hbs]
          refine ⟨by omega, fin none (by simp [startF, Ne.symm hbs]), ?_⟩
          have := putD_len K (.inr s) .non
          omega
    · rintro env st' ⟨K, a, hv, hl, rfl, rfl⟩
      simp at hv hl
      exact ⟨rfl, K, ⟨hv, by omega⟩, ⟨a, rfl⟩, rfl⟩
  rintro _ _ ⟨K, a, BK, rfl, rfl⟩
  simp [netD]
  refine ⟨by omega, ?_⟩
  refine for_rng (fun i env st' => ∃ K a b1 c d e f g h j, Best ev K (rounds R i (startF ev b)) ∧ (∀ m, m < i → round R (rounds R m (startF ev b)) ≠ rounds R m (startF ev b)) ∧
    env = [some (netD ev rs), some (.int p), some (beg b), some (.obj st.length), a, b1, c, d, e, f, g, h, j] ∧ st' = st ++ [.dct K]) ?_ ?_ ?_ (show ev.length + 1 ≤ 100000000 by omega)
  · exact ⟨K, a, none, none, none, none, none, none, none, none, BK, fun m hm => by omega, rfl, rfl⟩
  · rintro i env st' hi ⟨K, a, b1, c, d, e, f, g, h, j, BK, hno, rfl, rfl⟩
    simp only [put_nm, Option.some.injEq, exists_eq_left']
    generalize hF : rounds R i (startF ev b) = F at BK
    refine seq_cut (fun env' st' => ∃ b1, env' = [some (netD ev rs), some (.int p), some (beg b), some (.obj st.length), a, b1, some (.bl false), d, e, f, g, h, j] ∧ st' = st ++ [.dct K]) (by simp) ?_
    rintro _ _ ⟨b1, rfl, rfl⟩
    refine seq_cut (fun env' st' => ∃ K' z d e f g h j, Best ev K' (round R F) ∧ (z = false → round R F = F) ∧ (z = true → Grew F (round R F)) ∧ env' = [some (netD ev rs), some (.int p), some (beg b), some (.obj st.length), a, b1, some (.bl z), d, e, f, g, h, j] ∧ st' = st ++ [.dct K']) ?_ ?_
    · simp [netD]
      refine for_tup (xs := rs.map ruleD) (fun m env' st' => ∃ K' z d e f g h j, Best ev K' ((rowsOf (rs.take m) p).foldl rlx F) ∧ (z = false → (rowsOf (rs.take m) p).foldl rlx F = F) ∧ (z = true → Grew F ((rowsOf (rs.take m) p).foldl rlx F)) ∧ env' = [some (netD ev rs), some (.int p), some (beg b), some (.obj st.length), a, b1, some (.bl z), d, e, f, g, h, j] ∧ st' = st ++ [.dct K']) ?_ ?_ ?_ (by simp; omega)
      · exact ⟨K, false, d, e, f, g, h, j, BK, fun _ => rfl, (fun q => nomatch q), rfl, rfl⟩
      · rintro m x env' st' hx ⟨K', z, d, e, f, g, h, j, BK', z0, z1, rfl, rfl⟩
        obtain ⟨r, hr, rfl⟩ := map_get hx
        have hrm : r ∈ rs := List.mem_of_getElem? hr
        have hfold : (rowsOf (rs.take (m + 1)) p).foldl rlx F = rlx ((rowsOf (rs.take m) p).foldl rlx F) ⟨r.b, r.e, r.l - r.t * p⟩ := by
          rw [take_succ_of hr]
          unfold rowsOf
          rw [List.map_append, List.foldl_append] <;> rfl
        rw [hfold]
        have hFG := fold_le (rowsOf (rs.take m) p) F
        generalize (rowsOf (rs.take m) p).foldl rlx F = G at *
        have hb := N.inb r hrm
        have he := N.ine r hrm
        have ht := N.tu r hrm
        have v1 := BK'.v r.b hb
        have v2 := BK'.v r.e he
        have grow : z = true → Grew F (rlx G ⟨r.b, r.e, r.l - r.t * p⟩) := fun q => (z1 q).le fun v => rlx_le G _ v
        refine ⟨_, rfl, ?_⟩
        rcases rlx_cases G ⟨r.b, r.e, r.l - r.t * p⟩ with ⟨h1, e1⟩ | ⟨x, h1, ⟨h2, e1⟩ | ⟨y, h2, ⟨h3, e1⟩ | ⟨h3, e1⟩⟩⟩
        all_goals simp only at h1
        · rw [h1] at v1
          simp [and_assoc, v1, optD]
          rw [e1]
          cases z with
          | false => exact ⟨K', BK', .inl ⟨z0 rfl, rfl, rfl⟩⟩
          | true => exact ⟨K', BK', .inr ⟨z1 rfl, rfl, rfl⟩⟩
        · simp only at h2
          rw [h1] at v1
          rw [h2] at v2
          simp [and_assoc, v1, v2, optD, sizeLine_eq, cMul]
          rw [e1]
          have ee : x + r.l - r.t * p = x + (r.l - r.t * p) := by omega
          rw [ee]
          refine ⟨.inl (.inl ⟨by omega, by omega⟩), by have := BK'.l; omega, BK'.put he _, r.e, _, upM_self _ _ _, fun x' hx' => ?_⟩
          obtain ⟨y', hy', _⟩ := hFG r.e x' hx'
          rw [h2] at hy'
          cases hy'
        · simp only at h2 h3
          have h3' : y < x + r.l - r.t * p := by omega
          rw [h1] at v1
          rw [h2] at v2
          simp [and_assoc, v1, v2, optD, sizeLine_eq, cMul, h3']
          rw [e1]
          have ee : x + r.l - r.t * p = x + (r.l - r.t * p) := by omega
          rw [ee]
          refine ⟨.inl (.inl ⟨by omega, by omega⟩), by have := BK'.l; omega, BK'.put he _, r.e, _, upM_self _ _ _, fun x' hx' => ?_⟩
          obtain ⟨y', hy', hl'⟩ := hFG r.e x' hx'
          rw [h2] at hy'
          cases hy'
          simp only
          omega
        · simp only at h2 h3
          have h3' : ¬ y < x + r.l - r.t * p := by omega
          rw [h1] at v1
          rw [h2] at v2
          simp [and_assoc, v1, v2, optD, cMul, h3']
          rw [e1]
          refine ⟨.inl (.inl ⟨by omega, by omega⟩), ?_⟩
          cases z with
          | false => exact ⟨K', BK', .inl ⟨z0 rfl, rfl, rfl⟩⟩
          | true => exact ⟨K', BK', .inr ⟨z1 rfl, rfl, rfl⟩⟩
      · rintro env' st' ⟨K', z, d, e, f, g, h, j, BK', z0, z1, rfl, rfl⟩
        rw [List.length_map, List.take_length, hR] at BK' z0 z1
        refine ⟨rfl, K', BK', ?_⟩
        cases z with
        | false => exact .inl ⟨z0 rfl, ⟨_, _, _, _, _, _, rfl⟩, rfl⟩
        | true => exact .inr ⟨z1 rfl, ⟨_, _, _, _, _, _, rfl⟩, rfl⟩
    · rintro _ _ ⟨K', z, d, e, f, g, h, j, BK', z0, z1, rfl, rfl⟩
      cases z with
      | false =>
        simp [gTruth]
        have z0' := z0 rfl
        rw [← hF] at z0' BK'
        rw [z0'] at BK'
        exact h1 i K' (by omega) z0' BK'
      | true =>
        simp [gTruth]
        have z1' := (z1 rfl).ne
        rw [← hF] at z1' BK'
        refine ⟨BK', fun m hm => ?_⟩
        by_cases e : m = i
        · subst e; exact z1'
        · exact hno m (by omega)
  · rintro env st' ⟨K, a, b1, c, d, e, f, g, h, j, BK, hno, rfl, rfl⟩
    simp
    exact h2 K fun i hi => hno i (by omega)
end Ev02

namespace Ev02
open PySem L2 Iv BF
theorem rowsOf_e {ev : List Str} {rs : List NRule} {p : Int} (N : NetOk ev rs) : ∀ r ∈ rowsOf rs p, r.e ∈ ev := fun r hr => by
  obtain ⟨q, hq, rfl⟩ := List.mem_map.mp hr
  exact N.ine q hq
theorem rowsOf_b {ev : List Str} {rs : List NRule} {p : Int} (N : NetOk ev rs) : ∀ r ∈ rowsOf rs p, r.b ∈ ev := fun r hr => by
  obtain ⟨q, hq, rfl⟩ := List.mem_map.mp hr
  exact N.inb q hq
theorem startF_in {ev : List Str} {b : Option Str} {u : Str} {x : Int} (h : startF ev b u = some x) : u ∈ ev := by
  unfold startF at h
  split at h
  · rename_i q; exact q.1
  · cases h
theorem keepable_ok {ev : List Str} {rs : List NRule} {p : Int} {st : Stt} (N : NetOk ev rs) {Q : D → Stt → Prop}
    (h : ∀ b : Bool, (b = true ↔ ∃ π, Pot (rowsOf rs p) π) → Q (.bl b) st) : (F__law_is_keepable [netD ev rs, .int p] st).W Q := by
  refine w_cut (w_fn rfl ?_)
  unfold b__law_is_keepable
  simp
  refine far_ok (b := none) N (fun i K hi hfix BK => ?_) fun K hno => ?_
  · simp [isN]
    refine ⟨rfl, h true ⟨fun _ => ⟨_, pot_of_fix hfix fun r hr => ?_⟩, fun _ => rfl⟩⟩
    obtain ⟨y, e, _⟩ := rounds_le (rowsOf rs p) (startF ev none) i r.b 0 (by unfold startF; rw [if_pos ⟨rowsOf_b N r hr, .inl rfl⟩])
    exact ⟨y, e⟩
  · simp [isN]
    refine ⟨rfl, h false ⟨(fun q => nomatch q), fun ⟨π, hp⟩ => ?_⟩⟩
    exact (hno ev.length (Nat.le_refl _) (Top.fix (Top.of hp (rowsOf_e N) (fun u x e => startF_in e) (by omega)))).elim
def farF (ev : List Str) (rs : List NRule) (p : Int) (e : Str) : Mp Str := rounds (rowsOf rs p) ev.length (startF ev (some e))
theorem far_top {ev : List Str} {rs : List NRule} {p : Int} {e : Str} {st : Stt} (N : NetOk ev rs) (hp : ∃ π, Pot (rowsOf rs p) π) {Q : D → Stt → Prop}
    (h : ∀ K, Best ev K (farF ev rs p e) → Q (.obj st.length) (st ++ [.dct K])) : (F__law_far [netD ev rs, .int p, .str e] st).W Q := by
  obtain ⟨π, hp⟩ := hp
  refine far_ok (b := some e) N (fun i K hi hfix BK => ?_) fun K hno => ?_
  · refine h K ?_
    unfold farF
    rw [rounds_fix hfix _ hi]
    exact BK
  · exact (hno ev.length (Nat.le_refl _) (Top.fix (Top.of hp (rowsOf_e N) (fun u x e => startF_in e) (by omega)))).elim
end Ev02

namespace Ev02
open PySem L2 Iv BF
theorem pot_up {ev : List Str} {rs : List NRule} {p p' : Int} (N : NetOk ev rs) (h : ∃ π, Pot (rowsOf rs p) π) (hl : p ≤ p') : ∃ π, Pot (rowsOf rs p') π := by
  obtain ⟨π, hp⟩ := h
  refine ⟨π, fun r hr => ?_⟩
  obtain ⟨q, hq, rfl⟩ := List.mem_map.mp hr
  have h1 : π q.b + (q.l - q.t * p) ≤ π q.e := hp _ (List.mem_map_of_mem hq)
  have ht := (N.tu q hq).1
  have h2 : q.t * p ≤ q.t * p' := Int.mul_le_mul_of_nonneg_left hl ht
  show π q.b + (q.l - q.t * p') ≤ π q.e
  omega
theorem period_ok {b : Nat} {ev : List Str} {rs : List NRule} {st : Stt} (N : NetOk ev rs) (hb : Box b st) {Q : D → Stt → Prop}
    (h1 : ∀ p st', (∃ π, Pot (rowsOf rs p) π) → Gr b st st' → (1 ≤ p ∧ p ≤ 410) → Q (.int p) st') (h2 : (¬ ∃ π, Pot (rowsOf rs 400) π) → Q .non st) : (F__law_period_of [.obj b, netD ev rs] st).W Q := by
  refine w_fn rfl ?_
  unfold b__law_period_of
  refine seq_cut (fun env st' => env = [some (.obj b), some (netD ev rs), some (.int 0), some (.int 400), none] ∧ st' = st) ?_ ?_
  · simp
    rfl
  rintro _ _ ⟨rfl, e0⟩
  subst e0
  rename_i st0
  simp
  refine keepable_ok N fun k hk => ?_
  simp [gTruth]
  cases k with
  | false => simp; exact h2 fun q => by have := hk.mpr q; cases this
  | true =>
    simp
    have hp0 := hk.mp rfl
    refine while_gen (fun m env st' => ∃ lo hi c, 0 ≤ lo ∧ lo < hi ∧ hi ≤ 400 ∧ (hi - lo).toNat = m ∧ (∃ π, Pot (rowsOf rs hi) π) ∧ env = [some (.obj b), some (netD ev rs), some (.int lo), some (.int hi), c] ∧ st' = st0) ?_ bigN 400 _ _ (by decide) ⟨0, 400, none, by omega, by omega, by omega, rfl, hp0, rfl, rfl⟩
    rintro m env st' ⟨lo, hi, c, l1, l2, l3, lm, hp, rfl, rfl⟩
    by_cases hd : 1 < hi - lo
    · simp [hd]
      refine keepable_ok N fun k hk => ?_
      simp [gTruth]
      cases k with
      | false =>
        simp
        refine ⟨_, ?_, (lo + hi) / 2, ?_, hi, ?_, l3, rfl, hp, rfl, rfl⟩ <;> omega
      | true =>
        simp
        refine ⟨_, ?_, lo, l1, (lo + hi) / 2, ?_, ?_, rfl, hk.mp rfl, rfl, rfl⟩ <;> omega
    · simp [hd]
      have hl : (st' ++ [O.lst [.int 0, .int 0, .int 1, .int 3, .int 10]])[st'.length]? = some (.lst [.int 0, .int 0, .int 1, .int 3, .int 10]) := app_at1 _
      refine pick_ok (hb.app _) hl (by have := hb.lt; omega) (by simp) fun v st'' hv dr => ?_
      have g : Gr b st' st'' := ((Gr.refl hb).app _).trans (Gr.drawn dr)
      simp at hv
      rcases hv with rfl | rfl | rfl | rfl
      · simp; exact h1 _ _ (pot_up N hp (by omega)) g (by omega)
      · simp; exact h1 _ _ (pot_up N hp (by omega)) g (by omega)
      · simp; exact h1 _ _ (pot_up N hp (by omega)) g (by omega)
      · simp; exact h1 _ _ (pot_up N hp (by omega)) g (by omega)
/-! ### the net -/
def evN (n : Nat) : List Str := (["a", "b", "c", "d", "e", "f"] : List Str).take n
def sN (nm : Str) : Bool := decide (nm.cps.toList < ("s" : Str).cps.toList)
structure Good (ev : List Str) (r : NRule) : Prop where
  b : r.b ∈ ev
  e : r.e ∈ ev
  l : 0 ≤ r.l ∧ r.l ≤ 19
  t : 0 ≤ r.t ∧ r.t < 90
  r : sN r.nm = true → (∃ k : Nat, ev[k]? = some r.b ∧ ev[k + 1]? = some r.e) ∨ 1 ≤ r.t
structure NetG (ev : List Str) (rs : List NRule) : Prop where
  nd : ev.Nodup
  le : ev.length ≤ 5
  g2 : 2 ≤ ev.length
  lr : rs.length ≤ 30
  gd : ∀ r ∈ rs, Good ev r
  sl : ∀ v ∈ ev, v.length ≤ 1000
theorem NetG.ok {ev : List Str} {rs : List NRule} (N : NetG ev rs) : NetOk ev rs :=
  ⟨N.nd, by have := N.le; omega, N.lr, fun r h => (N.gd r h).b, fun r h => (N.gd r h).e, fun r h => by have := (N.gd r h).t; omega⟩
theorem rname : ∀ k : Nat, k < 8 → (Str.ofString (k : Int).repr).length ≤ 100 ∧ sN (("r" : Str) ++ Str.ofString (k : Int).repr) = true := by decide +kernel
theorem sname : ∀ k : Nat, k < 8 → sN (("s" : Str) ++ Str.ofString (k : Int).repr) = false := by decide +kernel
theorem evN_nd : ∀ n : Nat, n ≤ 6 → (evN n).Nodup ∧ (evN n).length = n ∧ ∀ v ∈ evN n, v.length ≤ 1000 := by decide +kernel
/-- what stands while the net is made -/
structure Mk (b L : Nat) (ev : List Str) (st st' : Stt) (rs : List NRule) : Prop where
  g : Gr b st st'
  e : st'[L]? = some (.lst (ev.map D.str))
  r : st'[L + 1]? = some (.lst (rs.map ruleD))
  gd : ∀ r ∈ rs, Good ev r
theorem Mk.drawn {b L : Nat} {ev : List Str} {st s1 s2 : Stt} {rs : List NRule} (M : Mk b L ev st s1 rs) (hb : b < L) (d : Drawn b s1 s2) : Mk b L ev st s2 rs :=
  ⟨M.g.trans (Gr.drawn d), by rw [d.2.2 _ (by omega)]; exact M.e, by rw [d.2.2 _ (by omega)]; exact M.r, M.gd⟩
theorem Mk.app {b L : Nat} {ev : List Str} {st s1 : Stt} {rs : List NRule} (M : Mk b L ev st s1 rs) (more : Stt) : Mk b L ev st (s1 ++ more) rs :=
  ⟨M.g.app more, app_lt M.e, app_lt M.r, M.gd⟩
theorem Mk.put {b L : Nat} {ev : List Str} {st s1 : Stt} {rs : List NRule} (M : Mk b L ev st s1 rs) (hb : b < st.length) (hL : st.length ≤ L) {r : NRule} (hr : Good ev r) : Mk b L ev st (s1.set (L + 1) (.lst ((rs.map ruleD) ++ [ruleD r]))) (rs ++ [r]) := by
  have hl := (List.getElem?_eq_some_iff.mp M.r).1
  refine ⟨M.g.set hb (by omega) _, by rw [List.getElem?_set_ne (by omega)]; exact M.e, by rw [List.getElem?_set_self hl]; simp, fun q hq => ?_⟩
  rcases List.mem_append.mp hq with z | z
  · exact M.gd q z
  · rw [List.mem_singleton.mp z]; exact hr
theorem log2_small (k : Nat) (h : k < 100) : Nat.log2 k < 1920 := Nat.lt_of_le_of_lt (Nat.log2_le_self k) (by omega)
theorem net_ok {b : Nat} {st : Stt} (hb : Box b st) {Q : D → Stt → Prop} (h : ∀ ev rs st', NetG ev rs → Gr b st st' → Q (netD ev rs) st') : (F__law_net [.obj b, .int 5, .int 7] st).W Q := by
  refine w_fn rfl ?_
  unfold b__law_net
  have lb := hb.lt
  refine seq_cut (fun env st' => ∃ n : Nat, 2 ≤ n ∧ n ≤ 5 ∧ Gr b st st' ∧ st'[st.length + 1]? = some (.lst ((evN n).map D.str)) ∧ st'.length = st.length + 2 ∧ env = [some (.obj b), some (.int 5), some (.int 7), some (.obj (st.length + 1)), none, none, none, none, none]) ?_ ?_
  · simp
    refine draw_ok (hb.app _) (by decide) fun v st' v0 v1 dr => ?_
    have g : Gr b st st' := ((Gr.refl hb).app _).trans (Gr.drawn dr)
    have hl : st'[st.length]? = some (.lst [.str "a", .str "b", .str "c", .str "d", .str "e", .str "f"]) := by
      rw [dr.2.2 _ (by omega)]
      simp
    have hlen : st'.length = st.length + 1 := by rw [dr.2.1]; simp
    simp [gSl, hl]
    refine ⟨(2 + v).toNat, by omega, by omega, g.app _, ?_, by omega⟩
    rw [app_at1' _ _ (by omega)]
    obtain ⟨k, rfl⟩ := Int.eq_ofNat_of_zero_le v0
    have hk : k < 4 := by omega
    have : ∀ k : Nat, k < 4 → cutD [D.str "a", .str "b", .str "c", .str "d", .str "e", .str "f"] none (some (2 + (k : Int))) = (evN (2 + (k : Int)).toNat).map D.str := by
      intro k hk
      match k, hk with
      | 0, _ => rfl
      | 1, _ => rfl
      | 2, _ => rfl
      | 3, _ => rfl
    rw [this k hk]
  rintro _ st1 ⟨n, n2, n5, g1, hev, hlen, rfl⟩
  obtain ⟨hnd, hn, hsl⟩ := evN_nd n (by omega)
  generalize evN n = ev at *
  subst hn
  refine seq_cut (fun env st' => Mk b (st.length + 1) ev st st' [] ∧ env = [some (.obj b), some (.int 5), some (.int 7), some (.obj (st.length + 1)), some (.obj (st.length + 2)), none, none, none, none]) ?_ ?_
  · simp [hlen]
    refine ⟨g1.app _, app_lt hev, ?_, by simp⟩
    rw [app_at1' _ _ (by omega)] <;> rfl
  rintro _ st2 ⟨M2, rfl⟩
  refine seq_cut (fun env st' => ∃ rs a c, Mk b (st.length + 1) ev st st' rs ∧ rs.length ≤ 5 ∧ env = [some (.obj b), some (.int 5), some (.int 7), some (.obj (st.length + 1)), some (.obj (st.length + 2)), a, c, none, none]) ?_ ?_
  · simp [M2.e]
    refine ⟨by omega, ?_⟩
    refine for_rng (fun i env st' => ∃ rs a c, Mk b (st.length + 1) ev st st' rs ∧ rs.length ≤ i ∧ env = [some (.obj b), some (.int 5), some (.int 7), some (.obj (st.length + 1)), some (.obj (st.length + 2)), a, c, none, none]) ?_ ?_ ?_ (show ev.length ≤ 100000000 by omega)
    · exact ⟨[], none, none, M2, by simp, rfl⟩
    · rintro i env st3 hi ⟨rs, a, c, M3, hl3, rfl⟩
      simp
      refine draw_ok (M3.g.box.app _) (by decide) fun v st4 v0 v1 d4 => ?_
      have M4 := (M3.app [.lst [.int 0, .int 0, .int 0, .int 1]]).drawn (by omega) d4
      have h4 : st4[st3.length]? = some (.lst [.int 0, .int 0, .int 0, .int 1]) := by
        have := M3.g.len
        rw [d4.2.2 _ (by omega)]
        exact app_at1 _
      obtain ⟨t, t0, ht⟩ : ∃ t : Int, (0 ≤ t ∧ t ≤ 1) ∧ atI [D.int 0, D.int 0, D.int 0, D.int 1] v = some (.int t) := by
        obtain ⟨k, rfl⟩ := Int.eq_ofNat_of_zero_le v0
        have hk : k < 4 := by omega
        match k, hk with
        | 0, _ => exact ⟨0, by omega, rfl⟩
        | 1, _ => exact ⟨0, by omega, rfl⟩
        | 2, _ => exact ⟨0, by omega, rfl⟩
        | 3, _ => exact ⟨1, by omega, rfl⟩
      obtain ⟨nm1, nm2⟩ := rname i (by omega)
      have m0 : 0 ≤ ((i : Int) + 1) % (ev.length : Int) := Int.emod_nonneg _ (by omega)
      have m1 : ((i : Int) + 1) % (ev.length : Int) < ev.length := Int.emod_lt_of_pos _ (by omega)
      obtain ⟨e1, he1⟩ : ∃ e1, ev[(((i : Int) + 1) % (ev.length : Int)).toNat]? = some e1 := ⟨_, List.getElem?_eq_getElem (by omega)⟩
      have he0 : ev[i]? = some ev[i] := List.getElem?_eq_getElem hi
      simp [h4, ht, M4.e, M4.r, gStr, log2_small i (by omega), sizeLine_eq, atI_of _ _ m0, he1, he0, gAdd]
      refine ⟨by have : (Str.ofString "r").length = 1 := rfl; omega, by omega, ?_⟩
      refine draw_ok M4.g.box (by decide) fun l st5 l0 l1 d5 => ?_
      have M5 := M4.drawn (by omega) d5
      simp [M5.r]
      refine ⟨by omega, _, M5.put lb (by omega) (r := ⟨"r" ++ Str.ofString (i : Int).repr, ev[i], e1, l, t + if (i : Int) = (ev.length : Int) - 1 then 1 else 0⟩) ?_, by simp; omega⟩
      refine ⟨List.getElem_mem _, List.mem_of_getElem? he1, by simp; omega, ?_, fun _ => ?_⟩
      · simp only
        split <;> omega
      · by_cases hlast : (i : Int) = (ev.length : Int) - 1
        · right
          simp only [hlast, if_true]
          omega
        · left
          refine ⟨i, he0, ?_⟩
          have e2 : (((i : Int) + 1) % (ev.length : Int)).toNat = i + 1 := by
            rw [Int.emod_eq_of_lt (by omega) (by omega)]
            omega
          rw [e2] at he1
          exact he1
    · rintro env st3 ⟨rs, a, c, M3, hl3, rfl⟩
      exact ⟨rfl, rs, M3, by omega, _, _, rfl⟩
  rintro _ st3 ⟨rs, a, c, M3, hl3, rfl⟩
  refine seq_cut (fun env st' => ∃ rs a c, Mk b (st.length + 1) ev st st' rs ∧ rs.length ≤ 12 ∧ env = [some (.obj b), some (.int 5), some (.int 7), some (.obj (st.length + 1)), some (.obj (st.length + 2)), a, c, none, none]) ?_ ?_
  · simp
    refine draw_ok M3.g.box (by decide) fun w st3 w0 w1 d3 => ?_
    have M3 := M3.drawn (by omega) d3
    obtain ⟨w, rfl⟩ := Int.eq_ofNat_of_zero_le w0
    simp
    refine ⟨by omega, ?_⟩
    refine for_rng (fun i env st' => ∃ rs a c, Mk b (st.length + 1) ev st st' rs ∧ rs.length ≤ 5 + i ∧ env = [some (.obj b), some (.int 5), some (.int 7), some (.obj (st.length + 1)), some (.obj (st.length + 2)), a, c, none, none]) ?_ ?_ ?_ (show w ≤ 100000000 by omega)
    · exact ⟨rs, a, c, M3, by omega, rfl⟩
    · rintro i env st3 hi ⟨rs, a, c, M3, hl3, rfl⟩
      simp
      refine draw_ok (M3.g.box.app _) (by decide) fun v st4 v0 v1 d4 => ?_
      have M4 := (M3.app [.lst [.int 0, .int 1, .int 1, .int 2]]).drawn (by omega) d4
      have h4 : st4[st3.length]? = some (.lst [.int 0, .int 1, .int 1, .int 2]) := by
        have := M3.g.len
        rw [d4.2.2 _ (by omega)]
        exact app_at1 _
      obtain ⟨t, t0, ht⟩ : ∃ t : Int, (0 ≤ t ∧ t ≤ 2) ∧ atI [D.int 0, D.int 1, D.int 1, D.int 2] v = some (.int t) := by
        obtain ⟨k, rfl⟩ := Int.eq_ofNat_of_zero_le v0
        have hk : k < 4 := by omega
        match k, hk with
        | 0, _ => exact ⟨0, by omega, rfl⟩
        | 1, _ => exact ⟨1, by omega, rfl⟩
        | 2, _ => exact ⟨1, by omega, rfl⟩
        | 3, _ => exact ⟨2, by omega, rfl⟩
      obtain ⟨nm1, nm2⟩ := rname i (by omega)
      have hne : ev.map D.str ≠ [] := by intro q; have := congrArg List.length q; simp at this; rw [this] at n2; simp at n2
      simp [h4, ht, M4.e, M4.r, gStr, log2_small i (by omega), sizeLine_eq, gAdd]
      refine ⟨by have : (Str.ofString "s").length = 1 := rfl; omega, ?_⟩
      refine pick_ok M4.g.box M4.e (by omega) hne fun v1 st5 hv1 d5 => ?_
      have M5 := M4.drawn (by omega) d5
      obtain ⟨e1, he1, rfl⟩ := List.mem_map.mp hv1
      try simp
      refine pick_ok M5.g.box M5.e (by omega) hne fun v2 st6 hv2 d6 => ?_
      have M6 := M5.drawn (by omega) d6
      obtain ⟨e2, he2, rfl⟩ := List.mem_map.mp hv2
      try simp
      refine draw_ok M6.g.box (by decide) fun l st7 l0 l1 d7 => ?_
      have M7 := M6.drawn (by omega) d7
      simp [M7.r, sizeLine_eq]
      refine ⟨by omega, _, M7.put lb (by omega) (r := ⟨"s" ++ Str.ofString (i : Int).repr, e1, e2, l, t⟩) ?_, by simp; omega⟩
      exact ⟨he1, he2, by simp; omega, by simp; omega, fun q => by rw [sname i (by omega)] at q; cases q⟩
    · rintro env st3 ⟨rs, a, c, M3, hl3, rfl⟩
      exact ⟨rfl, rs, M3, by omega, _, _, rfl⟩
  rintro _ st4 ⟨rs, a, c, M4, hl4, rfl⟩
  refine seq_cut (fun env st' => ∃ (rs' : List NRule) (L : Nat), Mk b (st.length + 1) ev st st' rs ∧ (∀ r ∈ rs', Good ev r) ∧ rs'.length ≤ 12 ∧ st'[L]? = some (.lst (rs'.map ruleD)) ∧ env = [some (.obj b), some (.int 5), some (.int 7), some (.obj (st.length + 1)), some (.obj (st.length + 2)), a, c, some (.obj L), none]) ?_ ?_
  · simp [M4.r, wipeL]
    have hc : oW (compN (srcLst (st.length + 2)) (Tg.nm 8) (tOrI (tBool (eOp gGt (eCall 2 F__law_draw (aCons (eVar 0) (aCons (eC (.int 8)) (aNil)))) (eC (.int 0)))) (tBool (eOp gEq (eOp gIx (eVar 8) (eC (.int 0))) (eC (.str "r0"))))) (eVar 8)
      [some (.obj b), some (.int 5), some (.int 7), some (.obj (st.length + 1)), some (.obj (st.length + 2)), a, c, none, none] bigN 0 [] st4) (fun acc st' => Mk b (st.length + 1) ev st st' rs ∧ ∃ rs' : List NRule, (∀ r ∈ rs', r ∈ rs) ∧ rs'.length ≤ (rs.map ruleD).length ∧ acc = rs'.map ruleD) := by
      refine comp_lst (xs := rs.map ruleD) (fun i acc st' => Mk b (st.length + 1) ev st st' rs ∧ ∃ rs' : List NRule, (∀ r ∈ rs', r ∈ rs) ∧ rs'.length ≤ i ∧ acc = rs'.map ruleD) ⟨M4, [], by simp, by simp, rfl⟩ (fun i acc st' h => h.1.r) ?_ (by simp; omega)
      rintro i x acc st' hx ⟨M, rs', h1, h2, rfl⟩
      obtain ⟨r, hr, rfl⟩ := map_get hx
      have hil : i < rs.length := (List.getElem?_eq_some_iff.mp hr).1
      refine ⟨_, rfl, ?_⟩
      simp
      refine draw_ok M.g.box (by decide) fun v st5 v0 v1 d5 => ?_
      have M5 := M.drawn (by omega) d5
      have hin : Mk b (st.length + 1) ev st st5 rs ∧ ∃ rs'' : List NRule, (∀ r ∈ rs'', r ∈ rs) ∧ rs''.length ≤ i + 1 ∧ List.map ruleD rs' ++ [ruleD r] = rs''.map ruleD :=
        ⟨M5, rs' ++ [r], fun q hq => by
          rcases List.mem_append.mp hq with z | z
          · exact h1 q z
          · rw [List.mem_singleton.mp z]; exact List.mem_of_getElem? hr, by simp; omega, by simp⟩
      have hout : Mk b (st.length + 1) ev st st5 rs ∧ ∃ rs'' : List NRule, (∀ r ∈ rs'', r ∈ rs) ∧ rs''.length ≤ i + 1 ∧ List.map ruleD rs' = rs''.map ruleD := ⟨M5, rs', h1, by omega, rfl⟩
      have hr0 : rs'.length < 10000000 := by omega
      by_cases hv : 0 < v
      · simp [hv]
        exact ⟨hr0, hin⟩
      · by_cases hnm : r.nm = "r0"
        · simp [hv, hnm, ruleD]
          refine ⟨hr0, ?_⟩
          have := hin
          simp only [ruleD, hnm] at this
          exact this
        · simp [hv, hnm, ruleD]
          exact hout
    refine hc.mono fun acc st' ⟨M, rs', q1, q2, q3⟩ => ?_
    simp at q2
    exact ⟨M.app _, rs', fun r hr => M4.gd r (q1 r hr), by omega, q3⟩
  rintro _ st5 ⟨rs', L, M5, hg, hl5, h5, rfl⟩
  simp [M5.e, h5]
  exact h ev rs' st5 ⟨hnd, n5, n2, by omega, hg, hsl⟩ M5.g
end Ev02

namespace Iv
open PySem L2
theorem w_tgL {ts : List Tg} {fa : IE} {env : Lv} {st : Stt} {Q : Lv → Fl → Stt → Prop} (h : (fa env st).W fun d st1 => ∃ k ds env', d = .obj k ∧ st1[k]? = some (.lst ds) ∧ ts.length = ds.length ∧ putAll ts ds env = some env' ∧ Q env' .nx st1) : sW (sTgL ts fa env st) Q := by
  unfold sTgL
  rw [sW_sE]
  refine h.mono fun d st1 ⟨k, ds, env', e1, e2, e3, e4, q⟩ => ?_
  subst e1
  simp only [e2, if_pos e3, e4]
  simpa using q
@[simp] theorem w_eand {fa fb : IE} {env : Lv} {st : Stt} {Q : D → Stt → Prop} : (eAnd fa fb env st).W Q ↔ (fa env st).W fun x st1 => ∃ b, gTruth x st1 = some b ∧ if b = true then (fb env st1).W Q else Q x st1 := by
  unfold eAnd
  rw [W_bind]
  constructor <;>
  · intro h
    refine h.mono fun a s q => ?_
    cases e : gTruth a s with
    | none => simp [e] at q
    | some b => cases b <;> simpa [e] using q
@[simp] theorem w_eor {fa fb : IE} {env : Lv} {st : Stt} {Q : D → Stt → Prop} : (eOr fa fb env st).W Q ↔ (fa env st).W fun x st1 => ∃ b, gTruth x st1 = some b ∧ if b = true then Q x st1 else (fb env st1).W Q := by
  unfold eOr
  rw [W_bind]
  constructor <;>
  · intro h
    refine h.mono fun a s q => ?_
    cases e : gTruth a s with
    | none => simp [e] at q
    | some b => cases b <;> simpa [e] using q
@[simp] theorem w_enot {fa : IE} {env : Lv} {st : Stt} {Q : D → Stt → Prop} : (eNot fa env st).W Q ↔ (fa env st).W fun x st1 => ∃ b, gTruth x st1 = some b ∧ Q (.bl (!b)) st1 := by
  unfold eNot
  rw [W_bind]
  constructor <;>
  · intro h
    refine h.mono fun a s q => ?_
    cases e : gTruth a s with
    | none => simp [e] at q
    | some b => simpa [e] using q
@[simp] theorem gTruth_bl {b : Bool} {st : Stt} : gTruth (.bl b) st = some b := rfl
@[simp] theorem isi_tup {xs : List D} {b : String} {st : Stt} : gIsi [.tup xs, .ty b] st = still ((isiB "tuple" b).map .bl) st := rfl
@[simp] theorem isi_int {i : Int} {b : String} {st : Stt} : gIsi [.int i, .ty b] st = still ((isiB "int" b).map .bl) st := rfl
@[simp] theorem isi_bl {i : Bool} {b : String} {st : Stt} : gIsi [.bl i, .ty b] st = still ((isiB "bool" b).map .bl) st := rfl
@[simp] theorem isi_str {i : Str} {b : String} {st : Stt} : gIsi [.str i, .ty b] st = still ((isiB "str" b).map .bl) st := rfl
@[simp] theorem isi_non {b : String} {st : Stt} : gIsi [.non, .ty b] st = still ((isiB "NoneType" b).map .bl) st := rfl
@[simp] theorem isiB_tt : isiB "tuple" "tuple" = some true := by decide +kernel
@[simp] theorem isiB_it : isiB "int" "tuple" = some false := by decide +kernel
@[simp] theorem isiB_bt : isiB "bool" "tuple" = some false := by decide +kernel
@[simp] theorem isiB_st : isiB "str" "tuple" = some false := by decide +kernel
@[simp] theorem isiB_nt : isiB "NoneType" "tuple" = some false := by decide +kernel
@[simp] theorem isiB_is : isiB "int" "str" = some false := by decide +kernel
@[simp] theorem isiB_ss : isiB "str" "str" = some true := by decide +kernel
@[simp] theorem isiB_ii : isiB "int" "int" = some true := by decide +kernel
@[simp] theorem isiB_ib : isiB "int" "bool" = some false := by decide +kernel
@[simp] theorem gIs_bb {a b : Bool} {st : Stt} : gIs (.bl a) (.bl b) st = some (.bl (decide (a = b)), st) := rfl
@[simp] theorem gIs_ib {a : Int} {b : Bool} {st : Stt} : gIs (.int a) (.bl b) st = some (.bl false, st) := rfl
@[simp] theorem gIs_sb {a : Str} {b : Bool} {st : Stt} : gIs (.str a) (.bl b) st = some (.bl false, st) := rfl
@[simp] theorem isN_bl {b : Bool} : isN (.bl b) = false := rfl
@[simp] theorem isN_obj {k : Nat} : isN (.obj k) = false := rfl
theorem eq_nil {i j : Nat} {st : Stt} (h1 : st[i]? = some (.lst [])) (h2 : st[j]? = some (.lst [])) : gEq (.obj i) (.obj j) st = some (.bl true, st) := by
  have p1 : toPy st 70 (.obj i) = some (.list []) := by
    show (match st[i]? with | some (.lst ds) => (allO (toPy st 69) ds).map PyData.list | _ => none) = _
    rw [h1] <;> rfl
  have p2 : toPy st 70 (.obj j) = some (.list []) := by
    show (match st[j]? with | some (.lst ds) => (allO (toPy st 69) ds).map PyData.list | _ => none) = _
    rw [h2] <;> rfl
  have e : eqB (.obj i) (.obj j) st = some true := by
    show (match toPy st 70 (.obj i), toPy st 70 (.obj j) with | some p, some q => if SeqAt.shaped p = true ∧ SeqAt.shaped q = true then some (PyData.eqv p q) else none | _, _ => none) = _
    rw [p1, p2]
    rfl
  unfold gEq
  rw [e] <;> rfl
theorem join_one (s : Str) : Txt.join ("" : Str) [s] = s := by
  rfl
end Iv
namespace Ev02
open PySem L2 Iv BF
mutual
def plainD : Nat → D → Bool
  | 0, _ => false
  | n + 1, .tup xs => decide (xs.length ≤ 1000000) && plainDs n xs
  | _ + 1, .non => true
  | _ + 1, .bl _ => true
  | _ + 1, .int _ => true
  | _ + 1, .str s => decide (s.length ≤ 1000)
  | _ + 1, _ => false
def plainDs : Nat → List D → Bool
  | _, [] => true
  | n, x :: xs => plainD n x && plainDs n xs
end
theorem plainDs_at : ∀ {n : Nat} {xs : List D} {i : Nat} {x : D}, plainDs n xs = true → xs[i]? = some x → plainD n x = true
  | n, [], i, x, _, e => by cases e
  | n, y :: xs, 0, x, h, e => by
    unfold plainDs at h
    rw [Bool.and_eq_true] at h
    cases e
    exact h.1
  | n, y :: xs, i + 1, x, h, e => by
    unfold plainDs at h
    rw [Bool.and_eq_true] at h
    exact plainDs_at h.2 (by simpa using e)
theorem like_ok : ∀ (n : Nat) (x : D), plainD n x = true → ∀ (st : Stt) (Q : D → Stt → Prop), Q (.bl true) st → (R__law_like n [x, x] st).W Q
  | 0, x, h, _, _, _ => by unfold plainD at h; cases h
  | n + 1, x, h, st, Q, q => by
    refine w_cut (w_fn rfl ?_)
    unfold b__law_like
    cases x with
    | non =>
      simp
      exact ⟨rfl, q⟩
    | bl b =>
      cases b
      · simp
        exact ⟨rfl, q⟩
      · simp
        exact ⟨rfl, q⟩
    | int i =>
      simp
      exact ⟨rfl, q⟩
    | str s =>
      have hs : s.length ≤ 1000 := of_decide_eq_true h
      simp [gJoin, seqD, strsD, join_one]
      exact ⟨rfl, by have : (Str.ofString "").length = 0 := rfl; omega, rfl, q⟩
    | tup xs =>
      have h' : (decide (xs.length ≤ 1000000) && plainDs n xs) = true := h
      rw [Bool.and_eq_true] at h'
      have hl : xs.length ≤ 1000000 := of_decide_eq_true h'.1
      simp [and_assoc, wipeL]
      refine ⟨by omega, ?_⟩
      have hc : oW (compN (srcRng 0 xs.length) (Tg.nm 2) (tNotI (tTruth (eCall 2 (R__law_like n) (aCons (eOp gIx (eVar 0) (eVar 2)) (aCons (eOp gIx (eVar 1) (eVar 2)) (aNil)))))) (eC (.int 1)) [some (.tup xs), some (.tup xs), none] bigN 0 [] st) (fun acc st' => acc = [] ∧ st' = st) := by
        refine comp_rng (fun i acc st' => acc = [] ∧ st' = st) ⟨rfl, rfl⟩ ?_ (by omega)
        rintro i acc st' hi ⟨rfl, rfl⟩
        have hx : xs[i]? = some xs[i] := List.getElem?_eq_getElem hi
        refine ⟨_, rfl, ?_⟩
        simp [hx]
        refine like_ok n _ (plainDs_at h'.2 hx) _ _ ?_
        simp
      refine hc.mono ?_
      rintro acc st' ⟨rfl, rfl⟩
      rw [eq_nil (by simp) (by simp)]
      simp
      exact ⟨rfl, q⟩
    | ty t => unfold plainD at h; cases h
    | obj k => unfold plainD at h; cases h
    | cl xs => unfold plainD at h; cases h
end Ev02

namespace Ev02
open PySem L2 Iv BF
/-- a dict of whole numbers for all events -/
structure Ints (ev : List Str) (K : List (Key × D)) : Prop where
  v : ∀ s ∈ ev, ∃ x : Int, valD K (.inr s) = some (.int x)
  l : K.length ≤ 100
theorem Ints.put {ev : List Str} {K : List (Key × D)} (h : Ints ev K) {s : Str} (hs : s ∈ ev) (x : Int) : Ints ev (putD K (.inr s) (.int x)) := by
  obtain ⟨y, hy⟩ := h.v s hs
  refine ⟨fun t ht => ?_, by rw [putD_len_old hy]; exact h.l⟩
  rw [valD_put]
  by_cases e : (Sum.inr t : Key) = .inr s
  · rw [if_pos e]; exact ⟨x, rfl⟩
  · rw [if_neg e]; exact h.v t ht
theorem kept_ok {b : Nat} {ev : List Str} {rs : List NRule} {p : Int} {st : Stt} (N : NetOk ev rs) (hb : Box b st) {Q : D → Stt → Prop}
    (h : ∀ (g : Str → Int) st', Gr b st st' → Q (.tup [.str "table", .int p, .tup (ev.map fun s => fxD (s, g s))]) st') : (F__law_kept_table [.obj b, netD ev rs, .int p] st).W Q := by
  have hle := N.le
  have hlr := N.lr
  have lb := hb.lt
  refine w_fn rfl ?_
  unfold b__law_kept_table
  refine seq_cut (fun env st' => env = [some (.obj b), some (netD ev rs), some (.int p), some (.obj st.length), none, none, none, none, none, none, none] ∧ st' = st ++ [.dct []]) (by simp) ?_
  rintro _ _ ⟨rfl, rfl⟩
  refine seq_cut (fun env st' => ∃ K a, Gr b st st' ∧ st'[st.length]? = some (.dct K) ∧ Ints ev K ∧ env = [some (.obj b), some (netD ev rs), some (.int p), some (.obj st.length), a, none, none, none, none, none, none]) ?_ ?_
  · simp [netD]
    refine for_tup (xs := ev.map D.str) (fun i env st' => ∃ K a, Gr b st st' ∧ st'[st.length]? = some (.dct K) ∧ (∀ s ∈ ev.take i, ∃ x : Int, valD K (.inr s) = some (.int x)) ∧ K.length ≤ i ∧ env = [some (.obj b), some (netD ev rs), some (.int p), some (.obj st.length), a, none, none, none, none, none, none]) ?_ ?_ ?_ (by simp; omega)
    · exact ⟨[], none, (Gr.refl hb).app _, app_at1 _, by simp, by simp, rfl⟩
    · rintro i x env st' hx ⟨K, a, g, hK, hv, hl, rfl⟩
      obtain ⟨s, hs, rfl⟩ := map_get hx
      have hil : i < ev.length := (List.getElem?_eq_some_iff.mp hs).1
      refine ⟨_, rfl, ?_⟩
      simp
      refine draw_ok g.box (by decide) fun v st2 v0 v1 d2 => ?_
      have hK2 : st2[st.length]? = some (.dct K) := by rw [d2.2.2 _ (by omega)]; exact hK
      have g2 := g.trans (Gr.drawn d2)
      have hL := (List.getElem?_eq_some_iff.mp hK2).1
      simp [and_assoc, hK2, sizeLine_eq]
      refine ⟨by omega, g2.set lb (Nat.le_refl _) _, ?_⟩
      refine ⟨putD K (.inr s) (.int (v - 10)), by rw [List.getElem?_set_self hL], fun t ht => ?_, ?_⟩
      · rw [valD_put]
        by_cases e : (Sum.inr t : Key) = .inr s
        · rw [if_pos e]; exact ⟨_, rfl⟩
        · rw [if_neg e]
          rw [take_succ_of hs] at ht
          rcases List.mem_append.mp ht with z | z
          · exact hv t z
          · exact (e (by rw [List.mem_singleton.mp z])).elim
      · have := putD_len K (.inr s) (.int (v - 10))
        omega
    · rintro env st' ⟨K, a, g, hK, hv, hl, rfl⟩
      simp at hv hl
      exact ⟨rfl, g, K, hK, ⟨hv, by omega⟩, a, rfl⟩
  rintro _ st1 ⟨K, a, g1, hK1, I1, rfl⟩
  refine seq_cut (fun env st' => ∃ K a b1 c d e f g, Gr b st st' ∧ st'[st.length]? = some (.dct K) ∧ Ints ev K ∧ env = [some (.obj b), some (netD ev rs), some (.int p), some (.obj st.length), a, b1, c, d, e, f, g]) ?_ ?_
  · simp [netD]
    refine ⟨by omega, ?_⟩
    refine for_rng (fun i env st' => ∃ K a b1 c d e f g, Gr b st st' ∧ st'[st.length]? = some (.dct K) ∧ Ints ev K ∧ env = [some (.obj b), some (netD ev rs), some (.int p), some (.obj st.length), a, b1, c, d, e, f, g]) ?_ ?_ ?_ (show ev.length + 1 ≤ 100000000 by omega)
    · exact ⟨K, a, none, none, none, none, none, none, g1, hK1, I1, rfl⟩
    · rintro i env st2 hi ⟨K, a, b1, c, d, e, f, g, g2, hK2, I2, rfl⟩
      simp [netD]
      refine for_tup (xs := rs.map ruleD) (fun m env st' => ∃ K a b1 c d e f g, Gr b st st' ∧ st'[st.length]? = some (.dct K) ∧ Ints ev K ∧ env = [some (.obj b), some (netD ev rs), some (.int p), some (.obj st.length), a, b1, c, d, e, f, g]) ?_ ?_ ?_ (by simp; omega)
      · exact ⟨K, a, _, c, d, e, f, g, g2, hK2, I2, rfl⟩
      · rintro m x env st3 hx ⟨K, a, b1, c, d, e, f, g, g3, hK3, I3, rfl⟩
        obtain ⟨r, hr, rfl⟩ := map_get hx
        have hrm : r ∈ rs := List.mem_of_getElem? hr
        obtain ⟨x1, h1⟩ := I3.v r.b (N.inb r hrm)
        obtain ⟨x2, h2⟩ := I3.v r.e (N.ine r hrm)
        have ht := N.tu r hrm
        have hL := (List.getElem?_eq_some_iff.mp hK3).1
        refine ⟨_, rfl, ?_⟩
        simp [and_assoc, hK3, h1, h2, cMul, sizeLine_eq, gMax2]
        refine ⟨.inl (.inl ⟨by omega, by omega⟩), by have := I3.l; omega, g3.set lb (Nat.le_refl _) _, ?_⟩
        exact ⟨_, by rw [List.getElem?_set_self hL], I3.put (N.ine r hrm) _⟩
      · rintro env st3 ⟨K, a, b1, c, d, e, f, g, g3, hK3, I3, rfl⟩
        exact ⟨g3, K, hK3, I3, _, _, _, _, _, _, _, rfl⟩
    · rintro env st3 ⟨K, a, b1, c, d, e, f, g, g3, hK3, I3, rfl⟩
      exact ⟨rfl, g3, K, hK3, I3, _, _, _, _, _, _, _, rfl⟩
  rintro _ st4 ⟨K, a, b1, c, d, e, f, g, g4, hK4, I4, rfl⟩
  simp [netD, wipeL]
  rw [comp_pure (fun _ => true) (fun d => match d with | .str v => .tup [.str v, (valD K (.inr v)).getD .non] | d => d) (fun x hx => ?_) (by simp; omega)]
  rotate_left
  · obtain ⟨v, hv0, rfl⟩ := List.mem_map.mp hx
    obtain ⟨x1, h1⟩ := I4.v v hv0
    refine ⟨_, rfl, ?_⟩
    simp [hK4, h1]
  have e5 : (List.map (fun d => match d with | .str v => D.tup [.str v, (valD K (.inr v)).getD .non] | d => d) (List.filter (fun _ => true) (ev.map D.str))) = ev.map fun s => fxD (s, match valD K (.inr s) with | some (.int x) => x | _ => 0) := by
    rw [List.filter_eq_self.mpr (by simp), List.map_map]
    refine List.map_congr_left fun v hv => ?_
    obtain ⟨x1, h1⟩ := I4.v v hv
    simp [h1, fxD]
  rw [e5]
  simp
  exact h _ _ (g4.app _)
end Ev02

namespace Ev02
open PySem L2 Iv BF
def posOf : List Str → Str → Nat
  | [], _ => 0
  | x :: xs, v => if x = v then 0 else 1 + posOf xs v
theorem posOf_lt : ∀ {ev : List Str} {v : Str}, v ∈ ev → posOf ev v < ev.length
  | [], _, h => by cases h
  | x :: xs, v, h => by
    unfold posOf
    by_cases e : x = v
    · simp [e]
    · simp only [e, if_false]
      have := posOf_lt ((List.mem_cons.mp h).resolve_left fun z => e z.symm)
      simp
      omega
theorem posOf_at : ∀ {ev : List Str} {k : Nat} {v : Str}, ev.Nodup → ev[k]? = some v → posOf ev v = k
  | [], k, v, _, h => by simp at h
  | x :: xs, 0, v, _, h => by
    have e : x = v := by simpa using h
    unfold posOf
    rw [if_pos e]
  | x :: xs, k + 1, v, hn, h => by
    have h2 : xs[k]? = some v := by simpa using h
    obtain ⟨n1, n2⟩ := List.nodup_cons.mp hn
    have e : x ≠ v := fun e => n1 (e ▸ List.mem_of_getElem? h2)
    unfold posOf
    rw [if_neg e, posOf_at n2 h2]
    omega
def fixR (r : NRule) : NRule := { r with t := if (if sN r.nm = true then (0 : Int) else 1) > r.t then (if sN r.nm = true then 0 else 1) else r.t }
theorem fixR_ok {ev : List Str} {r : NRule} (h : Good ev r) : Good ev (fixR r) := by
  refine ⟨h.b, h.e, h.l, ?_, fun q => ?_⟩
  · have := h.t
    show 0 ≤ (if (if sN r.nm = true then (0 : Int) else 1) > r.t then (if sN r.nm = true then (0 : Int) else 1) else r.t) ∧ (if (if sN r.nm = true then (0 : Int) else 1) > r.t then (if sN r.nm = true then (0 : Int) else 1) else r.t) < 90
    split
    · split <;> omega
    · omega
  · rcases h.r q with z | z
    · exact .inl z
    · right
      show 1 ≤ (if (if sN r.nm = true then (0 : Int) else 1) > r.t then (if sN r.nm = true then (0 : Int) else 1) else r.t)
      have q' : sN r.nm = true := q
      simp only [q', if_true]
      split <;> omega
theorem fixR_pot {ev : List Str} {rs : List NRule} (N : NetG ev rs) : ∃ π, Pot (rowsOf (rs.map fixR) 400) π := by
  refine ⟨fun v => 20 * (posOf ev v : Int), fun r hr => ?_⟩
  obtain ⟨q, hq, rfl⟩ := List.mem_map.mp hr
  obtain ⟨r, hr0, rfl⟩ := List.mem_map.mp hq
  have G := N.gd r hr0
  have lb := posOf_lt G.b
  have le := posOf_lt G.e
  have hl := G.l
  have ht := G.t
  have h5 := N.le
  show 20 * (posOf ev r.b : Int) + (r.l - (fixR r).t * 400) ≤ 20 * (posOf ev r.e : Int)
  have ft : (fixR r).t = if (if sN r.nm = true then (0 : Int) else 1) > r.t then (if sN r.nm = true then (0 : Int) else 1) else r.t := rfl
  cases hs : sN r.nm with
  | false =>
    have : 1 ≤ (fixR r).t := by rw [ft, hs]; simp only [Bool.false_eq_true, if_false]; split <;> omega
    omega
  | true =>
    have t2 : (fixR r).t = r.t := by rw [ft, hs]; simp only [if_true]; split <;> omega
    rcases G.r hs with ⟨k, k1, k2⟩ | z
    · rw [posOf_at N.nd k1, posOf_at N.nd k2]
      omega
    · omega
theorem netG_fix {ev : List Str} {rs : List NRule} (N : NetG ev rs) : NetG ev (rs.map fixR) :=
  ⟨N.nd, N.le, N.g2, by rw [List.length_map]; exact N.lr, fun r hr => by
    obtain ⟨q, hq, rfl⟩ := List.mem_map.mp hr
    exact fixR_ok (N.gd q hq), N.sl⟩
theorem cut4 (a b c d e : D) : cutD [a, b, c, d, e] none (some 4) = [a, b, c, d] := rfl
theorem cut2 (a b c : D) : cutD [a, b, c] none (some 2) = [a, b] := rfl
theorem g_geS {a : Str} {st : Stt} : gGe (.str a) (.str "s") st = some (.bl (!sN a), st) := rfl
theorem if_t {ft : IT} {f g : IS} {env : Lv} {st : Stt} {Q : Lv → Fl → Stt → Prop} (h : (ft env st).W fun b st1 => b = true ∧ st1 = st) (w : sW (f env st) Q) : sW (sT ft f g env st) Q := by
  rw [sW_sT]
  exact h.mono fun b st1 ⟨e1, e2⟩ => by subst e1 e2; simpa using w
theorem running_ok {b : Nat} {st : Stt} (hb : Box b st) {Q : D → Stt → Prop} (h : ∀ ev rs p k st', NetG ev rs → (∃ π, Pot (rowsOf rs p) π) → (1 ≤ p ∧ p ≤ 410) → Gr b st st' → st'[k]? = some (.lst [netD ev rs, .int p]) → Q (.obj k) st') : (F__law_running [.obj b, .int 5, .int 7] st).W Q := by
  refine w_fn rfl ?_
  unfold b__law_running
  refine seq_cut (fun env st' => ∃ ev rs, NetG ev rs ∧ Gr b st st' ∧ env = [some (.obj b), some (.int 5), some (.int 7), some (netD ev rs), none, none]) ?_ ?_
  · simp
    exact net_ok hb fun ev rs st' N g => ⟨ev, rs, N, g, rfl⟩
  rintro _ st1 ⟨ev, rs, N, g1, rfl⟩
  refine seq_cut (fun env st' => Gr b st st' ∧ ((∃ p : Int, (∃ π, Pot (rowsOf rs p) π) ∧ (1 ≤ p ∧ p ≤ 410) ∧ env = [some (.obj b), some (.int 5), some (.int 7), some (netD ev rs), some (.int p), none]) ∨ env = [some (.obj b), some (.int 5), some (.int 7), some (netD ev rs), some .non, none])) ?_ ?_
  · simp
    exact period_ok N.ok g1.box (fun p st' hp g hl => ⟨g1.trans g, .inl ⟨p, hp, hl, rfl⟩⟩) fun _ => ⟨g1, .inr rfl⟩
  have fin : ∀ ev rs p env st', NetG ev rs → (∃ π, Pot (rowsOf rs p) π) → (1 ≤ p ∧ p ≤ 410) → Gr b st st' → (∃ a, env = [some (.obj b), some (.int 5), some (.int 7), some (netD ev rs), some (.int p), a]) → sW (sRet (eLst (aCons (eVar 3) (aCons (eVar 4) aNil))) env st') fun env fl st' => match fl with
      | .rt d => Q d st'
      | .nx => Q .non st'
      | _ => False := by
    rintro ev rs p _ st' N hp hl g ⟨a, rfl⟩
    simp
    exact h ev rs p _ _ N hp hl (g.app _) (app_at1 _)
  rintro _ st2 ⟨g2, ⟨p, hp, hl, rfl⟩ | rfl⟩
  · simp
    have := fin ev rs p _ st2 N hp hl g2 ⟨none, rfl⟩
    simpa using this
  · refine seq_cut (fun env st' => Gr b st st' ∧ ∃ ev rs p a, NetG ev rs ∧ (∃ π, Pot (rowsOf rs p) π) ∧ (1 ≤ p ∧ p ≤ 410) ∧ env = [some (.obj b), some (.int 5), some (.int 7), some (netD ev rs), some (.int p), a]) ?_ ?_
    · refine if_t (by simp) ?_
      refine seq_cut (fun env st' => ∃ a, Gr b st st' ∧ env = [some (.obj b), some (.int 5), some (.int 7), some (netD ev (rs.map fixR)), some .non, a]) ?_ ?_
      · simp [netD, gSl, wipeL]
        rw [comp_pure (fun _ => true) (fun d => match d with | .tup [.str n, .str b, .str e, .int l, .int t] => ruleD (fixR ⟨n, b, e, l, t⟩) | d => d) (fun x hx => ?_) (by have := N.lr; simp; omega)]
        rotate_left
        · obtain ⟨r, hr, rfl⟩ := List.mem_map.mp hx
          refine ⟨_, rfl, ?_⟩
          simp [ruleD, gSl, gMax2, cut4, g_geS, gAdd, sizeLine_eq]
          have ft : (fixR r).t = if (if sN r.nm = true then (0 : Int) else 1) > r.t then (if sN r.nm = true then (0 : Int) else 1) else r.t := rfl
          have f2 : fixR { nm := r.nm, b := r.b, e := r.e, l := r.l, t := r.t } = fixR r := rfl
          rw [f2]
          refine ⟨rfl, rfl, rfl, rfl, ?_⟩
          rw [ft]
          cases sN r.nm <;> simp
        have e5 : (List.map (fun d => match d with | .tup [.str n, .str b, .str e, .int l, .int t] => ruleD (fixR ⟨n, b, e, l, t⟩) | d => d) (List.filter (fun _ => true) (rs.map ruleD))) = (rs.map fixR).map ruleD := by
          rw [List.filter_eq_self.mpr (by simp), List.map_map, List.map_map]
          rfl
        rw [e5]
        simp [gAdd, sizeLine_eq, cut2]
        exact g2.app _
      rintro _ st3 ⟨a, g3, rfl⟩
      simp
      refine period_ok (netG_fix N).ok g3.box (fun p st' hp g hl => ?_) fun hno => (hno (fixR_pot N)).elim
      exact ⟨g3.trans g, ev, rs.map fixR, netG_fix N, p, hp, hl, rfl, rfl⟩
    rintro _ st3 ⟨g3, ev, rs, p, a, N, hp, hl, rfl⟩
    exact fin ev rs p _ st3 N hp hl g3 ⟨a, rfl⟩
end Ev02

namespace Ev02
open PySem L2 Iv BF
def ag (f s : Str × Int) : D := .tup [.str "against", .str f.1, .str s.1]
def lawP (F : Str → Mp Str) (f s : Str × Int) : Option D := if f.1 = s.1 then none else match F f.1 s.1 with
  | some w => if s.2 - f.2 < w then some (ag f s) else none
  | none => none
def lawOne (F : Str → Mp Str) (fx : List (Str × Int)) (f : Str × Int) : Option D := fx.findSome? (lawP F f)
def lawAll (F : Str → Mp Str) (fx : List (Str × Int)) : Option D := fx.findSome? (lawOne F fx)
def firsts (F : Str → Mp Str) (fx : List (Str × Int)) (v : Str) : List Int := fx.filterMap fun f => (F f.1 v).map (f.2 + ·)
def lasts (F : Str → Mp Str) (fx : List (Str × Int)) (v : Str) : List Int := fx.filterMap fun f => (F v f.1).map (f.2 - ·)
def maxO (l : List Int) : D := if l = [] then .non else .int (maxI l)
def minO (l : List Int) : D := if l = [] then .non else .int (minI l)
def dueD (ev : List Str) (F : Str → Mp Str) (fx : List (Str × Int)) : D :=
  (lawAll F fx).getD (.tup [.str "room", .tup (ev.map fun v => .tup [.str v, maxO (firsts F fx v), minO (lasts F fx v)])])
theorem uniq_nd : ∀ {fx : List (Str × Int)}, (fx.map (·.1)).Nodup → ∀ {f s : Str × Int}, f ∈ fx → s ∈ fx → f.1 = s.1 → f = s
  | [], _, f, s, h, _, _ => by cases h
  | q :: fx, hn, f, s, hf, hs, e => by
    obtain ⟨n1, n2⟩ := List.nodup_cons.mp hn
    rcases List.mem_cons.mp hf with hf1 | hf1
    · rcases List.mem_cons.mp hs with hs1 | hs1
      · rw [hf1, hs1]
      · exact (n1 (by rw [← hf1]; show f.1 ∈ _; rw [e]; exact List.mem_map_of_mem (f := (·.1)) hs1)).elim
    · rcases List.mem_cons.mp hs with hs1 | hs1
      · exact (n1 (by rw [← hs1]; show s.1 ∈ _; rw [← e]; exact List.mem_map_of_mem (f := (·.1)) hf1)).elim
      · exact uniq_nd n2 hf1 hs1 e
theorem fold_val : ∀ {fx : List (Str × Int)} {f0 : Mp Str}, (fx.map (·.1)).Nodup → ∀ {u : Str} {x : Int}, fx.foldl fxF f0 u = some x ↔ (u, x) ∈ fx ∨ (u ∉ fx.map (·.1) ∧ f0 u = some x)
  | [], f0, _, u, x => by simp
  | q :: fx, f0, hn, u, x => by
    obtain ⟨n1, n2⟩ := List.nodup_cons.mp hn
    rw [List.foldl_cons, fold_val n2]
    unfold fxF
    by_cases e : u = q.1
    · subst e
      rw [upM_self]
      constructor
      · rintro (h | ⟨_, h⟩)
        · exact (n1 (List.mem_map_of_mem (f := (·.1)) h)).elim
        · cases h
          exact .inl (List.mem_cons_self ..)
      · rintro (h | ⟨h, _⟩)
        · rcases List.mem_cons.mp h with z | z
          · right
            refine ⟨n1, ?_⟩
            rw [← z]
          · exact (n1 (List.mem_map_of_mem (f := (·.1)) z)).elim
        · exact (h (by simp)).elim
    · rw [upM_ne _ _ e]
      constructor
      · rintro (h | ⟨h1, h2⟩)
        · exact .inl (List.mem_cons_of_mem _ h)
        · refine .inr ⟨fun z => ?_, h2⟩
          rcases List.mem_cons.mp z with z | z
          · exact e z
          · exact h1 z
      · rintro (h | ⟨h1, h2⟩)
        · rcases List.mem_cons.mp h with z | z
          · exact (e (by rw [← z])).elim
          · exact .inl z
        · exact .inr ⟨fun z => h1 (List.mem_cons_of_mem _ z), h2⟩
theorem fxM_val {fx : List (Str × Int)} (hn : (fx.map (·.1)).Nodup) {u : Str} {x : Int} : fxM fx u = some x ↔ (u, x) ∈ fx := by
  unfold fxM
  rw [fold_val hn]
  simp [nil0]
theorem maxO_of {l : List Int} {y : Int} (h1 : y ∈ l) (h2 : ∀ z ∈ l, z ≤ y) : maxO l = .int y := by
  cases l with
  | nil => cases h1
  | cons n ns =>
    obtain ⟨a, b⟩ := maxI_spec n ns
    unfold maxO
    rw [if_neg (by simp)]
    have := h2 _ a
    have := b _ h1
    rw [show maxI (n :: ns) = y by omega]
theorem minO_of {l : List Int} {y : Int} (h1 : y ∈ l) (h2 : ∀ z ∈ l, y ≤ z) : minO l = .int y := by
  cases l with
  | nil => cases h1
  | cons n ns =>
    obtain ⟨a, b⟩ := minI_spec n ns
    unfold minO
    rw [if_neg (by simp)]
    have := h2 _ a
    have := b _ h1
    rw [show minI (n :: ns) = y by omega]
theorem start_one {ev : List Str} {e : Str} (h : e ∈ ev) : startF ev (some e) = one e 0 := by
  funext v
  unfold startF
  by_cases hv : v = e
  · subst hv
    rw [if_pos ⟨h, .inr rfl⟩, one_some.mpr ⟨rfl, rfl⟩]
  · rw [if_neg (by rintro ⟨_, z | z⟩ <;> cases z; exact hv rfl)]
    cases q : one e 0 v with
    | none => rfl
    | some x => exact (hv (one_some.mp q).1).elim
theorem findSome_congr {α β : Type} {f g : α → Option β} : ∀ {xs : List α}, (∀ x ∈ xs, f x = g x) → xs.findSome? f = xs.findSome? g
  | [], _ => rfl
  | x :: xs, h => by
    rw [List.findSome?_cons, List.findSome?_cons, h x (List.mem_cons_self ..), findSome_congr fun y hy => h y (List.mem_cons_of_mem _ hy)]
theorem due_eq {ev : List Str} {rs : List NRule} {p : Int} {fx : List (Str × Int)} (N : NetOk ev rs) (hp : ∃ π, Pot (rowsOf rs p) π) (hn : (fx.map (·.1)).Nodup) (hin : ∀ q ∈ fx, q.1 ∈ ev) :
    roomD ev rs p fx = dueD ev (farF ev rs p) fx := by
  obtain ⟨π, hp⟩ := hp
  have hR := rowsOf_e (p := p) N
  have hR' := rowsOf_b (p := p) N
  have eR : rws (rs.map (rowOf p)) = rowsOf rs p := rws_rows rs p
  have eB : rws (backs (rs.map (rowOf p))) = bk (rowsOf rs p) := by
    unfold rws backs bk rowsOf
    simp only [List.map_map]
    rfl
  have hB : ∀ r ∈ bk (rowsOf rs p), r.e ∈ ev := fun r hr => by
    obtain ⟨q, hq, rfl⟩ := List.mem_map.mp hr
    exact hR' q hq
  have eF : ∀ e ∈ ev, farF ev rs p e = far (rowsOf rs p) ev e := fun e he => by
    unfold farF far
    rw [start_one he]
  generalize rowsOf rs p = R at *
  have hnN : ((negs fx).map (·.1)).Nodup := by unfold negs; rw [List.map_map]; exact hn
  -- one pair
  have pair : ∀ f ∈ fx, ∀ s ∈ fx, agP R ev.length f s = lawP (farF ev rs p) f s := fun f hf s hs => by
    have t := top_one hp hR (hin f hf) f.2 s.1
    have e0 : rounds R ev.length (upM nil0 f.1 f.2) s.1 = (far R ev f.1 s.1).map (f.2 + ·) := t
    unfold agP lawP
    rw [e0, eF f.1 (hin f hf)]
    by_cases e : f.1 = s.1
    · have e2 := uniq_nd hn hf hs e
      subst e2
      rw [if_pos rfl, far_self hp hR (hin f hf)]
      simp
    · rw [if_neg e]
      cases far R ev f.1 s.1 with
      | none => rfl
      | some w =>
        simp only [Option.map_some, ag]
        by_cases hw : s.2 < f.2 + w
        · rw [if_pos hw, if_pos (by omega)]
        · rw [if_neg hw, if_neg (by omega)]
  have all : agAll R ev.length fx = lawAll (farF ev rs p) fx := findSome_congr fun f hf => findSome_congr fun s hs => pair f hf s hs
  have h0 : ∀ u x, fxM fx u = some x → u ∈ ev := fun u x e => hin _ ((fxM_val hn).mp e)
  have anyb : fx.any (bad (rounds R ev.length (fxM fx))) = (agAll R ev.length fx).isSome := by
    rw [Bool.eq_iff_iff, List.any_eq_true]
    constructor
    · rintro ⟨q, hq, hb⟩
      have hb : q.2 < (rounds R ev.length (fxM fx) q.1).getD 0 := of_decide_eq_true hb
      obtain ⟨y, hy, _⟩ := rounds_le R (fxM fx) ev.length q.1 q.2 ((fxM_val hn).mpr hq)
      rw [hy] at hb
      obtain ⟨⟨u, x, w, e1, e2, e3⟩, _⟩ := top_some hp hR h0 hy
      have hu := (fxM_val hn).mp e1
      have t := top_one hp hR (h0 u x e1) x q.1
      have a : agP R ev.length (u, x) q = some (ag (u, x) q) := by
        have e0 : rounds R ev.length (upM nil0 u x) q.1 = (far R ev u q.1).map (x + ·) := t
        unfold agP ag
        rw [e0, e2]
        simp only [Option.map_some]
        rw [if_pos]
        simp at hb
        omega
      unfold agAll
      rw [List.findSome?_isSome_iff]
      refine ⟨(u, x), hu, ?_⟩
      unfold agOne
      rw [List.findSome?_isSome_iff]
      exact ⟨q, hq, by rw [a] <;> rfl⟩
    · intro h
      unfold agAll at h
      rw [List.findSome?_isSome_iff] at h
      obtain ⟨f, hf, h⟩ := h
      unfold agOne at h
      rw [List.findSome?_isSome_iff] at h
      obtain ⟨q, hq, h⟩ := h
      refine ⟨q, hq, decide_eq_true ?_⟩
      have t := top_one hp hR (hin f hf) f.2 q.1
      have e0 : rounds R ev.length (upM nil0 f.1 f.2) q.1 = (far R ev f.1 q.1).map (f.2 + ·) := t
      unfold agP at h
      rw [e0] at h
      cases hw : far R ev f.1 q.1 with
      | none => rw [hw] at h; cases h
      | some w =>
        rw [hw] at h
        simp only [Option.map_some] at h
        by_cases hl : q.2 < f.2 + w
        · obtain ⟨y, hy, _⟩ := rounds_le R (fxM fx) ev.length q.1 q.2 ((fxM_val hn).mpr hq)
          have := (top_some hp hR h0 hy).2 f.1 f.2 w ((fxM_val hn).mpr hf) hw
          rw [hy]
          simp
          omega
        · rw [if_neg hl] at h; cases h
  unfold roomD dueD
  dsimp only
  rw [eR, eB, anyb, ← all]
  cases hA : agAll R ev.length fx with
  | some d => rfl
  | none =>
    simp only [Option.isSome_none, Bool.false_eq_true, if_false, Option.getD_none]
    have rows : (ev.map fun v => D.tup [.str v, optD (rounds R ev.length (fxM fx) v), optD ((rounds (bk R) ev.length (fxM (negs fx)) v).map fun x => -x)]) = ev.map fun v => D.tup [.str v, maxO (firsts (farF ev rs p) fx v), minO (lasts (farF ev rs p) fx v)] := by
      refine List.map_congr_left fun v hv => ?_
      have c1 : optD (rounds R ev.length (fxM fx) v) = maxO (firsts (farF ev rs p) fx v) := by
        cases hE : rounds R ev.length (fxM fx) v with
        | none =>
          have : firsts (farF ev rs p) fx v = [] := by
            unfold firsts
            rw [List.filterMap_eq_nil_iff]
            intro f hf
            rw [eF f.1 (hin f hf), top_none hp hR h0 hE ((fxM_val hn).mpr hf)]
            rfl
          rw [this] <;> rfl
        | some y =>
          obtain ⟨⟨u, x, w, e1, e2, e3⟩, up⟩ := top_some hp hR h0 hE
          have hu := (fxM_val hn).mp e1
          refine (maxO_of ?_ ?_).symm
          · unfold firsts
            rw [List.mem_filterMap]
            exact ⟨(u, x), hu, by rw [eF u (h0 u x e1), e2, e3] <;> rfl⟩
          · intro z hz
            unfold firsts at hz
            rw [List.mem_filterMap] at hz
            obtain ⟨f, hf, hz⟩ := hz
            rw [eF f.1 (hin f hf)] at hz
            cases hw : far R ev f.1 v with
            | none => rw [hw] at hz; cases hz
            | some w' =>
              rw [hw] at hz
              cases hz
              exact up f.1 f.2 w' ((fxM_val hn).mpr hf) hw
      have hnegs : ∀ f : Str × Int, (f.1, -f.2) ∈ negs fx ↔ f ∈ fx := fun f => by
        unfold negs
        rw [List.mem_map]
        constructor
        · rintro ⟨q, hq, e⟩
          obtain ⟨e1, e2⟩ := Prod.mk.inj e
          have : q = f := Prod.ext e1 (by omega)
          rw [← this]; exact hq
        · exact fun h => ⟨f, h, rfl⟩
      have h0n : ∀ u x, fxM (negs fx) u = some x → (u, -x) ∈ fx := fun u x e => by
        have := (fxM_val hnN).mp e
        rw [← hnegs (u, -x)]
        simpa using this
      have h0n' : ∀ u x, fxM (negs fx) u = some x → u ∈ ev := fun u x e => hin _ (h0n u x e)
      have hpB := pot_bk hp
      have c2 : optD ((rounds (bk R) ev.length (fxM (negs fx)) v).map fun x => -x) = minO (lasts (farF ev rs p) fx v) := by
        cases hE : rounds (bk R) ev.length (fxM (negs fx)) v with
        | none =>
          have : lasts (farF ev rs p) fx v = [] := by
            unfold lasts
            rw [List.filterMap_eq_nil_iff]
            intro f hf
            have := top_none hpB hB h0n' hE ((fxM_val hnN).mpr ((hnegs f).mpr hf))
            rw [far_bk hp hR hR' (hin f hf) hv] at this
            rw [eF v hv, this]
            rfl
          rw [this] <;> rfl
        | some y =>
          obtain ⟨⟨u, x, w, e1, e2, e3⟩, up⟩ := top_some hpB hB h0n' hE
          have hu := h0n u x e1
          rw [far_bk hp hR hR' (h0n' u x e1) hv] at e2
          refine (minO_of ?_ ?_).symm
          · unfold lasts
            rw [List.mem_filterMap]
            refine ⟨(u, -x), hu, ?_⟩
            rw [eF v hv, e2]
            simp
            omega
          · intro z hz
            unfold lasts at hz
            rw [List.mem_filterMap] at hz
            obtain ⟨f, hf, hz⟩ := hz
            rw [eF v hv] at hz
            cases hw : far R ev v f.1 with
            | none => rw [hw] at hz; cases hz
            | some w' =>
              rw [hw] at hz
              cases hz
              have := up f.1 (-f.2) w' ((fxM_val hnN).mpr ((hnegs f).mpr hf)) (by rw [far_bk hp hR hR' (hin f hf) hv]; exact hw)
              simp only
              omega
      rw [c1, c2]
    rw [rows]
end Ev02

namespace Iv
open PySem L2
theorem toPy_ints (st : Stt) (n : Nat) : ∀ l : List Int, allO (toPy st (n + 1)) (l.map D.int) = some (l.map PyData.int)
  | [] => rfl
  | x :: l => by
    rw [List.map_cons]
    unfold allO
    rw [toPy_ints st n l]
    rfl
theorem lay_ints : ∀ l : List Int, PyData.canLayAll0 (l.map PyData.int) = true ∧ PyData.depthAll (l.map PyData.int) = 0
  | [] => ⟨rfl, rfl⟩
  | x :: l => by
    obtain ⟨a, b⟩ := lay_ints l
    constructor
    · show (PyData.canLay0 (.int x) && PyData.canLayAll0 (l.map PyData.int)) = true
      rw [a] <;> rfl
    · show max (PyData.depth (.int x)) (PyData.depthAll (l.map PyData.int)) = 0
      rw [b] <;> rfl
theorem eq_ints_nil {i j : Nat} {st : Stt} {l : List Int} (h1 : st[i]? = some (.lst (l.map D.int))) (h2 : st[j]? = some (.lst [])) : gEq (.obj i) (.obj j) st = some (.bl (decide (l = [])), st) := by
  have p1 : toPy st 70 (.obj i) = some (.list (l.map PyData.int)) := by
    show (match st[i]? with | some (.lst ds) => (allO (toPy st 69) ds).map PyData.list | _ => none) = _
    rw [h1]
    show (allO (toPy st (68 + 1)) (l.map D.int)).map PyData.list = _
    rw [toPy_ints] <;> rfl
  have p2 : toPy st 70 (.obj j) = some (.list []) := by
    show (match st[j]? with | some (.lst ds) => (allO (toPy st 69) ds).map PyData.list | _ => none) = _
    rw [h2] <;> rfl
  obtain ⟨a, b⟩ := lay_ints l
  have s1 : SeqAt.shaped (.list (l.map PyData.int)) = true := by
    show (PyData.canLayAll0 (l.map PyData.int) && decide (PyData.depthAll (l.map PyData.int) + 1 ≤ 64)) = true
    rw [a, b] <;> rfl
  have e : eqB (.obj i) (.obj j) st = some (decide (l = [])) := by
    show (match toPy st 70 (.obj i), toPy st 70 (.obj j) with | some p, some q => if SeqAt.shaped p = true ∧ SeqAt.shaped q = true then some (PyData.eqv p q) else none | _, _ => none) = _
    rw [p1, p2]
    simp only [s1, true_and]
    rw [if_pos (by rfl)]
    cases l <;> rfl
  unfold gEq
  rw [e] <;> rfl
theorem intsD_map : ∀ l : List Int, intsD (l.map D.int) = some l
  | [] => rfl
  | x :: l => by
    show (intsD (l.map D.int)).map (x :: ·) = _
    rw [intsD_map l] <;> rfl
theorem g_max {i : Nat} {st : Stt} {l : List Int} (h : st[i]? = some (.lst (l.map D.int))) (h0 : l ≠ []) : gMax [.obj i] st = some (.int (maxI l), st) := by
  show (match (lstD (.obj i) st).bind intsD with | some (n :: ns) => some (D.int (maxI (n :: ns)), st) | _ => none) = _
  rw [lstDo, h]
  show (match intsD (l.map D.int) with | some (n :: ns) => some (D.int (maxI (n :: ns)), st) | _ => none) = _
  rw [intsD_map]
  cases l with
  | nil => exact (h0 rfl).elim
  | cons x l => rfl
theorem g_min {i : Nat} {st : Stt} {l : List Int} (h : st[i]? = some (.lst (l.map D.int))) (h0 : l ≠ []) : gMin [.obj i] st = some (.int (minI l), st) := by
  show (match (lstD (.obj i) st).bind intsD with | some (n :: ns) => some (D.int (minI (n :: ns)), st) | _ => none) = _
  rw [lstDo, h]
  show (match intsD (l.map D.int) with | some (n :: ns) => some (D.int (minI (n :: ns)), st) | _ => none) = _
  rw [intsD_map]
  cases l with
  | nil => exact (h0 rfl).elim
  | cons x l => rfl
/-- a dict filled from pairs: each name leads to one of its pairs -/
theorem valD_pairs : ∀ (pr : List (Str × Nat)) (K0 : List (Key × D)) (e : Str), (e ∈ pr.map (·.1) → ∃ k, (e, k) ∈ pr ∧ valD ((pr.map fun q => ((Sum.inr q.1 : Key), D.obj q.2)).foldl (fun acc kv => putD acc kv.1 kv.2) K0) (.inr e) = some (.obj k)) ∧
    (e ∉ pr.map (·.1) → valD ((pr.map fun q => ((Sum.inr q.1 : Key), D.obj q.2)).foldl (fun acc kv => putD acc kv.1 kv.2) K0) (.inr e) = valD K0 (.inr e))
  | [], K0, e => ⟨(fun h => nomatch h), fun _ => rfl⟩
  | q :: pr, K0, e => by
    obtain ⟨a, b⟩ := valD_pairs pr (putD K0 (.inr q.1) (.obj q.2)) e
    refine ⟨fun h => ?_, fun h => ?_⟩
    · by_cases hm : e ∈ pr.map (·.1)
      · obtain ⟨k, h1, h2⟩ := a hm
        exact ⟨k, List.mem_cons_of_mem _ h1, h2⟩
      · have e1 : e = q.1 := (List.mem_cons.mp h).resolve_right hm
        refine ⟨q.2, by rw [e1]; exact List.mem_cons_self .., ?_⟩
        have := b hm
        rw [List.map_cons, List.foldl_cons, this, valD_put, e1, if_pos rfl]
    · have h1 : e ≠ q.1 := fun z => h (by rw [z]; simp)
      have h2 : e ∉ pr.map (·.1) := fun z => h (List.mem_cons_of_mem _ z)
      rw [List.map_cons, List.foldl_cons, b h2, valD_put, if_neg (by intro z; cases z; exact h1 rfl)]
theorem pairs_objs : ∀ pr : List (Str × Nat), pairsD (pr.map fun q => D.tup [.str q.1, .obj q.2]) = some (pr.map fun q => ((Sum.inr q.1 : Key), D.obj q.2))
  | [] => rfl
  | q :: pr => by
    show (match keyD (.str q.1), pairsD (pr.map fun q => D.tup [.str q.1, .obj q.2]) with | some key, some r => some ((key, D.obj q.2) :: r) | _, _ => none) = _
    rw [pairs_objs pr]
    rfl
end Iv
namespace Ev02
open PySem L2 Iv BF
/-- what stood stands -/
def Kp (S S' : Stt) : Prop := ∀ (j : Nat) (o : O), S[j]? = some o → S'[j]? = some o
theorem Kp.refl (S : Stt) : Kp S S := fun _ _ h => h
theorem Kp.app {S S' : Stt} (h : Kp S S') (m : Stt) : Kp S (S' ++ m) := fun j o e => app_lt (h j o e)
theorem Kp.set {S S' : Stt} (h : Kp S S') {L : Nat} (hL : S.length ≤ L) (o : O) : Kp S (S'.set L o) := fun j u e => by
  have hj := (List.getElem?_eq_some_iff.mp e).1
  rw [List.getElem?_set_ne (by omega)]
  exact h j u e
theorem Kp.trans {A B C : Stt} (h : Kp A B) (g : Kp B C) : Kp A C := fun j o e => g j o (h j o e)
def fP (F : Str → Mp Str) (v : Str) : D → Bool
  | .tup [.str s, .int _] => (F s v).isSome
  | _ => false
def fG (F : Str → Mp Str) (v : Str) : D → D
  | .tup [.str s, .int m] => .int (m + (F s v).getD 0)
  | d => d
def lP (F : Str → Mp Str) (v : Str) : D → Bool
  | .tup [.str s, .int _] => (F v s).isSome
  | _ => false
def lG (F : Str → Mp Str) (v : Str) : D → D
  | .tup [.str s, .int m] => .int (m - (F v s).getD 0)
  | d => d
theorem firsts_map (F : Str → Mp Str) (v : Str) : ∀ fx : List (Str × Int), ((fx.map fxD).filter (fP F v)).map (fG F v) = (firsts F fx v).map D.int
  | [] => rfl
  | q :: fx => by
    have ih := firsts_map F v fx
    unfold firsts at ih ⊢
    rw [List.map_cons, List.filter_cons, List.filterMap_cons]
    cases h : F q.1 v with
    | none =>
      simp only [fxD, fP, lP, h, Option.isSome_none, Bool.false_eq_true, if_false, Option.map_none]
      exact ih
    | some w =>
      simp only [fxD, fP, lP, fG, lG, h, Option.isSome_some, if_true, Option.map_some, List.map_cons, Option.getD_some]
      rw [← ih] <;> rfl
theorem lasts_map (F : Str → Mp Str) (v : Str) : ∀ fx : List (Str × Int), ((fx.map fxD).filter (lP F v)).map (lG F v) = (lasts F fx v).map D.int
  | [] => rfl
  | q :: fx => by
    have ih := lasts_map F v fx
    unfold lasts at ih ⊢
    rw [List.map_cons, List.filter_cons, List.filterMap_cons]
    cases h : F v q.1 with
    | none =>
      simp only [fxD, fP, lP, h, Option.isSome_none, Bool.false_eq_true, if_false, Option.map_none]
      exact ih
    | some w =>
      simp only [fxD, fP, lP, fG, lG, h, Option.isSome_some, if_true, Option.map_some, List.map_cons, Option.getD_some]
      rw [← ih] <;> rfl
theorem plainDs_map {α : Type} {n : Nat} {f : α → D} : ∀ {xs : List α}, (∀ x ∈ xs, plainD n (f x) = true) → plainDs n (xs.map f) = true
  | [], _ => by unfold plainDs; rfl
  | x :: xs, h => by
    rw [List.map_cons]
    unfold plainDs
    rw [h x (List.mem_cons_self ..), plainDs_map fun y hy => h y (List.mem_cons_of_mem _ hy)] <;> rfl
theorem plain_maxO (n : Nat) (l : List Int) : plainD (n + 1) (maxO l) = true := by
  unfold maxO
  split <;> (unfold plainD; rfl)
theorem plain_minO (n : Nat) (l : List Int) : plainD (n + 1) (minO l) = true := by
  unfold minO
  split <;> (unfold plainD; rfl)
theorem plain_due {ev : List Str} {F : Str → Mp Str} {fx : List (Str × Int)} (hl : ∀ v ∈ ev, v.length ≤ 1000) (hn : ev.length ≤ 100) (hin : ∀ q ∈ fx, q.1 ∈ ev) : plainD 6 (dueD ev F fx) = true := by
  have ps : ∀ (n : Nat) (s : Str), s.length ≤ 1000 → plainD (n + 1) (.str s) = true := fun n s h => by
    unfold plainD
    exact decide_eq_true h
  unfold dueD
  cases h : lawAll F fx with
  | none =>
    simp only [Option.getD_none]
    have rows : plainDs 4 (ev.map fun v => D.tup [.str v, maxO (firsts F fx v), minO (lasts F fx v)]) = true := plainDs_map fun v hv => by
      unfold plainD
      simp only [plainDs, ps 2 v (hl v hv), plain_maxO, plain_minO]
      rfl
    unfold plainD
    simp only [plainDs]
    rw [ps 4 "room" (by decide +kernel)]
    unfold plainD
    rw [rows, List.length_map, decide_eq_true (show ev.length ≤ 1000000 by omega)]
    rfl
  | some d =>
    obtain ⟨f, hf, h1⟩ := List.exists_of_findSome?_eq_some h
    obtain ⟨s, hs, h2⟩ := List.exists_of_findSome?_eq_some h1
    unfold lawP at h2
    split at h2
    · cases h2
    · split at h2
      · split at h2
        · cases h2
          simp only [Option.getD_some, ag]
          unfold plainD
          simp only [plainDs, ps 4 "against" (by decide +kernel), ps 4 _ (hl _ (hin f hf)), ps 4 _ (hl _ (hin s hs))]
          rfl
        · cases h2
      · cases h2
end Ev02

namespace Ev02
open PySem L2 Iv BF
/-- behind the digits and draws: the list of fixed events, the dict of dicts -/
structure Fin (ev : List Str) (F : Str → Mp Str) (fx : List (Str × Int)) (L M : Nat) (S : Stt) : Prop where
  fx : S[L]? = some (.lst (fx.map fxD))
  ex : ∃ FD, S[M]? = some (.dct FD) ∧ ∀ e ∈ ev, ∃ k K, valD FD (.inr e) = some (.obj k) ∧ S[k]? = some (.dct K) ∧ Best ev K (F e)
theorem Fin.kp {ev : List Str} {F : Str → Mp Str} {fx : List (Str × Int)} {L M : Nat} {S S' : Stt} (h : Fin ev F fx L M S) (k : Kp S S') : Fin ev F fx L M S' := by
  obtain ⟨FD, h1, h2⟩ := h.ex
  exact ⟨k _ _ h.fx, FD, k _ _ h1, fun e he => by
    obtain ⟨a, K, x, y, z⟩ := h2 e he
    exact ⟨a, K, x, k _ _ y, z⟩⟩
theorem far_dict {ev : List Str} {rs : List NRule} {p : Int} {st : Stt} {env : Lv} (N : NetOk ev rs) (hp : ∃ π, Pot (rowsOf rs p) π) (h2 : ∀ d, (env.set 6 (some d))[2]? = some (some (netD ev rs))) (h3 : ∀ d, (env.set 6 (some d))[3]? = some (some (.int p))) (h6 : ∀ d, (env.set 6 (some d))[6]? = some (some d)) :
    oW (compN (srcTup (ev.map D.str)) (Tg.nm 6) tYesI (eTup (aCons (eVar 6) (aCons (eCall 3 F__law_far (aCons (eVar 2) (aCons (eVar 3) (aCons (eVar 6) aNil)))) aNil))) env bigN 0 [] st)
      fun acc st' => ∃ pr : List (Str × Nat), acc = pr.map (fun q => D.tup [.str q.1, .obj q.2]) ∧ pr.map (·.1) = ev ∧ (∀ q ∈ pr, ∃ K, st'[q.2]? = some (.dct K) ∧ Best ev K (farF ev rs p q.1)) ∧ Kp st st' := by
  have hle := N.le
  have w : oW (compN (srcTup (ev.map D.str)) (Tg.nm 6) tYesI (eTup (aCons (eVar 6) (aCons (eCall 3 F__law_far (aCons (eVar 2) (aCons (eVar 3) (aCons (eVar 6) aNil)))) aNil))) env bigN 0 [] st)
      fun acc st' => ∃ pr : List (Str × Nat), acc = pr.map (fun q => D.tup [.str q.1, .obj q.2]) ∧ pr.map (·.1) = ev.take (ev.map D.str).length ∧ (∀ q ∈ pr, ∃ K, st'[q.2]? = some (.dct K) ∧ Best ev K (farF ev rs p q.1)) ∧ Kp st st' := by
    refine comp_tup (fun i acc st' => ∃ pr : List (Str × Nat), acc = pr.map (fun q => D.tup [.str q.1, .obj q.2]) ∧ pr.map (·.1) = ev.take i ∧ (∀ q ∈ pr, ∃ K, st'[q.2]? = some (.dct K) ∧ Best ev K (farF ev rs p q.1)) ∧ Kp st st') ⟨[], rfl, by simp, by simp, Kp.refl _⟩ ?_ (by simp; omega)
    rintro i x acc st' hx ⟨pr, rfl, h4, h5, h7⟩
    obtain ⟨e, he, rfl⟩ := map_get hx
    refine ⟨_, rfl, ?_⟩
    simp only [w_yes, W_ok, if_true, w_tup, w_acons, W_bind, w_var, w_call, w_anil, h2, h3, h6, Option.some.injEq, exists_eq_left']
    refine ⟨rfl, far_top N hp fun K BK => ?_⟩
    have hlen : pr.length ≤ 6 := by
      have := congrArg List.length h4
      simp at this
      omega
    refine ⟨by simp, by simp; omega, pr ++ [(e, st'.length)], by simp, ?_, ?_, h7.app _⟩
    · rw [take_succ_of he, ← h4]
      simp
    · intro q hq
      rcases List.mem_append.mp hq with z | z
      · obtain ⟨K', a, b⟩ := h5 q z
        exact ⟨K', app_lt a, b⟩
      · rw [List.mem_singleton.mp z]
        exact ⟨K, app_at1 _, BK⟩
  refine w.mono fun acc st' ⟨pr, a, b, c, d⟩ => ⟨pr, a, ?_, c, d⟩
  rw [b, List.length_map, List.take_length]
theorem math (ns : List Int) (hl : ns.length ≤ 63) (hb : ∀ z ∈ ns, Builtin.Int.intBits z ≤ 1048576) : ∃ st, F_law [.cl (ns.map D.int)] [] = .ok (.bl true) st := by
  suffices w : (F_law [.cl (ns.map D.int)] []).W fun d _ => d = .bl true by
    obtain ⟨d, st, e, rfl⟩ := w
    exact ⟨st, e⟩
  refine w_fn rfl ?_
  unfold b_law
  refine seq_cut (fun env st' => Box 1 st' ∧ env = [some (.cl (ns.map D.int)), some (.obj 1), none, none, none, none, none, none, none, none, none, none, none, none, none, none]) ?_ ?_
  · simp
    refine digits_ok ns [] fun ds hds => ?_
    simp
    exact ⟨0, 0, ds, by omega, rfl, rfl, hds⟩
  rintro _ st1 ⟨hB, rfl⟩
  refine seq_cut (fun env st' => ∃ ev rs p, NetG ev rs ∧ (∃ π, Pot (rowsOf rs p) π) ∧ (1 ≤ p ∧ p ≤ 410) ∧ Box 1 st' ∧ env = [some (.cl (ns.map D.int)), some (.obj 1), some (netD ev rs), some (.int p), none, none, none, none, none, none, none, none, none, none, none, none]) ?_ ?_
  · refine w_tgL ?_
    simp
    refine running_ok hB fun ev rs p k st' N hp hpl g hk => ?_
    exact ⟨k, rfl, _, hk, rfl, _, rfl, ev, rs, N, p, hp, hpl, g.box, rfl⟩
  rintro _ st2 ⟨ev, rs, p, N, hp, hpl, hB2, rfl⟩
  have NO := N.ok
  have hle := N.le
  refine seq_cut (fun env st' => ∃ g : Str → Int, Box 1 st' ∧ env = [some (.cl (ns.map D.int)), some (.obj 1), some (netD ev rs), some (.int p), some (.tup [.str "table", .int p, .tup (ev.map fun s => fxD (s, g s))]), none, none, none, none, none, none, none, none, none, none, none]) ?_ ?_
  · simp
    refine kept_ok NO hB2 fun g st' gr => ⟨gr.box, g, rfl⟩
  rintro _ st3 ⟨g, hB3, rfl⟩
  refine seq_cut (fun env st' => Box 1 st' ∧ 1 < st3.length ∧ st'[st3.length]? = some (.lst []) ∧ env = [some (.cl (ns.map D.int)), some (.obj 1), some (netD ev rs), some (.int p), some (.tup [.str "table", .int p, .tup (ev.map fun s => fxD (s, g s))]), some (.obj st3.length), none, none, none, none, none, none, none, none, none, none]) ?_ ?_
  · simp
    exact ⟨hB3.app _, hB3.lt⟩
  rintro _ st4 ⟨hB4, hL1, hL4, rfl⟩
  generalize st3.length = L at *
  refine seq_cut (fun env st' => ∃ (fx : List (Str × Int)) (a c : Option D), st'[L]? = some (.lst (fx.map fxD)) ∧ (fx.map (·.1)).Nodup ∧ (∀ q ∈ fx, q.1 ∈ ev) ∧ fx.length ≤ ev.length ∧ env = [some (.cl (ns.map D.int)), some (.obj 1), some (netD ev rs), some (.int p), some (.tup [.str "table", .int p, .tup (ev.map fun s => fxD (s, g s))]), some (.obj L), a, c, none, none, none, none, none, none, none, none]) ?_ ?_
  · simp
    refine for_tup (xs := ev.map fun s => fxD (s, g s)) (fun i env st' => ∃ (fx : List (Str × Int)) (a c : Option D), Box 1 st' ∧ st'[L]? = some (.lst (fx.map fxD)) ∧ (fx.map (·.1)).Sublist (ev.take i) ∧ env = [some (.cl (ns.map D.int)), some (.obj 1), some (netD ev rs), some (.int p), some (.tup [.str "table", .int p, .tup (ev.map fun s => fxD (s, g s))]), some (.obj L), a, c, none, none, none, none, none, none, none, none]) ?_ ?_ ?_ (by simp; omega)
    · exact ⟨[], none, none, hB4, hL4, List.nil_sublist _, rfl⟩
    · rintro i x env st' hx ⟨fx, a, c, hB5, hL5, hsub, rfl⟩
      obtain ⟨s, hs, rfl⟩ := map_get hx
      have hlen : fx.length ≤ 5 := by
        have := hsub.length_le
        simp at this
        omega
      refine ⟨_, rfl, ?_⟩
      simp
      refine draw_ok hB5 (by decide) fun v st5 v0 v1 d5 => ?_
      have hL6 : st5[L]? = some (.lst (fx.map fxD)) := by rw [d5.2.2 _ (by omega)]; exact hL5
      have hs1 : (fx.map (·.1)).Sublist (ev.take (i + 1)) := by
        rw [take_succ_of hs]
        exact hsub.trans (List.sublist_append_left _ _)
      by_cases hv : v = 0
      · simp [hv, hL6]
        refine pick_ok (d5.1.app _) (app_at1 _) (by have := d5.1.lt; omega) (by simp) fun w st6 hw d6 => ?_
        obtain ⟨z, rfl⟩ : ∃ z : Int, w = .int z := by
          simp at hw
          rcases hw with rfl | rfl | rfl <;> exact ⟨_, rfl⟩
        have hL7 : st6[L]? = some (.lst (fx.map fxD)) := by rw [d6.2.2 _ (by omega)]; exact app_lt hL6
        have hLl := (List.getElem?_eq_some_iff.mp hL7).1
        simp [hL7, sizeLine_eq]
        refine ⟨by omega, d6.1.set (by omega) _, fx ++ [(s, g s + z)], ?_, ?_⟩
        · rw [List.getElem?_set_self hLl]
          simp [fxD]
        · rw [take_succ_of hs, List.map_append]
          exact hsub.append (List.Sublist.refl _)
      · simp [hv]
        exact ⟨d5.1, fx, hL6, hs1⟩
    · rintro env st' ⟨fx, a, c, hB5, hL5, hsub, rfl⟩
      rw [List.length_map, List.take_length] at hsub
      refine ⟨rfl, fx, hL5, hsub.nodup N.nd, fun a b hq => hsub.subset (List.mem_map_of_mem (f := (·.1)) hq), ?_, a, c, rfl⟩
      have := hsub.length_le
      simpa using this
  rintro _ st5 ⟨fx, a, c, hL5, hnd, hin, hfl, rfl⟩
  generalize hT : D.tup [.str "table", .int p, .tup (ev.map fun s => fxD (s, g s))] = T
  -- the dict of dicts
  refine seq_cut (fun env st' => ∃ M, Fin ev (farF ev rs p) fx L M st' ∧ env = [some (.cl (ns.map D.int)), some (.obj 1), some (netD ev rs), some (.int p), some T, some (.obj L), a, c, some (.obj M), none, none, none, none, none, none, none]) ?_ ?_
  · simp [netD, wipeL]
    refine (far_dict (env := [some (.cl (ns.map D.int)), some (.obj 1), some (netD ev rs), some (.int p), some T, some (.obj L), none, c, none, none, none, none, none, none, none, none]) NO hp (fun d => rfl) (fun d => rfl) (fun d => rfl)).mono fun acc st6 ⟨pr, e1, e2, e3, e4⟩ => ?_
    subst e1
    have hg : gDict [.obj st6.length] (st6 ++ [O.lst (pr.map (fun q => D.tup [.str q.1, .obj q.2]))]) = some (.obj (st6.length + 1), st6 ++ [O.lst (pr.map (fun q => D.tup [.str q.1, .obj q.2])), O.dct (mergeD [] (pr.map fun q => ((Sum.inr q.1 : Key), D.obj q.2)))]) := by
      simp [gDict, pairs_objs]
    rw [hg]
    simp
    have kp : Kp st6 (st6 ++ [O.lst (pr.map (fun q => D.tup [.str q.1, .obj q.2])), O.dct (mergeD [] (pr.map fun q => ((Sum.inr q.1 : Key), D.obj q.2)))]) := (Kp.refl _).app _
    refine ⟨kp _ _ (e4 _ _ hL5), _, app_at1'' _ _ _ rfl, fun e he => ?_⟩
    obtain ⟨k, k1, k2⟩ := (valD_pairs pr [] e).1 (by rw [e2]; exact he)
    obtain ⟨K, k3, k4⟩ := e3 _ k1
    exact ⟨k, K, k2, kp _ _ k3, k4⟩
  rintro _ st6 ⟨M, hF, rfl⟩
  generalize hFF : farF ev rs p = F at hF
  refine seq_cut (fun env st' => env = [some (.cl (ns.map D.int)), some (.obj 1), some (netD ev rs), some (.int p), some T, some (.obj L), a, c, some (.obj M), some .non, none, none, none, none, none, none] ∧ st' = st6) (by simp) ?_
  rintro _ _ ⟨rfl, rfl⟩
  -- who contradicts whom
  have isag : ∀ {f s : Str × Int} {d : D}, lawP F f s = some d → isN d = false := fun {f s d} h => by
    unfold lawP at h
    split at h
    · cases h
    · split at h
      · split at h
        · cases h; rfl
        · cases h
      · cases h
  have isone : ∀ {f : Str × Int} {i : Nat} {d : D}, fsT (lawP F f) fx i = some d → isN d = false := fun {f i d} h => by
    obtain ⟨s, _, hs⟩ := List.exists_of_findSome?_eq_some h
    exact isag hs
  have isall : ∀ {i : Nat} {d : D}, fsT (lawOne F fx) fx i = some d → isN d = false := fun {i d} h => by
    obtain ⟨f, _, hf⟩ := List.exists_of_findSome?_eq_some h
    obtain ⟨s, _, hs⟩ := List.exists_of_findSome?_eq_some hf
    exact isag hs
  rename_i st7
  refine seq_cut (fun env st' => ∃ b1 b2 b3 b4, env = [some (.cl (ns.map D.int)), some (.obj 1), some (netD ev rs), some (.int p), some T, some (.obj L), a, b1, some (.obj M), some ((lawAll F fx).getD .non), b2, b3, b4, none, none, none] ∧ st' = st7) ?_ ?_
  · simp [hF.fx]
    refine for_lst (xs := fx.map fxD) (fun i env st' => ∃ b1 b2 b3 b4, env = [some (.cl (ns.map D.int)), some (.obj 1), some (netD ev rs), some (.int p), some T, some (.obj L), a, b1, some (.obj M), some ((fsT (lawOne F fx) fx i).getD .non), b2, b3, b4, none, none, none] ∧ st' = st7) ?_ ?_ ?_ ?_ (by simp; omega)
    · exact ⟨c, none, none, none, rfl, rfl⟩
    · rintro i env st' ⟨b1, b2, b3, b4, _, rfl⟩
      exact hF.fx
    · rintro i x env st' hx ⟨b1, b2, b3, b4, rfl, e0⟩
      subst e0
      obtain ⟨f, hf, rfl⟩ := map_get hx
      have hfm : f ∈ fx := List.mem_of_getElem? hf
      refine ⟨_, rfl, ?_⟩
      simp [hF.fx]
      refine for_lst (xs := fx.map fxD) (fun j env st'' => ∃ b3 b4, env = [some (.cl (ns.map D.int)), some (.obj 1), some (netD ev rs), some (.int p), some T, some (.obj L), a, some (.int f.2), some (.obj M), some (((fsT (lawOne F fx) fx i).or (fsT (lawP F f) fx j)).getD .non), some (.str f.1), b3, b4, none, none, none] ∧ st'' = st') ?_ ?_ ?_ ?_ (by simp; omega)
      · exact ⟨b3, b4, by rw [fsT_zero, Option.or_none], rfl⟩
      · rintro j env st'' ⟨b3, b4, _, rfl⟩
        exact hF.fx
      · rintro j x env st'' hx ⟨b3, b4, rfl, e0⟩
        subst e0
        obtain ⟨s, hs, rfl⟩ := map_get hx
        have hsm : s ∈ fx := List.mem_of_getElem? hs
        refine ⟨_, rfl, ?_⟩
        have hstep := fsT_succ (f := lawP F f) hs
        cases hd : (fsT (lawOne F fx) fx i).or (fsT (lawP F f) fx j) with
        | some d =>
          have hnn : isN d = false := by
            cases h1 : fsT (lawOne F fx) fx i with
            | some d1 =>
              rw [h1] at hd
              cases hd
              exact isall h1
            | none =>
              rw [h1] at hd
              exact isone (by simpa using hd)
          simp [hnn]
          rw [hstep]
          cases h1 : fsT (lawOne F fx) fx i with
          | some d1 =>
            rw [h1] at hd
            cases hd
            rfl
          | none =>
            rw [h1] at hd
            have h2 : fsT (lawP F f) fx j = some d := by simpa using hd
            rw [h2]
            rfl
        | none =>
          obtain ⟨n1, n2⟩ : fsT (lawOne F fx) fx i = none ∧ fsT (lawP F f) fx j = none := by
            cases h1 : fsT (lawOne F fx) fx i with
            | some d1 => rw [h1] at hd; cases hd
            | none => rw [h1] at hd; exact ⟨rfl, by simpa using hd⟩
          rw [n2] at hstep
          obtain ⟨FD, hM, hex⟩ := hF.ex
          obtain ⟨k, K, v1, v2, BK⟩ := hex f.1 (hin _ hfm)
          have v3 := BK.v s.1 (hin _ hsm)
          by_cases hne : f.1 = s.1
          · have e3 : lawP F f s = none := by unfold lawP; rw [if_pos hne]
            rw [e3] at hstep
            simp [hne, hstep, n1]
          · cases hw : F f.1 s.1 with
            | none =>
              have e3 : lawP F f s = none := by unfold lawP; rw [if_neg hne, hw]
              rw [e3] at hstep
              rw [hw] at v3
              simp [hne, hstep, n1, hM, v1, v2, v3, optD]
            | some w =>
              rw [hw] at v3
              by_cases hlt : s.2 - f.2 < w
              · have e3 : lawP F f s = some (ag f s) := by unfold lawP; rw [if_neg hne, hw]; simp [hlt]
                rw [e3] at hstep
                simp [hne, hstep, n1, hM, v1, v2, v3, optD, hlt, ag]
              · have e3 : lawP F f s = none := by unfold lawP; rw [if_neg hne, hw]; simp [hlt]
                rw [e3] at hstep
                simp [hne, hstep, n1, hM, v1, v2, v3, optD, hlt]
      · rintro env st'' ⟨b3, b4, rfl, rfl⟩
        rw [fB_nx]
        have e9 : fsT (lawOne F fx) fx (i + 1) = (fsT (lawOne F fx) fx i).or (fsT (lawP F f) fx (List.map fxD fx).length) := by
          rw [List.length_map, fsT_all, fsT_succ hf]
          rfl
        rw [e9]
        exact ⟨⟨_, _, _, _, rfl⟩, rfl⟩
    · rintro env st' ⟨b1, b2, b3, b4, rfl, rfl⟩
      rw [List.length_map, fsT_all]
      exact ⟨rfl, ⟨_, _, _, _, rfl⟩, rfl⟩
  rintro _ _ ⟨b1, b2, b3, b4, rfl, rfl⟩
  have hdue := due_eq (fx := fx) NO hp hnd hin
  rw [hFF] at hdue
  have hpl := plain_due (F := F) N.sl (by omega) hin
  have fin : ∀ (env : Lv) (S : Stt), Fin ev F fx L M S → env[2]? = some (some (netD ev rs)) → env[3]? = some (some (.int p)) → env[5]? = some (some (.obj L)) → env[9]? = some (some (dueD ev F fx)) →
      sW (sRet (eCall 2 F__law_like (aCons (eCall 3 F_room (aCons (eVar 2) (aCons (eVar 3) (aCons (eCB gTuple (aCons (eVar 5) (aNil))) (aNil))))) (aCons (eVar 9) (aNil)))) env S) fun env fl st' => match fl with
        | .rt d => d = .bl true
        | .nx => D.non = .bl true
        | _ => False := fun env S hS h2 h3 h5 h9 => by
    simp [h2, h3, h5, h9, hS.fx]
    refine room_ok NO (by omega) ?_
    rw [hdue]
    exact like_ok 6 _ hpl _ _ rfl
  rename_i st7
  refine seq_cut (fun env st' => Fin ev F fx L M st' ∧ ∃ a1 b1 b2 b3 b4 b5 b6 b7, env = [some (.cl (ns.map D.int)), some (.obj 1), some (netD ev rs), some (.int p), some T, some (.obj L), a1, b1, some (.obj M), some (dueD ev F fx), b2, b3, b4, b5, b6, b7]) ?_ ?_
  · cases hA : lawAll F fx with
    | some d =>
      have hnn : isN d = false := isall (i := fx.length) (by rw [fsT_all]; exact hA)
      have hdd : dueD ev F fx = d := by unfold dueD; rw [hA]; rfl
      simp [hnn, hdd]
      exact hF
    | none =>
      have hdd : dueD ev F fx = .tup [.str "room", .tup (ev.map fun v => .tup [.str v, maxO (firsts F fx v), minO (lasts F fx v)])] := by unfold dueD; rw [hA]; rfl
      refine if_t (by simp) ?_
      refine seq_cut (fun env st' => st' = st7 ++ [.lst []] ∧ env = [some (.cl (ns.map D.int)), some (.obj 1), some (netD ev rs), some (.int p), some T, some (.obj L), a, b1, some (.obj M), some .non, b2, b3, b4, some (.obj st7.length), none, none]) (by simp) ?_
      rintro _ _ ⟨rfl, rfl⟩
      refine seq_cut (fun env st' => Kp st7 st' ∧ st'[st7.length]? = some (.lst (ev.map fun v => .tup [.str v, maxO (firsts F fx v), minO (lasts F fx v)])) ∧ ∃ a1 b1 b2 b3 b4 b6 b7, env = [some (.cl (ns.map D.int)), some (.obj 1), some (netD ev rs), some (.int p), some T, some (.obj L), a1, b1, some (.obj M), some .non, b2, b3, b4, some (.obj st7.length), b6, b7]) ?_ ?_
      · simp [netD]
        refine for_tup (xs := ev.map D.str) (fun i env st' => Kp st7 st' ∧ st'[st7.length]? = some (.lst ((ev.take i).map fun v => .tup [.str v, maxO (firsts F fx v), minO (lasts F fx v)])) ∧ ∃ a1 b1 b2 b3 b4 b6 b7, env = [some (.cl (ns.map D.int)), some (.obj 1), some (netD ev rs), some (.int p), some T, some (.obj L), a1, b1, some (.obj M), some .non, b2, b3, b4, some (.obj st7.length), b6, b7]) ?_ ?_ ?_ (by simp; omega)
        · exact ⟨(Kp.refl _).app _, app_at1 _, a, b1, b2, b3, b4, none, none, rfl⟩
        · rintro i x env st' hx ⟨kp, hR, a1, b1, b2, b3, b4, b6, b7, rfl⟩
          obtain ⟨v, hv, rfl⟩ := map_get hx
          have hvm : v ∈ ev := List.mem_of_getElem? hv
          have hil : i < ev.length := (List.getElem?_eq_some_iff.mp hv).1
          have hF1 := hF.kp kp
          refine ⟨_, rfl, ?_⟩
          refine seq_cut (fun env st2 => ∃ i1, Kp st' st2 ∧ st2[i1]? = some (.lst ((firsts F fx v).map D.int)) ∧ env = [some (.cl (ns.map D.int)), some (.obj 1), some (netD ev rs), some (.int p), some T, some (.obj L), some (.str v), b1, some (.obj M), some .non, b2, b3, b4, some (.obj st7.length), some (.obj i1), b7]) ?_ ?_
          · obtain ⟨FD, hM, hex⟩ := hF1.ex
            simp [hF1.fx, wipeL]
            rw [comp_pureL (xs := fx.map fxD) (fP F v) (fG F v) hF1.fx (fun x hx => ?_) (by simp; omega)]
            rotate_left
            · obtain ⟨q, hq, rfl⟩ := List.mem_map.mp hx
              obtain ⟨k, K, v1, v2, BK⟩ := hex q.1 (hin _ hq)
              have v3 := BK.v v hvm
              refine ⟨_, rfl, ?_⟩
              cases hw : F q.1 v with
              | none =>
                rw [hw] at v3
                simp [fxD, fP, fG, lP, lG, hM, v1, v2, v3, optD, hw]
              | some w =>
                rw [hw] at v3
                simp [fxD, fP, fG, lP, lG, hM, v1, v2, v3, optD, hw]
            rw [firsts_map]
            simp
            exact (Kp.refl _).app _
          rintro _ st2 ⟨i1, kp2, hi1, rfl⟩
          have hF2 := hF1.kp kp2
          refine seq_cut (fun env st3 => ∃ i2, Kp st2 st3 ∧ st3[i2]? = some (.lst ((lasts F fx v).map D.int)) ∧ env = [some (.cl (ns.map D.int)), some (.obj 1), some (netD ev rs), some (.int p), some T, some (.obj L), some (.str v), b1, some (.obj M), some .non, b2, b3, b4, some (.obj st7.length), some (.obj i1), some (.obj i2)]) ?_ ?_
          · obtain ⟨FD, hM, hex⟩ := hF2.ex
            simp [hF2.fx, wipeL]
            rw [comp_pureL (xs := fx.map fxD) (lP F v) (lG F v) hF2.fx (fun x hx => ?_) (by simp; omega)]
            rotate_left
            · obtain ⟨q, hq, rfl⟩ := List.mem_map.mp hx
              obtain ⟨k, K, v1, v2, BK⟩ := hex v hvm
              have v3 := BK.v q.1 (hin _ hq)
              refine ⟨_, rfl, ?_⟩
              cases hw : F v q.1 with
              | none =>
                rw [hw] at v3
                simp [fxD, fP, fG, lP, lG, hM, v1, v2, v3, optD, hw]
              | some w =>
                rw [hw] at v3
                simp [fxD, fP, fG, lP, lG, hM, v1, v2, v3, optD, hw]
            rw [lasts_map]
            simp
            exact (Kp.refl _).app _
          rintro _ st3 ⟨i2, kp3, hi2, rfl⟩
          have hi1' := kp3 _ _ hi1
          have hR3 := kp3 _ _ (kp2 _ _ hR)
          have kpA := (kp.trans kp2).trans kp3
          have hRl := (List.getElem?_eq_some_iff.mp hR3).1
          have q1 := eq_ints_nil (i := i1) (j := st3.length) (st := st3 ++ [.lst []]) (app_lt hi1') (app_at1 _)
          have q2 := eq_ints_nil (i := i2) (j := st3.length + 1) (st := st3 ++ [.lst [], .lst []]) (app_lt hi2) (app_at1'' _ _ _ rfl)
          have hR4 : (st3 ++ [O.lst [], O.lst []])[st7.length]? = _ := app_lt hR3
          have step : ∀ A B : D, A = maxO (firsts F fx v) → B = minO (lasts F fx v) → (ev.take i).length < 16777216 ∧ Kp st7 ((st3 ++ [O.lst [], O.lst []]).set st7.length (.lst ((ev.take i).map (fun v => .tup [.str v, maxO (firsts F fx v), minO (lasts F fx v)]) ++ [.tup [.str v, A, B]]))) ∧
              ((st3 ++ [O.lst [], O.lst []]).set st7.length (.lst ((ev.take i).map (fun v => .tup [.str v, maxO (firsts F fx v), minO (lasts F fx v)]) ++ [.tup [.str v, A, B]])))[st7.length]? = some (.lst ((ev.take (i + 1)).map fun v => .tup [.str v, maxO (firsts F fx v), minO (lasts F fx v)])) := by
            rintro A B rfl rfl
            refine ⟨by rw [List.length_take]; omega, (kpA.app _).set (Nat.le_refl _) _, ?_⟩
            rw [List.getElem?_set_self (by rw [List.length_append]; omega), take_succ_of hv, List.map_append]
            rfl
          have m1 : firsts F fx v ≠ [] → gMax [.obj i1] (st3 ++ [O.lst []]) = some (.int (maxI (firsts F fx v)), st3 ++ [O.lst []]) := fun h => g_max (app_lt hi1') h
          have m2 : lasts F fx v ≠ [] → gMin [.obj i2] (st3 ++ [O.lst [], O.lst []]) = some (.int (minI (lasts F fx v)), st3 ++ [O.lst [], O.lst []]) := fun h => g_min (app_lt hi2) h
          by_cases c1 : firsts F fx v = []
          · have e1 : maxO (firsts F fx v) = .non := by unfold maxO; rw [if_pos c1]
            by_cases c2 : lasts F fx v = []
            · have e2 : minO (lasts F fx v) = .non := by unfold minO; rw [if_pos c2]
              obtain ⟨s1, s2, s3⟩ := step .non .non e1.symm e2.symm
              simp [and_assoc, hR3, q1, q2, c1, c2, hR4, sizeLine_eq]
              simp only [List.map_take, List.length_take] at s1 s2 s3
              exact ⟨s1, s2, s3⟩
            · have e2 : minO (lasts F fx v) = .int (minI (lasts F fx v)) := by unfold minO; rw [if_neg c2]
              obtain ⟨s1, s2, s3⟩ := step .non (.int (minI (lasts F fx v))) e1.symm e2.symm
              simp [and_assoc, hR3, q1, q2, c1, c2, hR4, sizeLine_eq, m2 c2]
              simp only [List.map_take, List.length_take] at s1 s2 s3
              exact ⟨s1, s2, s3⟩
          · have e1 : maxO (firsts F fx v) = .int (maxI (firsts F fx v)) := by unfold maxO; rw [if_neg c1]
            by_cases c2 : lasts F fx v = []
            · have e2 : minO (lasts F fx v) = .non := by unfold minO; rw [if_pos c2]
              obtain ⟨s1, s2, s3⟩ := step (.int (maxI (firsts F fx v))) .non e1.symm e2.symm
              simp [and_assoc, hR3, q1, q2, c1, c2, hR4, sizeLine_eq, m1 c1]
              simp only [List.map_take, List.length_take] at s1 s2 s3
              exact ⟨s1, s2, s3⟩
            · have e2 : minO (lasts F fx v) = .int (minI (lasts F fx v)) := by unfold minO; rw [if_neg c2]
              obtain ⟨s1, s2, s3⟩ := step (.int (maxI (firsts F fx v))) (.int (minI (lasts F fx v))) e1.symm e2.symm
              simp [and_assoc, hR3, q1, q2, c1, c2, hR4, sizeLine_eq, m1 c1, m2 c2]
              simp only [List.map_take, List.length_take] at s1 s2 s3
              exact ⟨s1, s2, s3⟩
        · rintro env st' ⟨kp, hR, rest⟩
          rw [List.length_map, List.take_length] at hR
          obtain ⟨a1, b1, b2, b3, b4, b6, b7, rfl⟩ := rest
          exact ⟨rfl, kp, hR, a1, b1, b2, b3, b4, b6, b7, rfl⟩
      rintro _ st8 ⟨kp, hR, a1, b1, b2, b3, b4, b6, b7, rfl⟩
      simp [hR, hdd]
      exact hF.kp kp
  rintro _ st8 ⟨hF8, a1, b1, b2, b3, b4, b5, b6, b7, rfl⟩
  exact fin _ _ hF8 rfl rfl rfl rfl
end Ev02

open PySem PySem.W PyProof.Rows
set_option maxRecDepth 100000 in
set_option maxHeartbeats 0 in
theorem PySem.Challenge.cw_evenhour_k02_kept_room_holds : PySem.Challenge.rw_evenhour_k02_kept_room.Holds := by
  w_on; o_law; k_head; (case hw => w_witness2)
  k_fill
  refine Iv.law_end (l := PySem.Challenge.rw_evenhour_k02_kept_room) (k := 8) (cl := fun _ => 0) (F := Ev02.F_law) rfl rfl ⟨rfl, by decide, by decide⟩ (fun w h Y => PySem.W.kIn_of Y) ?F Ev02.math
  case F =>
    intro w mg fa h KX G hmg
    refine' Ev02.all_mk rfl KX G hmg ?a0 ?l0 ?c0 ?k0 ?a1 ?l1 ?c1 ?k1 ?a2 ?l2 ?c2 ?k2 ?a3 ?l3 ?c3 ?k3 ?a4 ?l4 ?c4 ?k4 ?a5 ?l5 ?c5 ?k5 ?a6 ?l6 ?c6 ?k6 ?a7 ?l7 ?c7 ?k7 ?a8 ?l8 ?c8 ?k8 ?a9 ?l9 ?c9 ?k9 ?a10 ?l10 ?c10 ?k10 ?a11 ?l11 ?c11 ?k11 ?a12 ?l12 ?c12 ?k12 ?a13 ?l13 ?c13 ?k13 ?a14 ?l14 ?c14 ?k14 ?a15 ?l15 ?c15 ?k15 ?z_any ?z_bool ?z_dict ?z_int ?z_isinstance ?z_len ?z_max ?z_min ?z_range ?z_str ?z_tuple
    (case a0 => k_is); (case l0 => k_is); (case c0 => k_is); (case k0 => k_is)
    (case a1 => k_is); (case l1 => k_is); (case c1 => k_is); (case k1 => k_is)
    (case a2 => k_is); (case l2 => k_is); (case c2 => k_is); (case k2 => k_is)
    (case a3 => k_is); (case l3 => k_is); (case c3 => k_is); (case k3 => k_is)
    (case a4 => k_is); (case l4 => k_is); (case c4 => k_is); (case k4 => k_is)
    (case a5 => k_is); (case l5 => k_is); (case c5 => k_is); (case k5 => k_is)
    (case a6 => k_is); (case l6 => k_is); (case c6 => k_is); (case k6 => k_is)
    (case a7 => k_is); (case l7 => k_is); (case c7 => k_is); (case k7 => k_is)
    (case a8 => k_is); (case l8 => k_is); (case c8 => k_is); (case k8 => k_is)
    (case a9 => k_is); (case l9 => k_is); (case c9 => k_is); (case k9 => k_is)
    (case a10 => k_is); (case l10 => k_is); (case c10 => k_is); (case k10 => k_is)
    (case a11 => k_is); (case l11 => k_is); (case c11 => k_is); (case k11 => k_is)
    (case a12 => k_is); (case l12 => k_is); (case c12 => k_is); (case k12 => k_is)
    (case a13 => k_is); (case l13 => k_is); (case c13 => k_is); (case k13 => k_is)
    (case a14 => k_is); (case l14 => k_is); (case c14 => k_is); (case k14 => k_is)
    (case a15 => k_is); (case l15 => k_is); (case c15 => k_is); (case k15 => k_is)
    (case z_any => k_is); (case z_bool => k_is); (case z_dict => k_is); (case z_int => k_is)
    (case z_isinstance => k_is); (case z_len => k_is); (case z_max => k_is); (case z_min => k_is)
    (case z_range => k_is); (case z_str => k_is); (case z_tuple => k_is)
#print axioms PySem.Challenge.cw_evenhour_k02_kept_room_holds

