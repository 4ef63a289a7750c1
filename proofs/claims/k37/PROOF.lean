import PyProof.Rows.All
import Wide.All
import OpenK.AllK
import Wide.FinOn
import PySem.Challenge.RW_saltvault_k37_tapes
import HandS.ForMost
import HandS.ForExc
import HandS.HeadHook1
import HandS.TupAny
import HandS.TupMul
import HandS.IsInst
import HandS.Dict
import HandS.Iter
import HandS.Defaults
import HandS.HeadEnd
import KE.KRevSl
import HandS.Style
import HandS.Conv
import HandS.List
import KE.KTupSum
import HandS.Small
import HandS.Zip
import KE.GoesEnumKw
import HandS.HeadHook2
import PyProof.ReprRoads
import KE.DataMinMax
import HandS.SortKw
import PyProof.Rows.ChunkLeaf
import HandS.SetKeys
import HandS.SortInts
import HandS.More
import KE.DataCmp
import KE.SortData
import HandS.DictComp
import HandS.HeadHook4
import HandS.New
import HandS.SetFor
import HandS.Strs
import PyProof.AutoSeq1
import KE.KDictZip
import HandS.SetBool
import KE.KDictList
import KE.GoesEnum
import KE.KDictSum
import HandS.Finally
import HandS.ListItems
import HandS.DeepEq
import KE.KEqDict
import HandS.Wide
import HandS.StrMore
import HandS.SortOrd
import HandS.DictTup
import HandS.Deep
import KE.KDictLaws
import HandS.Replace
import HandS.ExcOwn
import HandS.ExcIs
import HandS.HotCalls
import HandS.TryOnly
import HandS.SetTxt0
import HandS.NoneIn
import HandS.ExcValue
import HandS.MakeKwOnly
import HandS.ExcInit
import HandS.ExcField
import HandS.Head0
import HandS.Head1
import HandS.Head2
import HandS.HeadHook3
set_option Elab.async false
set_option linter.all false
set_option maxRecDepth 100000
set_option maxHeartbeats 4000000
namespace DL
open PySem PySem.Spec PyProof.Rows L2
/-- plain data, and names of things -/
inductive D where
  | non | bl (b : Bool) | int (i : Int) | str (x : Str)
  | tup (xs : List D) | lst (xs : List D) | dic (t : Bool) (kvs : List (D × D)) | ref (n : Nat) | raw (v : V) | scr (ns : List Int) | exn (c : Str) (p : D)
inductive Ob where
  | lst (xs : List D) | dic (t : Bool) (kvs : List (D × D)) | ins (c : Str) (fs : List (Str × D))
abbrev Sto := List (Option Ob)
inductive R (α : Type) where
  | ok (a : α) (S : Sto) | exc (c : Str) (p : D) (S : Sto) | bad
def R.bind {α β : Type} (r : R α) (g : α → Sto → R β) : R β := match r with
  | .ok a S => g a S
  | .exc c p S => .exc c p S
  | .bad => .bad
abbrev Ev := List (Option D)
abbrev Ex := Ev → Sto → R D
/-- a list that is read, not written by us -/
def SqF (K : PySem.W.Frag) (H : Hp) (Fb : Addr → Prop) (a : Addr) (xs : List V) : Prop :=
  (Rd H a (.lst xs) ∧ ¬ Fb a) ∨ ∃ (o : Obj) (its : Array Value) (n : Nat), K.lookup a = some o ∧ o.cls = .type "list" ∧ o.dict = none ∧ o.data = .seq its n ∧ its.size ≤ sizeLine ∧ Vals xs its.toList
theorem SqF.sq {K : PySem.W.Frag} {H : Hp} {Fb : Addr → Prop} {a : Addr} {xs : List V} (h : SqF K H Fb a xs) : SqL K H a xs := h.elim (fun h => .inl h.1) .inr
/-- locked for ever -/
def Lk (H : Hp) (a : Addr) (u : HO) : Prop := ∃ o, H a = some (.frz o u)
def Fixd : HO → Prop
  | .tup _ => True
  | .frz _ _ => True
  | _ => False
def keyD : Key → D
  | .inl i => .int i
  | .inr x => .str x
def keyT (ks : List Key) : D := .tup (ks.map keyD)
/-- an exception object at a, of the class cls, with its own dict d if it has one -/
def ExH (cls : Value) (d : Option Addr) (a : Addr) : HO := .ext fun h => ∃ (oe : Obj) (vs : Array Value), h.get? a = some oe ∧ Zc cls d oe ∧ oe.data = .fields vs
mutual
inductive Rep (K : PySem.W.Frag) (H : Hp) (Fb : Addr → Prop) (m : List Addr) : V → D → Prop
  | non : Rep K H Fb m .non .non
  | bl (b : Bool) : Rep K H Fb m (.bl b) (.bl b)
  | int (i : Int) : Rep K H Fb m (.int i) (.int i)
  | str (x : Str) : Rep K H Fb m (.str x) (.str x)
  | tup {a : Addr} {vs : List V} {ds : List D} : SqT K H a vs → vs.length ≤ sizeLine → RepA K H Fb m vs ds → Rep K H Fb m (.ref a) (.tup ds)
  | lst {a : Addr} {vs : List V} {ds : List D} : H a = some (.lst vs) → ¬ Fb a → vs.length ≤ sizeLine → RepA K H Fb m vs ds → Rep K H Fb m (.ref a) (.lst ds)
  | dK {a : Addr} {kv : List (Key × V)} {kvs : List (D × D)} : Lk H a (.dK kv) → kv.length ≤ sizeLine → kvs.map (·.1) = kv.map (fun p => keyD p.1) → RepA K H Fb m (kv.map (·.2)) (kvs.map (·.2)) → Rep K H Fb m (.ref a) (.dic false kvs)
  | dT {a : Addr} {kv : List (List Key × V)} {kvs : List (D × D)} : Lk H a (.dT kv) → kv.length ≤ sizeLine → kvs.map (·.1) = kv.map (fun p => keyT p.1) → RepA K H Fb m (kv.map (·.2)) (kvs.map (·.2)) → Rep K H Fb m (.ref a) (.dic true kvs)
  | ref {n : Nat} {a : Addr} : m[n]? = some a → Rep K H Fb m (.ref a) (.ref n)
  | raw (v : V) : Rep K H Fb m v (.raw v)
  | scr {a : Addr} {ns : List Int} : SqF K H Fb a (ns.map V.int) → ns.length ≤ sizeLine → Rep K H Fb m (.ref a) (.scr ns)
  | exn {a : Addr} {c : Str} : Rd H a (ExH (.ref (He.ga K c)) none a) → ¬ Fb a → Rep K H Fb m (.ref a) (.exn c .non)
  | exp {a dd : Addr} {c : Str} {v : V} {p : D} : Rd H a (ExH (.ref (He.ga K c)) (some dd) a) → ¬ Fb a → Rd H dd (.xd [("key", v)]) → ¬ Fb dd → p ≠ .non → Rep K H Fb m v p → Rep K H Fb m (.ref a) (.exn c p)
inductive RepA (K : PySem.W.Frag) (H : Hp) (Fb : Addr → Prop) (m : List Addr) : List V → List D → Prop
  | nil : RepA K H Fb m [] []
  | cons {v : V} {vs : List V} {d : D} {ds : List D} : Rep K H Fb m v d → RepA K H Fb m vs ds → RepA K H Fb m (v :: vs) (d :: ds)
end
/-- what a state keeps of another -/
structure Kp (H H' : Hp) (Fb Fb' : Addr → Prop) (m m' : List Addr) : Prop where
  lst : ∀ a xs, H a = some (.lst xs) → ¬ Fb a → H' a = some (.lst xs)
  obj : ∀ a u, Rd H a u → ¬ Fb a → Rd H' a u
  fix : ∀ a o, Fixd o → H a = some o → H' a = some o
  fb : ∀ a u, Rd H a u → ¬ Fb a → ¬ Fb' a
  ix : ∀ (n : Nat) a, m[n]? = some a → m'[n]? = some a
section
variable {K : PySem.W.Frag} {H H' : Hp} {Fb Fb' : Addr → Prop} {m m' : List Addr}
theorem Kp.tup (k : Kp H H' Fb Fb' m m') (a : Addr) (xs : List V) (h : Rd H a (.tup xs)) : Rd H' a (.tup xs) := h.elim (fun h => .inl (k.fix _ _ trivial h)) fun ⟨o, h⟩ => .inr ⟨o, k.fix _ _ trivial h⟩
theorem Kp.lk (k : Kp H H' Fb Fb' m m') {a : Addr} {u : HO} (h : Lk H a u) : Lk H' a u := h.imp fun _ h => k.fix _ _ trivial h
theorem Kp.sqT (k : Kp H H' Fb Fb' m m') {a : Addr} {xs : List V} (h : SqT K H a xs) : SqT K H' a xs := by
  rcases h with h | h
  · exact .inl (k.tup a xs h)
  · exact .inr h
mutual
theorem Rep.kp (k : Kp H H' Fb Fb' m m') : ∀ {v : V} {d : D}, Rep K H Fb m v d → Rep K H' Fb' m' v d
  | _, _, .non => .non
  | _, _, .bl b => .bl b
  | _, _, .int i => .int i
  | _, _, .str x => .str x
  | _, _, .tup h z r => .tup (k.sqT h) z (RepA.kp k r)
  | _, _, .lst h f z r => .lst (k.lst _ _ h f) (k.fb _ _ (.inl h) f) z (RepA.kp k r)
  | _, _, .dK h z e r => .dK (k.lk h) z e (RepA.kp k r)
  | _, _, .dT h z e r => .dT (k.lk h) z e (RepA.kp k r)
  | _, _, .ref h => .ref (k.ix _ _ h)
  | _, _, .raw v => .raw v
  | _, _, .scr h z => .scr (h.imp (fun h => ⟨k.obj _ _ h.1 h.2, k.fb _ _ h.1 h.2⟩) id) z
  | _, _, .exn h f => .exn (k.obj _ _ h f) (k.fb _ _ h f)
  | _, _, .exp h f h2 f2 n r => .exp (k.obj _ _ h f) (k.fb _ _ h f) (k.obj _ _ h2 f2) (k.fb _ _ h2 f2) n (Rep.kp k r)
theorem RepA.kp (k : Kp H H' Fb Fb' m m') : ∀ {vs : List V} {ds : List D}, RepA K H Fb m vs ds → RepA K H' Fb' m' vs ds
  | _, _, .nil => .nil
  | _, _, .cons h r => .cons (Rep.kp k h) (RepA.kp k r)
end
end
def Liv (m : List Addr) (S : Sto) (a : Addr) : Prop := ∃ (n : Nat) (o : Ob), m[n]? = some a ∧ S[n]? = some (some o)
def Fo (B : Addr → Prop) (m : List Addr) (S : Sto) (a : Addr) : Prop := B a ∨ Liv m S a
/-- what stands for a live object -/
inductive ObR (K : PySem.W.Frag) (mg : Str → Option Value) (H : Hp) (Fb : Addr → Prop) (m : List Addr) (a : Addr) : Ob → Prop
  | lst {vs : List V} {ds : List D} : H a = some (.lst vs) → vs.length ≤ sizeLine → RepA K H Fb m vs ds → ObR K mg H Fb m a (.lst ds)
  | dK {kv : List (Key × V)} {kvs : List (D × D)} : H a = some (.dK kv) → kv.length ≤ sizeLine → kvs.map (·.1) = kv.map (fun p => keyD p.1) → RepA K H Fb m (kv.map (·.2)) (kvs.map (·.2)) → ObR K mg H Fb m a (.dic false kvs)
  | dT {kv : List (List Key × V)} {kvs : List (D × D)} : H a = some (.dT kv) → kv.length ≤ sizeLine → kvs.map (·.1) = kv.map (fun p => keyT p.1) → RepA K H Fb m (kv.map (·.2)) (kvs.map (·.2)) → ObR K mg H Fb m a (.dic true kvs)
  | ins {c : Str} {C dx : Addr} {fv : List (Str × V)} {fs : List (Str × D)} : mg c = some (.ref C) → H a = some (.ins C dx fv) → fs.map (·.1) = fv.map (·.1) → RepA K H Fb m (fv.map (·.2)) (fs.map (·.2)) → ObR K mg H Fb m a (.ins c fs)
structure Rl (K : PySem.W.Frag) (mg : Str → Option Value) (B : Addr → Prop) (m : List Addr) (H : Hp) (S : Sto) : Prop where
  len : m.length = S.length
  nod : m.Nodup
  nb : ∀ a, Liv m S a → ¬ B a
  bt : ∀ a, B a → H a ≠ none
  mt : ∀ a, a ∈ m → H a ≠ none
  obj : ∀ (n : Nat) a o, m[n]? = some a → S[n]? = some (some o) → ObR K mg H (Fo B m S) m a o
structure Post (K : PySem.W.Frag) (mg : Str → Option Value) (B : Addr → Prop) (m : List Addr) (S : Sto) (H : Hp) (m' : List Addr) (S' : Sto) (H' : Hp) : Prop where
  ext : ∃ l, m' = m ++ l ∧ ∀ a, a ∈ l → H a = none
  keep : ∀ a o, H a = some o → ¬ Liv m S a → H' a = some o
  smm : ∀ a, H a ≠ none → H' a ≠ none
  rl : Rl K mg B m' H' S'
  liv : ∀ a, Liv m' S' a → Liv m S a ∨ H a = none
section
variable {K : PySem.W.Frag} {mg : Str → Option Value} {B : Addr → Prop} {m m' m1 m2 : List Addr} {S S' S1 S2 : Sto} {H H' H1 H2 : Hp}
theorem ObR.not_fix {Fb : Addr → Prop} {a : Addr} {o : Ob} (h : ObR K mg H Fb m a o) {u : HO} (f : Fixd u) (e : H a = some u) : False := by
  cases h with
  | lst h _ _ => rw [h] at e; cases e; exact f
  | dK h _ _ _ => rw [h] at e; cases e; exact f
  | dT h _ _ _ => rw [h] at e; cases e; exact f
  | ins _ h _ _ => rw [h] at e; cases e; exact f
theorem Post.refl (r : Rl K mg B m H S) : Post K mg B m S H m S H :=
  ⟨⟨[], by simp, fun a h => by simp at h⟩, fun _ _ h _ => h, fun _ h => h, r, fun _ h => .inl h⟩
theorem Post.trans (p : Post K mg B m S H m1 S1 H1) (q : Post K mg B m1 S1 H1 m2 S2 H2) : Post K mg B m S H m2 S2 H2 := by
  refine ⟨?_, fun a o h hl => ?_, fun a h => q.smm a (p.smm a h), q.rl, fun a h => ?_⟩
  · obtain ⟨l, e, f⟩ := p.ext
    obtain ⟨l', e', f'⟩ := q.ext
    refine ⟨l ++ l', by rw [e', e, List.append_assoc], fun a h => ?_⟩
    rcases List.mem_append.mp h with h | h
    · exact f a h
    · have z := f' a h
      cases q2 : H a with
      | none => rfl
      | some o => exact absurd z (p.smm a (by rw [q2]; simp))
  · refine q.keep a o (p.keep a o h hl) fun l1 => ?_
    rcases p.liv a l1 with z | z
    · exact hl z
    · rw [h] at z; cases z
  · rcases q.liv a h with z | z
    · exact p.liv a z
    · right
      cases q2 : H a with
      | none => rfl
      | some o => exact absurd z (p.smm a (by rw [q2]; simp))
theorem rd_some {a : Addr} {u : HO} (h : Rd H a u) : ∃ o, H a = some o := by
  rcases h with h | ⟨o, h⟩
  · exact ⟨_, h⟩
  · exact ⟨_, h⟩
theorem Post.kp (r : Rl K mg B m H S) (p : Post K mg B m S H m' S' H') : Kp H H' (Fo B m S) (Fo B m' S') m m' := by
  refine ⟨fun a xs h f => p.keep _ _ h fun z => f (.inr z), fun a u h f => ?_, fun a o f h => ?_, fun a u h f => ?_, fun n a h => ?_⟩
  · have nl : ¬ Liv m S a := fun z => f (.inr z)
    rcases h with h | ⟨o, h⟩
    · exact .inl (p.keep _ _ h nl)
    · exact .inr ⟨o, p.keep _ _ h nl⟩
  · exact p.keep _ _ h fun ⟨n, o, e1, e2⟩ => (r.obj n a o e1 e2).not_fix f h
  · rintro (z | z)
    · exact f (.inl z)
    · rcases p.liv a z with y | y
      · exact f (.inr y)
      · obtain ⟨o, e⟩ := rd_some h
        rw [y] at e; cases e
  · obtain ⟨l, e, _⟩ := p.ext
    rw [e, List.getElem?_append_left (List.getElem?_eq_some_iff.mp h).1]
    exact h
/-- the heap has grown -/
theorem Rl.grow (r : Rl K mg B m H S) (s : Same H H') : Rl K mg B m H' S := by
  have kp : Kp H H' (Fo B m S) (Fo B m S) m m := ⟨fun a xs h _ => s _ _ h, fun a u h _ => h.elim (fun h => .inl (s _ _ h)) fun ⟨o, h⟩ => .inr ⟨o, s _ _ h⟩, fun a o _ h => s _ _ h, fun _ _ _ f => f, fun _ _ h => h⟩
  have sm : ∀ a, H a ≠ none → H' a ≠ none := fun a h => by
    cases e : H a with
    | none => exact absurd e h
    | some o => rw [s _ _ e]; simp
  refine ⟨r.len, r.nod, r.nb, fun a h => sm a (r.bt a h), fun a h => sm a (r.mt a h), fun n a o e1 e2 => ?_⟩
  cases r.obj n a o e1 e2 with
  | lst h z q => exact .lst (s _ _ h) z (q.kp kp)
  | dK h z e q => exact .dK (s _ _ h) z e (q.kp kp)
  | dT h z e q => exact .dT (s _ _ h) z e (q.kp kp)
  | ins g h e q => exact .ins g (s _ _ h) e (q.kp kp)
theorem Post.grow (r : Rl K mg B m H S) (s : Same H H') : Post K mg B m S H m S H' :=
  ⟨⟨[], by simp, fun a h => by simp at h⟩, fun _ _ h _ => s _ _ h, fun a h => by
    cases e : H a with
    | none => exact absurd e h
    | some o => rw [s _ _ e]; simp, r.grow s, fun _ h => .inl h⟩
theorem same_upd {a : Addr} {o : HO} (h : H a = none) : Same H (upd H a o) := fun b u e => by
  rw [upd_ne (ne_of_none e h)]; exact e
end
/-- the slots -/
def RepE (K : PySem.W.Frag) (H : Hp) (Fb : Addr → Prop) (m : List Addr) (σ : L2.St) (ρ : Ev) : Prop :=
  σ.length = ρ.length ∧ ∀ (i : Nat) d, ρ[i]? = some (some d) → ∃ v, σ[i]? = some (some v) ∧ Rep K H Fb m v d
theorem RepE.kp {K : PySem.W.Frag} {H H' : Hp} {Fb Fb' : Addr → Prop} {m m' : List Addr} {σ : L2.St} {ρ : Ev} (k : Kp H H' Fb Fb' m m') (h : RepE K H Fb m σ ρ) : RepE K H' Fb' m' σ ρ :=
  ⟨h.1, fun i d e => let ⟨v, e1, r⟩ := h.2 i d e; ⟨v, e1, r.kp k⟩⟩
theorem RepE.set {K : PySem.W.Frag} {H : Hp} {Fb : Addr → Prop} {m : List Addr} {σ : L2.St} {ρ : Ev} {i : Nat} {v : V} {d : D} (h : RepE K H Fb m σ ρ) (r : Rep K H Fb m v d) : RepE K H Fb m (σ.set i (some v)) (ρ.set i (some d)) := by
  refine ⟨by simp [h.1], fun j e q => ?_⟩
  by_cases hj : j = i
  · subst hj
    have hl : j < ρ.length := by
      have := (List.getElem?_eq_some_iff.mp q).1
      simpa using this
    rw [List.getElem?_set_self hl] at q
    cases q
    exact ⟨v, List.getElem?_set_self (by rw [h.1]; exact hl), r⟩
  · rw [List.getElem?_set_ne (Ne.symm hj)] at q
    obtain ⟨w, e1, r1⟩ := h.2 j e q
    exact ⟨w, by rw [List.getElem?_set_ne (Ne.symm hj)]; exact e1, r1⟩
/-- an exception's class, its payload -/
def XcR (K : PySem.W.Frag) (mg : Str → Option Value) (H : Hp) (Fb : Addr → Prop) (m : List Addr) (c : Str) (p : D) (cls : Value) (dd : Option Addr) : Prop :=
  ∃ C, mg c = some (.ref C) ∧ cls = .ref C ∧ ((p = .non ∧ dd = none) ∨ (p ≠ .non ∧ ∃ a v, dd = some a ∧ H a = some (.xd [("key", v)]) ∧ Rep K H Fb m v p))
section
variable (K : PySem.W.Frag) (mg : Str → Option Value) (W : WX)
/-- what is left of a result, from (m, S, H) -/
def fin (B : Addr → Prop) (m : List Addr) (S : Sto) (σ : L2.St) (H : Hp) (r : R D) (Q : VK) : Prop := match r with
  | .ok d S' => ∀ m' H' v, Post K mg B m S H m' S' H' → Rep K H' (Fo B m' S') m' v d → Q v H'
  | .exc c p S' => ∀ m' H' cls dd, Post K mg B m S H m' S' H' → XcR K mg H' (Fo B m' S') m' c p cls dd → W cls dd σ H'
  | .bad => False
def up (f : Ex) : TE := fun σ H Q => ∃ B m ρ S, Rl K mg B m H S ∧ RepE K H (Fo B m S) m σ ρ ∧ fin K mg W B m S σ H (f ρ S) Q
end
section
variable {K : PySem.W.Frag} {mg : Str → Option Value} {W : WX} {B : Addr → Prop} {m m' m1 : List Addr} {S S' S1 : Sto} {H H' H1 : Hp} {σ : L2.St} {ρ : Ev}
/-- a later state -/
theorem fin.later (p : Post K mg B m S H m1 S1 H1) {r : R D} {Q : VK} (h : fin K mg W B m S σ H r Q) : fin K mg W B m1 S1 σ H1 r Q := by
  cases r with
  | ok d S' => exact fun m' H' v q => h m' H' v (p.trans q)
  | exc c p' S' => exact fun m' H' cls dd q => h m' H' cls dd (p.trans q)
  | bad => exact h
theorem fin.mono {r : R D} {Q Q' : VK} (h : fin K mg W B m S σ H r Q) (k : ∀ v H, Q v H → Q' v H) : fin K mg W B m S σ H r Q' := by
  cases r with
  | ok d S' => exact fun m' H' v p r => k _ _ (h m' H' v p r)
  | exc c p' S' => exact h
  | bad => exact h
/-- one step, then the rest -/
theorem fin.bind {r : R D} {g : D → Sto → R D} {Q : VK} (h : fin K mg W B m S σ H (r.bind g) Q) :
    fin K mg W B m S σ H r (fun v H1 => ∃ m1 S1 d, Post K mg B m S H m1 S1 H1 ∧ Rep K H1 (Fo B m1 S1) m1 v d ∧ fin K mg W B m1 S1 σ H1 (g d S1) Q) := by
  cases r with
  | ok d S' => exact fun m' H' v p r => ⟨m', S', d, p, r, fin.later p h⟩
  | exc c p' S' => exact h
  | bad => exact h
/-- a value at once -/
theorem fin.ok {d : D} {Q : VK} (r : Rl K mg B m H S) (h : fin K mg W B m S σ H (.ok d S) Q) {H' : Hp} {v : V} (s : Same H H') (q : Rep K H' (Fo B m S) m v d) : Q v H' := h m H' v (Post.grow r s) q
end
/-- an expression has a denotation -/
def EV (X : Cx) (W : WX) (e : Expr) (f : Ex) : Prop := PE X e (up X.K X.mg W f)
theorem pe_imp {X : Cx} {e : Expr} {t t' : TE} (h : PE X e t) (k : ∀ σ H Q, t' σ H Q → t σ H Q) : PE X e t' := ⟨fun pins s σ H Q I q => h.run pins s σ H Q I (k σ H Q q)⟩
def eVar (i : Nat) : Ex := fun ρ S => match ρ[i]? with
  | some (some d) => .ok d S
  | _ => .bad
def eC (d : D) : Ex := fun _ S => .ok d S
section
variable {X : Cx} {W : WX}
theorem ev_var {i : Nat} {x : Str} {pos : Pos} (hN : X.N[i]? = some x := by rfl) (hv : Vis X.env.scope x := by first | exact Or.inl rfl | exact Or.inr (Or.inl rfl) | exact Or.inr (Or.inr rfl)) (hd : (x == ("__debug__" : Str)) = false := by decide)
    (hcd : (x == ("__classdict__" : Str)) = false := by decide) : EV X W (.Name x pos) (eVar i) := by
  refine pe_imp (pe_var hN hv hd hcd) fun σ H Q h => ?_
  obtain ⟨B, m, ρ, S, r, re, f⟩ := h
  unfold eVar at f
  split at f
  · rename_i d e
    obtain ⟨v, e1, q⟩ := re.2 i d e
    exact ⟨v, e1, f.ok r (Same.refl H) q⟩
  · exact f.elim
theorem ev_int {i : Int} {j : Nat} {pos : Pos} : EV X W (.Constant (.int i) j pos) (eC (.int i)) := pe_imp pe_int fun σ H Q ⟨B, m, ρ, S, r, re, f⟩ => fin.ok r f (Same.refl H) (.int i)
theorem ev_bl {b : Bool} {j : Nat} {pos : Pos} : EV X W (.Constant (.bool b) j pos) (eC (.bl b)) := pe_imp pe_bl fun σ H Q ⟨B, m, ρ, S, r, re, f⟩ => fin.ok r f (Same.refl H) (.bl b)
theorem ev_non {j : Nat} {pos : Pos} : EV X W (.Constant .none j pos) (eC .non) := pe_imp pe_non fun σ H Q ⟨B, m, ρ, S, r, re, f⟩ => fin.ok r f (Same.refl H) .non
theorem ev_str {x : Str} {j : Nat} {pos : Pos} : EV X W (.Constant (.str x) j pos) (eC (.str x)) := pe_imp pe_str fun σ H Q ⟨B, m, ρ, S, r, re, f⟩ => fin.ok r f (Same.refl H) (.str x)
end
end DL
set_option Elab.async false
set_option linter.all false
set_option maxRecDepth 100000
set_option maxHeartbeats 4000000
namespace DL
open PySem PySem.Spec PyProof.Rows L2
/-- what a value reads as -/
def view (S : Sto) : D → D
  | .ref n => match S[n]? with
    | some (some (.lst xs)) => .lst xs
    | some (some (.dic t kvs)) => .dic t kvs
    | _ => .ref n
  | d => d
inductive Vw (K : PySem.W.Frag) (H : Hp) (Fb : Addr → Prop) (m : List Addr) : V → D → Prop
  | lst {a : Addr} {vs : List V} {ds : List D} : H a = some (.lst vs) → vs.length ≤ sizeLine → RepA K H Fb m vs ds → Vw K H Fb m (.ref a) (.lst ds)
  | dK {a : Addr} {kv : List (Key × V)} {kvs : List (D × D)} : Rd H a (.dK kv) → kv.length ≤ sizeLine → kvs.map (·.1) = kv.map (fun p => keyD p.1) → RepA K H Fb m (kv.map (·.2)) (kvs.map (·.2)) → Vw K H Fb m (.ref a) (.dic false kvs)
  | dT {a : Addr} {kv : List (List Key × V)} {kvs : List (D × D)} : Rd H a (.dT kv) → kv.length ≤ sizeLine → kvs.map (·.1) = kv.map (fun p => keyT p.1) → RepA K H Fb m (kv.map (·.2)) (kvs.map (·.2)) → Vw K H Fb m (.ref a) (.dic true kvs)
  | oth {v : V} {d : D} : Rep K H Fb m v d → Vw K H Fb m v d
section
variable {K : PySem.W.Frag} {mg : Str → Option Value} {B : Addr → Prop} {m : List Addr} {S : Sto} {H H' : Hp} {Fb : Addr → Prop} {v : V} {d : D}
theorem vw (r : Rl K mg B m H S) (h : Rep K H (Fo B m S) m v d) : Vw K H (Fo B m S) m v (view S d) := by
  cases d with
  | ref n =>
    simp only [view]
    cases h with
    | ref e1 =>
      cases e : S[n]? with
      | none => exact .oth (.ref e1)
      | some o =>
        cases o with
        | none => exact .oth (.ref e1)
        | some o =>
          have ob := r.obj n _ _ e1 e
          cases ob with
          | lst h z q => exact .lst h z q
          | dK h z q1 q => exact .dK (.inl h) z q1 q
          | dT h z q1 q => exact .dT (.inl h) z q1 q
          | ins _ _ _ _ => exact .oth (.ref e1)
  | _ => exact .oth h
theorem Vw.asL {xs : List D} (h : Vw K H Fb m v (.lst xs)) : ∃ a vs, v = .ref a ∧ H a = some (.lst vs) ∧ vs.length ≤ sizeLine ∧ RepA K H Fb m vs xs := by
  cases h with
  | lst h z q => exact ⟨_, _, rfl, h, z, q⟩
  | oth h => cases h with
    | lst h f z q => exact ⟨_, _, rfl, h, z, q⟩
theorem Vw.asT {xs : List D} (h : Vw K H Fb m v (.tup xs)) : ∃ a vs, v = .ref a ∧ SqT K H a vs ∧ vs.length ≤ sizeLine ∧ RepA K H Fb m vs xs := by
  cases h with
  | oth h => cases h with
    | tup h z q => exact ⟨_, _, rfl, h, z, q⟩
theorem Vw.asI {i : Int} (h : Vw K H Fb m v (.int i)) : v = .int i := by
  cases h with
  | oth h => cases h; rfl
theorem Vw.asS {x : Str} (h : Vw K H Fb m v (.str x)) : v = .str x := by
  cases h with
  | oth h => cases h; rfl
theorem RepA.length {vs : List V} {ds : List D} (h : RepA K H Fb m vs ds) : vs.length = ds.length := by
  induction vs generalizing ds with
  | nil => cases h; rfl
  | cons v vs ih => cases h with
    | cons h t => simp [ih t]
theorem RepA.append {vs ws : List V} {ds es : List D} (h : RepA K H Fb m vs ds) (h' : RepA K H Fb m ws es) : RepA K H Fb m (vs ++ ws) (ds ++ es) := by
  induction vs generalizing ds with
  | nil => cases h; exact h'
  | cons v vs ih => cases h with
    | cons h t => exact .cons h (ih t)
theorem RepA.get {vs : List V} {ds : List D} (h : RepA K H Fb m vs ds) {i : Nat} {d : D} (e : ds[i]? = some d) : ∃ v, vs[i]? = some v ∧ Rep K H Fb m v d := by
  induction vs generalizing ds i with
  | nil => cases h; simp at e
  | cons v vs ih => cases h with
    | cons h t =>
      cases i with
      | zero => simp at e; subst e; exact ⟨v, rfl, h⟩
      | succ i => obtain ⟨w, e1, r⟩ := ih t (by simpa using e); exact ⟨w, by simpa using e1, r⟩
theorem RepA.drop {vs : List V} {ds : List D} (h : RepA K H Fb m vs ds) (n : Nat) : RepA K H Fb m (vs.drop n) (ds.drop n) := by
  induction n generalizing vs ds with
  | zero => simpa using h
  | succ n ih => cases h with
    | nil => simpa using RepA.nil
    | cons h t => simpa using ih t
theorem RepA.take {vs : List V} {ds : List D} (h : RepA K H Fb m vs ds) (n : Nat) : RepA K H Fb m (vs.take n) (ds.take n) := by
  induction n generalizing vs ds with
  | zero => simpa using RepA.nil
  | succ n ih => cases h with
    | nil => simpa using RepA.nil
    | cons h t => simpa using RepA.cons h (ih t)
theorem RepA.set {vs : List V} {ds : List D} (h : RepA K H Fb m vs ds) (n : Nat) {v : V} {d : D} (r : Rep K H Fb m v d) : RepA K H Fb m (vs.set n v) (ds.set n d) := by
  induction n generalizing vs ds with
  | zero => cases h with
    | nil => exact .nil
    | cons h t => exact .cons r t
  | succ n ih => cases h with
    | nil => exact .nil
    | cons h t => exact .cons h (ih t)
theorem RepA.reverse {vs : List V} {ds : List D} (h : RepA K H Fb m vs ds) : RepA K H Fb m vs.reverse ds.reverse := by
  induction vs generalizing ds with
  | nil => cases h; exact .nil
  | cons v vs ih => cases h with
    | cons h t => simpa using (ih t).append (.cons h .nil)
theorem RepA.rep {vs : List V} {ds : List D} (h : RepA K H Fb m vs ds) (n : Nat) : RepA K H Fb m (List.replicate n vs).flatten (List.replicate n ds).flatten := by
  induction n with
  | zero => exact .nil
  | succ n ih => simpa [List.replicate_succ] using h.append ih
theorem kp_same (s : Same H H') : Kp H H' Fb Fb m m := ⟨fun a xs h _ => s _ _ h, fun a u h _ => h.elim (fun h => .inl (s _ _ h)) fun ⟨o, h⟩ => .inr ⟨o, s _ _ h⟩, fun a o _ h => s _ _ h, fun _ _ _ f => f, fun _ _ h => h⟩
theorem fr_of (r : Rl K mg B m H S) : ∀ p, H p = none → ¬ Fo B m S p := fun p e z => by
  rcases z with z | ⟨n, o, e1, _⟩
  · exact r.bt p z e
  · exact r.mt p (List.mem_of_getElem? e1) e
end
section
variable {K : PySem.W.Frag} {mg : Str → Option Value} {W : WX} {σ : L2.St} {H : Hp} {Q : VK}
theorem up_one {fa : Ex} {g : D → Ev → Sto → R D} (h : up K mg W (fun ρ S => (fa ρ S).bind fun x S => g x ρ S) σ H Q) :
    up K mg W fa σ H fun x H1 => ∃ B m ρ S dx, Rl K mg B m H1 S ∧ RepE K H1 (Fo B m S) m σ ρ ∧ Rep K H1 (Fo B m S) m x dx ∧ fin K mg W B m S σ H1 (g dx ρ S) Q := by
  obtain ⟨B, m, ρ, S, r, re, f⟩ := h
  refine ⟨B, m, ρ, S, r, re, fin.mono (fin.bind f) fun v H1 => ?_⟩
  rintro ⟨m1, S1, d, p, q, f1⟩
  exact ⟨B, m1, ρ, S1, d, p.rl, re.kp (p.kp r), q, f1⟩
theorem up_two {fa fb : Ex} {g : D → D → Ev → Sto → R D} (h : up K mg W (fun ρ S => (fa ρ S).bind fun x S => (fb ρ S).bind fun y S => g x y ρ S) σ H Q) :
    up K mg W fa σ H fun x H1 => up K mg W fb σ H1 fun y H2 => ∃ B m ρ S dx dy, Rl K mg B m H2 S ∧ RepE K H2 (Fo B m S) m σ ρ ∧ Rep K H2 (Fo B m S) m x dx ∧ Rep K H2 (Fo B m S) m y dy ∧ fin K mg W B m S σ H2 (g dx dy ρ S) Q := by
  obtain ⟨B, m, ρ, S, r, re, f⟩ := h
  refine ⟨B, m, ρ, S, r, re, fin.mono (fin.bind f) fun v H1 => ?_⟩
  rintro ⟨m1, S1, d, p, q, f1⟩
  refine ⟨B, m1, ρ, S1, p.rl, re.kp (p.kp r), fin.mono (fin.bind f1) fun v2 H2 => ?_⟩
  rintro ⟨m2, S2, d2, p2, q2, f2⟩
  exact ⟨B, m2, ρ, S2, d, d2, p2.rl, (re.kp (p.kp r)).kp (p2.kp p.rl), q.kp (p2.kp p.rl), q2, f2⟩
end
/-- an answer without a change -/
def ans (S : Sto) : Option D → R D
  | some d => .ok d S
  | none => .bad
def eOp2 (g : D → D → Option D) (a b : Ex) : Ex := fun ρ S => (a ρ S).bind fun x S => (b ρ S).bind fun y S => ans S (g (view S x) (view S y))
def eOp1 (g : D → Option D) (a : Ex) : Ex := fun ρ S => (a ρ S).bind fun x S => ans S (g (view S x))
/-- what is asked of a rule by values: from readable arguments -/
def rG2 (K : PySem.W.Frag) (g : D → D → Option D) : R2 := fun x y H Q => ∃ Fb m dx dy d, (∀ p, H p = none → ¬ Fb p) ∧ Vw K H Fb m x dx ∧ Vw K H Fb m y dy ∧ g dx dy = some d ∧ ∀ H' z, Same H H' → Rep K H' Fb m z d → Q z H'
def rG1 (K : PySem.W.Frag) (g : D → Option D) : V → Hp → VK → Prop := fun x H Q => ∃ Fb m dx d, (∀ p, H p = none → ¬ Fb p) ∧ Vw K H Fb m x dx ∧ g dx = some d ∧ ∀ H' z, Same H H' → Rep K H' Fb m z d → Q z H'
section
variable {X : Cx} {W : WX} {a b : Expr} {fa fb : Ex} {pos : Pos}
theorem two_of {K : PySem.W.Frag} {mg : Str → Option Value} {W : WX} {σ : L2.St} {H : Hp} {Q : VK} {g : D → D → Option D} (h : up K mg W (eOp2 g fa fb) σ H Q) : tOp (rG2 K g) (up K mg W fa) (up K mg W fb) σ H Q := by
  obtain ⟨B, m, ρ, S, r, re, f⟩ := up_two (g := fun x y ρ S => ans S (g (view S x) (view S y))) h
  refine ⟨B, m, ρ, S, r, re, f.mono fun x H1 => ?_⟩
  rintro ⟨B, m, ρ, S, r, re, f⟩
  refine ⟨B, m, ρ, S, r, re, f.mono fun y H2 => ?_⟩
  rintro ⟨B, m, ρ, S, dx, dy, r, re, rx, ry, f⟩
  cases e : g (view S dx) (view S dy) with
  | none => rw [e] at f; exact f.elim
  | some d =>
    rw [e] at f
    exact ⟨_, m, _, _, d, fr_of r, vw r rx, vw r ry, e, fun H' z s q => f.ok r s q⟩
theorem one_of {K : PySem.W.Frag} {mg : Str → Option Value} {W : WX} {σ : L2.St} {H : Hp} {Q : VK} {g : D → Option D} (h : up K mg W (eOp1 g fa) σ H Q) : up K mg W fa σ H fun x H1 => rG1 K g x H1 Q := by
  obtain ⟨B, m, ρ, S, r, re, f⟩ := up_one (g := fun x ρ S => ans S (g (view S x))) h
  refine ⟨B, m, ρ, S, r, re, f.mono fun x H1 => ?_⟩
  rintro ⟨B, m, ρ, S, dx, r, re, rx, f⟩
  cases e : g (view S dx) with
  | none => rw [e] at f; exact f.elim
  | some d =>
    rw [e] at f
    exact ⟨_, m, _, d, fr_of r, vw r rx, e, fun H' z s q => f.ok r s q⟩
theorem ev_op {op : Operator} {g : D → D → Option D} (ho : OpR X (binaryOp op) (rG2 X.K g)) (ha : EV X W a fa) (hb : EV X W b fb) : EV X W (.BinOp a op b pos) (eOp2 g fa fb) := pe_imp (pe_op ho ha hb) fun σ H Q h => two_of h
theorem ev_cmp {op : CmpOp} {g : D → D → Option D} (ho : OpR X (compareOp op) (rG2 X.K g)) (ha : EV X W a fa) (hb : EV X W b fb) (hm : behindInMarks op b = false) : EV X W (.Compare a [op] [b] pos) (eOp2 g fa fb) := pe_imp (pe_cmpR ho ha hb hm) fun σ H Q h => two_of h
theorem ev_un {op : UnaryOp} {g : D → Option D} (ho : UnR X (unaryOp op) (rG1 X.K g)) (ha : EV X W a fa) : EV X W (.UnaryOp op a pos) (eOp1 g fa) := pe_imp (pe_un ho ha) fun σ H Q h => one_of h
end
def addD : D → D → Option D
  | .int i, .int j => some (.int (i + j))
  | .str x, .str y => if x.length + y.length ≤ sizeLine then some (.str (x ++ y)) else none
  | .tup xs, .tup ys => if xs.length + ys.length ≤ sizeLine then some (.tup (xs ++ ys)) else none
  | .lst xs, .lst ys => if xs.length + ys.length ≤ sizeLine then some (.lst (xs ++ ys)) else none
  | _, _ => none
def subD : D → D → Option D
  | .int i, .int j => some (.int (i - j))
  | _, _ => none
def mulD : D → D → Option D
  | .int i, .int j => if (-(2 ^ 64) < i ∧ i < 2 ^ 64) ∨ (-(2 ^ 64) < j ∧ j < 2 ^ 64) then some (.int (i * j)) else none
  | .tup xs, .int k => if k ≤ 1000000 ∧ -1000000 ≤ k ∧ xs.length * k.toNat ≤ sizeLine then some (.tup (List.replicate k.toNat xs).flatten) else none
  | .lst xs, .int k => if k ≤ 1000000 ∧ -1000000 ≤ k ∧ xs.length * k.toNat ≤ sizeLine then some (.lst (List.replicate k.toNat xs).flatten) else none
  | _, _ => none
def modD : D → D → Option D
  | .int i, .int j => if 0 < j then some (.int (i % j)) else none
  | _, _ => none
def divD : D → D → Option D
  | .int i, .int j => if 0 < j ∧ j < 1073741824 then some (.int (i / j)) else none
  | _, _ => none
def powD : D → D → Option D
  | .int i, .int j => if 0 ≤ j ∧ j ≤ 1000000 ∧ i.natAbs < 2 ^ 64 then some (.int (i ^ j.toNat)) else none
  | _, _ => none
section
variable {X : Cx}
/-- two ints: by the layer's own rule -/
theorem og_int {f : Value → Value → Sem Value} {g : D → D → Option D} {r : R2} (h : OpR X f r)
    (hg : ∀ dx dy d, g dx dy = some d → ∃ i j z, dx = .int i ∧ dy = .int j ∧ d = z ∧ ∀ (H : Hp) (Q : VK), (∀ v, (∀ (H : Hp) Fb m, Rep X.K H Fb m v d) → Q v H) → r (.int i) (.int j) H Q) : OpR X f (rG2 X.K g) := by
  intro pins s σ H x y v u Q I rx ry ⟨Fb, m, dx, dy, d, fr, vx, vy, e, k⟩
  obtain ⟨i, j, z, rfl, rfl, rfl, q⟩ := hg dx dy d e
  cases vx.asI
  cases vy.asI
  exact h pins s σ H _ _ v u Q I rx ry (q H Q fun v hv => k H v (Same.refl H) (hv _ _ _))
theorem og_sub : OpR X (binaryOp .Sub) (rG2 X.K subD) := og_int op_sub fun dx dy d e => by
  unfold subD at e
  split at e
  · rename_i i j
    cases e
    exact ⟨i, j, _, rfl, rfl, rfl, fun H Q k => ⟨i, j, rfl, rfl, k _ fun _ _ _ => .int _⟩⟩
  · cases e
theorem og_mod : OpR X (binaryOp .Mod) (rG2 X.K modD) := og_int op_mod fun dx dy d e => by
  unfold modD at e
  split at e
  · rename_i i j
    split at e
    · rename_i hj
      cases e
      exact ⟨i, j, _, rfl, rfl, rfl, fun H Q k => ⟨i, j, rfl, rfl, hj, k _ fun _ _ _ => .int _⟩⟩
    · cases e
  · cases e
theorem og_div : OpR X (binaryOp .FloorDiv) (rG2 X.K divD) := og_int op_fdiv fun dx dy d e => by
  unfold divD at e
  split at e
  · rename_i i j
    split at e
    · rename_i hj
      cases e
      exact ⟨i, j, _, rfl, rfl, rfl, fun H Q k => ⟨i, j, rfl, rfl, hj, k _ fun _ _ _ => .int _⟩⟩
    · cases e
  · cases e
theorem og_pow : OpR X (binaryOp .Pow) (rG2 X.K powD) := og_int op_pow fun dx dy d e => by
  unfold powD at e
  split at e
  · rename_i i j
    split at e
    · rename_i hj
      cases e
      exact ⟨i, j, _, rfl, rfl, rfl, fun H Q k => ⟨i, j, rfl, rfl, hj, k _ fun _ _ _ => .int _⟩⟩
    · cases e
  · cases e
theorem og_add : OpR X (binaryOp .Add) (rG2 X.K addD) := by
  intro pins s σ H x y v u Q I rx ry ⟨Fb, m, dx, dy, d, fr, vx, vy, e, k⟩
  unfold addD at e
  split at e
  · rename_i i j
    cases e
    cases vx.asI; cases vy.asI
    exact op_add pins s σ H _ _ v u Q I rx ry ⟨i, j, rfl, rfl, k H _ (Same.refl H) (.int _)⟩
  · rename_i i j
    split at e
    · rename_i hl
      cases e
      cases vx.asS; cases vy.asS
      exact op_add_str pins s σ H _ _ v u Q I rx ry ⟨i, j, rfl, rfl, hl, k H _ (Same.refl H) (.str _)⟩
    · cases e
  · rename_i xs ys
    split at e
    · rename_i hl
      cases e
      obtain ⟨a, vs, rfl, h1, z1, q1⟩ := vx.asT
      obtain ⟨b, ws, rfl, h2, z2, q2⟩ := vy.asT
      refine op_catA pins s σ H _ _ v u Q I rx ry ⟨a, b, vs, ws, rfl, rfl, h1, h2, by rw [q1.length, q2.length]; exact hl, ?_, ?_, ?_⟩
      · rintro rfl
        cases q1
        exact k H _ (Same.refl H) (.tup h2 z2 q2)
      · intro _ e2
        subst e2
        cases q2
        exact k H _ (Same.refl H) (by simpa using Rep.tup h1 z1 q1)
      · intro _ _ p hp
        exact k _ _ (same_upd hp) (.tup (.of upd_same) (by rw [List.length_append, q1.length, q2.length]; exact hl) ((q1.append q2).kp (kp_same (same_upd hp))))
    · cases e
  · rename_i xs ys
    split at e
    · rename_i hl
      cases e
      obtain ⟨a, vs, rfl, h1, z1, q1⟩ := vx.asL
      obtain ⟨b, ws, rfl, h2, z2, q2⟩ := vy.asL
      refine op_cat pins s σ H _ _ v u Q I rx ry ⟨a, b, vs, ws, rfl, rfl, h1, h2, by rw [q1.length, q2.length]; exact hl, fun p hp => ?_⟩
      exact k _ _ (same_upd hp) (.lst upd_same (fr p hp) (by rw [List.length_append, q1.length, q2.length]; exact hl) ((q1.append q2).kp (kp_same (same_upd hp))))
    · cases e
  · cases e
end
end DL
set_option Elab.async false
set_option linter.all false
set_option maxRecDepth 100000
set_option maxHeartbeats 4000000
namespace DL
open PySem PySem.Spec PyProof.Rows L2
theorem tuple_mul_same (l : Addr) (items : Array Value) (n : Nat) (dd : Option Addr) (sl : Array (Option Value)) (x : Int) (u : Tok) (c0 : (decide (x < -(2 ^ 63)) || decide (x ≥ 2 ^ 63)) = false) (c1 : (items.isEmpty || x == 1) = true) :
    Meets (Builtin.«tuple.__mul__» ⟨[.ref l, .int x u], []⟩) (fun _ R s => s.heap.get? l = some { cls := .type "tuple", dict := dd, data := .seq items n, slots := sl } ∧
      R (.ok (.ret (Value.ref l))) s) :=
  .of_wp fun prog w A R s h => by
    obtain ⟨hp, g, d, tk, os⟩ := s
    obtain ⟨hl, h⟩ := h
    have f1 := AutoSeq1.idx_int
    wp_walk using wpAny_loadPart' hl
    repeat (first
      | (refine wpAny_ite_false (decide_eq_false (by rw [c0]; exact Bool.false_ne_true)) ?_; wp_walk using wpAny_loadPart' hl)
      | (refine wpAny_ite_true (decide_eq_true c1) ?_; wp_walk using wpAny_loadPart' hl))
    first
      | exact ⟨_, rfl, h⟩
      | exact h
theorem tuple_mul_none (l : Addr) (items : Array Value) (n : Nat) (dd : Option Addr) (sl : Array (Option Value)) (x : Int) (u : Tok) (c0 : (decide (x < -(2 ^ 63)) || decide (x ≥ 2 ^ 63)) = false) (c1 : (items.isEmpty || x == 1) = false) (c2 : (decide (x ≤ 0) || items.isEmpty) = true) :
    Meets (Builtin.«tuple.__mul__» ⟨[.ref l, .int x u], []⟩) (fun _ R s => s.heap.get? l = some { cls := .type "tuple", dict := dd, data := .seq items n, slots := sl } ∧
      R (.ok (.ret (Value.ref s.heap.objs.size))) { s with heap := s.heap.push { cls := Value.type "tuple", data := Data.seq #[] }, toks := s.toks }) :=
  .of_wp fun prog w A R s h => by
    obtain ⟨hp, g, d, tk, os⟩ := s
    obtain ⟨hl, h⟩ := h
    have f1 := AutoSeq1.idx_int
    wp_walk using wpAny_loadPart' hl
    repeat (first
      | (refine wpAny_ite_false (decide_eq_false (by rw [c0]; exact Bool.false_ne_true)) ?_; wp_walk using wpAny_loadPart' hl)
      | (refine wpAny_ite_false (decide_eq_false (by rw [c1]; exact Bool.false_ne_true)) ?_; wp_walk using wpAny_loadPart' hl)
      | (refine wpAny_ite_true (decide_eq_true c2) ?_; wp_walk using wpAny_loadPart' hl))
    first
      | exact ⟨_, rfl, h⟩
      | exact h
section
variable {X : Cx}
def rRepA (K : PySem.W.Frag) : R2 := fun x y H Q => ∃ l k xs, x = .ref l ∧ y = .int k ∧ SqT K H l xs ∧ k ≤ 1000000 ∧ -1000000 ≤ k ∧ xs.length * k.toNat ≤ sizeLine ∧
  (xs = [] ∨ k = 1 → Q (.ref l) H) ∧ (∀ p, H p = none → Q (.ref p) (upd H p (.tup (List.replicate k.toNat xs).flatten)))
theorem op_repA : OpR X (binaryOp .Mult) (rRepA X.K) := by
  intro pins s σ H x y v u Q I rx ry h
  obtain ⟨l, k, xs, rfl, rfl, hT, h1, h2, hz, q1, q⟩ := h
  cases rx
  obtain ⟨t, rfl⟩ := ry
  obtain ⟨its, r, ⟨⟨cls, dd, data, sl⟩, ho, hc, n, hd⟩, hs⟩ := I.tuple hT
  simp only at hc hd
  subst hc hd
  have hle : its.length = xs.length := r.length.symm
  have hsz0 : its.toArray.size = xs.length := by rw [List.size_toArray, hle]
  have c0 : (decide (k < -(2 ^ 63)) || decide (k ≥ 2 ^ 63)) = false := by
    rw [decide_eq_false (by omega), decide_eq_false (by omega)] <;> rfl
  by_cases c1 : (its.toArray.isEmpty || k == 1) = true
  · refine wpAny_binaryOp_repeat_ref (T := "tuple") (U := "int") (by decide) ⟨_, ho, rfl⟩ (fun s' => typeIs_int s' k t) noFill_tuple_mul F.fills_int_mul F.slot_int_rmul repeat_tuple F.slot_int_index.lookup
      (call_meets F.slot_int_rmul (typeIs_int s k t) F.entry_int_rmul (F.args_int_rmul_2 _ _) (int_rmul_tuple k t l its.toArray n dd sl)
        ⟨ho, rfl, ⟨_, ho, rfl⟩, call_meets F.slot_tuple_mul ⟨_, ho, rfl⟩ F.entry_tuple_mul (F.args_tuple_mul_2 _ _) (tuple_mul_same l its.toArray n dd sl k t c0 c1) ⟨ho, ?_⟩⟩)
    refine ⟨.ref l, H, I, rfl, q1 ?_⟩
    rcases Bool.or_eq_true_iff.mp c1 with z | z
    · left
      have : its = [] := by cases its with
        | nil => rfl
        | cons a b => simp at z
      rw [this] at hle
      exact List.eq_nil_of_length_eq_zero hle.symm
    · right
      exact beq_iff_eq.mp z
  · have c1' : (its.toArray.isEmpty || k == 1) = false := by simpa using c1
    by_cases c2 : (decide (k ≤ 0) || its.toArray.isEmpty) = true
    · refine wpAny_binaryOp_repeat_ref (T := "tuple") (U := "int") (by decide) ⟨_, ho, rfl⟩ (fun s' => typeIs_int s' k t) noFill_tuple_mul F.fills_int_mul F.slot_int_rmul repeat_tuple F.slot_int_index.lookup
        (call_meets F.slot_int_rmul (typeIs_int s k t) F.entry_int_rmul (F.args_int_rmul_2 _ _) (int_rmul_tuple k t l its.toArray n dd sl)
          ⟨ho, rfl, ⟨_, ho, rfl⟩, call_meets F.slot_tuple_mul ⟨_, ho, rfl⟩ F.entry_tuple_mul (F.args_tuple_mul_2 _ _) (tuple_mul_none l its.toArray n dd sl k t c0 c1' c2) ⟨ho, ?_⟩⟩)
      have hk : k ≤ 0 := by
        rcases Bool.or_eq_true_iff.mp c2 with z | z
        · exact of_decide_eq_true z
        · rw [z] at c1'; simp at c1'
      have e0 : k.toNat = 0 := by omega
      have q' := q s.heap.objs.size (I.hok.fresh (Nat.le_refl _))
      rw [e0] at q'
      refine ⟨.ref s.heap.objs.size, _, I.laid (t' := s.toks) (o := .tup []) (fun b ob q => Heap.get?_push_of_some _ q) (Nat.le_refl _) ?_, rfl, q'⟩
      exact ⟨by simp, _, .nil, IsTup.new _ _⟩
    · have c2' : (decide (k ≤ 0) || its.toArray.isEmpty) = false := by simpa using c2
      have hk : 0 < k := by
        have := (Bool.or_eq_false_iff.mp c2').1
        simpa using this
      have hm : ((its.toArray.size : Nat) : Int) * k ≤ sizeLine := by
        rw [hsz0]
        have e : k = ((k.toNat : Nat) : Int) := by omega
        rw [e, ← Int.natCast_mul]
        exact Int.ofNat_le.mpr hz
      rw [sizeLine_eq] at hm
      have flen : (List.replicate k.toNat its).flatten.length ≤ sizeLine := by
        rw [PyProof.Rows.lm_len_rep_flat, hle, Nat.mul_comm]
        exact hz
      have c4 : Builtin.Tuple.tupleTooMany (((its.toArray.size : Nat) : Int) * k) = false := by
        unfold Builtin.Tuple.tupleTooMany
        rw [sizeLine_eq]
        exact decide_eq_false (by omega)
      refine wpAny_binaryOp_repeat_ref (T := "tuple") (U := "int") (by decide) ⟨_, ho, rfl⟩ (fun s' => typeIs_int s' k t) noFill_tuple_mul F.fills_int_mul F.slot_int_rmul repeat_tuple F.slot_int_index.lookup
        (call_meets F.slot_int_rmul (typeIs_int s k t) F.entry_int_rmul (F.args_int_rmul_2 _ _) (int_rmul_tuple k t l its.toArray n dd sl)
          ⟨ho, rfl, ⟨_, ho, rfl⟩, call_meets F.slot_tuple_mul ⟨_, ho, rfl⟩ F.entry_tuple_mul (F.args_tuple_mul_2 _ _) (tuple_mulW l its.toArray n dd sl k t c0 c1' c2' (by omega) c4 (by rw [size_rep, List.size_toArray]; exact flen)) ⟨ho, ?_⟩⟩)
      rw [size_rep]
      refine ⟨.ref s.heap.objs.size, _, I.laid (t' := s.toks) (o := .tup (List.replicate k.toNat xs).flatten) (fun b ob q => Heap.get?_push_of_some _ q) (Nat.le_refl _) ?_, rfl, q _ (I.hok.fresh (Nat.le_refl _))⟩
      exact ⟨by rw [PyProof.Rows.lm_len_rep_flat, Nat.mul_comm]; exact hz, _, r.rep k.toNat, IsTup.new _ _⟩
theorem flat_rep_one {α : Type} (xs : List α) : (List.replicate 1 xs).flatten = xs := by simp
theorem og_mul : OpR X (binaryOp .Mult) (rG2 X.K mulD) := by
  intro pins s σ H x y v u Q I rx ry ⟨Fb, m, dx, dy, d, fr, vx, vy, e, k⟩
  unfold mulD at e
  split at e
  · rename_i i j
    split at e
    · rename_i hc
      cases e
      cases vx.asI; cases vy.asI
      exact op_mul pins s σ H _ _ v u Q I rx ry ⟨i, j, rfl, rfl, hc, k H _ (Same.refl H) (.int _)⟩
    · cases e
  · rename_i xs n
    split at e
    · rename_i hl
      cases e
      obtain ⟨a, vs, rfl, h1, z1, q1⟩ := vx.asT
      cases vy.asI
      refine op_repA pins s σ H _ _ v u Q I rx ry ⟨a, n, vs, rfl, rfl, h1, hl.1, hl.2.1, by rw [q1.length]; exact hl.2.2, ?_, fun p hp => ?_⟩
      · intro z
        refine k H _ (Same.refl H) ?_
        rcases z with z | z
        · subst z
          cases q1
          have e0 : (List.replicate n.toNat ([] : List D)).flatten = [] := by simp
          rw [e0]
          exact .tup h1 z1 .nil
        · subst z
          rw [show (1 : Int).toNat = 1 from rfl, flat_rep_one]
          exact .tup h1 z1 q1
      · exact k _ _ (same_upd hp) (.tup (.of upd_same) (by rw [PyProof.Rows.lm_len_rep_flat, Nat.mul_comm, q1.length]; exact hl.2.2) ((q1.rep _).kp (kp_same (same_upd hp))))
    · cases e
  · rename_i xs n
    split at e
    · rename_i hl
      cases e
      obtain ⟨a, vs, rfl, h1, z1, q1⟩ := vx.asL
      cases vy.asI
      refine op_rep pins s σ H _ _ v u Q I rx ry ⟨a, n, vs, rfl, rfl, h1, by omega, by omega, by rw [q1.length]; exact hl.2.2, fun p hp => ?_⟩
      exact k _ _ (same_upd hp) (.lst upd_same (fr p hp) (by rw [PyProof.Rows.lm_len_rep_flat, Nat.mul_comm, q1.length]; exact hl.2.2) ((q1.rep _).kp (kp_same (same_upd hp))))
    · cases e
  · cases e
end
end DL
set_option Elab.async false
set_option linter.all false
set_option maxRecDepth 100000
set_option maxHeartbeats 4000000
namespace DL
open PySem PySem.Spec PyProof.Rows L2
def evL : List Ex → Ev → Sto → R (List D)
  | [], _, S => .ok [] S
  | f :: fs, ρ, S => (f ρ S).bind fun d S => (evL fs ρ S).bind fun ds S => .ok (d :: ds) S
section
variable (K : PySem.W.Frag) (mg : Str → Option Value) (W : WX)
def finA (B : Addr → Prop) (m : List Addr) (S : Sto) (σ : L2.St) (H : Hp) (r : R (List D)) (Q : List V → Hp → Prop) : Prop := match r with
  | .ok ds S' => ∀ m' H' vs, Post K mg B m S H m' S' H' → RepA K H' (Fo B m' S') m' vs ds → Q vs H'
  | .exc c p S' => ∀ m' H' cls dd, Post K mg B m S H m' S' H' → XcR K mg H' (Fo B m' S') m' c p cls dd → W cls dd σ H'
  | .bad => False
def upA (f : Ev → Sto → R (List D)) : TA := fun σ H Q => ∃ B m ρ S, Rl K mg B m H S ∧ RepE K H (Fo B m S) m σ ρ ∧ finA K mg W B m S σ H (f ρ S) Q
end
section
variable {K : PySem.W.Frag} {mg : Str → Option Value} {W : WX} {B : Addr → Prop} {m m' m1 : List Addr} {S S' S1 : Sto} {H H' H1 : Hp} {σ : L2.St} {ρ : Ev}
theorem finA.later (p : Post K mg B m S H m1 S1 H1) {r : R (List D)} {Q : List V → Hp → Prop} (h : finA K mg W B m S σ H r Q) : finA K mg W B m1 S1 σ H1 r Q := by
  cases r with
  | ok d S' => exact fun m' H' v q => h m' H' v (p.trans q)
  | exc c p' S' => exact fun m' H' cls dd q => h m' H' cls dd (p.trans q)
  | bad => exact h
theorem finA.mono {r : R (List D)} {Q Q' : List V → Hp → Prop} (h : finA K mg W B m S σ H r Q) (k : ∀ v H, Q v H → Q' v H) : finA K mg W B m S σ H r Q' := by
  cases r with
  | ok d S' => exact fun m' H' v p r => k _ _ (h m' H' v p r)
  | exc c p' S' => exact h
  | bad => exact h
theorem fin.bindA {r : R D} {g : D → Sto → R (List D)} {Q : List V → Hp → Prop} (h : finA K mg W B m S σ H (r.bind g) Q) :
    fin K mg W B m S σ H r (fun v H1 => ∃ m1 S1 d, Post K mg B m S H m1 S1 H1 ∧ Rep K H1 (Fo B m1 S1) m1 v d ∧ finA K mg W B m1 S1 σ H1 (g d S1) Q) := by
  cases r with
  | ok d S' => exact fun m' H' v p r => ⟨m', S', d, p, r, finA.later p h⟩
  | exc c p' S' => exact h
  | bad => exact h
theorem finA.bindA {r : R (List D)} {g : List D → Sto → R (List D)} {Q : List V → Hp → Prop} (h : finA K mg W B m S σ H (r.bind g) Q) :
    finA K mg W B m S σ H r (fun v H1 => ∃ m1 S1 d, Post K mg B m S H m1 S1 H1 ∧ RepA K H1 (Fo B m1 S1) m1 v d ∧ finA K mg W B m1 S1 σ H1 (g d S1) Q) := by
  cases r with
  | ok d S' => exact fun m' H' v p r => ⟨m', S', d, p, r, finA.later p h⟩
  | exc c p' S' => exact h
  | bad => exact h
theorem finA.bind {r : R (List D)} {g : List D → Sto → R D} {Q : VK} (h : fin K mg W B m S σ H (r.bind g) Q) :
    finA K mg W B m S σ H r (fun v H1 => ∃ m1 S1 d, Post K mg B m S H m1 S1 H1 ∧ RepA K H1 (Fo B m1 S1) m1 v d ∧ fin K mg W B m1 S1 σ H1 (g d S1) Q) := by
  cases r with
  | ok d S' => exact fun m' H' v p r => ⟨m', S', d, p, r, fin.later p h⟩
  | exc c p' S' => exact h
  | bad => exact h
theorem upA_nil {Q : List V → Hp → Prop} (h : upA K mg W (evL []) σ H Q) : tNil σ H Q := by
  obtain ⟨B, m, ρ, S, r, re, f⟩ := h
  exact f m H [] (Post.refl r) .nil
theorem upA_cons {fa : Ex} {fs : List Ex} {Q : List V → Hp → Prop} (h : upA K mg W (evL (fa :: fs)) σ H Q) : tCons (up K mg W fa) (upA K mg W (evL fs)) σ H Q := by
  obtain ⟨B, m, ρ, S, r, re, f⟩ := h
  refine ⟨B, m, ρ, S, r, re, fin.mono (fin.bindA f) fun v H1 => ?_⟩
  rintro ⟨m1, S1, d, p, q, f1⟩
  refine ⟨B, m1, ρ, S1, p.rl, re.kp (p.kp r), finA.mono (finA.bindA f1) fun vs H2 => ?_⟩
  rintro ⟨m2, S2, ds, p2, q2, f2⟩
  exact f2 m2 H2 (v :: vs) (Post.refl p2.rl) (.cons (q.kp (p2.kp p.rl)) q2)
theorem upA_one {f : Ev → Sto → R (List D)} {g : List D → Ev → Sto → R D} {Q : VK} (h : up K mg W (fun ρ S => (f ρ S).bind fun x S => g x ρ S) σ H Q) :
    upA K mg W f σ H fun xs H1 => ∃ B m ρ S ds, Rl K mg B m H1 S ∧ RepE K H1 (Fo B m S) m σ ρ ∧ RepA K H1 (Fo B m S) m xs ds ∧ fin K mg W B m S σ H1 (g ds ρ S) Q := by
  obtain ⟨B, m, ρ, S, r, re, f⟩ := h
  refine ⟨B, m, ρ, S, r, re, finA.mono (finA.bind f) fun v H1 => ?_⟩
  rintro ⟨m1, S1, d, p, q, f1⟩
  exact ⟨B, m1, ρ, S1, d, p.rl, re.kp (p.kp r), q, f1⟩
end
def EVA (X : Cx) (W : WX) (es : List Expr) (fs : List Ex) : Prop := PA X es (upA X.K X.mg W (evL fs))
theorem pa_imp {X : Cx} {es : List Expr} {t t' : TA} (h : PA X es t) (k : ∀ σ H Q, t' σ H Q → t σ H Q) : PA X es t' := ⟨fun pos pins s σ H Q I q => h.run pos pins s σ H Q I (k σ H Q q)⟩
section
variable {X : Cx} {W : WX} {e : Expr} {es : List Expr} {fa : Ex} {fs : List Ex} {pos : Pos}
theorem ea_nil : EVA X W [] [] := pa_imp pa_nil fun σ H Q h => upA_nil h
theorem ea_cons (ha : EV X W e fa) (hr : EVA X W es fs) (hs : starEach (e :: es) X.env = (false, eval e X.env) :: starEach es X.env := by rfl) : EVA X W (e :: es) (fa :: fs) := pa_imp (pa_cons ha hr hs) fun σ H Q h => upA_cons h
end
def eTup (fs : List Ex) : Ex := fun ρ S => (evL fs ρ S).bind fun ds S => if ds.length ≤ sizeLine then .ok (.tup ds) S else .bad
def eLst (fs : List Ex) : Ex := fun ρ S => (evL fs ρ S).bind fun ds S => if ds.length ≤ sizeLine then .ok (.lst ds) S else .bad
/-- a list that will be written: a new object -/
def eLstM (fs : List Ex) : Ex := fun ρ S => (evL fs ρ S).bind fun ds S => if ds.length ≤ sizeLine then .ok (.ref S.length) (S ++ [some (.lst ds)]) else .bad
section
variable {K : PySem.W.Frag} {mg : Str → Option Value} {B : Addr → Prop} {m : List Addr} {S : Sto} {H : Hp}
theorem liv_app {m : List Addr} {S : Sto} {p : Addr} {x : Option Ob} (hl : m.length = S.length) {a : Addr} (h : Liv (m ++ [p]) (S ++ [x]) a) : Liv m S a ∨ (a = p ∧ ∃ o, x = some o) := by
  obtain ⟨n, o, e1, e2⟩ := h
  by_cases hn : n < m.length
  · rw [List.getElem?_append_left hn] at e1
    rw [List.getElem?_append_left (by omega)] at e2
    exact .inl ⟨n, o, e1, e2⟩
  · rw [List.getElem?_append_right (by omega)] at e1
    rw [List.getElem?_append_right (by omega)] at e2
    have hz : n - m.length = 0 := by
      have := (List.getElem?_eq_some_iff.mp e1).1
      simp at this
      omega
    rw [hz] at e1
    rw [show n - S.length = 0 by omega] at e2
    simp at e1 e2
    exact .inr ⟨e1.symm, o, e2⟩
/-- a new object of ours -/
theorem kp_new (r : Rl K mg B m H S) {p : Addr} (hp : H p = none) {ho : HO} {o : Ob} : Kp H (upd H p ho) (Fo B m S) (Fo B (m ++ [p]) (S ++ [some o])) m (m ++ [p]) := by
  have s := same_upd (o := ho) hp
  refine ⟨fun a xs h _ => s _ _ h, fun a u h _ => h.elim (fun h => .inl (s _ _ h)) fun ⟨o, h⟩ => .inr ⟨o, s _ _ h⟩, fun a o _ h => s _ _ h, fun a u h f z => ?_, fun n a h => ?_⟩
  · rcases z with z | z
    · exact f (.inl z)
    · rcases liv_app r.len z with z | ⟨z, _⟩
      · exact f (.inr z)
      · obtain ⟨o, e⟩ := rd_some h
        rw [z, hp] at e; cases e
  · rw [List.getElem?_append_left (List.getElem?_eq_some_iff.mp h).1]; exact h
theorem Post.new (r : Rl K mg B m H S) {p : Addr} (hp : H p = none) {ho : HO} {o : Ob} (no : ObR K mg (upd H p ho) (Fo B (m ++ [p]) (S ++ [some o])) (m ++ [p]) p o) : Post K mg B m S H (m ++ [p]) (S ++ [some o]) (upd H p ho) := by
  have s := same_upd (o := ho) hp
  have sm : ∀ a, H a ≠ none → upd H p ho a ≠ none := fun a h => by
    cases e : H a with
    | none => exact absurd e h
    | some o => rw [s _ _ e]; simp
  have kp := kp_new (ho := ho) (o := o) r hp
  refine ⟨⟨[p], rfl, fun a h => by simp at h; rw [h]; exact hp⟩, fun a u h _ => s _ _ h, sm, ⟨by simp [r.len], ?_, fun a h => ?_, fun a h => sm a (r.bt a h), fun a h => ?_, fun n a u e1 e2 => ?_⟩, fun a h => ?_⟩
  · refine List.nodup_append.mpr ⟨r.nod, by simp, fun a h1 b h2 e => ?_⟩
    simp at h2
    subst h2
    subst e
    exact r.mt _ h1 hp
  · intro z
    rcases liv_app r.len h with h | ⟨h, _⟩
    · exact r.nb a h z
    · exact r.bt a z (h ▸ hp)
  · rcases List.mem_append.mp h with h | h
    · exact sm a (r.mt a h)
    · simp at h
      subst h
      rw [upd_same]; simp
  · by_cases hn : n < m.length
    · rw [List.getElem?_append_left hn] at e1
      rw [List.getElem?_append_left (by rw [← r.len]; exact hn)] at e2
      cases r.obj n a u e1 e2 with
      | lst h z q => exact .lst (s _ _ h) z (q.kp kp)
      | dK h z e q => exact .dK (s _ _ h) z e (q.kp kp)
      | dT h z e q => exact .dT (s _ _ h) z e (q.kp kp)
      | ins g h e q => exact .ins g (s _ _ h) e (q.kp kp)
    · rw [List.getElem?_append_right (by omega)] at e1
      have hl := r.len
      rw [List.getElem?_append_right (by omega)] at e2
      have hz : n - m.length = 0 := by
        have := (List.getElem?_eq_some_iff.mp e1).1
        simp at this
        omega
      rw [hz] at e1
      rw [show n - S.length = 0 by omega] at e2
      simp at e1 e2
      subst e1 e2
      exact no
  · rcases liv_app r.len h with h | ⟨h, _⟩
    · exact .inl h
    · right; rw [h]; exact hp
theorem rep_new (r : Rl K mg B m H S) {p : Addr} {H' : Hp} {Fb : Addr → Prop} : Rep K H' Fb (m ++ [p]) (.ref p) (.ref S.length) := .ref (by rw [List.getElem?_append_right (by rw [r.len]; exact Nat.le_refl _), r.len]; simp)
end
section
variable {X : Cx} {W : WX} {es : List Expr} {fs : List Ex} {pos : Pos}
theorem ev_tup {k : Nat} (h : EVA X W es fs) : EV X W (.Tuple es k pos) (eTup fs) := by
  refine pe_imp (pe_tup h) fun σ H Q h => ?_
  obtain ⟨B, m, ρ, S, r, re, f⟩ := upA_one (g := fun ds ρ S => if ds.length ≤ sizeLine then .ok (.tup ds) S else .bad) h
  refine ⟨B, m, ρ, S, r, re, finA.mono f fun vs H1 => ?_⟩
  rintro ⟨B, m, ρ, S, ds, r, re, q, f⟩
  split at f
  · rename_i hl
    refine ⟨by rw [q.length]; exact hl, fun p hp => f.ok r (same_upd hp) (.tup (.of upd_same) (by rw [q.length]; exact hl) (q.kp (kp_same (same_upd hp))))⟩
  · exact f.elim
theorem ev_lst (h : EVA X W es fs) : EV X W (.List es pos) (eLst fs) := by
  refine pe_imp (pe_lst h) fun σ H Q h => ?_
  obtain ⟨B, m, ρ, S, r, re, f⟩ := upA_one (g := fun ds ρ S => if ds.length ≤ sizeLine then .ok (.lst ds) S else .bad) h
  refine ⟨B, m, ρ, S, r, re, finA.mono f fun vs H1 => ?_⟩
  rintro ⟨B, m, ρ, S, ds, r, re, q, f⟩
  split at f
  · rename_i hl
    refine ⟨by rw [q.length]; exact hl, fun p hp => f.ok r (same_upd hp) (.lst upd_same (fr_of r p hp) (by rw [q.length]; exact hl) (q.kp (kp_same (same_upd hp))))⟩
  · exact f.elim
theorem ev_lstM (h : EVA X W es fs) : EV X W (.List es pos) (eLstM fs) := by
  refine pe_imp (pe_lst h) fun σ H Q h => ?_
  obtain ⟨B, m, ρ, S, r, re, f⟩ := upA_one (g := fun ds ρ S => if ds.length ≤ sizeLine then .ok (.ref S.length) (S ++ [some (.lst ds)]) else .bad) h
  refine ⟨B, m, ρ, S, r, re, finA.mono f fun vs H1 => ?_⟩
  rintro ⟨B, m, ρ, S, ds, r, re, q, f⟩
  split at f
  · rename_i hl
    refine ⟨by rw [q.length]; exact hl, fun p hp => f (m ++ [p]) _ _ (Post.new r hp (.lst upd_same (by rw [q.length]; exact hl) (q.kp (kp_new r hp)))) (rep_new r)⟩
  · exact f.elim
end
inductive VwA (K : PySem.W.Frag) (H : Hp) (Fb : Addr → Prop) (m : List Addr) : List V → List D → Prop
  | nil : VwA K H Fb m [] []
  | cons {v : V} {vs : List V} {d : D} {ds : List D} : Vw K H Fb m v d → VwA K H Fb m vs ds → VwA K H Fb m (v :: vs) (d :: ds)
theorem vwA {K : PySem.W.Frag} {mg : Str → Option Value} {B : Addr → Prop} {m : List Addr} {S : Sto} {H : Hp} (r : Rl K mg B m H S) : ∀ {vs : List V} {ds : List D}, RepA K H (Fo B m S) m vs ds → VwA K H (Fo B m S) m vs (ds.map (view S))
  | _, _, .nil => .nil
  | _, _, .cons h t => .cons (vw r h) (vwA r t)
def eCall (g : List D → Option D) (fs : List Ex) : Ex := fun ρ S => (evL fs ρ S).bind fun ds S => ans S (g (ds.map (view S)))
def rGn (K : PySem.W.Frag) (g : List D → Option D) : List V → Hp → VK → Prop := fun xs H Q => ∃ Fb m ds d, (∀ p, H p = none → ¬ Fb p) ∧ VwA K H Fb m xs ds ∧ g ds = some d ∧ ∀ H' z, Same H H' → Rep K H' Fb m z d → Q z H'
theorem n_of {K : PySem.W.Frag} {mg : Str → Option Value} {W : WX} {σ : L2.St} {H : Hp} {Q : VK} {g : List D → Option D} {fs : List Ex} (h : up K mg W (eCall g fs) σ H Q) : upA K mg W (evL fs) σ H fun xs H1 => rGn K g xs H1 Q := by
  obtain ⟨B, m, ρ, S, r, re, f⟩ := upA_one (g := fun ds ρ S => ans S (g (ds.map (view S)))) h
  refine ⟨B, m, ρ, S, r, re, finA.mono f fun vs H1 => ?_⟩
  rintro ⟨B, m, ρ, S, ds, r, re, q, f⟩
  cases e : g (ds.map (view S)) with
  | none => rw [e] at f; exact f.elim
  | some d =>
    rw [e] at f
    exact ⟨_, m, _, d, fr_of r, vwA r q, e, fun H' z s q => f.ok r s q⟩
section
variable {X : Cx} {W : WX} {e : Expr} {es : List Expr} {fs : List Ex} {pos p : Pos} {x : Str}
theorem ev_callB {id : String} {g : List D → Option D} (hc : CallR X (.builtin id) (rGn X.K g)) (hg : Gl X x) (hm : X.mg x = none) (hv : bootBuiltins x = some (.builtin id)) (ha : EVA X W (e :: es) fs) (hn : x ≠ "__name__" := by decide) (hdb : (x == ("__debug__" : Str)) = false := by decide)
    (he : starEach (e :: es) X.env = (false, eval e X.env) :: starEach es X.env := by rfl) (hpl : (backTo pos (starEach es X.env)).any (·.1) = false := by rfl) : EV X W (.Call (.Name x p) (e :: es) [] pos) (eCall g fs) :=
  pe_imp (pe_callB hc hg hm hv ha hn hdb he hpl) fun σ H Q h => n_of h
theorem ev_callTy {T : String} {g : List D → Option D} (hc : CallR X (.type T) (rGn X.K g)) (hg : Gl X x) (hm : X.mg x = none) (hv : bootBuiltins x = some (.type T)) (ha : EVA X W (e :: es) fs) (hn : x ≠ "__name__" := by decide) (hdb : (x == ("__debug__" : Str)) = false := by decide)
    (he : starEach (e :: es) X.env = (false, eval e X.env) :: starEach es X.env := by rfl) (hpl : (backTo pos (starEach es X.env)).any (·.1) = false := by rfl) : EV X W (.Call (.Name x p) (e :: es) [] pos) (eCall g fs) :=
  pe_imp (pe_callTy hc hg hm hv ha hn hdb he hpl) fun σ H Q h => n_of h
end
end DL
set_option Elab.async false
set_option linter.all false
set_option maxRecDepth 100000
set_option maxHeartbeats 4000000
namespace DL
open PySem PySem.Spec PyProof.Rows L2
inductive Fl where
  | nx (ρ : Ev) | rt (d : D) | bk (ρ : Ev) | ct (ρ : Ev)
inductive RS where
  | fl (f : Fl) (S : Sto) | exc (c : Str) (p : D) (ρ : Ev) (S : Sto) | bad
abbrev Sx := Ev → Sto → RS
/-- an expression's answer, then a statement -/
def R.bindS {α : Type} (r : R α) (ρ : Ev) (g : α → Sto → RS) : RS := match r with
  | .ok a S => g a S
  | .exc c p S => .exc c p ρ S
  | .bad => .bad
section
variable (K : PySem.W.Frag) (mg : Str → Option Value) (W : WX)
def finS (B : Addr → Prop) (m : List Addr) (S : Sto) (H : Hp) (r : RS) (E : Ends) : Prop := match r with
  | .fl (.nx ρ') S' => ∀ m' H' σ', Post K mg B m S H m' S' H' → RepE K H' (Fo B m' S') m' σ' ρ' → E.nx σ' H'
  | .fl (.bk ρ') S' => ∀ m' H' σ', Post K mg B m S H m' S' H' → RepE K H' (Fo B m' S') m' σ' ρ' → E.bk σ' H'
  | .fl (.ct ρ') S' => ∀ m' H' σ', Post K mg B m S H m' S' H' → RepE K H' (Fo B m' S') m' σ' ρ' → E.ct σ' H'
  | .fl (.rt d) S' => ∀ m' H' v, Post K mg B m S H m' S' H' → Rep K H' (Fo B m' S') m' v d → E.rt v H'
  | .exc c p ρ' S' => ∀ m' H' σ' cls dd, Post K mg B m S H m' S' H' → RepE K H' (Fo B m' S') m' σ' ρ' → XcR K mg H' (Fo B m' S') m' c p cls dd → W cls dd σ' H'
  | .bad => False
def upS (f : Sx) : TS := fun E σ H => ∃ B m ρ S, Rl K mg B m H S ∧ RepE K H (Fo B m S) m σ ρ ∧ finS K mg W B m S H (f ρ S) E
end
section
variable {K : PySem.W.Frag} {mg : Str → Option Value} {W : WX} {B : Addr → Prop} {m m' m1 : List Addr} {S S' S1 : Sto} {H H' H1 : Hp} {σ : L2.St} {ρ : Ev} {E : Ends}
theorem finS.later (p : Post K mg B m S H m1 S1 H1) {r : RS} (h : finS K mg W B m S H r E) : finS K mg W B m1 S1 H1 r E := by
  cases r with
  | fl f S' => cases f with
    | nx ρ => exact fun m' H' σ' q => h m' H' σ' (p.trans q)
    | bk ρ => exact fun m' H' σ' q => h m' H' σ' (p.trans q)
    | ct ρ => exact fun m' H' σ' q => h m' H' σ' (p.trans q)
    | rt d => exact fun m' H' v q => h m' H' v (p.trans q)
  | exc c p' ρ S' => exact fun m' H' σ' cls dd q => h m' H' σ' cls dd (p.trans q)
  | bad => exact h
theorem fin.bindS {r : R D} {g : D → Sto → RS} (re : RepE K H (Fo B m S) m σ ρ) (rl : Rl K mg B m H S) (h : finS K mg W B m S H (r.bindS ρ g) E) :
    fin K mg W B m S σ H r (fun v H1 => ∃ m1 S1 d, Post K mg B m S H m1 S1 H1 ∧ Rep K H1 (Fo B m1 S1) m1 v d ∧ finS K mg W B m1 S1 H1 (g d S1) E) := by
  cases r with
  | ok d S' => exact fun m' H' v p r => ⟨m', S', d, p, r, finS.later p h⟩
  | exc c p' S' => exact fun m' H' cls dd p x => h m' H' σ cls dd p (re.kp (p.kp rl)) x
  | bad => exact h
/-- an expression, then a statement's rest -/
theorem upS_one {fa : Ex} {g : D → Ev → Sto → RS} (h : upS K mg W (fun ρ S => (fa ρ S).bindS ρ fun x S => g x ρ S) E σ H) :
    up K mg W fa σ H fun x H1 => ∃ B m ρ S dx, Rl K mg B m H1 S ∧ RepE K H1 (Fo B m S) m σ ρ ∧ Rep K H1 (Fo B m S) m x dx ∧ finS K mg W B m S H1 (g dx ρ S) E := by
  obtain ⟨B, m, ρ, S, r, re, f⟩ := h
  refine ⟨B, m, ρ, S, r, re, fin.mono (fin.bindS re r f) fun v H1 => ?_⟩
  rintro ⟨m1, S1, d, p, q, f1⟩
  exact ⟨B, m1, ρ, S1, d, p.rl, re.kp (p.kp r), q, f1⟩
end
def SV (X : Cx) (W : WX) (st : Stmt) (f : Sx) : Prop := PS X st (upS X.K X.mg W f)
def SVs (X : Cx) (W : WX) (st : List Stmt) (f : Sx) : Prop := PSs X st (upS X.K X.mg W f)
theorem ps_imp {X : Cx} {st : Stmt} {t t' : TS} (h : PS X st t) (k : ∀ E σ H, t' E σ H → t E σ H) : PS X st t' := ⟨fun pins s σ H E I q => h.run pins s σ H E I (k E σ H q)⟩
theorem pss_imp {X : Cx} {st : List Stmt} {t t' : TS} (h : PSs X st t) (k : ∀ E σ H, t' E σ H → t E σ H) : PSs X st t' := ⟨fun pins s σ H E I q => h.run pins s σ H E I (k E σ H q)⟩
def sSkip : Sx := fun ρ S => .fl (.nx ρ) S
def sSeq (a b : Sx) : Sx := fun ρ S => match a ρ S with
  | .fl (.nx ρ') S' => b ρ' S'
  | r => r
def sRet (e : Ex) : Sx := fun ρ S => (e ρ S).bindS ρ fun d S => .fl (.rt d) S
def sRetN : Sx := fun ρ S => .fl (.rt .non) S
def sExpr (e : Ex) : Sx := fun ρ S => (e ρ S).bindS ρ fun _ S => .fl (.nx ρ) S
def sAsg (i : Nat) (e : Ex) : Sx := fun ρ S => (e ρ S).bindS ρ fun d S => .fl (.nx (ρ.set i (some d))) S
def sBrk : Sx := fun ρ S => .fl (.bk ρ) S
def sCont : Sx := fun ρ S => .fl (.ct ρ) S
section
variable {X : Cx} {W : WX} {st : Stmt} {sts : List Stmt} {a b : Sx} {e : Expr} {fe : Ex} {pos : Pos}
theorem sv_nil : SVs X W [] sSkip := pss_imp pss_nil fun E σ H ⟨B, m, ρ, S, r, re, f⟩ => f m H σ (Post.refl r) re
theorem sv_cons (h1 : SV X W st a) (h2 : SVs X W sts b) : SVs X W (st :: sts) (sSeq a b) := by
  refine pss_imp (pss_cons h1 h2) fun E σ H h => ?_
  obtain ⟨B, m, ρ, S, r, re, f⟩ := h
  refine ⟨B, m, ρ, S, r, re, ?_⟩
  unfold sSeq at f
  cases e1 : a ρ S with
  | bad => rw [e1] at f; exact f
  | exc c p ρ' S' => rw [e1] at f; exact f
  | fl fl S' =>
    rw [e1] at f
    cases fl with
    | nx ρ' => exact fun m' H' σ' p q => ⟨B, m', ρ', S', p.rl, q, finS.later p f⟩
    | rt d => exact f
    | bk ρ' => exact f
    | ct ρ' => exact f
theorem sv_one (h1 : SV X W st a) : SVs X W [st] a := pss_one h1
theorem sv_ret (h : EV X W e fe) : SV X W (.Return (some e) pos) (sRet fe) := by
  refine ps_imp (ps_ret h) fun E σ H h => ?_
  obtain ⟨B, m, ρ, S, r, re, f⟩ := upS_one (g := fun d ρ S => .fl (.rt d) S) h
  refine ⟨B, m, ρ, S, r, re, f.mono fun x H1 => ?_⟩
  rintro ⟨B, m, ρ, S, dx, r, re, rx, f⟩
  exact f m H1 x (Post.refl r) rx
theorem sv_expr (h : EV X W e fe) (hs : swapsWith e none pos.line X.env = pure false := by rfl) : SV X W (.Expr e pos) (sExpr fe) := by
  refine ps_imp (ps_expr h hs) fun E σ H h => ?_
  obtain ⟨B, m, ρ, S, r, re, f⟩ := upS_one (g := fun d ρ S => .fl (.nx ρ) S) h
  refine ⟨B, m, ρ, S, r, re, f.mono fun x H1 => ?_⟩
  rintro ⟨B, m, ρ, S, dx, r, re, rx, f⟩
  exact f m H1 σ (Post.refl r) re
theorem sv_asg {i : Nat} {x : Str} {pos' : Pos} (hN : X.N.Nodup) (hi : X.N[i]? = some x) (hx : Loc X.env.scope x) (h : EV X W e fe) (hs : swapsWith e (some (.Name x pos')) pos.line X.env = pure false := by rfl) (hf : X.fn x = true ∨ X.env.scope.names.lookup x = some .local := by first | exact .inl rfl | exact .inr rfl | assumption) :
    SV X W (.Assign [.Name x pos'] e pos) (sAsg i fe) := by
  refine ps_imp (ps_set hN hi hx h hs hf) fun E σ H h => ?_
  obtain ⟨B, m, ρ, S, r, re, f⟩ := upS_one (g := fun d ρ S => .fl (.nx (ρ.set i (some d))) S) h
  refine ⟨B, m, ρ, S, r, re, f.mono fun x H1 => ?_⟩
  rintro ⟨B, m, ρ, S, dx, r, re, rx, f⟩
  exact f m H1 _ (Post.refl r) (re.set rx)
end
abbrev Tx := Ev → Sto → R Bool
def tVal (e : Ex) : Tx := fun ρ S => (e ρ S).bind fun d S => match d with
  | .bl b => .ok b S
  | _ => .bad
def tNotX (t : Tx) : Tx := fun ρ S => (t ρ S).bind fun b S => .ok (!b) S
def tAndX (t u : Tx) : Tx := fun ρ S => (t ρ S).bind fun b S => if b = true then u ρ S else .ok false S
def tOrX (t u : Tx) : Tx := fun ρ S => (t ρ S).bind fun b S => if b = true then .ok true S else u ρ S
section
variable (K : PySem.W.Frag) (mg : Str → Option Value) (W : WX)
def finT (B : Addr → Prop) (m : List Addr) (S : Sto) (σ : L2.St) (H : Hp) (r : R Bool) (Q : Bool → Hp → Prop) : Prop := match r with
  | .ok b S' => ∀ m' H', Post K mg B m S H m' S' H' → Q b H'
  | .exc c p S' => ∀ m' H' cls dd, Post K mg B m S H m' S' H' → XcR K mg H' (Fo B m' S') m' c p cls dd → W cls dd σ H'
  | .bad => False
def upT (f : Tx) : TT := fun σ H Q => ∃ B m ρ S, Rl K mg B m H S ∧ RepE K H (Fo B m S) m σ ρ ∧ finT K mg W B m S σ H (f ρ S) Q
end
section
variable {K : PySem.W.Frag} {mg : Str → Option Value} {W : WX} {B : Addr → Prop} {m m' m1 : List Addr} {S S' S1 : Sto} {H H' H1 : Hp} {σ : L2.St} {ρ : Ev} {E : Ends}
theorem finT.later (p : Post K mg B m S H m1 S1 H1) {r : R Bool} {Q : Bool → Hp → Prop} (h : finT K mg W B m S σ H r Q) : finT K mg W B m1 S1 σ H1 r Q := by
  cases r with
  | ok d S' => exact fun m' H' q => h m' H' (p.trans q)
  | exc c p' S' => exact fun m' H' cls dd q => h m' H' cls dd (p.trans q)
  | bad => exact h
theorem finT.mono {r : R Bool} {Q Q' : Bool → Hp → Prop} (h : finT K mg W B m S σ H r Q) (k : ∀ v H, Q v H → Q' v H) : finT K mg W B m S σ H r Q' := by
  cases r with
  | ok d S' => exact fun m' H' p => k _ _ (h m' H' p)
  | exc c p' S' => exact h
  | bad => exact h
theorem fin.bindT {r : R D} {g : D → Sto → R Bool} {Q : Bool → Hp → Prop} (h : finT K mg W B m S σ H (r.bind g) Q) :
    fin K mg W B m S σ H r (fun v H1 => ∃ m1 S1 d, Post K mg B m S H m1 S1 H1 ∧ Rep K H1 (Fo B m1 S1) m1 v d ∧ finT K mg W B m1 S1 σ H1 (g d S1) Q) := by
  cases r with
  | ok d S' => exact fun m' H' v p r => ⟨m', S', d, p, r, finT.later p h⟩
  | exc c p' S' => exact h
  | bad => exact h
theorem finT.bindT {r : R Bool} {g : Bool → Sto → R Bool} {Q : Bool → Hp → Prop} (h : finT K mg W B m S σ H (r.bind g) Q) :
    finT K mg W B m S σ H r (fun b H1 => ∃ m1 S1, Post K mg B m S H m1 S1 H1 ∧ finT K mg W B m1 S1 σ H1 (g b S1) Q) := by
  cases r with
  | ok d S' => exact fun m' H' p => ⟨m', S', p, finT.later p h⟩
  | exc c p' S' => exact h
  | bad => exact h
theorem finT.bindS {r : R Bool} {g : Bool → Sto → RS} (re : RepE K H (Fo B m S) m σ ρ) (rl : Rl K mg B m H S) (h : finS K mg W B m S H (r.bindS ρ g) E) :
    finT K mg W B m S σ H r (fun b H1 => ∃ m1 S1, Post K mg B m S H m1 S1 H1 ∧ finS K mg W B m1 S1 H1 (g b S1) E) := by
  cases r with
  | ok d S' => exact fun m' H' p => ⟨m', S', p, finS.later p h⟩
  | exc c p' S' => exact fun m' H' cls dd p x => h m' H' σ cls dd p (re.kp (p.kp rl)) x
  | bad => exact h
theorem finT.bind {r : R Bool} {g : Bool → Sto → R D} {Q : VK} (h : fin K mg W B m S σ H (r.bind g) Q) :
    finT K mg W B m S σ H r (fun b H1 => ∃ m1 S1, Post K mg B m S H m1 S1 H1 ∧ fin K mg W B m1 S1 σ H1 (g b S1) Q) := by
  cases r with
  | ok d S' => exact fun m' H' p => ⟨m', S', p, fin.later p h⟩
  | exc c p' S' => exact h
  | bad => exact h
end
def TV (X : Cx) (W : WX) (e : Expr) (f : Tx) : Prop := PT X e (upT X.K X.mg W f)
def WV (X : Cx) (W : WX) (e : Expr) (f : Tx) : Prop := PW X e (upT X.K X.mg W f)
theorem pt_imp {X : Cx} {e : Expr} {t t' : TT} (h : PT X e t) (k : ∀ σ H Q, t' σ H Q → t σ H Q) : PT X e t' := ⟨fun pins s σ H Q I q => h.run pins s σ H Q I (k σ H Q q)⟩
theorem pw_imp {X : Cx} {e : Expr} {t t' : TT} (h : PW X e t) (k : ∀ σ H Q, t' σ H Q → t σ H Q) : PW X e t' := ⟨fun wh pins s σ H Q I q => h.run wh pins s σ H Q I (k σ H Q q)⟩
section
variable {X : Cx} {W : WX} {e e2 : Expr} {es : List Expr} {f : Ex} {t u : Tx} {pos : Pos}
theorem tval_of {K : PySem.W.Frag} {mg : Str → Option Value} {σ : L2.St} {H : Hp} {Q : Bool → Hp → Prop} (h : upT K mg W (tVal f) σ H Q) : up K mg W f σ H fun x H1 => ∃ c, x = .bl c ∧ Q c H1 := by
  obtain ⟨B, m, ρ, S, r, re, g⟩ := h
  refine ⟨B, m, ρ, S, r, re, fin.mono (fin.bindT g) fun v H1 => ?_⟩
  rintro ⟨m1, S1, d, p, q, g1⟩
  cases d with
  | bl b => cases q; exact ⟨b, rfl, g1 m1 H1 (Post.refl p.rl)⟩
  | _ => exact g1.elim
/-- an expression whose value is a truth -/
theorem tv_val (h : EV X W e f) (he : ∀ whole, isTrue e X.env whole = (do let v ← whole; standAt e.pos; holding [v] (truthy v)) := by intro _; rfl) : TV X W e (tVal f) := pt_imp (pt_val h he) fun σ H Q h => tval_of h
theorem tv_cmp {op : CmpOp} {a b : Expr} {fa fb : Ex} {g : D → D → Option D} (ho : OpR X (compareOp op) (rG2 X.K g)) (ha : EV X W a fa) (hb : EV X W b fb) (hm : behindInMarks op b = false) : TV X W (.Compare a [op] [b] pos) (tVal (eOp2 g fa fb)) := by
  refine pt_imp (pt_cmpR ho ha hb hm) fun σ H Q h => ?_
  obtain ⟨B, m, ρ, S, r, re, g⟩ := tval_of h
  exact two_of ⟨B, m, ρ, S, r, re, g⟩
theorem tv_not (h : TV X W e t) : TV X W (.UnaryOp .Not e pos) (tNotX t) := by
  refine pt_imp (pt_not h) fun σ H Q h => ?_
  obtain ⟨B, m, ρ, S, r, re, g⟩ := h
  refine ⟨B, m, ρ, S, r, re, finT.mono (finT.bindT g) fun b H1 => ?_⟩
  rintro ⟨m1, S1, p, g1⟩
  exact g1 m1 H1 (Post.refl p.rl)
theorem wv_and1 (h : TV X W e t) : WV X W (.BoolOp .And [e] pos) t := pw_and1 h
theorem wv_or1 (h : TV X W e t) : WV X W (.BoolOp .Or [e] pos) t := pw_or1 h
theorem wv_and (h : TV X W e t) (h2 : WV X W (.BoolOp .And (e2 :: es) pos) u) : WV X W (.BoolOp .And (e :: e2 :: es) pos) (tAndX t u) := by
  refine pw_imp (pw_and h h2) fun σ H Q h => ?_
  obtain ⟨B, m, ρ, S, r, re, g⟩ := h
  refine ⟨B, m, ρ, S, r, re, finT.mono (finT.bindT g) fun b H1 => ?_⟩
  rintro ⟨m1, S1, p, g1⟩
  cases b with
  | true =>
    rw [if_pos rfl] at g1 ⊢
    exact ⟨B, m1, ρ, S1, p.rl, re.kp (p.kp r), g1⟩
  | false =>
    rw [if_neg Bool.false_ne_true] at g1 ⊢
    exact g1 m1 H1 (Post.refl p.rl)
theorem wv_or (h : TV X W e t) (h2 : WV X W (.BoolOp .Or (e2 :: es) pos) u) : WV X W (.BoolOp .Or (e :: e2 :: es) pos) (tOrX t u) := by
  refine pw_imp (pw_or h h2) fun σ H Q h => ?_
  obtain ⟨B, m, ρ, S, r, re, g⟩ := h
  refine ⟨B, m, ρ, S, r, re, finT.mono (finT.bindT g) fun b H1 => ?_⟩
  rintro ⟨m1, S1, p, g1⟩
  cases b with
  | false =>
    rw [if_neg Bool.false_ne_true] at g1 ⊢
    exact ⟨B, m1, ρ, S1, p.rl, re.kp (p.kp r), g1⟩
  | true =>
    rw [if_pos rfl] at g1 ⊢
    exact g1 m1 H1 (Post.refl p.rl)
theorem tv_w (h : WV X W e t) : TV X W e t := PW.pt h
end
/-- a test as a value -/
def eAndX (a b : Ex) : Ex := fun ρ S => (a ρ S).bind fun d S => match d with
  | .bl true => b ρ S
  | .bl false => .ok (.bl false) S
  | _ => .bad
def eOrX (a b : Ex) : Ex := fun ρ S => (a ρ S).bind fun d S => match d with
  | .bl true => .ok (.bl true) S
  | .bl false => b ρ S
  | _ => .bad
def eNotX (a : Ex) : Ex := fun ρ S => (a ρ S).bind fun d S => match d with
  | .bl b => .ok (.bl (!b)) S
  | _ => .bad
def eIfX (t : Tx) (a b : Ex) : Ex := fun ρ S => (t ρ S).bind fun c S => if c = true then a ρ S else b ρ S
def sIf (t : Tx) (a b : Sx) : Sx := fun ρ S => (t ρ S).bindS ρ fun c S => if c = true then a ρ S else b ρ S
section
variable {X : Cx} {W : WX} {e e2 c : Expr} {es : List Expr} {f g : Ex} {t u : Tx} {pos : Pos} {op : BoolOp}
theorem ev_one (h : EV X W e f) : EV X W (.BoolOp op [e] pos) f := pe_one h
theorem ev_and (h : EV X W e f) (h2 : EV X W (.BoolOp .And (e2 :: es) pos) g) : EV X W (.BoolOp .And (e :: e2 :: es) pos) (eAndX f g) := by
  refine pe_imp (pe_and h h2) fun σ H Q h => ?_
  obtain ⟨B, m, ρ, S, r, re, k⟩ := h
  refine ⟨B, m, ρ, S, r, re, fin.mono (fin.bind k) fun v H1 => ?_⟩
  rintro ⟨m1, S1, d, p, q, g1⟩
  cases d with
  | bl b =>
    cases q
    refine ⟨b, rfl, ?_⟩
    cases b with
    | true => rw [if_pos rfl]; exact ⟨B, m1, ρ, S1, p.rl, re.kp (p.kp r), g1⟩
    | false => rw [if_neg Bool.false_ne_true]; exact g1 m1 H1 _ (Post.refl p.rl) (.bl false)
  | _ => exact g1.elim
theorem ev_not (h : EV X W e f) : EV X W (.UnaryOp .Not e pos) (eNotX f) := by
  refine pe_imp (pe_not h) fun σ H Q h => ?_
  obtain ⟨B, m, ρ, S, r, re, k⟩ := h
  refine ⟨B, m, ρ, S, r, re, fin.mono (fin.bind k) fun v H1 => ?_⟩
  rintro ⟨m1, S1, d, p, q, g1⟩
  cases d with
  | bl b => cases q; exact ⟨b, rfl, g1 m1 H1 _ (Post.refl p.rl) (.bl _)⟩
  | _ => exact g1.elim
theorem ev_ifx (hc : TV X W c t) (ha : EV X W e f) (hb : EV X W e2 g) : EV X W (.IfExp c e e2 pos) (eIfX t f g) := by
  refine pe_imp (pe_ifExp hc ha hb) fun σ H Q h => ?_
  obtain ⟨B, m, ρ, S, r, re, k⟩ := h
  refine ⟨B, m, ρ, S, r, re, finT.mono (finT.bind k) fun b H1 => ?_⟩
  rintro ⟨m1, S1, p, g1⟩
  cases b with
  | true => rw [if_pos rfl] at g1 ⊢; exact ⟨B, m1, ρ, S1, p.rl, re.kp (p.kp r), g1⟩
  | false => rw [if_neg Bool.false_ne_true] at g1 ⊢; exact ⟨B, m1, ρ, S1, p.rl, re.kp (p.kp r), g1⟩
theorem sv_if {a b : List Stmt} {sa sb : Sx} (hc : TV X W c t) (ha : SVs X W a sa) (hb : SVs X W b sb) : SV X W (.If c a b pos) (sIf t sa sb) := by
  refine ps_imp (ps_if hc ha hb) fun E σ H h => ?_
  obtain ⟨B, m, ρ, S, r, re, k⟩ := h
  refine ⟨B, m, ρ, S, r, re, finT.mono (finT.bindS re r k) fun b H1 => ?_⟩
  rintro ⟨m1, S1, p, g1⟩
  cases b with
  | true => rw [if_pos rfl] at g1 ⊢; exact ⟨B, m1, ρ, S1, p.rl, re.kp (p.kp r), g1⟩
  | false => rw [if_neg Bool.false_ne_true] at g1 ⊢; exact ⟨B, m1, ρ, S1, p.rl, re.kp (p.kp r), g1⟩
end
end DL
set_option Elab.async false
set_option linter.all false
set_option maxRecDepth 100000
set_option maxHeartbeats 4000000
namespace DL
open PySem PySem.Spec PyProof.Rows L2
def unK : D → Option Key
  | .int i => some (.inl i)
  | .str x => some (.inr x)
  | _ => none
theorem unK_keyD (k : Key) : unK (keyD k) = some k := by cases k <;> rfl
def valD (kvs : List (D × D)) (k : Key) : Option D := (kvs.find? fun p => decide (unK p.1 = some k)).map (·.2)
def putD (kvs : List (D × D)) (k : Key) (d : D) : List (D × D) :=
  if (kvs.any fun p => decide (unK p.1 = some k)) = true then kvs.map (fun p => if unK p.1 = some k then (p.1, d) else p) else kvs ++ [(keyD k, d)]
def dropD (kvs : List (D × D)) (k : Key) : List (D × D) := kvs.filter fun p => decide (unK p.1 ≠ some k)
inductive KR (K : PySem.W.Frag) (H : Hp) (Fb : Addr → Prop) (m : List Addr) : List (Key × V) → List (D × D) → Prop
  | nil : KR K H Fb m [] []
  | cons {k : Key} {v : V} {d : D} {kv : List (Key × V)} {kvs : List (D × D)} : Rep K H Fb m v d → KR K H Fb m kv kvs → KR K H Fb m ((k, v) :: kv) ((keyD k, d) :: kvs)
section
variable {K : PySem.W.Frag} {H H' : Hp} {Fb Fb' : Addr → Prop} {m m' : List Addr}
theorem kr_of : ∀ {kv : List (Key × V)} {kvs : List (D × D)}, kvs.map (·.1) = kv.map (fun p => keyD p.1) → RepA K H Fb m (kv.map (·.2)) (kvs.map (·.2)) → KR K H Fb m kv kvs
  | [], [], _, _ => .nil
  | [], _ :: _, e, _ => by simp at e
  | _ :: _, [], e, _ => by simp at e
  | (k, v) :: kv, (x, d) :: kvs, e, q => by
    simp only [List.map_cons, List.cons.injEq] at e
    obtain ⟨rfl, e⟩ := e
    cases q with
    | cons q1 q2 => exact .cons q1 (kr_of e q2)
theorem KR.keys {kv : List (Key × V)} {kvs : List (D × D)} (h : KR K H Fb m kv kvs) : kvs.map (·.1) = kv.map (fun p => keyD p.1) := by
  induction h with
  | nil => rfl
  | cons _ _ ih => simp [ih]
theorem KR.vals {kv : List (Key × V)} {kvs : List (D × D)} (h : KR K H Fb m kv kvs) : RepA K H Fb m (kv.map (·.2)) (kvs.map (·.2)) := by
  induction h with
  | nil => exact .nil
  | cons r _ ih => exact .cons r ih
theorem KR.length {kv : List (Key × V)} {kvs : List (D × D)} (h : KR K H Fb m kv kvs) : kv.length = kvs.length := by
  induction h with
  | nil => rfl
  | cons _ _ ih => simp [ih]
theorem KR.kp (k : Kp H H' Fb Fb' m m') {kv : List (Key × V)} {kvs : List (D × D)} (h : KR K H Fb m kv kvs) : KR K H' Fb' m' kv kvs := by
  induction h with
  | nil => exact .nil
  | cons r _ ih => exact .cons (r.kp k) ih
theorem KR.val {kv : List (Key × V)} {kvs : List (D × D)} (h : KR K H Fb m kv kvs) (k : Key) : (∃ v d, valV kv k = some v ∧ valD kvs k = some d ∧ Rep K H Fb m v d) ∨ (valV kv k = none ∧ valD kvs k = none) := by
  induction h with
  | nil => exact .inr ⟨rfl, rfl⟩
  | @cons j v d kv kvs r h ih =>
    by_cases e : j = k
    · refine .inl ⟨v, d, valV_pos e, ?_, r⟩
      simp [valD, List.find?_cons, unK_keyD, e]
    · have e1 : valD ((keyD j, d) :: kvs) k = valD kvs k := by simp [valD, List.find?_cons, unK_keyD, e]
      rw [valV_neg (p := (j, v)) e, e1]
      exact ih
theorem KR.some {kv : List (Key × V)} {kvs : List (D × D)} (h : KR K H Fb m kv kvs) {k : Key} {d : D} (e : valD kvs k = some d) : ∃ v, valV kv k = some v ∧ Rep K H Fb m v d := by
  rcases h.val k with ⟨v, d', e1, e2, r⟩ | ⟨_, e2⟩
  · rw [e] at e2; cases e2; exact ⟨v, e1, r⟩
  · rw [e] at e2; cases e2
theorem KR.none {kv : List (Key × V)} {kvs : List (D × D)} (h : KR K H Fb m kv kvs) {k : Key} (e : valD kvs k = none) : valV kv k = none := by
  rcases h.val k with ⟨v, d', e1, e2, r⟩ | ⟨e1, _⟩
  · rw [e] at e2; cases e2
  · exact e1
theorem KR.isSome {kv : List (Key × V)} {kvs : List (D × D)} (h : KR K H Fb m kv kvs) (k : Key) : (valV kv k).isSome = (valD kvs k).isSome := by
  rcases h.val k with ⟨v, d', e1, e2, r⟩ | ⟨e1, e2⟩ <;> rw [e1, e2] <;> rfl
theorem KR.any {kv : List (Key × V)} {kvs : List (D × D)} (h : KR K H Fb m kv kvs) (k : Key) : (kv.any fun p => decide (p.1 = k)) = (kvs.any fun p => decide (unK p.1 = .some k)) := by
  induction h with
  | nil => rfl
  | cons r h ih => simp [List.any_cons, unK_keyD, ih]
theorem KR.repl {kv : List (Key × V)} {kvs : List (D × D)} (h : KR K H Fb m kv kvs) (k : Key) {v : V} {d : D} (r : Rep K H Fb m v d) : KR K H Fb m (kv.map fun p => if p.1 = k then (p.1, v) else p) (kvs.map fun p => if unK p.1 = .some k then (p.1, d) else p) := by
  induction h with
  | nil => exact .nil
  | @cons j w e kv kvs rw h ih =>
    simp only [List.map_cons, unK_keyD, Option.some.injEq]
    by_cases ej : j = k
    · rw [if_pos ej, if_pos ej]; exact .cons r ih
    · rw [if_neg ej, if_neg ej]; exact .cons rw ih
theorem KR.snoc {kv : List (Key × V)} {kvs : List (D × D)} (h : KR K H Fb m kv kvs) (k : Key) {v : V} {d : D} (r : Rep K H Fb m v d) : KR K H Fb m (kv ++ [(k, v)]) (kvs ++ [(keyD k, d)]) := by
  induction h with
  | nil => exact .cons r .nil
  | cons rw h ih => exact .cons rw ih
theorem KR.put {kv : List (Key × V)} {kvs : List (D × D)} (h : KR K H Fb m kv kvs) (k : Key) {v : V} {d : D} (r : Rep K H Fb m v d) : KR K H Fb m (putK kv k v) (putD kvs k d) := by
  unfold putK putD
  rw [h.any k]
  split
  · exact h.repl k r
  · exact h.snoc k r
theorem KR.drop {kv : List (Key × V)} {kvs : List (D × D)} (h : KR K H Fb m kv kvs) (k : Key) : KR K H Fb m (dropK kv k) (dropD kvs k) := by
  unfold dropK dropD
  induction h with
  | nil => exact .nil
  | @cons j w e kv kvs rw h ih =>
    by_cases ej : j = k
    · simpa [List.filter_cons, unK_keyD, ej] using ih
    · simp only [List.filter_cons, unK_keyD, ej, Option.some.injEq, ne_eq, not_false_eq_true, decide_true, if_true]
      exact .cons rw ih
theorem Vw.asD {v : V} {kvs : List (D × D)} (h : Vw K H Fb m v (.dic false kvs)) : ∃ a kv, v = .ref a ∧ Rd H a (.dK kv) ∧ kv.length ≤ sizeLine ∧ KR K H Fb m kv kvs := by
  cases h with
  | dK h z e q => exact ⟨_, _, rfl, h, z, kr_of e q⟩
  | oth h => cases h with
    | dK h z e q => exact ⟨_, _, rfl, .inr h, z, kr_of e q⟩
theorem Vw.key {v : V} {d : D} {k : Key} (h : Vw K H Fb m v d) (e : unK d = .some k) : v = kV k := by
  cases d with
  | int i => cases e; cases h.asI; rfl
  | str x => cases e; cases h.asS; rfl
  | _ => simp [unK] at e
theorem Rep.key {v : V} {d : D} {k : Key} (h : Rep K H Fb m v d) (e : unK d = .some k) : v = kV k := Vw.key (.oth h) e
end
/-- what a dict tells of a key -/
def dgetD (x y : D) : Option D := match x with
  | .dic false kvs => (unK y).bind (valD kvs)
  | _ => none
def dhasD (x y : D) : Option Bool := match x with
  | .dic false kvs => (unK y).map fun k => (valD kvs k).isSome
  | _ => none
section
variable {K : PySem.W.Frag} {H : Hp} {Fb : Addr → Prop} {m : List Addr} {x y : V} {dx dy d : D}
theorem dget_ok (vx : Vw K H Fb m x dx) (vy : Vw K H Fb m y dy) (e : dgetD dx dy = some d) : ∃ a w, x = .ref a ∧ DGet H a y (some w) ∧ Rep K H Fb m w d := by
  unfold dgetD at e
  split at e
  · obtain ⟨k, e1, e2⟩ := Option.bind_eq_some_iff.mp e
    obtain ⟨a, kv, rfl, h1, z1, q1⟩ := vx.asD
    obtain ⟨w, e3, r⟩ := q1.some e2
    exact ⟨a, w, rfl, .inl ⟨kv, k, h1, vy.key e1, e3.symm⟩, r⟩
  · cases e
end
section
variable {X : Cx}
/-- d[y] by values -/
theorem ix_dict (hu : X.A.units + 1 < cLine) : IxR X (fun x y H Q => ∃ a v, x = .ref a ∧ DGet H a y (some v) ∧ Q v H) := by
  intro value slice pins s σ H x y o i Q I rx ry ⟨a, v, ex, g, q⟩ hs
  subst ex
  obtain rfl : o = Value.ref a := rx
  have hT := dict_typeIs I g
  unfold subscriptTail
  refine wpAny_bind ?_
  rw [getitemInPython_of_ne hT.not_modules]
  refine wpAny_bind (wpAny_specialOf hT PySem.F.slot_dict_getitem.lookup ?_)
  have fin : wpAny (model X.prog X.w) X.A (subscripted slice false (.ref a) i) (fun r s₃ => wpAny (model X.prog X.w) X.A (letTemporaryGo value (.ref a) r >>= fun _ => pure r) (EP X pins σ Q) X.xe s₃) X.xe s := by
    rw [hs]
    refine wpAny_operating (d_getItem hu I g ry fun w' s3 I3 rw' => wpAny_bind (wpAny_letTemporaryGo (wpAny_pure ⟨v, H, I3, rw', q⟩)))
  first
    | exact wpAny_pure (wpAny_bind fin)
    | exact wpAny_bind (wpAny_pure (wpAny_bind fin))
    | exact wpAny_bind fin
end
end DL
set_option Elab.async false
set_option linter.all false
set_option maxRecDepth 100000
set_option maxHeartbeats 4000000
namespace DL
open PySem PySem.Spec PyProof.Rows L2
inductive Tg where
  | nm (i : Nat) | tp (ts : List Tg)
mutual
def Tg.put : Tg → D → Ev → Option Ev
  | .nm i, d, ρ => some (ρ.set i (some d))
  | .tp ts, .tup ds, ρ => Tg.puts ts ds ρ
  | .tp _, _, _ => none
def Tg.puts : List Tg → List D → Ev → Option Ev
  | [], [], ρ => some ρ
  | t :: ts, d :: ds, ρ => match t.put d ρ with
    | some ρ' => Tg.puts ts ds ρ'
    | none => none
  | _, _, _ => none
end
mutual
def Tg.rd (K : PySem.W.Frag) : Tg → TG
  | .nm i => gName i
  | .tp ts => gTup K ts.length (Tg.rds K ts)
def Tg.rds (K : PySem.W.Frag) : List Tg → TGs
  | [] => gNil
  | t :: ts => gCons (Tg.rd K t) (Tg.rds K ts)
end
section
variable {K : PySem.W.Frag} {H : Hp} {Fb : Addr → Prop} {m : List Addr}
mutual
theorem Tg.rd_ok : ∀ (t : Tg) {v : V} {d : D} {σ : L2.St} {ρ ρ' : Ev} {Q : L2.St → Hp → Prop}, t.put d ρ = some ρ' → Rep K H Fb m v d → RepE K H Fb m σ ρ → (∀ σ', RepE K H Fb m σ' ρ' → Q σ' H) → Tg.rd K t v σ H Q
  | .nm i, v, d, σ, ρ, ρ', Q, e, r, re, q => by
    simp only [Tg.put, Option.some.injEq] at e
    subst e
    exact q _ (re.set r)
  | .tp ts, v, d, σ, ρ, ρ', Q, e, r, re, q => by
    cases d with
    | tup ds =>
      cases r with
      | tup h z rr =>
        have e' : Tg.puts ts ds ρ = some ρ' := by simpa [Tg.put] using e
        exact ⟨_, _, rfl, h, by rw [rr.length]; exact (Tg.puts_len ts e').symm, Tg.rds_ok ts e' rr re q⟩
    | _ => simp [Tg.put] at e
theorem Tg.puts_len : ∀ (ts : List Tg) {ds : List D} {ρ ρ' : Ev}, Tg.puts ts ds ρ = some ρ' → ts.length = ds.length
  | [], [], _, _, _ => rfl
  | [], _ :: _, _, _, e => by simp [Tg.puts] at e
  | _ :: _, [], _, _, e => by simp [Tg.puts] at e
  | t :: ts, d :: ds, ρ, ρ', e => by
    simp only [Tg.puts] at e
    split at e
    · rename_i ρ1 e1
      simp [Tg.puts_len ts e]
    · cases e
theorem Tg.rds_ok : ∀ (ts : List Tg) {vs : List V} {ds : List D} {σ : L2.St} {ρ ρ' : Ev} {Q : L2.St → Hp → Prop}, Tg.puts ts ds ρ = some ρ' → RepA K H Fb m vs ds → RepE K H Fb m σ ρ → (∀ σ', RepE K H Fb m σ' ρ' → Q σ' H) → Tg.rds K ts vs σ H Q
  | [], vs, ds, σ, ρ, ρ', Q, e, r, re, q => by
    cases ds with
    | nil =>
      cases r
      simp only [Tg.puts, Option.some.injEq] at e
      subst e
      exact ⟨rfl, q σ re⟩
    | cons _ _ => simp [Tg.puts] at e
  | t :: ts, vs, ds, σ, ρ, ρ', Q, e, r, re, q => by
    cases ds with
    | nil => simp [Tg.puts] at e
    | cons d ds =>
      cases r with
      | cons r rr =>
        simp only [Tg.puts] at e
        split at e
        · rename_i ρ1 e1
          exact ⟨_, _, rfl, Tg.rd_ok t e1 r re fun σ' re' => Tg.rds_ok ts e rr re' q⟩
        · cases e
end
end
/-- the target of the text is this one -/
def GV (X : Cx) (e : Expr) (t : Tg) : Prop := PG X e (Tg.rd X.K t)
def GVs (X : Cx) (es : List Expr) (ts : List Tg) : Prop := PGs X es (Tg.rds X.K ts)
section
variable {X : Cx} {pos : Pos} {e : Expr} {es : List Expr} {t : Tg} {ts : List Tg}
theorem gv_nm {i : Nat} {x : Str} (hN : X.N.Nodup) (hi : X.N[i]? = some x) (hx : Loc X.env.scope x) (hf : X.fn x = true ∨ X.env.scope.names.lookup x = some .local := by first | exact .inl rfl | exact .inr rfl | assumption) : GV X (.Name x pos) (.nm i) := pg_name hN hi hx hf
theorem gv_nil : GVs X [] [] := pgs_nil
theorem gv_cons (h : GV X e t) (hr : GVs X es ts) (hs : (assignEach (e :: es) X.env).map (·.2) = assign e X.env :: (assignEach es X.env).map (·.2) := by rfl) : GVs X (e :: es) (t :: ts) := pgs_cons h hr hs
theorem gv_tp {k : Nat} (hc : X.calm = true) (h : GVs X es ts) (hn : (assignEach es X.env).length = ts.length := by rfl) (hst : (assignEach es X.env).findIdx? (·.1) = none := by rfl) : GV X (.Tuple es k pos) (.tp ts) := pg_tup hc h hn hst
end
def sAsgT (t : Tg) (e : Ex) : Sx := fun ρ S => (e ρ S).bindS ρ fun d S => match t.put d ρ with
  | some ρ' => .fl (.nx ρ') S
  | none => .bad
section
variable {X : Cx} {W : WX} {tg e : Expr} {fe : Ex} {t : Tg} {pos : Pos}
theorem sv_asgT (h : EV X W e fe) (hg : GV X tg t) (hs : swapsWithSole [tg] e pos.line X.env = pure false := by rfl) (hw : swappedStores [tg] e X.env = pure none := by rfl)
    (h1 : (assignEach [tg] X.env).map (·.2) = [assign tg X.env] := by rfl) : SV X W (.Assign [tg] e pos) (sAsgT t fe) := by
  refine ps_imp (ps_asg h hg hs hw h1) fun E σ H h => ?_
  obtain ⟨B, m, ρ, S, r, re, f⟩ := upS_one (g := fun d ρ S => match t.put d ρ with | some ρ' => .fl (.nx ρ') S | none => .bad) h
  refine ⟨B, m, ρ, S, r, re, f.mono fun x H1 => ?_⟩
  rintro ⟨B, m, ρ, S, dx, r, re, rx, f⟩
  split at f
  · rename_i ρ' e1
    exact Tg.rd_ok t e1 rx re fun σ' re' => f m H1 σ' (Post.refl r) re'
  · exact f.elim
end
theorem Kp.trans {H H1 H2 : Hp} {F F1 F2 : Addr → Prop} {m m1 m2 : List Addr} (p : Kp H H1 F F1 m m1) (q : Kp H1 H2 F1 F2 m1 m2) : Kp H H2 F F2 m m2 :=
  ⟨fun a xs h f => q.lst a xs (p.lst a xs h f) (p.fb a _ (.inl h) f), fun a u h f => q.obj a u (p.obj a u h f) (p.fb a u h f), fun a o f h => q.fix a o f (p.fix a o f h), fun a u h f => q.fb a u (p.obj a u h f) (p.fb a u h f), fun n a h => q.ix n a (p.ix n a h)⟩
def ItR (K : PySem.W.Frag) (H : Hp) (Fb : Addr → Prop) (m : List Addr) (J : It) (xs : List D) : Prop :=
  ∀ H2 Fb2 m2, Kp H H2 Fb Fb2 m m2 → (∀ i, i < xs.length → J.go i H2 ∧ ∀ x H3, J.yld i H2 x H3 → ∃ d, xs[i]? = some d ∧ Same H2 H3 ∧ Rep K H3 Fb2 m2 x d) ∧ (∀ i, xs.length ≤ i → J.stop i H2)
abbrev Ix := Ev → Sto → R (List D)
section
variable (K : PySem.W.Frag) (mg : Str → Option Value) (W : WX)
def finI (B : Addr → Prop) (m : List Addr) (S : Sto) (σ : L2.St) (H : Hp) (r : R (List D)) (Q : It → Hp → Prop) : Prop := match r with
  | .ok xs S' => ∀ m' H' J, Post K mg B m S H m' S' H' → ItR K H' (Fo B m' S') m' J xs → Q J H'
  | .exc c p S' => ∀ m' H' cls dd, Post K mg B m S H m' S' H' → XcR K mg H' (Fo B m' S') m' c p cls dd → W cls dd σ H'
  | .bad => False
def upI (f : Ix) : TI := fun σ H Q => ∃ B m ρ S, Rl K mg B m H S ∧ RepE K H (Fo B m S) m σ ρ ∧ finI K mg W B m S σ H (f ρ S) Q
end
def IV (X : Cx) (W : WX) (tg iter : Expr) (f : Ix) : Prop := PI X tg iter (upI X.K X.mg W f)
theorem pi_imp {X : Cx} {tg e : Expr} {t t' : TI} (h : PI X tg e t) (k : ∀ σ H Q, t' σ H Q → t σ H Q) : PI X tg e t' := ⟨fun pins s σ H Q I q => h.run pins s σ H Q I (k σ H Q q)⟩
section
variable {K : PySem.W.Frag} {mg : Str → Option Value} {W : WX} {B : Addr → Prop} {m m' m1 : List Addr} {S S' S1 : Sto} {H H' H1 : Hp} {σ : L2.St} {ρ : Ev} {E : Ends}
theorem finI.later (p : Post K mg B m S H m1 S1 H1) {r : R (List D)} {Q : It → Hp → Prop} (h : finI K mg W B m S σ H r Q) : finI K mg W B m1 S1 σ H1 r Q := by
  cases r with
  | ok d S' => exact fun m' H' v q => h m' H' v (p.trans q)
  | exc c p' S' => exact fun m' H' cls dd q => h m' H' cls dd (p.trans q)
  | bad => exact h
theorem finI.mono {r : R (List D)} {Q Q' : It → Hp → Prop} (h : finI K mg W B m S σ H r Q) (k : ∀ v H, Q v H → Q' v H) : finI K mg W B m S σ H r Q' := by
  cases r with
  | ok d S' => exact fun m' H' v p r => k _ _ (h m' H' v p r)
  | exc c p' S' => exact h
  | bad => exact h
theorem fin.bindI {r : R D} {g : D → Sto → R (List D)} {Q : It → Hp → Prop} (h : finI K mg W B m S σ H (r.bind g) Q) :
    fin K mg W B m S σ H r (fun v H1 => ∃ m1 S1 d, Post K mg B m S H m1 S1 H1 ∧ Rep K H1 (Fo B m1 S1) m1 v d ∧ finI K mg W B m1 S1 σ H1 (g d S1) Q) := by
  cases r with
  | ok d S' => exact fun m' H' v p r => ⟨m', S', d, p, r, finI.later p h⟩
  | exc c p' S' => exact h
  | bad => exact h
theorem finI.bindS {r : R (List D)} {g : List D → Sto → RS} (re : RepE K H (Fo B m S) m σ ρ) (rl : Rl K mg B m H S) (h : finS K mg W B m S H (r.bindS ρ g) E) :
    finI K mg W B m S σ H r (fun J H1 => ∃ m1 S1 xs, Post K mg B m S H m1 S1 H1 ∧ ItR K H1 (Fo B m1 S1) m1 J xs ∧ finS K mg W B m1 S1 H1 (g xs S1) E) := by
  cases r with
  | ok d S' => exact fun m' H' J p q => ⟨m', S', d, p, q, finS.later p h⟩
  | exc c p' S' => exact fun m' H' cls dd p x => h m' H' σ cls dd p (re.kp (p.kp rl)) x
  | bad => exact h
end
/-- a tuple, or a list that nobody writes meanwhile -/
def iSeq (e : Ex) : Ix := fun ρ S => (e ρ S).bind fun d S => match d with
  | .tup xs => .ok xs S
  | .lst xs => .ok xs S
  | .dic false kvs => .ok (kvs.map (·.1)) S
  | _ => .bad
def iRng (a b : Int) : List D := (List.range (b - a).toNat).map fun k => .int (a + (k : Nat))
def iRng1X (e : Ex) : Ix := fun ρ S => (e ρ S).bind fun d S => match d with
  | .int j => if -(2 ^ 62) ≤ j ∧ j < 2 ^ 62 then .ok (iRng 0 j) S else .bad
  | _ => .bad
def iRng2X (e e2 : Ex) : Ix := fun ρ S => (e ρ S).bind fun d S => (e2 ρ S).bind fun d2 S => match d, d2 with
  | .int i, .int j => if -(2 ^ 62) ≤ i ∧ i < 2 ^ 62 ∧ -(2 ^ 62) ≤ j ∧ j < 2 ^ 62 then .ok (iRng i j) S else .bad
  | _, _ => .bad
section
variable {X : Cx} {W : WX} {tg e e2 : Expr} {fe fe2 : Ex} {pos p : Pos}
theorem itr_list {K : PySem.W.Frag} {mg : Str → Option Value} {B : Addr → Prop} {m : List Addr} {S : Sto} {H : Hp} {a : Addr} {vs : List V} {xs : List D} (r : Rl K mg B m H S) (h : H a = some (.lst vs)) (nf : ¬ Fo B m S a) (q : RepA K H (Fo B m S) m vs xs) : ItR K H (Fo B m S) m (Itl K a) xs := by
  intro H2 F2 m2 p
  have h2 : SqL K H2 a vs := SqL.of (p.lst _ _ h nf)
  have q2 := q.kp p
  refine ⟨fun i hi => ?_, fun i hi => ⟨vs, h2, by rw [q.length]; exact hi⟩⟩
  obtain ⟨v, ev, rv⟩ := q2.get (d := xs[i]) (List.getElem?_eq_getElem hi)
  refine ⟨⟨vs, v, h2, ev⟩, fun x H3 y => ?_⟩
  obtain ⟨e, y⟩ := y
  subst e
  have := y vs h2
  rw [ev] at this; cases this
  exact ⟨_, List.getElem?_eq_getElem hi, Same.refl _, rv⟩
theorem itr_tup {K : PySem.W.Frag} {mg : Str → Option Value} {B : Addr → Prop} {m : List Addr} {S : Sto} {H : Hp} {a : Addr} {vs : List V} {xs : List D} (r : Rl K mg B m H S) (h : SqT K H a vs) (q : RepA K H (Fo B m S) m vs xs) : ItR K H (Fo B m S) m (Itt K a) xs := by
  intro H2 F2 m2 p
  have h2 : SqT K H2 a vs := p.sqT h
  have q2 := q.kp p
  refine ⟨fun i hi => ?_, fun i hi => ⟨vs, h2, by rw [q.length]; exact hi⟩⟩
  obtain ⟨v, ev, rv⟩ := q2.get (d := xs[i]) (List.getElem?_eq_getElem hi)
  refine ⟨⟨vs, v, h2, ev⟩, fun x H3 y => ?_⟩
  obtain ⟨e, y⟩ := y
  subst e
  have := y vs h2
  rw [ev] at this; cases this
  exact ⟨_, List.getElem?_eq_getElem hi, Same.refl _, rv⟩
theorem itr_rng {K : PySem.W.Frag} {Fb : Addr → Prop} {m : List Addr} {H : Hp} {a b : Int} : ItR K H Fb m (Itr a (b - a).toNat) (iRng a b) := by
  intro H2 F2 m2 p
  refine ⟨fun i hi => ⟨?_, fun x H3 y => ?_⟩, fun i hi => ?_⟩
  · show i < (b - a).toNat
    simpa [iRng] using hi
  · obtain ⟨e, y⟩ := y
    subst e y
    have hi' : i < (b - a).toNat := by simpa [iRng] using hi
    exact ⟨.int (a + (i : Nat)), by simp only [iRng, List.getElem?_map, List.getElem?_range hi', Option.map_some], Same.refl _, .int _⟩
  · show (b - a).toNat ≤ i
    simpa [iRng] using hi
theorem rep_key {K : PySem.W.Frag} {H : Hp} {Fb : Addr → Prop} {m : List Addr} (k : Key) : Rep K H Fb m (kV k) (keyD k) := by
  cases k
  · exact .int _
  · exact .str _
theorem itr_keys {K : PySem.W.Frag} {H : Hp} {Fb : Addr → Prop} {m : List Addr} {a : Addr} {o : Obj} {kv : List (Key × V)} {kvs : List (D × D)} (h : H a = some (.frz o (.dK kv))) (q : KR K H Fb m kv kvs) : ItR K H Fb m (Itk a o kv) (kvs.map (·.1)) := by
  intro H2 F2 m2 p
  have h2 := p.fix _ (.frz o (.dK kv)) trivial h
  have hl := q.length
  refine ⟨fun i hi => ⟨⟨h2, by rw [List.length_map] at hi; omega⟩, fun x H3 y => ?_⟩, fun i hi => ⟨h2, by rw [List.length_map] at hi; omega⟩⟩
  obtain ⟨rfl, k, v, ek, rfl⟩ := y
  refine ⟨keyD k, ?_, Same.refl _, rep_key k⟩
  rw [q.keys, List.getElem?_map, ek]
  rfl
theorem upI_one {K : PySem.W.Frag} {mg : Str → Option Value} {σ : L2.St} {H : Hp} {fa : Ex} {g : D → Ev → Sto → R (List D)} {Q : It → Hp → Prop} (h : upI K mg W (fun ρ S => (fa ρ S).bind fun x S => g x ρ S) σ H Q) :
    up K mg W fa σ H fun x H1 => ∃ B m ρ S dx, Rl K mg B m H1 S ∧ RepE K H1 (Fo B m S) m σ ρ ∧ Rep K H1 (Fo B m S) m x dx ∧ finI K mg W B m S σ H1 (g dx ρ S) Q := by
  obtain ⟨B, m, ρ, S, r, re, f⟩ := h
  refine ⟨B, m, ρ, S, r, re, fin.mono (fin.bindI f) fun v H1 => ?_⟩
  rintro ⟨m1, S1, d, p, q, f1⟩
  exact ⟨B, m1, ρ, S1, d, p.rl, re.kp (p.kp r), q, f1⟩
theorem iv_seq (h : EV X W e fe) : IV X W tg e (iSeq fe) := by
  refine ⟨fun pins s σ H Q I h0 => ?_⟩
  -- whichever it is: told by the value
  have h1 := upI_one (g := fun d ρ S => match d with | .tup xs => .ok xs S | .lst xs => .ok xs S | .dic false kvs => .ok (kvs.map (·.1)) S | _ => .bad) h0
  refine thn (h.run pins s σ H _ I h1) fun v s1 ⟨x, H1, I1, r1, B, m, ρ, S, dx, r, re, rx, f⟩ => ?_
  cases dx with
  | tup xs =>
    cases rx with
    | @tup a vs _ h z q =>
      cases r1
      obtain ⟨its, rv, p, hz⟩ := I1.tuple h
      refine wpAny_pyIter_tuple (show s1.heap.IsTuple a its.toArray from p) ?_
      refine ⟨s1.heap.objs.size, [s1.heap.objs.size], _, _, H1, rfl, I1.kept (t' := s1.toks) fun b o e => Heap.get?_push_of_some _ e, turn_tuple a _, ⟨_, Heap.get?_push_size _ rfl, rfl, rfl⟩, fun b hb => ?_, f m H1 _ (Post.refl r) (itr_tup r h q)⟩
      have e : b = s1.heap.objs.size := by simpa using hb
      subst e
      exact I1.fpOk (Nat.le_refl _) (I1.hok.fresh (Nat.le_refl _))
  | lst xs =>
    cases rx with
    | @lst a vs _ h nf z q =>
      cases r1
      obtain ⟨its, rv, p, hz⟩ := I1.list (SqL.of (K := X.K) h)
      refine wpAny_pyIter_list p.isList ?_
      refine ⟨s1.heap.objs.size, [s1.heap.objs.size], _, _, H1, rfl, I1.kept (t' := s1.toks) fun b o e => Heap.get?_push_of_some _ e, turn_list a _, ⟨_, Heap.get?_push_size _ rfl, rfl, rfl⟩, fun b hb => ?_, f m H1 _ (Post.refl r) (itr_list r h nf q)⟩
      have e : b = s1.heap.objs.size := by simpa using hb
      subst e
      exact I1.fpOk (Nat.le_refl _) (I1.hok.fresh (Nat.le_refl _))
  | dic t kvs =>
    cases t with
    | true => exact f.elim
    | false =>
      cases rx with
      | @dK a kv _ h z e q =>
        obtain ⟨o, hd⟩ := h
        obtain rfl : v = Value.ref a := r1
        obtain ⟨hs, hgd, hx, es, ep, vs, hdt, hsz, kv', hm⟩ := I1.frzK hd
        refine iter_keys hs hgd hx hdt (pi_one (tk := s1.toks) I1 _ (turn_keys _ hdt) ⟨_, Heap.get?_push_size _ rfl, rfl, ?_⟩ (f m H1 _ (Post.refl r) (itr_keys hd (kr_of e q))))
        rw [hsz] <;> rfl
  | _ => exact f.elim
theorem iv_rng1 (hg : Gl X "range") (hm : X.mg "range" = none) (ha : EV X W e fe) (hs : starEach [e] X.env = [(false, eval e X.env)] := by rfl) : IV X W tg (.Call (.Name "range" p) [e] [] pos) (iRng1X fe) := by
  refine pi_imp (pi_range1 hg hm (pa_cons ha pa_nil hs) hs) fun σ H Q h => ?_
  obtain ⟨B, m, ρ, S, r, re, f⟩ := upI_one (g := fun d ρ S => match d with | .int j => if -(2 ^ 62) ≤ j ∧ j < 2 ^ 62 then .ok (iRng 0 j) S else .bad | _ => .bad) h
  refine ⟨B, m, ρ, S, r, re, f.mono fun x H1 => ?_⟩
  rintro ⟨B, m, ρ, S, dx, r, re, rx, f⟩
  cases dx with
  | int j =>
    cases rx
    dsimp only at f
    split at f
    · rename_i hj
      refine ⟨j, rfl, hj.1, hj.2, f m H1 _ (Post.refl r) ?_⟩
      have := itr_rng (K := X.K) (Fb := Fo B m S) (m := m) (H := H1) (a := 0) (b := j)
      rwa [show (j - 0) = j by omega] at this
    · exact f.elim
  | _ => exact f.elim
end
def loopS (t : Tg) (b : Sx) : List D → Sx
  | [], ρ, S => .fl (.nx ρ) S
  | d :: ds, ρ, S => match t.put d ρ with
    | none => .bad
    | some ρ1 => match b ρ1 S with
      | .fl (.nx ρ2) S2 => loopS t b ds ρ2 S2
      | .fl (.ct ρ2) S2 => loopS t b ds ρ2 S2
      | .fl (.bk ρ2) S2 => .fl (.nx ρ2) S2
      | .fl (.rt d) S2 => .fl (.rt d) S2
      | .exc c p ρ2 S2 => .exc c p ρ2 S2
      | .bad => .bad
def sFor (it : Ix) (t : Tg) (b : Sx) : Sx := fun ρ S => (it ρ S).bindS ρ fun xs S => loopS t b xs ρ S
section
variable {X : Cx} {W : WX} {tg iter : Expr} {fi : Ix} {t : Tg} {body : List Stmt} {b : Sx} {pos : Pos}
theorem sv_for (hp : PassesOwn (model X.prog X.w) X.A X.env X.xe) (hc : X.calm = true) (hi : IV X W tg iter fi) (hg : GV X tg t) (hb : SVs X W body b) (hs : ∀ x, foldedSetIterable iter X.env x = pure x := by intro _; rfl) :
    SV X W (.For tg iter body [] pos) (sFor fi t b) := by
  refine ps_imp (ps_for hp hc hi hg hb hs) fun E σ H h => ?_
  obtain ⟨B, m, ρ, S, r, re, f⟩ := h
  refine ⟨B, m, ρ, S, r, re, finI.mono (finI.bindS re r f) fun J H1 => ?_⟩
  rintro ⟨m1, S1, xs, p1, itr, f1⟩
  refine ⟨fun i n σ H => n = xs.length - i ∧ i ≤ xs.length ∧ ∃ m2 S2 ρ2, Post X.K X.mg B m1 S1 H1 m2 S2 H ∧ RepE X.K H (Fo B m2 S2) m2 σ ρ2 ∧ finS X.K X.mg W B m2 S2 H (loopS t b (xs.drop i) ρ2 S2) E,
    ⟨xs.length, by simp, Nat.zero_le _, m1, S1, ρ, Post.refl p1.rl, re.kp (p1.kp r), by simpa using f1⟩, ?_⟩
  rintro i n σ2 H2 ⟨rfl, hi, m2, S2, ρ2, p2, re2, f2⟩
  obtain ⟨go, stop⟩ := itr H2 _ m2 (p2.kp p1.rl)
  by_cases hlt : i < xs.length
  · right
    refine ⟨(go i hlt).1, fun σ' H' => ∃ m3 S3 ρ3, Post X.K X.mg B m1 S1 H1 m3 S3 H' ∧ RepE X.K H' (Fo B m3 S3) m3 σ' ρ3 ∧ finS X.K X.mg W B m3 S3 H' (loopS t b (xs.drop (i + 1)) ρ3 S3) E, ?_, ?_⟩
    · rintro σ' H' ⟨m3, S3, ρ3, p3, re3, f3⟩
      exact ⟨_, by omega, rfl, hlt, m3, S3, ρ3, p3, re3, f3⟩
    · intro x H3 y
      obtain ⟨d, ed, sm, rx⟩ := (go i hlt).2 x H3 y
      have p3 : Post X.K X.mg B m2 S2 H2 m2 S2 H3 := Post.grow p2.rl sm
      have f3 := finS.later p3 f2
      have re3 := re2.kp (p3.kp p2.rl)
      rw [List.drop_eq_getElem_cons hlt] at f3
      have ed' : xs[i] = d := by
        have := List.getElem?_eq_getElem hlt
        rw [this] at ed
        exact Option.some.inj ed
      rw [ed'] at f3
      unfold loopS at f3
      cases e1 : t.put d ρ2 with
      | none => rw [e1] at f3; exact f3.elim
      | some ρ4 =>
        rw [e1] at f3
        dsimp only at f3
        refine Tg.rd_ok t e1 rx re3 fun σ4 re4 => ?_
        refine ⟨B, m2, ρ4, S2, p3.rl, re4, ?_⟩
        cases e2 : b ρ4 S2 with
        | bad => rw [e2] at f3; exact f3.elim
        | exc c p ρ5 S5 => rw [e2] at f3; exact f3
        | fl fl S5 =>
          rw [e2] at f3
          cases fl with
          | nx ρ5 => exact fun m5 H5 σ5 p5 re5 => ⟨m5, S5, ρ5, (p2.trans p3).trans p5, re5, finS.later p5 f3⟩
          | ct ρ5 => exact fun m5 H5 σ5 p5 re5 => ⟨m5, S5, ρ5, (p2.trans p3).trans p5, re5, finS.later p5 f3⟩
          | bk ρ5 => exact fun m5 H5 σ5 p5 re5 => f3 m5 H5 σ5 p5 re5
          | rt d => exact f3
  · left
    have hd : xs.drop i = [] := List.drop_eq_nil_of_le (by omega)
    rw [hd] at f2
    exact ⟨stop i (by omega), f2 m2 H2 σ2 (Post.refl p2.rl) re2⟩
end
end DL
set_option Elab.async false
set_option linter.all false
set_option maxRecDepth 100000
set_option maxHeartbeats 4000000
namespace DL
open PySem PySem.Spec PyProof.Rows L2
/-- room for k levels; no guard of a repr stands -/
structure Room (k : Nat) (A : Around) : Prop where
  r : L2.Room k A
  g : A.guards = some []
theorem Room.mono {j k : Nat} {A : Around} (x : DL.Room k A) (h : j ≤ k) : DL.Room j A := ⟨x.r.mono h, x.g⟩
theorem Room.deeper {k : Nat} {A : Around} (x : DL.Room (k + 1) A) (env : Env) : DL.Room k (A.deeper env) := ⟨x.r.deeper env, x.g⟩
theorem Room.units {k : Nat} {A : Around} (x : DL.Room k A) : A.units + 64 < cLine := x.r.units
/-- what a def promises, called where there is room -/
structure FnOk (P : Program) (w : World) (K : PySem.W.Frag) (mg : Str → Option Value) (base : Heap) (CX : CXT) (k : Nat) (f : Addr) (fd : FuncData) (ps : List Str) (sp : Sp) : Prop where
  len : ∀ xs H Q E, sp xs H Q E → xs.length = ps.length
  run : ∀ (B : Around) (ol : List Env) (s : Shared) (H : Hp) (ar : Args) (ys : List Value) (xs : List V) (Q : VK) (E : XK), DL.Room k B → Env0 P w K mg base B ol s H → BindsTo s fd ar (ps.zip ys) → Vals xs ys → sp xs H Q E →
    codeAny (model P w) B (.call (.ref f) ar) (CR CX ol P w H s Q E) s
section
variable {P : Program} {w : World} {K : PySem.W.Frag} {mg : Str → Option Value} {base : Heap} {CX : CXT} {k j : Nat} {f : Addr} {fd : FuncData} {N ps : List Str} {sp sp' : Sp}
theorem FnOk.mono (F : DL.FnOk P w K mg base CX j f fd ps sp) (h : j ≤ k) : DL.FnOk P w K mg base CX k f fd ps sp where
  len := F.len
  run := fun B ol s H ar ys xs Q E hb => F.run B ol s H ar ys xs Q E (hb.mono h)
theorem FnOk.imp (F : DL.FnOk P w K mg base CX k f fd ps sp) (h : ∀ xs H Q E, sp' xs H Q E → sp xs H Q E) : DL.FnOk P w K mg base CX k f fd ps sp' where
  len := fun xs H Q E q => F.len xs H Q E (h xs H Q E q)
  run := fun B ol s H ar ys xs Q E hb he hbi hv q => F.run B ol s H ar ys xs Q E hb he hbi hv (h xs H Q E q)
/-- a def by its body -/
theorem fn_body {name qual : Str} {params : Arguments} {body : List Stmt} {scope : Scope} {dV kV doc pm cdv ct oc : Value} {an od : Option Addr} {osl : Array (Option Value)}
    (look : K.lookup f = some ⟨oc, od, .func (PySem.W.fnOf name qual params body scope dV kV doc pm an cdv ct), osl⟩) (code : PySem.W.codeIn K cdv qual = true) (sc : FnScope N ps scope)
    (hlen : ∀ xs H Q E, sp xs H Q E → xs.length = ps.length)
    (bod : ∀ (B : Around) (ol : List Env) (s : Shared) (H : Hp) (xs : List V) (Q : VK) (E : XK), DL.Room k (B.deeper (envOfC qual scope s.heap.objs.size f cdv)) → sp xs H Q E →
      ∃ rd, PSs (cxOf CX P w K mg base N qual scope f cdv B ol s H E) body rd ∧ rd { nx := fun _ H2 => Q .non H2, rt := Q } (start N xs) H) :
    DL.FnOk P w K mg base CX (k + 1) f (PySem.W.fnOf name qual params body scope dV kV doc pm an cdv ct) ps sp := by
  refine ⟨hlen, ?_⟩
  intro B ol s H ar ys xs Q E room en bi rel want
  have many := hlen _ _ _ _ want
  have inK : K.In s.heap := en.mod.kin.keeps fun c ob z => (en.bs c ob z).1
  have noLim : s.heap.NoLimit := en.mod.nolimit.keeps fun c ob z => (en.bs c ob z).1
  have kinds : ∀ z ∈ ps.zip ys, scope.names.lookup z.1 = some .local ∨ (scope.names.lookup z.1 = some .cell ∧ ((cellsFrom (s.heap.objs.size + 1) scope.names []).lookup z.1).isSome = true) := by
    rintro ⟨nm, vl⟩ hz
    cases sc.par nm (List.of_mem_zip hz).1 with
    | inl q => exact Or.inl q
    | inr q => exact Or.inr ⟨q, PySem.W.cellsFrom_some _ _ _ (Or.inl q)⟩
  refine codeAny_call_function room.r.depth (inK _ _ look) rfl sc.co sc.gen rfl (PySem.W.codeRec_of inK code) (bi _ _ _ _ ?_)
  refine wpAny_newFunctionEnv_cells sc.kind kinds ?_
  rintro env rfl s1 inc
  refine ⟨noLim.keeps inc.toInCall.keep, codeAny_func ?_⟩
  obtain ⟨rd, hrd, hw⟩ := bod B ol s H xs Q E (room.deeper _) want
  have J0 : Inv (cxOf CX P w K mg base N qual scope f cdv B ol s H E) [] (start N xs) H s1 := inv_start sc room.r.hd en many rel inc
  have close : ∀ {σ2 : L2.St} {H2 : Hp} {v : V} {u : Value} {s2 : Shared}, Inv (cxOf CX P w K mg base N qual scope f cdv B ol s H E) [] σ2 H2 s2 → RelV v u → Q v H2 → CE ol P w H s Q u s2 := by
    intro σ2 H2 v u s2 J rv q
    exact ⟨v, H2, J.os, J.bare, J.base, J.hok, rv, q⟩
  refine wpAny_mono (hrd.run [] s1 (start N xs) H _ J0 hw) ?_ (fun er s2 z => z)
  intro flow s2 hs2
  cases flow with
  | next =>
    obtain ⟨σ2, H2, J, q⟩ := hs2
    exact close (v := V.non) (u := Value.none) J rfl q
  | ret u =>
    obtain ⟨v, σ2, H2, J, rv, q⟩ := hs2
    exact close J rv q
  | brk => exact (hs2.elim fun _ z => z.elim fun _ z => z.2 : False).elim
  | cont => exact (hs2.elim fun _ z => z.elim fun _ z => z.2 : False).elim
theorem funD_ok {x qual : Str} {params : Arguments} {body : List Stmt} {scope : Scope} {dvs : List V} {kws : List (Str × V)} (F : FunD K x qual params body scope dvs kws f fd) (sc : FnScope N ps scope) (hlen : ∀ xs H Q E, sp xs H Q E → xs.length = ps.length)
    (bod : ∀ (cdv : Value) (B : Around) (ol : List Env) (s : Shared) (H : Hp) (xs : List V) (Q : VK) (E : XK), DL.Room k (B.deeper (envOfC qual scope s.heap.objs.size f cdv)) → sp xs H Q E →
      ∃ rd, PSs (cxOf CX P w K mg base N qual scope f cdv B ol s H E) body rd ∧ rd { nx := fun _ H2 => Q .non H2, rt := Q } (start N xs) H) : DL.FnOk P w K mg base CX (k + 1) f fd ps sp := by
  obtain ⟨_, _, _, _, _, _, _, cdv, _, _, rfl, look, code, _, _⟩ := F.ex
  exact fn_body look code sc hlen fun B ol s H xs Q E hr want => bod cdv B ol s H xs Q E hr want
end
section
variable {X : Cx} {CX : CXT} {k : Nat} {f : Addr} {fd : FuncData} {ps : List Str} {sp : Sp} {E : L2.St → XK} {x : Str} {p pos : Pos} {e : Expr} {es : List Expr} {t : TA} {dvs : List V} {ds : List Value}
/-- the callee runs; ds the defaults that fill up -/
theorem run_call {pins : List (Addr × Obj)} {σ : L2.St} {H : Hp} {s : Shared} {Q : VK} {ys : List Value} {xs : List V} (F : DL.FnOk X.prog X.w X.K X.mg X.base CX k f fd ps sp) (room : DL.Room k X.A) (bi : Binds X.K fd ps ds) (hd : Vals dvs ds) (pass : PassesAt CX X σ (E σ))
    (J : Inv X pins σ H s) (rel : Vals xs ys) (want : sp (xs ++ dvs) H Q (E σ)) : wpAny (model X.prog X.w) X.A (call (.ref f) ys) (EP X pins σ Q) X.xe s := by
  have rel2 := rel.append hd
  have many : (ys ++ ds).length = ps.length := by rw [← rel2.length]; exact F.len _ _ _ _ want
  refine wpAny_call (codeAny_mono (F.run X.A X.stack s H ⟨ys, []⟩ (ys ++ ds) (xs ++ dvs) Q (E σ) room J.env0 (bi s ys J.kIn many) rel2 want) ?_)
  intro res s2 hres
  match res, hres with
  | .ok (.ret u), hres => exact J.after hres
  | .ok .next, hres => exact False.elim hres
  | .ok .brk, hres => exact False.elim hres
  | .ok .cont, hres => exact False.elim hres
  | .error er, hres => exact pass pins H s er s2 J hres
def tCallG (sp : Sp) (dvs : List V) (E : L2.St → XK) (t : TA) : TE := fun σ H Q => t σ H fun xs H1 => sp (xs ++ dvs) H1 Q (E σ)
theorem pe_callG (F : DL.FnOk X.prog X.w X.K X.mg X.base CX k f fd ps sp) (room : DL.Room k X.A) (hg : Gl X x) (hm : X.mg x = some (.ref f)) (hk : PySem.W.keepIn X.K (.ref f) = true) (bi : Binds X.K fd ps ds) (hd : Vals dvs ds) (pass : ∀ σ, PassesAt CX X σ (E σ))
    (ha : PA X (e :: es) t) (hdb : (x == ("__debug__" : Str)) = false := by decide) (hse : starEach (e :: es) X.env = (false, eval e X.env) :: starEach es X.env := by rfl) (hpl : (backTo pos (starEach es X.env)).any (·.1) = false := by rfl) :
    PE X (.Call (.Name x p) (e :: es) [] pos) (tCallG sp dvs E t) := ⟨fun pins s σ H Q J want =>
  wpAny_Call_Name_kw (ld_glob J hg hm (PySem.W.callWith_K (h₀ := X.base) J.ok.mod.kin hk (thn (ha.run pos pins s σ H _ J want) fun ys s1 ⟨xs, H1, J1, rel, q⟩ => ⟨J1.kIn, run_call F room bi hd (pass σ) J1 rel q⟩) hse hpl) hdb)⟩
end
section
variable {X : Cx} {CX : CXT} {k : Nat} {f : Addr} {fd : FuncData} {ps : List Str} {sp : Sp} {E : L2.St → XK} {x : Str} {p pos : Pos} {e : Expr} {es : List Expr} {t : TA}
theorem pe_callD1 (F : DL.FnOk X.prog X.w X.K X.mg X.base CX k f fd ps sp) (room : DL.Room k X.A) (hg : Gl X x) (hm : X.mg x = some (.ref f)) (hk : PySem.W.keepIn X.K (.ref f) = true) (bi : Binds X.K fd ps []) (pass : ∀ σ, PassesAt CX X σ (E σ))
    (ha : PA X (e :: es) t) (hdb : (x == ("__debug__" : Str)) = false := by decide) (hse : starEach (e :: es) X.env = (false, eval e X.env) :: starEach es X.env := by rfl) (hpl : (backTo pos (starEach es X.env)).any (·.1) = false := by rfl) :
    PE X (.Call (.Name x p) (e :: es) [] pos) (fun σ H Q => t σ H fun xs H1 => sp xs H1 Q (E σ)) := by
  have z := pe_callG (p := p) (dvs := []) F room hg hm hk bi .nil pass ha hdb hse hpl
  refine pe_imp z fun σ H Q h => ?_
  unfold tCallG
  simp only [List.append_nil]
  exact h
end
/-- the law's call -/
theorem law_run {P : Program} {w : World} {K : PySem.W.Frag} {mg mb : Str → Option Value} {CX : CXT} {k : Nat} {fa a : Addr} {fd : FuncData} {x : Str} {sp : Sp} {t : Shared} {us : List Value} {ns : List Int}
    (inK : K.In t.heap) (nsm : t.heap.Ns mainGlobals mg) (nsb : t.heap.Ns builtinsNs mb) (bbs : ∀ x : Str, x ≠ "__name__" → mb x = bootBuiltins x) (noLim : t.heap.NoLimit) (gns : t.gens = #[])
    (scr : t.heap.get? a = some { cls := .type "list", data := .seq us.toArray }) (isI : IntsAre us ns) (small : ns.length ≤ sizeLine) (room : DL.Room k callerA)
    (F : ∀ base : Heap, K.In base → base.Ns mainGlobals mg → DL.FnOk P w K mg base CX k fa fd [x] sp) (bi : ∀ (s : Shared) (u : Value), BindsTo s fd ⟨[u], []⟩ [(x, u)])
    (want : ∀ H : Hp, L2.Only H → SqL K H a (ns.map V.int) → sp [.ref a] H (fun v _ => v = .bl true) fun _ _ _ => False)
    (noEx : ∀ H e s', CX [] H t (fun _ _ _ => False) e s' → False) :
    codeAny (model P w) callerA (.call (.ref fa) ⟨[.ref a], []⟩) (fun r s' => r = .ok (.ret (.bool true)) ∧ OldK t.heap s'.heap ∧ s'.os = t.os ∧ AllBare s'.gens) t := by
  have relI := vals_ints isI
  have go : ∀ H : Hp, L2.Only H → SqL K H a (ns.map V.int) → HOk P w H t.heap → (∀ c, H c ≠ none → c = a) → (H a ≠ none → K.lookup a = none) →
      codeAny (model P w) callerA (.call (.ref fa) ⟨[.ref a], []⟩) (fun r s' => r = .ok (.ret (.bool true)) ∧ OldK t.heap s'.heap ∧ s'.os = t.os ∧ AllBare s'.gens) t := by
    intro H only sq held one apart
    have free : ∀ {c : Addr} {ob : Obj} {es : Array DictEntry} {ep : Nat}, t.heap.get? c = some ob → ob.data = .dict es ep → H c = none := by
      intro c ob es ep e dt
      cases hc : H c with
      | none => rfl
      | some u =>
        obtain rfl : c = a := one c (by simp [hc])
        rw [scr] at e
        cases e
        exact nomatch (show Data.seq us.toArray _ = Data.dict es ep from dt)
    have keepN : ∀ {c : Addr} {m : Str → Option Value}, t.heap.Ns c m → (hidT t.heap H).Ns c m := by
      rintro c m ⟨ob, es, ep, e, dt, rest⟩
      exact ⟨ob, es, ep, hidT_get e (free e dt), dt, rest⟩
    have keepK : K.In (hidT t.heap H) := by
      intro c ob e
      refine hidT_get (inK c ob e) ?_
      cases hc : H c with
      | none => rfl
      | some u =>
        obtain rfl : c = a := one c (by simp [hc])
        have z := apart (by simp [hc])
        rw [z] at e
        cases e
    have md : Mod K mg (hidT t.heap H) := by
      refine ⟨keepK, keepN nsm, ⟨mb, keepN nsb, bbs⟩, ?_⟩
      obtain ⟨mc, q1, q2⟩ := noLim
      exact ⟨mc, keepN q1, q2⟩
    have en : Env0 P w K mg (hidT t.heap H) callerA [] t H := ⟨rfl, md, fun c ob e => of_hidT e, Nat.le_of_eq (hidT_size _ _), trivial, fun c hc => (List.not_mem_nil (show c ∈ ([] : List Addr) from hc)).elim, held, .of_eq gns⟩
    refine codeAny_mono ((F _ keepK (keepN nsm)).run callerA [] t H ⟨[.ref a], []⟩ [.ref a] [.ref a] _ _ room en (bi t (.ref a)) (.cons rfl .nil) (want H only sq)) ?_
    intro res s2 hres
    match res, hres with
    | .error er, hres => exact (noEx H er s2 hres).elim
    | .ok .next, hres => exact False.elim hres
    | .ok .brk, hres => exact False.elim hres
    | .ok .cont, hres => exact False.elim hres
    | .ok (.ret u), hres =>
      obtain ⟨v, H2, hos, hbare, un, held2, rv, (rfl : v = .bl true)⟩ := hres
      cases (show u = Value.bool true from rv)
      refine ⟨rfl, OldK.of_keep ?_, hos, hbare⟩
      intro c ob e
      cases hc : H c with
      | none => exact un.keep c ob e hc (fun z => List.not_mem_nil (show c ∈ ([] : List Addr) from z)) (List.not_mem_nil)
      | some u =>
        rcases only c with z | ⟨o2, ys, z⟩
        · rw [hc] at z
          cases z
        · obtain ⟨g1, _⟩ := held c _ z
          obtain ⟨g2, _⟩ := held2 c _ (un.frzs c o2 _ z)
          rw [e] at g1
          cases g1
          exact g2
  cases hk : K.lookup a with
  | some ob =>
    have z := inK a ob hk
    rw [scr] at z
    cases z
    have sq : SqL K (fun _ => none) a (ns.map V.int) := Or.inr ⟨_, us.toArray, _, hk, rfl, rfl, rfl, by rw [List.size_toArray, isI.length]; exact small, by simpa using relI⟩
    exact go (fun _ => none) (fun _ => Or.inl rfl) sq (fun c u z => nomatch (show (none : Option HO) = some u from z)) (fun c z => (z rfl).elim) fun z => (z rfl).elim
  | none =>
    obtain ⟨ob, hob⟩ : ∃ ob : Obj, ob = { cls := .type "list", data := .seq us.toArray } := ⟨_, rfl⟩
    rw [← hob] at scr
    have atA : (upd (fun _ => none) a (.frz ob (.lst (ns.map V.int))) : Hp) a = some (.frz ob (.lst (ns.map V.int))) := upd_same
    have off : ∀ c, c ≠ a → (upd (fun _ => none) a (.frz ob (.lst (ns.map V.int))) : Hp) c = none := fun c hc => upd_ne hc
    refine go (upd (fun _ => none) a (.frz ob (.lst (ns.map V.int)))) ?_ (Or.inl (Or.inr ⟨ob, atA⟩)) ?_ ?_ (fun _ => hk)
    · intro c
      by_cases hc : c = a
      · subst hc
        exact Or.inr ⟨_, _, atA⟩
      · exact Or.inl (off c hc)
    · intro c u z
      by_cases hc : c = a
      · subst hc
        rw [atA] at z
        cases z
        exact ⟨scr, by rw [List.length_map]; exact small, us, _, relI, by rw [scr, hob]⟩
      · rw [off c hc] at z
        cases z
    · intro c z
      by_cases hc : c = a
      · exact hc
      · exact (z (off c hc)).elim
theorem walk_ofG {l : PySem.W.OpenLaw} {n k : Nat} {q : Program} {loose : List Str} {XP : (Str → Option Value) → Heap → Prop} {YP : World → Heap → Prop} {d : DefRec} {CX : World → CXT} {x : Str}
    (hn : l.most = some n) (hn2 : n ≤ sizeLine) (hdf : d.params.defaults = []) (room : DL.Room k callerA)
    (F : ∀ (w : World) (mg : Str → Option Value) (fa : Addr) (h : Heap), YP w h → h.Ns mainGlobals mg → mg d.name = some (.ref fa) →
      ∃ (K : PySem.W.Frag) (fd : FuncData) (sp : Sp), K.In h ∧ (∀ (s : Shared) (u : Value), BindsTo s fd ⟨[u], []⟩ [(x, u)]) ∧
        (∀ (H : Hp) (a : Addr) (ns : List Int), ns.length ≤ n → L2.Only H → SqL K H a (ns.map V.int) → sp [.ref a] H (fun v _ => v = .bl true) fun _ _ _ => False) ∧
        ∀ base : Heap, K.In base → base.Ns mainGlobals mg → DL.FnOk l.prog w K mg base (CX w) k fa fd [x] sp)
    (noEx : ∀ (w : World) (H : Hp) (s : Shared) (e : Value) (s' : Shared), CX w [] H s (fun _ _ _ => False) e s' → False) :
    PySem.W.WalkO q loose XP YP l.row.toRowW d [] (fun f vs => PySem.call f vs) := by
  refine Att.attach_call hn hdf ?_
  intro w _ t mg _ fa _ _ _ _ a us ns G Y _ _ _ hmg scr isI many gns
  obtain ⟨K, fd, sp, inK, bi, want, hF⟩ := F w mg fa _ Y G.T.g hmg
  exact law_run inK G.T.g G.T.b G.T.builtins G.T.nolimit gns scr isI (Nat.le_trans many hn2) room hF bi (fun H hO hS => want H a ns many hO hS) fun H e s' => noEx w H t e s'
end DL
set_option Elab.async false
set_option linter.all false
set_option maxRecDepth 100000
set_option maxHeartbeats 4000000
namespace DL
open PySem PySem.Spec PyProof.Rows L2
abbrev Fn := List D → Sto → R D
def spD (K : PySem.W.Frag) (mg : Str → Option Value) (n : Nat) (F : Fn) : Sp := fun vs H Q E => ∃ B m S ds, Rl K mg B m H S ∧ RepA K H (Fo B m S) m vs ds ∧ vs.length = n ∧ fin K mg (fun cls dd _ H' => E cls dd H') B m S [] H (F ds S) Q
/-- a def's body -/
def fnB (n : Nat) (b : Sx) : Fn := fun ds S => match b (ds.map some ++ List.replicate (n - ds.length) none) S with
  | .fl (.nx _) S' => .ok .non S'
  | .fl (.rt d) S' => .ok d S'
  | .exc c p _ S' => .exc c p S'
  | _ => .bad
section
variable {K : PySem.W.Frag} {mg : Str → Option Value} {H : Hp} {Fb : Addr → Prop} {m : List Addr}
theorem repE_start {N : List Str} {vs : List V} {ds : List D} (q : RepA K H Fb m vs ds) : RepE K H Fb m (L2.start N vs) (ds.map some ++ List.replicate (N.length - ds.length) none) := by
  have hl := q.length
  refine ⟨by simp [L2.start, hl], fun i d e => ?_⟩
  by_cases hi : i < ds.length
  · rw [List.getElem?_append_left (by simpa using hi)] at e
    rw [List.getElem?_map] at e
    cases e1 : ds[i]? with
    | none => rw [e1] at e; cases e
    | some d' =>
      rw [e1] at e
      cases e
      obtain ⟨v, ev, r⟩ := q.get e1
      refine ⟨v, ?_, r⟩
      unfold L2.start
      rw [List.getElem?_append_left (by simp [hl]; exact hi), List.getElem?_map, ev]
      rfl
  · rw [List.getElem?_append_right (by simpa using hi)] at e
    rw [List.getElem?_replicate] at e
    split at e <;> cases e
end
section
variable {P : Program} {w : World} {K : PySem.W.Frag} {mg : Str → Option Value} {base : Heap}
/-- the wish of a def's body -/
abbrev WB (E : XK) : WX := fun c d _ H => E c d H
end
/-- a call -/
def eFn (F : Fn) (fs : List Ex) : Ex := fun ρ S => (evL fs ρ S).bind fun ds S => F ds S
section
variable {X : Cx} {W : WX} {f : Addr} {fd : FuncData} {ps : List Str} {n k : Nat} {F : Fn} {x : Str} {p pos : Pos} {e : Expr} {es : List Expr} {fs : List Ex}
theorem fin_call {K : PySem.W.Frag} {mg : Str → Option Value} {B : Addr → Prop} {m : List Addr} {S : Sto} {σ : L2.St} {H : Hp} {Q : VK} {r : R D} (h : fin K mg W B m S σ H r Q) : fin K mg (fun cls dd _ H' => WE W σ cls dd H') B m S [] H r Q := by
  cases r with
  | ok d S' => exact h
  | exc c p S' => exact h
  | bad => exact h
theorem ev_fn (FO : DL.FnOk X.prog X.w X.K X.mg X.base (L2.CX X.prog X.w) k f fd ps (spD X.K X.mg n F)) (hr : DL.Room k X.A) (hg : Gl X x) (hm : X.mg x = some (.ref f)) (hk : PySem.W.keepIn X.K (.ref f) = true) (hb : Binds X.K fd ps []) (tk : Takes X W)
    (ha : EVA X W (e :: es) fs) (hn : fs.length = n) (hdb : (x == ("__debug__" : Str)) = false := by decide) (he : starEach (e :: es) X.env = (false, eval e X.env) :: starEach es X.env := by rfl) (hpl : (backTo pos (starEach es X.env)).any (·.1) = false := by rfl) :
    EV X W (.Call (.Name x p) (e :: es) [] pos) (eFn F fs) := by
  refine pe_imp (pe_callD1 FO hr hg hm hk hb (fun σ => passAt tk σ) ha hdb he hpl) fun σ H Q h => ?_
  obtain ⟨B, m, ρ, S, r, re, g⟩ := h
  refine ⟨B, m, ρ, S, r, re, ?_⟩
  -- the number of arguments
  have hl : ∀ (fs : List Ex) (ρ : Ev) (S S' : Sto) (ds : List D), evL fs ρ S = .ok ds S' → ds.length = fs.length := by
    intro fs
    induction fs with
    | nil => intro ρ S S' ds e; unfold evL at e; cases e; rfl
    | cons f fs ih =>
      intro ρ S S' ds e
      unfold evL at e
      cases e1 : f ρ S with
      | bad => rw [e1] at e; cases e
      | exc c p S1 => rw [e1] at e; cases e
      | ok d S1 =>
        rw [e1] at e
        simp only [R.bind] at e
        cases e2 : evL fs ρ S1 with
        | bad => rw [e2] at e; cases e
        | exc c p S1 => rw [e2] at e; cases e
        | ok ds2 S2 =>
          rw [e2] at e
          cases e
          simp [ih ρ S1 _ ds2 e2]
  have g' : fin X.K X.mg W B m S σ H ((evL fs ρ S).bind fun ds S => F ds S) Q := g
  cases e1 : evL fs ρ S with
  | bad => rw [e1] at g'; exact g'.elim
  | exc c p S1 => rw [e1] at g'; exact g'
  | ok ds S1 =>
    rw [e1] at g'
    exact fun m1 H1 vs p q => ⟨B, m1, S1, ds, p.rl, q, by rw [q.length, hl _ _ _ _ _ e1, hn], fin_call (fin.later p g')⟩
end
mutual
def noRef : D → Bool
  | .ref _ => false
  | .tup xs => noRefs xs
  | .lst xs => noRefs xs
  | .dic _ kvs => noRefK kvs
  | .exn _ p => noRef p
  | _ => true
def noRefs : List D → Bool
  | [] => true
  | d :: ds => noRef d && noRefs ds
def noRefK : List (D × D) → Bool
  | [] => true
  | (a, b) :: ds => noRef b && noRefK ds
end
/-- a def that asks and tells plain data: run apart -/
def fnP (F : Fn) : Fn := fun ds S => if noRefs ds = true then match F ds [] with
  | .ok d _ => if noRef d = true then .ok d S else .bad
  | .exc c p _ => if noRef p = true then .exc c p S else .bad
  | .bad => .bad else .bad
section
variable {K : PySem.W.Frag} {mg : Str → Option Value} {H : Hp} {Fb Fb' : Addr → Prop} {m m' : List Addr}
mutual
theorem Rep.noRef (hf : ∀ a, Fb' a → Fb a) : ∀ {v : V} {d : D}, Rep K H Fb m v d → noRef d = true → Rep K H Fb' m' v d
  | _, _, .non, _ => .non
  | _, _, .bl b, _ => .bl b
  | _, _, .int i, _ => .int i
  | _, _, .str x, _ => .str x
  | _, _, .tup h z r, e => .tup h z (RepA.noRef hf r (by simpa [DL.noRef] using e))
  | _, _, .lst h f z r, e => .lst h (fun y => f (hf _ y)) z (RepA.noRef hf r (by simpa [DL.noRef] using e))
  | _, _, .dK h z q r, e => .dK h z q (RepA.noRef hf r (noRefK_vals _ (by simpa [DL.noRef] using e)))
  | _, _, .dT h z q r, e => .dT h z q (RepA.noRef hf r (noRefK_vals _ (by simpa [DL.noRef] using e)))
  | _, _, .ref h, e => by simp [DL.noRef] at e
  | _, _, .raw v, _ => .raw v
  | _, _, .scr h z, _ => .scr (h.imp (fun h => ⟨h.1, fun y => h.2 (hf _ y)⟩) id) z
  | _, _, .exn h f, _ => .exn h (fun y => f (hf _ y))
  | _, _, .exp h f h2 f2 n r, e => .exp h (fun y => f (hf _ y)) h2 (fun y => f2 (hf _ y)) n (Rep.noRef hf r (by simpa [DL.noRef] using e))
theorem RepA.noRef (hf : ∀ a, Fb' a → Fb a) : ∀ {vs : List V} {ds : List D}, RepA K H Fb m vs ds → noRefs ds = true → RepA K H Fb' m' vs ds
  | _, _, .nil, _ => .nil
  | _, _, .cons h r, e => by
    have e' := Bool.and_eq_true_iff.mp (by simpa [DL.noRefs] using e : (DL.noRef _ && DL.noRefs _) = true)
    exact .cons (Rep.noRef hf h e'.1) (RepA.noRef hf r e'.2)
theorem noRefK_vals : ∀ (kvs : List (D × D)), noRefK kvs = true → noRefs (kvs.map (·.2)) = true
  | [], _ => by simp [noRefs]
  | (a, b) :: r, e => by
    simp only [noRefK, Bool.and_eq_true] at e
    simp [noRefs, e.1, noRefK_vals r e.2]
end
/-- run apart: what a caller sees -/
theorem Post.apart {B : Addr → Prop} {m m' : List Addr} {S S' : Sto} {H H' : Hp} (r : Rl K mg B m H S) (p : Post K mg (Fo B m S) [] [] H m' S' H') : Post K mg B m S H m S H' ∧ ∀ v d, Rep K H' (Fo (Fo B m S) m' S') m' v d → DL.noRef d = true → Rep K H' (Fo B m S) m v d := by
  have sm : Same H H' := fun a o e => p.keep a o e fun ⟨n, o, e1, e2⟩ => by simp at e1
  exact ⟨Post.grow r sm, fun v d h e => h.noRef (fun a z => .inl z) e⟩
theorem spP_of {n : Nat} {F : Fn} (vs : List V) (H : Hp) (Q : VK) (E : XK) (h : spD K mg n (fnP F) vs H Q E) : spD K mg n F vs H Q E := by
  obtain ⟨B, m, S, ds, r, q, e, g⟩ := h
  unfold fnP at g
  split at g
  · rename_i hd
    refine ⟨Fo B m S, [], [], ds, ⟨rfl, List.nodup_nil, fun a ⟨n, o, e1, e2⟩ => by simp at e1, fun a z => ?_, fun a z => by simp at z, fun n a o e1 e2 => by simp at e1⟩, q.noRef (fun a z => z.elim id fun ⟨n, o, e1, e2⟩ => by simp at e1) hd, e, ?_⟩
    · intro z2
      exact fr_of r a z2 z
    · cases e1 : F ds [] with
      | bad => rw [e1] at g; exact g.elim
      | ok d S' =>
        rw [e1] at g
        dsimp only at g
        split at g
        · rename_i hn
          intro m' H' v p rv
          obtain ⟨p2, k⟩ := Post.apart r p
          exact g m H' v p2 (k v d rv hn)
        · exact g.elim
      | exc c pl S' =>
        rw [e1] at g
        dsimp only at g
        split at g
        · rename_i hn
          intro m' H' cls dd p x
          obtain ⟨p2, k⟩ := Post.apart r p
          refine g m H' cls dd p2 ?_
          obtain ⟨C, h1, h2, h3⟩ := x
          refine ⟨C, h1, h2, h3.imp id ?_⟩
          rintro ⟨h0, a, v, h4, h5, h6⟩
          exact ⟨h0, a, v, h4, h5, k v pl h6 hn⟩
        · exact g.elim
  · exact g.elim
end
def R.nox {α : Type} : R α → R α
  | .ok a S => .ok a S
  | _ => .bad
def wipeD (ρ : Ev) : List Nat → Ev
  | [] => ρ
  | v :: vs => (wipeD ρ vs).set v none
def compL (t : Tg) (tt : Tx) (e : Ex) (vs : List Nat) : List D → Ev → Sto → List D → R (List D)
  | [], _, S, acc => .ok acc S
  | d :: ds, ρ, S, acc => match t.put d (wipeD ρ vs) with
    | none => .bad
    | some ρ1 => (tt ρ1 S).nox.bind fun b S => if b = true then (e ρ1 S).nox.bind fun y S => if acc.length < sizeLine then compL t tt e vs ds ρ S (acc ++ [y]) else .bad else compL t tt e vs ds ρ S acc
def tYesX : Tx := fun _ S => .ok true S
def eComp (it : Ix) (t : Tg) (tt : Tx) (e : Ex) (vs : List Nat) : Ex := fun ρ S => (it ρ S).bind fun xs S => (compL t tt e vs xs ρ S []).bind fun acc S => .ok (.lst acc) S
theorem tg_puts_len : ∀ (ts : List Tg) {ds : List D} {ρ ρ' : Ev}, Tg.puts ts ds ρ = some ρ' → ts.length = ds.length
  | [], [], _, _, _ => rfl
  | [], _ :: _, _, _, e => by simp [Tg.puts] at e
  | _ :: _, [], _, _, e => by simp [Tg.puts] at e
  | t :: ts, d :: ds, ρ, ρ', e => by
    simp only [Tg.puts] at e
    split at e
    · rename_i ρ1 e1
      simp [tg_puts_len ts e]
    · cases e
mutual
def Tg.sl : Tg → List Nat
  | .nm i => [i]
  | .tp ts => Tg.sls ts
def Tg.sls : List Tg → List Nat
  | [] => []
  | t :: ts => t.sl ++ Tg.sls ts
end
section
variable {K : PySem.W.Frag} {H : Hp} {Fb : Addr → Prop} {m : List Addr}
mutual
theorem Tg.rd_okP {A : L2.St → Prop} : ∀ (t : Tg) {v : V} {d : D} {σ : L2.St} {ρ ρ' : Ev} {Q : L2.St → Hp → Prop}, (∀ σ i v, i ∈ t.sl → A σ → A (σ.set i (some v))) → t.put d ρ = some ρ' → Rep K H Fb m v d → RepE K H Fb m σ ρ → A σ → (∀ σ', RepE K H Fb m σ' ρ' → A σ' → Q σ' H) → Tg.rd K t v σ H Q
  | .nm i, v, d, σ, ρ, ρ', Q, hA, e, r, re, a, q => by
    simp only [Tg.put, Option.some.injEq] at e
    subst e
    exact q _ (re.set r) (hA _ _ _ (by simp [Tg.sl]) a)
  | .tp ts, v, d, σ, ρ, ρ', Q, hA, e, r, re, a, q => by
    cases d with
    | tup ds =>
      cases r with
      | tup h z rr =>
        have e' : Tg.puts ts ds ρ = some ρ' := by simpa [Tg.put] using e
        exact ⟨_, _, rfl, h, by rw [rr.length]; exact (tg_puts_len ts e').symm, Tg.rds_okP ts (by simpa [Tg.sl] using hA) e' rr re a q⟩
    | _ => simp [Tg.put] at e
theorem Tg.rds_okP {A : L2.St → Prop} : ∀ (ts : List Tg) {vs : List V} {ds : List D} {σ : L2.St} {ρ ρ' : Ev} {Q : L2.St → Hp → Prop}, (∀ σ i v, i ∈ Tg.sls ts → A σ → A (σ.set i (some v))) → Tg.puts ts ds ρ = some ρ' → RepA K H Fb m vs ds → RepE K H Fb m σ ρ → A σ → (∀ σ', RepE K H Fb m σ' ρ' → A σ' → Q σ' H) → Tg.rds K ts vs σ H Q
  | [], vs, ds, σ, ρ, ρ', Q, hA, e, r, re, a, q => by
    cases ds with
    | nil =>
      cases r
      simp only [Tg.puts, Option.some.injEq] at e
      subst e
      exact ⟨rfl, q σ re a⟩
    | cons _ _ => simp [Tg.puts] at e
  | t :: ts, vs, ds, σ, ρ, ρ', Q, hA, e, r, re, a, q => by
    cases ds with
    | nil => simp [Tg.puts] at e
    | cons d ds =>
      cases r with
      | cons r rr =>
        simp only [Tg.puts] at e
        split at e
        · rename_i ρ1 e1
          exact ⟨_, _, rfl, Tg.rd_okP t (fun σ i v h => hA σ i v (by simp [Tg.sls, h])) e1 r re a fun σ' re' a' => Tg.rds_okP ts (fun σ i v h => hA σ i v (by simp [Tg.sls, h])) e rr re' a' q⟩
        · cases e
end
theorem wipe_get (σ : L2.St) : ∀ (vs : List Nat) (j : Nat), (wipe σ vs)[j]? = if j ∈ vs ∧ j < σ.length then some none else σ[j]?
  | [], j => by simp [wipe]
  | v :: vs, j => by
    unfold wipe
    rw [List.getElem?_set, wipe_get σ vs j, wipe_length]
    by_cases h1 : v = j
    · subst h1
      by_cases h2 : v < σ.length <;> simp [h2]
    · have : ¬ j = v := fun e => h1 e.symm
      simp [h1, this]
theorem wipe_set {σ : L2.St} {vs : List Nat} {i : Nat} {v : Option V} (h : i ∈ vs) : wipe (σ.set i v) vs = wipe σ vs := by
  apply List.ext_getElem?
  intro j
  rw [wipe_get, wipe_get]
  by_cases h1 : j = i
  · subst h1
    by_cases h2 : j < σ.length <;> simp [h, h2]
  · rw [List.getElem?_set_ne (Ne.symm h1)]
    simp
theorem wipeD_get (ρ : Ev) : ∀ (vs : List Nat) (j : Nat) d, (wipeD ρ vs)[j]? = some (some d) → ρ[j]? = some (some d) ∧ j ∉ vs
  | [], j, d, h => by simpa [wipeD] using h
  | v :: vs, j, d, h => by
    unfold wipeD at h
    rw [List.getElem?_set] at h
    split at h
    · split at h <;> simp at h
    · rename_i hj
      have := wipeD_get ρ vs j d h
      exact ⟨this.1, by simp; exact ⟨fun e => hj e.symm, this.2⟩⟩
theorem wipeD_length (ρ : Ev) : ∀ vs : List Nat, (wipeD ρ vs).length = ρ.length
  | [] => rfl
  | v :: vs => by unfold wipeD; rw [List.length_set, wipeD_length ρ vs]
theorem RepE.wipe {σ : L2.St} {ρ : Ev} (h : RepE K H Fb m σ ρ) (vs : List Nat) : RepE K H Fb m (L2.wipe σ vs) (wipeD ρ vs) := by
  refine ⟨by rw [wipe_length, wipeD_length]; exact h.1, fun i d e => ?_⟩
  obtain ⟨e1, e2⟩ := wipeD_get ρ vs i d e
  obtain ⟨v, ev, r⟩ := h.2 i d e1
  refine ⟨v, ?_, r⟩
  rw [wipe_get, if_neg (fun z => e2 z.1)]
  exact ev
end
abbrev W0 : WX := fun _ _ _ _ => False
theorem fin.nox {K : PySem.W.Frag} {mg : Str → Option Value} {W : WX} {B : Addr → Prop} {m : List Addr} {S : Sto} {σ : L2.St} {H : Hp} {r : R D} {Q : VK} (h : fin K mg W B m S σ H r.nox Q) : fin K mg W0 B m S σ H r Q := by
  cases r with
  | ok d S' => exact h
  | exc c p S' => exact h.elim
  | bad => exact h
theorem R.nox_ok {α β : Type} {r : R α} {g : α → Sto → R β} : (∃ a S, r = .ok a S ∧ r.nox.bind g = g a S) ∨ r.nox.bind g = .bad := by
  cases r with
  | ok a S => exact .inl ⟨a, S, rfl, rfl⟩
  | exc c p S => exact .inr rfl
  | bad => exact .inr rfl
/-- all but what is live: without the state's own rule -/
structure Pc (m : List Addr) (S : Sto) (H : Hp) (m' : List Addr) (S' : Sto) (H' : Hp) : Prop where
  ext : ∃ l, m' = m ++ l ∧ ∀ a, a ∈ l → H a = none
  keep : ∀ a o, H a = some o → ¬ Liv m S a → H' a = some o
  smm : ∀ a, H a ≠ none → H' a ≠ none
  liv : ∀ a, Liv m' S' a → Liv m S a ∨ H a = none
section
variable {K : PySem.W.Frag} {mg : Str → Option Value} {B : Addr → Prop} {m m' m1 m2 : List Addr} {S S' S1 S2 : Sto} {H H' H1 H2 : Hp}
theorem Post.pc (p : Post K mg B m S H m' S' H') : Pc m S H m' S' H' := ⟨p.ext, p.keep, p.smm, p.liv⟩
theorem Pc.trans (p : Pc m S H m1 S1 H1) (q : Pc m1 S1 H1 m2 S2 H2) : Pc m S H m2 S2 H2 := by
  refine ⟨?_, fun a o h hl => ?_, fun a h => q.smm a (p.smm a h), fun a h => ?_⟩
  · obtain ⟨l, e, f⟩ := p.ext
    obtain ⟨l', e', f'⟩ := q.ext
    refine ⟨l ++ l', by rw [e', e, List.append_assoc], fun a h => ?_⟩
    rcases List.mem_append.mp h with h | h
    · exact f a h
    · have z := f' a h
      cases q2 : H a with
      | none => rfl
      | some o => exact absurd z (p.smm a (by rw [q2]; simp))
  · refine q.keep a o (p.keep a o h hl) fun l1 => ?_
    rcases p.liv a l1 with z | z
    · exact hl z
    · rw [h] at z; cases z
  · rcases q.liv a h with z | z
    · exact p.liv a z
    · right
      cases q2 : H a with
      | none => rfl
      | some o => exact absurd z (p.smm a (by rw [q2]; simp))
/-- a place that is not ours is written: D was new -/
theorem Pc.over (p : Pc m S H m' S' H') {D : Addr} {o : HO} (hD : H D = none) : Pc m S H m' S' (upd H' D o) :=
  ⟨p.ext, fun a u h hl => by rw [upd_ne (ne_of_none h hD)]; exact p.keep a u h hl, fun a h => by
    by_cases e : a = D
    · subst e; rw [upd_same]; simp
    · rw [upd_ne e]; exact p.smm a h, p.liv⟩
/-- B and one place more -/
def BD (B : Addr → Prop) (D : Addr) : Addr → Prop := fun a => B a ∨ a = D
theorem kp_write {Fb : Addr → Prop} {D : Addr} {acc : List V} {o : HO} (hD : H D = some (.lst acc)) (hF : Fb D) : Kp H (upd H D o) Fb Fb m m := by
  have ne : ∀ a, ¬ Fb a → a ≠ D := fun a f e => f (e ▸ hF)
  refine ⟨fun a xs h f => by rw [upd_ne (ne a f)]; exact h, fun a u h f => ?_, fun a o f h => ?_, fun _ _ _ f => f, fun _ _ h => h⟩
  · unfold Rd; rw [upd_ne (ne a f)]; exact h
  · have : a ≠ D := by
      rintro rfl
      rw [hD] at h
      cases h
      exact f
    rw [upd_ne this]; exact h
theorem Rl.write {D : Addr} {acc : List V} {o : HO} (r : Rl K mg (BD B D) m H S) (hD : H D = some (.lst acc)) : Rl K mg (BD B D) m (upd H D o) S := by
  have kp : Kp H (upd H D o) (Fo (BD B D) m S) (Fo (BD B D) m S) m m := kp_write hD (.inl (.inr rfl))
  have nD : ∀ a, Liv m S a → a ≠ D := fun a h e => r.nb a h (.inr e)
  have sm : ∀ a, H a ≠ none → upd H D o a ≠ none := fun a h => by
    by_cases e : a = D
    · subst e; rw [upd_same]; simp
    · rw [upd_ne e]; exact h
  refine ⟨r.len, r.nod, r.nb, fun a h => sm a (r.bt a h), fun a h => sm a (r.mt a h), fun n a u e1 e2 => ?_⟩
  have na : a ≠ D := nD a ⟨n, u, e1, e2⟩
  cases r.obj n a u e1 e2 with
  | lst h z q => exact .lst (by rw [upd_ne na]; exact h) z (q.kp kp)
  | dK h z e q => exact .dK (by rw [upd_ne na]; exact h) z e (q.kp kp)
  | dT h z e q => exact .dT (by rw [upd_ne na]; exact h) z e (q.kp kp)
  | ins g h e q => exact .ins g (by rw [upd_ne na]; exact h) e (q.kp kp)
theorem kp_anti {Fb Fb' : Addr → Prop} (h : ∀ a, Fb' a → Fb a) : Kp H H Fb Fb' m m := ⟨fun _ _ h _ => h, fun _ _ h _ => h, fun _ _ _ h => h, fun a _ _ f z => f (h a z), fun _ _ h => h⟩
theorem Rl.less {B' : Addr → Prop} (r : Rl K mg B m H S) (h : ∀ a, B' a → B a) : Rl K mg B' m H S := by
  have kp : Kp H H (Fo B m S) (Fo B' m S) m m := kp_anti fun a z => z.imp (h a) id
  refine ⟨r.len, r.nod, fun a l z => r.nb a l (h a z), fun a z => r.bt a (h a z), r.mt, fun n a u e1 e2 => ?_⟩
  cases r.obj n a u e1 e2 with
  | lst h z q => exact .lst h z (q.kp kp)
  | dK h z e q => exact .dK h z e (q.kp kp)
  | dT h z e q => exact .dT h z e (q.kp kp)
  | ins g h e q => exact .ins g h e (q.kp kp)
/-- a new place D that is not ours -/
theorem kp_aside {D : Addr} {o : HO} (hD : H D = none) : Kp H (upd H D o) (Fo B m S) (Fo (BD B D) m S) m m := by
  have s := same_upd (o := o) hD
  refine ⟨fun a xs h _ => s _ _ h, fun a u h _ => h.elim (fun h => .inl (s _ _ h)) fun ⟨o, h⟩ => .inr ⟨o, s _ _ h⟩, fun a o _ h => s _ _ h, fun a u h f z => ?_, fun _ _ h => h⟩
  rcases z with (z | z) | z
  · exact f (.inl z)
  · obtain ⟨o, e⟩ := rd_some h
    rw [z, hD] at e; cases e
  · exact f (.inr z)
theorem Rl.aside (r : Rl K mg B m H S) {D : Addr} {o : HO} (hD : H D = none) : Rl K mg (BD B D) m (upd H D o) S := by
  have s := same_upd (o := o) hD
  have kp := kp_aside (B := B) (m := m) (S := S) (o := o) hD
  have sm : ∀ a, H a ≠ none → upd H D o a ≠ none := fun a h => by
    cases e : H a with
    | none => exact absurd e h
    | some o => rw [s _ _ e]; simp
  refine ⟨r.len, r.nod, fun a l z => ?_, fun a z => ?_, fun a h => sm a (r.mt a h), fun n a u e1 e2 => ?_⟩
  · rcases z with z | z
    · exact r.nb a l z
    · obtain ⟨n, u, e1, e2⟩ := l
      exact r.mt a (List.mem_of_getElem? e1) (z ▸ hD)
  · rcases z with z | z
    · exact sm a (r.bt a z)
    · rw [z, upd_same]; simp
  · cases r.obj n a u e1 e2 with
    | lst h z q => exact .lst (s _ _ h) z (q.kp kp)
    | dK h z e q => exact .dK (s _ _ h) z e (q.kp kp)
    | dT h z e q => exact .dT (s _ _ h) z e (q.kp kp)
    | ins g h e q => exact .ins g (s _ _ h) e (q.kp kp)
end
section
variable {X : Cx} {W : WX} {tg iter elt : Expr} {ifs : List Expr} {fi : Ix} {t : Tg} {tt : Tx} {fe : Ex} {scope : Scope} {own : List (Str × Nat)} {pos : Pos}
/-- the tests of a clause -/
def TVs (X : Cx) (W : WX) (ifs : List Expr) (f : Tx) : Prop := PTs X ifs (upT X.K X.mg W f)
theorem tvs_nil : TVs X W [] tYesX := ⟨fun pins s σ H Q I ⟨B, m, ρ, S, r, re, f⟩ => pts_nil.run pins s σ H Q I (f m H (Post.refl r))⟩
theorem finI.bind {K : PySem.W.Frag} {mg : Str → Option Value} {B : Addr → Prop} {m : List Addr} {S : Sto} {σ : L2.St} {H : Hp} {Q : VK} {r : R (List D)} {g : List D → Sto → R D} (h : fin K mg W B m S σ H (r.bind g) Q) :
    finI K mg W B m S σ H r (fun J H1 => ∃ m1 S1 xs, Post K mg B m S H m1 S1 H1 ∧ ItR K H1 (Fo B m1 S1) m1 J xs ∧ fin K mg W B m1 S1 σ H1 (g xs S1) Q) := by
  cases r with
  | ok d S' => exact fun m' H' J p q => ⟨m', S', d, p, q, fin.later p h⟩
  | exc c p' S' => exact h
  | bad => exact h
theorem notin_ext {D : Addr} {m m' : List Addr} {H : Hp} {o : HO} (h : D ∉ m) (e : ∃ l, m' = m ++ l ∧ ∀ a, a ∈ l → H a = none) (hD : H D = some o) : D ∉ m' := by
  obtain ⟨l, e, f⟩ := e
  subst e
  intro z
  rcases List.mem_append.mp z with z | z
  · exact h z
  · rw [f D z] at hD; cases hD
/-- the walk of a comprehension, whatever is made of the list -/
theorem lc_of {K : PySem.W.Frag} {mg : Str → Option Value} {σ : L2.St} {H : Hp} {Q : VK} {vs : List Nat} {Fin : List D → Sto → R D} (hv : ∀ i ∈ t.sl, i ∈ vs) (h : up K mg W (fun ρ S => (fi ρ S).bind fun xs S => (compL t tt fe vs xs ρ S []).bind Fin) σ H Q)
    (hf : ∀ B m1 S1 H1 m2 S2 H2 D acc ds, Rl K mg B m1 H1 S1 → H1 D = none → Pc m1 S1 H1 m2 S2 H2 → Rl K mg (BD B D) m2 H2 S2 → H2 D = some (.lst acc) → RepA K H2 (Fo (BD B D) m2 S2) m2 acc ds → acc.length ≤ sizeLine → D ∉ m2 → fin K mg W B m1 S1 σ H1 (Fin ds S2) Q → Q (.ref D) H2) :
    tLc (upI K mg W fi) (Tg.rd K t) (upT K mg W0 tt) (up K mg W0 fe) vs σ H Q := by
  obtain ⟨B, m, ρ, S, r, re, f⟩ := h
  refine ⟨B, m, ρ, S, r, re, finI.mono (finI.bind f) fun J H1 => ?_⟩
  rintro ⟨m1, S1, xs, p1, itr, f1⟩ D hD
  have re1 := re.kp (p1.kp r)
  have k0 := kp_aside (B := B) (m := m1) (S := S1) (o := .lst []) hD
  refine ⟨fun i n H => n = xs.length - i ∧ i ≤ xs.length ∧ ∃ m2 S2 acc ds, Pc m1 S1 H1 m2 S2 H ∧ Kp H1 H (Fo B m1 S1) (Fo (BD B D) m2 S2) m1 m2 ∧ Rl K mg (BD B D) m2 H S2 ∧ H D = some (.lst acc) ∧ RepA K H (Fo (BD B D) m2 S2) m2 acc ds ∧ acc.length ≤ sizeLine ∧ D ∉ m2 ∧
      fin K mg W B m1 S1 σ H1 ((compL t tt fe vs (xs.drop i) ρ S2 ds).bind Fin) Q,
    ⟨xs.length, by simp, Nat.zero_le _, m1, S1, [], [], (Post.refl p1.rl).pc.over hD, k0, p1.rl.aside hD, upd_same, .nil, by simp, fun z => p1.rl.mt D z hD, by simpa using f1⟩, ?_⟩
  rintro i n H2 ⟨rfl, hi, m2, S2, acc, ds, pc, kp, rl, hacc, qa, za, nD, f2⟩
  obtain ⟨go, stop⟩ := itr H2 _ m2 kp
  by_cases hlt : i < xs.length
  · right
    refine ⟨(go i hlt).1, fun H' => ∃ m3 S3 acc ds, Pc m1 S1 H1 m3 S3 H' ∧ Kp H1 H' (Fo B m1 S1) (Fo (BD B D) m3 S3) m1 m3 ∧ Rl K mg (BD B D) m3 H' S3 ∧ H' D = some (.lst acc) ∧ RepA K H' (Fo (BD B D) m3 S3) m3 acc ds ∧ acc.length ≤ sizeLine ∧ D ∉ m3 ∧
      fin K mg W B m1 S1 σ H1 ((compL t tt fe vs (xs.drop (i + 1)) ρ S3 ds).bind Fin) Q, ?_, ?_⟩
    · rintro H' ⟨m3, S3, acc3, ds3, h3⟩
      exact ⟨_, by omega, rfl, hlt, m3, S3, acc3, ds3, h3⟩
    · intro x H3 y
      obtain ⟨d, ed, sm, rx⟩ := (go i hlt).2 x H3 y
      have p3 : Post K mg (BD B D) m2 S2 H2 m2 S2 H3 := Post.grow rl sm
      have kp3 := kp.trans (p3.kp rl)
      have ed' : xs[i] = d := by
        have := List.getElem?_eq_getElem hlt
        rw [this] at ed
        exact Option.some.inj ed
      rw [List.drop_eq_getElem_cons hlt, ed'] at f2
      unfold compL at f2
      cases e1 : t.put d (wipeD ρ vs) with
      | none => rw [e1] at f2; exact f2.elim
      | some ρ4 =>
        rw [e1] at f2
        dsimp only at f2
        refine Tg.rd_okP (A := fun σ' => L2.wipe σ' vs = L2.wipe σ vs) t (fun σ i v h1 h2 => by rw [wipe_set (hv i h1)]; exact h2) e1 rx ((re1.kp kp3).wipe vs) ?_ fun σ4 re4 a4 => ⟨a4, BD B D, m2, ρ4, S2, p3.rl, re4, ?_⟩
        · apply List.ext_getElem?
          intro j
          rw [wipe_get, wipe_get, wipe_length]
          by_cases h1 : j ∈ vs ∧ j < σ.length
          · simp [h1]
          · simp [h1]
        · -- the test
          rcases R.nox_ok (r := tt ρ4 S2) (g := fun b S => if b = true then (fe ρ4 S).nox.bind fun y S => if ds.length < sizeLine then compL t tt fe vs (xs.drop (i + 1)) ρ S (ds ++ [y]) else .bad else compL t tt fe vs (xs.drop (i + 1)) ρ S ds) with ⟨b, S5, e5, e6⟩ | e6
          · rw [e6] at f2
            rw [e5]
            intro m5 H5 p5
            have kp5 := kp3.trans (p5.kp p3.rl)
            have pc5 : Pc m1 S1 H1 m5 S5 H5 := (pc.trans p3.pc).trans p5.pc
            have hacc5 : H5 D = some (.lst acc) := p5.keep _ _ (p3.keep _ _ hacc fun z => rl.nb _ z (.inr rfl)) fun z => p3.rl.nb _ z (.inr rfl)
            have qa5 := (qa.kp (p3.kp rl)).kp (p5.kp p3.rl)
            have nD5 : D ∉ m5 := notin_ext nD p5.ext (p3.keep _ _ hacc fun z => rl.nb _ z (.inr rfl))
            cases b with
            | false =>
              rw [if_neg Bool.false_ne_true] at f2 ⊢
              exact ⟨m5, S5, acc, ds, pc5, kp5, p5.rl, hacc5, qa5, za, nD5, f2⟩
            | true =>
              rw [if_pos rfl] at f2 ⊢
              rcases R.nox_ok (r := fe ρ4 S5) (g := fun y S => if ds.length < sizeLine then compL t tt fe vs (xs.drop (i + 1)) ρ S (ds ++ [y]) else .bad) with ⟨y, S6, e7, e8⟩ | e8
              · rw [e8] at f2
                refine ⟨BD B D, m5, ρ4, S5, p5.rl, re4.kp (p5.kp p3.rl), ?_⟩
                rw [e7]
                intro m6 H6 v p6 rv
                have hacc6 : H6 D = some (.lst acc) := p6.keep _ _ hacc5 fun z => p5.rl.nb _ z (.inr rfl)
                split at f2
                · rename_i hz
                  have hl : acc.length = ds.length := qa.length
                  refine ⟨acc, hacc6, by rw [hl]; exact hz, m6, S6, acc ++ [v], ds ++ [y], (pc5.trans p6.pc).over hD, (kp5.trans (p6.kp p5.rl)).trans (kp_write hacc6 (.inl (.inr rfl))), p6.rl.write hacc6, upd_same, ?_, by simp; omega, notin_ext nD5 p6.ext hacc5, f2⟩
                  exact ((qa5.kp (p6.kp p5.rl)).append (.cons rv .nil)).kp (kp_write hacc6 (.inl (.inr rfl)))
                · exact f2.elim
              · rw [e8] at f2; exact f2.elim
          · rw [e6] at f2; exact f2.elim
  · left
    have hd : xs.drop i = [] := List.drop_eq_nil_of_le (by omega)
    rw [hd] at f2
    exact ⟨stop i (by omega), hf B m1 S1 H1 m2 S2 H2 D acc ds p1.rl hD pc rl hacc qa za nD f2⟩
theorem post_of_pc {K : PySem.W.Frag} {mg : Str → Option Value} {B : Addr → Prop} {m m' : List Addr} {S S' : Sto} {H H' : Hp} (p : Pc m S H m' S' H') (r : Rl K mg B m' H' S') : Post K mg B m S H m' S' H' := ⟨p.ext, p.keep, p.smm, r, p.liv⟩
theorem fo_bd {B : Addr → Prop} {D : Addr} {m : List Addr} {S : Sto} : ∀ a, Fo B m S a → Fo (BD B D) m S a := fun a z => z.imp .inl id
theorem ev_comp (hc : X.calm = true) (hN : X.N.Nodup) (hi : IV X W tg iter fi) (ok : BlkOk X.N X.env.scope scope own)
    (hg : ∀ (s : Shared) (H : Hp) (C : Addr) (cl : List (Str × Addr)) (fp : List Addr), GV (X.blk s H scope (compEnvC scope cl C X.env) fp) tg t) (ht : ∀ (s : Shared) (H : Hp) (C : Addr) (cl : List (Str × Addr)) (fp : List Addr), TVs (X.blk s H scope (compEnvC scope cl C X.env) fp) W0 ifs tt)
    (he : ∀ (s : Shared) (H : Hp) (C : Addr) (cl : List (Str × Addr)) (fp : List Addr), EV (X.blk s H scope (compEnvC scope cl C X.env) fp) W0 elt fe) (hv : ∀ i ∈ t.sl, i ∈ own.map (·.2) := by decide) (hs : ∀ x, foldedSetIterable iter X.env x = pure x := by intro _; rfl) :
    EV X W (.ListComp elt [⟨tg, iter, ifs, 0⟩] scope pos) (eComp fi t tt fe (own.map (·.2))) := by
  refine pe_imp (pe_lc (g := Tg.rd X.K t) (tt := upT X.K X.mg W0 tt) (te := up X.K X.mg W0 fe) hc hN hi ok hg ht he hs) fun σ H Q h => lc_of hv h fun B m1 S1 H1 m2 S2 H2 D acc ds r1 hD pc rl hacc qa za nD f => ?_
  have rl2 : Rl X.K X.mg B m2 H2 S2 := rl.less fun a z => .inl z
  have nf : ¬ Fo B m2 S2 D := by
    rintro (z | z)
    · exact r1.bt D z hD
    · exact rl.nb D z (.inr rfl)
  exact f m2 H2 _ (post_of_pc pc rl2) (.lst hacc nf za (qa.kp (kp_anti fo_bd)))
end
end DL
set_option Elab.async false
set_option linter.all false
set_option maxRecDepth 100000
set_option maxHeartbeats 4000000
namespace DL
open PySem PySem.Spec PyProof.Rows L2
mutual
def toP : D → Option PyData
  | .non => some .none
  | .bl b => some (.bool b)
  | .int i => some (.int i)
  | .str x => some (.str x)
  | .tup xs => (toPs xs).map .tuple
  | .lst xs => (toPs xs).map .list
  | _ => none
def toPs : List D → Option (List PyData)
  | [] => some []
  | d :: ds => match toP d, toPs ds with
    | some p, some ps => some (p :: ps)
    | _, _ => none
end
def eqS : D → D → Option Bool
  | .str x, .str y => some (decide (x = y))
  | _, _ => none
def eqB (a b : D) : Option Bool := match eqS a b with
  | some c => some c
  | none => match toP a, toP b with
    | some p, some q => if SeqAt.shaped p && SeqAt.shaped q then some (PyData.eqv p q) else none
    | _, _ => none
def eqD (a b : D) : Option D := (eqB a b).map .bl
def neD (a b : D) : Option D := (eqB a b).map fun c => .bl (!c)
section
variable {K : PySem.W.Frag} {H : Hp} {Fb : Addr → Prop} {m : List Addr}
mutual
theorem Rep.dp : ∀ {v : V} {d : D} {p : PyData}, Rep K H Fb m v d → toP d = some p → Dp K H v p
  | _, _, _, .non, e => by cases e; exact .non
  | _, _, _, .bl b, e => by cases e; exact .bl b
  | _, _, _, .int i, e => by cases e; exact .int i
  | _, _, _, .str x, e => by cases e; exact .str x
  | _, _, _, .tup (ds := ds) h z r, e => by
    cases e1 : toPs ds with
    | none => simp [toP, e1] at e
    | some ps => simp [toP, e1] at e; subst e; exact .tup h (RepA.dp r e1)
  | _, _, _, .lst (ds := ds) h f z r, e => by
    cases e1 : toPs ds with
    | none => simp [toP, e1] at e
    | some ps => simp [toP, e1] at e; subst e; exact .lst (SqL.of h) (RepA.dp r e1)
  | _, _, _, .dK h z q r, e => by simp [toP] at e
  | _, _, _, .dT h z q r, e => by simp [toP] at e
  | _, _, _, .ref h, e => by simp [toP] at e
  | _, _, _, .raw v, e => by simp [toP] at e
  | _, _, _, .scr h z, e => by simp [toP] at e
  | _, _, _, .exn h f, e => by simp [toP] at e
  | _, _, _, .exp h f h2 f2 n r, e => by simp [toP] at e
theorem RepA.dp : ∀ {vs : List V} {ds : List D} {ps : List PyData}, RepA K H Fb m vs ds → toPs ds = some ps → DpAll K H vs ps
  | _, _, _, .nil, e => by cases e; exact .nil
  | _, _, _, .cons (d := d) (ds := ds) h r, e => by
    cases e1 : toP d with
    | none => simp [toPs, e1] at e
    | some p =>
      cases e2 : toPs ds with
      | none => simp [toPs, e1, e2] at e
      | some ps => simp [toPs, e1, e2] at e; subst e; exact .cons (Rep.dp h e1) (RepA.dp r e2)
end
theorem Vw.dp {v : V} {d : D} {p : PyData} (h : Vw K H Fb m v d) (e : toP d = some p) : Dp K H v p := by
  cases h with
  | oth h => exact h.dp e
  | lst h z r =>
    rename_i ds
    cases e1 : toPs ds with
    | none => simp [toP, e1] at e
    | some ps => simp [toP, e1] at e; subst e; exact .lst (SqL.of h) (r.dp e1)
  | dK h z q r => simp [toP] at e
  | dT h z q r => simp [toP] at e
end
section
variable {X : Cx}
theorem eqS_some {a b : D} {c : Bool} (e : eqS a b = some c) : ∃ x y, a = .str x ∧ b = .str y ∧ c = decide (x = y) := by
  unfold eqS at e
  split at e
  · cases e
    exact ⟨_, _, rfl, rfl, rfl⟩
  · cases e
theorem eqB_some {a b : D} {c : Bool} (e : eqB a b = some c) : (∃ x y, a = .str x ∧ b = .str y ∧ c = decide (x = y)) ∨ ∃ p q, toP a = some p ∧ toP b = some q ∧ SeqAt.shaped p = true ∧ SeqAt.shaped q = true ∧ c = PyData.eqv p q := by
  unfold eqB at e
  split at e
  · rename_i e0
    cases e
    exact .inl (eqS_some e0)
  · right
    split at e
    · rename_i p q e1 e2
      split at e
      · rename_i h
        cases e
        have := Bool.and_eq_true_iff.mp h
        exact ⟨p, q, e1, e2, this.1, this.2, rfl⟩
      · cases e
    · cases e
theorem og_eq (hu : X.A.units + 64 < cLine) : OpR X (compareOp .Eq) (rG2 X.K eqD) := by
  intro pins s σ H x y v u Q I rx ry ⟨Fb, m, dx, dy, d, fr, vx, vy, e, k⟩
  obtain ⟨c, e1, rfl⟩ := Option.map_eq_some_iff.mp e
  rcases eqB_some e1 with ⟨a, b, rfl, rfl, rfl⟩ | ⟨p, q, a1, a2, a3, a4, rfl⟩
  · cases vx.asS
    cases vy.asS
    have e2 : decide (V.str a = V.str b) = decide (a = b) := by by_cases z : a = b <;> simp [z]
    exact op_eq pins s σ H _ _ v u Q I rx ry ⟨rfl, by rw [e2]; exact k H _ (Same.refl H) (.bl _)⟩
  exact op_eqD hu pins s σ H x y v u Q I rx ry ⟨p, q, vx.dp a1, vy.dp a2, a3, a4, k H _ (Same.refl H) (.bl _)⟩
theorem og_ne (hu : X.A.units + 64 < cLine) : OpR X (compareOp .NotEq) (rG2 X.K neD) := by
  intro pins s σ H x y v u Q I rx ry ⟨Fb, m, dx, dy, d, fr, vx, vy, e, k⟩
  obtain ⟨c, e1, rfl⟩ := Option.map_eq_some_iff.mp e
  rcases eqB_some e1 with ⟨a, b, rfl, rfl, rfl⟩ | ⟨p, q, a1, a2, a3, a4, rfl⟩
  · cases vx.asS
    cases vy.asS
    have e2 : decide (V.str a = V.str b) = decide (a = b) := by by_cases z : a = b <;> simp [z]
    exact op_ne pins s σ H _ _ v u Q I rx ry ⟨rfl, by rw [e2]; exact k H _ (Same.refl H) (.bl _)⟩
  exact op_neD hu pins s σ H x y v u Q I rx ry ⟨p, q, vx.dp a1, vy.dp a2, a3, a4, k H _ (Same.refl H) (.bl _)⟩
def ltD : D → D → Option D
  | .int i, .int j => some (.bl (decide (i < j)))
  | _, _ => none
def leD : D → D → Option D
  | .int i, .int j => some (.bl (decide (i ≤ j)))
  | _, _ => none
def gtD : D → D → Option D
  | .int i, .int j => some (.bl (decide (j < i)))
  | _, _ => none
def geD : D → D → Option D
  | .int i, .int j => some (.bl (decide (j ≤ i)))
  | _, _ => none
theorem og_lt : OpR X (compareOp .Lt) (rG2 X.K ltD) := og_int op_lt fun dx dy d e => by
  unfold ltD at e
  split at e
  · rename_i i j; cases e; exact ⟨i, j, _, rfl, rfl, rfl, fun H Q k => ⟨i, j, rfl, rfl, k _ fun _ _ _ => .bl _⟩⟩
  · cases e
theorem og_le : OpR X (compareOp .LtE) (rG2 X.K leD) := og_int op_le fun dx dy d e => by
  unfold leD at e
  split at e
  · rename_i i j; cases e; exact ⟨i, j, _, rfl, rfl, rfl, fun H Q k => ⟨i, j, rfl, rfl, k _ fun _ _ _ => .bl _⟩⟩
  · cases e
theorem og_gt : OpR X (compareOp .Gt) (rG2 X.K gtD) := og_int op_gt fun dx dy d e => by
  unfold gtD at e
  split at e
  · rename_i i j; cases e; exact ⟨i, j, _, rfl, rfl, rfl, fun H Q k => ⟨i, j, rfl, rfl, k _ fun _ _ _ => .bl _⟩⟩
  · cases e
theorem og_ge : OpR X (compareOp .GtE) (rG2 X.K geD) := og_int op_ge fun dx dy d e => by
  unfold geD at e
  split at e
  · rename_i i j; cases e; exact ⟨i, j, _, rfl, rfl, rfl, fun H Q k => ⟨i, j, rfl, rfl, k _ fun _ _ _ => .bl _⟩⟩
  · cases e
/-- is None -/
def isNonD : D → Option Bool
  | .non => some true
  | .bl _ => some false
  | .int _ => some false
  | .str _ => some false
  | .tup _ => some false
  | .lst _ => some false
  | .dic _ _ => some false
  | .ref _ => some false
  | .scr _ => some false
  | .exn _ _ => some false
  | .raw _ => none
def isD (a b : D) : Option D := match b with
  | .non => (isNonD a).map .bl
  | _ => none
theorem Rep.isNon {K : PySem.W.Frag} {H : Hp} {Fb : Addr → Prop} {m : List Addr} {v : V} {d : D} {c : Bool} (h : Rep K H Fb m v d) (e : isNonD d = some c) : decide (v = .non) = c := by
  cases h <;> simp [isNonD] at e <;> subst e <;> simp
theorem Vw.isNon {K : PySem.W.Frag} {H : Hp} {Fb : Addr → Prop} {m : List Addr} {v : V} {d : D} {c : Bool} (h : Vw K H Fb m v d) (e : isNonD d = some c) : decide (v = .non) = c := by
  cases h with
  | oth h => exact h.isNon e
  | _ => simp [isNonD] at e; subst e; simp
theorem og_is : OpR X (compareOp .Is) (rG2 X.K isD) := by
  intro pins s σ H x y v u Q I rx ry ⟨Fb, m, dx, dy, d, fr, vx, vy, e, k⟩
  unfold isD at e
  split at e
  · obtain ⟨c, e1, rfl⟩ := Option.map_eq_some_iff.mp e
    have : y = .non := by cases vy with | oth h => cases h; rfl
    subst this
    refine op_isN pins s σ H _ _ v u Q I rx ry ⟨rfl, ?_⟩
    rw [vx.isNon e1]
    exact k H _ (Same.refl H) (.bl _)
  · cases e
def negD : D → Option D
  | .int i => some (.int (-i))
  | _ => none
theorem og_neg : UnR X (unaryOp .USub) (rG1 X.K negD) := by
  intro pins s σ H x v Q I rx ⟨Fb, m, dx, d, fr, vx, e, k⟩
  unfold negD at e
  split at e
  · rename_i i
    cases e
    cases vx.asI
    exact un_neg pins s σ H _ v Q I rx ⟨i, rfl, k H _ (Same.refl H) (.int _)⟩
  · cases e
def ixD : D → D → Option D
  | .lst xs, .int i => atI xs i
  | .tup xs, .int i => atI xs i
  | .str z, .int i => if z.length ≤ sizeLine then (atI z.cps.toList i).map fun c => .str ⟨#[c]⟩ else none
  | .dic t kvs, y => dgetD (.dic t kvs) y
  | _, _ => none
theorem RepA.atI {K : PySem.W.Frag} {H : Hp} {Fb : Addr → Prop} {m : List Addr} {vs : List V} {ds : List D} (h : RepA K H Fb m vs ds) {i : Int} {d : D} (e : L2.atI ds i = some d) : ∃ v, L2.atI vs i = some v ∧ Rep K H Fb m v d := by
  unfold L2.atI at e ⊢
  rw [h.length]
  cases e1 : ixN ds.length i with
  | none => rw [e1] at e; cases e
  | some j =>
    rw [e1] at e
    obtain ⟨v, ev, r⟩ := h.get (i := j) e
    exact ⟨v, ev, r⟩
theorem og_ix (hu : X.A.units + 64 < cLine) : IxR X (rG2 X.K ixD) := by
  intro value slice pins s σ H x y v u Q I rx ry ⟨Fb, m, dx, dy, d, fr, vx, vy, e, k⟩ hs
  unfold ixD at e
  split at e
  · rename_i xs i
    obtain ⟨a, vs, rfl, h1, z1, q1⟩ := vx.asL
    cases vy.asI
    obtain ⟨w, ew, rw'⟩ := q1.atI e
    exact ix_list value slice pins s σ H _ _ v u Q I rx ry ⟨a, vs, i, w, rfl, rfl, SqL.of h1, ew, k H _ (Same.refl H) rw'⟩ hs
  · rename_i xs i
    obtain ⟨a, vs, rfl, h1, z1, q1⟩ := vx.asT
    cases vy.asI
    obtain ⟨w, ew, rw'⟩ := q1.atI e
    exact ix_tup value slice pins s σ H _ _ v u Q I rx ry ⟨a, vs, i, w, rfl, rfl, h1, ew, k H _ (Same.refl H) rw'⟩ hs
  · rename_i z i
    split at e
    · rename_i hz
      obtain ⟨c, e1, rfl⟩ := Option.map_eq_some_iff.mp e
      cases vx.asS
      cases vy.asI
      exact ix_str value slice pins s σ H _ _ v u Q I rx ry ⟨z, i, c, rfl, rfl, hz, e1, k H _ (Same.refl H) (.str _)⟩ hs
    · cases e
  · obtain ⟨a, w, rfl, g, rw'⟩ := dget_ok vx vy e
    exact ix_dict (by omega) value slice pins s σ H _ _ v u Q I rx ry ⟨a, w, rfl, g, k H _ (Same.refl H) rw'⟩ hs
  · cases e
theorem ev_ix {W : WX} {a b : Expr} {fa fb : Ex} {pos : Pos} (hu : X.A.units + 64 < cLine) (ha : EV X W a fa) (hb : EV X W b fb) (hs : PlainIx b := by exact fun _ _ => rfl) : EV X W (.Subscript a b pos) (eOp2 ixD fa fb) := pe_imp (pe_ix (og_ix hu) ha hb hs) fun σ H Q h => two_of h
/-- a slice's parts -/
def cutD (xs : List D) (lo hi : Option Int) : List D := (xs.drop (HT.sIx xs.length 0 lo)).take (HT.sIx xs.length xs.length hi - HT.sIx xs.length 0 lo)
def slD (d : D) (lo hi : Option Int) : Option D := match d with
  | .lst xs => some (.lst (cutD xs lo hi))
  | .tup xs => some (.tup (cutD xs lo hi))
  | .scr ns => some (.lst (cutD (ns.map .int) lo hi))
  | .str z => if z.length ≤ sizeLine then some (.str (cutS z lo hi)) else none
  | _ => none
def ePart : Option Ex → Ev → Sto → R (Option Int)
  | none, _, S => .ok none S
  | some f, ρ, S => (f ρ S).bind fun d S => match d with
    | .int i => .ok (some i) S
    | _ => .bad
def eSl (a : Ex) (lo hi : Option Ex) : Ex := fun ρ S => (a ρ S).bind fun d S => (ePart lo ρ S).bind fun l S => (ePart hi ρ S).bind fun u S => ans S (slD (view S d) l u)
def rGsl (K : PySem.W.Frag) : V → Option Int → Option Int → Hp → VK → Prop := fun x lo hi H Q => ∃ Fb m dx d, (∀ p, H p = none → ¬ Fb p) ∧ Vw K H Fb m x dx ∧ slD dx lo hi = some d ∧ ∀ H' z, Same H H' → Rep K H' Fb m z d → Q z H'
theorem RepA.cut {K : PySem.W.Frag} {H : Hp} {Fb : Addr → Prop} {m : List Addr} {vs : List V} {ds : List D} (h : RepA K H Fb m vs ds) (lo hi : Option Int) : RepA K H Fb m (cutV vs lo hi) (cutD ds lo hi) := by
  unfold cutV cutD
  rw [h.length]
  exact (h.drop _).take _
theorem repA_ints {K : PySem.W.Frag} {H : Hp} {Fb : Addr → Prop} {m : List Addr} : ∀ ns : List Int, RepA K H Fb m (ns.map V.int) (ns.map D.int)
  | [] => .nil
  | n :: ns => .cons (.int n) (repA_ints ns)
theorem og_sl : SlR X (rGsl X.K) := by
  intro pins s σ H x v vl vu lo hi sl Q I rx hs pl pu ⟨Fb, m, dx, d, fr, vx, e, k⟩
  unfold slD at e
  split at e
  · rename_i xs
    cases e
    obtain ⟨a, vs, rfl, h1, z1, q1⟩ := vx.asL
    refine sl_list pins s σ H _ v vl vu lo hi sl Q I rx hs pl pu ⟨a, vs, rfl, SqL.of h1, fun p hp => ?_⟩
    exact k _ _ (same_upd hp) (.lst upd_same (fr p hp) (Nat.le_trans (cutV_length _ _ _) z1) ((q1.cut lo hi).kp (kp_same (same_upd hp))))
  · rename_i xs
    cases e
    obtain ⟨a, vs, rfl, h1, z1, q1⟩ := vx.asT
    refine sl_tupA pins s σ H _ v vl vu lo hi sl Q I rx hs pl pu ⟨a, vs, rfl, h1, fun hw => ?_, fun _ p hp => ?_⟩
    · refine k H _ (Same.refl H) ?_
      have : cutD xs lo hi = xs := by
        unfold cutD
        rw [← q1.length, hw.1, hw.2]
        simp [q1.length]
      rw [this]
      exact .tup h1 z1 q1
    · exact k _ _ (same_upd hp) (.tup (.of upd_same) (Nat.le_trans (cutV_length _ _ _) z1) ((q1.cut lo hi).kp (kp_same (same_upd hp))))
  · rename_i ns
    cases e
    cases vx with
    | oth h =>
      cases h with
      | scr h z =>
        refine sl_list pins s σ H _ v vl vu lo hi sl Q I rx hs pl pu ⟨_, _, rfl, h.sq, fun p hp => ?_⟩
        exact k _ _ (same_upd hp) (.lst upd_same (fr p hp) (Nat.le_trans (cutV_length _ _ _) (by simpa using z)) (((repA_ints ns).cut lo hi).kp (kp_same (same_upd hp))))
  · rename_i z
    split at e
    · rename_i hz
      cases e
      cases vx.asS
      exact sl_str pins s σ H _ v vl vu lo hi sl Q I rx hs pl pu ⟨z, rfl, hz, k H _ (Same.refl H) (.str _)⟩
    · cases e
  · cases e
section
variable {W : WX}
def finP (K : PySem.W.Frag) (mg : Str → Option Value) (W : WX) (B : Addr → Prop) (m : List Addr) (S : Sto) (σ : L2.St) (H : Hp) (r : R (Option Int)) (Q : Option Int → Hp → Prop) : Prop := match r with
  | .ok b S' => ∀ m' H', Post K mg B m S H m' S' H' → Q b H'
  | .exc c p S' => ∀ m' H' cls dd, Post K mg B m S H m' S' H' → XcR K mg H' (Fo B m' S') m' c p cls dd → W cls dd σ H'
  | .bad => False
theorem finP.bind {K : PySem.W.Frag} {mg : Str → Option Value} {B : Addr → Prop} {m : List Addr} {S : Sto} {σ : L2.St} {H : Hp} {r : R (Option Int)} {g : Option Int → Sto → R D} {Q : VK} (h : fin K mg W B m S σ H (r.bind g) Q) :
    finP K mg W B m S σ H r (fun b H1 => ∃ m1 S1, Post K mg B m S H m1 S1 H1 ∧ fin K mg W B m1 S1 σ H1 (g b S1) Q) := by
  cases r with
  | ok d S' => exact fun m' H' p => ⟨m', S', p, fin.later p h⟩
  | exc c p' S' => exact h
  | bad => exact h
def upP (K : PySem.W.Frag) (mg : Str → Option Value) (W : WX) (f : Option Ex) : TO := fun σ H Q => ∃ B m ρ S, Rl K mg B m H S ∧ RepE K H (Fo B m S) m σ ρ ∧ finP K mg W B m S σ H (ePart f ρ S) Q
theorem po_imp {e : Option Expr} {t t' : TO} (h : PO X e t) (k : ∀ σ H Q, t' σ H Q → t σ H Q) : PO X e t' := ⟨fun pins s σ H Q I q => h.run pins s σ H Q I (k σ H Q q)⟩
def PV (X : Cx) (W : WX) (e : Option Expr) (f : Option Ex) : Prop := PO X e (upP X.K X.mg W f)
theorem pv_none : PV X W none none := po_imp po_none fun σ H Q ⟨B, m, ρ, S, r, re, f⟩ => f m H (Post.refl r)
theorem pv_some {e : Expr} {f : Ex} (h : EV X W e f) : PV X W (some e) (some f) := by
  refine po_imp (po_some h) fun σ H Q h => ?_
  obtain ⟨B, m, ρ, S, r, re, g⟩ := h
  refine ⟨B, m, ρ, S, r, re, ?_⟩
  have g' : finP X.K X.mg W B m S σ H ((f ρ S).bind fun d S => match d with | .int i => .ok (some i) S | _ => .bad) Q := g
  cases e1 : f ρ S with
  | bad => rw [e1] at g'; exact g'
  | exc c p S1 => rw [e1] at g'; exact g'
  | ok d S1 =>
    rw [e1] at g'
    intro m1 H1 v p q
    cases d with
    | int i => cases q; exact ⟨i, rfl, g' m1 H1 p⟩
    | _ => exact g'.elim
theorem ev_sl {a : Expr} {lo hi : Option Expr} {fa : Ex} {fl fh : Option Ex} {pos p2 : Pos} (ha : EV X W a fa) (hl : PV X W lo fl) (hh : PV X W hi fh) : EV X W (.Subscript a (.Slice lo hi none p2) pos) (eSl fa fl fh) := by
  refine pe_imp (pe_slice og_sl ha hl hh) fun σ H Q h => ?_
  obtain ⟨B, m, ρ, S, r, re, f⟩ := up_one (g := fun d ρ S => (ePart fl ρ S).bind fun l S => (ePart fh ρ S).bind fun u S => ans S (slD (view S d) l u)) h
  refine ⟨B, m, ρ, S, r, re, f.mono fun x H1 => ?_⟩
  rintro ⟨B, m, ρ, S, dx, r, re, rx, f⟩
  have f1 := finP.bind f
  refine ⟨B, m, ρ, S, r, re, ?_⟩
  cases e1 : ePart fl ρ S with
  | bad => rw [e1] at f1; exact f1
  | exc c p S1 => rw [e1] at f1; exact f1
  | ok l S1 =>
    rw [e1] at f1
    intro m2 H2 p2
    obtain ⟨m3, S3, p3, f3⟩ := f1 m2 H2 p2
    have f4 := finP.bind f3
    refine ⟨B, m3, ρ, S3, p3.rl, re.kp (p3.kp r), ?_⟩
    cases e2 : ePart fh ρ S3 with
    | bad => rw [e2] at f4; exact f4
    | exc c p S1 => rw [e2] at f4; exact f4
    | ok u S4 =>
      rw [e2] at f4
      intro m5 H5 p5
      obtain ⟨m6, S6, p6, f6⟩ := f4 m5 H5 p5
      cases e3 : slD (view S6 dx) l u with
      | none => rw [e3] at f6; exact f6.elim
      | some d =>
        rw [e3] at f6
        exact ⟨_, m6, _, d, fr_of p6.rl, vw p6.rl ((rx.kp (p3.kp r)).kp (p6.kp p3.rl)), e3, fun H' z s q => f6.ok p6.rl s q⟩
end
end
end DL
set_option Elab.async false
set_option linter.all false
set_option maxRecDepth 100000
set_option maxHeartbeats 4000000
namespace DL
open PySem PySem.Spec PyProof.Rows L2
theorem VwA.one {K : PySem.W.Frag} {H : Hp} {Fb : Addr → Prop} {m : List Addr} {vs : List V} {d : D} (h : VwA K H Fb m vs [d]) : ∃ v, vs = [v] ∧ Vw K H Fb m v d := by
  cases h with
  | cons h t => cases t; exact ⟨_, rfl, h⟩
def lenD : List D → Option D
  | [.lst xs] => some (.int xs.length)
  | [.tup xs] => some (.int xs.length)
  | [.str x] => if x.length ≤ sizeLine then some (.int x.length) else none
  | [.scr ns] => some (.int ns.length)
  | [.dic false kvs] => some (.int kvs.length)
  | _ => none
section
variable {X : Cx}
theorem cg_len : CallR X (.builtin "len") (rGn X.K lenD) := by
  intro pins s σ H xs us Q I r ⟨Fb, m, ds, d, fr, vx, e, k⟩
  unfold lenD at e
  split at e
  · cases e
    obtain ⟨v, rfl, h⟩ := vx.one
    obtain ⟨a, vs, rfl, h1, z1, q1⟩ := h.asL
    refine call_len_seq pins s σ H _ us Q I r ⟨a, vs, rfl, .inl (SqL.of h1), ?_⟩
    rw [q1.length]
    exact k H _ (Same.refl H) (.int _)
  · cases e
    obtain ⟨v, rfl, h⟩ := vx.one
    obtain ⟨a, vs, rfl, h1, z1, q1⟩ := h.asT
    refine call_len_seq pins s σ H _ us Q I r ⟨a, vs, rfl, .inr h1, ?_⟩
    rw [q1.length]
    exact k H _ (Same.refl H) (.int _)
  · split at e
    · rename_i hz
      cases e
      obtain ⟨v, rfl, h⟩ := vx.one
      cases h.asS
      exact call_len_str pins s σ H _ us Q I r ⟨_, rfl, hz, k H _ (Same.refl H) (.int _)⟩
    · cases e
  · cases e
    obtain ⟨v, rfl, h⟩ := vx.one
    cases h with
    | oth h =>
      cases h with
      | scr h z =>
        refine call_len_seq pins s σ H _ us Q I r ⟨_, _, rfl, .inl h.sq, ?_⟩
        rw [List.length_map]
        exact k H _ (Same.refl H) (.int _)
  · cases e
    obtain ⟨v, rfl, h⟩ := vx.one
    obtain ⟨a, kv, rfl, h1, z1, q1⟩ := h.asD
    obtain ⟨w, rfl, rv⟩ := vals1 r
    obtain rfl : w = Value.ref a := rv
    refine d_len I h1 fun t s' I' => ⟨.int kv.length, H, I', ⟨_, rfl⟩, ?_⟩
    rw [q1.length]
    exact k H _ (Same.refl H) (.int _)
  · cases e
def max2D : List D → Option D
  | [.int i, .int j] => some (.int (if j > i then j else i))
  | _ => none
def min2D : List D → Option D
  | [.int i, .int j] => some (.int (if j < i then j else i))
  | _ => none
/-- list(x), tuple(x) -/
def listD : List D → Option D
  | [.lst xs] => some (.lst xs)
  | [.tup xs] => some (.lst xs)
  | _ => none
def tupleD : List D → Option D
  | [.lst xs] => some (.tup xs)
  | [.tup xs] => some (.tup xs)
  | _ => none
theorem cg_list : CallR X (.type "list") (rGn X.K listD) := by
  intro pins s σ H xs us Q I r ⟨Fb, m, ds, d, fr, vx, e, k⟩
  unfold listD at e
  split at e
  · cases e
    obtain ⟨v, rfl, h⟩ := vx.one
    obtain ⟨a, vs, rfl, h1, z1, q1⟩ := h.asL
    exact call_list_of pins s σ H _ us Q I r ⟨a, vs, rfl, .inl (SqL.of h1), fun p hp => k _ _ (same_upd hp) (.lst upd_same (fr p hp) z1 (q1.kp (kp_same (same_upd hp))))⟩
  · cases e
    obtain ⟨v, rfl, h⟩ := vx.one
    obtain ⟨a, vs, rfl, h1, z1, q1⟩ := h.asT
    exact call_list_of pins s σ H _ us Q I r ⟨a, vs, rfl, .inr h1, fun p hp => k _ _ (same_upd hp) (.lst upd_same (fr p hp) z1 (q1.kp (kp_same (same_upd hp))))⟩
  · cases e
theorem cg_tuple : CallR X (.type "tuple") (rGn X.K tupleD) := by
  intro pins s σ H xs us Q I r ⟨Fb, m, ds, d, fr, vx, e, k⟩
  unfold tupleD at e
  split at e
  · cases e
    obtain ⟨v, rfl, h⟩ := vx.one
    obtain ⟨a, vs, rfl, h1, z1, q1⟩ := h.asL
    exact call_tuple_of pins s σ H _ us Q I r ⟨a, vs, rfl, .inl ⟨SqL.of h1, fun p hp => k _ _ (same_upd hp) (.tup (.of upd_same) z1 (q1.kp (kp_same (same_upd hp))))⟩⟩
  · cases e
    obtain ⟨v, rfl, h⟩ := vx.one
    obtain ⟨a, vs, rfl, h1, z1, q1⟩ := h.asT
    exact call_tuple_of pins s σ H _ us Q I r ⟨a, vs, rfl, .inr ⟨h1, k H _ (Same.refl H) (.tup h1 z1 q1)⟩⟩
  · cases e
/-- all, any of a list of truths -/
def asBs : List D → Option (List Bool)
  | [] => some []
  | .bl b :: ds => (asBs ds).map (b :: ·)
  | _ :: _ => none
theorem asBs_vals {K : PySem.W.Frag} {H : Hp} {Fb : Addr → Prop} {m : List Addr} : ∀ {ds : List D} {vs : List V} {bs : List Bool}, asBs ds = some bs → RepA K H Fb m vs ds → vs = bs.map V.bl
  | [], _, _, e, r => by cases r; cases e; rfl
  | .bl b :: ds, _, _, e, r => by
    obtain ⟨cs, e1, rfl⟩ := Option.map_eq_some_iff.mp (show (asBs ds).map (b :: ·) = _ from e)
    cases r with
    | cons h t => cases h; rw [asBs_vals e1 t]; rfl
  | .non :: _, _, _, e, _ => by simp [asBs] at e
  | .int _ :: _, _, _, e, _ => by simp [asBs] at e
  | .str _ :: _, _, _, e, _ => by simp [asBs] at e
  | .tup _ :: _, _, _, e, _ => by simp [asBs] at e
  | .lst _ :: _, _, _, e, _ => by simp [asBs] at e
  | .dic _ _ :: _, _, _, e, _ => by simp [asBs] at e
  | .ref _ :: _, _, _, e, _ => by simp [asBs] at e
  | .raw _ :: _, _, _, e, _ => by simp [asBs] at e
  | .scr _ :: _, _, _, e, _ => by simp [asBs] at e
  | .exn _ _ :: _, _, _, e, _ => by simp [asBs] at e
/-- sum of whole numbers -/
def asIs : List D → Option (List Int)
  | [] => some []
  | .int b :: ds => (asIs ds).map (b :: ·)
  | _ :: _ => none
theorem asIs_vals {K : PySem.W.Frag} {H : Hp} {Fb : Addr → Prop} {m : List Addr} : ∀ {ds : List D} {vs : List V} {bs : List Int}, asIs ds = some bs → RepA K H Fb m vs ds → vs = bs.map V.int
  | [], _, _, e, r => by cases r; cases e; rfl
  | .int b :: ds, _, _, e, r => by
    obtain ⟨cs, e1, rfl⟩ := Option.map_eq_some_iff.mp (show (asIs ds).map (b :: ·) = _ from e)
    cases r with
    | cons h t => cases h; rw [asIs_vals e1 t]; rfl
  | .non :: _, _, _, e, _ => by simp [asIs] at e
  | .bl _ :: _, _, _, e, _ => by simp [asIs] at e
  | .str _ :: _, _, _, e, _ => by simp [asIs] at e
  | .tup _ :: _, _, _, e, _ => by simp [asIs] at e
  | .lst _ :: _, _, _, e, _ => by simp [asIs] at e
  | .dic _ _ :: _, _, _, e, _ => by simp [asIs] at e
  | .ref _ :: _, _, _, e, _ => by simp [asIs] at e
  | .raw _ :: _, _, _, e, _ => by simp [asIs] at e
  | .scr _ :: _, _, _, e, _ => by simp [asIs] at e
  | .exn _ _ :: _, _, _, e, _ => by simp [asIs] at e
def sumD : List D → Option D
  | [.lst xs] => (asIs xs).map fun ns => .int ns.sum
  | [.tup xs] => (asIs xs).map fun ns => .int ns.sum
  | _ => none
theorem sum_rawT {prog : Program} {w : World} {A : Around} {E : Value → Shared → Prop} {s : Shared} {l : Addr} {its : List Value} {ns : List Int} {Q : Value → Shared → Prop} (hh : A.handled = none) (hl : s.heap.IsTuple l its.toArray) (hi : IntsAre its ns)
    (h : ∀ h' tk t', (∀ b o, s.heap.get? b = some o → h'.get? b = some o) → Q (.int ns.sum t') { s with heap := h', toks := tk }) : wpAny (model prog w) A (call (.builtin "sum") [.ref l]) Q E s := by
  obtain ⟨xs, e⟩ := hi.allInts.items
  have hn : numsOf (intItems xs).toList = ns := by rw [← e]; exact hi.numsOf
  rw [nums_intItems] at hn
  rw [e] at hl
  refine PySem.W.ktm_sumG hh hl fun h' tk t' hk => ?_
  have := h h' tk t' hk
  rw [preSum_eq, List.take_of_length_le (by simp), hn]; exact this
theorem cg_sum (hc : X.calm = true) : CallR X (.builtin "sum") (rGn X.K sumD) := by
  intro pins s σ H xs us Q I r ⟨Fb, m, ds, d, fr, vx, e, k⟩
  unfold sumD at e
  split at e
  · obtain ⟨bs, e1, rfl⟩ := Option.map_eq_some_iff.mp e
    obtain ⟨v, rfl, h⟩ := vx.one
    obtain ⟨a, vs, rfl, h1, z1, q1⟩ := h.asL
    rw [asIs_vals e1 q1] at h1
    exact cr_sum hc pins s σ H _ us Q I r ⟨a, bs, rfl, SqL.of h1, k H _ (Same.refl H) (.int _)⟩
  · obtain ⟨bs, e1, rfl⟩ := Option.map_eq_some_iff.mp e
    obtain ⟨v, rfl, h⟩ := vx.one
    obtain ⟨a, vs, rfl, h1, z1, q1⟩ := h.asT
    rw [asIs_vals e1 q1] at h1
    obtain ⟨its, rv, hl, _⟩ := I.tuple h1
    rw [Vals.ref1 r]
    exact sum_rawT (I.ok.hd hc) (show s.heap.IsTuple a its.toArray from hl) rv.ints fun h' tk t' hk => ⟨.int _, H, I.kept hk, ⟨_, rfl⟩, k H _ (Same.refl H) (.int _)⟩
  · cases e
end
inductive PT where
  | int | bool | str | tuple | list | dict
def PT.nm : PT → String
  | .int => "int" | .bool => "bool" | .str => "str" | .tuple => "tuple" | .list => "list" | .dict => "dict"
def PT.isOf : PT → D → Option Bool
  | .int, .int _ => some true
  | .int, .bl _ => some true
  | .bool, .bl _ => some true
  | .str, .str _ => some true
  | .tuple, .tup _ => some true
  | .list, .lst _ => some true
  | .list, .scr _ => some true
  | .dict, .dic _ _ => some true
  | _, .ref _ => none
  | _, .raw _ => none
  | _, .exn _ _ => none
  | _, _ => some false
def kdOf : D → Option String
  | .non => some "NoneType" | .bl _ => some "bool" | .int _ => some "int" | .str _ => some "str" | .tup _ => some "tuple" | .lst _ => some "list" | .scr _ => some "list" | .dic _ _ => some "dict" | _ => none
theorem kit_isOf {t : PT} {d : D} {b : Bool} (h : t.isOf d = some b) : ∃ T, kdOf d = some T ∧ kitB T t.nm = some b := by
  cases d <;> cases t <;> simp [PT.isOf] at h <;> subst h <;> refine ⟨_, rfl, ?_⟩ <;> decide +kernel
section
variable {X : Cx}
theorem Vw.kit {H : Hp} {Fb : Addr → Prop} {m : List Addr} {v : V} {d : D} {T : String} {pins : List (Addr × Obj)} {σ : L2.St} {s : Shared} {u : Value} (I : Inv X pins σ H s) (rx : RelV v u) (h : Vw X.K H Fb m v d) (e : kdOf d = some T) :
    ∃ P : Heap → Prop, PySem.W.KitX X.K u (.type T) P ∧ P s.heap ∧ u ≠ .builtin "__main__.__loader__#opaque" := by
  have of : TyX X.K H v (.type T) → ∃ P : Heap → Prop, PySem.W.KitX X.K u (.type T) P ∧ P s.heap ∧ u ≠ .builtin "__main__.__loader__#opaque" := fun t => kit_of I rx t
  have dT : ∀ {a : Addr} {kv : List (List Key × V)}, v = .ref a → Rd H a (.dT kv) → T = "dict" → ∃ P : Heap → Prop, PySem.W.KitX X.K u (.type T) P ∧ P s.heap ∧ u ≠ .builtin "__main__.__loader__#opaque" := fun {a kv} ev hd eT => by
    clear h
    subst eT ev
    rcases hd with hd | ⟨o, hd⟩
    · exact of (.base (.dT hd))
    · cases (show u = Value.ref a from rx)
      obtain ⟨_, _, _, xs, _, o, es, ep, h1, h2, _⟩ := (show ObjOk X.prog X.w H s.heap a (.frz o (.dT kv)) from I.hok a _ hd)
      exact ⟨_, PySem.W.kitx_dict, ⟨o, h1, h2.1⟩, fun z => nomatch z⟩
  cases h with
  | lst h z r => cases e; exact of (.base (.lst h))
  | dK h z q r => cases e; rcases h with h | ⟨o, h⟩; exact of (.base (.dK h)); exact of (.fDict h)
  | dT h z q r => cases e; exact dT rfl h rfl
  | oth h =>
    cases h with
    | non => cases e; exact of (.base .non)
    | bl b => cases e; exact of (.base (.bl b))
    | int b => cases e; exact of (.base (.int b))
    | str b => cases e; exact of (.base (.str b))
    | tup h z r =>
      cases e
      rcases h with (h | ⟨o, h⟩) | ⟨o, its, n, h, hc, _⟩
      · exact of (.base (.tup h))
      · exact of (.fTuple h)
      · exact of (.kTuple h hc)
    | lst h f z r => cases e; exact of (.base (.lst h))
    | dK h z q r => cases e; obtain ⟨o, h⟩ := h; exact of (.fDict h)
    | dT h z q r => cases e; exact dT rfl (.inr h) rfl
    | ref h => cases e
    | raw v => cases e
    | exn h f => cases e
    | exp h f h2 f2 n r => cases e
    | scr h z =>
      cases e
      rcases h with ⟨h | ⟨o, h⟩, _⟩ | ⟨o, its, n, h, hc, _⟩
      · exact of (.base (.lst h))
      · exact of (.base (.frz h))
      · exact of (.kList h hc)
/-- isinstance(e, T), T a built-in class by its name -/
def eIsi (t : PT) (a : Ex) : Ex := eOp1 (fun d => (t.isOf d).map .bl) a
def isOfs : List PT → D → Option Bool
  | [], _ => some false
  | t :: ts, d => match t.isOf d with
    | some true => some true
    | some false => isOfs ts d
    | none => none
def eIsis (ts : List PT) (a : Ex) : Ex := eOp1 (fun d => (isOfs ts d).map .bl) a
variable {W : WX} {e : Expr} {fa : Ex} {p p2 p3 pos : Pos}
theorem ev_isi {t : PT} {x : Str} (hg : Gl X "isinstance") (hm : X.mg "isinstance" = none) (hv : bootBuiltins "isinstance" = some (.builtin "isinstance")) (hx : Gl X x) (mx : X.mg x = none) (vx : bootBuiltins x = some (.type t.nm)) (ha : EV X W e fa)
    (he : starEach [e, .Name x p2] X.env = (false, eval e X.env) :: starEach [.Name x p2] X.env := by rfl) (hpl : (backTo pos (starEach [.Name x p2] X.env)).any (·.1) = false := by rfl) (h2 : starEach [.Name x p2] X.env = (false, eval (.Name x p2) X.env) :: starEach [] X.env := by rfl)
    (hn : x ≠ "__name__" := by decide) (hdb : (x == ("__debug__" : Str)) = false := by decide) : EV X W (.Call (.Name "isinstance" p) [e, .Name x p2] [] pos) (eIsi t fa) := by
  have hc : CallR X (.builtin "isinstance") (fun xs H Q => ∃ v, xs = [v, .ty t.nm] ∧ rG1 X.K (fun d => (t.isOf d).map .bl) v H Q) := by
    intro pins s σ H xs us Q I r ⟨v, ex, Fb, m, dx, d, fr, vx, e1, k⟩
    subst ex
    obtain ⟨b, e2, rfl⟩ := Option.map_eq_some_iff.mp e1
    obtain ⟨T, e3, e4⟩ := kit_isOf e2
    obtain ⟨u1, u2, rfl, r1, r2⟩ := vals2 r
    cases (show u2 = Value.type t.nm from r2)
    obtain ⟨P, Z, p, hx⟩ := vx.kit I r1 e3
    exact PySem.W.kia_one Z I.kIn p (kit_ty e4) hx fun tk => ⟨.bl b, H, I.tok tk, rfl, k H _ (Same.refl H) (.bl b)⟩
  refine pe_imp (pe_callB hc hg hm hv (pa_cons ha (pa_cons (pe_bltn (v := .ty t.nm) hx mx vx rfl hn hdb) pa_nil h2) he) (by decide) (by decide) he hpl) fun σ H Q h => ?_
  have h' := one_of (g := fun d => (t.isOf d).map .bl) h
  obtain ⟨B, m, ρ, S, r, re, f⟩ := h'
  exact ⟨B, m, ρ, S, r, re, f.mono fun x H1 q => ⟨x, rfl, q⟩⟩
end
end DL
set_option Elab.async false
set_option linter.all false
set_option maxRecDepth 100000
set_option maxHeartbeats 4000000
namespace DL
open PySem PySem.Spec PyProof.Rows L2
section
variable {K : PySem.W.Frag} {mg : Str → Option Value} {B : Addr → Prop} {m : List Addr} {S : Sto} {H : Hp} {n : Nat} {a : Addr} {o o' : Ob} {ho : HO}
theorem liv_set (h2 : S[n]? = some (some o)) {x : Addr} : Liv m (S.set n (some o')) x ↔ Liv m S x := by
  have hn := (List.getElem?_eq_some_iff.mp h2).1
  constructor
  · rintro ⟨k, u, e1, e2⟩
    by_cases hk : k = n
    · subst hk; exact ⟨k, o, e1, h2⟩
    · rw [List.getElem?_set_ne (Ne.symm hk)] at e2; exact ⟨k, u, e1, e2⟩
  · rintro ⟨k, u, e1, e2⟩
    by_cases hk : k = n
    · subst hk; exact ⟨k, o', e1, List.getElem?_set_self hn⟩
    · exact ⟨k, u, e1, by rw [List.getElem?_set_ne (Ne.symm hk)]; exact e2⟩
theorem kp_upd (r : Rl K mg B m H S) (h1 : m[n]? = some a) (h2 : S[n]? = some (some o)) : Kp H (upd H a ho) (Fo B m S) (Fo B m (S.set n (some o'))) m m := by
  have hl : Liv m S a := ⟨n, o, h1, h2⟩
  have ne : ∀ x, ¬ Fo B m S x → x ≠ a := fun x f e => f (.inr (e ▸ hl))
  refine ⟨fun x xs h f => by rw [upd_ne (ne x f)]; exact h, fun x u h f => ?_, fun x o f h => ?_, fun x u h f z => ?_, fun _ _ h => h⟩
  · unfold Rd; rw [upd_ne (ne x f)]; exact h
  · have : x ≠ a := by
      rintro rfl
      exact (r.obj n _ _ h1 h2).not_fix f h
    rw [upd_ne this]; exact h
  · rcases z with z | z
    · exact f (.inl z)
    · exact f (.inr ((liv_set h2).mp z))
theorem Post.upd (r : Rl K mg B m H S) (h1 : m[n]? = some a) (h2 : S[n]? = some (some o)) (new : ObR K mg (L2.upd H a ho) (Fo B m (S.set n (some o'))) m a o') : Post K mg B m S H m (S.set n (some o')) (L2.upd H a ho) := by
  have hl : Liv m S a := ⟨n, o, h1, h2⟩
  have kp := kp_upd (ho := ho) (o' := o') r h1 h2
  have sm : ∀ x, H x ≠ none → L2.upd H a ho x ≠ none := fun x h => by
    by_cases e : x = a
    · subst e; rw [upd_same]; simp
    · rw [upd_ne e]; exact h
  refine ⟨⟨[], by simp, fun a h => by simp at h⟩, fun x u h f => ?_, sm, ⟨by rw [List.length_set]; exact r.len, r.nod, fun x h => r.nb x ((liv_set h2).mp h), fun x h => sm x (r.bt x h), fun x h => sm x (r.mt x h), fun k x u e1 e2 => ?_⟩, fun x h => .inl ((liv_set h2).mp h)⟩
  · have : x ≠ a := fun e => f (e ▸ hl)
    rw [upd_ne this]; exact h
  · by_cases hk : k = n
    · subst hk
      rw [h1] at e1; cases e1
      rw [List.getElem?_set_self (List.getElem?_eq_some_iff.mp h2).1] at e2
      cases e2
      exact new
    · rw [List.getElem?_set_ne (Ne.symm hk)] at e2
      have nx : x ≠ a := fun e => by
        subst e
        obtain ⟨l1, z1⟩ := List.getElem?_eq_some_iff.mp e1
        obtain ⟨l2, z2⟩ := List.getElem?_eq_some_iff.mp h1
        exact hk ((List.getElem_inj r.nod).mp (z1.trans z2.symm))
      cases r.obj k x u e1 e2 with
      | lst h z q => exact .lst (by rw [upd_ne nx]; exact h) z (q.kp kp)
      | dK h z e q => exact .dK (by rw [upd_ne nx]; exact h) z e (q.kp kp)
      | dT h z e q => exact .dT (by rw [upd_ne nx]; exact h) z e (q.kp kp)
      | ins g h e q => exact .ins g (by rw [upd_ne nx]; exact h) e (q.kp kp)
end
/-- a live list -/
def lstOf (S : Sto) : D → Option (Nat × List D)
  | .ref n => match S[n]? with
    | some (some (.lst xs)) => some (n, xs)
    | _ => none
  | _ => none
theorem lstOf_some {K : PySem.W.Frag} {mg : Str → Option Value} {B : Addr → Prop} {m : List Addr} {S : Sto} {H : Hp} {d : D} {n : Nat} {xs : List D} {v : V} (r : Rl K mg B m H S) (e : lstOf S d = some (n, xs)) (q : Rep K H (Fo B m S) m v d) :
    ∃ a vs, v = .ref a ∧ m[n]? = some a ∧ S[n]? = some (some (.lst xs)) ∧ H a = some (.lst vs) ∧ vs.length ≤ sizeLine ∧ RepA K H (Fo B m S) m vs xs := by
  cases d with
  | ref k =>
    simp only [lstOf] at e
    split at e
    · rename_i xs' e2
      cases e
      cases q with
      | ref e1 =>
        have ob := r.obj _ _ _ e1 e2
        cases ob with
        | lst h z q => exact ⟨_, _, rfl, e1, e2, h, z, q⟩
    · cases e
  | _ => simp [lstOf] at e
/-- a method that writes a list: from its items and the arguments the new items and the answer -/
def doMut (g : List D → List D → Option (List D × D)) (S : Sto) (d : D) (ds : List D) : R D := match lstOf S d with
  | none => .bad
  | some nx => match g nx.2 ds with
    | none => .bad
    | some yz => .ok yz.2 (S.set nx.1 (some (.lst yz.1)))
def eMeth (g : List D → List D → Option (List D × D)) (fo : Ex) (fs : List Ex) : Ex := fun ρ S => (fo ρ S).bind fun d S => if (lstOf S d).isSome = true then (evL fs ρ S).bind fun ds S => doMut g S d ds else .bad
def eMeth0 (g : List D → List D → Option (List D × D)) (fo : Ex) : Ex := fun ρ S => (fo ρ S).bind fun d S => doMut g S d []
def rMut (K : PySem.W.Frag) (g : List D → List D → Option (List D × D)) : V → List V → Hp → VK → Prop := fun x vs H Q => ∃ (mg : Str → Option Value) (B : Addr → Prop) (m : List Addr) (S : Sto) (n : Nat) (a : Addr) (ws : List V) (xs ds ys : List D) (z : D), x = .ref a ∧ Rl K mg B m H S ∧ m[n]? = some a ∧ S[n]? = some (some (.lst xs)) ∧ H a = some (.lst ws) ∧ ws.length ≤ sizeLine ∧ RepA K H (Fo B m S) m ws xs ∧ RepA K H (Fo B m S) m vs ds ∧ g xs ds = some (ys, z) ∧
  ∀ us v, us.length ≤ sizeLine → RepA K H (Fo B m S) m us ys → Rep K H (Fo B m S) m v z → Q v (upd H a (.lst us))
section
variable {X : Cx} {W : WX} {o e : Expr} {es : List Expr} {fo : Ex} {fs : List Ex} {name : Str} {apos cpos : Pos} {id : String} {g : List D → List D → Option (List D × D)}
theorem ty_lst {K : PySem.W.Frag} {H : Hp} {a : Addr} {vs : List V} (h : H a = some (.lst vs)) : tyV K "list" (.ref a) H := Or.inl ⟨rfl, _, Or.inl (Or.inl h)⟩
theorem mut_fin {K : PySem.W.Frag} {mg : Str → Option Value} {σ : L2.St} {B : Addr → Prop} {m : List Addr} {S : Sto} {H : Hp} {Q : VK} {d : D} {ds : List D} {x : V} {vs : List V} (r : Rl K mg B m H S) (rx : Rep K H (Fo B m S) m x d) (q : RepA K H (Fo B m S) m vs ds)
    (f : fin K mg W B m S σ H (doMut g S d ds) Q) : rMut K g x vs H Q := by
  unfold doMut at f
  cases e1 : lstOf S d with
  | none => rw [e1] at f; exact f.elim
  | some nx =>
    obtain ⟨n, xs⟩ := nx
    rw [e1] at f
    dsimp only at f
    cases e2 : g xs ds with
    | none => rw [e2] at f; exact f.elim
    | some yz =>
      obtain ⟨ys, z⟩ := yz
      rw [e2] at f
      obtain ⟨a, ws, rfl, h1, h2, h3, h4, h5⟩ := lstOf_some r e1 rx
      refine ⟨mg, B, m, S, n, a, ws, xs, ds, ys, z, rfl, r, h1, h2, h3, h4, h5, q, e2, fun us v hz hq hv => ?_⟩
      have kp := kp_upd (ho := .lst us) (o' := .lst ys) r h1 h2
      exact f m _ v (Post.upd r h1 h2 (.lst upd_same hz (hq.kp kp))) (hv.kp kp)
/-- the receiver is a live list when the arguments are reckoned -/
theorem ev_mut (pa : PlainAttrs "list") (slot : Slot "list" name id) (hty : typeOf (.builtin id) = pure (.type "method_descriptor")) (hm : MtR X id (rMut X.K g)) (ho : EV X W o fo) (ha : EVA X W (e :: es) fs) (hfs : fs ≠ [] := by exact fun h => nomatch h)
    (hbase : attributeBase o name X.env (eval o X.env) = eval o X.env := by rfl)
    (hfew : ((backTo cpos (starEach (e :: es) X.env)).all (fun x => !x.1) && (backToKw cpos (keywordEach [] X.env)).all (fun x => x.1.isSome)
      && decide ((e :: es).length + ([] : List Keyword).length + (if ([] : List Keyword).isEmpty then 0 else 1) < 30)) = true := by rfl)
    (hline : (apos.endLine == cpos.line) = true := by rfl) (hs : starEach (e :: es) X.env = (false, eval e X.env) :: starEach es X.env := by rfl) (hplain : (backTo cpos (starEach es X.env)).any (·.1) = false := by rfl) :
    EV X W (.Call (.Attribute o name apos) (e :: es) [] cpos) (eMeth g fo fs) := by
  refine pe_imp (pe_bm pa slot hty hm ho ha hbase hfew hline hs hplain) fun σ H Q h => ?_
  obtain ⟨B, m, ρ, S, r, re, f⟩ := up_one (g := fun d ρ S => if (lstOf S d).isSome = true then (evL fs ρ S).bind fun ds S => doMut g S d ds else .bad) h
  refine ⟨B, m, ρ, S, r, re, f.mono fun x H1 => ?_⟩
  rintro ⟨B, m, ρ, S, d, r, re, rx, f⟩
  cases e1 : lstOf S d with
  | none => rw [e1] at f; exact f.elim
  | some nx =>
    obtain ⟨n, xs⟩ := nx
    rw [e1] at f
    simp only [Option.isSome_some, if_true] at f
    obtain ⟨a, ws, rfl, h1, h2, h3, h4, h5⟩ := lstOf_some r e1 rx
    refine ⟨ty_lst h3, B, m, ρ, S, r, re, finA.mono (finA.bind f) fun vs H2 => ?_⟩
    rintro ⟨m2, S2, ds, p2, q2, f2⟩
    exact mut_fin p2.rl (rx.kp (p2.kp r)) q2 f2
theorem ev_mut0 (pa : PlainAttrs "list") (slot : Slot "list" name id) (hty : typeOf (.builtin id) = pure (.type "method_descriptor")) (hm : MtR X id (rMut X.K g)) (ho : EV X W o fo)
    (hbase : attributeBase o name X.env (eval o X.env) = eval o X.env := by rfl) (hline : (apos.endLine == cpos.line) = true := by rfl) :
    EV X W (.Call (.Attribute o name apos) [] [] cpos) (eMeth0 g fo) := by
  refine pe_imp (pe_bm0 pa slot hty hm ho hbase hline) fun σ H Q h => ?_
  obtain ⟨B, m, ρ, S, r, re, f⟩ := up_one (g := fun d ρ S => doMut g S d []) h
  refine ⟨B, m, ρ, S, r, re, f.mono fun x H1 => ?_⟩
  rintro ⟨B, m, ρ, S, d, r, re, rx, f⟩
  refine ⟨?_, mut_fin r rx .nil f⟩
  unfold doMut at f
  cases e1 : lstOf S d with
  | none => rw [e1] at f; exact f.elim
  | some nx =>
    obtain ⟨n, xs⟩ := nx
    obtain ⟨a, ws, rfl, h1, h2, h3, h4, h5⟩ := lstOf_some r e1 rx
    exact ty_lst h3
end
def gAppend : List D → List D → Option (List D × D) := fun xs ds => match ds with
  | [d] => if xs.length < sizeLine then some (xs ++ [d], .non) else none
  | _ => none
def gClear : List D → List D → Option (List D × D) := fun _ ds => match ds with
  | [] => some ([], .non)
  | _ => none
section
variable {X : Cx} {W : WX} {o e : Expr} {fo fe : Ex} {apos cpos : Pos}
theorem mg_append : MtR X "list.append" (rMut X.K gAppend) := by
  intro pins s σ H x vs v us Q I rx rs ⟨mg, B, m, S, n, a, ws, xs, ds, ys, z, ex, r, h1, h2, h3, h4, h5, q, e, k⟩
  subst ex
  unfold gAppend at e
  split at e
  · split at e
    · rename_i d hz
      cases e
      cases q with
      | cons qd qn =>
        cases qn
        exact mt_append pins s σ H _ _ v us Q I rx rs ⟨a, ws, _, rfl, rfl, h3, by rw [h5.length]; exact hz, k _ _ (by have := h5.length; simp; omega) (h5.append (.cons qd .nil)) .non⟩
    · cases e
  · cases e
theorem mg_clear : MtR X "list.clear" (rMut X.K gClear) := by
  intro pins s σ H x vs v us Q I rx rs ⟨mg, B, m, S, n, a, ws, xs, ds, ys, z, ex, r, h1, h2, h3, h4, h5, q, e, k⟩
  subst ex
  unfold gClear at e
  split at e
  · cases e
    cases q
    exact mt_clear pins s σ H _ _ v us Q I rx rs ⟨a, ws, rfl, rfl, h3, k _ _ (by simp) .nil .non⟩
  · cases e
theorem ev_append (ho : EV X W o fo) (ha : EVA X W [e] [fe]) (hbase : attributeBase o "append" X.env (eval o X.env) = eval o X.env := by rfl)
    (hfew : ((backTo cpos (starEach [e] X.env)).all (fun x => !x.1) && (backToKw cpos (keywordEach [] X.env)).all (fun x => x.1.isSome) && decide ([e].length + ([] : List Keyword).length + (if ([] : List Keyword).isEmpty then 0 else 1) < 30)) = true := by rfl)
    (hline : (apos.endLine == cpos.line) = true := by rfl) (hs : starEach [e] X.env = (false, eval e X.env) :: starEach [] X.env := by rfl) (hplain : (backTo cpos (starEach [] X.env)).any (·.1) = false := by rfl) :
    EV X W (.Call (.Attribute o "append" apos) [e] [] cpos) (eMeth gAppend fo [fe]) := ev_mut PySem.F.plainAttrs_list PySem.F.slot_list_append PySem.F.type_list_append mg_append ho ha (by exact fun h => nomatch h) hbase hfew hline hs hplain
theorem ev_clear (ho : EV X W o fo) (hbase : attributeBase o "clear" X.env (eval o X.env) = eval o X.env := by rfl) (hline : (apos.endLine == cpos.line) = true := by rfl) : EV X W (.Call (.Attribute o "clear" apos) [] [] cpos) (eMeth0 gClear fo) :=
  ev_mut0 PySem.F.plainAttrs_list PySem.F.slot_list_clear PySem.F.type_list_clear mg_clear ho hbase hline
end
/-- a live dict -/
def dicOf (S : Sto) : D → Option (Nat × List (D × D))
  | .ref n => match S[n]? with
    | some (some (.dic false kvs)) => some (n, kvs)
    | _ => none
  | _ => none
theorem dicOf_some {K : PySem.W.Frag} {mg : Str → Option Value} {B : Addr → Prop} {m : List Addr} {S : Sto} {H : Hp} {d : D} {n : Nat} {kvs : List (D × D)} {v : V} (r : Rl K mg B m H S) (e : dicOf S d = some (n, kvs)) (q : Rep K H (Fo B m S) m v d) :
    ∃ a kv, v = .ref a ∧ m[n]? = some a ∧ S[n]? = some (some (.dic false kvs)) ∧ H a = some (.dK kv) ∧ kv.length ≤ sizeLine ∧ KR K H (Fo B m S) m kv kvs := by
  cases d with
  | ref k =>
    simp only [dicOf] at e
    split at e
    · rename_i xs' e2
      cases e
      cases q with
      | ref e1 =>
        have ob := r.obj _ _ _ e1 e2
        cases ob with
        | dK h z e3 q => exact ⟨_, _, rfl, e1, e2, h, z, kr_of e3 q⟩
    · cases e
  | _ => simp [dicOf] at e
/-- a live dict is written -/
theorem Post.updD {K : PySem.W.Frag} {mg : Str → Option Value} {B : Addr → Prop} {m : List Addr} {S : Sto} {H : Hp} {n : Nat} {a : Addr} {kw : List (Key × V)} {kvs kws : List (D × D)} (r : Rl K mg B m H S) (h1 : m[n]? = some a) (h2 : S[n]? = some (some (.dic false kvs))) (q : KR K H (Fo B m S) m kw kws) (hz : kw.length ≤ sizeLine) :
    Post K mg B m S H m (S.set n (some (.dic false kws))) (L2.upd H a (.dK kw)) := by
  have kp := kp_upd (ho := .dK kw) (o' := .dic false kws) r h1 h2
  have q2 := q.kp kp
  exact Post.upd r h1 h2 (.dK upd_same hz q2.keys q2.vals)
def putAtD (S : Sto) (d k z : D) : Option Sto := match dicOf S d with
  | some (n, kvs) => match unK k with
    | some kk => if kvs.length < sizeLine then some (S.set n (some (.dic false (putD kvs kk z)))) else none
    | none => none
  | none => none
theorem putAt_ok {K : PySem.W.Frag} {mg : Str → Option Value} {B : Addr → Prop} {m : List Addr} {S S' : Sto} {H : Hp} {d k z : D} {vd vk vz : V} (r : Rl K mg B m H S) (rd : Rep K H (Fo B m S) m vd d) (rk : Rep K H (Fo B m S) m vk k) (rz : Rep K H (Fo B m S) m vz z) (e : putAtD S d k z = some S') :
    ∃ a H', vd = .ref a ∧ DPut H a vk vz H' ∧ Post K mg B m S H m S' H' := by
  unfold putAtD at e
  cases e1 : dicOf S d with
  | none => rw [e1] at e; cases e
  | some nk =>
    obtain ⟨n, kvs⟩ := nk
    rw [e1] at e
    dsimp only at e
    cases e2 : unK k with
    | none => rw [e2] at e; cases e
    | some kk =>
      rw [e2] at e
      dsimp only at e
      split at e
      · rename_i hl
        cases e
        obtain ⟨a, kv, rfl, h1, h2, h3, h4, h5⟩ := dicOf_some r e1 rd
        have hk := rk.key e2
        subst hk
        have hz : (putK kv kk vz).length ≤ sizeLine := by have := length_putK kv kk vz; have := h5.length; omega
        exact ⟨a, _, rfl, DPut.k h3 (by rw [h5.length]; exact hl), Post.updD r h1 h2 (h5.put kk rz) hz⟩
      · cases e
def rSetLD : TSet := fun o i v H Q => rSetL o i v H Q ∨ rSetD o i v H Q
theorem set_LD {X : Cx} (hu : X.A.units + 1 < cLine) : PSet X rSetLD := fun pins s σ H o i v ov iv u Q I ro ri rv h => h.elim (set_list pins s σ H o i v ov iv u Q I ro ri rv) (set_dict hu pins s σ H o i v ov iv u Q I ro ri rv)
def sSetIx (o i e : Ex) : Sx := fun ρ S => (e ρ S).bindS ρ fun z S => (o ρ S).bindS ρ fun d S => (i ρ S).bindS ρ fun k S => match lstOf S d, k with
  | some (n, xs), .int j => match ixN xs.length j with
    | some p => .fl (.nx ρ) (S.set n (some (.lst (xs.set p z))))
    | none => .bad
  | _, _ => match putAtD S d k z with
    | some S' => .fl (.nx ρ) S'
    | none => .bad
section
variable {X : Cx} {W : WX} {o i e : Expr} {fo fi fe : Ex} {pos p : Pos}
theorem sv_setIx (hu : X.A.units + 64 < cLine) (he : EV X W e fe) (ho : EV X W o fo) (hi : EV X W i fi)
    (ha : ∀ v, assign (.Subscript o i p) X.env v = (do
      let ov ← holding [v] (eval o X.env)
      let iv ← holding [v, ov] (eval i X.env)
      standAt p
      holding [v, ov, iv] (setItem ov iv v)
      release [v, ov, iv] []) := by intro _; rfl)
    (hs : swapsWithSole [.Subscript o i p] e pos.line X.env = pure false := by rfl) (hw : swappedStores [.Subscript o i p] e X.env = pure none := by rfl)
    (h1 : (assignEach [.Subscript o i p] X.env).map (·.2) = [assign (.Subscript o i p) X.env] := by rfl) : SV X W (.Assign [.Subscript o i p] e pos) (sSetIx fo fi fe) := by
  refine ps_imp (ps_asg he (pg_sub ho hi (set_LD (by omega)) ha) hs hw h1) fun E σ H h => ?_
  obtain ⟨B, m, ρ, S, r, re, f⟩ := upS_one (g := fun z ρ S => (fo ρ S).bindS ρ fun d S => (fi ρ S).bindS ρ fun k S => match lstOf S d, k with
    | some (n, xs), .int j => match ixN xs.length j with
      | some p => .fl (.nx ρ) (S.set n (some (.lst (xs.set p z))))
      | none => .bad
    | _, _ => match putAtD S d k z with
      | some S' => .fl (.nx ρ) S'
      | none => .bad) h
  refine ⟨B, m, ρ, S, r, re, f.mono fun x H1 => ?_⟩
  rintro ⟨B, m, ρ, S, dz, r, re, rz, f⟩
  refine ⟨B, m, ρ, S, r, re, fin.mono (fin.bindS re r f) fun vo H2 => ?_⟩
  rintro ⟨m2, S2, dO, p2, q2, f2⟩
  have re2 := re.kp (p2.kp r)
  refine ⟨B, m2, ρ, S2, p2.rl, re2, fin.mono (fin.bindS re2 p2.rl f2) fun vi H3 => ?_⟩
  rintro ⟨m3, S3, dk, p3, q3, f3⟩
  have rz3 := (rz.kp (p2.kp r)).kp (p3.kp p2.rl)
  have ro3 := q2.kp (p3.kp p2.rl)
  have re3 := re2.kp (p3.kp p2.rl)
  split at f3
  · rename_i n xs j e1
    split at f3
    · rename_i pl e2
      obtain ⟨a, ws, rfl, h1, h2, h3, h4, h5⟩ := lstOf_some p3.rl e1 ro3
      cases q3
      have kp := kp_upd (ho := .lst (ws.set pl x)) (o' := .lst (xs.set pl dz)) p3.rl h1 h2
      refine .inl ⟨a, ws, j, pl, rfl, rfl, h3, by rw [h5.length]; exact e2, ?_⟩
      exact f3 m3 _ σ (Post.upd p3.rl h1 h2 (.lst upd_same (by simpa using h4) ((h5.set pl rz3).kp kp))) (re3.kp kp)
    · exact f3.elim
  · split at f3
    · rename_i S' e2
      obtain ⟨a, H', rfl, g, po⟩ := putAt_ok p3.rl ro3 q3 rz3 e2
      exact .inr ⟨a, H', rfl, g, f3 m3 H' σ po (re3.kp (po.kp p3.rl))⟩
    · exact f3.elim
end
def sAug (i : Nat) (g : D → D → Option D) (e : Ex) : Sx := fun ρ S => match ρ[i]? with
  | some (some d) => (e ρ S).bindS ρ fun y S => match g (view S d) (view S y) with
    | some z => .fl (.nx (ρ.set i (some z))) S
    | none => .bad
  | _ => .bad
def eChain (g g' : D → D → Option D) (a b c : Ex) : Ex := fun ρ S => (a ρ S).bind fun x S => (b ρ S).bind fun y S => match g (view S x) (view S y) with
  | some (.bl k) => if k = true then (c ρ S).bind fun z S => ans S (g' (view S y) (view S z)) else .ok (.bl false) S
  | _ => .bad
section
variable {X : Cx} {W : WX} {a b c : Expr} {fa fb fc : Ex} {pos : Pos} {op op' : CmpOp} {g g' : D → D → Option D}
theorem chain_of {K : PySem.W.Frag} {mg : Str → Option Value} {W : WX} {σ : L2.St} {H : Hp} {Q : VK} (h : up K mg W (eChain g g' fa fb fc) σ H Q) : tChain (rG2 K g) (rG2 K g') (up K mg W fa) (up K mg W fb) (up K mg W fc) σ H Q := by
  obtain ⟨B, m, ρ, S, r, re, f⟩ := up_two (g := fun x y ρ S => match g (view S x) (view S y) with
  | some (.bl k) => if k = true then (fc ρ S).bind fun z S => ans S (g' (view S y) (view S z)) else .ok (.bl false) S
  | _ => .bad) h
  refine ⟨B, m, ρ, S, r, re, f.mono fun x H1 => ?_⟩
  rintro ⟨B, m, ρ, S, r, re, f⟩
  refine ⟨B, m, ρ, S, r, re, f.mono fun y H2 => ?_⟩
  rintro ⟨B, m, ρ, S, dx, dy, r, re, rx, ry, f⟩
  split at f
  · rename_i k e
    refine ⟨_, m, _, _, _, fr_of r, vw r rx, vw r ry, e, fun H3 z s q => ?_⟩
    have p3 := Post.grow r s
    cases q
    refine ⟨k, rfl, ?_⟩
    have f3 := fin.later p3 f
    cases k with
    | false =>
      rw [if_neg Bool.false_ne_true] at f3 ⊢
      exact f3 m H3 _ (Post.refl p3.rl) (.bl false)
    | true =>
      rw [if_pos rfl] at f3 ⊢
      refine ⟨B, m, ρ, S, p3.rl, re.kp (p3.kp r), fin.mono (fin.bind f3) fun w H4 => ?_⟩
      rintro ⟨m4, S4, dz, p4, q4, f4⟩
      cases e5 : g' (view S4 dy) (view S4 dz) with
      | none => rw [e5] at f4; exact f4.elim
      | some d =>
        rw [e5] at f4
        exact ⟨_, m4, _, _, d, fr_of p4.rl, vw p4.rl ((ry.kp (p3.kp r)).kp (p4.kp p3.rl)), vw p4.rl q4, e5, fun H' z s q => f4.ok p4.rl s q⟩
  · exact f.elim
theorem ev_chain (ho : OpR X (compareOp op) (rG2 X.K g)) (ho' : OpR X (compareOp op') (rG2 X.K g')) (ha : EV X W a fa) (hb : EV X W b fb) (hc : EV X W c fc) (hm : lastMarks [op, op'] [b, c] = false := by with_unfolding_all rfl) :
    EV X W (.Compare a [op, op'] [b, c] pos) (eChain g g' fa fb fc) := pe_imp (pe_chain ho ho' ha hb hc hm) fun σ H Q h => chain_of h
end
end DL
set_option Elab.async false
set_option linter.all false
set_option maxRecDepth 100000
set_option maxHeartbeats 4000000
namespace DL
open PySem PySem.Spec PyProof.Rows L2
def eListM (g : List D → Option D) (fs : List Ex) : Ex := fun ρ S => (evL fs ρ S).bind fun ds S => match g (ds.map (view S)) with
  | some (.lst xs) => .ok (.ref S.length) (S ++ [some (.lst xs)])
  | _ => .bad
section
variable {X : Cx} {W : WX} {e : Expr} {es : List Expr} {fs : List Ex} {pos p : Pos}
theorem ev_listM (hg : Gl X "list") (hm : X.mg "list" = none) (ha : EVA X W (e :: es) fs) (hv : bootBuiltins "list" = some (.type "list") := by decide +kernel)
    (he : starEach (e :: es) X.env = (false, eval e X.env) :: starEach es X.env := by rfl) (hpl : (backTo pos (starEach es X.env)).any (·.1) = false := by rfl) : EV X W (.Call (.Name "list" p) (e :: es) [] pos) (eListM listD fs) := by
  refine pe_imp (pe_callTy call_list_of hg hm hv ha (by decide) (by decide) he hpl) fun σ H Q h => ?_
  obtain ⟨B, m, ρ, S, r, re, f⟩ := upA_one (g := fun ds ρ S => match listD (ds.map (view S)) with
    | some (.lst xs) => .ok (.ref S.length) (S ++ [some (.lst xs)])
    | _ => .bad) h
  refine ⟨B, m, ρ, S, r, re, finA.mono f fun vs H1 => ?_⟩
  rintro ⟨B, m, ρ, S, ds, r, re, q, f⟩
  split at f
  · rename_i xs e1
    have vx := vwA r q
    unfold listD at e1
    split at e1
    · rename_i e2
      cases e1
      rw [e2] at vx
      obtain ⟨v, rfl, hv⟩ := vx.one
      obtain ⟨a, ws, rfl, h1, z1, q1⟩ := hv.asL
      exact ⟨a, ws, rfl, .inl (SqL.of h1), fun p hp => f (m ++ [p]) _ _ (Post.new r hp (.lst upd_same z1 (q1.kp (kp_new r hp)))) (rep_new r)⟩
    · rename_i e2
      cases e1
      rw [e2] at vx
      obtain ⟨v, rfl, hv⟩ := vx.one
      obtain ⟨a, ws, rfl, h1, z1, q1⟩ := hv.asT
      exact ⟨a, ws, rfl, .inr h1, fun p hp => f (m ++ [p]) _ _ (Post.new r hp (.lst upd_same z1 (q1.kp (kp_new r hp)))) (rep_new r)⟩
    · cases e1
  · exact f.elim
end
section
variable {X : Cx} {W : WX} {x : Str} {pos : Pos}
theorem ev_gint {i : Int} (hg : Gl X x) (hm : ∃ t, X.mg x = some (.int i t)) (hd : (x == ("__debug__" : Str)) = false := by decide) : EV X W (.Name x pos) (eC (.int i)) := by
  obtain ⟨t, hm⟩ := hm
  exact pe_imp (pe_glob (v := .int i) hg hm ⟨t, rfl⟩ hd) fun σ H Q ⟨B, m, ρ, S, r, re, f⟩ => fin.ok r f (Same.refl H) (.int i)
end
def revD : D → Option D
  | .lst xs => some (.lst xs.reverse)
  | .tup xs => some (.tup xs.reverse)
  | _ => none
end DL
set_option Elab.async false
set_option linter.all false
set_option maxRecDepth 100000
set_option maxHeartbeats 4000000
namespace DL
open PySem PySem.Spec PyProof.Rows L2
def SI (t : Bool) (h : Heap) (it a : Addr) (k : Nat) : Prop := if t = true then h.IsTupleIter it a k else h.IsListIter it a k
def SS (t : Bool) (h : Heap) (a : Addr) (xs : Array Value) : Prop := if t = true then h.IsTuple a xs else h.IsList a xs
theorem SI.at {t : Bool} {h h' : Heap} {a l : Addr} {i : Nat} (x : SI t h a l i) (k : ∀ o, h.get? a = some o → h'.get? a = some o) : SI t h' a l i := by
  cases t with
  | true => obtain ⟨o, e, r⟩ := (show h.IsTupleIter a l i from x); exact ⟨o, k o e, r⟩
  | false => obtain ⟨o, e, r⟩ := (show h.IsListIter a l i from x); exact ⟨o, k o e, r⟩
theorem SI.obj {t : Bool} {h : Heap} {a l : Addr} {i : Nat} (x : SI t h a l i) : ∃ o, h.get? a = some o ∧ ∀ v, o.data ≠ .cell v := by
  cases t with
  | true => obtain ⟨o, e, _, d⟩ := (show h.IsTupleIter a l i from x); exact ⟨o, e, fun v z => by rw [d] at z; cases z⟩
  | false => obtain ⟨o, e, _, d⟩ := (show h.IsListIter a l i from x); exact ⟨o, e, fun v z => by rw [d] at z; cases z⟩
def itO (t : Bool) (l : Addr) : Obj := { cls := .type (if t = true then "tuple_iterator" else "list_iterator"), data := .fields #[.ref l, .int 0 0] }
theorem SI.new {t : Bool} {h : Heap} {l : Addr} : SI t (h.push (itO t l)) h.objs.size l 0 := by
  cases t with
  | true => exact ⟨_, Heap.get?_push_size _ rfl, rfl, rfl⟩
  | false => exact ⟨_, Heap.get?_push_size _ rfl, rfl, rfl⟩
theorem SS.keep {t : Bool} {h h' : Heap} {a : Addr} {xs : Array Value} (x : SS t h a xs) (k : ∀ o, h.get? a = some o → h'.get? a = some o) : SS t h' a xs := by
  cases t with
  | true => obtain ⟨o, e, r⟩ := (show h.IsTuple a xs from x); exact ⟨o, k o e, r⟩
  | false => obtain ⟨o, e, r⟩ := (show h.IsList a xs from x); exact ⟨o, k o e, r⟩
/-- the items of zip(.., strict=True) -/
def asSq : D → Option (Bool × List D)
  | .tup xs => some (true, xs)
  | .lst xs => some (false, xs)
  | _ => none
def zipDs (xs ys : List D) : List D := (xs.zip ys).map fun p => .tup [p.1, p.2]
def iZipS (a b : Ex) : Ix := fun ρ S => (a ρ S).bind fun x S => (b ρ S).bind fun y S => match asSq x, asSq y with
  | some p, some q => if p.2.length = q.2.length then .ok (zipDs p.2 q.2) S else .bad
  | _, _ => .bad
end DL
set_option Elab.async false
set_option linter.all false
set_option maxRecDepth 100000
set_option maxHeartbeats 4000000
namespace DL
open PySem PySem.Spec PyProof.Rows L2
section
variable {P : Program} {w : World} {K : PySem.W.Frag} {mg : Str → Option Value} {base : Heap}
/-- a def of the head's facts -/
theorem fn_denD {x qual : Str} {params : Arguments} {body : List Stmt} {scope : Scope} {dvs : List V} {kws : List (Str × V)} {f : Addr} {fd : FuncData} {N ps : List Str} {k : Nat} {b : Sx} (F : FunD K x qual params body scope dvs kws f fd) (sc : FnScope N ps scope)
    (h : ∀ (cdv : Value) (A : Around) (outer : List Env) (s : Shared) (H : Hp) (E : XK), DL.Room k (A.deeper (envOfC qual scope s.heap.objs.size f cdv)) →
      Takes (cxOf (L2.CX P w) P w K mg base N qual scope f cdv A outer s H E) (WB E) → PassesOwn (model P w) (A.deeper (envOfC qual scope s.heap.objs.size f cdv)) (envOfC qual scope s.heap.objs.size f cdv) (cxOf (L2.CX P w) P w K mg base N qual scope f cdv A outer s H E).xe →
      SVs (cxOf (L2.CX P w) P w K mg base N qual scope f cdv A outer s H E) (WB E) body b) : DL.FnOk P w K mg base (L2.CX P w) (k + 1) f fd ps (spD K mg ps.length (fnB N.length b)) := by
  refine funD_ok F sc (fun vs H Q E h => ?_) (fun cdv A outer s H vs Q E hr hs => ?_)
  · obtain ⟨_, _, _, _, _, _, e, _⟩ := h
    exact e
  · obtain ⟨B, m, S, ds, r, q, e, g⟩ := hs
    refine ⟨_, h cdv A outer s H E hr (takes_of rfl rfl rfl rfl) (passes_of rfl), B, m, _, S, r, repE_start q, ?_⟩
    unfold fnB at g
    show finS K mg (WB E) B m S H (b (ds.map some ++ List.replicate (N.length - ds.length) none) S) _
    cases e1 : b (ds.map some ++ List.replicate (N.length - ds.length) none) S with
    | bad => rw [e1] at g; exact g.elim
    | exc c p ρ' S' => rw [e1] at g; exact fun m' H' σ' cls dd po re x => g m' H' cls dd po x
    | fl fl S' =>
      rw [e1] at g
      cases fl with
      | nx ρ' => exact fun m' H' σ' po re => g m' H' .non po .non
      | rt d => exact fun m' H' v po rv => g m' H' v po rv
      | bk _ => exact g.elim
      | ct _ => exact g.elim
theorem fn_P {k n : Nat} {f : Addr} {fd : FuncData} {ps : List Str} {F : Fn} (h : DL.FnOk P w K mg base (L2.CX P w) k f fd ps (spD K mg n F)) : DL.FnOk P w K mg base (L2.CX P w) k f fd ps (spD K mg n (fnP F)) := h.imp spP_of
end
def frz (S : Sto) : D → D
  | .ref n => match S[n]? with
    | some (some (.lst xs)) => .lst xs
    | _ => .ref n
  | d => d
section
variable {K : PySem.W.Frag} {mg : Str → Option Value} {H : Hp} {Fb Fb' : Addr → Prop} {m m' : List Addr}
theorem Rep.frz {B : Addr → Prop} {S : Sto} {v : V} {d : D} (r : Rl K mg B m H S) (h : Rep K H (Fo B m S) m v d) (e : DL.noRef (DL.frz S d) = true) : Rep K H (fun _ => False) [] v (DL.frz S d) := by
  cases d with
  | ref n =>
    cases h with
    | ref hn =>
      unfold DL.frz at e ⊢
      dsimp only at e ⊢
      cases hx : S[n]? with
      | none => rw [hx] at e; simp [DL.noRef] at e
      | some o =>
        cases o with
        | none => rw [hx] at e; simp [DL.noRef] at e
        | some o =>
          cases o with
          | lst xs =>
            rw [hx] at e
            cases r.obj _ _ _ hn hx with
            | lst h z q => exact .lst h (fun f => f) z (q.noRef (fun _ f => f.elim) (by simpa [DL.noRef] using e))
          | dic t kvs => rw [hx] at e; simp [DL.noRef] at e
          | ins c fs => rw [hx] at e; simp [DL.noRef] at e
  | _ => exact Rep.noRef (fun _ f => f.elim) h e
theorem RepA.frz {B : Addr → Prop} {S : Sto} (r : Rl K mg B m H S) : ∀ {vs : List V} {ds : List D}, RepA K H (Fo B m S) m vs ds → noRefs (ds.map (DL.frz S)) = true → RepA K H (fun _ => False) [] vs (ds.map (DL.frz S))
  | _, _, .nil, _ => .nil
  | _, _, .cons h q, e => .cons (Rep.frz r h (by simp [noRefs] at e; exact e.1)) (RepA.frz r q (by simp [noRefs] at e; simpa using e.2))
end
def iZip2 (a b : Ex) : Ix := fun ρ S => (a ρ S).bind fun x S => (b ρ S).bind fun y S => match x, y with
  | .lst xs, .lst ys => .ok (zipDs xs ys) S
  | .tup xs, .tup ys => .ok (zipDs xs ys) S
  | _, _ => .bad
theorem cx_none {P : Program} {w : World} : ∀ (H : Hp) (s : Shared) (e : Value) (s' : Shared), L2.CX P w [] H s (fun _ _ _ => False) e s' → False := fun _ _ _ _ h => by
  obtain ⟨_, _, _, _, _, _, _, _, _, _, _, _, z⟩ := h
  exact z.elim
theorem sp_law {K : PySem.W.Frag} {mg : Str → Option Value} {F : Fn} (h : ∀ ns : List Int, ns.length ≤ 63 → ∃ S, F [.scr ns] [] = .ok (.bl true) S) (H : Hp) (a : Addr) (ns : List Int) (hl : ns.length ≤ 63) (_ : Only H) (hS : SqL K H a (ns.map V.int)) : spD K mg 1 F [.ref a] H (fun v _ => v = .bl true) fun _ _ _ => False := by
  obtain ⟨S, e⟩ := h ns hl
  have e0 : ∀ a, Fo (fun _ => False) [] [] a → False := fun a z => z.elim id fun ⟨n, o, e1, e2⟩ => by simp at e1
  refine ⟨fun _ => False, [], [], [.scr ns], ⟨rfl, List.nodup_nil, fun a ⟨n, o, e1, e2⟩ => by simp at e1, fun a z => z.elim, fun a z => by simp at z, fun n a o e1 e2 => by simp at e1⟩, .cons (.scr ?_ (Nat.le_trans hl (by decide))) .nil, rfl, ?_⟩
  · rcases hS with h | h
    · exact .inl ⟨h, e0 a⟩
    · exact .inr h
  · rw [e]
    intro m' H' v p rv
    cases rv
    rfl
def HasFd (K : PySem.W.Frag) (a : Addr) (fd : FuncData) : Prop := ∃ oc od osl, K.lookup a = some ⟨oc, od, .func fd, osl⟩
def OkF (P : Program) (w : World) (K : PySem.W.Frag) (mg : Str → Option Value) (base : Heap) (x : Str) (ps : List Str) (k : Nat) (F : Fn) : Prop :=
  ∃ fd, HasFd K (He.ga K x) fd ∧ DL.FnOk P w K mg base (L2.CX P w) k (He.ga K x) fd ps (spD K mg ps.length F) ∧ Binds K fd ps [] ∧ mg x = some (.ref (He.ga K x)) ∧ PySem.W.keepIn K (.ref (He.ga K x)) = true
section
variable {P : Program} {w : World} {K : PySem.W.Frag} {mg : Str → Option Value} {base : Heap} {x name qual : Str} {params : Arguments} {body : List Stmt} {scope : Scope} {f : Addr} {N ps : List Str} {k : Nat} {b : Sx} {F : Fn}
theorem OkF.at_ {dvs : List V} {kws : List (Str × V)} {fd : FuncData} (h : OkF P w K mg base x ps k F) (g : FunD K name qual params body scope dvs kws (He.ga K x) fd) : DL.FnOk P w K mg base (L2.CX P w) k (He.ga K x) fd ps (spD K mg ps.length F) := by
  obtain ⟨fd2, ⟨oc, od, osl, e⟩, h, _⟩ := h
  obtain ⟨oc2, od2, dV, kV, doc, pm, an, cdv, ct, osl2, rfl, lk, hcd, _, _⟩ := g.ex
  rw [e] at lk
  cases lk
  exact h
theorem okF_mk (h : ∃ fd, FunD K name qual params body scope [] [] (He.fAd K (x, none)) fd) (hm : mg x = some (.ref (He.ga K x)))
    (hbind : ∀ (kV doc pm : Value) (an : Option Addr) (cdv ct : Value) (us : List Value), us.length = ps.length → bindArgs (PySem.W.fnOf name qual params body scope .none kV doc pm an cdv ct) ⟨us, []⟩ = pure (ps.zip us))
    (hF : ∀ fd, FunD K name qual params body scope [] [] (He.ga K x) fd → DL.FnOk P w K mg base (L2.CX P w) k (He.ga K x) fd ps (spD K mg ps.length F)) : OkF P w K mg base x ps k F := by
  obtain ⟨fd, g⟩ := h
  refine ⟨fd, ?_, hF fd g, g.bindsN hbind, hm, g.kp⟩
  obtain ⟨oc, od, dV, kV, doc, pm, an, cdv, ct, osl, rfl, lk, hcd, _, _⟩ := g.ex
  exact ⟨_, _, _, lk⟩
abbrev BodyOk (P : Program) (w : World) (K : PySem.W.Frag) (mg : Str → Option Value) (base : Heap) (x qual : Str) (body : List Stmt) (scope : Scope) (N : List Str) (k : Nat) (b : Sx) : Prop :=
  ∀ (cdv : Value) (A : Around) (outer : List Env) (s : Shared) (H : Hp) (E : XK), DL.Room k (A.deeper (envOfC qual scope s.heap.objs.size (He.ga K x) cdv)) →
      Takes (cxOf (L2.CX P w) P w K mg base N qual scope (He.ga K x) cdv A outer s H E) (WB E) → PassesOwn (model P w) (A.deeper (envOfC qual scope s.heap.objs.size (He.ga K x) cdv)) (envOfC qual scope s.heap.objs.size (He.ga K x) cdv) (cxOf (L2.CX P w) P w K mg base N qual scope (He.ga K x) cdv A outer s H E).xe →
      SVs (cxOf (L2.CX P w) P w K mg base N qual scope (He.ga K x) cdv A outer s H E) (WB E) body b
theorem okF_N (h : ∃ fd, FunD K name qual params body scope [] [] (He.fAd K (x, none)) fd) (hm : mg x = some (.ref (He.ga K x))) (sc : FnScope N ps scope)
    (hbind : ∀ (kV doc pm : Value) (an : Option Addr) (cdv ct : Value) (us : List Value), us.length = ps.length → bindArgs (PySem.W.fnOf name qual params body scope .none kV doc pm an cdv ct) ⟨us, []⟩ = pure (ps.zip us))
    (hb : BodyOk P w K mg base x qual body scope N k b) : OkF P w K mg base x ps (k + 1) (fnB N.length b) :=
  okF_mk h hm hbind fun fd g => fn_denD g sc hb
theorem okF_P (h : ∃ fd, FunD K name qual params body scope [] [] (He.fAd K (x, none)) fd) (hm : mg x = some (.ref (He.ga K x))) (sc : FnScope N ps scope)
    (hbind : ∀ (kV doc pm : Value) (an : Option Addr) (cdv ct : Value) (us : List Value), us.length = ps.length → bindArgs (PySem.W.fnOf name qual params body scope .none kV doc pm an cdv ct) ⟨us, []⟩ = pure (ps.zip us))
    (hb : BodyOk P w K mg base x qual body scope N k b) : OkF P w K mg base x ps (k + 1) (fnP (fnB N.length b)) :=
  okF_mk h hm hbind fun fd g => fn_P (fn_denD g sc hb)
end
section
variable {X : Cx} {W : WX} {x : Str} {ps : List Str} {k j : Nat} {F : Fn} {p pos : Pos} {e : Expr} {es : List Expr} {fs : List Ex}
theorem ev_fnO (O : OkF X.prog X.w X.K X.mg X.base x ps k F) (hr : DL.Room j X.A) (hg : Gl X x) (tk : Takes X W) (ha : EVA X W (e :: es) fs) (hj : k ≤ j := by omega) (hn : fs.length = ps.length := by rfl) (hdb : (x == ("__debug__" : Str)) = false := by decide) (he : starEach (e :: es) X.env = (false, eval e X.env) :: starEach es X.env := by rfl) (hpl : (backTo pos (starEach es X.env)).any (·.1) = false := by rfl) :
    EV X W (.Call (.Name x p) (e :: es) [] pos) (eFn F fs) := by
  obtain ⟨fd, _, FO, hb, hm, hk⟩ := O
  exact ev_fn FO (hr.mono hj) hg hm hk hb tk ha hn hdb he hpl
end
def igAdd : D → D → Option D
  | .int i, .int j => some (.int (i + j))
  | _, _ => none
def igMul : D → D → Option D
  | .int i, .int j => if (-(2 ^ 64) < i ∧ i < 2 ^ 64) ∨ (-(2 ^ 64) < j ∧ j < 2 ^ 64) then some (.int (i * j)) else none
  | _, _ => none
section
variable {X : Cx}
theorem ig_addN : OpR X (inplaceOp .Add) (rG2 X.K igAdd) := og_int iop_add fun dx dy d e => by
  unfold igAdd at e
  split at e
  · rename_i i j; cases e; exact ⟨i, j, _, rfl, rfl, rfl, fun H Q k => ⟨i, j, rfl, rfl, k _ fun _ _ _ => .int _⟩⟩
  · cases e
end
end DL
set_option Elab.async false
set_option linter.all false
set_option maxRecDepth 100000
set_option maxHeartbeats 4000000
namespace DL
open PySem PySem.Spec PyProof.Rows
theorem view_at {S : Sto} {n : Nat} {xs : List D} (h : S[n]? = some (some (.lst xs))) : view S (.ref n) = .lst xs := by simp only [view, h]
theorem lst_at {S : Sto} {n : Nat} {xs : List D} (h : S[n]? = some (some (.lst xs))) : lstOf S (.ref n) = some (n, xs) := by simp only [lstOf, h]
theorem atI_in {α : Type} {xs : List α} {i : Int} (h : 0 ≤ i) (h2 : i < xs.length) : L2.atI xs i = some (xs[i.toNat]'(by omega)) := by
  unfold L2.atI L2.ixN
  rw [if_pos h, if_pos h2]
  exact List.getElem?_eq_getElem (by omega)
theorem ixN_in {n : Nat} {i : Int} (h : 0 ≤ i) (h2 : i < n) : L2.ixN n i = some i.toNat := by
  unfold L2.ixN
  rw [if_pos h, if_pos h2]
/-- the jar at n -/
def Jar (S : Sto) (n : Nat) (cells : List Int) (t r : Int) : Prop := S[n]? = some (some (.lst [.lst (cells.map .int), .int t, .int r]))
theorem mulD_l {i j : Int} (h : -18446744073709551616 < i) (h2 : i < 18446744073709551616) : mulD (.int i) (.int j) = some (.int (i * j)) := by
  unfold mulD
  exact if_pos (.inl ⟨h, h2⟩)
theorem mulD_r {i j : Int} (h : -18446744073709551616 < j) (h2 : j < 18446744073709551616) : mulD (.int i) (.int j) = some (.int (i * j)) := by
  unfold mulD
  exact if_pos (.inr ⟨h, h2⟩)
theorem powD_k {i j : Int} (h : 0 ≤ j) (h1 : j ≤ 1000000) (h2 : i.natAbs < 18446744073709551616) : powD (.int i) (.int j) = some (.int (i ^ j.toNat)) := by
  unfold powD
  exact if_pos ⟨h, h1, h2⟩
theorem pow1018 : powD (.int 10) (.int 18) = some (.int 1000000000000000000) := by
  rw [powD_k (by decide) (by decide) (by decide)]
  rfl
theorem eqD_int (a b : Int) : eqD (.int a) (.int b) = some (.bl (decide (a = b))) := by
  by_cases h : a = b
  · subst h
    simp [eqD, eqB, eqS, toP, SeqAt.shaped, PyData.eqv, PyData.canLay0, PyData.depth]
  · simp [eqD, eqB, eqS, toP, SeqAt.shaped, PyData.eqv, PyData.canLay0, PyData.depth, h]
theorem eqD_bl (a b : Bool) : eqD (.bl a) (.bl b) = some (.bl (a == b)) := by
  cases a <;> cases b <;> simp [eqD, eqB, eqS, toP, SeqAt.shaped, PyData.eqv, PyData.canLay0, PyData.depth]
theorem neD_bl (a b : Bool) : neD (.bl a) (.bl b) = some (.bl (!(a == b))) := by
  cases a <;> cases b <;> simp [neD, eqB, eqS, toP, SeqAt.shaped, PyData.eqv, PyData.canLay0, PyData.depth]
theorem neD_int (a b : Int) : neD (.int a) (.int b) = some (.bl (!decide (a = b))) := by
  by_cases h : a = b
  · subst h
    simp [neD, eqB, eqS, toP, SeqAt.shaped, PyData.eqv, PyData.canLay0, PyData.depth]
  · simp [neD, eqB, eqS, toP, SeqAt.shaped, PyData.eqv, PyData.canLay0, PyData.depth, h]
theorem toPs_map {α : Type} (f : α → D) (g : α → PyData) (h : ∀ x, toP (f x) = some (g x)) : ∀ xs : List α, toPs (xs.map f) = some (xs.map g)
  | [] => rfl
  | x :: xs => by simp [toPs, h x, toPs_map f g h xs]
theorem lay_map {α : Type} (g : α → PyData) (h : ∀ x, (g x).canLay0 = true) : ∀ xs : List α, PyData.canLayAll0 (xs.map g) = true
  | [] => by simp [PyData.canLayAll0]
  | x :: xs => by simp [PyData.canLayAll0, h x, lay_map g h xs]
theorem dep_map {α : Type} (g : α → PyData) (n : Nat) (h : ∀ x, (g x).depth ≤ n) : ∀ xs : List α, PyData.depthAll (xs.map g) ≤ n
  | [] => by simp [PyData.depthAll]
  | x :: xs => by
    have h1 := h x
    have h2 := dep_map g n h xs
    simp only [List.map_cons, PyData.depthAll]
    omega
end DL
set_option Elab.async false
set_option linter.all false
set_option maxRecDepth 100000
set_option maxHeartbeats 4000000
namespace DL
open PySem PySem.Spec PyProof.Rows L2
def frzR (S : Sto) (n : Nat) : D := match S[n]? with
  | some (some (.lst xs)) => .lst xs
  | _ => .ref n
mutual
def frzD (S : Sto) : D → D
  | .ref n => frzR S n
  | .tup xs => .tup (frzDs S xs)
  | .lst xs => .lst (frzDs S xs)
  | .non => .non
  | .bl b => .bl b
  | .int i => .int i
  | .str x => .str x
  | .dic t kvs => .dic t kvs
  | .raw v => .raw v
  | .scr ns => .scr ns
  | .exn c p => .exn c p
def frzDs (S : Sto) : List D → List D
  | [] => []
  | d :: ds => frzD S d :: frzDs S ds
end
section
variable {K : PySem.W.Frag} {mg : Str → Option Value} {H : Hp} {m : List Addr} {B : Addr → Prop} {S : Sto}
theorem Rep.frzR {n : Nat} {v : V} (r : Rl K mg B m H S) (h : Rep K H (Fo B m S) m v (.ref n)) (e : DL.noRef (DL.frzR S n) = true) : Rep K H (fun _ => False) [] v (DL.frzR S n) := by
  cases h with
  | ref hn =>
    unfold DL.frzR at e ⊢
    cases hx : S[n]? with
    | none => rw [hx] at e; simp [DL.noRef] at e
    | some o =>
      cases o with
      | none => rw [hx] at e; simp [DL.noRef] at e
      | some o =>
        cases o with
        | lst xs =>
          rw [hx] at e
          cases r.obj _ _ _ hn hx with
          | lst h z q => exact .lst h (fun f => f) z (q.noRef (fun _ f => f.elim) (by simpa [DL.noRef] using e))
        | dic t kvs => rw [hx] at e; simp [DL.noRef] at e
        | ins c fs => rw [hx] at e; simp [DL.noRef] at e
mutual
theorem Rep.frzD (r : Rl K mg B m H S) : ∀ {d : D} {v : V}, Rep K H (Fo B m S) m v d → DL.noRef (DL.frzD S d) = true → Rep K H (fun _ => False) [] v (DL.frzD S d)
  | .ref n, v, h, e => by
    simp only [DL.frzD] at e ⊢
    exact h.frzR r e
  | .tup xs, v, h, e => by
    cases h with
    | tup h z q =>
      simp only [DL.frzD, DL.noRef] at e ⊢
      exact .tup h z (RepA.frzD r q e)
  | .lst xs, v, h, e => by
    cases h with
    | lst h f z q =>
      simp only [DL.frzD, DL.noRef] at e ⊢
      exact .lst h (fun f => f) z (RepA.frzD r q e)
  | .non, v, h, e => by simp only [DL.frzD] at e ⊢; exact Rep.noRef (fun _ f => f.elim) h e
  | .bl b, v, h, e => by simp only [DL.frzD] at e ⊢; exact Rep.noRef (fun _ f => f.elim) h e
  | .int i, v, h, e => by simp only [DL.frzD] at e ⊢; exact Rep.noRef (fun _ f => f.elim) h e
  | .str x, v, h, e => by simp only [DL.frzD] at e ⊢; exact Rep.noRef (fun _ f => f.elim) h e
  | .dic t kvs, v, h, e => by simp only [DL.frzD] at e ⊢; exact Rep.noRef (fun _ f => f.elim) h e
  | .raw w, v, h, e => by simp only [DL.frzD] at e ⊢; exact Rep.noRef (fun _ f => f.elim) h e
  | .scr ns, v, h, e => by simp only [DL.frzD] at e ⊢; exact Rep.noRef (fun _ f => f.elim) h e
  | .exn c p, v, h, e => by simp only [DL.frzD] at e ⊢; exact Rep.noRef (fun _ f => f.elim) h e
theorem RepA.frzD (r : Rl K mg B m H S) : ∀ {ds : List D} {vs : List V}, RepA K H (Fo B m S) m vs ds → noRefs (frzDs S ds) = true → RepA K H (fun _ => False) [] vs (frzDs S ds)
  | [], _, .nil, _ => .nil
  | d :: ds, _, .cons h q, e => by
    simp only [frzDs, noRefs, Bool.and_eq_true] at e ⊢
    exact .cons (Rep.frzD r h e.1) (RepA.frzD r q e.2)
end
end
end DL
set_option Elab.async false
set_option linter.all false
set_option maxRecDepth 100000
set_option maxHeartbeats 4000000
namespace DL
open PySem PySem.Spec PyProof.Rows L2
def showsD (p : PyData) : Bool := p.showable && decide (p.depth ≤ 40) && decide (p.shown.length ≤ 16000000)
def reprD (d : D) : Option D := (toP d).bind fun p => if showsD p = true then some (.str p.shown) else none
def eRepr (f : Ex) : Ex := fun ρ S => (f ρ S).bind fun d S => ans S (reprD (frzD S d))
end DL
set_option Elab.async false
set_option linter.all false
set_option maxRecDepth 100000
set_option maxHeartbeats 4000000
namespace DL
open PySem PySem.Spec PyProof.Rows L2
def rgN (i j c : Int) : Nat := (Builtin.Range.rangeSize i j c).toNat
def iRng3 (i j c : Int) : List D := (List.range (rgN i j c)).map fun k => .int (i + (k : Nat) * c)
def iRng3X (a b c : Ex) : Ix := fun ρ S => (evL [a, b, c] ρ S).bind fun ds S => match ds with
  | [.int i, .int j, .int k] => if k ≠ 0 ∧ k.natAbs < 1073741824 ∧ Builtin.Range.small i j k = true then .ok (iRng3 i j k) S else .bad
  | _ => .bad
def fV : D → Option V
  | .non => some .non
  | .bl b => some (.bl b)
  | .int i => some (.int i)
  | .str x => some (.str x)
  | _ => none
def fVs : List D → Option (List V)
  | [] => some []
  | d :: ds => match fV d, fVs ds with
    | some v, some vs => some (v :: vs)
    | _, _ => none
def sqOf : D → Option (List D)
  | .lst xs => some xs
  | .tup xs => some xs
  | _ => none
def inB (x y : D) : Option Bool := (fV x).bind fun v => (sqOf y).bind fun ds => (fVs ds).map fun vs => inV v vs
def inU (x y : D) : Option Bool := match y with
  | .dic t kvs => dhasD (.dic t kvs) x
  | .str z => match x with
    | .str i => some (!(Builtin.Str.occurrences z i 0 z.length 1).isEmpty)
    | _ => none
  | y => inB x y
def inD (x y : D) : Option D := (inU x y).map .bl
def ninD (x y : D) : Option D := (inU x y).map fun b => .bl (!b)
def maxI (n : Int) (ns : List Int) : Int := ns.foldl max n
section
variable {X : Cx} {W : WX}
/-- max(xs, default=i) -/
def maxDef (i : Int) : List Int → Int
  | [] => i
  | n :: ns => maxI n ns
def maxDD : List D → Option D
  | [.lst xs, .int i] => (asIs xs).map fun ns => .int (maxDef i ns)
  | _ => none
def eMaxD (i : Int) (f : Ex) : Ex := fun ρ S => (f ρ S).bind fun d S => ans S (maxDD [view S d, .int i])
end
section
variable {X : Cx} {W : WX} {x : Str} {ps : List Str} {k j n : Nat} {F : Fn} {p pos : Pos} {e : Expr} {es : List Expr} {fs : List Ex} {dvs : List V} {dd : List D}
theorem evL_len : ∀ (fs : List Ex) (ρ : Ev) (S S' : Sto) (ds : List D), evL fs ρ S = .ok ds S' → ds.length = fs.length
  | [], ρ, S, S', ds, e => by unfold evL at e; cases e; rfl
  | f :: fs, ρ, S, S', ds, e => by
    unfold evL at e
    cases e1 : f ρ S with
    | bad => rw [e1] at e; cases e
    | exc c p S1 => rw [e1] at e; cases e
    | ok d S1 =>
      rw [e1] at e
      simp only [R.bind] at e
      cases e2 : evL fs ρ S1 with
      | bad => rw [e2] at e; cases e
      | exc c p S1 => rw [e2] at e; cases e
      | ok ds2 S2 =>
        rw [e2] at e
        cases e
        simp [evL_len fs ρ S1 _ ds2 e2]
end
end DL
set_option Elab.async false
set_option linter.all false
set_option maxRecDepth 100000
set_option maxHeartbeats 4000000
namespace DL
open PySem PySem.Spec PyProof.Rows L2
abbrev Px := Str → D → Sto → Prop
abbrev Xs := Str → D → Ev → Sto → Prop
abbrev noX : Px := fun _ _ _ => False
def Wp0 {α : Type} (r : R α) (Q : α → Sto → Prop) (E : Px) : Prop := match r with
  | .ok a S => Q a S
  | .exc c p S => E c p S
  | .bad => False
def Ws0 (r : RS) (Q : Fl → Sto → Prop) (E : Str → D → Ev → Sto → Prop) : Prop := match r with
  | .fl f S => Q f S
  | .exc c p ρ S => E c p ρ S
  | .bad => False
structure Wp {α : Type} (r : R α) (Q : α → Sto → Prop) (E : Px) : Prop where
  out : Wp0 r Q E
structure Ws (r : RS) (Q : Fl → Sto → Prop) (E : Str → D → Ev → Sto → Prop) : Prop where
  out : Ws0 r Q E
section
variable {α β : Type} {Q : α → Sto → Prop} {E : Px} {ρ : Ev} {S S1 : Sto}
theorem Wp.mono {r : R α} {Q' : α → Sto → Prop} (h : Wp r Q E) (k : ∀ a S, Q a S → Q' a S) : Wp r Q' E := by
  cases r with
  | ok a S => exact ⟨k _ _ h.out⟩
  | exc c p S => first | exact h | exact ⟨h⟩ | exact (h).out | exact ⟨(h).out⟩
  | bad => first | exact h | exact ⟨h⟩ | exact (h).out | exact ⟨(h).out⟩
theorem Wp.of {r : R α} {a : α} (h : r = .ok a S) (q : Q a S) : Wp r Q E := by rw [h]; first | exact q | exact ⟨q⟩ | exact (q).out | exact ⟨(q).out⟩
theorem Wp.ok {r : R α} (h : Wp r Q noX) : ∃ a S, r = .ok a S ∧ Q a S := by
  cases r with
  | ok a S => exact ⟨a, S, rfl, h.out⟩
  | exc c p S => exact h.out.elim
  | bad => exact h.out.elim
theorem Ws.mono {r : RS} {Q Q' : Fl → Sto → Prop} {E : Str → D → Ev → Sto → Prop} (h : Ws r Q E) (k : ∀ a S, Q a S → Q' a S) : Ws r Q' E := by
  cases r with
  | fl a S => exact ⟨k _ _ h.out⟩
  | exc c p ρ S => first | exact h | exact ⟨h⟩ | exact (h).out | exact ⟨(h).out⟩
  | bad => first | exact h | exact ⟨h⟩ | exact (h).out | exact ⟨(h).out⟩
theorem Ws.of {r : RS} {f : Fl} {Q : Fl → Sto → Prop} {E : Str → D → Ev → Sto → Prop} (h : r = .fl f S) (q : Q f S) : Ws r Q E := by rw [h]; first | exact q | exact ⟨q⟩ | exact (q).out | exact ⟨(q).out⟩
theorem wp_bind {r : R α} {g : α → Sto → R β} {Q : β → Sto → Prop} (h : Wp r (fun a S => Wp (g a S) Q E) E) : Wp (r.bind g) Q E := by
  cases r with
  | ok a S => first | exact h | exact ⟨h⟩ | exact (h).out | exact ⟨(h).out⟩
  | exc c p S => first | exact h | exact ⟨h⟩ | exact (h).out | exact ⟨(h).out⟩
  | bad => first | exact h | exact ⟨h⟩ | exact (h).out | exact ⟨(h).out⟩
theorem ws_bind {r : R α} {g : α → Sto → RS} {Q : Fl → Sto → Prop} {E : Str → D → Ev → Sto → Prop} (h : Wp r (fun a S => Ws (g a S) Q E) (fun c p S => E c p ρ S)) : Ws (r.bindS ρ g) Q E := by
  cases r with
  | ok a S => first | exact h | exact ⟨h⟩ | exact (h).out | exact ⟨(h).out⟩
  | exc c p S => first | exact h | exact ⟨h⟩ | exact (h).out | exact ⟨(h).out⟩
  | bad => first | exact h | exact ⟨h⟩ | exact (h).out | exact ⟨(h).out⟩
end
/-- an operation's answer -/
def Wo0 (o : Option D) (Q : D → Prop) : Prop := match o with
  | some d => Q d
  | none => False
structure Wo (o : Option D) (Q : D → Prop) : Prop where
  out : Wo0 o Q
theorem Wo.of {o : Option D} {d : D} {Q : D → Prop} (h : o = some d) (q : Q d) : Wo o Q := by rw [h]; exact ⟨q⟩
section
variable {Q : D → Sto → Prop} {E : Px} {ρ : Ev} {S : Sto} {a b c : Ex} {i : Nat} {d : D}
theorem wp_ans {o : Option D} (h : Wo o fun z => Q z S) : Wp (ans S o) Q E := by
  cases o with
  | some d => first | exact h | exact ⟨h⟩ | exact (h).out | exact ⟨(h).out⟩
  | none => exact h.out.elim
theorem wp_c (q : Q d S) : Wp (eC d ρ S) Q E := ⟨q⟩
theorem wp_var (h : ρ[i]? = some (some d)) (q : Q d S) : Wp (eVar i ρ S) Q E := by
  unfold eVar
  rw [h]
  first | exact q | exact ⟨q⟩ | exact (q).out | exact ⟨(q).out⟩
theorem wp_op2 {g : D → D → Option D} (h : Wp (a ρ S) (fun x S1 => Wp (b ρ S1) (fun y S2 => Wo (g (view S2 x) (view S2 y)) fun z => Q z S2) E) E) : Wp (eOp2 g a b ρ S) Q E :=
  wp_bind (h.mono fun _ _ h => wp_bind (h.mono fun _ _ h => wp_ans h))
theorem wp_op1 {g : D → Option D} (h : Wp (a ρ S) (fun x S1 => Wo (g (view S1 x)) fun z => Q z S1) E) : Wp (eOp1 g a ρ S) Q E := wp_bind (h.mono fun _ _ h => wp_ans h)
theorem wp_nil {Q : List D → Sto → Prop} (q : Q [] S) : Wp (evL [] ρ S) Q E := ⟨q⟩
theorem wp_cons {f : Ex} {fs : List Ex} {Q : List D → Sto → Prop} (h : Wp (f ρ S) (fun d S1 => Wp (evL fs ρ S1) (fun ds S2 => Q (d :: ds) S2) E) E) : Wp (evL (f :: fs) ρ S) Q E :=
  wp_bind (h.mono fun _ _ h => wp_bind (h.mono fun _ _ h => ⟨h⟩))
theorem wp_fn {F : Fn} {fs : List Ex} (h : Wp (evL fs ρ S) (fun ds S1 => Wp (F ds S1) Q E) E) : Wp (eFn F fs ρ S) Q E := wp_bind h
theorem wp_call {g : List D → Option D} {fs : List Ex} (h : Wp (evL fs ρ S) (fun ds S1 => Wo (g (ds.map (view S1))) fun z => Q z S1) E) : Wp (eCall g fs ρ S) Q E := wp_bind (h.mono fun _ _ h => wp_ans h)
theorem wp_tup {fs : List Ex} (h : Wp (evL fs ρ S) (fun ds S1 => ds.length ≤ 16777216 ∧ Q (.tup ds) S1) E) : Wp (eTup fs ρ S) Q E :=
  wp_bind (h.mono fun ds S1 h => by
    have h1 : ds.length ≤ sizeLine := by rw [sizeLine_eq]; exact h.1
    show Wp (if ds.length ≤ sizeLine then _ else _) Q E
    rw [if_pos h1]
    first | exact h.2 | exact ⟨h.2⟩ | exact (h.2).out | exact ⟨(h.2).out⟩)
theorem wp_lst {fs : List Ex} (h : Wp (evL fs ρ S) (fun ds S1 => ds.length ≤ 16777216 ∧ Q (.lst ds) S1) E) : Wp (eLst fs ρ S) Q E :=
  wp_bind (h.mono fun ds S1 h => by
    have h1 : ds.length ≤ sizeLine := by rw [sizeLine_eq]; exact h.1
    show Wp (if ds.length ≤ sizeLine then _ else _) Q E
    rw [if_pos h1]
    first | exact h.2 | exact ⟨h.2⟩ | exact (h.2).out | exact ⟨(h.2).out⟩)
theorem wp_lstM {fs : List Ex} (h : Wp (evL fs ρ S) (fun ds S1 => ds.length ≤ 16777216 ∧ Q (.ref S1.length) (S1 ++ [some (.lst ds)])) E) : Wp (eLstM fs ρ S) Q E :=
  wp_bind (h.mono fun ds S1 h => by
    have h1 : ds.length ≤ sizeLine := by rw [sizeLine_eq]; exact h.1
    show Wp (if ds.length ≤ sizeLine then _ else _) Q E
    rw [if_pos h1]
    first | exact h.2 | exact ⟨h.2⟩ | exact (h.2).out | exact ⟨(h.2).out⟩)
theorem wp_listM {g : List D → Option D} {fs : List Ex} (h : Wp (evL fs ρ S) (fun ds S1 => ∃ xs, g (ds.map (view S1)) = some (.lst xs) ∧ Q (.ref S1.length) (S1 ++ [some (.lst xs)])) E) : Wp (eListM g fs ρ S) Q E :=
  wp_bind (h.mono fun ds S1 ⟨xs, h1, h⟩ => by
    rw [h1]
    first | exact h | exact ⟨h⟩ | exact (h).out | exact ⟨(h).out⟩)
theorem wp_sl0 (h : Wp (a ρ S) (fun d S1 => Wo (slD (view S1 d) none none) fun z => Q z S1) E) : Wp (eSl a none none ρ S) Q E :=
  wp_bind (h.mono fun _ _ h => wp_ans h)
theorem wp_sl1 (h : Wp (a ρ S) (fun d S1 => Wp (b ρ S1) (fun x S2 => ∃ i, x = .int i ∧ Wo (slD (view S2 d) (some i) none) fun z => Q z S2) E) E) : Wp (eSl a (some b) none ρ S) Q E :=
  wp_bind (h.mono fun _ _ h => wp_bind (r := ePart (some b) ρ _) (wp_bind (h.mono fun _ _ h => by
    obtain ⟨i, rfl, h⟩ := h
    exact ⟨(show Wp (R.bind (.ok none _) fun u S => ans S _) Q E from wp_bind ⟨wp_ans h⟩)⟩)))
theorem wp_sl2 (h : Wp (a ρ S) (fun d S1 => Wp (b ρ S1) (fun x S2 => ∃ i, x = .int i ∧ Wo (slD (view S2 d) none (some i)) fun z => Q z S2) E) E) : Wp (eSl a none (some b) ρ S) Q E :=
  wp_bind (h.mono fun d S1 h => wp_bind (r := .ok none S1) ⟨wp_bind (r := ePart (some b) ρ S1) (wp_bind (h.mono fun _ _ h => by
    obtain ⟨i, rfl, h⟩ := h
    exact ⟨wp_ans h⟩))⟩)
theorem wp_sl3 (h : Wp (a ρ S) (fun d S1 => Wp (b ρ S1) (fun x S2 => ∃ i, x = .int i ∧ Wp (c ρ S2) (fun y S3 => ∃ j, y = .int j ∧ Wo (slD (view S3 d) (some i) (some j)) fun z => Q z S3) E) E) E) : Wp (eSl a (some b) (some c) ρ S) Q E :=
  wp_bind (h.mono fun _ _ h => wp_bind (r := ePart (some b) ρ _) (wp_bind (h.mono fun _ _ h => by
    obtain ⟨i, rfl, h⟩ := h
    exact ⟨wp_bind (r := ePart (some c) ρ _) (wp_bind (h.mono fun _ _ h => by
      obtain ⟨j, rfl, h⟩ := h
      exact ⟨wp_ans h⟩))⟩)))
theorem wp_tval {Q : Bool → Sto → Prop} (h : Wp (a ρ S) (fun d S1 => ∃ b, d = .bl b ∧ Q b S1) E) : Wp (tVal a ρ S) Q E :=
  wp_bind (h.mono fun _ _ ⟨b, e, h⟩ => by subst e; first | exact h | exact ⟨h⟩ | exact (h).out | exact ⟨(h).out⟩)
theorem wp_tnot {t : Tx} {Q : Bool → Sto → Prop} (h : Wp (t ρ S) (fun b S1 => Q (!b) S1) E) : Wp (tNotX t ρ S) Q E := wp_bind (h.mono fun _ _ h => ⟨h⟩)
theorem wp_tand {t u : Tx} {Q : Bool → Sto → Prop} (h : Wp (t ρ S) (fun b S1 => (b = true → Wp (u ρ S1) Q E) ∧ (b = false → Q false S1)) E) : Wp (tAndX t u ρ S) Q E := wp_bind (h.mono fun b S1 h => by
  cases b with
  | true => rw [if_pos rfl]; exact h.1 rfl
  | false => rw [if_neg (by decide)]; first | exact h.2 rfl | exact ⟨h.2 rfl⟩ | exact (h.2 rfl).out | exact ⟨(h.2 rfl).out⟩)
theorem wp_tor {t u : Tx} {Q : Bool → Sto → Prop} (h : Wp (t ρ S) (fun b S1 => (b = true → Q true S1) ∧ (b = false → Wp (u ρ S1) Q E)) E) : Wp (tOrX t u ρ S) Q E := wp_bind (h.mono fun b S1 h => by
  cases b with
  | true => rw [if_pos rfl]; first | exact h.1 rfl | exact ⟨h.1 rfl⟩ | exact (h.1 rfl).out | exact ⟨(h.1 rfl).out⟩
  | false => rw [if_neg (by decide)]; exact h.2 rfl)
theorem wp_tyes {Q : Bool → Sto → Prop} (q : Q true S) : Wp (tYesX ρ S) Q E := ⟨q⟩
theorem wp_and (h : Wp (a ρ S) (fun x S1 => ∃ k, x = .bl k ∧ (k = true → Wp (b ρ S1) Q E) ∧ (k = false → Q (.bl false) S1)) E) : Wp (eAndX a b ρ S) Q E := wp_bind (h.mono fun x S1 ⟨k, e, h⟩ => by
  subst e
  cases k with
  | true => exact h.1 rfl
  | false => first | exact h.2 rfl | exact ⟨h.2 rfl⟩ | exact (h.2 rfl).out | exact ⟨(h.2 rfl).out⟩)
theorem wp_or (h : Wp (a ρ S) (fun x S1 => ∃ k, x = .bl k ∧ (k = true → Q (.bl true) S1) ∧ (k = false → Wp (b ρ S1) Q E)) E) : Wp (eOrX a b ρ S) Q E := wp_bind (h.mono fun x S1 ⟨k, e, h⟩ => by
  subst e
  cases k with
  | true => first | exact h.1 rfl | exact ⟨h.1 rfl⟩ | exact (h.1 rfl).out | exact ⟨(h.1 rfl).out⟩
  | false => exact h.2 rfl)
theorem wp_not (h : Wp (a ρ S) (fun x S1 => ∃ k, x = .bl k ∧ Q (.bl (!k)) S1) E) : Wp (eNotX a ρ S) Q E := wp_bind (h.mono fun x S1 ⟨k, e, h⟩ => by subst e; first | exact h | exact ⟨h⟩ | exact (h).out | exact ⟨(h).out⟩)
theorem wp_ifx {t : Tx} (h : Wp (t ρ S) (fun k S1 => (k = true → Wp (a ρ S1) Q E) ∧ (k = false → Wp (b ρ S1) Q E)) E) : Wp (eIfX t a b ρ S) Q E := wp_bind (h.mono fun k S1 h => by
  cases k with
  | true => rw [if_pos rfl]; exact h.1 rfl
  | false => rw [if_neg (by decide)]; exact h.2 rfl)
theorem wp_chain {g g' : D → D → Option D} (h : Wp (a ρ S) (fun x S1 => Wp (b ρ S1) (fun y S2 => Wo (g (view S2 x) (view S2 y)) fun z => ∃ k, z = .bl k ∧ (k = true → Wp (c ρ S2) (fun z S3 => Wo (g' (view S3 y) (view S3 z)) fun w => Q w S3) E) ∧ (k = false → Q (.bl false) S2)) E) E) : Wp (eChain g g' a b c ρ S) Q E :=
  wp_bind (h.mono fun x S1 h => wp_bind (h.mono fun y S2 h => by
    cases e : g (view S2 x) (view S2 y) with
    | none => rw [e] at h; exact h.out.elim
    | some z =>
      rw [e] at h
      obtain ⟨k, rfl, h⟩ := h
      dsimp only
      cases k with
      | true => rw [if_pos rfl]; exact wp_bind ((h.1 rfl).mono fun _ _ h => wp_ans h)
      | false => rw [if_neg (by decide)]; first | exact h.2 rfl | exact ⟨h.2 rfl⟩ | exact (h.2 rfl).out | exact ⟨(h.2 rfl).out⟩))
/-- a method that changes a live list -/
theorem wp_meth {g : List D → List D → Option (List D × D)} {fs : List Ex} (h : Wp (a ρ S) (fun d S1 => ∃ n, d = .ref n ∧ (lstOf S1 d).isSome = true ∧ Wp (evL fs ρ S1) (fun ds S2 => ∃ xs ys z, S2[n]? = some (some (.lst xs)) ∧ g xs ds = some (ys, z) ∧ Q z (S2.set n (some (.lst ys)))) E) E) : Wp (eMeth g a fs ρ S) Q E :=
  wp_bind (h.mono fun d S1 ⟨n, e, h1, h⟩ => by
    subst e
    rw [if_pos h1]
    refine wp_bind (h.mono fun ds S2 ⟨xs, ys, z, h2, h3, q⟩ => ?_)
    unfold doMut
    rw [lst_at h2]
    dsimp only
    rw [h3]
    first | exact q | exact ⟨q⟩ | exact (q).out | exact ⟨(q).out⟩)
theorem wp_meth0 {g : List D → List D → Option (List D × D)} (h : Wp (a ρ S) (fun d S1 => ∃ n xs ys z, d = .ref n ∧ S1[n]? = some (some (.lst xs)) ∧ g xs [] = some (ys, z) ∧ Q z (S1.set n (some (.lst ys)))) E) : Wp (eMeth0 g a ρ S) Q E :=
  wp_bind (h.mono fun d S1 ⟨n, xs, ys, z, e, h2, h3, q⟩ => by
    subst e
    unfold doMut
    rw [lst_at h2]
    dsimp only
    rw [h3]
    first | exact q | exact ⟨q⟩ | exact (q).out | exact ⟨(q).out⟩)
end
def fnQ (Q : D → Sto → Prop) : Fl → Sto → Prop
  | .nx _, S => Q .non S
  | .rt d, S => Q d S
  | _, _ => False
theorem wp_fnB {n : Nat} {b : Sx} {ds : List D} {ρ : Ev} {S : Sto} {Q : D → Sto → Prop} {E : Px} (he : ds.map some ++ List.replicate (n - ds.length) none = ρ) (h : Ws (b ρ S) (fnQ Q) (fun c p _ S => E c p S)) : Wp (fnB n b ds S) Q E := by
  unfold fnB
  rw [he]
  cases e : b ρ S with
  | bad => rw [e] at h; exact h.out.elim
  | exc c p ρ' S' => rw [e] at h; first | exact h | exact ⟨h⟩ | exact (h).out | exact ⟨(h).out⟩
  | fl f S' =>
    rw [e] at h
    cases f with
    | nx ρ' => first | exact h | exact ⟨h⟩ | exact (h).out | exact ⟨(h).out⟩
    | rt d => first | exact h | exact ⟨h⟩ | exact (h).out | exact ⟨(h).out⟩
    | bk ρ' => exact h.out.elim
    | ct ρ' => exact h.out.elim
/-- a def told plain data: its answer is plain, the store stays -/
theorem wp_fnP {F : Fn} {ds : List D} {S : Sto} {Q : D → Sto → Prop} {E : Px} (h0 : noRefs ds = true) (h : Wp (F ds []) (fun d _ => noRef d = true ∧ Q d S) (fun c p _ => noRef p = true ∧ E c p S)) : Wp (fnP F ds S) Q E := by
  unfold fnP
  rw [if_pos h0]
  cases e : F ds [] with
  | bad => rw [e] at h; exact h.out.elim
  | exc c p S' =>
    rw [e] at h
    dsimp only
    rw [if_pos h.out.1]
    exact ⟨h.out.2⟩
  | ok d S' =>
    rw [e] at h
    dsimp only
    rw [if_pos h.out.1]
    exact ⟨h.out.2⟩
def thenQ (b : Sx) (Q : Fl → Sto → Prop) (E : Str → D → Ev → Sto → Prop) : Fl → Sto → Prop
  | .nx ρ, S => Ws (b ρ S) Q E
  | f, S => Q f S
section
variable {Q : Fl → Sto → Prop} {E : Str → D → Ev → Sto → Prop} {ρ : Ev} {S : Sto} {a b : Sx} {e : Ex}
theorem ws_seq (h : Ws (a ρ S) (thenQ b Q E) E) : Ws (sSeq a b ρ S) Q E := by
  unfold sSeq
  cases e : a ρ S with
  | bad => rw [e] at h; exact h.out.elim
  | exc c p ρ' S' => rw [e] at h; first | exact h | exact ⟨h⟩ | exact (h).out | exact ⟨(h).out⟩
  | fl f S' =>
    rw [e] at h
    cases f <;> first | exact h | exact ⟨h⟩ | exact (h).out | exact ⟨(h).out⟩
theorem ws_then (h : Ws (b ρ S) Q E) : thenQ b Q E (.nx ρ) S := h
theorem ws_thenR {d : D} (h : Q (.rt d) S) : thenQ b Q E (.rt d) S := h
theorem ws_thenB (h : Q (.bk ρ) S) : thenQ b Q E (.bk ρ) S := h
theorem ws_thenC (h : Q (.ct ρ) S) : thenQ b Q E (.ct ρ) S := h
theorem ws_skip (q : Q (.nx ρ) S) : Ws (sSkip ρ S) Q E := ⟨q⟩
theorem ws_ret (h : Wp (e ρ S) (fun d S1 => Q (.rt d) S1) (fun c p S => E c p ρ S)) : Ws (sRet e ρ S) Q E := ws_bind (h.mono fun _ _ h => ⟨h⟩)
theorem ws_retN (q : Q (.rt .non) S) : Ws (sRetN ρ S) Q E := ⟨q⟩
theorem ws_expr (h : Wp (e ρ S) (fun d S1 => Q (.nx ρ) S1) (fun c p S => E c p ρ S)) : Ws (sExpr e ρ S) Q E := ws_bind (h.mono fun _ _ h => ⟨h⟩)
theorem ws_asg {i : Nat} (h : Wp (e ρ S) (fun d S1 => Q (.nx (ρ.set i (some d))) S1) (fun c p S => E c p ρ S)) : Ws (sAsg i e ρ S) Q E := ws_bind (h.mono fun _ _ h => ⟨h⟩)
theorem ws_brk (q : Q (.bk ρ) S) : Ws (sBrk ρ S) Q E := ⟨q⟩
theorem ws_cont (q : Q (.ct ρ) S) : Ws (sCont ρ S) Q E := ⟨q⟩
theorem ws_if {t : Tx} (h : Wp (t ρ S) (fun k S1 => (k = true → Ws (a ρ S1) Q E) ∧ (k = false → Ws (b ρ S1) Q E)) (fun c p S => E c p ρ S)) : Ws (sIf t a b ρ S) Q E := ws_bind (h.mono fun k S1 h => by
  cases k with
  | true => rw [if_pos rfl]; exact h.1 rfl
  | false => rw [if_neg (by decide)]; exact h.2 rfl)
theorem ws_asgT {t : Tg} (h : Wp (e ρ S) (fun d S1 => ∃ ρ', t.put d ρ = some ρ' ∧ Q (.nx ρ') S1) (fun c p S => E c p ρ S)) : Ws (sAsgT t e ρ S) Q E := ws_bind (h.mono fun d S1 ⟨ρ', h1, h⟩ => by
  rw [h1]
  first | exact h | exact ⟨h⟩ | exact (h).out | exact ⟨(h).out⟩)
theorem ws_aug {i : Nat} {g : D → D → Option D} {d : D} (h0 : ρ[i]? = some (some d)) (h : Wp (e ρ S) (fun y S1 => Wo (g (view S1 d) (view S1 y)) fun z => Q (.nx (ρ.set i (some z))) S1) (fun c p S => E c p ρ S)) : Ws (sAug i g e ρ S) Q E := by
  unfold sAug
  rw [h0]
  refine ws_bind (h.mono fun y S1 h => ?_)
  cases e : g (view S1 d) (view S1 y) with
  | none => rw [e] at h; exact h.out.elim
  | some z => rw [e] at h; first | exact h | exact ⟨h⟩ | exact (h).out | exact ⟨(h).out⟩
theorem ws_setIx {o i : Ex} (h : Wp (e ρ S) (fun z S1 => Wp (o ρ S1) (fun d S2 => Wp (i ρ S2) (fun k S3 => ∃ n xs j p, d = .ref n ∧ k = .int j ∧ S3[n]? = some (some (.lst xs)) ∧ ixN xs.length j = some p ∧ Q (.nx ρ) (S3.set n (some (.lst (xs.set p z))))) (fun c p S => E c p ρ S)) (fun c p S => E c p ρ S)) (fun c p S => E c p ρ S)) : Ws (sSetIx o i e ρ S) Q E :=
  ws_bind (h.mono fun z S1 h => ws_bind (h.mono fun d S2 h => ws_bind (h.mono fun k S3 ⟨n, xs, j, p, e1, e2, h1, h2, q⟩ => by
    subst e1 e2
    rw [lst_at h1]
    dsimp only
    rw [h2]
    exact ⟨q⟩)))
def putAll : List Nat → List (Option D) → Ev → Ev
  | i :: is, v :: vs, ρ => putAll is vs (ρ.set i v)
  | _, _, ρ => ρ
/-- the loop's body's ends: on to the next turn, out by a break (X), out by a return -/
def loopQ (A : List Nat) (ρ : Ev) (N X : List (Option D) → Sto → Prop) (Q : Fl → Sto → Prop) : Fl → Sto → Prop
  | .nx ρ', S => ∃ vs, vs.length = A.length ∧ ρ' = putAll A vs ρ ∧ N vs S
  | .ct ρ', S => ∃ vs, vs.length = A.length ∧ ρ' = putAll A vs ρ ∧ N vs S
  | .bk ρ', S => ∃ vs, vs.length = A.length ∧ ρ' = putAll A vs ρ ∧ X vs S
  | .rt d, S => Q (.rt d) S
theorem ws_loop {t : Tg} (A : List Nat) (I : Nat → List (Option D) → Sto → Prop) : ∀ (xs : List D) (k : Nat) (vs : List (Option D)) (S : Sto), vs.length = A.length → I k vs S →
    (∀ j d vs S, xs[j]? = some d → vs.length = A.length → I (k + j) vs S → ∃ ρ1, t.put d (putAll A vs ρ) = some ρ1 ∧ Ws (b ρ1 S) (loopQ A ρ (I (k + j + 1)) (fun vs S => Q (.nx (putAll A vs ρ)) S) Q) E) →
    (∀ vs S, vs.length = A.length → I (k + xs.length) vs S → Q (.nx (putAll A vs ρ)) S) → Ws (loopS t b xs (putAll A vs ρ) S) Q E
  | [], k, vs, S, hv, h, _, hq => ⟨hq vs S hv h⟩
  | d :: ds, k, vs, S, hv, h, st, hq => by
    obtain ⟨ρ1, e1, h1⟩ := st 0 d vs S rfl hv h
    unfold loopS
    simp only [e1]
    have next : ∀ vs S, vs.length = A.length → I (k + 1) vs S → Ws (loopS t b ds (putAll A vs ρ) S) Q E := fun vs S hv h =>
      ws_loop A I ds (k + 1) vs S hv h (fun j d vs S hj hv hI => by
        have := st (j + 1) d vs S (by simpa using hj) hv (by rw [show k + (j + 1) = k + 1 + j by omega]; exact hI)
        rw [show k + (j + 1) + 1 = k + 1 + j + 1 by omega] at this
        exact this) (fun vs S hv hI => hq vs S hv (by rw [List.length_cons, show k + (ds.length + 1) = k + 1 + ds.length by omega]; exact hI))
    cases e : b ρ1 S with
    | bad => rw [e] at h1; exact h1.out.elim
    | exc c p ρ' S' => rw [e] at h1; first | exact h1 | exact ⟨h1⟩ | exact (h1).out | exact ⟨(h1).out⟩
    | fl f S' =>
      rw [e] at h1
      cases f with
      | nx ρ' => obtain ⟨vs', hv', rfl, h2⟩ := h1; exact next vs' S' hv' h2
      | ct ρ' => obtain ⟨vs', hv', rfl, h2⟩ := h1; exact next vs' S' hv' h2
      | bk ρ' => obtain ⟨vs', hv', rfl, h2⟩ := h1; first | exact h2 | exact ⟨h2⟩ | exact (h2).out | exact ⟨(h2).out⟩
      | rt d => first | exact h1 | exact ⟨h1⟩ | exact (h1).out | exact ⟨(h1).out⟩
/-- a for: I turn values store -/
theorem ws_for {it : Ix} {t : Tg} (A : List Nat) (h : Wp (it ρ S) (fun xs S1 => ∃ (I : Nat → List (Option D) → Sto → Prop) (vs : List (Option D)), vs.length = A.length ∧ putAll A vs ρ = ρ ∧ I 0 vs S1 ∧
    (∀ j d vs S, xs[j]? = some d → vs.length = A.length → I j vs S → ∃ ρ1, t.put d (putAll A vs ρ) = some ρ1 ∧ Ws (b ρ1 S) (loopQ A ρ (I (j + 1)) (fun vs S => Q (.nx (putAll A vs ρ)) S) Q) E) ∧
    (∀ vs S, vs.length = A.length → I xs.length vs S → Q (.nx (putAll A vs ρ)) S)) (fun c p S => E c p ρ S)) : Ws (sFor it t b ρ S) Q E := by
  refine ws_bind (h.mono fun xs S1 ⟨I, vs, hv, hp, hi, st, hq⟩ => ?_)
  have := ws_loop (ρ := ρ) (b := b) (t := t) (Q := Q) (E := E) A I xs 0 vs S1 hv hi (fun j d vs S hj hv hI => by
    rw [Nat.zero_add] at hI ⊢
    exact st j d vs S hj hv hI) (fun vs S hv hI => hq vs S hv (by rw [Nat.zero_add] at hI; exact hI))
  rw [hp] at this
  exact this
end
def unQ (t : Tg) (b : Sx) (ds : List D) (Q : Fl → Sto → Prop) (E : Xs) : Fl → Sto → Prop
  | .nx ρ, S => Ws (loopS t b ds ρ S) Q E
  | .ct ρ, S => Ws (loopS t b ds ρ S) Q E
  | .bk ρ, S => Q (.nx ρ) S
  | .rt d, S => Q (.rt d) S
section
variable {t : Tg} {b : Sx} {ds : List D} {d : D} {Q : Fl → Sto → Prop} {E : Xs} {ρ ρ1 : Ev} {S : Sto} {it : Ix}
theorem ws_loopN (q : Q (.nx ρ) S) : Ws (loopS t b [] ρ S) Q E := ⟨q⟩
theorem ws_loopC (h : t.put d ρ = some ρ1) (h1 : Ws (b ρ1 S) (unQ t b ds Q E) E) : Ws (loopS t b (d :: ds) ρ S) Q E := by
  unfold loopS
  simp only [h]
  cases e : b ρ1 S with
  | bad => rw [e] at h1; exact h1.out.elim
  | exc c p ρ' S' => rw [e] at h1; first | exact h1 | exact ⟨h1⟩ | exact (h1).out | exact ⟨(h1).out⟩
  | fl f S' =>
    rw [e] at h1
    cases f <;> first | exact h1 | exact ⟨h1⟩ | exact (h1).out | exact ⟨(h1).out⟩
theorem un_nx (h : Ws (loopS t b ds ρ S) Q E) : unQ t b ds Q E (.nx ρ) S := h
theorem un_ct (h : Ws (loopS t b ds ρ S) Q E) : unQ t b ds Q E (.ct ρ) S := h
theorem un_bk (h : Q (.nx ρ) S) : unQ t b ds Q E (.bk ρ) S := h
theorem un_rt (h : Q (.rt d) S) : unQ t b ds Q E (.rt d) S := h
end
def dkl : D → Option (List D)
  | .lst xs => some xs
  | .dic false kvs => some (kvs.map (·.1))
  | _ => none
section
variable {Q : List D → Sto → Prop} {E : Px} {ρ : Ev} {S : Sto} {a b : Ex}
theorem wi_seq (h : Wp (a ρ S) (fun d S1 => ∃ xs, (d = .tup xs ∨ dkl d = some xs) ∧ Q xs S1) E) : Wp (iSeq a ρ S) Q E := wp_bind (h.mono fun d S1 ⟨xs, e, q⟩ => by
  rcases e with rfl | e
  · exact ⟨q⟩
  · cases d with
    | lst ys => cases e; exact ⟨q⟩
    | dic t kvs => cases t with
      | false => cases e; exact ⟨q⟩
      | true => cases e
    | _ => cases e)
theorem wi_rng1 (h : Wp (a ρ S) (fun d S1 => ∃ j, d = .int j ∧ (-1000000000000 ≤ j ∧ j ≤ 1000000000000) ∧ Q (iRng 0 j) S1) E) : Wp (iRng1X a ρ S) Q E := wp_bind (h.mono fun d S1 ⟨j, e, h1, q⟩ => by
  subst e
  dsimp only
  rw [if_pos ⟨by omega, by omega⟩]
  first | exact q | exact ⟨q⟩ | exact (q).out | exact ⟨(q).out⟩)
theorem wi_rng2 (h : Wp (a ρ S) (fun d S1 => Wp (b ρ S1) (fun d2 S2 => ∃ i j, d = .int i ∧ d2 = .int j ∧ (-1000000000000 ≤ i ∧ i ≤ 1000000000000) ∧ (-1000000000000 ≤ j ∧ j ≤ 1000000000000) ∧ Q (iRng i j) S2) E) E) : Wp (iRng2X a b ρ S) Q E :=
  wp_bind (h.mono fun d S1 h => wp_bind (h.mono fun d2 S2 ⟨i, j, e1, e2, h1, h2, q⟩ => by
    subst e1 e2
    dsimp only
    rw [if_pos ⟨by omega, by omega, by omega, by omega⟩]
    first | exact q | exact ⟨q⟩ | exact (q).out | exact ⟨(q).out⟩))
theorem wi_zip2 (h : Wp (a ρ S) (fun x S1 => Wp (b ρ S1) (fun y S2 => ∃ xs ys, ((x = .lst xs ∧ y = .lst ys) ∨ (x = .tup xs ∧ y = .tup ys)) ∧ Q (zipDs xs ys) S2) E) E) : Wp (iZip2 a b ρ S) Q E :=
  wp_bind (h.mono fun d S1 h => wp_bind (h.mono fun d2 S2 ⟨xs, ys, e, q⟩ => by rcases e with ⟨rfl, rfl⟩ | ⟨rfl, rfl⟩ <;> first | exact q | exact ⟨q⟩ | exact (q).out | exact ⟨(q).out⟩))
theorem wi_zipS (h : Wp (a ρ S) (fun x S1 => Wp (b ρ S1) (fun y S2 => ∃ xs ys, (x = .lst xs ∨ x = .tup xs) ∧ (y = .lst ys ∨ y = .tup ys) ∧ xs.length = ys.length ∧ Q (zipDs xs ys) S2) E) E) : Wp (iZipS a b ρ S) Q E :=
  wp_bind (h.mono fun d S1 h => wp_bind (h.mono fun d2 S2 ⟨xs, ys, e1, e2, hl, q⟩ => by
    rcases e1 with rfl | rfl <;> rcases e2 with rfl | rfl <;> simp only [asSq] <;> rw [if_pos hl] <;> first | exact q | exact ⟨q⟩ | exact (q).out | exact ⟨(q).out⟩))
end
section
variable {Q : D → Sto → Prop} {E : Px} {ρ : Ev} {S : Sto} {t : Tg} {tt : Tx} {e : Ex} {vs : List Nat} {it : Ix}
theorem wp_nox {α : Type} {r : R α} {Q : α → Sto → Prop} (h : Wp r Q noX) : Wp r.nox Q E := by
  obtain ⟨a, S, e, h⟩ := h.ok
  rw [e]
  first | exact h | exact ⟨h⟩ | exact (h).out | exact ⟨(h).out⟩
/-- what a comprehension gathers: I turn gathered store -/
theorem wp_compL (I : Nat → List D → Sto → Prop) : ∀ (xs : List D) (k : Nat) (acc : List D) (S : Sto) (Q : List D → Sto → Prop), I k acc S →
    (∀ j d acc S, xs[j]? = some d → I (k + j) acc S → ∃ ρ1, t.put d (wipeD ρ vs) = some ρ1 ∧ Wp (tt ρ1 S) (fun b S1 => (b = true → Wp (e ρ1 S1) (fun y S2 => acc.length < 16777216 ∧ I (k + j + 1) (acc ++ [y]) S2) noX) ∧ (b = false → I (k + j + 1) acc S1)) noX) →
    (∀ acc S, I (k + xs.length) acc S → Q acc S) → Wp (compL t tt e vs xs ρ S acc) Q E
  | [], k, acc, S, Q, h, _, hq => ⟨hq acc S h⟩
  | d :: ds, k, acc, S, Q, h, st, hq => by
    obtain ⟨ρ1, e1, h1⟩ := st 0 d acc S rfl h
    unfold compL
    rw [e1]
    dsimp only
    have next : ∀ acc S, I (k + 1) acc S → Wp (compL t tt e vs ds ρ S acc) Q E := fun acc S h =>
      wp_compL I ds (k + 1) acc S Q h (fun j d acc S hj hI => by
        have := st (j + 1) d acc S (by simpa using hj) (by rw [show k + (j + 1) = k + 1 + j by omega]; exact hI)
        rw [show k + (j + 1) + 1 = k + 1 + j + 1 by omega] at this
        exact this) (fun acc S hI => hq acc S (by rw [List.length_cons, show k + (ds.length + 1) = k + 1 + ds.length by omega]; exact hI))
    refine wp_bind (wp_nox (h1.mono fun b S1 h2 => ?_))
    cases b with
    | false => rw [if_neg (by decide)]; exact next _ _ (h2.2 rfl)
    | true =>
      rw [if_pos rfl]
      refine wp_bind (wp_nox ((h2.1 rfl).mono fun y S2 h3 => ?_))
      rw [if_pos (by rw [sizeLine_eq]; exact h3.1)]
      exact next _ _ h3.2
theorem wp_comp (h : Wp (it ρ S) (fun xs S1 => ∃ I : Nat → List D → Sto → Prop, I 0 [] S1 ∧
    (∀ j d acc S, xs[j]? = some d → I j acc S → ∃ ρ1, t.put d (wipeD ρ vs) = some ρ1 ∧ Wp (tt ρ1 S) (fun b S1 => (b = true → Wp (e ρ1 S1) (fun y S2 => acc.length < 16777216 ∧ I (j + 1) (acc ++ [y]) S2) noX) ∧ (b = false → I (j + 1) acc S1)) noX) ∧
    (∀ acc S, I xs.length acc S → Q (.lst acc) S)) E) : Wp (eComp it t tt e vs ρ S) Q E :=
  wp_bind (h.mono fun xs S1 ⟨I, h0, st, hq⟩ => wp_bind (wp_compL I xs 0 [] S1 _ h0 (fun j d acc S hj hI => by
    rw [Nat.zero_add] at hI ⊢
    exact st j d acc S hj hI) fun acc S hI => ⟨hq acc S (by rw [Nat.zero_add] at hI; exact hI)⟩))
/-- of plain things, each told its own, the store stays -/
theorem wp_comp_map {α : Type} (l : List α) (f : α → D) (p : α → Bool) (g : α → D) (hl : l.length ≤ 16777216) (h : Wp (it ρ S) (fun xs S1 => xs = l.map f ∧
    (∀ x ∈ l, ∃ ρ1, t.put (f x) (wipeD ρ vs) = some ρ1 ∧ Wp (tt ρ1 S1) (fun b S2 => b = p x ∧ S2 = S1) noX ∧ (p x = true → Wp (e ρ1 S1) (fun y S2 => y = g x ∧ S2 = S1) noX)) ∧ Q (.lst ((l.filter p).map g)) S1) E) : Wp (eComp it t tt e vs ρ S) Q E := by
  refine wp_comp (h.mono fun xs S1 ⟨h1, st, q⟩ => ?_)
  subst h1
  refine ⟨fun j acc S => S = S1 ∧ acc = ((l.take j).filter p).map g, ⟨rfl, by simp⟩, ?_, ?_⟩
  · rintro j d acc S hj ⟨rfl, rfl⟩
    rw [List.getElem?_map] at hj
    obtain ⟨x, hx, rfl⟩ := Option.map_eq_some_iff.mp hj
    obtain ⟨ρ1, e1, h2, h3⟩ := st x (List.mem_of_getElem? hx)
    have hj' := (List.getElem?_eq_some_iff.mp hx).1
    have ht : l.take (j + 1) = l.take j ++ [x] := by rw [List.take_succ, hx]; rfl
    refine ⟨ρ1, e1, h2.mono fun b S2 ⟨hb, hS⟩ => ?_⟩
    subst hS
    constructor
    · intro hbt
      rw [hb] at hbt
      refine (h3 hbt).mono fun y S3 ⟨hy, hS⟩ => ?_
      subst hS hy
      refine ⟨?_, rfl, ?_⟩
      · rw [List.length_map]
        have h4 := List.length_filter_le p (l.take j)
        rw [List.length_take] at h4
        omega
      · rw [ht, List.filter_append, List.map_append]
        simp [hbt]
    · intro hbf
      rw [hb] at hbf
      refine ⟨rfl, ?_⟩
      rw [ht, List.filter_append]
      simp [hbf]
  · rintro acc S ⟨rfl, rfl⟩
    rw [List.length_map, List.take_length]
    exact q
end
theorem ite_d {p : Prop} [Decidable p] {A B : Prop} (h1 : p → A) (h2 : ¬ p → B) : (decide p = true → A) ∧ (decide p = false → B) := ⟨fun h => h1 (of_decide_eq_true h), fun h => h2 (of_decide_eq_false h)⟩
theorem ite_nd {p : Prop} [Decidable p] {A B : Prop} (h1 : ¬ p → A) (h2 : p → B) : ((!decide p) = true → A) ∧ ((!decide p) = false → B) := ⟨fun h => h1 (by simpa using h), fun h => h2 (by simpa using h)⟩
theorem neD_of {a b : D} {c : Bool} (h : eqD a b = some (.bl c)) : neD a b = some (.bl (!c)) := by
  unfold eqD at h
  unfold neD
  cases e : eqB a b with
  | none => rw [e] at h; simp at h
  | some x => rw [e] at h; simp at h; simp [h]
theorem wo_id {o : Option D} {Q : D → Prop} (h : Wo o Q) : Wo o Q := h
theorem ex_id {α : Type} {p : α → Prop} (h : ∃ x, p x) : ∃ x, p x := h
theorem and_id {a b : Prop} (h : a ∧ b) : a ∧ b := h
theorem ite_f {A B : Prop} (h : B) : (false = true → A) ∧ (false = false → B) := ⟨fun h => (by cases h), fun _ => h⟩
theorem ite_t {A B : Prop} (h : A) : (true = true → A) ∧ (true = false → B) := ⟨fun _ => h, fun h => (by cases h)⟩
theorem ite_nt {A B : Prop} (h : B) : ((!true) = true → A) ∧ ((!true) = false → B) := ite_f h
theorem ite_nf {A B : Prop} (h : A) : ((!false) = true → A) ∧ ((!false) = false → B) := ite_t h
section
variable {Q : D → Prop} {S : Sto} {i j : Int} {xs ys : List D}
theorem wo_add (q : Q (.int (i + j))) : Wo (addD (.int i) (.int j)) Q := ⟨q⟩
theorem wo_addT (h : xs.length + ys.length ≤ 16777216) (q : Q (.tup (xs ++ ys))) : Wo (addD (.tup xs) (.tup ys)) Q := .of (if_pos (by rw [sizeLine_eq]; exact h)) q
theorem wo_addL (h : xs.length + ys.length ≤ 16777216) (q : Q (.lst (xs ++ ys))) : Wo (addD (.lst xs) (.lst ys)) Q := .of (if_pos (by rw [sizeLine_eq]; exact h)) q
theorem wo_sub (q : Q (.int (i - j))) : Wo (subD (.int i) (.int j)) Q := ⟨q⟩
theorem wo_neg (q : Q (.int (-i))) : Wo (negD (.int i)) Q := ⟨q⟩
theorem wo_mulL (h : -18446744073709551616 < i ∧ i < 18446744073709551616) (q : Q (.int (i * j))) : Wo (mulD (.int i) (.int j)) Q := .of (mulD_l h.1 h.2) q
theorem wo_mulR (h : -18446744073709551616 < j ∧ j < 18446744073709551616) (q : Q (.int (i * j))) : Wo (mulD (.int i) (.int j)) Q := .of (mulD_r h.1 h.2) q
theorem wo_mod (h : 0 < j) (q : Q (.int (i % j))) : Wo (modD (.int i) (.int j)) Q := .of (if_pos h) q
theorem wo_div (h : 0 < j ∧ j < 1073741824) (q : Q (.int (i / j))) : Wo (divD (.int i) (.int j)) Q := .of (if_pos h) q
theorem wo_lt (q : Q (.bl (decide (i < j)))) : Wo (ltD (.int i) (.int j)) Q := ⟨q⟩
theorem wo_le (q : Q (.bl (decide (i ≤ j)))) : Wo (leD (.int i) (.int j)) Q := ⟨q⟩
theorem wo_gt (q : Q (.bl (decide (j < i)))) : Wo (gtD (.int i) (.int j)) Q := ⟨q⟩
theorem wo_ge (q : Q (.bl (decide (j ≤ i)))) : Wo (geD (.int i) (.int j)) Q := ⟨q⟩
theorem wo_eq (q : Q (.bl (decide (i = j)))) : Wo (eqD (.int i) (.int j)) Q := .of (eqD_int i j) q
theorem wo_ne (q : Q (.bl (!decide (i = j)))) : Wo (neD (.int i) (.int j)) Q := .of (neD_int i j) q
theorem wo_eqB {a b : Bool} (q : Q (.bl (a == b))) : Wo (eqD (.bl a) (.bl b)) Q := .of (eqD_bl a b) q
theorem wo_neB {a b : Bool} (q : Q (.bl (!(a == b)))) : Wo (neD (.bl a) (.bl b)) Q := .of (neD_bl a b) q
theorem wo_ixL {d : D} (h : L2.atI xs i = some d) (q : Q d) : Wo (ixD (.lst xs) (.int i)) Q := .of h q
theorem wo_slT {a b : Option Int} (q : Q (.tup (cutD xs a b))) : Wo (slD (.tup xs) a b) Q := ⟨q⟩
theorem wo_slL {a b : Option Int} (q : Q (.lst (cutD xs a b))) : Wo (slD (.lst xs) a b) Q := ⟨q⟩
theorem wo_lenT (q : Q (.int xs.length)) : Wo (lenD [.tup xs]) Q := ⟨q⟩
theorem wo_lenL (q : Q (.int xs.length)) : Wo (lenD [.lst xs]) Q := ⟨q⟩
theorem wo_revT (q : Q (.tup xs.reverse)) : Wo (revD (.tup xs)) Q := ⟨q⟩
theorem wo_revL (q : Q (.lst xs.reverse)) : Wo (revD (.lst xs)) Q := ⟨q⟩
theorem wo_min (q : Q (.int (if j < i then j else i))) : Wo (min2D [.int i, .int j]) Q := ⟨q⟩
theorem wo_max (q : Q (.int (if j > i then j else i))) : Wo (max2D [.int i, .int j]) Q := ⟨q⟩
theorem wo_tupL (q : Q (.tup xs)) : Wo (tupleD [.lst xs]) Q := ⟨q⟩
theorem wo_tupT (q : Q (.tup xs)) : Wo (tupleD [.tup xs]) Q := ⟨q⟩
theorem wo_lisL (q : Q (.lst xs)) : Wo (listD [.lst xs]) Q := ⟨q⟩
theorem wo_lisT (q : Q (.lst xs)) : Wo (listD [.tup xs]) Q := ⟨q⟩
end
end DL
set_option Elab.async false
set_option linter.all false
set_option maxRecDepth 100000
set_option maxHeartbeats 4000000
namespace DL
open PySem PySem.Spec PyProof.Rows
/-- the others stand as before -/
def Only (n : Nat) (S S' : Sto) : Prop := S'.length = S.length ∧ ∀ m, m ≠ n → S'[m]? = S[m]?
theorem Only.refl {n : Nat} {S : Sto} : Only n S S := ⟨rfl, fun _ _ => rfl⟩
theorem Only.trans {n : Nat} {S S1 S2 : Sto} (h : Only n S S1) (h2 : Only n S1 S2) : Only n S S2 := ⟨h2.1.trans h.1, fun m hm => (h2.2 m hm).trans (h.2 m hm)⟩
theorem Only.set {n : Nat} {S : Sto} {o : Option Ob} : Only n S (S.set n o) := ⟨by simp, fun m hm => List.getElem?_set_ne (fun e => hm e.symm)⟩
theorem set_at {S : Sto} {n : Nat} {o o' : Option Ob} (h : S[n]? = some o) : (S.set n o')[n]? = some o' := by
  have := (List.getElem?_eq_some_iff.mp h).1
  simp [this]
/-- a store that is changed at one place: what is needed of it -/
theorem set_gen {P : Sto → Prop} {S : Sto} {n : Nat} {o : Ob} {o' : Option Ob} (h : S[n]? = some (some o)) (k : ∀ S', S'[n]? = some o' → Only n S S' → P S') : P (S.set n o') := k _ (set_at h) .set
/-- all that stood stands -/
def Ext (S S' : Sto) : Prop := S.length ≤ S'.length ∧ ∀ m, m < S.length → S'[m]? = S[m]?
theorem Ext.refl {S : Sto} : Ext S S := ⟨Nat.le_refl _, fun _ _ => rfl⟩
theorem Ext.trans {S S1 S2 : Sto} (h : Ext S S1) (h2 : Ext S1 S2) : Ext S S2 := ⟨Nat.le_trans h.1 h2.1, fun m hm => (h2.2 m (Nat.lt_of_lt_of_le hm h.1)).trans (h.2 m hm)⟩
theorem Ext.app {S : Sto} {l : List (Option Ob)} : Ext S (S ++ l) := ⟨by simp, fun m hm => List.getElem?_append_left hm⟩
theorem Ext.at_ {S S' : Sto} {n : Nat} {o : Option Ob} (h : Ext S S') (e : S[n]? = some o) : S'[n]? = some o := (h.2 n (List.getElem?_eq_some_iff.mp e).1).trans e
theorem app_at {S : Sto} {o : Option Ob} : (S ++ [o])[S.length]? = some o := by simp
/-- a change of what is new, seen from before it was -/
theorem Ext.set {S S' : Sto} {n : Nat} {o : Option Ob} (h : Ext S S') (hn : S.length ≤ n) : Ext S (S'.set n o) := ⟨by simpa using h.1, fun m hm => by rw [List.getElem?_set_ne (by omega)]; exact h.2 m hm⟩
theorem Ext.only {S S1 S2 : Sto} {n : Nat} (h : Ext S S1) (ho : Only n S1 S2) (hn : S.length ≤ n) : Ext S S2 := ⟨by rw [ho.1]; exact h.1, fun m hm => (ho.2 m (by omega)).trans (h.2 m hm)⟩
def JarS (S : Sto) (n : Nat) (k : Int) : Prop := ∃ cells t r, Jar S n cells t r ∧ 0 ≤ t ∧ t ≤ k
theorem JarS.mono {S : Sto} {n : Nat} {k k' : Int} (h : JarS S n k) (hk : k ≤ k') : JarS S n k' := by
  obtain ⟨c, t, r, h1, h2, h3⟩ := h
  exact ⟨c, t, r, h1, h2, by omega⟩
theorem JarS.ext {S S' : Sto} {n : Nat} {k : Int} (h : JarS S n k) (e : Ext S S') : JarS S' n k := by
  obtain ⟨c, t, r, h1, h2, h3⟩ := h
  exact ⟨c, t, r, e.at_ h1, h2, h3⟩
theorem JarS.only {S S' : Sto} {n m : Nat} {k : Int} (h : JarS S n k) (e : Only m S S') (hm : n ≠ m) : JarS S' n k := by
  obtain ⟨c, t, r, h1, h2, h3⟩ := h
  exact ⟨c, t, r, (e.2 n hm).trans h1, h2, h3⟩
theorem eqv_ints : ∀ xs ys : List Int, PyData.eqvAll (xs.map PyData.int) (ys.map PyData.int) = decide (xs = ys)
  | [], [] => by simp [PyData.eqvAll]
  | [], y :: ys => by simp [PyData.eqvAll]
  | x :: xs, [] => by simp [PyData.eqvAll]
  | x :: xs, y :: ys => by
    rw [List.map_cons, List.map_cons, PyData.eqvAll, eqv_ints xs ys]
    by_cases h1 : x = y <;> by_cases h2 : xs = ys <;> simp [PyData.eqv, h1, h2]
theorem toP_ints (xs : List Int) : toPs (xs.map D.int) = some (xs.map .int) := toPs_map D.int PyData.int (fun x => rfl) xs
theorem lay_ints (xs : List Int) : PyData.canLayAll0 (xs.map PyData.int) = true := lay_map _ (fun x => by simp [PyData.canLay0]) xs
theorem dep_ints (xs : List Int) : PyData.depthAll (xs.map PyData.int) ≤ 1 := dep_map PyData.int 1 (fun x => by simp [PyData.depth]) xs
theorem eqD_lstI (xs ys : List Int) : eqD (.lst (xs.map .int)) (.lst (ys.map .int)) = some (.bl (decide (xs = ys))) := by
  have e : ∀ zs : List Int, toP (.lst (zs.map .int)) = some (.list (zs.map .int)) := fun zs => by simp only [toP, toP_ints zs, Option.map_some]
  have h : ∀ zs : List Int, SeqAt.shaped (.list (zs.map .int)) = true := fun zs => by
    have h2 := dep_ints zs
    refine Bool.and_eq_true_iff.mpr ⟨by simp only [PyData.canLay0]; exact lay_ints zs, decide_eq_true ?_⟩
    simp only [PyData.depth]
    omega
  simp only [eqD, eqB, eqS, e, h, Bool.and_self, if_true, Option.map_some]
  rw [PyData.eqv, eqv_ints]
theorem eqD_str (a b : Str) : eqD (.str a) (.str b) = some (.bl (decide (a = b))) := by simp [eqD, eqB, eqS]
theorem neD_str (a b : Str) : neD (.str a) (.str b) = some (.bl (!decide (a = b))) := by simp [neD, eqB, eqS]
mutual
def dpD : D → Nat
  | .tup xs => 1 + dpDs xs
  | .lst xs => 1 + dpDs xs
  | _ => 0
def dpDs : List D → Nat
  | [] => 0
  | d :: ds => max (dpD d) (dpDs ds)
end
theorem log2_small {n : Nat} (h : n < 10 ^ 50) : n.log2 < 1920 := by
  by_cases h0 : n = 0
  · subst h0; decide
  · exact (Nat.log2_lt h0).mpr (Nat.lt_of_lt_of_le h (by exact Nat.le_trans (show 10 ^ 50 ≤ 2 ^ 200 by decide) (Nat.pow_le_pow_right (by decide) (by decide))))
/-- signs -/
def Row (xs : List Int) : Prop := ∀ x ∈ xs, 0 ≤ x ∧ x < 31
/-- a join: M holds behind the first statement -/
theorem ws_mid {a b : Sx} {ρ : Ev} {S : Sto} {Q : Fl → Sto → Prop} {E : Xs} (M : Fl → Sto → Prop) (h1 : Ws (a ρ S) M E) (h2 : ∀ f S', M f S' → thenQ b Q E f S') : Ws (sSeq a b ρ S) Q E := ws_seq (h1.mono h2)
theorem ws_midT {a b : Sx} {ρ : Ev} {S : Sto} {Q : Fl → Sto → Prop} {E : Xs} (M : Fl → Sto → Prop) (h1 : Ws (a ρ S) M E) (h2 : ∀ f S', M f S' → thenQ b Q E f S') : Ws (a ρ S) (thenQ b Q E) E := h1.mono h2
section
variable {Q : D → Sto → Prop} {E : Px} {ρ : Ev} {S : Sto} {a b c : Ex}
theorem wp_repr (h : Wp (a ρ S) (fun d S1 => Wo (reprD (frzD S1 d)) fun z => Q z S1) E) : Wp (eRepr a ρ S) Q E := wp_bind (h.mono fun _ _ h => wp_ans h)
theorem wp_isi {t : PT} (h : Wp (a ρ S) (fun x S1 => Wo (Option.map D.bl (t.isOf (view S1 x))) fun z => Q z S1) E) : Wp (eIsi t a ρ S) Q E := wp_op1 h
theorem wp_isis {t : List PT} (h : Wp (a ρ S) (fun x S1 => Wo (Option.map D.bl (isOfs t (view S1 x))) fun z => Q z S1) E) : Wp (eIsis t a ρ S) Q E := wp_op1 h
theorem wp_maxD {i : Int} (h : Wp (a ρ S) (fun d S1 => Wo (maxDD [view S1 d, .int i]) fun z => Q z S1) E) : Wp (eMaxD i a ρ S) Q E := wp_bind (h.mono fun _ _ h => wp_ans h)
theorem wi_rng3 {Q : List D → Sto → Prop} (h : Wp (evL [a, b, c] ρ S) (fun ds S1 => ∃ i j k, ds = [.int i, .int j, .int k] ∧ (k ≠ 0 ∧ k.natAbs < 1073741824 ∧ Builtin.Range.small i j k = true) ∧ Q (iRng3 i j k) S1) E) : Wp (iRng3X a b c ρ S) Q E :=
  wp_bind (h.mono fun ds S1 ⟨i, j, k, e, h1, q⟩ => by
    subst e
    dsimp only
    rw [if_pos h1]
    exact ⟨q⟩)
end
section
variable {Q : D → Prop} {S : Sto} {n : Nat} {xs : List D} {y d : D}
theorem wo_vw1 {g : D → D → Option D} (h : S[n]? = some (some (.lst xs))) (q : Wo (g (view S (.lst xs)) y) Q) : Wo (g (view S (.ref n)) y) Q := by rw [view_at h]; exact q
theorem wo_vw2 {g : D → D → Option D} (h : S[n]? = some (some (.lst xs))) (q : Wo (g y (view S (.lst xs))) Q) : Wo (g y (view S (.ref n))) Q := by rw [view_at h]; exact q
theorem wo_eqS {a b : Str} (q : Q (.bl (decide (a = b)))) : Wo (eqD (.str a) (.str b)) Q := .of (eqD_str a b) q
theorem wo_neS {a b : Str} (q : Q (.bl (!decide (a = b)))) : Wo (neD (.str a) (.str b)) Q := .of (neD_str a b) q
end
def cutL {α : Type} (xs : List α) (lo hi : Option Int) : List α := (xs.drop (HT.sIx xs.length 0 lo)).take (HT.sIx xs.length xs.length hi - HT.sIx xs.length 0 lo)
theorem cut_map {α : Type} (f : α → D) (xs : List α) (lo hi : Option Int) : cutD (xs.map f) lo hi = (cutL xs lo hi).map f := by
  unfold cutD cutL
  rw [List.length_map, List.map_take, List.map_drop]
theorem cutL_mem {α : Type} {xs : List α} {lo hi : Option Int} {x : α} (h : x ∈ cutL xs lo hi) : x ∈ xs := List.mem_of_mem_drop (List.mem_of_mem_take h)
theorem cutL_len {α : Type} (xs : List α) (lo hi : Option Int) : (cutL xs lo hi).length ≤ xs.length := by
  unfold cutL
  rw [List.length_take, List.length_drop]
  omega
theorem Row.cut {xs : List Int} (h : Row xs) (lo hi : Option Int) : Row (cutL xs lo hi) := fun x hx => h x (cutL_mem hx)
theorem Row.app {xs ys : List Int} (h : Row xs) (h2 : Row ys) : Row (xs ++ ys) := fun x hx => (List.mem_append.mp hx).elim (h x) (h2 x)
section
variable {Q : D → Sto → Prop} {E : Px} {ρ : Ev} {S : Sto} {t : Tg} {e : Ex} {vs : List Nat} {it : Ix}
theorem wp_compG {α : Type} (f : α → D) (h : Wp (it ρ S) (fun xs S1 => ∃ I : Nat → List α → Sto → Prop, xs.length ≤ 16777216 ∧ I 0 [] S1 ∧
    (∀ j d as S, xs[j]? = some d → as.length = j → I j as S → ∃ ρ1, t.put d (wipeD ρ vs) = some ρ1 ∧ Wp (e ρ1 S) (fun y S2 => ∃ a, y = f a ∧ I (j + 1) (as ++ [a]) S2) noX) ∧
    (∀ as S, as.length = xs.length → I xs.length as S → Q (.lst (as.map f)) S)) E) : Wp (eComp it t tYesX e vs ρ S) Q E := by
  refine wp_comp (h.mono fun xs S1 ⟨I, hl, h0, st, hq⟩ => ⟨fun j acc S => ∃ as : List α, acc = as.map f ∧ as.length = j ∧ j ≤ xs.length ∧ I j as S, ⟨[], rfl, rfl, Nat.zero_le _, h0⟩, ?_, ?_⟩)
  · rintro j d acc S hj ⟨as, rfl, hal, hjl, hI⟩
    obtain ⟨ρ1, e1, h1⟩ := st j d as S hj hal hI
    have hj' := (List.getElem?_eq_some_iff.mp hj).1
    refine ⟨ρ1, e1, wp_tyes ⟨fun _ => h1.mono fun y S2 ⟨a, hy, hI2⟩ => ?_, fun z => by cases z⟩⟩
    subst hy
    exact ⟨by rw [List.length_map]; omega, as ++ [a], by simp, by simp [hal], by omega, hI2⟩
  · rintro acc S ⟨as, rfl, hal, _, hI⟩
    exact hq as S hal hI
/-- one for each of a list of things, the store stays -/
theorem wp_compM1 {α : Type} (l : List α) (f g : α → D) (hl : l.length ≤ 16777216) (h : Wp (it ρ S) (fun xs S1 => xs = l.map f ∧ (∀ x ∈ l, ∃ ρ1, t.put (f x) (wipeD ρ vs) = some ρ1 ∧ Wp (e ρ1 S1) (fun y S2 => y = g x ∧ S2 = S1) noX) ∧ Q (.lst (l.map g)) S1) E) : Wp (eComp it t tYesX e vs ρ S) Q E := by
  refine wp_comp_map l f (fun _ => true) g hl (h.mono fun xs S1 ⟨h1, h2, q⟩ => ⟨h1, fun x hx => ?_, ?_⟩)
  · obtain ⟨ρ1, e1, h3⟩ := h2 x hx
    exact ⟨ρ1, e1, wp_tyes ⟨rfl, rfl⟩, fun _ => h3⟩
  · rw [List.filter_eq_self.mpr fun _ _ => rfl]
    exact q
end
theorem iRng_len (a b : Int) : (iRng a b).length = (b - a).toNat := by simp [iRng]
theorem iRng_at {a b : Int} {j : Nat} {d : D} (h : (iRng a b)[j]? = some d) : d = .int (a + j) ∧ a + j < b := by
  have hj := (List.getElem?_eq_some_iff.mp h).1
  rw [iRng_len] at hj
  simp only [iRng, List.getElem?_map, List.getElem?_range hj, Option.map_some, Option.some.injEq] at h
  exact ⟨h.symm, by omega⟩
theorem cutL_take {α : Type} (xs : List α) (v : Int) (h : 0 ≤ v) : cutL xs none (some v) = xs.take v.toNat := by
  have e2 : HT.sIx xs.length xs.length (some v) = min v.toNat xs.length := by
    unfold HT.sIx
    exact if_neg (by omega)
  unfold cutL
  rw [e2]
  simp only [HT.sIx, Nat.sub_zero, List.drop_zero]
  rw [Nat.min_def]
  split
  · rfl
  · rw [List.take_of_length_le (by omega), List.take_of_length_le (by omega)]
section
variable {Q : D → Prop} {a b c d e f g : D} {l : List D}
theorem wo_ixL0 (q : Q a) : Wo (ixD (.lst (a :: l)) (.int 0)) Q := .of (d := a) (by show L2.atI _ _ = _; unfold L2.atI L2.ixN; rw [if_pos (by decide), if_pos (by simp only [List.length_cons]; omega)]; rfl) q
theorem wo_ixL1 (q : Q b) : Wo (ixD (.lst (a :: b :: l)) (.int 1)) Q := .of (d := b) (by show L2.atI _ _ = _; unfold L2.atI L2.ixN; rw [if_pos (by decide), if_pos (by simp only [List.length_cons]; omega)]; rfl) q
theorem wo_ixL2 (q : Q c) : Wo (ixD (.lst (a :: b :: c :: l)) (.int 2)) Q := .of (d := c) (by show L2.atI _ _ = _; unfold L2.atI L2.ixN; rw [if_pos (by decide), if_pos (by simp only [List.length_cons]; omega)]; rfl) q
theorem wo_ixL3 (q : Q d) : Wo (ixD (.lst (a :: b :: c :: d :: l)) (.int 3)) Q := .of (d := d) (by show L2.atI _ _ = _; unfold L2.atI L2.ixN; rw [if_pos (by decide), if_pos (by simp only [List.length_cons]; omega)]; rfl) q
theorem wo_ixL4 (q : Q e) : Wo (ixD (.lst (a :: b :: c :: d :: e :: l)) (.int 4)) Q := .of (d := e) (by show L2.atI _ _ = _; unfold L2.atI L2.ixN; rw [if_pos (by decide), if_pos (by simp only [List.length_cons]; omega)]; rfl) q
theorem wo_ixL5 (q : Q f) : Wo (ixD (.lst (a :: b :: c :: d :: e :: f :: l)) (.int 5)) Q := .of (d := f) (by show L2.atI _ _ = _; unfold L2.atI L2.ixN; rw [if_pos (by decide), if_pos (by simp only [List.length_cons]; omega)]; rfl) q
theorem wo_ixL6 (q : Q g) : Wo (ixD (.lst (a :: b :: c :: d :: e :: f :: g :: l)) (.int 6)) Q := .of (d := g) (by show L2.atI _ _ = _; unfold L2.atI L2.ixN; rw [if_pos (by decide), if_pos (by simp only [List.length_cons]; omega)]; rfl) q
theorem wo_ixT0 (q : Q a) : Wo (ixD (.tup (a :: l)) (.int 0)) Q := .of (d := a) (by show L2.atI _ _ = _; unfold L2.atI L2.ixN; rw [if_pos (by decide), if_pos (by simp only [List.length_cons]; omega)]; rfl) q
theorem wo_ixT1 (q : Q b) : Wo (ixD (.tup (a :: b :: l)) (.int 1)) Q := .of (d := b) (by show L2.atI _ _ = _; unfold L2.atI L2.ixN; rw [if_pos (by decide), if_pos (by simp only [List.length_cons]; omega)]; rfl) q
theorem wo_ixT2 (q : Q c) : Wo (ixD (.tup (a :: b :: c :: l)) (.int 2)) Q := .of (d := c) (by show L2.atI _ _ = _; unfold L2.atI L2.ixN; rw [if_pos (by decide), if_pos (by simp only [List.length_cons]; omega)]; rfl) q
theorem wo_ixT3 (q : Q d) : Wo (ixD (.tup (a :: b :: c :: d :: l)) (.int 3)) Q := .of (d := d) (by show L2.atI _ _ = _; unfold L2.atI L2.ixN; rw [if_pos (by decide), if_pos (by simp only [List.length_cons]; omega)]; rfl) q
theorem wo_ixT4 (q : Q e) : Wo (ixD (.tup (a :: b :: c :: d :: e :: l)) (.int 4)) Q := .of (d := e) (by show L2.atI _ _ = _; unfold L2.atI L2.ixN; rw [if_pos (by decide), if_pos (by simp only [List.length_cons]; omega)]; rfl) q
theorem wo_ixT5 (q : Q f) : Wo (ixD (.tup (a :: b :: c :: d :: e :: f :: l)) (.int 5)) Q := .of (d := f) (by show L2.atI _ _ = _; unfold L2.atI L2.ixN; rw [if_pos (by decide), if_pos (by simp only [List.length_cons]; omega)]; rfl) q
theorem wo_ixT6 (q : Q g) : Wo (ixD (.tup (a :: b :: c :: d :: e :: f :: g :: l)) (.int 6)) Q := .of (d := g) (by show L2.atI _ _ = _; unfold L2.atI L2.ixN; rw [if_pos (by decide), if_pos (by simp only [List.length_cons]; omega)]; rfl) q
end
section
variable {Q : D → Prop} {S : Sto} {i j : Int} {xs ys : List D} {a b : Bool} {x y : Str} {d : D}
theorem vo_add (q : Q (.int (i + j))) : Wo (addD (view S (.int i)) (view S (.int j))) Q := wo_add q
theorem vo_sub (q : Q (.int (i - j))) : Wo (subD (view S (.int i)) (view S (.int j))) Q := wo_sub q
theorem vo_mod (h : 0 < j) (q : Q (.int (i % j))) : Wo (modD (view S (.int i)) (view S (.int j))) Q := wo_mod h q
theorem vo_div (h : 0 < j ∧ j < 1073741824) (q : Q (.int (i / j))) : Wo (divD (view S (.int i)) (view S (.int j))) Q := wo_div h q
theorem vo_mulR (h : -18446744073709551616 < j ∧ j < 18446744073709551616) (q : Q (.int (i * j))) : Wo (mulD (view S (.int i)) (view S (.int j))) Q := wo_mulR h q
theorem vo_mulL (h : -18446744073709551616 < i ∧ i < 18446744073709551616) (q : Q (.int (i * j))) : Wo (mulD (view S (.int i)) (view S (.int j))) Q := wo_mulL h q
theorem vo_lt (q : Q (.bl (decide (i < j)))) : Wo (ltD (view S (.int i)) (view S (.int j))) Q := wo_lt q
theorem vo_le (q : Q (.bl (decide (i ≤ j)))) : Wo (leD (view S (.int i)) (view S (.int j))) Q := wo_le q
theorem vo_gt (q : Q (.bl (decide (j < i)))) : Wo (gtD (view S (.int i)) (view S (.int j))) Q := wo_gt q
theorem vo_ge (q : Q (.bl (decide (j ≤ i)))) : Wo (geD (view S (.int i)) (view S (.int j))) Q := wo_ge q
theorem vo_eq (q : Q (.bl (decide (i = j)))) : Wo (eqD (view S (.int i)) (view S (.int j))) Q := wo_eq q
theorem vo_ne (q : Q (.bl (!decide (i = j)))) : Wo (neD (view S (.int i)) (view S (.int j))) Q := wo_ne q
theorem vo_eqB (q : Q (.bl (a == b))) : Wo (eqD (view S (.bl a)) (view S (.bl b))) Q := wo_eqB q
theorem vo_neB (q : Q (.bl (!(a == b)))) : Wo (neD (view S (.bl a)) (view S (.bl b))) Q := wo_neB q
theorem vo_eqS (q : Q (.bl (decide (x = y)))) : Wo (eqD (view S (.str x)) (view S (.str y))) Q := wo_eqS q
theorem vo_neS (q : Q (.bl (!decide (x = y)))) : Wo (neD (view S (.str x)) (view S (.str y))) Q := wo_neS q
theorem vo_neg (q : Q (.int (-i))) : Wo (negD (view S (.int i))) Q := wo_neg q
theorem vo_addT (h : xs.length + ys.length ≤ 16777216) (q : Q (.tup (xs ++ ys))) : Wo (addD (view S (.tup xs)) (view S (.tup ys))) Q := wo_addT h q
theorem vo_addL (h : xs.length + ys.length ≤ 16777216) (q : Q (.lst (xs ++ ys))) : Wo (addD (view S (.lst xs)) (view S (.lst ys))) Q := wo_addL h q
theorem vo_slT {l h : Option Int} (q : Q (.tup (cutD xs l h))) : Wo (slD (view S (.tup xs)) l h) Q := wo_slT q
theorem vo_slL {l h : Option Int} (q : Q (.lst (cutD xs l h))) : Wo (slD (view S (.lst xs)) l h) Q := wo_slL q
theorem vo_slS {ns : List Int} {l h : Option Int} (q : Q (.lst (cutD (ns.map .int) l h))) : Wo (slD (view S (.scr ns)) l h) Q := ⟨q⟩
theorem vo_lenT (q : Q (.int xs.length)) : Wo (lenD (List.map (view S) [.tup xs])) Q := wo_lenT q
theorem vo_lenL (q : Q (.int xs.length)) : Wo (lenD (List.map (view S) [.lst xs])) Q := wo_lenL q
theorem vo_tupL (q : Q (.tup xs)) : Wo (tupleD (List.map (view S) [.lst xs])) Q := wo_tupL q
theorem vo_tupT (q : Q (.tup xs)) : Wo (tupleD (List.map (view S) [.tup xs])) Q := wo_tupT q
theorem vo_lisL (q : Q (.lst xs)) : Wo (listD (List.map (view S) [.lst xs])) Q := wo_lisL q
theorem vo_lisT (q : Q (.lst xs)) : Wo (listD (List.map (view S) [.tup xs])) Q := wo_lisT q
theorem vo_lenS {ns : List Int} (q : Q (.int ns.length)) : Wo (lenD (List.map (view S) [.scr ns])) Q := ⟨q⟩
theorem vo_revT (q : Q (.tup xs.reverse)) : Wo (revD (view S (.tup xs))) Q := wo_revT q
theorem vo_revL (q : Q (.lst xs.reverse)) : Wo (revD (view S (.lst xs))) Q := wo_revL q
theorem vo_min (q : Q (.int (if j < i then j else i))) : Wo (min2D (List.map (view S) [.int i, .int j])) Q := wo_min q
theorem vo_max (q : Q (.int (if j > i then j else i))) : Wo (max2D (List.map (view S) [.int i, .int j])) Q := wo_max q
theorem vo_vwc {g : List D → Option D} {n : Nat} (h : S[n]? = some (some (.lst xs))) (q : Wo (g (List.map (view S) [.lst xs])) Q) : Wo (g (List.map (view S) [.ref n])) Q := by
  have e : List.map (view S) [.ref n] = List.map (view S) [.lst xs] := by simp only [List.map_cons, List.map_nil, view_at h]; rfl
  rw [e]; exact q
theorem vo_isi {t : PT} {z : D} {c : Bool} (h : t.isOf (view S z) = some c) (q : Q (.bl c)) : Wo (Option.map D.bl (t.isOf (view S z))) Q := by rw [h]; exact ⟨q⟩
theorem vo_isis {t : List PT} {z : D} {c : Bool} (h : isOfs t (view S z) = some c) (q : Q (.bl c)) : Wo (Option.map D.bl (isOfs t (view S z))) Q := by rw [h]; exact ⟨q⟩
variable {a0 a1 a2 a3 a4 a5 a6 : D} {l : List D}
theorem vo_ixL0 (q : Q a0) : Wo (ixD (view S (.lst (a0 :: l))) (view S (.int 0))) Q := wo_ixL0 q
theorem vo_ixL1 (q : Q a1) : Wo (ixD (view S (.lst (a0 :: a1 :: l))) (view S (.int 1))) Q := wo_ixL1 q
theorem vo_ixL2 (q : Q a2) : Wo (ixD (view S (.lst (a0 :: a1 :: a2 :: l))) (view S (.int 2))) Q := wo_ixL2 q
theorem vo_ixL3 (q : Q a3) : Wo (ixD (view S (.lst (a0 :: a1 :: a2 :: a3 :: l))) (view S (.int 3))) Q := wo_ixL3 q
theorem vo_ixL4 (q : Q a4) : Wo (ixD (view S (.lst (a0 :: a1 :: a2 :: a3 :: a4 :: l))) (view S (.int 4))) Q := wo_ixL4 q
theorem vo_ixL5 (q : Q a5) : Wo (ixD (view S (.lst (a0 :: a1 :: a2 :: a3 :: a4 :: a5 :: l))) (view S (.int 5))) Q := wo_ixL5 q
theorem vo_ixL6 (q : Q a6) : Wo (ixD (view S (.lst (a0 :: a1 :: a2 :: a3 :: a4 :: a5 :: a6 :: l))) (view S (.int 6))) Q := wo_ixL6 q
theorem vo_ixT0 (q : Q a0) : Wo (ixD (view S (.tup (a0 :: l))) (view S (.int 0))) Q := wo_ixT0 q
theorem vo_ixT1 (q : Q a1) : Wo (ixD (view S (.tup (a0 :: a1 :: l))) (view S (.int 1))) Q := wo_ixT1 q
theorem vo_ixT2 (q : Q a2) : Wo (ixD (view S (.tup (a0 :: a1 :: a2 :: l))) (view S (.int 2))) Q := wo_ixT2 q
theorem vo_ixT3 (q : Q a3) : Wo (ixD (view S (.tup (a0 :: a1 :: a2 :: a3 :: l))) (view S (.int 3))) Q := wo_ixT3 q
theorem vo_ixT4 (q : Q a4) : Wo (ixD (view S (.tup (a0 :: a1 :: a2 :: a3 :: a4 :: l))) (view S (.int 4))) Q := wo_ixT4 q
theorem vo_ixT5 (q : Q a5) : Wo (ixD (view S (.tup (a0 :: a1 :: a2 :: a3 :: a4 :: a5 :: l))) (view S (.int 5))) Q := wo_ixT5 q
theorem vo_ixT6 (q : Q a6) : Wo (ixD (view S (.tup (a0 :: a1 :: a2 :: a3 :: a4 :: a5 :: a6 :: l))) (view S (.int 6))) Q := wo_ixT6 q
end
theorem gApp {xs : List D} {d : D} (h : xs.length < 16777216) : gAppend xs [d] = some (xs ++ [d], .non) := if_pos (by rw [sizeLine_eq]; exact h)
theorem len10 {α : Type} {l : List α} (h : l.length = 10) : ∃ a0 a1 a2 a3 a4 a5 a6 a7 a8 a9, l = [a0, a1, a2, a3, a4, a5, a6, a7, a8, a9] := match l, h with | [a0, a1, a2, a3, a4, a5, a6, a7, a8, a9], _ => ⟨a0, a1, a2, a3, a4, a5, a6, a7, a8, a9, rfl⟩
section
variable {Q : D → Prop} {S : Sto} {i j : Int}
theorem vo_igAdd (q : Q (.int (i + j))) : Wo (igAdd (view S (.int i)) (view S (.int j))) Q := ⟨q⟩
theorem vo_igMulR (h : -18446744073709551616 < j ∧ j < 18446744073709551616) (q : Q (.int (i * j))) : Wo (igMul (view S (.int i)) (view S (.int j))) Q := .of (if_pos (.inr h)) q
theorem vo_igMulL (h : -18446744073709551616 < i ∧ i < 18446744073709551616) (q : Q (.int (i * j))) : Wo (igMul (view S (.int i)) (view S (.int j))) Q := .of (if_pos (.inl h)) q
end
theorem fq_rt {Q : D → Sto → Prop} {d : D} {S : Sto} (h : Q d S) : fnQ Q (.rt d) S := h
theorem fq_nx {Q : D → Sto → Prop} {ρ : Ev} {S : Sto} (h : Q .non S) : fnQ Q (.nx ρ) S := h
end DL
set_option Elab.async false
set_option linter.all false
set_option maxRecDepth 100000
set_option maxHeartbeats 4000000
namespace DL
open PySem PySem.Spec PyProof.Rows L2
end DL
set_option Elab.async false
set_option linter.all false
set_option maxRecDepth 100000
set_option maxHeartbeats 4000000
namespace DL
open PySem PySem.Spec PyProof.Rows L2
def frzO (S : Sto) (o : Option D) : Option D := match o with
  | some d => if noRef (frzD S d) = true then some (frzD S d) else none
  | none => none
def frzE (S : Sto) (ρ : Ev) : Ev := ρ.map (frzO S)
section
variable {K : PySem.W.Frag} {mg : Str → Option Value} {H : Hp} {m : List Addr} {B : Addr → Prop} {S : Sto} {σ : L2.St} {ρ : Ev}
theorem RepE.frz (r : Rl K mg B m H S) (h : RepE K H (Fo B m S) m σ ρ) : RepE K H (Fo (fun _ => False) [] []) [] σ (frzE S ρ) := by
  refine ⟨by simp [frzE, h.1], fun i d e => ?_⟩
  unfold frzE at e
  rw [List.getElem?_map] at e
  obtain ⟨o, e1, e2⟩ := Option.map_eq_some_iff.mp e
  cases o with
  | none => simp [frzO] at e2
  | some d0 =>
    unfold frzO at e2
    dsimp only at e2
    split at e2
    · rename_i hn
      cases e2
      obtain ⟨v, ev, rv⟩ := h.2 i d0 e1
      have e0 : ∀ a, Fo (fun _ => False) [] [] a → False := fun a z => z.elim id fun ⟨n, o, e1, e2⟩ => by simp at e1
      exact ⟨v, ev, (Rep.frzD r rv hn).noRef (fun a z => e0 a z) hn⟩
    · cases e2
end
end DL
set_option Elab.async false
set_option linter.all false
set_option maxRecDepth 100000
set_option maxHeartbeats 4000000
namespace DL
open PySem PySem.Spec PyProof.Rows L2
end DL
set_option Elab.async false
set_option linter.all false
set_option maxRecDepth 100000
set_option maxHeartbeats 4000000
namespace DL
open PySem PySem.Spec PyProof.Rows L2
end DL
set_option Elab.async false
set_option linter.all false
set_option maxRecDepth 100000
set_option maxHeartbeats 4000000
namespace DL
open PySem PySem.Spec PyProof.Rows L2
def eDNew : Ex := fun _ S => .ok (.ref S.length) (S ++ [some (.dic false [])])
def isDc : D → Bool
  | .dic false _ => true
  | _ => false
def getD2 (d k z : D) : Option D := match d with
  | .dic false kvs => (unK k).map fun kk => (valD kvs kk).getD z
  | _ => none
def eGet2 (o k x : Ex) : Ex := fun ρ S => (o ρ S).bind fun d S => if isDc (view S d) = true then (k ρ S).bind fun y S => (x ρ S).bind fun z S => ans S (getD2 (view S d) y z) else .bad
section
variable {X : Cx} {W : WX} {o e f : Expr} {fo fe ff : Ex} {pos apos cpos tpos : Pos}
def sAugIx (g : D → D → Option D) (o i e : Ex) : Sx := fun ρ S => (o ρ S).bindS ρ fun d S => (i ρ S).bindS ρ fun k S => match dgetD (view S d) k with
  | some x => (e ρ S).bindS ρ fun y S => match g (view S x) (view S y) with
    | some z => match putAtD S d k z with
      | some S' => .fl (.nx ρ) S'
      | none => .bad
    | none => .bad
  | none => .bad
def iVals (e : Ex) : Ix := fun ρ S => (e ρ S).bind fun d S => match d with
  | .dic false kvs => .ok (kvs.map (·.2)) S
  | _ => .bad
def iItems (e : Ex) : Ix := fun ρ S => (e ρ S).bind fun d S => match d with
  | .dic false kvs => .ok (kvs.map fun p => .tup [p.1, p.2]) S
  | _ => .bad
end
end DL
set_option Elab.async false
set_option linter.all false
set_option maxRecDepth 100000
set_option maxHeartbeats 4000000
namespace DL
open PySem PySem.Spec PyProof.Rows L2
def isI (ns : List Int) : List Int := ns.mergeSort fun a b => decide (a ≤ b)
def sortD : List D → Option D
  | [.lst xs] => (asIs xs).map fun ns => .lst ((isI ns).map .int)
  | [.dic false kvs] => if kvs.length < 64 then (asIs (kvs.map (·.1))).map fun ns => .lst ((isI ns).map .int) else none
  | _ => none
def notNon : PyData → Bool
  | .none => false
  | _ => true
def cmpP (x y : D) : Option (PyData × PyData) := (toP x).bind fun p => (toP y).bind fun q => if PySem.W.alike p q = true ∧ notNon p = true ∧ p.depth ≤ 40 then some (p, q) else none
def ltXD : D → D → Option D
  | .int i, .int j => some (.bl (decide (i < j)))
  | x, y => (cmpP x y).map fun z => .bl (PySem.W.dataLt z.1 z.2)
theorem lt_tup0 : PySem.W.dataLt (.tuple []) (.tuple []) = false := by rw [PySem.W.dataLt_tuple]; exact PyProof.Rows.lex_irrefl _
theorem lt_tupI (a b : Int) (xs ys : List PyData) : PySem.W.dataLt (.tuple (.int a :: xs)) (.tuple (.int b :: ys)) = (decide (a < b) || (decide (a = b) && PySem.W.dataLt (.tuple xs) (.tuple ys))) := by
  have ha : PySem.W.alike (.int a) (.int b) = true := by simp [PySem.W.alike]
  rw [PySem.W.dataLt_tuple, PySem.W.dataLt_tuple]
  by_cases h : a = b
  · subst h
    rw [PySem.W.dataLt_all_yes ha (by simp [PyData.eqv])]
    simp
  · rw [PySem.W.dataLt_all_no ha (by simp [PyData.eqv, h]), PySem.W.dataLt_int]
    simp [h]
end DL
set_option Elab.async false
set_option linter.all false
set_option maxRecDepth 100000
set_option maxHeartbeats 4000000
namespace DL
open PySem PySem.Spec PyProof.Rows L2
mutual
inductive Dq (K : PySem.W.Frag) (H : Hp) : V → PyData → Prop
  | non : Dq K H .non .none
  | bl (b : Bool) : Dq K H (.bl b) (.bool b)
  | int (i : Int) : Dq K H (.int i) (.int i)
  | str (x : Str) : Dq K H (.str x) (.str x)
  | lst {a : Addr} {xs : List V} {ds : List PyData} : SqL K H a xs → DqAll K H xs ds → Dq K H (.ref a) (.list ds)
  | tup {a : Addr} {xs : List V} {ds : List PyData} : SqT K H a xs → DqAll K H xs ds → Dq K H (.ref a) (.tuple ds)
  | dic {a : Addr} {kv : List (Key × V)} {kvs : List (PyData × PyData)} : Rd H a (.dK kv) → DqAll K H (kv.map fun p => kV p.1) (kvs.map (·.1)) → DqAll K H (kv.map (·.2)) (kvs.map (·.2)) → Dq K H (.ref a) (.dict kvs)
inductive DqAll (K : PySem.W.Frag) (H : Hp) : List V → List PyData → Prop
  | nil : DqAll K H [] []
  | cons {v : V} {vs : List V} {d : PyData} {ds : List PyData} : Dq K H v d → DqAll K H vs ds → DqAll K H (v :: vs) (d :: ds)
end
/-- sys.modules stands in the written part -/
def sysB (K : PySem.W.Frag) : Bool := match K.lookup sysModules with
  | some ⟨.type c, _, _, _⟩ => decide (c = "dict")
  | _ => false
section
variable {X : Cx} {pins : List (Addr × Obj)} {σ : L2.St} {H : Hp} {s : Shared}
theorem sys_none (I : Inv X pins σ H s) (h : sysB X.K = true) : H sysModules = none ∧ ∃ o, s.heap.get? sysModules = some o ∧ o.cls = .type "dict" := by
  unfold sysB at h
  split at h
  · rename_i c d dt sl e
    have h1 := I.mod.kin _ _ e
    exact ⟨(I.bs _ _ h1).2, _, (I.bs _ _ h1).1, by rw [of_decide_eq_true h]⟩
  · cases h
theorem sys_list (I : Inv X pins σ H s) (h : sysB X.K = true) {a : Addr} {xs : List V} (q : SqL X.K H a xs) : sysModules ≠ a := by
  rintro rfl
  obtain ⟨h1, o, h2, h3⟩ := sys_none I h
  obtain ⟨its, rv, hl, hz⟩ := I.list q
  obtain ⟨o', n, e1, e2, _⟩ := hl
  rw [h2] at e1
  cases e1
  rw [h3] at e2
  injection e2 with e2
  exact absurd e2 (by decide)
mutual
theorem Dq.reads (I : Inv X pins σ H s) (hs : sysB X.K = true) : ∀ {v : V} {d : PyData} {u : Value}, Dq X.K H v d → RelV v u → ∃ as, Reads s.heap u d as ∧ sysModules ∉ as
  | _, _, _, .non, r => by cases r; exact ⟨_, .none, by simp⟩
  | _, _, _, .bl b, r => by cases r; exact ⟨_, .bool b, by simp⟩
  | _, _, _, .int i, r => by obtain ⟨t, rfl⟩ := r; exact ⟨_, .int i t, by simp⟩
  | _, _, _, .str x, r => by obtain ⟨t, rfl⟩ := r; exact ⟨_, .str x t, by simp⟩
  | _, _, _, .lst hq ha, r => by
    cases r
    obtain ⟨its, rv, ⟨o, n, ho, hc, _, hd⟩, _⟩ := I.list hq
    obtain ⟨as, hr, hn⟩ := DqAll.reads I hs ha rv
    refine ⟨_, Reads.list ho hc hd hr, ?_⟩
    simp only [List.mem_cons, not_or]
    exact ⟨sys_list I hs hq, hn⟩
  | _, _, _, .tup hq ha, r => by
    cases r
    obtain ⟨its, rv, ⟨o, ho, hc, n, hd⟩, _⟩ := I.tuple hq
    obtain ⟨as, hr, hn⟩ := DqAll.reads I hs ha rv
    exact ⟨_, Reads.tuple ho hc hd hr, hn⟩
  | _, _, _, .dic (a := a) (kv := kv) hq hk hv, r => by
    obtain rfl : _ = Value.ref a := r
    obtain ⟨z, hne, vs, rel, o, es, ep, h1, h2, h3, h4, h5, h6⟩ := dk_rd I.hok hq
    have r1 : Vals (kv.map fun p => kV p.1) (es.toList.map (·.key)) := by
      have : ∀ {kv : List (Key × V)} {vs : List (Key × Value)} {es : List DictEntry}, KV kv vs → Pairs (mixKind X.prog X.w) es vs → Vals (kv.map fun p => kV p.1) (es.map (·.key)) := by
        intro kv vs es a b
        induction a generalizing es with
        | nil => cases b; exact .nil
        | cons hp _ ih =>
          cases b with
          | cons b1 b2 b3 =>
            refine .cons ?_ (ih b3)
            show L2.RelV (kV _) _
            rw [hp.1]
            exact relV_key b1
      exact this rel h5
    have r2 : Vals (kv.map (·.2)) (es.toList.map (·.val)) := by
      have : ∀ {kv : List (Key × V)} {vs : List (Key × Value)} {es : List DictEntry}, KV kv vs → Pairs (mixKind X.prog X.w) es vs → Vals (kv.map (·.2)) (es.map (·.val)) := by
        intro kv vs es a b
        induction a generalizing es with
        | nil => cases b; exact .nil
        | cons hp _ ih =>
          cases b with
          | cons b1 b2 b3 =>
            refine .cons ?_ (ih b3)
            exact (congrArg (fun z => L2.RelV _ z) b2).mpr hp.2
      exact this rel h5
    obtain ⟨as, q1, n1⟩ := DqAll.reads I hs hk r1
    obtain ⟨bs, q2, n2⟩ := DqAll.reads I hs hv r2
    refine ⟨_, Reads.dict h1 h2.1 h3 q1 q2, ?_⟩
    simp only [List.cons_append, List.mem_cons, List.mem_append, not_or]
    exact ⟨fun e => by rw [← e] at hne; simp at hne, n1, n2⟩
theorem DqAll.reads (I : Inv X pins σ H s) (hs : sysB X.K = true) : ∀ {vs : List V} {ds : List PyData} {us : List Value}, DqAll X.K H vs ds → Vals vs us → ∃ as, ReadsAll s.heap us ds as ∧ sysModules ∉ as
  | _, _, _, .nil, r => by cases r; exact ⟨_, .nil, by simp⟩
  | _, _, _, .cons h1 h2, r => by
    cases r with
    | cons r1 r2 =>
      obtain ⟨as, q1, n1⟩ := Dq.reads I hs h1 r1
      obtain ⟨bs, q2, n2⟩ := DqAll.reads I hs h2 r2
      exact ⟨_, .cons q1 q2, by simp only [List.mem_append, not_or]; exact ⟨n1, n2⟩⟩
end
end
def keyP : D → Option PyData
  | .int i => some (.int i)
  | .str x => some (.str x)
  | _ => none
mutual
/-- as data, the places read by r -/
def toQr (r : Nat → Option PyData) : D → Option PyData
  | .non => some .none
  | .bl b => some (.bool b)
  | .int i => some (.int i)
  | .str x => some (.str x)
  | .tup xs => (toQrs r xs).map .tuple
  | .lst xs => (toQrs r xs).map .list
  | .dic false kvs => (toQrk r kvs).map .dict
  | .ref n => r n
  | _ => none
def toQrs (r : Nat → Option PyData) : List D → Option (List PyData)
  | [] => some []
  | d :: ds => match toQr r d, toQrs r ds with
    | some p, some ps => some (p :: ps)
    | _, _ => none
def toQrk (r : Nat → Option PyData) : List (D × D) → Option (List (PyData × PyData))
  | [] => some []
  | (k, d) :: ds => match keyP k, toQr r d, toQrk r ds with
    | some q, some p, some ps => some ((q, p) :: ps)
    | _, _, _ => none
end
def rdQ (S : Sto) (n : Nat) : Option PyData := match S[n]? with
  | some (some (.lst xs)) => (toQrs (fun _ => none) xs).map .list
  | some (some (.dic false kvs)) => (toQrk (fun _ => none) kvs).map .dict
  | _ => none
def toQ (S : Sto) : D → Option PyData := toQr (rdQ S)
def reprQ (S : Sto) (d : D) : Option D := (toQ S d).bind fun p => if showsD p = true then some (.str p.shown) else none
def eReprQ (f : Ex) : Ex := fun ρ S => (f ρ S).bind fun d S => ans S (reprQ S d)
section
variable {K : PySem.W.Frag} {H : Hp} {Fb : Addr → Prop} {m : List Addr}
theorem key_dq {v : V} {d : D} {k : Key} {p : PyData} (e1 : d = keyD k) (e2 : keyP d = some p) : Dq K H (kV k) p := by
  subst e1
  cases k <;> cases e2
  · exact .int _
  · exact .str _
theorem keys_dq {r : Nat → Option PyData} : ∀ {kv : List (Key × V)} {kvs : List (D × D)} {ps : List (PyData × PyData)}, kvs.map (·.1) = kv.map (fun p => keyD p.1) → toQrk r kvs = some ps → DqAll K H (kv.map fun p => kV p.1) (ps.map (·.1))
  | [], [], ps, _, e => by simp [toQrk] at e; subst e; exact .nil
  | [], _ :: _, _, h, _ => by simp at h
  | _ :: _, [], _, h, _ => by simp at h
  | (k, v) :: kv, (x, d) :: kvs, ps, h, e => by
    simp only [List.map_cons, List.cons.injEq] at h
    cases e0 : keyP x with
    | none => simp [toQrk, e0] at e
    | some kp =>
      cases e1 : toQr r d with
      | none => simp [toQrk, e0, e1] at e
      | some p =>
        cases e2 : toQrk r kvs with
        | none => simp [toQrk, e0, e1, e2] at e
        | some ps' =>
          simp [toQrk, e0, e1, e2] at e
          subst e
          exact .cons (key_dq (v := v) h.1 e0) (keys_dq h.2 e2)
mutual
theorem Rep.dq {r : Nat → Option PyData} (hr : ∀ n v p, Rep K H Fb m v (.ref n) → r n = some p → Dq K H v p) : ∀ {v : V} {d : D} {p : PyData}, Rep K H Fb m v d → toQr r d = some p → Dq K H v p
  | _, _, _, .non, e => by simp [toQr] at e; subst e; exact .non
  | _, _, _, .bl b, e => by simp [toQr] at e; subst e; exact .bl b
  | _, _, _, .int i, e => by simp [toQr] at e; subst e; exact .int i
  | _, _, _, .str x, e => by simp [toQr] at e; subst e; exact .str x
  | _, _, _, .tup (ds := ds) h z q, e => by
    cases e1 : toQrs r ds with
    | none => simp [toQr, e1] at e
    | some ps => simp [toQr, e1] at e; subst e; exact .tup h (RepA.dq hr q e1)
  | _, _, _, .lst (ds := ds) h f z q, e => by
    cases e1 : toQrs r ds with
    | none => simp [toQr, e1] at e
    | some ps => simp [toQr, e1] at e; subst e; exact .lst (SqL.of h) (RepA.dq hr q e1)
  | _, _, _, .dK (kv := kv) (kvs := kvs) h z e0 q, e => by
    cases e1 : toQrk r kvs with
    | none => simp [toQr, e1] at e
    | some ps =>
      simp [toQr, e1] at e
      subst e
      have := RepA.dqk hr q kvs rfl e1
      exact .dic (.inr h) (keys_dq e0 e1) this
  | _, _, _, .dT h z q r', e => by simp [toQr] at e
  | _, _, _, .ref h, e => by simp only [toQr] at e; exact hr _ _ _ (.ref h) e
  | _, _, _, .raw v, e => by simp [toQr] at e
  | _, _, _, .scr h z, e => by simp [toQr] at e
  | _, _, _, .exn h f, e => by simp [toQr] at e
  | _, _, _, .exp h f h2 f2 n r, e => by simp [toQr] at e
theorem RepA.dq {r : Nat → Option PyData} (hr : ∀ n v p, Rep K H Fb m v (.ref n) → r n = some p → Dq K H v p) : ∀ {vs : List V} {ds : List D} {ps : List PyData}, RepA K H Fb m vs ds → toQrs r ds = some ps → DqAll K H vs ps
  | _, _, _, .nil, e => by simp [toQrs] at e; subst e; exact .nil
  | _, _, _, .cons (d := d) (ds := ds) h q, e => by
    cases e1 : toQr r d with
    | none => simp [toQrs, e1] at e
    | some p =>
      cases e2 : toQrs r ds with
      | none => simp [toQrs, e1, e2] at e
      | some ps => simp [toQrs, e1, e2] at e; subst e; exact .cons (Rep.dq hr h e1) (RepA.dq hr q e2)
theorem RepA.dqk {r : Nat → Option PyData} (hr : ∀ n v p, Rep K H Fb m v (.ref n) → r n = some p → Dq K H v p) : ∀ {vs : List V} {ds : List D}, RepA K H Fb m vs ds → ∀ (kvs : List (D × D)) {ps : List (PyData × PyData)}, ds = kvs.map (·.2) → toQrk r kvs = some ps → DqAll K H vs (ps.map (·.2))
  | _, _, .nil, kvs, ps, ed, e => by
    cases kvs with
    | nil => simp [toQrk] at e; subst e; exact .nil
    | cons _ _ => simp at ed
  | _, _, .cons (d := d) (ds := ds) h q, kvs, ps, ed, e => by
    cases kvs with
    | nil => simp at ed
    | cons kd kvs =>
      obtain ⟨k, d'⟩ := kd
      simp only [List.map_cons, List.cons.injEq] at ed
      obtain ⟨ed1, ed2⟩ := ed
      rw [toQrk, ← ed1] at e
      cases e0 : keyP k with
      | none => simp [e0] at e
      | some kp =>
        cases e1 : toQr r d with
        | none => simp [e0, e1] at e
        | some p =>
          cases e2 : toQrk r kvs with
          | none => simp [e0, e1, e2] at e
          | some ps' => simp [e0, e1, e2] at e; subst e; exact .cons (Rep.dq hr h e1) (RepA.dqk hr q kvs ed2 e2)
end
theorem rdQ_ok {mg : Str → Option Value} {B : Addr → Prop} {S : Sto} (rl : Rl K mg B m H S) : ∀ n v p, Rep K H (Fo B m S) m v (.ref n) → rdQ S n = some p → Dq K H v p := by
  intro n v p h e
  have h0 : ∀ n v p, Rep K H (Fo B m S) m v (.ref n) → (fun _ => none : Nat → Option PyData) n = some p → Dq K H v p := fun _ _ _ _ z => by cases z
  unfold rdQ at e
  cases h with
  | ref hn =>
    split at e
    · rename_i xs ex
      cases e1 : toQrs (fun _ => none) xs with
      | none => rw [e1] at e; cases e
      | some ps =>
        rw [e1] at e
        cases e
        cases rl.obj _ _ _ hn ex with
        | lst h z q => exact .lst (SqL.of h) (q.dq h0 e1)
    · rename_i kvs ex
      cases e1 : toQrk (fun _ => none) kvs with
      | none => rw [e1] at e; cases e
      | some ps =>
        rw [e1] at e
        cases e
        cases rl.obj _ _ _ hn ex with
        | dK h z e0 q => exact .dic (.inl h) (keys_dq e0 e1) (q.dqk h0 kvs rfl e1)
    · cases e
end
def rReprQ (K : PySem.W.Frag) : List V → Hp → VK → Prop := fun xs H Q => ∃ v p, xs = [v] ∧ Dq K H v p ∧ showsD p = true ∧ Q (.str p.shown) H
section
variable {X : Cx} {W : WX} {k : Nat}
theorem call_reprQ (hsy : sysB X.K = true) (hr : DL.Room k X.A) : CallR X (.builtin "repr") (rReprQ X.K) := by
  intro pins s σ H xs us Q I r ⟨v, p, e, hp, hs, q⟩
  subst e
  obtain ⟨u, rfl, rv⟩ := vals1 r
  have h1 := Bool.and_eq_true_iff.mp hs
  have h2 := Bool.and_eq_true_iff.mp h1.1
  have hd := of_decide_eq_true h2.2
  have hz := of_decide_eq_true h1.2
  have hz' : p.shown.length ≤ sizeLine := by rw [sizeLine_eq]; omega
  have hun := hr.r.un
  obtain ⟨as0, rd0, ns0⟩ := Dq.reads I hsy hp rv
  have big : ∀ a, u = .ref a → wpAny (model X.prog X.w) X.A (call (.builtin "repr") [u]) (EP X pins σ Q) X.xe s := by
    rintro a rfl
    exact repr_of_reads' rd0 h2.1 (fun _ => ns0) hr.g (by omega) (fun _ _ z => z) (fun h' t tk kp => ⟨.str p.shown, H, I.kept kp, ⟨_, rfl⟩, q⟩) hz'
  cases hp with
  | non =>
    cases rv
    exact PySem.P.repr_of_none ⟨.str "None", H, I.tok _, ⟨_, rfl⟩, q⟩
  | bl b =>
    cases rv
    exact PySem.P.repr_of_bool ⟨.str _, H, I.tok _, ⟨_, rfl⟩, q⟩
  | int i =>
    obtain ⟨t, rfl⟩ := rv
    exact PySem.P.repr_of_int (by simpa [PyData.showable] using h2.1) ⟨.str _, H, I.tok _, ⟨_, rfl⟩, q⟩
  | str x =>
    obtain ⟨t, rfl⟩ := rv
    exact PySem.P.repr_of_str (hsz := hz') ⟨.str _, H, I.tok _, ⟨_, rfl⟩, q⟩
  | lst _ _ => exact big _ rv
  | tup _ _ => exact big _ rv
  | dic _ _ _ => exact big _ rv
theorem ev_reprQ {e : Expr} {fe : Ex} {p pos : Pos} (hsy : sysB X.K = true) (hr : DL.Room k X.A) (hg : Gl X "repr") (hm : X.mg "repr" = none) (he : EV X W e fe) (hv : bootBuiltins "repr" = some (.builtin "repr") := by decide +kernel)
    (hs : starEach [e] X.env = (false, eval e X.env) :: starEach [] X.env := by rfl) (hpl : (backTo pos (starEach [] X.env)).any (·.1) = false := by rfl) : EV X W (.Call (.Name "repr" p) [e] [] pos) (eReprQ fe) := by
  refine pe_imp (pe_callB (call_reprQ hsy hr) hg hm hv (pa_cons he pa_nil hs) (by decide) (by decide) hs hpl) fun σ H Q h => ?_
  obtain ⟨B, m, ρ, S, r, re, f⟩ := up_one (g := fun x ρ S => ans S (reprQ S x)) h
  refine ⟨B, m, ρ, S, r, re, f.mono fun v H1 => ?_⟩
  rintro ⟨B, m, ρ, S, dx, r, re, rx, f⟩
  cases e1 : toQ S dx with
  | none => simp [reprQ, e1] at f; exact f.elim
  | some p =>
    by_cases hs : showsD p = true
    · simp only [reprQ, e1, Option.bind, hs, if_true] at f
      exact ⟨v, p, rfl, Rep.dq (rdQ_ok r) rx e1, hs, f m H1 _ (Post.refl r) (.str _)⟩
    · simp only [reprQ, e1, Option.bind, if_neg hs] at f
      exact f.elim
end
mutual
def smP : PyData → Bool
  | .none => true
  | .bool _ => true
  | .int i => decide (i.natAbs < 10 ^ 50)
  | .str _ => true
  | .tuple xs => smPs xs
  | .list xs => smPs xs
  | .dict kvs => smPk kvs
def smPs : List PyData → Bool
  | [] => true
  | d :: ds => smP d && smPs ds
def smPk : List (PyData × PyData) → Bool
  | [] => true
  | (k, d) :: ds => smP k && smP d && smPk ds
end
mutual
def wtP : PyData → Nat
  | .tuple xs => 1 + wtPs xs
  | .list xs => 1 + wtPs xs
  | .dict kvs => 1 + wtPk kvs
  | .str x => 1 + (reprText x).length / 15
  | _ => 1
def wtPs : List PyData → Nat
  | [] => 0
  | d :: ds => wtP d + wtPs ds
def wtPk : List (PyData × PyData) → Nat
  | [] => 0
  | (k, d) :: ds => wtP k + wtP d + wtPk ds
end
mutual
theorem small_P : ∀ p : PyData, smP p = true → p.showable = true ∧ p.depth ≤ wtP p ∧ p.shown.length + 2 ≤ 64 * wtP p
  | .none, _ => ⟨by simp [PyData.showable], by simp [PyData.depth, wtP], by simp only [PyData.shown, wtP]; decide⟩
  | .bool b, _ => ⟨by simp [PyData.showable], by simp [PyData.depth, wtP], by cases b <;> simp only [PyData.shown, wtP] <;> decide⟩
  | .int i, h => by
    have hi : i.natAbs < 10 ^ 50 := of_decide_eq_true h
    refine ⟨?_, by simp [PyData.depth, wtP], ?_⟩
    · simp only [PyData.showable]
      exact decide_eq_true (log2_small hi)
    · have h3 := int_text_length_le10 (k := 50) (by decide) hi
      have h4 : (PyData.shown (.int i)).length = (toString i).length := by
        show (Str.ofString (toString i)).length = _
        rw [PySem.ofString_length]
      simp only [wtP]
      omega
  | .str x, h => by
    refine ⟨by simp [PyData.showable], by simp [PyData.depth, wtP], ?_⟩
    simp only [PyData.shown, wtP]
    omega
  | .tuple ps, h => by
    obtain ⟨h1, h2, h3⟩ := small_Ps ps h
    have := tupleText_len_le (PyData.shownAll ps)
    have hl := PyData.shownAll_length ps
    refine ⟨by simpa [PyData.showable] using h1, by simp only [PyData.depth, wtP]; omega, ?_⟩
    simp only [PyData.shown, wtP]
    omega
  | .list ps, h => by
    obtain ⟨h1, h2, h3⟩ := small_Ps ps h
    have := listText_len_le (PyData.shownAll ps)
    have hl := PyData.shownAll_length ps
    refine ⟨by simpa [PyData.showable] using h1, by simp only [PyData.depth, wtP]; omega, ?_⟩
    simp only [PyData.shown, wtP]
    omega
  | .dict ps, h => by
    obtain ⟨h1, h2, h3⟩ := small_Pk ps h
    have := dictText_len_le (PyData.shownKv ps)
    refine ⟨by simpa [PyData.showable] using h1, by simp only [PyData.depth, wtP]; omega, ?_⟩
    simp only [PyData.shown, wtP]
    omega
theorem small_Ps : ∀ ps : List PyData, smPs ps = true → PyData.showableAll ps = true ∧ PyData.depthAll ps ≤ wtPs ps ∧ ((PyData.shownAll ps).map (·.length)).sum + 2 * ps.length ≤ 64 * wtPs ps
  | [], _ => ⟨by simp [PyData.showableAll], by simp [PyData.depthAll, wtPs], by simp [PyData.shownAll, wtPs]⟩
  | p :: ps, h => by
    simp only [smPs, Bool.and_eq_true] at h
    obtain ⟨a1, a2, a3⟩ := small_P p h.1
    obtain ⟨b1, b2, b3⟩ := small_Ps ps h.2
    refine ⟨by simp [PyData.showableAll, a1, b1], by simp only [PyData.depthAll, wtPs]; omega, ?_⟩
    simp only [PyData.shownAll, List.map_cons, List.sum_cons, List.length_cons, wtPs]
    omega
theorem small_Pk : ∀ ps : List (PyData × PyData), smPk ps = true → PyData.showableKv ps = true ∧ PyData.depthKv ps ≤ wtPk ps ∧ ((PyData.shownKv ps).map (·.length)).sum + 2 * (PyData.shownKv ps).length ≤ 64 * wtPk ps
  | [], _ => ⟨by simp [PyData.showableKv], by simp [PyData.depthKv, wtPk], by simp [PyData.shownKv, wtPk]⟩
  | (k, p) :: ps, h => by
    simp only [smPk, Bool.and_eq_true] at h
    obtain ⟨a1, a2, a3⟩ := small_P k h.1.1
    obtain ⟨c1, c2, c3⟩ := small_P p h.1.2
    obtain ⟨b1, b2, b3⟩ := small_Pk ps h.2
    refine ⟨by simp [PyData.showableKv, a1, c1, b1], by simp only [PyData.depthKv, wtPk]; omega, ?_⟩
    simp only [PyData.shownKv, List.map_cons, List.sum_cons, List.length_cons, wtPk]
    have e : (PyData.shown k ++ ": " ++ PyData.shown p).length = (PyData.shown k).length + 2 + (PyData.shown p).length := by
      rw [strLen_append, strLen_append]; rfl
    omega
end
theorem rep_smallQ {S : Sto} {d : D} {p : PyData} (e : toQ S d = some p) (h : smP p = true) (hw : wtP p ≤ 200000) (hd : p.depth ≤ 40) : reprQ S d = some (.str p.shown) := by
  obtain ⟨h1, h2, h3⟩ := small_P p h
  have hs : showsD p = true := by
    unfold showsD
    rw [h1, decide_eq_true (show p.depth ≤ 40 by omega), decide_eq_true (show p.shown.length ≤ 16000000 by omega)]
    rfl
  simp only [reprQ, e, Option.bind, hs, if_true]
end DL
set_option Elab.async false
set_option linter.all false
set_option maxRecDepth 100000
set_option maxHeartbeats 4000000
namespace DL
open PySem PySem.Spec PyProof.Rows L2
end DL
set_option Elab.async false
set_option linter.all false
set_option maxRecDepth 100000
set_option maxHeartbeats 4000000
namespace DL
open PySem PySem.Spec PyProof.Rows L2
abbrev AlY : Type := He.AlD × Bool
/-- the things at these places -/
def pick {α : Type} (is : List Nat) (xs : List α) : List α := is.filterMap fun i => xs[i]?
theorem vals_at : ∀ {vs : List V} {us : List Value}, Vals vs us → ∀ (i : Nat) (h : i < vs.length) (h2 : i < us.length), RelV vs[i] us[i]
  | _, _, .cons r q, 0, _, _ => r
  | _, _, .cons r q, i + 1, h, h2 => vals_at q i (by simpa using h) (by simpa using h2)
theorem pick_vals {vs : List V} {us : List Value} (r : Vals vs us) : ∀ is : List Nat, Vals (pick is vs) (pick is us)
  | [] => .nil
  | i :: is => by
    have hl := r.length
    unfold pick
    by_cases h : i < vs.length
    · have h2 : i < us.length := by omega
      rw [List.filterMap_cons_some (List.getElem?_eq_getElem h), List.filterMap_cons_some (List.getElem?_eq_getElem h2)]
      exact .cons (vals_at r i h h2) (pick_vals r is)
    · rw [List.filterMap_cons_none (List.getElem?_eq_none (by omega)), List.filterMap_cons_none (List.getElem?_eq_none (by omega))]
      exact pick_vals r is
theorem pick_rep {K : PySem.W.Frag} {H : Hp} {Fb : Addr → Prop} {m : List Addr} {vs : List V} {ds : List D} (r : RepA K H Fb m vs ds) : ∀ is : List Nat, RepA K H Fb m (pick is vs) (pick is ds)
  | [] => .nil
  | i :: is => by
    have hl := r.length
    unfold pick
    by_cases h : i < ds.length
    · obtain ⟨v, e, q⟩ := r.get (List.getElem?_eq_getElem h)
      rw [List.filterMap_cons_some e, List.filterMap_cons_some (List.getElem?_eq_getElem h)]
      exact .cons q (pick_rep r is)
    · rw [List.filterMap_cons_none (List.getElem?_eq_none (by omega)), List.filterMap_cons_none (List.getElem?_eq_none (by omega))]
      exact pick_rep r is
theorem pick_len {α : Type} {xs : List α} : ∀ is : List Nat, (∀ i ∈ is, i < xs.length) → (pick is xs).length = is.length
  | [], _ => rfl
  | i :: is, h => by
    have := pick_len is fun j hj => h j (by simp [hj])
    unfold pick at this ⊢
    rw [List.filterMap_cons_some (List.getElem?_eq_getElem (h i (by simp)))]
    simp [this]
def eFnK (F : Fn) (is : List Nat) (dd : List D) (fs gs : List Ex) : Ex := fun ρ S => (evL fs ρ S).bind fun us S => (evL gs ρ S).bind fun zs S => F (pick is (us ++ (zs ++ dd))) S
def OkFK (P : Program) (w : World) (K : PySem.W.Frag) (mg : Str → Option Value) (base : Heap) (x : Str) (ps : List Str) (n : Nat) (ks : List Str) (is : List Nat) (mv : List V) (k : Nat) (F : Fn) : Prop :=
  ∃ fd mu, DL.FnOk P w K mg base (L2.CX P w) k (He.ga K x) fd ps (spD K mg ps.length F) ∧ Vals mv mu ∧ (∀ (s : Shared) (us ws : List Value), K.In s.heap → us.length = n → ws.length = ks.length → BindsTo s fd ⟨us, ks.zip ws⟩ (ps.zip (pick is (us ++ (ws ++ mu))))) ∧
    mg x = some (.ref (He.ga K x)) ∧ PySem.W.keepIn K (.ref (He.ga K x)) = true ∧ is.length = ps.length ∧ ∀ i ∈ is, i < n + (ks.length + mv.length)
section
variable {X : Cx} {CX : CXT} {k n : Nat} {f : Addr} {fd : FuncData} {ps ks : List Str} {sp : Sp} {E : L2.St → XK} {x : Str} {p pos : Pos} {e : Expr} {es : List Expr} {kws : List Keyword} {t tk : TA} {mu : List Value} {mv : List V} {is : List Nat}
theorem run_callK {pins : List (Addr × Obj)} {σ : L2.St} {H : Hp} {s : Shared} {Q : VK} {us ws : List Value} {vs zs : List V} (F : DL.FnOk X.prog X.w X.K X.mg X.base CX k f fd ps sp) (room : DL.Room k X.A) (hd : Vals mv mu)
    (bi : ∀ (s : Shared) (us ws : List Value), X.K.In s.heap → us.length = n → ws.length = ks.length → BindsTo s fd ⟨us, ks.zip ws⟩ (ps.zip (pick is (us ++ (ws ++ mu))))) (pass : PassesAt CX X σ (E σ))
    (J : Inv X pins σ H s) (rel : Vals vs us) (rz : Vals zs ws) (l1 : vs.length = n) (l2 : zs.length = ks.length) (want : sp (pick is (vs ++ (zs ++ mv))) H Q (E σ)) : wpAny (model X.prog X.w) X.A (call (.ref f) us (ks.zip ws)) (EP X pins σ Q) X.xe s := by
  have rel2 := pick_vals (rel.append (rz.append hd)) is
  refine wpAny_call (codeAny_mono (F.run X.A X.stack s H ⟨us, ks.zip ws⟩ _ _ Q (E σ) room J.env0 (bi s us ws J.kIn (rel.length.symm.trans l1) (rz.length.symm.trans l2)) rel2 want) ?_)
  intro res s2 hres
  match res, hres with
  | .ok (.ret u), hres => exact J.after hres
  | .ok .next, hres => exact False.elim hres
  | .ok .brk, hres => exact False.elim hres
  | .ok .cont, hres => exact False.elim hres
  | .error er, hres => exact pass pins H s er s2 J hres
def tCallH (sp : Sp) (n m : Nat) (is : List Nat) (mv : List V) (E : L2.St → XK) (t tk : TA) : TE := fun σ H Q => t σ H fun vs H1 => tk σ H1 fun zs H2 => vs.length = n ∧ zs.length = m ∧ sp (pick is (vs ++ (zs ++ mv))) H2 Q (E σ)
theorem pe_callH1 (F : DL.FnOk X.prog X.w X.K X.mg X.base CX k f fd ps sp) (room : DL.Room k X.A) (hg : Gl X x) (hm : X.mg x = some (.ref f)) (hk : PySem.W.keepIn X.K (.ref f) = true) (hd : Vals mv mu)
    (bi : ∀ (s : Shared) (us ws : List Value), X.K.In s.heap → us.length = n → ws.length = ks.length → BindsTo s fd ⟨us, ks.zip ws⟩ (ps.zip (pick is (us ++ (ws ++ mu))))) (pass : ∀ σ, PassesAt CX X σ (E σ))
    (ha : PA X (e :: es) t) (hkw : PK X kws tk) (hall : (backToKw pos (keywordEach kws X.env)).all (·.1.isSome) = true := by rfl) (hks : (backToKw pos (keywordEach kws X.env)).filterMap (·.1) = ks := by rfl)
    (hdb : (x == ("__debug__" : Str)) = false := by decide) (he : starEach (e :: es) X.env = (false, eval e X.env) :: starEach es X.env := by rfl)
    (hpl : ((backTo pos (starEach (e :: es) X.env)).any (·.1) || (backToKw pos (keywordEach kws X.env)).any (·.1.isNone)) = false := by rfl) :
    PE X (.Call (.Name x p) (e :: es) kws pos) (tCallH sp n ks.length is mv E t tk) := by
  refine ⟨fun pins s σ H Q I h => ?_⟩
  refine wpAny_Call_Name_kw (ld_glob I hg hm ?_ hdb)
  refine PySem.W.callWith_KW (h₀ := X.base) I.ok.mod.kin hk hall (thn (ha.run pos pins s σ H _ I h) fun us s1 ⟨vs, H1, I1, r, q⟩ => ?_) hpl he
  refine thn (hkw.run pos pins s1 σ H1 _ I1 q) fun ws s2 ⟨zs, H2, I2, rz, l1, l2, q2⟩ => ⟨I2.kIn, ?_⟩
  rw [hks]
  exact run_callK F room hd bi (pass σ) I2 r rz l1 l2 q2
end
section
variable {X : Cx} {W : WX} {x : Str} {ps ks : List Str} {k j n : Nat} {F : Fn} {p pos : Pos} {e : Expr} {es : List Expr} {kws : List Keyword} {fs gs : List Ex} {mv : List V} {dd : List D} {is : List Nat}
/-- the keywords' expressions -/
def KVA (X : Cx) (W : WX) (kws : List Keyword) (gs : List Ex) : Prop := PK X kws (upA X.K X.mg W (evL gs))
theorem ka_nil : KVA X W [] [] := ⟨fun pos pins s σ H Q I h => pk_nil.run pos pins s σ H Q I (upA_nil h)⟩
theorem ka_cons {f : Ex} {nm : Option Str} {kpos : Pos} (he : EV X W e f) (hr : KVA X W kws gs) : KVA X W (⟨nm, e, kpos⟩ :: kws) (f :: gs) := ⟨fun pos pins s σ H Q I h => (pk_cons he hr).run pos pins s σ H Q I (upA_cons h)⟩
theorem upH (hd : ∀ H Fb m, RepA X.K H Fb m mv dd) (tk : Takes X W) (hn : fs.length = n) (hm : gs.length = ks.length) (hi : is.length = ps.length) (hj : ∀ i ∈ is, i < n + (ks.length + mv.length)) {σ : L2.St} {H : Hp} {Q : VK} (h : up X.K X.mg W (eFnK F is dd fs gs) σ H Q) :
    tCallH (spD X.K X.mg ps.length F) n ks.length is mv (fun σ => WE W σ) (upA X.K X.mg W (evL fs)) (upA X.K X.mg W (evL gs)) σ H Q := by
  obtain ⟨B, m, ρ, S, r, re, g⟩ := h
  refine ⟨B, m, ρ, S, r, re, ?_⟩
  have g' : fin X.K X.mg W B m S σ H ((evL fs ρ S).bind fun us S => (evL gs ρ S).bind fun zs S => F (pick is (us ++ (zs ++ dd))) S) Q := g
  cases e1 : evL fs ρ S with
  | bad => rw [e1] at g'; exact g'.elim
  | exc c p S1 => rw [e1] at g'; exact g'
  | ok us S1 =>
    rw [e1] at g'
    intro m1 H1 vs po q
    refine ⟨B, m1, ρ, S1, po.rl, re.kp (po.kp r), ?_⟩
    have g2 : fin X.K X.mg W B m1 S1 σ H1 ((evL gs ρ S1).bind fun zs S => F (pick is (us ++ (zs ++ dd))) S) Q := fin.later po g'
    cases e2 : evL gs ρ S1 with
    | bad => rw [e2] at g2; exact g2.elim
    | exc c p S2 => rw [e2] at g2; exact g2
    | ok zs S2 =>
      rw [e2] at g2
      intro m2 H2 ws po2 q2
      have l1 : vs.length = n := by rw [q.length, evL_len _ _ _ _ _ e1, hn]
      have l2 : ws.length = ks.length := by rw [q2.length, evL_len _ _ _ _ _ e2, hm]
      refine ⟨l1, l2, B, m2, S2, pick is (us ++ (zs ++ dd)), po2.rl, pick_rep ((q.kp (po2.kp po.rl)).append (q2.append (hd _ _ _))) is, ?_, fin_call (fin.later po2 g2)⟩
      rw [pick_len is fun i hh => ?_, hi]
      have := hj i hh
      simp only [List.length_append]
      omega
theorem ev_fnK (O : OkFK X.prog X.w X.K X.mg X.base x ps n ks is mv k F) (hd : ∀ H Fb m, RepA X.K H Fb m mv dd) (hr : DL.Room j X.A) (hg : Gl X x) (tk : Takes X W) (ha : EVA X W (e :: es) fs) (hkw : KVA X W kws gs) (hj : k ≤ j := by omega) (hn : fs.length = n := by rfl) (hm' : gs.length = ks.length := by rfl)
    (hall : (backToKw pos (keywordEach kws X.env)).all (·.1.isSome) = true := by rfl) (hks : (backToKw pos (keywordEach kws X.env)).filterMap (·.1) = ks := by rfl)
    (hdb : (x == ("__debug__" : Str)) = false := by decide) (he : starEach (e :: es) X.env = (false, eval e X.env) :: starEach es X.env := by rfl)
    (hpl : ((backTo pos (starEach (e :: es) X.env)).any (·.1) || (backToKw pos (keywordEach kws X.env)).any (·.1.isNone)) = false := by rfl) :
    EV X W (.Call (.Name x p) (e :: es) kws pos) (eFnK F is dd fs gs) := by
  obtain ⟨fd, mu, FO, rd, bi, hm, hk, hi, hjj⟩ := O
  exact pe_imp (pe_callH1 (p := p) (FO.mono hj) hr hg hm hk rd bi (fun σ => passAt tk σ) ha hkw hall hks hdb he hpl) fun σ H Q h => upH hd tk hn hm' hi hjj h
end
end DL
set_option Elab.async false
set_option linter.all false
set_option maxRecDepth 100000
set_option maxHeartbeats 4000000
namespace DL
open PySem PySem.Spec PyProof PyProof.Rows L2 HT
def igAddA : D → D → Option D
  | .int i, .int j => some (.int (i + j))
  | .tup xs, .tup ys => if xs.length + ys.length ≤ sizeLine then some (.tup (xs ++ ys)) else none
  | _, _ => none
end DL
set_option Elab.async false
set_option linter.all false
set_option maxRecDepth 100000
set_option maxHeartbeats 4000000
namespace L2
open PySem PySem.Spec PyProof.Rows
end L2
namespace DL
open PySem PySem.Spec PyProof.Rows L2
end DL
set_option Elab.async false
set_option linter.all false
set_option maxRecDepth 100000
set_option maxHeartbeats 4000000
namespace DL
open PySem PySem.Spec PyProof.Rows L2
abbrev TB := List (Int × Int)
def kI (l : TB) : List (D × D) := l.map fun p => (.int p.1, .int p.2)
def dI (l : TB) : D := .dic false (kI l)
def getI : TB → Int → Option Int
  | [], _ => none
  | p :: l, k => if p.1 = k then some p.2 else getI l k
def putI (l : TB) (k v : Int) : TB := if (l.any fun p => decide (p.1 = k)) = true then l.map (fun p => if p.1 = k then (p.1, v) else p) else l ++ [(k, v)]
theorem unK_int (a k : Int) : (unK (.int a) = some (.inl k)) = (a = k) := by simp [unK]
theorem valD_I : ∀ (l : TB) (k : Int), valD (kI l) (.inl k) = (getI l k).map D.int
  | [], _ => rfl
  | p :: l, k => by
    have ih := valD_I l k
    unfold valD kI at ih ⊢
    simp only [List.map_cons, List.find?_cons, unK_int, getI]
    by_cases h : p.1 = k
    · simp [h]
    · simp only [h, decide_false, if_false]
      exact ih
theorem any_I (l : TB) (k : Int) : ((kI l).any fun p => decide (unK p.1 = some (.inl k))) = (l.any fun p => decide (p.1 = k)) := by
  unfold kI
  rw [List.any_map]
  congr 1
  funext p
  simp [unK]
theorem putD_I (l : TB) (k v : Int) : putD (kI l) (.inl k) (.int v) = kI (putI l k v) := by
  unfold putD putI
  rw [any_I]
  split
  · unfold kI
    rw [List.map_map, List.map_map]
    refine List.map_congr_left fun p _ => ?_
    simp only [Function.comp, unK_int]
    split <;> rfl
  · simp [kI, keyD]
theorem kI_len (l : TB) : (kI l).length = l.length := by simp [kI]
theorem getI_mem : ∀ {l : TB} {k v : Int}, getI l k = some v → (k, v) ∈ l
  | [], _, _, h => by cases h
  | p :: l, k, v, h => by
    unfold getI at h
    split at h
    · rename_i e
      cases h
      subst e
      simp
    · exact List.mem_cons_of_mem _ (getI_mem h)
theorem getI_none : ∀ {l : TB} {k : Int}, getI l k = none ↔ k ∉ l.map (·.1)
  | [], k => by simp [getI]
  | p :: l, k => by
    unfold getI
    have := @getI_none l k
    by_cases e : p.1 = k
    · simp [e]
    · rw [if_neg e, this, List.map_cons, List.mem_cons]
      have e' : ¬ k = p.1 := fun z => e z.symm
      simp only [e', false_or]
theorem asIs_I : ∀ xs : List Int, asIs (xs.map D.int) = some xs
  | [] => rfl
  | x :: xs => by simp only [List.map_cons, asIs, asIs_I xs]; rfl
theorem keys_I (l : TB) : (kI l).map (·.1) = (l.map (·.1)).map D.int := by simp [kI]
theorem vals_I (l : TB) : (kI l).map (·.2) = (l.map (·.2)).map D.int := by simp [kI]
theorem fVs_I : ∀ xs : List Int, fVs (xs.map .int) = some (xs.map .int)
  | [] => rfl
  | x :: xs => by simp only [List.map_cons, fVs, fV, fVs_I xs]
theorem inV_I (x : Int) (xs : List Int) : inV (.int x) (xs.map .int) = decide (x ∈ xs) := by
  unfold inV
  induction xs with
  | nil => simp
  | cons y ys ih =>
    rw [List.map_cons, List.any_cons, ih]
    have e : eqV (.int y) (.int x) = decide (x = y) := by
      show (y == x) = _
      rw [Bool.eq_iff_iff, beq_iff_eq, decide_eq_true_iff]
      exact ⟨Eq.symm, Eq.symm⟩
    rw [e]
    simp
abbrev I3 := Int × Int × Int
def d3 (t : I3) : D := .tup [.int t.1, .int t.2.1, .int t.2.2]
def p3 (t : I3) : PyData := .tuple [.int t.1, .int t.2.1, .int t.2.2]
def lt3 (a b : I3) : Bool := decide (a.1 < b.1) || (decide (a.1 = b.1) && (decide (a.2.1 < b.2.1) || (decide (a.2.1 = b.2.1) && (decide (a.2.2 < b.2.2) || (decide (a.2.2 = b.2.2) && false)))))
theorem toP_3 (t : I3) : toP (d3 t) = some (p3 t) := by simp [d3, p3, toP, toPs]
theorem lt_p3 (a b : I3) : PySem.W.dataLt (p3 a) (p3 b) = lt3 a b := by
  unfold p3 lt3
  rw [lt_tupI, lt_tupI, lt_tupI, lt_tup0]
theorem alike_3 (a b : I3) : PySem.W.alike (p3 a) (p3 b) = true := by simp [p3, PySem.W.alike, PySem.W.alikeAll]
theorem ltX_3 (a b : I3) : ltXD (d3 a) (d3 b) = some (.bl (lt3 a b)) := by
  have : cmpP (d3 a) (d3 b) = some (p3 a, p3 b) := by
    unfold cmpP
    rw [toP_3, toP_3]
    simp only [Option.bind]
    rw [if_pos ⟨alike_3 a b, rfl, by simp [p3, PyData.depth, PyData.depthAll]⟩]
  show (cmpP (d3 a) (d3 b)).map (fun z => D.bl (PySem.W.dataLt z.1 z.2)) = _
  rw [this]
  simp only [Option.map_some, lt_p3]
section
variable {Q : D → Prop} {S : Sto} {n : Nat} {l : TB} {k v : Int} {xs ys : List Int} {y : D}
theorem vo_vwD1 {g : D → D → Option D} (h : S[n]? = some (some (.dic false (kI l)))) (q : Wo (g (view S (dI l)) y) Q) : Wo (g (view S (.ref n)) y) Q := by
  have : view S (.ref n) = view S (dI l) := by simp only [view, h]; rfl
  rw [this]; exact q
theorem vo_vwDc {g : List D → Option D} (h : S[n]? = some (some (.dic false (kI l)))) (q : Wo (g (List.map (view S) [dI l])) Q) : Wo (g (List.map (view S) [.ref n])) Q := by
  have : view S (.ref n) = view S (dI l) := by simp only [view, h]; rfl
  have e : List.map (view S) [.ref n] = List.map (view S) [dI l] := by simp only [List.map_cons, List.map_nil, this]
  rw [e]; exact q
theorem vo_ixI (h : getI l k = some v) (q : Q (.int v)) : Wo (ixD (view S (dI l)) (view S (.int k))) Q := by
  refine .of (d := .int v) ?_ q
  show (unK (.int k)).bind (valD (kI l)) = _
  show valD (kI l) (.inl k) = _
  rw [valD_I, h]; rfl
theorem vo_inT (q : Q (.bl (decide (k ∈ xs)))) : Wo (inD (view S (.int k)) (view S (.tup (xs.map .int)))) Q := by
  refine .of ?_ q
  show (inB (.int k) (.tup (xs.map .int))).map D.bl = _
  simp only [inB, fV, sqOf, fVs_I, Option.bind, Option.map_some, inV_I]
theorem vo_ninT (q : Q (.bl (!decide (k ∈ xs)))) : Wo (ninD (view S (.int k)) (view S (.tup (xs.map .int)))) Q := by
  refine .of ?_ q
  show (inB (.int k) (.tup (xs.map .int))).map _ = _
  simp only [inB, fV, sqOf, fVs_I, Option.bind, Option.map_some, inV_I]
theorem vo_inL (q : Q (.bl (decide (k ∈ xs)))) : Wo (inD (view S (.int k)) (view S (.lst (xs.map .int)))) Q := by
  refine .of ?_ q
  show (inB (.int k) (.lst (xs.map .int))).map D.bl = _
  simp only [inB, fV, sqOf, fVs_I, Option.bind, Option.map_some, inV_I]
theorem vo_ninL (q : Q (.bl (!decide (k ∈ xs)))) : Wo (ninD (view S (.int k)) (view S (.lst (xs.map .int)))) Q := by
  refine .of ?_ q
  show (inB (.int k) (.lst (xs.map .int))).map _ = _
  simp only [inB, fV, sqOf, fVs_I, Option.bind, Option.map_some, inV_I]
theorem has_dec (l : TB) (k : Int) : (getI l k).isSome = decide (k ∈ l.map (·.1)) := by
  cases e : getI l k with
  | none => have := getI_none.mp e; simp [this]
  | some v => have := List.mem_map_of_mem (f := (·.1)) (getI_mem e); simp only [Option.isSome_some]; exact (decide_eq_true this).symm
theorem vo_inI (q : Q (.bl (decide (k ∈ l.map (·.1))))) : Wo (inD (view S (.int k)) (view S (dI l))) Q := by
  refine .of ?_ q
  show ((unK (.int k)).map fun kk => (valD (kI l) kk).isSome).map D.bl = _
  show some (D.bl (valD (kI l) (.inl k)).isSome) = _
  rw [valD_I, Option.isSome_map, has_dec]
theorem vo_ninI (q : Q (.bl (!decide (k ∈ l.map (·.1))))) : Wo (ninD (view S (.int k)) (view S (dI l))) Q := by
  refine .of ?_ q
  show ((unK (.int k)).map fun kk => (valD (kI l) kk).isSome).map _ = _
  show some (D.bl (!(valD (kI l) (.inl k)).isSome)) = _
  rw [valD_I, Option.isSome_map, has_dec]
theorem vo_sortI (h : l.length < 64) (q : Q (.lst ((isI (l.map (·.1))).map .int))) : Wo (sortD (List.map (view S) [dI l])) Q := by
  refine .of ?_ q
  show (if (kI l).length < 64 then (asIs ((kI l).map (·.1))).map (fun ns => D.lst ((isI ns).map .int)) else none) = _
  rw [if_pos (by rw [kI_len]; exact h), keys_I, asIs_I]; rfl
theorem vo_sortL (q : Q (.lst ((isI xs).map .int))) : Wo (sortD (List.map (view S) [.lst (xs.map .int)])) Q := by
  refine .of ?_ q
  show (asIs (xs.map D.int)).map _ = _
  rw [asIs_I]; rfl
theorem vo_lenI (q : Q (.int l.length)) : Wo (lenD (List.map (view S) [dI l])) Q := by
  refine .of ?_ q
  show some (D.int (kI l).length) = _
  rw [kI_len]
theorem vo_lt3 {a b : I3} (q : Q (.bl (lt3 a b))) : Wo (ltXD (view S (d3 a)) (view S (d3 b))) Q := .of (ltX_3 a b) q
theorem vo_isNN (q : Q (.bl true)) : Wo (isD (view S .non) (view S .non)) Q := ⟨q⟩
theorem vo_is3N {a : I3} (q : Q (.bl false)) : Wo (isD (view S (d3 a)) (view S .non)) Q := ⟨q⟩
theorem vo_isTN {zs : List D} (q : Q (.bl false)) : Wo (isD (view S (.tup zs)) (view S .non)) Q := ⟨q⟩
theorem vo_isIN (q : Q (.bl false)) : Wo (isD (view S (.int k)) (view S .non)) Q := ⟨q⟩
theorem vo_igAddI {j : Int} (q : Q (.int (k + j))) : Wo (igAddA (view S (.int k)) (view S (.int j))) Q := ⟨q⟩
end
section
variable {Q : D → Sto → Prop} {E : Px} {ρ : Ev} {S : Sto} {o f x : Ex}
theorem wp_dnew (q : Q (.ref S.length) (S ++ [some (.dic false (kI []))])) : Wp (eDNew ρ S) Q E := ⟨q⟩
theorem wp_get2 (h : Wp (o ρ S) (fun d S1 => isDc (view S1 d) = true ∧ Wp (f ρ S1) (fun y S2 => Wp (x ρ S2) (fun z S3 => ∃ (l : TB) (k v : Int), view S3 d = dI l ∧ y = .int k ∧ z = .int v ∧ Q (.int ((getI l k).getD v)) S3) E) E) E) : Wp (eGet2 o f x ρ S) Q E := by
  refine wp_bind (h.mono fun d S1 h => ?_)
  rw [if_pos h.1]
  refine wp_bind (h.2.mono fun y S2 h => wp_bind (h.mono fun z S3 ⟨l, k, v, e2, e3, e4, q⟩ => ?_))
  subst e3 e4
  refine wp_ans (.of (d := .int ((getI l k).getD v)) ?_ q)
  rw [e2]
  show some ((valD (kI l) (.inl k)).getD (.int v)) = _
  rw [valD_I]
  cases getI l k <;> rfl
theorem ws_augI {Q : Fl → Sto → Prop} {E : Str → D → Ev → Sto → Prop} {e o i : Ex} (h : Wp (o ρ S) (fun d S1 => Wp (i ρ S1) (fun k S2 => ∃ (n : Nat) (l : TB) (j v : Int), d = .ref n ∧ k = .int j ∧ S2[n]? = some (some (.dic false (kI l))) ∧ getI l j = some v ∧ Wp (e ρ S2) (fun y S3 => ∃ w : Int, y = .int w ∧ S3[n]? = some (some (.dic false (kI l))) ∧ l.length < 16777216 ∧ Q (.nx ρ) (S3.set n (some (.dic false (kI (putI l j (v + w))))))) (fun c p S => E c p ρ S)) (fun c p S => E c p ρ S)) (fun c p S => E c p ρ S)) : Ws (sAugIx igAdd o i e ρ S) Q E :=
  ws_bind (h.mono fun d S1 h => ws_bind (h.mono fun k S2 ⟨n, l, j, v, e1, e2, h1, hg, hh⟩ => by
    subst e1 e2
    have ev : view S2 (.ref n) = .dic false (kI l) := by simp only [view, h1]
    rw [ev]
    have eg : dgetD (.dic false (kI l)) (.int j) = some (.int v) := by
      show (unK (.int j)).bind (valD (kI l)) = _
      show valD (kI l) (.inl j) = _
      rw [valD_I, hg]; rfl
    rw [eg]
    refine ws_bind (hh.mono fun y S3 ⟨w, ey, h3, h2, q⟩ => ?_)
    subst ey
    have e1 : dicOf S3 (.ref n) = some (n, kI l) := by simp only [dicOf, h3]
    have e4 : putAtD S3 (.ref n) (.int j) (.int (v + w)) = some (S3.set n (some (.dic false (kI (putI l j (v + w)))))) := by
      unfold putAtD
      rw [e1]
      show (if (kI l).length < sizeLine then some (S3.set n (some (.dic false (putD (kI l) (.inl j) (.int (v + w)))))) else none) = _
      rw [if_pos (by rw [kI_len, sizeLine_eq]; exact h2), putD_I]
    have e5 : igAdd (view S3 (.int v)) (view S3 (.int w)) = some (.int (v + w)) := rfl
    rw [e5]
    dsimp only
    rw [e4]
    exact ⟨q⟩))
theorem wi_valsI {Q : List D → Sto → Prop} {e : Ex} (h : Wp (e ρ S) (fun d S1 => ∃ l : TB, d = dI l ∧ Q ((l.map (·.2)).map D.int) S1) E) : Wp (iVals e ρ S) Q E := wp_bind (h.mono fun d S1 ⟨l, e, q⟩ => by
  subst e
  rw [← vals_I] at q
  exact ⟨q⟩)
theorem wi_itemsI {Q : List D → Sto → Prop} {e : Ex} (h : Wp (e ρ S) (fun d S1 => ∃ l : TB, d = dI l ∧ Q (l.map fun p => .tup [.int p.1, .int p.2]) S1) E) : Wp (iItems e ρ S) Q E := wp_bind (h.mono fun d S1 ⟨l, e, q⟩ => by
  subst e
  have : (kI l).map (fun p => D.tup [p.1, p.2]) = l.map fun p => .tup [.int p.1, .int p.2] := by simp [kI]
  rw [← this] at q
  exact ⟨q⟩)
theorem wp_reprQ {f : Ex} (h : Wp (f ρ S) (fun d S1 => ∃ p : PyData, toQ S1 d = some p ∧ smP p = true ∧ wtP p ≤ 200000 ∧ p.depth ≤ 40 ∧ Q (.str p.shown) S1) E) : Wp (eReprQ f ρ S) Q E :=
  wp_bind (h.mono fun d S1 ⟨p, h1, h2, h3, h4, q⟩ => wp_ans (.of (rep_smallQ h1 h2 h3 h4) q))
theorem wp_fnK {F : Fn} {is : List Nat} {dd : List D} {fs gs : List Ex} (h : Wp (evL fs ρ S) (fun us S1 => Wp (evL gs ρ S1) (fun zs S2 => Wp (F (pick is (us ++ (zs ++ dd))) S2) Q E) E) E) : Wp (eFnK F is dd fs gs ρ S) Q E :=
  wp_bind (h.mono fun us S1 h => wp_bind h)
end
end DL
set_option Elab.async false
set_option linter.all false
set_option maxRecDepth 100000
set_option maxHeartbeats 4000000
namespace LS
open PySem PySem.Spec PyProof.Rows L2 DL
end LS
set_option Elab.async false
set_option linter.all false
set_option maxRecDepth 100000
set_option maxHeartbeats 4000000
namespace LS
open DL
local macro_rules | `(tactic| walk_at "w1") => `(tactic| with_reducible first
  | (refine ws_then ?_; try with_reducible dsimp only [List.set_cons_zero, List.set_cons_succ]) | refine ws_seq ?_ | refine ws_asg ?_ | refine ws_expr ?_ | refine ws_ret ?_ | refine ws_if ?_ | refine ws_asgT ?_ | refine ws_setIx ?_ | refine ws_skip ?_ | refine ws_retN ?_ | refine ws_brk ?_ | refine ws_cont ?_ | refine ws_thenR ?_ | refine ws_thenB ?_ | refine ws_thenC ?_ | refine fq_rt ?_ | refine fq_nx ?_ | refine un_nx ?_ | refine un_ct ?_ | refine un_bk ?_ | refine un_rt ?_ | refine ws_loopN ?_
  | (refine ws_loopC (ρ1 := ?r) ?h ?q; (case h => with_unfolding_all rfl); try with_reducible dsimp only [List.set_cons_zero, List.set_cons_succ])
  | refine wp_c ?_ | refine wp_op2 ?_ | refine wp_fn ?_ | refine wp_cons ?_ | refine wp_nil ?_ | refine wp_call ?_ | refine wp_op1 ?_
  | (refine wp_var (d := ?d) ?h ?q; (case h => with_unfolding_all rfl))
  | (refine ws_aug (d := ?d) ?h ?q; (case h => with_unfolding_all rfl))
  | refine wp_tup ?_ | refine wp_lst ?_ | refine wp_lstM ?_ | refine wp_listM ?_
  | refine wp_sl0 ?_ | refine wp_sl1 ?_ | refine wp_sl2 ?_ | refine wp_sl3 ?_
  | refine wp_tval ?_ | refine wp_tnot ?_ | refine wp_tand ?_ | refine wp_tor ?_ | refine wp_tyes ?_ | refine wp_and ?_ | refine wp_or ?_ | refine wp_not ?_ | refine wp_ifx ?_ | refine wp_chain ?_ | refine wp_meth ?_ | refine wp_meth0 ?_
  | refine wp_isi ?_ | refine wp_isis ?_ | refine wp_repr ?_ | refine wp_maxD ?_ | refine wi_rng3 ?_
  | refine wi_seq ?_ | refine wi_rng1 ?_ | refine wi_rng2 ?_ | refine wi_zip2 ?_ | refine wi_zipS ?_
  | (refine wp_fnB (ρ := ?ρ) ?he ?_; (case he => (simp only [List.map_cons, List.map_nil, List.length_cons, List.length_nil, List.replicate, List.cons_append, List.nil_append, Nat.reduceAdd, Nat.reduceSub]; rfl))))
local macro_rules | `(tactic| walk_at "w2") => `(tactic| ((with_reducible refine wo_id ?_); with_reducible first
  | refine vo_sub ?_ | refine vo_add ?_ | refine vo_lt ?_ | refine vo_le ?_ | refine vo_gt ?_ | refine vo_ge ?_ | refine vo_eq ?_ | refine vo_ne ?_ | refine vo_eqS ?_ | refine vo_neS ?_ | refine vo_eqB ?_ | refine vo_neB ?_ | refine vo_neg ?_ | refine vo_slT ?_ | refine vo_slL ?_ | refine vo_slS ?_ | refine vo_lenT ?_ | refine vo_lenL ?_ | refine vo_lenS ?_ | refine vo_revT ?_ | refine vo_revL ?_ | refine vo_min ?_ | refine vo_max ?_ | refine vo_tupL ?_ | refine vo_tupT ?_ | refine vo_lisL ?_ | refine vo_lisT ?_
  | refine vo_igAdd ?_ | refine vo_igMulR (by omega) ?_ | refine vo_igMulL (by omega) ?_ | refine vo_mod (by omega) ?_ | refine vo_div (by omega) ?_ | refine vo_mulR (by omega) ?_ | refine vo_mulL (by omega) ?_
  | refine vo_ixL0 ?_ | refine vo_ixL1 ?_ | refine vo_ixL2 ?_ | refine vo_ixL3 ?_ | refine vo_ixL4 ?_ | refine vo_ixL5 ?_ | refine vo_ixL6 ?_ | refine vo_ixT0 ?_ | refine vo_ixT1 ?_ | refine vo_ixT2 ?_ | refine vo_ixT3 ?_ | refine vo_ixT4 ?_ | refine vo_ixT5 ?_ | refine vo_ixT6 ?_
  | refine wo_vw1 (by assumption) ?_ | refine wo_vw2 (by assumption) ?_ | refine vo_vwc (by assumption) ?_
  | (refine vo_isi (c := ?c) ?h ?q; (case h => with_unfolding_all rfl)) | (refine vo_isis (c := ?c) ?h ?q; (case h => with_unfolding_all rfl))))
local macro_rules | `(tactic| walk_at "w3") => `(tactic| first
  | with_reducible refine ite_f ?_ | with_reducible refine ite_nt ?_ | with_reducible refine ite_nf ?_ | with_reducible refine ite_t ?_
  | ((with_reducible refine ex_id ?_); refine ⟨_, rfl, ?_⟩) | ((with_reducible refine and_id ?_); refine ⟨Nat.le_of_ble_eq_true rfl, ?_⟩))
local macro_rules | `(tactic| walk_at "w") => `(tactic| repeat (first | walk_at "w1" | walk_at "w2" | walk_at "w3"))
end LS
set_option Elab.async false
set_option linter.all false
set_option maxRecDepth 100000
set_option maxHeartbeats 4000000
namespace DL
theorem asIs_map : ∀ xs : List Int, asIs (xs.map .int) = some xs
  | [] => rfl
  | x :: xs => by simp [asIs, asIs_map xs]
theorem wo_sumL {xs : List Int} {S : Sto} {Q : D → Prop} (q : Q (.int xs.sum)) : Wo (sumD (List.map (view S) [.lst (xs.map .int)])) Q := .of (by show sumD [.lst (xs.map .int)] = _; simp only [sumD, asIs_map, Option.map_some]) q
end DL
namespace LS
open DL
local macro_rules | `(tactic| walk_at "w1") => `(tactic| with_reducible first
  | (refine ws_then ?_; try with_reducible dsimp only [List.set_cons_zero, List.set_cons_succ]) | refine ws_seq ?_ | refine ws_asg ?_ | refine ws_expr ?_ | refine ws_ret ?_ | refine ws_if ?_ | refine ws_asgT ?_ | refine ws_setIx ?_ | refine ws_skip ?_ | refine ws_retN ?_ | refine ws_brk ?_ | refine ws_cont ?_ | refine ws_thenR ?_ | refine ws_thenB ?_ | refine ws_thenC ?_ | refine fq_rt ?_ | refine fq_nx ?_ | refine un_nx ?_ | refine un_ct ?_ | refine un_bk ?_ | refine un_rt ?_ | refine ws_loopN ?_
  | (refine ws_loopC (ρ1 := ?r) ?h ?q; (case h => with_unfolding_all rfl); try with_reducible dsimp only [List.set_cons_zero, List.set_cons_succ])
  | refine wp_c ?_ | refine wp_op2 ?_ | refine wp_fn ?_ | refine wp_cons ?_ | refine wp_nil ?_ | refine wp_call ?_ | refine wp_op1 ?_
  | (refine wp_var (d := ?d) ?h ?q; (case h => with_unfolding_all rfl))
  | (refine ws_aug (d := ?d) ?h ?q; (case h => with_unfolding_all rfl))
  | refine wp_tup ?_ | refine wp_lst ?_ | refine wp_lstM ?_ | refine wp_listM ?_
  | refine wp_sl0 ?_ | refine wp_sl1 ?_ | refine wp_sl2 ?_ | refine wp_sl3 ?_
  | refine wp_tval ?_ | refine wp_tnot ?_ | refine wp_tand ?_ | refine wp_tor ?_ | refine wp_tyes ?_ | refine wp_and ?_ | refine wp_or ?_ | refine wp_not ?_ | refine wp_ifx ?_ | refine wp_chain ?_ | refine wp_meth ?_ | refine wp_meth0 ?_
  | refine wp_isi ?_ | refine wp_isis ?_ | refine wp_repr ?_ | refine wp_maxD ?_ | refine wi_rng3 ?_
  | refine wi_seq ?_ | refine wi_rng1 ?_ | refine wi_rng2 ?_ | refine wi_zip2 ?_ | refine wi_zipS ?_
  | (refine wp_fnB (ρ := ?ρ) ?he ?_; (case he => (simp only [List.map_cons, List.map_nil, List.length_cons, List.length_nil, List.replicate, List.cons_append, List.nil_append, Nat.reduceAdd, Nat.reduceSub]; rfl))))
local macro_rules | `(tactic| walk_at "w2") => `(tactic| ((with_reducible refine wo_id ?_); with_reducible first
  | refine vo_sub ?_ | refine vo_add ?_ | refine vo_lt ?_ | refine vo_le ?_ | refine vo_gt ?_ | refine vo_ge ?_ | refine vo_eq ?_ | refine vo_ne ?_ | refine vo_eqS ?_ | refine vo_neS ?_ | refine vo_eqB ?_ | refine vo_neB ?_ | refine vo_neg ?_ | refine vo_slT ?_ | refine vo_slL ?_ | refine vo_slS ?_ | refine vo_lenT ?_ | refine vo_lenL ?_ | refine vo_lenS ?_ | refine vo_revT ?_ | refine vo_revL ?_ | refine vo_min ?_ | refine vo_max ?_ | refine vo_tupL ?_ | refine vo_tupT ?_ | refine vo_lisL ?_ | refine vo_lisT ?_
  | refine vo_igAdd ?_ | refine vo_igMulR (by omega) ?_ | refine vo_igMulL (by omega) ?_ | refine vo_mod (by omega) ?_ | refine vo_div (by omega) ?_ | refine vo_mulR (by omega) ?_ | refine vo_mulL (by omega) ?_
  | refine vo_ixL0 ?_ | refine vo_ixL1 ?_ | refine vo_ixL2 ?_ | refine vo_ixL3 ?_ | refine vo_ixL4 ?_ | refine vo_ixL5 ?_ | refine vo_ixL6 ?_ | refine vo_ixT0 ?_ | refine vo_ixT1 ?_ | refine vo_ixT2 ?_ | refine vo_ixT3 ?_ | refine vo_ixT4 ?_ | refine vo_ixT5 ?_ | refine vo_ixT6 ?_
  | refine wo_vw1 (by assumption) ?_ | refine wo_vw2 (by assumption) ?_ | refine vo_vwc (by assumption) ?_
  | (refine vo_isi (c := ?c) ?h ?q; (case h => with_unfolding_all rfl)) | (refine vo_isis (c := ?c) ?h ?q; (case h => with_unfolding_all rfl))))
local macro_rules | `(tactic| walk_at "w3") => `(tactic| first
  | with_reducible refine ite_f ?_ | with_reducible refine ite_nt ?_ | with_reducible refine ite_nf ?_ | with_reducible refine ite_t ?_
  | ((with_reducible refine ex_id ?_); refine ⟨_, rfl, ?_⟩) | ((with_reducible refine and_id ?_); refine ⟨Nat.le_of_ble_eq_true rfl, ?_⟩))
local macro_rules | `(tactic| walk_at "w") => `(tactic| repeat (first | walk_at "w1" | walk_at "w2" | walk_at "w3"))
end LS
namespace DL
end DL
set_option Elab.async false
set_option linter.all false
set_option maxRecDepth 100000
set_option maxHeartbeats 4000000
namespace LU
open PySem PySem.Spec PyProof.Rows L2 DL
/-- _law_umixed: 0:_law_cell 1:_law_at 2:_law_one 3:_law_two 4:_law_three -/
def b_umixed : Sx :=
  (sSeq (sAsg 2 (eOp2 modD (eOp2 addD (eOp2 addD (eOp2 mulD (eOp2 modD (eVar 0) (eC (.int 2147483647))) (eC (.int 48271))) (eOp2 mulD (eVar 1) (eC (.int 7919)))) (eC (.int 11))) (eC (.int 2147483629))))
    (sSeq (sAsg 3 (eOp2 modD (eOp2 addD (eOp2 addD (eOp2 mulD (eVar 2) (eVar 2)) (eOp2 mulD (eOp2 mulD (eVar 1) (eVar 1)) (eC (.int 31)))) (eC (.int 5))) (eC (.int 2147483587))))
    (sSeq (sAsg 4 (eOp2 modD (eOp2 addD (eOp2 addD (eOp2 mulD (eVar 3) (eVar 3)) (eVar 2)) (eVar 1)) (eC (.int 2147483563))))
    (sRet (eOp2 addD (eOp2 mulD (eOp2 addD (eOp2 mulD (eVar 4) (eC (.int 2147483629))) (eVar 3)) (eC (.int 2147483587))) (eVar 2))))))
def d_umixed : Fn := fnP (fnB 5 b_umixed)
/-- _law_uopen: 0:_law_script -/
def b_uopen : Sx :=
  (sRet (eLstM [(eCall listD [(eSl (eVar 0) none (some (eC (.int 60))))]), (eC (.int 0)), (eC (.int 0))]))
def d_uopen : Fn := fnB 1 b_uopen
def i_udraw_1 : Sx := sIf (tVal (eOp2 neD (eOp2 ixD (eVar 0) (eC (.int 0))) (eLst []))) (sAsg 3 (eOp2 ixD (eOp2 ixD (eVar 0) (eC (.int 0))) (eOp2 modD (eVar 2) (eCall lenD [(eOp2 ixD (eVar 0) (eC (.int 0)))])))) sSkip
def i_udraw_2 : Sx := sIf (tOrX (tVal (eOp2 ltD (eVar 3) (eOp2 powD (eC (.int 10)) (eC (.int 18))))) (tVal (eOp2 geD (eVar 2) (eCall lenD [(eOp2 ixD (eVar 0) (eC (.int 0)))])))) (sSetIx (eVar 0) (eC (.int 2)) (eFn d_umixed [(eVar 3), (eVar 2)])) sSkip
def i_udraw_3 : Sx := sIf (tVal (eOp2 ltD (eOp2 ixD (eVar 0) (eC (.int 2))) (eVar 1))) (sSeq (sAsg 2 (eOp2 ixD (eVar 0) (eC (.int 1))))
    (sSeq (sAsg 3 (eOp2 mulD (eVar 2) (eC (.int 101))))
    (sSeq i_udraw_1
    (sSeq (sSetIx (eVar 0) (eC (.int 1)) (eOp2 addD (eVar 2) (eC (.int 1))))
    (sSeq (sSetIx (eVar 0) (eC (.int 2)) (eVar 3))
    i_udraw_2))))) sSkip
/-- _law_udraw: 0:_law_feed 1:_law_below 2:_law_at 3:_law_cell 4:_law_drawn -/
def b_udraw : Sx :=
  (sSeq i_udraw_3
    (sSeq (sAsg 4 (eOp2 modD (eOp2 ixD (eVar 0) (eC (.int 2))) (eVar 1)))
    (sSeq (sSetIx (eVar 0) (eC (.int 2)) (eOp2 divD (eOp2 ixD (eVar 0) (eC (.int 2))) (eVar 1)))
    (sRet (eVar 4)))))
def d_udraw : Fn := fnB 5 b_udraw
end LU
set_option Elab.async false
set_option linter.all false
set_option maxRecDepth 100000
set_option maxHeartbeats 4000000
namespace LU
open DL
local macro_rules | `(tactic| walk_at "w1") => `(tactic| with_reducible first
  | (refine ws_then ?_; try with_reducible dsimp only [List.set_cons_zero, List.set_cons_succ]) | refine ws_seq ?_ | refine ws_asg ?_ | refine ws_expr ?_ | refine ws_ret ?_ | refine ws_if ?_ | refine ws_asgT ?_ | refine ws_setIx ?_ | refine ws_skip ?_ | refine ws_retN ?_ | refine ws_brk ?_ | refine ws_cont ?_ | refine ws_thenR ?_ | refine ws_thenB ?_ | refine ws_thenC ?_ | refine fq_rt ?_ | refine fq_nx ?_ | refine un_nx ?_ | refine un_ct ?_ | refine un_bk ?_ | refine un_rt ?_ | refine ws_loopN ?_
  | (refine ws_loopC (ρ1 := ?r) ?h ?q; (case h => with_unfolding_all rfl); try with_reducible dsimp only [List.set_cons_zero, List.set_cons_succ])
  | refine wp_c ?_ | refine wp_op2 ?_ | refine wp_fn ?_ | refine wp_cons ?_ | refine wp_nil ?_ | refine wp_call ?_ | refine wp_op1 ?_
  | (refine wp_var (d := ?d) ?h ?q; (case h => with_unfolding_all rfl))
  | (refine ws_aug (d := ?d) ?h ?q; (case h => with_unfolding_all rfl))
  | refine wp_tup ?_ | refine wp_lst ?_ | refine wp_lstM ?_ | refine wp_listM ?_
  | refine wp_sl0 ?_ | refine wp_sl1 ?_ | refine wp_sl2 ?_ | refine wp_sl3 ?_
  | refine wp_tval ?_ | refine wp_tnot ?_ | refine wp_tand ?_ | refine wp_tor ?_ | refine wp_tyes ?_ | refine wp_and ?_ | refine wp_or ?_ | refine wp_not ?_ | refine wp_ifx ?_ | refine wp_chain ?_ | refine wp_meth ?_ | refine wp_meth0 ?_
  | refine wp_isi ?_ | refine wp_isis ?_ | refine wp_repr ?_ | refine wp_maxD ?_ | refine wi_rng3 ?_
  | refine wi_seq ?_ | refine wi_rng1 ?_ | refine wi_rng2 ?_ | refine wi_zip2 ?_ | refine wi_zipS ?_
  | (refine wp_fnB (ρ := ?ρ) ?he ?_; (case he => (simp only [List.map_cons, List.map_nil, List.length_cons, List.length_nil, List.replicate, List.cons_append, List.nil_append, Nat.reduceAdd, Nat.reduceSub]; rfl))))
local macro_rules | `(tactic| walk_at "w2") => `(tactic| ((with_reducible refine wo_id ?_); with_reducible first
  | refine vo_sub ?_ | refine vo_add ?_ | refine vo_lt ?_ | refine vo_le ?_ | refine vo_gt ?_ | refine vo_ge ?_ | refine vo_eq ?_ | refine vo_ne ?_ | refine vo_eqS ?_ | refine vo_neS ?_ | refine vo_eqB ?_ | refine vo_neB ?_ | refine vo_neg ?_ | refine vo_slT ?_ | refine vo_slL ?_ | refine vo_slS ?_ | refine vo_lenT ?_ | refine vo_lenL ?_ | refine vo_lenS ?_ | refine vo_revT ?_ | refine vo_revL ?_ | refine vo_min ?_ | refine vo_max ?_ | refine vo_tupL ?_ | refine vo_tupT ?_ | refine vo_lisL ?_ | refine vo_lisT ?_
  | refine vo_igAdd ?_ | refine vo_igMulR (by omega) ?_ | refine vo_igMulL (by omega) ?_ | refine vo_mod (by omega) ?_ | refine vo_div (by omega) ?_ | refine vo_mulR (by omega) ?_ | refine vo_mulL (by omega) ?_
  | refine vo_ixL0 ?_ | refine vo_ixL1 ?_ | refine vo_ixL2 ?_ | refine vo_ixL3 ?_ | refine vo_ixL4 ?_ | refine vo_ixL5 ?_ | refine vo_ixL6 ?_ | refine vo_ixT0 ?_ | refine vo_ixT1 ?_ | refine vo_ixT2 ?_ | refine vo_ixT3 ?_ | refine vo_ixT4 ?_ | refine vo_ixT5 ?_ | refine vo_ixT6 ?_
  | refine wo_vw1 (by assumption) ?_ | refine wo_vw2 (by assumption) ?_ | refine vo_vwc (by assumption) ?_
  | (refine vo_isi (c := ?c) ?h ?q; (case h => with_unfolding_all rfl)) | (refine vo_isis (c := ?c) ?h ?q; (case h => with_unfolding_all rfl))))
local macro_rules | `(tactic| walk_at "w3") => `(tactic| first
  | with_reducible refine ite_f ?_ | with_reducible refine ite_nt ?_ | with_reducible refine ite_nf ?_ | with_reducible refine ite_t ?_
  | ((with_reducible refine ex_id ?_); refine ⟨_, rfl, ?_⟩) | ((with_reducible refine and_id ?_); refine ⟨Nat.le_of_ble_eq_true rfl, ?_⟩))
local macro_rules | `(tactic| walk_at "w") => `(tactic| repeat (first | walk_at "w1" | walk_at "w2" | walk_at "w3"))
theorem pick_lt {zs : List Int} {i : Int} (h : 0 ≤ i ∧ i < zs.length) : ∃ z ∈ zs, L2.atI (zs.map D.int) i = some (.int z) := ⟨zs[i.toNat]'(by omega), List.getElem_mem _, by rw [atI_in h.1 (by rw [List.length_map]; omega), List.getElem_map]⟩
theorem wp_umixed {S : Sto} {c t : Int} (t0 : 0 ≤ t) (t1 : t ≤ 1000000000) {Q : D → Sto → Prop} {E : Px} (q : ∀ v, Q (.int v) S) : Wp (d_umixed [.int c, .int t] S) Q E := by
  refine wp_fnP rfl ?_
  unfold b_umixed
  walk_at "w"
  generalize ho : (c % 2147483647 * 48271 + t * 7919 + 11) % 2147483629 = one
  have c1 : 0 ≤ one ∧ one ≤ 2147483647 := by omega
  walk_at "w"
  generalize ho2 : (one * one + t * t * 31 + 5) % 2147483587 = two
  have c2 : 0 ≤ two ∧ two ≤ 2147483647 := by omega
  walk_at "w"
  exact ⟨rfl, q _⟩
theorem wp_udraw {S : Sto} {n : Nat} {k below : Int} {Q : D → Sto → Prop} {E : Px} (h : JarS S n k) (hk : k ≤ 900000000) (hm : 0 < below ∧ below < 1073741824)
    (q : ∀ v S', 0 ≤ v → v < below → JarS S' n (k + 1) → Only n S S' → Q (.int v) S') : Wp (d_udraw [.ref n, .int below] S) Q E := by
  obtain ⟨cells, t, r, h0, t0, t1⟩ := h
  unfold Jar at h0
  have hll : (cells.map D.int).length = cells.length := List.length_map ..
  unfold d_udraw b_udraw
  walk_at "w1"
  refine ws_mid (fun f S1 => ∃ a b, f = .nx [some (.ref n), some (.int below), a, b, none] ∧ ∃ t' r' : Int, S1[n]? = some (some (.lst [.lst (cells.map .int), .int t', .int r'])) ∧ 0 ≤ t' ∧ t' ≤ k + 1 ∧ Only n S S1) ?_ ?_
  · unfold i_udraw_3
    walk_at "w"
    refine ite_d (fun _ => ?_) (fun _ => ?_)
    · walk_at "w"
      refine ws_midT (fun f S' => ∃ cell : Int, f = .nx [some (.ref n), some (.int below), some (.int t), some (.int cell), none] ∧ S = S') ?_ ?_
      · unfold i_udraw_1
        walk_at "w"
        refine .of (neD_of (eqD_lstI cells [])) ?_
        walk_at "w"
        refine ite_nd (fun hne => ?_) (fun _ => ?_)
        · have hl : 0 < (cells.map D.int).length := by rw [hll]; exact List.length_pos_iff.mpr hne
          walk_at "w"
          obtain ⟨z, _, hz⟩ := pick_lt (zs := cells) (i := t % ((cells.map D.int).length : Int)) ⟨Int.emod_nonneg _ (by omega), by rw [← hll]; exact Int.emod_lt_of_pos _ (by omega)⟩
          refine wo_ixL hz ?_
          walk_at "w"
          rfl
        · walk_at "w"
          rfl
      rintro f S' ⟨cell, rfl, rfl⟩
      walk_at "w"
      refine ⟨n, _, 1, 1, rfl, rfl, h0, rfl, ?_⟩
      refine set_gen h0 fun S1 h1 o1 => ?_
      have h1 : S1[n]? = some (some (.lst [.lst (cells.map .int), .int (t + 1), .int r])) := h1
      walk_at "w"
      refine ⟨n, _, 2, 2, rfl, rfl, h1, rfl, ?_⟩
      refine set_gen h1 fun S2 h2 o2 => ?_
      have h2 : S2[n]? = some (some (.lst [.lst (cells.map .int), .int (t + 1), .int cell])) := h2
      walk_at "w"
      unfold i_udraw_2
      walk_at "w"
      refine .of pow1018 ?_
      walk_at "w"
      refine ite_d (fun _ => ?_) (fun _ => ?_)
      · walk_at "w"
        refine wp_umixed t0 (by omega) fun v => ?_
        walk_at "w"
        refine ⟨n, _, 2, 2, rfl, rfl, h2, rfl, ?_⟩
        exact ⟨_, _, rfl, t + 1, v, set_at h2, by omega, by omega, (o1.trans o2).trans .set⟩
      · walk_at "w"
        refine ite_d (fun _ => ?_) (fun _ => ?_)
        · walk_at "w"
          refine wp_umixed t0 (by omega) fun v => ?_
          walk_at "w"
          refine ⟨n, _, 2, 2, rfl, rfl, h2, rfl, ?_⟩
          exact ⟨_, _, rfl, t + 1, v, set_at h2, by omega, by omega, (o1.trans o2).trans .set⟩
        · walk_at "w"
          exact ⟨_, _, rfl, t + 1, cell, h2, by omega, by omega, o1.trans o2⟩
    · walk_at "w"
      exact ⟨_, _, rfl, t, r, h0, t0, by omega, .refl⟩
  rintro f S1 ⟨a, b, rfl, t', r', h1, t0', t1', o1⟩
  walk_at "w"
  refine ⟨n, _, 2, 2, rfl, rfl, h1, rfl, ?_⟩
  refine set_gen h1 fun S2 h2 o2 => ?_
  walk_at "w"
  exact q _ S2 (Int.emod_nonneg _ (by omega)) (Int.emod_lt_of_pos _ hm.1) ⟨cells, t', _, h2, t0', t1'⟩ (o1.trans o2)
end LU
namespace LU
open DL
local macro_rules | `(tactic| walk_at "w1") => `(tactic| with_reducible first
  | (refine ws_then ?_; try with_reducible dsimp only [List.set_cons_zero, List.set_cons_succ]) | refine ws_seq ?_ | refine ws_asg ?_ | refine ws_expr ?_ | refine ws_ret ?_ | refine ws_if ?_ | refine ws_asgT ?_ | refine ws_skip ?_ | refine ws_retN ?_ | refine ws_brk ?_ | refine ws_cont ?_ | refine ws_thenR ?_ | refine ws_thenB ?_ | refine ws_thenC ?_ | refine fq_rt ?_ | refine fq_nx ?_ | refine un_nx ?_ | refine un_ct ?_ | refine un_bk ?_ | refine un_rt ?_ | refine ws_loopN ?_
  | (refine ws_loopC (ρ1 := ?r) ?h ?q; (case h => with_unfolding_all rfl); try with_reducible dsimp only [List.set_cons_zero, List.set_cons_succ])
  | refine wp_c ?_ | refine wp_op2 ?_ | refine wp_fn ?_ | refine wp_cons ?_ | refine wp_nil ?_ | refine wp_call ?_ | refine wp_op1 ?_
  | (refine wp_var (d := ?d) ?h ?q; (case h => with_unfolding_all rfl))
  | (refine ws_aug (d := ?d) ?h ?q; (case h => with_unfolding_all rfl))
  | refine wp_tup ?_ | refine wp_lst ?_ | refine wp_lstM ?_ | refine wp_listM ?_
  | refine wp_sl0 ?_ | refine wp_sl1 ?_ | refine wp_sl2 ?_ | refine wp_sl3 ?_
  | refine wp_tval ?_ | refine wp_tnot ?_ | refine wp_tand ?_ | refine wp_tor ?_ | refine wp_tyes ?_ | refine wp_and ?_ | refine wp_or ?_ | refine wp_not ?_ | refine wp_ifx ?_ | refine wp_chain ?_ | refine wp_meth ?_ | refine wp_meth0 ?_
  | refine wp_isi ?_ | refine wp_isis ?_ | refine wp_repr ?_ | refine wp_maxD ?_ | refine wi_rng3 ?_
  | refine ws_par ?_ | refine wp_dnew ?_ | refine wp_get2 ?_ | refine wp_reprQ ?_ | refine wp_fnK ?_ | refine wi_valsI ?_ | refine wi_itemsI ?_ | refine ws_augI ?_
  | refine wi_seq ?_ | refine wi_rng1 ?_ | refine wi_rng2 ?_ | refine wi_zip2 ?_ | refine wi_zipS ?_
  | (refine wp_fnB (ρ := ?ρ) ?he ?_; (case he => (simp only [List.map_cons, List.map_nil, List.length_cons, List.length_nil, List.replicate, List.cons_append, List.nil_append, Nat.reduceAdd, Nat.reduceSub]; rfl))))
local macro_rules | `(tactic| walk_at "w2") => `(tactic| ((with_reducible refine wo_id ?_); with_reducible first
  | refine vo_sub ?_ | refine vo_add ?_ | refine vo_lt ?_ | refine vo_le ?_ | refine vo_gt ?_ | refine vo_ge ?_ | refine vo_eq ?_ | refine vo_ne ?_ | refine vo_eqS ?_ | refine vo_neS ?_ | refine vo_eqB ?_ | refine vo_neB ?_ | refine vo_neg ?_ | refine vo_slT ?_ | refine vo_slL ?_ | refine vo_slS ?_ | refine vo_lenT ?_ | refine vo_lenL ?_ | refine vo_lenS ?_ | refine vo_revT ?_ | refine vo_revL ?_ | refine vo_min ?_ | refine vo_max ?_ | refine vo_tupL ?_ | refine vo_tupT ?_ | refine vo_lisL ?_ | refine vo_lisT ?_
  | refine vo_igAdd ?_ | refine vo_igMulR (by omega) ?_ | refine vo_igMulL (by omega) ?_ | refine vo_mod (by omega) ?_ | refine vo_div (by omega) ?_ | refine vo_mulR (by omega) ?_ | refine vo_mulL (by omega) ?_
  | refine vo_ixL0 ?_ | refine vo_ixL1 ?_ | refine vo_ixL2 ?_ | refine vo_ixL3 ?_ | refine vo_ixL4 ?_ | refine vo_ixL5 ?_ | refine vo_ixL6 ?_ | refine vo_ixT0 ?_ | refine vo_ixT1 ?_ | refine vo_ixT2 ?_ | refine vo_ixT3 ?_ | refine vo_ixT4 ?_ | refine vo_ixT5 ?_ | refine vo_ixT6 ?_
  | refine vo_inT ?_ | refine vo_ninT ?_ | refine vo_inL ?_ | refine vo_ninL ?_ | refine vo_inI ?_ | refine vo_ninI ?_ | refine vo_sortI (by first | assumption | omega) ?_ | refine vo_sortL ?_ | refine vo_lenI ?_ | refine vo_lt3 ?_ | refine vo_isNN ?_ | refine vo_is3N ?_ | refine vo_isTN ?_ | refine vo_isIN ?_ | refine vo_igAddI ?_ | refine vo_ixI (by assumption) ?_
  | refine vo_vwD1 (by assumption) ?_ | refine vo_vwDc (by assumption) ?_
  | refine wo_vw1 (by assumption) ?_ | refine wo_vw2 (by assumption) ?_ | refine vo_vwc (by assumption) ?_
  | (refine vo_isi (c := ?c) ?h ?q; (case h => with_unfolding_all rfl)) | (refine vo_isis (c := ?c) ?h ?q; (case h => with_unfolding_all rfl))))
local macro_rules | `(tactic| walk_at "w3") => `(tactic| first
  | with_reducible refine ite_f ?_ | with_reducible refine ite_nt ?_ | with_reducible refine ite_nf ?_ | with_reducible refine ite_t ?_
  | ((with_reducible refine ex_id ?_); refine ⟨_, rfl, ?_⟩) | ((with_reducible refine and_id ?_); refine ⟨Nat.le_of_ble_eq_true rfl, ?_⟩))
local macro_rules | `(tactic| walk_at "w") => `(tactic| repeat (first | walk_at "w1" | walk_at "w2" | walk_at "w3"))
end LU
set_option Elab.async false
set_option linter.all false
set_option maxRecDepth 100000
set_option maxHeartbeats 4000000
namespace DL
open PySem PySem.Spec PyProof.Rows L2
def sPar (i j : Nat) (fs : List Ex) : Sx := fun ρ S => (evL fs ρ S).bindS ρ fun ds S => match ds with
  | [a, b] => .fl (.nx ((ρ.set i (some a)).set j (some b))) S
  | _ => .bad
theorem finA.bindS {K : PySem.W.Frag} {mg : Str → Option Value} {W : WX} {B : Addr → Prop} {m : List Addr} {S : Sto} {σ : L2.St} {H : Hp} {ρ : Ev} {E : Ends} {r : R (List D)} {g : List D → Sto → RS} (re : RepE K H (Fo B m S) m σ ρ) (rl : Rl K mg B m H S) (h : finS K mg W B m S H (r.bindS ρ g) E) :
    finA K mg W B m S σ H r (fun v H1 => ∃ m1 S1 d, Post K mg B m S H m1 S1 H1 ∧ RepA K H1 (Fo B m1 S1) m1 v d ∧ finS K mg W B m1 S1 H1 (g d S1) E) := by
  cases r with
  | ok d S' => exact fun m' H' v p r => ⟨m', S', d, p, r, finS.later p h⟩
  | exc c p' S' => exact fun m' H' cls dd p x => h m' H' σ cls dd p (re.kp (p.kp rl)) x
  | bad => exact h
theorem sv_par {X : Cx} {W : WX} {i j : Nat} {x y : Str} {a b : Expr} {fs : List Ex} {px py pt pos : Pos} {kt k2 pt2} (hc : X.calm = true) (hN : X.N.Nodup) (hi : X.N[i]? = some x) (hj : X.N[j]? = some y) (hij : i ≠ j)
    (hx : X.env.scope.names.lookup x = some .local) (hy : X.env.scope.names.lookup y = some .local) (ha : EVA X W [a, b] fs)
    (hw : swappedStores [.Tuple [.Name x px, .Name y py] kt pt] (.Tuple [a, b] k2 pt2) X.env = pure (some [x, y]) := by rfl)
    (hs : swapsWithSole [.Tuple [.Name x px, .Name y py] kt pt] (.Tuple [a, b] k2 pt2) pos.line X.env = pure false := by rfl) :
    SV X W (.Assign [.Tuple [.Name x px, .Name y py] kt pt] (.Tuple [a, b] k2 pt2) pos) (sPar i j fs) := by
  refine ps_imp (ps_par hc hN hi hj hij hx hy ha hw hs) fun E σ H h => ?_
  obtain ⟨B, m, ρ, S, r, re, f⟩ := h
  refine ⟨B, m, ρ, S, r, re, finA.mono (finA.bindS re r f) fun vs H1 => ?_⟩
  rintro ⟨m1, S1, ds, p, q, f1⟩
  split at f1
  · rename_i d1 d2
    cases q with
    | cons q1 q' =>
      cases q' with
      | cons q2 q3 =>
        cases q3
        exact ⟨_, _, rfl, f1 m1 H1 _ (Post.refl p.rl) (((re.kp (p.kp r)).set q1).set q2)⟩
  · exact f1.elim
theorem ws_par {Q : Fl → Sto → Prop} {E : Str → D → Ev → Sto → Prop} {ρ : Ev} {S : Sto} {i j : Nat} {fs : List Ex} (h : Wp (evL fs ρ S) (fun ds S1 => ∃ a b, ds = [a, b] ∧ Q (.nx ((ρ.set i (some a)).set j (some b))) S1) (fun c p S => E c p ρ S)) : Ws (sPar i j fs ρ S) Q E :=
  ws_bind (h.mono fun ds S1 ⟨a, b, e, q⟩ => by subst e; exact ⟨q⟩)
end DL
set_option Elab.async false
set_option linter.all false
set_option maxRecDepth 100000
set_option maxHeartbeats 4000000
namespace DL
open PySem PySem.Spec PyProof.Rows L2
end DL
set_option Elab.async false
set_option linter.all false
set_option maxRecDepth 100000
set_option maxHeartbeats 4000000
namespace DL
open PySem PySem.Spec PyProof.Rows L2
end DL
set_option Elab.async false
set_option linter.all false
set_option maxRecDepth 100000
set_option maxHeartbeats 4000000
namespace DL
open PySem PySem.Spec PyProof.Rows L2
end DL
set_option Elab.async false
set_option linter.all false
set_option maxRecDepth 100000
set_option maxHeartbeats 4000000
namespace DL
open PySem PySem.Spec PyProof.Rows L2
def ded : List Int → List Int
  | [] => []
  | x :: xs => if x ∈ xs then ded xs else x :: ded xs
def rSetL (X : Cx) : List V → Hp → VK → Prop := fun xs H Q => ∃ (a : Addr) (ns : List Int), xs = [.ref a] ∧ (SqL X.K H a (ns.map V.int) ∨ SqT X.K H a (ns.map V.int)) ∧ ns.length < 4000 ∧ ∀ p c, H p = none → c = (ded ns).length → Q (.ref p) (upd H p (SetO X.w p (fun j => decide (j ∈ ns)) c))
end DL
set_option Elab.async false
set_option linter.all false
set_option maxRecDepth 100000
set_option maxHeartbeats 4000000
namespace DL
open PySem PySem.Spec PyProof.Rows L2
end DL
set_option Elab.async false
set_option linter.all false
set_option maxRecDepth 100000
set_option maxHeartbeats 4000000
namespace DL
open PySem PySem.Spec PyProof.Rows L2
end DL
set_option Elab.async false
set_option linter.all false
set_option maxRecDepth 100000
set_option maxHeartbeats 4000000
namespace DL
open PySem PySem.Spec PyProof.Rows L2
end DL
set_option Elab.async false
set_option linter.all false
set_option maxRecDepth 100000
set_option maxHeartbeats 4000000
namespace DL
open PySem PySem.Spec PyProof.Rows L2
end DL
set_option Elab.async false
set_option linter.all false
set_option maxRecDepth 100000
set_option maxHeartbeats 4000000
namespace DL
open PySem PySem.Spec PyProof.Rows L2
end DL
set_option Elab.async false
set_option linter.all false
set_option maxRecDepth 100000
set_option maxHeartbeats 4000000
namespace DL
open PySem PySem.Spec PyProof.Rows L2
end DL
set_option Elab.async false
set_option linter.all false
set_option maxRecDepth 100000
set_option maxHeartbeats 4000000
set_option Elab.async false
set_option linter.all false
set_option maxRecDepth 100000
set_option maxHeartbeats 4000000
namespace LE
open DL
local macro_rules | `(tactic| walk_at "w1") => `(tactic| with_reducible first
  | (refine ws_then ?_; try with_reducible dsimp only [List.set_cons_zero, List.set_cons_succ]) | refine ws_seq ?_ | refine ws_asg ?_ | refine ws_expr ?_ | refine ws_ret ?_ | refine ws_if ?_ | refine ws_asgT ?_ | refine ws_setIx ?_ | refine ws_skip ?_ | refine ws_retN ?_ | refine ws_brk ?_ | refine ws_cont ?_ | refine ws_thenR ?_ | refine ws_thenB ?_ | refine ws_thenC ?_ | refine fq_rt ?_ | refine fq_nx ?_ | refine un_nx ?_ | refine un_ct ?_ | refine un_bk ?_ | refine un_rt ?_ | refine ws_loopN ?_
  | (refine ws_loopC (ρ1 := ?r) ?h ?q; (case h => with_unfolding_all rfl); try with_reducible dsimp only [List.set_cons_zero, List.set_cons_succ])
  | refine wp_c ?_ | refine wp_op2 ?_ | refine wp_fn ?_ | refine wp_cons ?_ | refine wp_nil ?_ | refine wp_call ?_ | refine wp_op1 ?_
  | (refine wp_var (d := ?d) ?h ?q; (case h => with_unfolding_all rfl))
  | (refine ws_aug (d := ?d) ?h ?q; (case h => with_unfolding_all rfl))
  | refine wp_tup ?_ | refine wp_lst ?_ | refine wp_lstM ?_ | refine wp_listM ?_
  | refine wp_sl0 ?_ | refine wp_sl1 ?_ | refine wp_sl2 ?_ | refine wp_sl3 ?_
  | refine wp_tval ?_ | refine wp_tnot ?_ | refine wp_tand ?_ | refine wp_tor ?_ | refine wp_tyes ?_ | refine wp_and ?_ | refine wp_or ?_ | refine wp_not ?_ | refine wp_ifx ?_ | refine wp_chain ?_ | refine wp_meth ?_ | refine wp_meth0 ?_
  | refine wp_isi ?_ | refine wp_isis ?_ | refine wp_repr ?_ | refine wp_maxD ?_ | refine wi_rng3 ?_
  | refine wi_seq ?_ | refine wi_rng1 ?_ | refine wi_rng2 ?_ | refine wi_zip2 ?_ | refine wi_zipS ?_
  | (refine wp_fnB (ρ := ?ρ) ?he ?_; (case he => (simp only [List.map_cons, List.map_nil, List.length_cons, List.length_nil, List.replicate, List.cons_append, List.nil_append, Nat.reduceAdd, Nat.reduceSub]; rfl))))
local macro_rules | `(tactic| walk_at "w2") => `(tactic| ((with_reducible refine wo_id ?_); with_reducible first
  | refine vo_sub ?_ | refine vo_add ?_ | refine vo_lt ?_ | refine vo_le ?_ | refine vo_gt ?_ | refine vo_ge ?_ | refine vo_eq ?_ | refine vo_ne ?_ | refine vo_eqS ?_ | refine vo_neS ?_ | refine vo_eqB ?_ | refine vo_neB ?_ | refine vo_neg ?_ | refine vo_slT ?_ | refine vo_slL ?_ | refine vo_slS ?_ | refine vo_lenT ?_ | refine vo_lenL ?_ | refine vo_lenS ?_ | refine vo_revT ?_ | refine vo_revL ?_ | refine vo_min ?_ | refine vo_max ?_ | refine vo_tupL ?_ | refine vo_tupT ?_ | refine vo_lisL ?_ | refine vo_lisT ?_
  | refine vo_igAdd ?_ | refine vo_igMulR (by omega) ?_ | refine vo_igMulL (by omega) ?_ | refine vo_mod (by omega) ?_ | refine vo_div (by omega) ?_ | refine vo_mulR (by omega) ?_ | refine vo_mulL (by omega) ?_
  | refine vo_ixL0 ?_ | refine vo_ixL1 ?_ | refine vo_ixL2 ?_ | refine vo_ixL3 ?_ | refine vo_ixL4 ?_ | refine vo_ixL5 ?_ | refine vo_ixL6 ?_ | refine vo_ixT0 ?_ | refine vo_ixT1 ?_ | refine vo_ixT2 ?_ | refine vo_ixT3 ?_ | refine vo_ixT4 ?_ | refine vo_ixT5 ?_ | refine vo_ixT6 ?_
  | refine wo_vw1 (by assumption) ?_ | refine wo_vw2 (by assumption) ?_ | refine vo_vwc (by assumption) ?_
  | (refine vo_isi (c := ?c) ?h ?q; (case h => with_unfolding_all rfl)) | (refine vo_isis (c := ?c) ?h ?q; (case h => with_unfolding_all rfl))))
local macro_rules | `(tactic| walk_at "w3") => `(tactic| first
  | with_reducible refine ite_f ?_ | with_reducible refine ite_nt ?_ | with_reducible refine ite_nf ?_ | with_reducible refine ite_t ?_
  | ((with_reducible refine ex_id ?_); refine ⟨_, rfl, ?_⟩) | ((with_reducible refine and_id ?_); refine ⟨Nat.le_of_ble_eq_true rfl, ?_⟩))
local macro_rules | `(tactic| walk_at "w") => `(tactic| repeat (first | walk_at "w1" | walk_at "w2" | walk_at "w3"))
/-- the pen: its count at most k -/
def PenS (S : Sto) (n : Nat) (k : Int) : Prop := ∃ (cells : List Int) (t r : Int), S[n]? = some (some (.lst [.lst (cells.map .int), .int t, .int r])) ∧ 0 ≤ t ∧ t ≤ k ∧ cells.length ≤ 1000
theorem PenS.mono {S : Sto} {n : Nat} {k k' : Int} (h : PenS S n k) (hk : k ≤ k') : PenS S n k' := by
  obtain ⟨c, t, r, h1, h2, h3, h4⟩ := h
  exact ⟨c, t, r, h1, h2, by omega, h4⟩
theorem PenS.ext {S S' : Sto} {n : Nat} {k : Int} (h : PenS S n k) (e : Ext S S') : PenS S' n k := by
  obtain ⟨c, t, r, h1, h2⟩ := h
  exact ⟨c, t, r, e.at_ h1, h2⟩
theorem PenS.only {S S' : Sto} {n m : Nat} {k : Int} (h : PenS S n k) (e : Only m S S') (hm : n ≠ m) : PenS S' n k := by
  obtain ⟨c, t, r, h1, h2⟩ := h
  exact ⟨c, t, r, (e.2 n hm).trans h1, h2⟩
end LE
set_option Elab.async false
set_option linter.all false
set_option maxRecDepth 100000
set_option maxHeartbeats 4000000
set_option Elab.async false
set_option linter.all false
set_option maxRecDepth 100000
set_option maxHeartbeats 4000000
namespace LE
open DL
local macro_rules | `(tactic| walk_at "w1") => `(tactic| with_reducible first
  | (refine ws_then ?_; try with_reducible dsimp only [List.set_cons_zero, List.set_cons_succ]) | refine ws_seq ?_ | refine ws_asg ?_ | refine ws_expr ?_ | refine ws_ret ?_ | refine ws_if ?_ | refine ws_asgT ?_ | refine ws_setIx ?_ | refine ws_skip ?_ | refine ws_retN ?_ | refine ws_brk ?_ | refine ws_cont ?_ | refine ws_thenR ?_ | refine ws_thenB ?_ | refine ws_thenC ?_ | refine fq_rt ?_ | refine fq_nx ?_ | refine un_nx ?_ | refine un_ct ?_ | refine un_bk ?_ | refine un_rt ?_ | refine ws_loopN ?_
  | (refine ws_loopC (ρ1 := ?r) ?h ?q; (case h => with_unfolding_all rfl); try with_reducible dsimp only [List.set_cons_zero, List.set_cons_succ])
  | refine wp_c ?_ | refine wp_op2 ?_ | refine wp_fn ?_ | refine wp_cons ?_ | refine wp_nil ?_ | refine wp_call ?_ | refine wp_op1 ?_
  | (refine wp_var (d := ?d) ?h ?q; (case h => with_unfolding_all rfl))
  | (refine ws_aug (d := ?d) ?h ?q; (case h => with_unfolding_all rfl))
  | refine wp_tup ?_ | refine wp_lst ?_ | refine wp_lstM ?_ | refine wp_listM ?_
  | refine wp_sl0 ?_ | refine wp_sl1 ?_ | refine wp_sl2 ?_ | refine wp_sl3 ?_
  | refine wp_tval ?_ | refine wp_tnot ?_ | refine wp_tand ?_ | refine wp_tor ?_ | refine wp_tyes ?_ | refine wp_and ?_ | refine wp_or ?_ | refine wp_not ?_ | refine wp_ifx ?_ | refine wp_chain ?_ | refine wp_meth ?_ | refine wp_meth0 ?_
  | refine wp_isi ?_ | refine wp_isis ?_ | refine wp_repr ?_ | refine wp_maxD ?_ | refine wi_rng3 ?_
  | refine wi_seq ?_ | refine wi_rng1 ?_ | refine wi_rng2 ?_ | refine wi_zip2 ?_ | refine wi_zipS ?_
  | (refine wp_fnB (ρ := ?ρ) ?he ?_; (case he => (simp only [List.map_cons, List.map_nil, List.length_cons, List.length_nil, List.replicate, List.cons_append, List.nil_append, Nat.reduceAdd, Nat.reduceSub]; rfl))))
local macro_rules | `(tactic| walk_at "w2") => `(tactic| ((with_reducible refine wo_id ?_); with_reducible first
  | refine vo_sub ?_ | refine vo_add ?_ | refine vo_lt ?_ | refine vo_le ?_ | refine vo_gt ?_ | refine vo_ge ?_ | refine vo_eq ?_ | refine vo_ne ?_ | refine vo_eqS ?_ | refine vo_neS ?_ | refine vo_eqB ?_ | refine vo_neB ?_ | refine vo_neg ?_ | refine vo_slT ?_ | refine vo_slL ?_ | refine vo_slS ?_ | refine vo_lenT ?_ | refine vo_lenL ?_ | refine vo_lenS ?_ | refine vo_revT ?_ | refine vo_revL ?_ | refine vo_min ?_ | refine vo_max ?_ | refine vo_tupL ?_ | refine vo_tupT ?_ | refine vo_lisL ?_ | refine vo_lisT ?_
  | refine vo_igAdd ?_ | refine vo_igMulR (by omega) ?_ | refine vo_igMulL (by omega) ?_ | refine vo_mod (by omega) ?_ | refine vo_div (by omega) ?_ | refine vo_mulR (by omega) ?_ | refine vo_mulL (by omega) ?_
  | refine vo_ixL0 ?_ | refine vo_ixL1 ?_ | refine vo_ixL2 ?_ | refine vo_ixL3 ?_ | refine vo_ixL4 ?_ | refine vo_ixL5 ?_ | refine vo_ixL6 ?_ | refine vo_ixT0 ?_ | refine vo_ixT1 ?_ | refine vo_ixT2 ?_ | refine vo_ixT3 ?_ | refine vo_ixT4 ?_ | refine vo_ixT5 ?_ | refine vo_ixT6 ?_
  | refine wo_vw1 (by assumption) ?_ | refine wo_vw2 (by assumption) ?_ | refine vo_vwc (by assumption) ?_
  | (refine vo_isi (c := ?c) ?h ?q; (case h => with_unfolding_all rfl)) | (refine vo_isis (c := ?c) ?h ?q; (case h => with_unfolding_all rfl))))
local macro_rules | `(tactic| walk_at "w3") => `(tactic| first
  | with_reducible refine ite_f ?_ | with_reducible refine ite_nt ?_ | with_reducible refine ite_nf ?_ | with_reducible refine ite_t ?_
  | ((with_reducible refine ex_id ?_); refine ⟨_, rfl, ?_⟩) | ((with_reducible refine and_id ?_); refine ⟨Nat.le_of_ble_eq_true rfl, ?_⟩))
local macro_rules | `(tactic| walk_at "w") => `(tactic| repeat (first | walk_at "w1" | walk_at "w2" | walk_at "w3"))
end LE
namespace DL
def rowD (xs : List Int) : D := .tup (xs.map .int)
end DL
namespace LE
open DL
local macro_rules | `(tactic| walk_at "w1") => `(tactic| with_reducible first
  | (refine ws_then ?_; try with_reducible dsimp only [List.set_cons_zero, List.set_cons_succ]) | refine ws_seq ?_ | refine ws_asg ?_ | refine ws_expr ?_ | refine ws_ret ?_ | refine ws_if ?_ | refine ws_asgT ?_ | refine ws_setIx ?_ | refine ws_skip ?_ | refine ws_retN ?_ | refine ws_brk ?_ | refine ws_cont ?_ | refine ws_thenR ?_ | refine ws_thenB ?_ | refine ws_thenC ?_ | refine fq_rt ?_ | refine fq_nx ?_ | refine un_nx ?_ | refine un_ct ?_ | refine un_bk ?_ | refine un_rt ?_ | refine ws_loopN ?_
  | (refine ws_loopC (ρ1 := ?r) ?h ?q; (case h => with_unfolding_all rfl); try with_reducible dsimp only [List.set_cons_zero, List.set_cons_succ])
  | refine wp_c ?_ | refine wp_op2 ?_ | refine wp_fn ?_ | refine wp_cons ?_ | refine wp_nil ?_ | refine wp_call ?_ | refine wp_op1 ?_
  | (refine wp_var (d := ?d) ?h ?q; (case h => with_unfolding_all rfl))
  | (refine ws_aug (d := ?d) ?h ?q; (case h => with_unfolding_all rfl))
  | refine wp_tup ?_ | refine wp_lst ?_ | refine wp_lstM ?_ | refine wp_listM ?_
  | refine wp_sl0 ?_ | refine wp_sl1 ?_ | refine wp_sl2 ?_ | refine wp_sl3 ?_
  | refine wp_tval ?_ | refine wp_tnot ?_ | refine wp_tand ?_ | refine wp_tor ?_ | refine wp_tyes ?_ | refine wp_and ?_ | refine wp_or ?_ | refine wp_not ?_ | refine wp_ifx ?_ | refine wp_chain ?_ | refine wp_meth ?_ | refine wp_meth0 ?_
  | refine wp_isi ?_ | refine wp_isis ?_ | refine wp_repr ?_ | refine wp_maxD ?_ | refine wi_rng3 ?_
  | refine wi_seq ?_ | refine wi_rng1 ?_ | refine wi_rng2 ?_ | refine wi_zip2 ?_ | refine wi_zipS ?_
  | (refine wp_fnB (ρ := ?ρ) ?he ?_; (case he => (simp only [List.map_cons, List.map_nil, List.length_cons, List.length_nil, List.replicate, List.cons_append, List.nil_append, Nat.reduceAdd, Nat.reduceSub]; rfl))))
local macro_rules | `(tactic| walk_at "w2") => `(tactic| ((with_reducible refine wo_id ?_); with_reducible first
  | refine vo_sub ?_ | refine vo_add ?_ | refine vo_lt ?_ | refine vo_le ?_ | refine vo_gt ?_ | refine vo_ge ?_ | refine vo_eq ?_ | refine vo_ne ?_ | refine vo_eqS ?_ | refine vo_neS ?_ | refine vo_eqB ?_ | refine vo_neB ?_ | refine vo_neg ?_ | refine vo_slT ?_ | refine vo_slL ?_ | refine vo_slS ?_ | refine vo_lenT ?_ | refine vo_lenL ?_ | refine vo_lenS ?_ | refine vo_revT ?_ | refine vo_revL ?_ | refine vo_min ?_ | refine vo_max ?_ | refine vo_tupL ?_ | refine vo_tupT ?_ | refine vo_lisL ?_ | refine vo_lisT ?_
  | refine vo_igAdd ?_ | refine vo_igMulR (by omega) ?_ | refine vo_igMulL (by omega) ?_ | refine vo_mod (by omega) ?_ | refine vo_div (by omega) ?_ | refine vo_mulR (by omega) ?_ | refine vo_mulL (by omega) ?_
  | refine vo_ixL0 ?_ | refine vo_ixL1 ?_ | refine vo_ixL2 ?_ | refine vo_ixL3 ?_ | refine vo_ixL4 ?_ | refine vo_ixL5 ?_ | refine vo_ixL6 ?_ | refine vo_ixT0 ?_ | refine vo_ixT1 ?_ | refine vo_ixT2 ?_ | refine vo_ixT3 ?_ | refine vo_ixT4 ?_ | refine vo_ixT5 ?_ | refine vo_ixT6 ?_
  | refine wo_vw1 (by assumption) ?_ | refine wo_vw2 (by assumption) ?_ | refine vo_vwc (by assumption) ?_
  | (refine vo_isi (c := ?c) ?h ?q; (case h => with_unfolding_all rfl)) | (refine vo_isis (c := ?c) ?h ?q; (case h => with_unfolding_all rfl))))
local macro_rules | `(tactic| walk_at "w3") => `(tactic| first
  | with_reducible refine ite_f ?_ | with_reducible refine ite_nt ?_ | with_reducible refine ite_nf ?_ | with_reducible refine ite_t ?_
  | ((with_reducible refine ex_id ?_); refine ⟨_, rfl, ?_⟩) | ((with_reducible refine and_id ?_); refine ⟨Nat.le_of_ble_eq_true rfl, ?_⟩))
local macro_rules | `(tactic| walk_at "w") => `(tactic| repeat (first | walk_at "w1" | walk_at "w2" | walk_at "w3"))
end LE
namespace LH
open DL
local macro_rules | `(tactic| walk_at "w1") => `(tactic| with_reducible first
  | (refine ws_then ?_; try with_reducible dsimp only [List.set_cons_zero, List.set_cons_succ]) | refine ws_seq ?_ | refine ws_asg ?_ | refine ws_expr ?_ | refine ws_ret ?_ | refine ws_if ?_ | refine ws_asgT ?_ | refine ws_setIx ?_ | refine ws_skip ?_ | refine ws_retN ?_ | refine ws_brk ?_ | refine ws_cont ?_ | refine ws_thenR ?_ | refine ws_thenB ?_ | refine ws_thenC ?_ | refine fq_rt ?_ | refine fq_nx ?_ | refine un_nx ?_ | refine un_ct ?_ | refine un_bk ?_ | refine un_rt ?_ | refine ws_loopN ?_
  | (refine ws_loopC (ρ1 := ?r) ?h ?q; (case h => with_unfolding_all rfl); try with_reducible dsimp only [List.set_cons_zero, List.set_cons_succ])
  | refine wp_c ?_ | refine wp_op2 ?_ | refine wp_fn ?_ | refine wp_cons ?_ | refine wp_nil ?_ | refine wp_call ?_ | refine wp_op1 ?_
  | (refine wp_var (d := ?d) ?h ?q; (case h => with_unfolding_all rfl))
  | (refine ws_aug (d := ?d) ?h ?q; (case h => with_unfolding_all rfl))
  | refine wp_tup ?_ | refine wp_lst ?_ | refine wp_lstM ?_ | refine wp_listM ?_
  | refine wp_sl0 ?_ | refine wp_sl1 ?_ | refine wp_sl2 ?_ | refine wp_sl3 ?_
  | refine wp_tval ?_ | refine wp_tnot ?_ | refine wp_tand ?_ | refine wp_tor ?_ | refine wp_tyes ?_ | refine wp_and ?_ | refine wp_or ?_ | refine wp_not ?_ | refine wp_ifx ?_ | refine wp_chain ?_ | refine wp_meth ?_ | refine wp_meth0 ?_
  | refine wp_isi ?_ | refine wp_isis ?_ | refine wp_repr ?_ | refine wp_maxD ?_ | refine wi_rng3 ?_
  | refine wi_seq ?_ | refine wi_rng1 ?_ | refine wi_rng2 ?_ | refine wi_zip2 ?_ | refine wi_zipS ?_
  | (refine wp_fnB (ρ := ?ρ) ?he ?_; (case he => (simp only [List.map_cons, List.map_nil, List.length_cons, List.length_nil, List.replicate, List.cons_append, List.nil_append, Nat.reduceAdd, Nat.reduceSub]; rfl))))
local macro_rules | `(tactic| walk_at "w2") => `(tactic| ((with_reducible refine wo_id ?_); with_reducible first
  | refine vo_sub ?_ | refine vo_add ?_ | refine vo_lt ?_ | refine vo_le ?_ | refine vo_gt ?_ | refine vo_ge ?_ | refine vo_eq ?_ | refine vo_ne ?_ | refine vo_eqS ?_ | refine vo_neS ?_ | refine vo_eqB ?_ | refine vo_neB ?_ | refine vo_neg ?_ | refine vo_slT ?_ | refine vo_slL ?_ | refine vo_slS ?_ | refine vo_lenT ?_ | refine vo_lenL ?_ | refine vo_lenS ?_ | refine vo_revT ?_ | refine vo_revL ?_ | refine vo_min ?_ | refine vo_max ?_ | refine vo_tupL ?_ | refine vo_tupT ?_ | refine vo_lisL ?_ | refine vo_lisT ?_
  | refine vo_igAdd ?_ | refine vo_igMulR (by omega) ?_ | refine vo_igMulL (by omega) ?_ | refine vo_mod (by omega) ?_ | refine vo_div (by omega) ?_ | refine vo_mulR (by omega) ?_ | refine vo_mulL (by omega) ?_
  | refine vo_ixL0 ?_ | refine vo_ixL1 ?_ | refine vo_ixL2 ?_ | refine vo_ixL3 ?_ | refine vo_ixL4 ?_ | refine vo_ixL5 ?_ | refine vo_ixL6 ?_ | refine vo_ixT0 ?_ | refine vo_ixT1 ?_ | refine vo_ixT2 ?_ | refine vo_ixT3 ?_ | refine vo_ixT4 ?_ | refine vo_ixT5 ?_ | refine vo_ixT6 ?_
  | refine wo_vw1 (by assumption) ?_ | refine wo_vw2 (by assumption) ?_ | refine vo_vwc (by assumption) ?_
  | (refine vo_isi (c := ?c) ?h ?q; (case h => with_unfolding_all rfl)) | (refine vo_isis (c := ?c) ?h ?q; (case h => with_unfolding_all rfl))))
local macro_rules | `(tactic| walk_at "w3") => `(tactic| first
  | with_reducible refine ite_f ?_ | with_reducible refine ite_nt ?_ | with_reducible refine ite_nf ?_ | with_reducible refine ite_t ?_
  | ((with_reducible refine ex_id ?_); refine ⟨_, rfl, ?_⟩) | ((with_reducible refine and_id ?_); refine ⟨Nat.le_of_ble_eq_true rfl, ?_⟩))
local macro_rules | `(tactic| walk_at "w") => `(tactic| repeat (first | walk_at "w1" | walk_at "w2" | walk_at "w3"))
end LH
set_option Elab.async false
set_option linter.all false
set_option maxRecDepth 100000
set_option maxHeartbeats 4000000
namespace DL
open PySem
structure QD (r : Nat → Option PyData) (d : D) (p : PyData) (w h : Nat) : Prop where
  e : toQr r d = some p
  s : smP p = true
  w : wtP p ≤ w
  h : p.depth ≤ h
structure QDs (r : Nat → Option PyData) (ds : List D) (ps : List PyData) (w h : Nat) : Prop where
  e : toQrs r ds = some ps
  s : smPs ps = true
  w : wtPs ps ≤ w
  h : PyData.depthAll ps ≤ h
structure QDk (r : Nat → Option PyData) (kvs : List (D × D)) (ps : List (PyData × PyData)) (w h : Nat) : Prop where
  e : toQrk r kvs = some ps
  s : smPk ps = true
  w : wtPk ps ≤ w
  h : PyData.depthKv ps ≤ h
section
variable {r : Nat → Option PyData}
theorem QD.mono {d : D} {p : PyData} {w h w' h' : Nat} (q : QD r d p w h) (hw : w ≤ w') (hh : h ≤ h') : QD r d p w' h' := ⟨q.e, q.s, Nat.le_trans q.w hw, Nat.le_trans q.h hh⟩
theorem QDs.mono {d : List D} {p : List PyData} {w h w' h' : Nat} (q : QDs r d p w h) (hw : w ≤ w') (hh : h ≤ h') : QDs r d p w' h' := ⟨q.e, q.s, Nat.le_trans q.w hw, Nat.le_trans q.h hh⟩
theorem QD.non : QD r .non .none 1 0 := ⟨by simp only [toQr], rfl, by simp [wtP], by simp [PyData.depth]⟩
theorem QD.bl (b : Bool) : QD r (.bl b) (.bool b) 1 0 := ⟨by simp only [toQr], rfl, by simp [wtP], by simp [PyData.depth]⟩
theorem QD.int {i : Int} (h : -1000000000000000000000000000000000000000000 ≤ i ∧ i ≤ 1000000000000000000000000000000000000000000) : QD r (.int i) (.int i) 1 0 := ⟨by simp only [toQr], by simp only [smP]; exact decide_eq_true (by omega), by simp [wtP], by simp [PyData.depth]⟩
theorem QD.str {x : Str} (h : (reprText x).length ≤ 14) : QD r (.str x) (.str x) 1 0 := ⟨by simp only [toQr], by simp only [smP], by simp only [wtP]; omega, by simp [PyData.depth]⟩
theorem QD.tup {ds : List D} {ps : List PyData} {w h : Nat} (q : QDs r ds ps w h) : QD r (.tup ds) (.tuple ps) (1 + w) (h + 1) := ⟨by simp only [toQr, q.e, Option.map_some], by simp only [smP]; exact q.s, by have := q.w; simp only [wtP]; omega, by have := q.h; simp only [PyData.depth]; omega⟩
theorem QD.lst {ds : List D} {ps : List PyData} {w h : Nat} (q : QDs r ds ps w h) : QD r (.lst ds) (.list ps) (1 + w) (h + 1) := ⟨by simp only [toQr, q.e, Option.map_some], by simp only [smP]; exact q.s, by have := q.w; simp only [wtP]; omega, by have := q.h; simp only [PyData.depth]; omega⟩
theorem QD.dic {ds : List (D × D)} {ps : List (PyData × PyData)} {w h : Nat} (q : QDk r ds ps w h) : QD r (.dic false ds) (.dict ps) (1 + w) (h + 1) := ⟨by simp only [toQr, q.e, Option.map_some], by simp only [smP]; exact q.s, by have := q.w; simp only [wtP]; omega, by have := q.h; simp only [PyData.depth]; omega⟩
theorem QDs.nil {h : Nat} : QDs r [] [] 0 h := ⟨by simp only [toQrs], rfl, by simp [wtPs], by simp [PyData.depthAll]⟩
theorem QDs.cons {d : D} {p : PyData} {ds : List D} {ps : List PyData} {w w' h : Nat} (q : QD r d p w h) (q' : QDs r ds ps w' h) : QDs r (d :: ds) (p :: ps) (w + w') h :=
  ⟨by simp only [toQrs, q.e, q'.e], by simp only [smPs, q.s, q'.s, Bool.and_self], by have := q.w; have := q'.w; simp only [wtPs]; omega, by have := q.h; have := q'.h; simp only [PyData.depthAll]; omega⟩
theorem QDk.nil {h : Nat} : QDk r [] [] 0 h := ⟨by simp only [toQrk], rfl, by simp [wtPk], by simp [PyData.depthKv]⟩
theorem QDk.cons {k d : D} {kp p : PyData} {ds : List (D × D)} {ps : List (PyData × PyData)} {w w' h : Nat} (hk : keyP k = some kp) (hks : smP kp = true) (hkw : wtP kp ≤ 1) (hkd : kp.depth ≤ h) (q : QD r d p w h) (q' : QDk r ds ps w' h) : QDk r ((k, d) :: ds) ((kp, p) :: ps) (1 + w + w') h :=
  ⟨by simp only [toQrk, hk, q.e, q'.e], by simp only [smPk, hks, q.s, q'.s, Bool.and_self], by have := q.w; have := q'.w; simp only [wtPk]; omega, by have := q.h; have := q'.h; simp only [PyData.depthKv]; omega⟩
/-- things alike -/
theorem QDs.map {α : Type} (f : α → D) (g : α → PyData) (w h : Nat) : ∀ l : List α, (∀ x ∈ l, QD r (f x) (g x) w h) → QDs r (l.map f) (l.map g) (w * l.length) h
  | [], _ => QDs.nil.mono (by simp) (Nat.le_refl _)
  | x :: l, q => (QDs.cons (q x (by simp)) (QDs.map f g w h l fun y hy => q y (by simp [hy]))).mono (by simp only [List.length_cons, Nat.mul_succ]; omega) (Nat.le_refl _)
theorem QDs.ints {xs : List Int} (h : ∀ x ∈ xs, -1000000000000000000000000000000000000000000 ≤ x ∧ x ≤ 1000000000000000000000000000000000000000000) : QDs r (xs.map .int) (xs.map .int) xs.length 0 := (QDs.map D.int PyData.int 1 0 xs fun x hx => QD.int (h x hx)).mono (by omega) (Nat.le_refl _)
theorem QDs.row {xs : List Int} (h : Row xs) : QDs r (xs.map .int) (xs.map .int) xs.length 0 := QDs.ints fun x hx => by have := h x hx; omega
theorem QD.row {xs : List Int} (h : Row xs) : QD r (rowD xs) (.tuple (xs.map .int)) (1 + xs.length) 1 := QD.tup (QDs.row h)
end
/-- a live list, a live dict -/
theorem QD.refL {S : Sto} {n : Nat} {xs : List D} {ps : List PyData} {w h : Nat} (e : S[n]? = some (some (.lst xs))) (q : QDs (fun _ => none) xs ps w h) : QD (rdQ S) (.ref n) (.list ps) (1 + w) (h + 1) :=
  ⟨by simp only [toQr, rdQ, e, q.e, Option.map_some], by simp only [smP]; exact q.s, by have := q.w; simp only [wtP]; omega, by have := q.h; simp only [PyData.depth]; omega⟩
theorem ex_q {S : Sto} {d : D} {p : PyData} {w k : Nat} {P : PyData → Prop} (q : QD (rdQ S) d p w k) (h : P p) (hw : w ≤ 200000 := by omega) (hk : k ≤ 40 := by omega) : ∃ p, toQ S d = some p ∧ smP p = true ∧ wtP p ≤ 200000 ∧ p.depth ≤ 40 ∧ P p :=
  ⟨p, q.e, q.s, Nat.le_trans q.w hw, Nat.le_trans q.h hk, h⟩
end DL
set_option Elab.async false
set_option linter.all false
set_option maxRecDepth 100000
set_option maxHeartbeats 4000000
namespace DL
open PySem PySem.Spec PyProof.Rows L2
end DL
set_option Elab.async false
set_option linter.all false
set_option maxRecDepth 100000
set_option maxHeartbeats 4000000
namespace DL
open PySem PySem.Spec PyProof.Rows L2 PpSet
end DL
set_option Elab.async false
set_option linter.all false
set_option maxRecDepth 100000
set_option maxHeartbeats 4000000
namespace DL
open PySem PySem.Spec PyProof.Rows L2
end DL
set_option Elab.async false
set_option linter.all false
set_option maxRecDepth 100000
set_option maxHeartbeats 4000000
namespace DL
open PySem PySem.Spec PyProof.Rows L2
end DL
set_option Elab.async false
set_option linter.all false
set_option maxRecDepth 100000
set_option maxHeartbeats 4000000
namespace DL
open PySem PySem.Spec PyProof.Rows L2
end DL
set_option Elab.async false
set_option linter.all false
set_option maxRecDepth 100000
set_option maxHeartbeats 4000000
namespace DL
open PySem PySem.Spec PyProof.Rows L2
end DL
set_option Elab.async false
set_option linter.all false
set_option maxRecDepth 100000
set_option maxHeartbeats 4000000
namespace DL
open PySem PySem.Spec PyProof.Rows L2
end DL
set_option Elab.async false
set_option linter.all false
set_option maxRecDepth 100000
set_option maxHeartbeats 4000000
namespace DL
open PySem PySem.Spec PyProof.Rows L2
theorem repA_strs {K : PySem.W.Frag} {H : Hp} {Fb : Addr → Prop} {m : List Addr} : ∀ xs : List Str, RepA K H Fb m (xs.map V.str) (xs.map D.str)
  | [] => .nil
  | x :: xs => .cons (.str x) (repA_strs xs)
end DL
set_option Elab.async false
set_option linter.all false
set_option maxRecDepth 100000
set_option maxHeartbeats 4000000
namespace DL
open PySem PySem.Spec PyProof.Rows L2
def eStr1 (g : Str → D → Option D) (a b : Ex) : Ex := fun ρ S => (a ρ S).bind fun x S => match x with
  | .str s => (b ρ S).bind fun y S => ans S (g s (view S y))
  | _ => .bad
def rG3 (K : PySem.W.Frag) (g : Str → D → Option D) (r : V → List V → Hp → VK → Prop) : Prop :=
  ∀ (s : Str) (v : V) (dy d : D) (H : Hp) (Fb : Addr → Prop) (m : List Addr) (Q : VK), (∀ p, H p = none → ¬ Fb p) → Vw K H Fb m v dy → g s dy = some d → (∀ H' z, Same H H' → Rep K H' Fb m z d → Q z H') → r (.str s) [v] H Q
section
variable {X : Cx} {W : WX} {o e : Expr} {fo fe : Ex} {apos pos : Pos}
theorem ev_str1 {id : String} {name : Str} {g : Str → D → Option D} {r : V → List V → Hp → VK → Prop} (slot : Slot "str" name id) (ty : typeOf (.builtin id) = pure (.type "method_descriptor")) (rule : MtR X id r) (hg : rG3 X.K g r) (ho : EV X W o fo) (he : EV X W e fe)
    (hs : starEach [e] X.env = [(false, eval e X.env)] := by rfl) (hbase : attributeBase o name X.env (eval o X.env) = eval o X.env := by rfl) (hline : (apos.endLine == pos.line) = true := by rfl) :
    EV X W (.Call (.Attribute o name apos) [e] [] pos) (eStr1 g fo fe) := by
  refine pe_imp (pe_m1 slot ty rule ho he hs hbase hline) fun σ H Q h => ?_
  obtain ⟨B, m, ρ, S, r1, re, f⟩ := up_one (g := fun x ρ S => match x with
    | .str s => (fe ρ S).bind fun y S => ans S (g s (view S y))
    | _ => .bad) h
  refine ⟨B, m, ρ, S, r1, re, f.mono fun x H1 => ?_⟩
  rintro ⟨B, m, ρ, S, d, r1, re, rx, f⟩
  split at f
  · rename_i s
    cases rx
    refine ⟨⟨_, rfl⟩, B, m, ρ, S, r1, re, (fin.bind f).mono fun y H2 => ?_⟩
    rintro ⟨m1, S1, d1, po, q, f1⟩
    cases e : g s (view S1 d1) with
    | none => rw [e] at f1; exact f1.elim
    | some z =>
      rw [e] at f1
      exact hg s y _ z H2 _ m1 Q (fr_of po.rl) (vw po.rl q) e fun H' z s q => f1.ok po.rl s q
  · exact f.elim
def startsD (s : Str) (y : D) : Option D := match y with
  | .str t => some (.bl (Txt.startswith s t))
  | _ => none
def splitD (s : Str) (y : D) : Option D := match y with
  | .str t => if (t.length == 0) = false ∧ s.length ≤ 1000000 ∧ (Txt.split s t).length ≤ 16777216 then some (.lst ((Txt.split s t).map .str)) else none
  | _ => none
theorem ev_split (ho : EV X W o fo) (he : EV X W e fe) (hs : starEach [e] X.env = [(false, eval e X.env)] := by rfl) (hbase : attributeBase o "split" X.env (eval o X.env) = eval o X.env := by rfl) (hline : (apos.endLine == pos.line) = true := by rfl) :
    EV X W (.Call (.Attribute o "split" apos) [e] [] pos) (eStr1 splitD fo fe) := by
  refine ev_str1 F.slot_str_split F.type_str_split mt_split (fun s v dy d H Fb m Q fr vx eg k => ?_) ho he hs hbase hline
  cases dy <;> simp only [splitD] at eg <;> try (cases eg; done)
  split at eg
  · rename_i t hh
    cases eg
    cases vx.asS
    refine ⟨_, _, rfl, rfl, hh.1, by rw [sizeLine_eq]; have := hh.2.1; omega, fun p hp => ?_⟩
    exact k _ _ (same_upd hp) (.lst upd_same (fr p hp) (by rw [List.length_map, sizeLine_eq]; exact hh.2.2) (repA_strs _))
  · cases eg
end
section
variable {Q : D → Sto → Prop} {E : Px} {ρ : Ev} {S : Sto} {a b : Ex}
theorem wp_str1 {g : Str → D → Option D} (h : Wp (a ρ S) (fun x S1 => ∃ s, x = .str s ∧ Wp (b ρ S1) (fun y S2 => Wo (g s (view S2 y)) fun z => Q z S2) E) E) : Wp (eStr1 g a b ρ S) Q E :=
  wp_bind (h.mono fun x S1 ⟨s, e, h⟩ => by
    subst e
    exact (wp_bind (h.mono fun _ _ h => wp_ans h) : Wp ((b ρ S1).bind fun y S => ans S (g s (view S y))) Q E))
theorem vo_starts {s t : Str} {Q : D → Prop} (q : Q (.bl (Txt.startswith s t))) : Wo (startsD s (view S (.str t))) Q := ⟨q⟩
theorem vo_split {s t : Str} {Q : D → Prop} (h1 : (t.length == 0) = false) (h2 : s.length ≤ 1000000) (h3 : (Txt.split s t).length ≤ 16777216) (q : Q (.lst ((Txt.split s t).map .str))) : Wo (splitD s (view S (.str t))) Q := by
  refine Wo.of ?_ q
  show (if _ then _ else _) = _
  rw [if_pos ⟨h1, h2, h3⟩]
end
open TL
end DL
namespace DL
open PySem PySem.Spec PyProof.Rows L2
section
variable {S : Sto} {Q : D → Prop} {x y : Str}
theorem vo_addS (h : x.length + y.length ≤ 16777216) (q : Q (.str (x ++ y))) : Wo (addD (view S (.str x)) (view S (.str y))) Q := .of (if_pos (by rw [sizeLine_eq]; exact h)) q
theorem vo_slX {l h : Option Int} (hz : x.length ≤ 16777216) (q : Q (.str (cutS x l h))) : Wo (slD (view S (.str x)) l h) Q := .of (if_pos (by rw [sizeLine_eq]; exact hz)) q
theorem vo_lenX (hz : x.length ≤ 16777216) (q : Q (.int x.length)) : Wo (lenD (List.map (view S) [.str x])) Q := .of (if_pos (by rw [sizeLine_eq]; exact hz)) q
end
theorem slash_len : ("/" : Str).length = 1 := by decide
theorem tl_slash : TL.tl ("/" : Str) = [47] := by decide
end DL
set_option Elab.async false
set_option linter.all false
set_option maxRecDepth 100000
set_option maxHeartbeats 4000000
namespace DL
open PySem PySem.Spec PyProof.Rows L2
/-- v is a tuple whose first item is the key k -/
def FstIn (h : Heap) (v : Value) (k : Key) : Prop := ∃ (a : Addr) (u : Value) (r : List Value), v = .ref a ∧ IsTup h a (u :: r).toArray ∧ RelV (kV k) u
theorem FstIn.keeps {h h' : Heap} {v : Value} {k : Key} (x : FstIn h v k) (kk : ∀ b o, h.get? b = some o → o.cls = .type "tuple" → h'.get? b = some o) : FstIn h' v k := by
  obtain ⟨a, u, r, e, ⟨o, ho, hc, rr⟩, q⟩ := x
  exact ⟨a, u, r, e, ⟨o, kk _ _ ho hc, hc, rr⟩, q⟩
end DL
set_option Elab.async false
set_option linter.all false
set_option maxRecDepth 100000
set_option maxHeartbeats 4000000
namespace DL
open PySem PySem.Spec PyProof.Rows L2
end DL
set_option Elab.async false
set_option linter.all false
set_option maxRecDepth 100000
set_option maxHeartbeats 4000000
namespace DL
open PySem PySem.Spec PyProof.Rows L2
mutual
def sd : D → Bool
  | .non => true
  | .bl _ => true
  | .int _ => true
  | .str x => PyData.strOk x
  | .tup xs => sds xs
  | .lst xs => sds xs
  | _ => false
def sds : List D → Bool
  | [] => true
  | d :: ds => sd d && sds ds
end
mutual
theorem sd_ok : ∀ d : D, sd d = true → ∃ p, toP d = some p ∧ p.canLay0 = true ∧ p.depth ≤ dpD d
  | .non, _ => ⟨_, rfl, by simp [PyData.canLay0], by simp [PyData.depth]⟩
  | .bl _, _ => ⟨_, rfl, by simp [PyData.canLay0], by simp [PyData.depth]⟩
  | .int _, _ => ⟨_, rfl, by simp [PyData.canLay0], by simp [PyData.depth]⟩
  | .str x, h => ⟨_, rfl, by simpa [PyData.canLay0, sd] using h, by simp [PyData.depth]⟩
  | .tup xs, h => by
    obtain ⟨ps, h1, h2, h3⟩ := sds_ok xs (by simpa [sd] using h)
    exact ⟨.tuple ps, by simp [toP, h1], by simpa [PyData.canLay0] using h2, by simp only [PyData.depth, dpD]; omega⟩
  | .lst xs, h => by
    obtain ⟨ps, h1, h2, h3⟩ := sds_ok xs (by simpa [sd] using h)
    exact ⟨.list ps, by simp [toP, h1], by simpa [PyData.canLay0] using h2, by simp only [PyData.depth, dpD]; omega⟩
  | .dic _ _, h => by simp [sd] at h
  | .ref _, h => by simp [sd] at h
  | .raw _, h => by simp [sd] at h
  | .scr _, h => by simp [sd] at h
  | .exn _ _, h => by simp [sd] at h
theorem sds_ok : ∀ ds : List D, sds ds = true → ∃ ps, toPs ds = some ps ∧ PyData.canLayAll0 ps = true ∧ PyData.depthAll ps ≤ dpDs ds
  | [], _ => ⟨[], rfl, by simp [PyData.canLayAll0], by simp [PyData.depthAll]⟩
  | d :: ds, h => by
    simp only [sds, Bool.and_eq_true] at h
    obtain ⟨p, a1, a2, a3⟩ := sd_ok d h.1
    obtain ⟨ps, b1, b2, b3⟩ := sds_ok ds h.2
    exact ⟨p :: ps, by simp [toPs, a1, b1], by simp [PyData.canLayAll0, a2, b2], by simp only [PyData.depthAll, dpDs]; omega⟩
end
theorem eqB_nil {xs : List D} (h : sds xs = true) (hd : dpDs xs ≤ 60) : eqB (.lst xs) (.lst []) = some xs.isEmpty := by
  obtain ⟨ps, h1, h2, h3⟩ := sds_ok xs h
  have s1 : SeqAt.shaped (.list ps) = true := by simp [SeqAt.shaped, PyData.canLay0, h2, PyData.depth]; omega
  have s2 : SeqAt.shaped (.list []) = true := by simp [SeqAt.shaped, PyData.canLay0, PyData.canLayAll0, PyData.depth, PyData.depthAll]
  have e1 : eqS (.lst xs) (.lst []) = none := rfl
  unfold eqB
  rw [e1]
  simp only [toP, h1, Option.map_some, toPs, s1, s2, Bool.and_self, if_true]
  cases ps with
  | nil =>
    cases xs with
    | nil => simp [PyData.eqv, PyData.eqvAll]
    | cons x xs => simp [toPs] at h1; split at h1 <;> simp at h1
  | cons p ps =>
    cases xs with
    | nil => simp [toPs] at h1
    | cons x xs => simp [PyData.eqv, PyData.eqvAll]
section
variable {S : Sto} {Q : D → Prop} {d : D} {xs : List D}
theorem vo_neNil (h : sds xs = true) (hd : dpDs xs ≤ 60) (q : Q (.bl (!xs.isEmpty))) : Wo (neD (view S (.lst xs)) (view S (.lst []))) Q := .of (by show (eqB (.lst xs) (.lst [])).map _ = _; rw [eqB_nil h hd]; rfl) q
end
end DL
namespace DL
open PySem PySem.Spec PyProof.Rows L2
theorem nb_ff {A B : Prop} (h : B) : ((!(false == false)) = true → A) ∧ ((!(false == false)) = false → B) := ⟨fun z => by simp at z, fun _ => h⟩
theorem nb_tt {A B : Prop} (h : B) : ((!(true == true)) = true → A) ∧ ((!(true == true)) = false → B) := ⟨fun z => by simp at z, fun _ => h⟩
theorem nb_ft {A B : Prop} (h : A) : ((!(false == true)) = true → A) ∧ ((!(false == true)) = false → B) := ⟨fun _ => h, fun z => by simp at z⟩
theorem nb_tf {A B : Prop} (h : A) : ((!(true == false)) = true → A) ∧ ((!(true == false)) = false → B) := ⟨fun _ => h, fun z => by simp at z⟩
section
variable {S : Sto} {Q : D → Prop}
theorem vo_isBN {b : Bool} (q : Q (.bl false)) : Wo (isD (view S (.bl b)) (view S .non)) Q := ⟨q⟩
theorem vo_isSN {x : Str} (q : Q (.bl false)) : Wo (isD (view S (.str x)) (view S .non)) Q := ⟨q⟩
theorem vo_isLN {xs : List D} (q : Q (.bl false)) : Wo (isD (view S (.lst xs)) (view S .non)) Q := ⟨q⟩
theorem vo_isDN {kvs : List (D × D)} (q : Q (.bl false)) : Wo (isD (view S (.dic false kvs)) (view S .non)) Q := ⟨q⟩
end
end DL
set_option Elab.async false
set_option linter.all false
set_option maxRecDepth 100000
set_option maxHeartbeats 4000000
namespace DL
open PySem PySem.Spec PyProof.Rows L2
end DL
set_option Elab.async false
set_option linter.all false
set_option maxRecDepth 100000
set_option maxHeartbeats 4000000
namespace DL
open PySem PySem.Spec PyProof.Rows L2 PpSet
end DL
set_option Elab.async false
set_option linter.all false
set_option maxRecDepth 100000
set_option maxHeartbeats 4000000
namespace DL
open PySem PySem.Spec PyProof.Rows L2
end DL
set_option Elab.async false
set_option linter.all false
set_option maxRecDepth 100000
set_option maxHeartbeats 4000000
namespace DL
open PySem PySem.Spec PyProof.Rows L2
end DL
set_option Elab.async false
set_option linter.all false
set_option maxRecDepth 100000
set_option maxHeartbeats 4000000
namespace DL
open PySem PySem.Spec PyProof.Rows L2
section
variable {X : Cx} {W : WX} {o e f : Expr} {fo fe ff : Ex} {td ty : TE} {pos apos cpos : Pos}
def isLs : D → Bool
  | .lst _ => true
  | _ => false
end
end DL
set_option Elab.async false
set_option linter.all false
set_option maxRecDepth 100000
set_option maxHeartbeats 4000000
namespace DL
open PySem PySem.Spec PyProof.Rows L2
end DL
set_option Elab.async false
set_option linter.all false
set_option maxRecDepth 100000
set_option maxHeartbeats 4000000
namespace DL
open PySem PySem.Spec PyProof.Rows L2
def kT {α : Type} (f : α → D) (l : List (Str × α)) : List (D × D) := l.map fun p => (.str p.1, f p.2)
abbrev dT {α : Type} (f : α → D) (l : List (Str × α)) : D := .dic false (kT f l)
def getT {α : Type} : List (Str × α) → Str → Option α
  | [], _ => none
  | p :: l, k => if p.1 = k then some p.2 else getT l k
end DL
set_option Elab.async false
set_option linter.all false
set_option maxRecDepth 100000
set_option maxHeartbeats 4000000
namespace LB
open PySem PySem.Spec PyProof.Rows L2 DL
end LB
set_option Elab.async false
set_option linter.all false
set_option maxRecDepth 100000
set_option maxHeartbeats 4000000
namespace LB
open DL PySem
local macro_rules | `(tactic| walk_at "w1") => `(tactic| with_reducible first
  | (refine ws_then ?_; try with_reducible dsimp only [List.set_cons_zero, List.set_cons_succ]) | refine ws_seq ?_ | refine ws_asg ?_ | refine ws_expr ?_ | refine ws_ret ?_ | refine ws_if ?_ | refine ws_asgT ?_ | refine ws_skip ?_ | refine ws_retN ?_ | refine ws_brk ?_ | refine ws_cont ?_ | refine ws_thenR ?_ | refine ws_thenB ?_ | refine ws_thenC ?_ | refine fq_rt ?_ | refine fq_nx ?_ | refine un_nx ?_ | refine un_ct ?_ | refine un_bk ?_ | refine un_rt ?_ | refine ws_loopN ?_
  | (refine ws_loopC (ρ1 := ?r) ?h ?q; (case h => with_unfolding_all rfl); try with_reducible dsimp only [List.set_cons_zero, List.set_cons_succ])
  | refine wp_c ?_ | refine wp_op2 ?_ | refine wp_fn ?_ | refine wp_cons ?_ | refine wp_nil ?_ | refine wp_call ?_ | refine wp_op1 ?_
  | (refine wp_var (d := ?d) ?h ?q; (case h => with_unfolding_all rfl))
  | (refine ws_aug (d := ?d) ?h ?q; (case h => with_unfolding_all rfl))
  | refine wp_tup ?_ | refine wp_lst ?_ | refine wp_lstM ?_ | refine wp_listM ?_
  | refine wp_sl0 ?_ | refine wp_sl1 ?_ | refine wp_sl2 ?_ | refine wp_sl3 ?_
  | refine wp_tval ?_ | refine wp_tnot ?_ | refine wp_tand ?_ | refine wp_tor ?_ | refine wp_tyes ?_ | refine wp_and ?_ | refine wp_or ?_ | refine wp_not ?_ | refine wp_ifx ?_ | refine wp_chain ?_ | refine wp_meth ?_ | refine wp_meth0 ?_
  | refine wp_isi ?_ | refine wp_isis ?_ | refine wp_repr ?_ | refine wp_maxD ?_ | refine wi_rng3 ?_
  | refine wp_str1 ?_ | refine ws_par ?_ | refine wp_dnew ?_ | refine wp_get2 ?_ | refine wp_reprQ ?_ | refine wp_fnK ?_ | refine wi_valsI ?_ | refine wi_itemsI ?_ | refine ws_augI ?_
  | refine wi_seq ?_ | refine wi_rng1 ?_ | refine wi_rng2 ?_ | refine wi_zip2 ?_ | refine wi_zipS ?_
  | (refine wp_fnB (ρ := ?ρ) ?he ?_; (case he => (simp only [List.map_cons, List.map_nil, List.length_cons, List.length_nil, List.replicate, List.cons_append, List.nil_append, Nat.reduceAdd, Nat.reduceSub]; rfl))))
local macro_rules | `(tactic| walk_at "w2") => `(tactic| ((with_reducible refine wo_id ?_); with_reducible first
  | refine vo_sub ?_ | refine vo_add ?_ | refine vo_lt ?_ | refine vo_le ?_ | refine vo_gt ?_ | refine vo_ge ?_ | refine vo_eq ?_ | refine vo_ne ?_ | refine vo_eqS ?_ | refine vo_neS ?_ | refine vo_eqB ?_ | refine vo_neB ?_ | refine vo_neg ?_ | refine vo_slT ?_ | refine vo_slL ?_ | refine vo_slS ?_ | refine vo_lenT ?_ | refine vo_lenL ?_ | refine vo_lenS ?_ | refine vo_revT ?_ | refine vo_revL ?_ | refine vo_min ?_ | refine vo_max ?_ | refine vo_tupL ?_ | refine vo_tupT ?_ | refine vo_lisL ?_ | refine vo_lisT ?_
  | refine vo_igAdd ?_ | refine vo_igMulR (by omega) ?_ | refine vo_igMulL (by omega) ?_ | refine vo_mod (by omega) ?_ | refine vo_div (by omega) ?_ | refine vo_mulR (by omega) ?_ | refine vo_mulL (by omega) ?_
  | refine vo_ixL0 ?_ | refine vo_ixL1 ?_ | refine vo_ixL2 ?_ | refine vo_ixL3 ?_ | refine vo_ixL4 ?_ | refine vo_ixL5 ?_ | refine vo_ixL6 ?_ | refine vo_ixT0 ?_ | refine vo_ixT1 ?_ | refine vo_ixT2 ?_ | refine vo_ixT3 ?_ | refine vo_ixT4 ?_ | refine vo_ixT5 ?_ | refine vo_ixT6 ?_
  | refine vo_starts ?_ | refine vo_isBN ?_ | refine vo_isSN ?_ | refine vo_isLN ?_ | refine vo_isDN ?_ | refine vo_slX (by first | assumption | omega) ?_ | refine vo_lenX (by first | assumption | omega) ?_ | refine vo_addS (by first | assumption | omega) ?_
  | refine vo_inT ?_ | refine vo_ninT ?_ | refine vo_inL ?_ | refine vo_ninL ?_ | refine vo_inI ?_ | refine vo_ninI ?_ | refine vo_sortI (by first | assumption | omega) ?_ | refine vo_sortL ?_ | refine vo_lenI ?_ | refine vo_lt3 ?_ | refine vo_isNN ?_ | refine vo_is3N ?_ | refine vo_isTN ?_ | refine vo_isIN ?_ | refine vo_igAddI ?_ | refine vo_ixI (by assumption) ?_
  | refine vo_vwD1 (by assumption) ?_ | refine vo_vwDc (by assumption) ?_
  | refine wo_vw1 (by assumption) ?_ | refine wo_vw2 (by assumption) ?_ | refine vo_vwc (by assumption) ?_
  | (refine vo_isi (c := ?c) ?h ?q; (case h => with_unfolding_all rfl)) | (refine vo_isis (c := ?c) ?h ?q; (case h => with_unfolding_all rfl))))
local macro_rules | `(tactic| walk_at "w3") => `(tactic| first
  | with_reducible refine nb_ff ?_ | with_reducible refine nb_tt ?_ | with_reducible refine nb_ft ?_ | with_reducible refine nb_tf ?_
  | with_reducible refine ite_f ?_ | with_reducible refine ite_nt ?_ | with_reducible refine ite_nf ?_ | with_reducible refine ite_t ?_
  | ((with_reducible refine ex_id ?_); refine ⟨_, rfl, ?_⟩) | ((with_reducible refine and_id ?_); refine ⟨Nat.le_of_ble_eq_true rfl, ?_⟩))
local macro_rules | `(tactic| walk_at "w") => `(tactic| repeat (first | walk_at "w1" | walk_at "w2" | walk_at "w3"))
theorem pick_lt {zs : List Int} {i : Int} (h : 0 ≤ i ∧ i < zs.length) : ∃ z ∈ zs, L2.atI (zs.map D.int) i = some (.int z) := ⟨zs[i.toNat]'(by omega), List.getElem_mem _, by rw [atI_in h.1 (by rw [List.length_map]; omega), List.getElem_map]⟩
end LB
namespace LB
open DL PySem
local macro_rules | `(tactic| walk_at "w1") => `(tactic| with_reducible first
  | (refine ws_then ?_; try with_reducible dsimp only [List.set_cons_zero, List.set_cons_succ]) | refine ws_seq ?_ | refine ws_asg ?_ | refine ws_expr ?_ | refine ws_ret ?_ | refine ws_if ?_ | refine ws_asgT ?_ | refine ws_skip ?_ | refine ws_retN ?_ | refine ws_brk ?_ | refine ws_cont ?_ | refine ws_thenR ?_ | refine ws_thenB ?_ | refine ws_thenC ?_ | refine fq_rt ?_ | refine fq_nx ?_ | refine un_nx ?_ | refine un_ct ?_ | refine un_bk ?_ | refine un_rt ?_ | refine ws_loopN ?_
  | (refine ws_loopC (ρ1 := ?r) ?h ?q; (case h => with_unfolding_all rfl); try with_reducible dsimp only [List.set_cons_zero, List.set_cons_succ])
  | refine wp_c ?_ | refine wp_op2 ?_ | refine wp_fn ?_ | refine wp_cons ?_ | refine wp_nil ?_ | refine wp_call ?_ | refine wp_op1 ?_
  | (refine wp_var (d := ?d) ?h ?q; (case h => with_unfolding_all rfl))
  | (refine ws_aug (d := ?d) ?h ?q; (case h => with_unfolding_all rfl))
  | refine wp_tup ?_ | refine wp_lst ?_ | refine wp_lstM ?_ | refine wp_listM ?_
  | refine wp_sl0 ?_ | refine wp_sl1 ?_ | refine wp_sl2 ?_ | refine wp_sl3 ?_
  | refine wp_tval ?_ | refine wp_tnot ?_ | refine wp_tand ?_ | refine wp_tor ?_ | refine wp_tyes ?_ | refine wp_and ?_ | refine wp_or ?_ | refine wp_not ?_ | refine wp_ifx ?_ | refine wp_chain ?_ | refine wp_meth ?_ | refine wp_meth0 ?_
  | refine wp_isi ?_ | refine wp_isis ?_ | refine wp_repr ?_ | refine wp_maxD ?_ | refine wi_rng3 ?_
  | refine wp_str1 ?_ | refine ws_par ?_ | refine wp_dnew ?_ | refine wp_get2 ?_ | refine wp_reprQ ?_ | refine wp_fnK ?_ | refine wi_valsI ?_ | refine wi_itemsI ?_ | refine ws_augI ?_
  | refine wi_seq ?_ | refine wi_rng1 ?_ | refine wi_rng2 ?_ | refine wi_zip2 ?_ | refine wi_zipS ?_
  | (refine wp_fnB (ρ := ?ρ) ?he ?_; (case he => (simp only [List.map_cons, List.map_nil, List.length_cons, List.length_nil, List.replicate, List.cons_append, List.nil_append, Nat.reduceAdd, Nat.reduceSub]; rfl))))
local macro_rules | `(tactic| walk_at "w2") => `(tactic| ((with_reducible refine wo_id ?_); with_reducible first
  | refine vo_sub ?_ | refine vo_add ?_ | refine vo_lt ?_ | refine vo_le ?_ | refine vo_gt ?_ | refine vo_ge ?_ | refine vo_eq ?_ | refine vo_ne ?_ | refine vo_eqS ?_ | refine vo_neS ?_ | refine vo_eqB ?_ | refine vo_neB ?_ | refine vo_neg ?_ | refine vo_slT ?_ | refine vo_slL ?_ | refine vo_slS ?_ | refine vo_lenT ?_ | refine vo_lenL ?_ | refine vo_lenS ?_ | refine vo_revT ?_ | refine vo_revL ?_ | refine vo_min ?_ | refine vo_max ?_ | refine vo_tupL ?_ | refine vo_tupT ?_ | refine vo_lisL ?_ | refine vo_lisT ?_
  | refine vo_igAdd ?_ | refine vo_igMulR (by omega) ?_ | refine vo_igMulL (by omega) ?_ | refine vo_mod (by omega) ?_ | refine vo_div (by omega) ?_ | refine vo_mulR (by omega) ?_ | refine vo_mulL (by omega) ?_
  | refine vo_ixL0 ?_ | refine vo_ixL1 ?_ | refine vo_ixL2 ?_ | refine vo_ixL3 ?_ | refine vo_ixL4 ?_ | refine vo_ixL5 ?_ | refine vo_ixL6 ?_ | refine vo_ixT0 ?_ | refine vo_ixT1 ?_ | refine vo_ixT2 ?_ | refine vo_ixT3 ?_ | refine vo_ixT4 ?_ | refine vo_ixT5 ?_ | refine vo_ixT6 ?_
  | refine vo_starts ?_ | refine vo_isBN ?_ | refine vo_isSN ?_ | refine vo_isLN ?_ | refine vo_isDN ?_ | refine vo_slX (by first | assumption | omega) ?_ | refine vo_lenX (by first | assumption | omega) ?_ | refine vo_addS (by first | assumption | omega) ?_
  | refine vo_inT ?_ | refine vo_ninT ?_ | refine vo_inL ?_ | refine vo_ninL ?_ | refine vo_inI ?_ | refine vo_ninI ?_ | refine vo_sortI (by first | assumption | omega) ?_ | refine vo_sortL ?_ | refine vo_lenI ?_ | refine vo_lt3 ?_ | refine vo_isNN ?_ | refine vo_is3N ?_ | refine vo_isTN ?_ | refine vo_isIN ?_ | refine vo_igAddI ?_ | refine vo_ixI (by assumption) ?_
  | refine vo_vwD1 (by assumption) ?_ | refine vo_vwDc (by assumption) ?_
  | refine wo_vw1 (by assumption) ?_ | refine wo_vw2 (by assumption) ?_ | refine vo_vwc (by assumption) ?_
  | (refine vo_isi (c := ?c) ?h ?q; (case h => with_unfolding_all rfl)) | (refine vo_isis (c := ?c) ?h ?q; (case h => with_unfolding_all rfl))))
local macro_rules | `(tactic| walk_at "w3") => `(tactic| first
  | with_reducible refine nb_ff ?_ | with_reducible refine nb_tt ?_ | with_reducible refine nb_ft ?_ | with_reducible refine nb_tf ?_
  | with_reducible refine ite_f ?_ | with_reducible refine ite_nt ?_ | with_reducible refine ite_nf ?_ | with_reducible refine ite_t ?_
  | ((with_reducible refine ex_id ?_); refine ⟨_, rfl, ?_⟩) | ((with_reducible refine and_id ?_); refine ⟨Nat.le_of_ble_eq_true rfl, ?_⟩))
local macro_rules | `(tactic| walk_at "w") => `(tactic| repeat (first | walk_at "w1" | walk_at "w2" | walk_at "w3"))
def Let (c : Nat) : Prop := 97 ≤ c ∧ c ≤ 122
structure NameT (t : Str) : Prop where
  lo : 1 ≤ t.length
  hi : t.length ≤ 8
  ch : ∀ c ∈ TL.tl t, Let c
def PathOf (p : Str) (ns : List Str) : Prop := (1 ≤ ns.length ∧ ns.length ≤ 3) ∧ (∀ n ∈ ns, NameT n) ∧ p = Txt.join ("/" : Str) ns
def PathT (p : Str) : Prop := ∃ ns, PathOf p ns
theorem join_len (s : Str) : ∀ l : List Str, (Txt.join s l).length ≤ (l.map (·.length)).sum + l.length * s.length := fun l => by
  rw [TL.join_eq]; exact StrLaws.join_length_le s l
theorem PathT.len {p : Str} (h : PathT p) : p.length ≤ 27 := by
  obtain ⟨ns, ⟨h1, h2⟩, h3, rfl⟩ := h
  have hs : (ns.map (·.length)).sum ≤ 8 * ns.length := by
    clear h1 h2
    induction ns with
    | nil => simp
    | cons a as ih =>
      have := (h3 a (by simp)).hi
      have := ih fun t ht => h3 t (by simp [ht])
      simp only [List.map_cons, List.sum_cons, List.length_cons]
      omega
  have := join_len ("/" : Str) ns
  rw [slash_len] at this
  omega
theorem joinL_mem {c : Nat} {s : List Nat} : ∀ {l : List (List Nat)}, c ∈ TL.joinL s l → c ∈ s ∨ ∃ x ∈ l, c ∈ x
  | [], h => by simp [TL.joinL] at h
  | [x], h => .inr ⟨x, by simp, by simpa [TL.joinL] using h⟩
  | x :: y :: l, h => by
    have h : c ∈ x ++ s ++ TL.joinL s (y :: l) := by simpa [TL.joinL] using h
    rcases List.mem_append.mp h with h | h
    · rcases List.mem_append.mp h with h | h
      · exact .inr ⟨x, by simp, h⟩
      · exact .inl h
    · rcases joinL_mem h with h | ⟨z, hz, h⟩
      · exact .inl h
      · exact .inr ⟨z, by simp [hz], h⟩
theorem PathT.ch {p : Str} (h : PathT p) : ∀ c ∈ TL.tl p, Let c ∨ c = 47 := by
  obtain ⟨ns, _, h3, rfl⟩ := h
  intro c hc
  rw [TL.join_eq, TL.tl_join, tl_slash] at hc
  rcases joinL_mem hc with h | ⟨x, hx, h⟩
  · right; simpa using h
  · obtain ⟨y, hy, rfl⟩ := List.mem_map.mp hx
    exact .inl ((h3 y hy).ch c h)
/-- a text of at most n letters and strokes -/
structure TxtT (n : Nat) (p : Str) : Prop where
  len : p.length ≤ n
  ch : ∀ c ∈ TL.tl p, Let c ∨ c = 47
theorem TxtT.ok {n : Nat} {p : Str} (h : TxtT n p) : PyData.strOk p = true := by
  unfold PyData.strOk
  rw [Array.all_eq_true']
  intro x hx
  have := h.ch x (by simpa [TL.tl] using hx)
  unfold Let at this
  exact decide_eq_true (by omega)
theorem TxtT.mono {n m : Nat} {p : Str} (h : TxtT n p) (hm : n ≤ m) : TxtT m p := ⟨Nat.le_trans h.len hm, h.ch⟩
end LB
set_option Elab.async false
set_option linter.all false
set_option maxRecDepth 100000
set_option maxHeartbeats 4000000
namespace LB
open DL PySem
local macro_rules | `(tactic| walk_at "w1") => `(tactic| with_reducible first
  | (refine ws_then ?_; try with_reducible dsimp only [List.set_cons_zero, List.set_cons_succ]) | refine ws_seq ?_ | refine ws_asg ?_ | refine ws_expr ?_ | refine ws_ret ?_ | refine ws_if ?_ | refine ws_asgT ?_ | refine ws_skip ?_ | refine ws_retN ?_ | refine ws_brk ?_ | refine ws_cont ?_ | refine ws_thenR ?_ | refine ws_thenB ?_ | refine ws_thenC ?_ | refine fq_rt ?_ | refine fq_nx ?_ | refine un_nx ?_ | refine un_ct ?_ | refine un_bk ?_ | refine un_rt ?_ | refine ws_loopN ?_
  | (refine ws_loopC (ρ1 := ?r) ?h ?q; (case h => with_unfolding_all rfl); try with_reducible dsimp only [List.set_cons_zero, List.set_cons_succ])
  | refine wp_c ?_ | refine wp_op2 ?_ | refine wp_fn ?_ | refine wp_cons ?_ | refine wp_nil ?_ | refine wp_call ?_ | refine wp_op1 ?_
  | (refine wp_var (d := ?d) ?h ?q; (case h => with_unfolding_all rfl))
  | (refine ws_aug (d := ?d) ?h ?q; (case h => with_unfolding_all rfl))
  | refine wp_tup ?_ | refine wp_lst ?_ | refine wp_lstM ?_ | refine wp_listM ?_
  | refine wp_sl0 ?_ | refine wp_sl1 ?_ | refine wp_sl2 ?_ | refine wp_sl3 ?_
  | refine wp_tval ?_ | refine wp_tnot ?_ | refine wp_tand ?_ | refine wp_tor ?_ | refine wp_tyes ?_ | refine wp_and ?_ | refine wp_or ?_ | refine wp_not ?_ | refine wp_ifx ?_ | refine wp_chain ?_ | refine wp_meth ?_ | refine wp_meth0 ?_
  | refine wp_isi ?_ | refine wp_isis ?_ | refine wp_repr ?_ | refine wp_maxD ?_ | refine wi_rng3 ?_
  | refine wp_str1 ?_ | refine ws_par ?_ | refine wp_dnew ?_ | refine wp_get2 ?_ | refine wp_reprQ ?_ | refine wp_fnK ?_ | refine wi_valsI ?_ | refine wi_itemsI ?_ | refine ws_augI ?_
  | refine wi_seq ?_ | refine wi_rng1 ?_ | refine wi_rng2 ?_ | refine wi_zip2 ?_ | refine wi_zipS ?_
  | (refine wp_fnB (ρ := ?ρ) ?he ?_; (case he => (simp only [List.map_cons, List.map_nil, List.length_cons, List.length_nil, List.replicate, List.cons_append, List.nil_append, Nat.reduceAdd, Nat.reduceSub]; rfl))))
local macro_rules | `(tactic| walk_at "w2") => `(tactic| ((with_reducible refine wo_id ?_); with_reducible first
  | refine vo_sub ?_ | refine vo_add ?_ | refine vo_lt ?_ | refine vo_le ?_ | refine vo_gt ?_ | refine vo_ge ?_ | refine vo_eq ?_ | refine vo_ne ?_ | refine vo_eqS ?_ | refine vo_neS ?_ | refine vo_eqB ?_ | refine vo_neB ?_ | refine vo_neg ?_ | refine vo_slT ?_ | refine vo_slL ?_ | refine vo_slS ?_ | refine vo_lenT ?_ | refine vo_lenL ?_ | refine vo_lenS ?_ | refine vo_revT ?_ | refine vo_revL ?_ | refine vo_min ?_ | refine vo_max ?_ | refine vo_tupL ?_ | refine vo_tupT ?_ | refine vo_lisL ?_ | refine vo_lisT ?_
  | refine vo_igAdd ?_ | refine vo_igMulR (by omega) ?_ | refine vo_igMulL (by omega) ?_ | refine vo_mod (by omega) ?_ | refine vo_div (by omega) ?_ | refine vo_mulR (by omega) ?_ | refine vo_mulL (by omega) ?_
  | refine vo_ixL0 ?_ | refine vo_ixL1 ?_ | refine vo_ixL2 ?_ | refine vo_ixL3 ?_ | refine vo_ixL4 ?_ | refine vo_ixL5 ?_ | refine vo_ixL6 ?_ | refine vo_ixT0 ?_ | refine vo_ixT1 ?_ | refine vo_ixT2 ?_ | refine vo_ixT3 ?_ | refine vo_ixT4 ?_ | refine vo_ixT5 ?_ | refine vo_ixT6 ?_
  | refine vo_starts ?_ | refine vo_isBN ?_ | refine vo_isSN ?_ | refine vo_isLN ?_ | refine vo_isDN ?_ | refine vo_slX (by first | assumption | omega) ?_ | refine vo_lenX (by first | assumption | omega) ?_ | refine vo_addS (by first | assumption | omega) ?_
  | refine vo_inT ?_ | refine vo_ninT ?_ | refine vo_inL ?_ | refine vo_ninL ?_ | refine vo_inI ?_ | refine vo_ninI ?_ | refine vo_sortI (by first | assumption | omega) ?_ | refine vo_sortL ?_ | refine vo_lenI ?_ | refine vo_lt3 ?_ | refine vo_isNN ?_ | refine vo_is3N ?_ | refine vo_isTN ?_ | refine vo_isIN ?_ | refine vo_igAddI ?_ | refine vo_ixI (by assumption) ?_
  | refine vo_vwD1 (by assumption) ?_ | refine vo_vwDc (by assumption) ?_
  | refine wo_vw1 (by assumption) ?_ | refine wo_vw2 (by assumption) ?_ | refine vo_vwc (by assumption) ?_
  | (refine vo_isi (c := ?c) ?h ?q; (case h => with_unfolding_all rfl)) | (refine vo_isis (c := ?c) ?h ?q; (case h => with_unfolding_all rfl))))
local macro_rules | `(tactic| walk_at "w3") => `(tactic| first
  | with_reducible refine nb_ff ?_ | with_reducible refine nb_tt ?_ | with_reducible refine nb_ft ?_ | with_reducible refine nb_tf ?_
  | with_reducible refine ite_f ?_ | with_reducible refine ite_nt ?_ | with_reducible refine ite_nf ?_ | with_reducible refine ite_t ?_
  | ((with_reducible refine ex_id ?_); refine ⟨_, rfl, ?_⟩) | ((with_reducible refine and_id ?_); refine ⟨Nat.le_of_ble_eq_true rfl, ?_⟩))
local macro_rules | `(tactic| walk_at "w") => `(tactic| repeat (first | walk_at "w1" | walk_at "w2" | walk_at "w3"))
def beneath (p o : Str) : Bool := Txt.startswith (o ++ "/") (p ++ "/")
def apart (p : Str) (os : List Str) : Bool := os.all fun o => !(beneath p o || beneath o p)
end LB
set_option Elab.async false
set_option linter.all false
set_option maxRecDepth 100000
set_option maxHeartbeats 4000000
set_option Elab.async false
set_option linter.all false
set_option maxRecDepth 100000
set_option maxHeartbeats 4000000
namespace LM
open DL PySem LB
local macro_rules | `(tactic| walk_at "w1") => `(tactic| with_reducible first
  | (refine ws_then ?_; try with_reducible dsimp only [List.set_cons_zero, List.set_cons_succ]) | refine ws_seq ?_ | refine ws_asg ?_ | refine ws_expr ?_ | refine ws_ret ?_ | refine ws_if ?_ | refine ws_asgT ?_ | refine ws_skip ?_ | refine ws_retN ?_ | refine ws_brk ?_ | refine ws_cont ?_ | refine ws_thenR ?_ | refine ws_thenB ?_ | refine ws_thenC ?_ | refine fq_rt ?_ | refine fq_nx ?_ | refine un_nx ?_ | refine un_ct ?_ | refine un_bk ?_ | refine un_rt ?_ | refine ws_loopN ?_
  | (refine ws_loopC (ρ1 := ?r) ?h ?q; (case h => with_unfolding_all rfl); try with_reducible dsimp only [List.set_cons_zero, List.set_cons_succ])
  | refine wp_c ?_ | refine wp_op2 ?_ | refine wp_fn ?_ | refine wp_cons ?_ | refine wp_nil ?_ | refine wp_call ?_ | refine wp_op1 ?_
  | (refine wp_var (d := ?d) ?h ?q; (case h => with_unfolding_all rfl))
  | (refine ws_aug (d := ?d) ?h ?q; (case h => with_unfolding_all rfl))
  | refine wp_tup ?_ | refine wp_lst ?_ | refine wp_lstM ?_ | refine wp_listM ?_
  | refine wp_sl0 ?_ | refine wp_sl1 ?_ | refine wp_sl2 ?_ | refine wp_sl3 ?_
  | refine wp_tval ?_ | refine wp_tnot ?_ | refine wp_tand ?_ | refine wp_tor ?_ | refine wp_tyes ?_ | refine wp_and ?_ | refine wp_or ?_ | refine wp_not ?_ | refine wp_ifx ?_ | refine wp_chain ?_ | refine wp_meth ?_ | refine wp_meth0 ?_
  | refine wp_isi ?_ | refine wp_isis ?_ | refine wp_repr ?_ | refine wp_maxD ?_ | refine wi_rng3 ?_
  | refine wp_str1 ?_ | refine ws_par ?_ | refine wp_dnew ?_ | refine wp_get2 ?_ | refine wp_reprQ ?_ | refine wp_fnK ?_ | refine wi_valsI ?_ | refine wi_itemsI ?_ | refine ws_augI ?_
  | refine wi_seq ?_ | refine wi_rng1 ?_ | refine wi_rng2 ?_ | refine wi_zip2 ?_ | refine wi_zipS ?_
  | (refine wp_fnB (ρ := ?ρ) ?he ?_; (case he => (simp only [List.map_cons, List.map_nil, List.length_cons, List.length_nil, List.replicate, List.cons_append, List.nil_append, Nat.reduceAdd, Nat.reduceSub]; rfl))))
local macro_rules | `(tactic| walk_at "w2") => `(tactic| ((with_reducible refine wo_id ?_); with_reducible first
  | refine vo_sub ?_ | refine vo_add ?_ | refine vo_lt ?_ | refine vo_le ?_ | refine vo_gt ?_ | refine vo_ge ?_ | refine vo_eq ?_ | refine vo_ne ?_ | refine vo_eqS ?_ | refine vo_neS ?_ | refine vo_eqB ?_ | refine vo_neB ?_ | refine vo_neg ?_ | refine vo_slT ?_ | refine vo_slL ?_ | refine vo_slS ?_ | refine vo_lenT ?_ | refine vo_lenL ?_ | refine vo_lenS ?_ | refine vo_revT ?_ | refine vo_revL ?_ | refine vo_min ?_ | refine vo_max ?_ | refine vo_tupL ?_ | refine vo_tupT ?_ | refine vo_lisL ?_ | refine vo_lisT ?_
  | refine vo_igAdd ?_ | refine vo_igMulR (by omega) ?_ | refine vo_igMulL (by omega) ?_ | refine vo_mod (by omega) ?_ | refine vo_div (by omega) ?_ | refine vo_mulR (by omega) ?_ | refine vo_mulL (by omega) ?_
  | refine vo_ixL0 ?_ | refine vo_ixL1 ?_ | refine vo_ixL2 ?_ | refine vo_ixL3 ?_ | refine vo_ixL4 ?_ | refine vo_ixL5 ?_ | refine vo_ixL6 ?_ | refine vo_ixT0 ?_ | refine vo_ixT1 ?_ | refine vo_ixT2 ?_ | refine vo_ixT3 ?_ | refine vo_ixT4 ?_ | refine vo_ixT5 ?_ | refine vo_ixT6 ?_
  | refine vo_starts ?_ | refine vo_isBN ?_ | refine vo_isSN ?_ | refine vo_isLN ?_ | refine vo_isDN ?_ | refine vo_slX (by first | assumption | omega) ?_ | refine vo_lenX (by first | assumption | omega) ?_ | refine vo_addS (by first | assumption | omega) ?_
  | refine vo_inT ?_ | refine vo_ninT ?_ | refine vo_inL ?_ | refine vo_ninL ?_ | refine vo_inI ?_ | refine vo_ninI ?_ | refine vo_sortI (by first | assumption | omega) ?_ | refine vo_sortL ?_ | refine vo_lenI ?_ | refine vo_lt3 ?_ | refine vo_isNN ?_ | refine vo_is3N ?_ | refine vo_isTN ?_ | refine vo_isIN ?_ | refine vo_igAddI ?_ | refine vo_ixI (by assumption) ?_
  | refine vo_vwD1 (by assumption) ?_ | refine vo_vwDc (by assumption) ?_
  | refine wo_vw1 (by assumption) ?_ | refine wo_vw2 (by assumption) ?_ | refine vo_vwc (by assumption) ?_
  | (refine vo_isi (c := ?c) ?h ?q; (case h => with_unfolding_all rfl)) | (refine vo_isis (c := ?c) ?h ?q; (case h => with_unfolding_all rfl))))
local macro_rules | `(tactic| walk_at "w3") => `(tactic| first
  | with_reducible refine nb_ff ?_ | with_reducible refine nb_tt ?_ | with_reducible refine nb_ft ?_ | with_reducible refine nb_tf ?_
  | with_reducible refine ite_f ?_ | with_reducible refine ite_nt ?_ | with_reducible refine ite_nf ?_ | with_reducible refine ite_t ?_
  | ((with_reducible refine ex_id ?_); refine ⟨_, rfl, ?_⟩) | ((with_reducible refine and_id ?_); refine ⟨Nat.le_of_ble_eq_true rfl, ?_⟩))
local macro_rules | `(tactic| walk_at "w") => `(tactic| repeat (first | walk_at "w1" | walk_at "w2" | walk_at "w3"))
end LM
set_option Elab.async false
set_option linter.all false
set_option maxRecDepth 100000
set_option maxHeartbeats 4000000
namespace DL
open PySem PySem.Spec PyProof.Rows L2
end DL
set_option Elab.async false
set_option linter.all false
set_option maxRecDepth 100000
set_option maxHeartbeats 4000000
namespace DL
open PySem PySem.Spec PyProof.Rows L2
end DL
set_option Elab.async false
set_option linter.all false
set_option maxRecDepth 100000
set_option maxHeartbeats 4000000
namespace DL
open PySem PySem.Spec PyProof.Rows L2
end DL
set_option Elab.async false
set_option linter.all false
set_option maxRecDepth 100000
set_option maxHeartbeats 4000000
namespace DL
open PySem PySem.Spec PyProof.Rows L2
def flatB : D → Bool
  | .non => true
  | .bl _ => true
  | .int _ => true
  | .str _ => true
  | _ => false
theorem liv_dead {m : List Addr} {S : Sto} {a : Addr} : ¬ Liv m (S.map fun _ => none) a := by
  rintro ⟨k, o, _, e⟩
  rw [List.getElem?_map] at e
  cases h : S[k]? with
  | none => rw [h] at e; cases e
  | some x => rw [h] at e; cases e
end DL
set_option Elab.async false
set_option linter.all false
set_option maxRecDepth 100000
set_option maxHeartbeats 4000000
namespace DL
open PySem PySem.Spec PyProof.Rows L2
end DL
set_option Elab.async false
set_option linter.all false
set_option maxRecDepth 100000
set_option maxHeartbeats 4000000
namespace DL
open PySem PySem.Spec PyProof.Rows L2
def sRaise (c : Str) : Sx := fun ρ S => .exc c .non ρ S
section
variable {X : Cx} {W : WX} {x m : Str} {j : Nat} {p p2 pos pos2 : Pos}
theorem sv_raise (hc : X.calm = true) (tk : Takes X W) (hg : Gl X x) (hm : X.mg x = some (.ref (He.ga X.K x))) (hx : (He.Fa.exc x).ok X.K = true) (hdb : (x == ("__debug__" : Str)) = false := by decide) :
    SV X W (.Raise (some (.Call (.Name x p) [.Constant (.str m) j p2] [] pos)) none pos2) (sRaise x) := by
  obtain ⟨e1, e2, e3, e4⟩ := He.exc_ok hx
  refine ps_imp (ps_raise hc tk (pmk_own PySem.F.excBase_ValueError e1 hm e2 (raises_own e3 e4) hg hdb)) fun E σ H h => ?_
  obtain ⟨B, mm, ρ, S, r, re, f⟩ := h
  exact f mm H σ _ none (Post.refl r) re ⟨_, hm, rfl, .inl ⟨rfl, rfl⟩⟩
end
section
variable {Q : Fl → Sto → Prop} {E : Str → D → Ev → Sto → Prop} {ρ : Ev} {S : Sto}
theorem ws_raise {c : Str} (q : E c .non ρ S) : Ws (sRaise c ρ S) Q E := ⟨q⟩
end
end DL
set_option Elab.async false
set_option linter.all false
set_option maxRecDepth 100000
set_option maxHeartbeats 4000000
namespace DL
open PySem PySem.Spec PyProof.Rows L2
def rCntB (K : PySem.W.Frag) : V → List V → Hp → VK → Prop := fun x xs H Q => ∃ (p : Addr) (bs : List Bool) (k : Bool), x = .ref p ∧ xs = [.bl k] ∧ SqL K H p (bs.map V.bl) ∧ Q (.int (bs.count k : Nat)) H
theorem bls_of : ∀ {bs : List Bool} {us : List Value}, Vals (bs.map V.bl) us → us = bs.map Value.bool
  | [], us, r => by cases r; rfl
  | b :: bs, us, r => by
    cases r with
    | cons h t =>
      cases h
      rw [bls_of t]
      rfl
theorem mt_countB {X : Cx} (hu : X.A.units + 64 < cLine) : MtR X "list.count" (rCntB X.K) := by
  intro pins s σ H x xs v us Q I rx rxs h
  obtain ⟨p, bs, k, rfl, rfl, hs, q⟩ := h
  cases rx
  obtain ⟨u, rfl, ru⟩ := rxs.one
  cases ru
  obtain ⟨its, rv, ⟨⟨cls, dd, data, sl⟩, n, ho, hc, hdn, hd⟩, hlen⟩ := I.list hs
  simp only at hc hd
  subst hc hd
  have hi := bls_of rv
  subst hi
  refine call_meets PySem.F.slot_list_count ⟨_, ho, rfl⟩ PySem.F.entry_list_count (PySem.F.args_list_count_2 _ _)
    (SeqAt.list_countAt p (bs.map Value.bool).toArray n dd sl (.bool k) (fun y => decide (y = .bool k))) ⟨ho, fun y hy => ?_, ?_⟩
  · have hy' : y ∈ bs.map Value.bool := by simpa using hy
    obtain ⟨b, _, rfl⟩ := List.mem_map.mp hy'
    have := SeqAt.eqAt_reads (.bool b) (.bool k) X.A.in1 s (.bool b) (.bool k) [] [] (Reads.bool b) (Reads.bool k) rfl rfl (by show X.A.units + 1 + min (PyData.depth (.bool b)) (PyData.depth (.bool k)) < cLine; simp only [PyData.depth]; omega)
    rw [show PyData.eqv (.bool b) (.bool k) = decide (Value.bool b = Value.bool k) by cases b <;> cases k <;> simp [PyData.eqv]] at this
    exact this
  · have ec : (bs.map Value.bool).toArray.toList.countP (fun y => decide (y = Value.bool k)) = bs.count k := by
      rw [List.countP_map]
      unfold List.count
      refine List.countP_congr fun b _ => ?_
      cases b <;> cases k <;> simp
    refine ⟨.int (bs.count k : Nat), H, I.tok _, ⟨s.toks, ?_⟩, q⟩
    show Value.int (((bs.map Value.bool).toArray.toList.countP (fun y => decide (y = Value.bool k)) : Nat) : Int) s.toks = Value.int ((bs.count k : Nat) : Int) s.toks
    rw [ec]
end DL
set_option Elab.async false
set_option linter.all false
set_option maxRecDepth 100000
set_option maxHeartbeats 4000000
namespace DL
open PySem PySem.Spec PyProof.Rows L2
def excB (K : PySem.W.Frag) (x : Str) : Bool := He.eqO (PySem.W.findIn K (.ref (He.ga K x)) "__getattribute__") (some (some (.builtin "BaseException.__getattribute__"))) && He.eqO (PySem.W.findIn K (.ref (He.ga K x)) "__getattr__") (some none) &&
  decide (PySem.W.subIn K (.ref (He.ga K x)) (.type "BaseException") = some true) && PySem.W.hasDictIn K (He.ga K x) && He.eqO (PySem.W.findIn K (.ref (He.ga K x)) "__class__") (some (some (.builtin "object.__class__"))) &&
  He.eqO (PySem.W.specialIn K (.builtin "object.__class__") "__get__") (some (some (.builtin "getset_descriptor.__get__"))) && decide (PySem.W.takesIn K (.builtin "object.__class__") = some true) && decide (PySem.W.mroIn K (He.ga K x) (.type "object") = some true)
theorem excB_ok {K : PySem.W.Frag} {x : Str} (h : excB K x = true) : ExcC K (He.ga K x) := by
  unfold excB at h
  simp only [Bool.and_eq_true, decide_eq_true_eq] at h
  obtain ⟨⟨⟨⟨⟨⟨⟨h1, h2⟩, h3⟩, h4⟩, h5⟩, h6⟩, h7⟩, h8⟩ := h
  exact ⟨He.eqO_ok h1, He.eqO_ok h2, h3, h4, He.eqO_ok h5, He.eqO_ok h6, h7, h8⟩
end DL
set_option Elab.async false
set_option linter.all false
set_option maxRecDepth 100000
set_option maxHeartbeats 4000000
namespace DL
open PySem PySem.Spec PyProof.Rows L2
open SeqAt AutoSeq1 MeetsSeq MeetsSeq2 MeetsSeq3
end DL
set_option Elab.async false
set_option linter.all false
set_option maxRecDepth 100000
set_option maxHeartbeats 4000000
namespace DL
open PySem PySem.Spec PyProof.Rows L2
open PySem.Froz (SD sObj TxOk tailTx addTx add_x has_x is_str get_upd add_ok)
/-- the set at a: the texts l, its table rises and can be walked -/
def SetT (P : Program) (w : World) (h : Heap) (a : Addr) (l : List Str) : Prop :=
  ∃ D : SD, h.get? a = some (sObj "set" D) ∧ TxOk P w D l ∧ l.Nodup ∧ Ris D.2.2.place.toList ∧ (w.params.followText "set-order" = true ∨ D.2.2.led = true)
theorem SetT.at {P : Program} {w : World} {h h' : Heap} {a : Addr} {l : List Str} (R : SetT P w h a l) (k : ∀ o, h.get? a = some o → h'.get? a = some o) : SetT P w h' a l := by
  obtain ⟨D, ho, r⟩ := R
  exact ⟨D, k _ ho, r⟩
end DL
set_option Elab.async false
set_option linter.all false
set_option maxRecDepth 100000
set_option maxHeartbeats 4000000
namespace DL
open PySem PySem.Spec PyProof.Rows L2
open PySem.Froz (SD sObj TxOk tailTx addTx add_x has_x is_str get_upd add_ok)
end DL
set_option Elab.async false
set_option linter.all false
set_option maxRecDepth 100000
set_option maxHeartbeats 4000000
namespace DL
open PySem PySem.Spec PyProof.Rows L2
end DL
set_option Elab.async false
set_option linter.all false
set_option maxRecDepth 100000
set_option maxHeartbeats 4000000
namespace DL
open PySem PySem.Spec PyProof.Rows L2
end DL
set_option Elab.async false
set_option linter.all false
set_option maxRecDepth 100000
set_option maxHeartbeats 4000000
namespace DL
open PySem PySem.Spec PyProof.Rows L2 PpSet
open PySem.Froz (SD sObj TxOk tailTx addTx add_x has_x is_str get_upd add_ok)
end DL
set_option Elab.async false
set_option linter.all false
set_option maxRecDepth 100000
set_option maxHeartbeats 4000000
namespace DL
open PySem PySem.Spec PyProof.Rows L2
end DL
set_option Elab.async false
set_option linter.all false
set_option maxRecDepth 100000
set_option maxHeartbeats 4000000
namespace DL
open PySem PySem.Spec PyProof.Rows L2
end DL
set_option Elab.async false
set_option linter.all false
set_option maxRecDepth 100000
set_option maxHeartbeats 4000000
namespace DL
open PySem PySem.Spec PyProof.Rows L2
open SeqAt AutoSeq1 MeetsSeq MeetsSeq2 MeetsSeq3
def sUnl (ts : List Tg) (e : Ex) : Sx := fun ρ S => (e ρ S).bindS ρ fun d S => match lstOf S d with
  | some (_, xs) => (match Tg.puts ts xs ρ with
    | some ρ' => .fl (.nx ρ') S
    | none => .bad)
  | none => .bad
section
variable {X : Cx} {W : WX} {e : Expr} {es : List Expr} {fe : Ex} {ts : List Tg} {pos p2 : Pos} {k : Nat}
theorem sv_unl (hc : X.calm = true) (h : EV X W e fe) (hg : GVs X es ts) (hn : (assignEach es X.env).length = ts.length := by rfl) (hst : (assignEach es X.env).findIdx? (·.1) = none := by rfl) (hs : swapsWithSole [.Tuple es k p2] e pos.line X.env = pure false := by rfl) (hw : swappedStores [.Tuple es k p2] e X.env = pure none := by rfl)
    (h1 : (assignEach [.Tuple es k p2] X.env).map (·.2) = [assign (.Tuple es k p2) X.env] := by rfl) : SV X W (.Assign [.Tuple es k p2] e pos) (sUnl ts fe) := by
  refine ps_imp (ps_asg h (pg_unl hc hg hn hst) hs hw h1) fun E σ H h => ?_
  obtain ⟨B, m, ρ, S, r, re, f⟩ := upS_one (g := fun d ρ S => match lstOf S d with | some (_, xs) => (match Tg.puts ts xs ρ with | some ρ' => .fl (.nx ρ') S | none => .bad) | none => .bad) h
  refine ⟨B, m, ρ, S, r, re, f.mono fun x H1 => ?_⟩
  rintro ⟨B, m, ρ, S, dx, r, re, rx, f⟩
  cases e1 : lstOf S dx with
  | none => rw [e1] at f; exact f.elim
  | some nx =>
    obtain ⟨n, xs⟩ := nx
    rw [e1] at f
    dsimp only at f
    split at f
    · rename_i ρ' e2
      unfold lstOf at e1
      split at e1
      · split at e1
        · rename_i n' ys ex
          cases e1
          cases rx with
          | ref ha =>
            cases r.obj _ _ _ ha ex with
            | lst hh z q => exact ⟨_, _, rfl, SqL.of hh, by rw [q.length]; exact (tg_puts_len ts e2).symm, Tg.rds_ok ts e2 q re fun σ' re' => f m H1 σ' (Post.refl r) re'⟩
        · cases e1
      · cases e1
    · exact f.elim
end
section
variable {Q : Fl → Sto → Prop} {E : Str → D → Ev → Sto → Prop} {ρ : Ev} {S : Sto} {s : Sx} {i n : Nat}
theorem ws_unl {ts : List Tg} {e : Ex} (h : Wp (e ρ S) (fun d S1 => ∃ n xs ρ', d = .ref n ∧ S1[n]? = some (some (.lst xs)) ∧ Tg.puts ts xs ρ = some ρ' ∧ Q (.nx ρ') S1) (fun c p S => E c p ρ S)) : Ws (sUnl ts e ρ S) Q E := ws_bind (h.mono fun d S1 ⟨n, xs, ρ', e1, e2, e3, q⟩ => by
  subst e1
  rw [lst_at e2]
  dsimp only
  rw [e3]
  exact ⟨q⟩)
end
end DL
set_option Elab.async false
set_option linter.all false
set_option maxRecDepth 100000
set_option maxHeartbeats 4000000
namespace DL
open PySem PySem.Spec PyProof.Rows L2
theorem exH_ok {P : Program} {w : World} {H : Hp} {h : Heap} {a : Addr} {cls : Value} {d : Option Addr} {oe : Obj} {vs : Array Value} (e : h.get? a = some oe) (z : Zc cls d oe) (hd : oe.data = .fields vs) : ObjOk P w H h a (ExH cls d a) :=
  ⟨⟨oe, vs, e, z, hd⟩, ⟨oe, e⟩, fun _ _ ⟨o, v, q, r⟩ k => ⟨o, v, k o q, r⟩⟩
section
variable {X : Cx} {pins : List (Addr × Obj)} {σ : L2.St} {H : Hp} {s : Shared}
theorem unsuite_keep {a : Addr} {q : Addr × Obj} {pn' : List (Addr × Obj)} (I : Inv (X.suite a (q :: (X.pn ++ pins))) pn' σ H s) (ok : X.Ok) : Inv X (pins ++ [q]) σ H s :=
  ⟨ok, I.os, I.bare, I.base, I.loc, I.cell, I.free, I.freeC, fun p hp => I.pin p (by
    rw [← List.append_assoc] at hp
    rcases List.mem_append.mp hp with hp | hp
    · exact List.mem_append_left _ (List.mem_cons_of_mem _ hp)
    · rw [List.mem_singleton.mp hp]; exact List.mem_append_left _ List.mem_cons_self), I.hok, I.len⟩
/-- an object that is pinned alone is tracked -/
theorem track {a : Addr} {oe : Obj} {u : HO} (I : Inv X (pins ++ [(a, oe)]) σ H s) (n0 : X.s_0.heap.get? a = none) (np : ∀ p ∈ X.pn ++ pins, p.1 ≠ a) (new : ObjOk X.prog X.w (upd H a u) s.heap a u) : Inv X pins σ (upd H a u) s := by
  obtain ⟨p1, p2, p3, p4, p5⟩ := I.pin (a, oe) (List.mem_append_right _ (List.mem_append_right _ List.mem_cons_self))
  have ne : ∀ {b v}, H b = some v → b ≠ a := fun {b v} e z => by rw [z, p2] at e; cases e
  have ne0 : ∀ {b v}, X.s_0.heap.get? b = some v → b ≠ a := fun {b v} e z => by rw [z, n0] at e; cases e
  have nc : ∀ x c, X.env.cells.lookup x = some c → c ≠ a := fun x c e z => by
    obtain ⟨v, o, ho, hd⟩ := I.cell x c e
    rw [z, p1] at ho
    cases ho
    exact p5 v hd
  refine ⟨I.ok, I.os, I.bare, ⟨I.base.keep, I.base.slot, fun b o e n hx => ?_, I.base.there, fun b xs e => ?_, fun b o u e => ?_, fun b ps e => ?_⟩, I.loc, I.cell, ?_, fun x c e => ?_, fun p hp => ?_, ?_, I.len⟩
  · rw [upd_ne (ne0 e)]; exact I.base.free b o e n hx
  · have q := I.base.tups b xs e
    rw [upd_ne (ne q)]; exact q
  · have q := I.base.frzs b o u e
    rw [upd_ne (ne q)]; exact q
  · obtain ⟨m, q⟩ := I.base.tbls b ps e
    exact ⟨m, by rw [upd_ne (ne q)]; exact q⟩
  · rw [upd_ne (Ne.symm p3)]; exact I.free
  · rw [upd_ne (nc x c e)]; exact I.freeC x c e
  · have hp' : p ∈ X.pn ++ (pins ++ [(a, oe)]) := by rw [← List.append_assoc]; exact List.mem_append_left _ hp
    obtain ⟨q1, q2, q3, q4, q5⟩ := I.pin p hp'
    exact ⟨q1, by rw [upd_ne (np p hp)]; exact q2, q3, q4, q5⟩
  · exact I.hok.laidN (fun _ _ e => e) p2 new
end
/-- what the clause 'except x as n: k = n' wishes of an exception of the body -/
def wKp (K : PySem.W.Frag) (c : Value) (i k : Nat) (Wout : WX) (D : Ends) : WX := fun cls d σ H =>
  ∃ b, PySem.W.exmOne K cls c = some b ∧ (b = true → ∀ a, H a = none → i < σ.length ∧ D.nx (((σ.set i (some (.ref a))).set k (some (.ref a))).set i none) (upd H a (ExH cls d a))) ∧ (b = false → Wout cls d σ H)
section
variable {X : Cx} {x n kn : Str} {c : Value} {i k : Nat} {body : List Stmt} {np pos pos' np2 np3 pos2 : Pos} {tb : WX → TS} {Wout : WX}
theorem ps_try_keep (hx0 : X.ex = []) (hs : X.stack = X.env :: X.outer) (hf : X.env.frame = some X.env.locals) (hN : X.N.Nodup) (hi : X.N[i]? = some n) (hln : X.env.kindOf n = some .local) (hc : Names X x c) (tk : Takes X Wout)
    (hb : ∀ (W : WX) (pn : List (Addr × Obj)) (xe : Value → Shared → Prop), Takes (X.tr pn xe) W → PassesOwn (model X.prog X.w) X.A X.env xe → PSs (X.tr pn xe) body (tb W))
    (hsu : ∀ (a : Addr) (pn : List (Addr × Obj)), PSs (X.suite a pn) [.Assign [.Name kn np2] (.Name n np3) pos2] (fun D σ H => ∃ v, σ[i]? = some (some v) ∧ D.nx (σ.set k (some v)) H)) :
    PS X (.Try body [.ExceptHandler (some (.Name x np)) (some n) [.Assign [.Name kn np2] (.Name n np3) pos2] pos'] [] [] pos) (fun D σ H => tb (wKp X.K c i k Wout D) D σ H) := by
  refine ⟨fun pins s σ H D I h => ?_⟩
  have ok := I.ok
  have hfr : X.A.frames = some (X.env :: X.outer) := by rw [ok.frames, hs]
  have hloc : Loc X.env.scope n := .inl hln
  refine wpAny_Try_except ?_
  refine wpAny_mono ((hb (wKp X.K c i k Wout D) (X.pn ++ pins) (fun e s₁ => wpAny (model X.prog X.w) X.A (noteFrame e X.env) (fun _ s₂ => wpAny (model X.prog X.w) X.A (setFlight e none) (fun _ s₃ =>
    wpAny (model X.prog X.w) X.A (handleBy e X.env [.ExceptHandler (some (.Name x np)) (some n) [.Assign [.Name kn np2] (.Name n np3) pos2] pos']) (SP X pins D) X.xe s₃) X.xe s₂) X.xe s₁) (fun u s' xx => ?_) PassesOwn.looking).run [] s σ H D (I.toTry _) h) (fun f s1 hsp => ?_) (fun e s1 he => he)
  · obtain ⟨a, B, sI, pins', σ', H', cls, d, rfl, J', nb, up, sky, na, os, ag, b, hb1, hyes, hno⟩ := xx
    have J : Inv X pins σ' H' sI := J'.ofTry ok
    have sky' : Sky B (X.env :: X.outer) a (Zc cls d) X.env.locals s'.heap := by rw [← hs]; exact sky
    show wpAny (model X.prog X.w) X.A (noteFrame (.ref a) X.env) _ _ _
    refine Sky.land Zc.steady hfr hf sky' fun h3 fl3 up3 => ?_
    have J3 : Inv X pins σ' H' { s' with heap := h3 } := J.landed nb fl3.1 (up.trans up3) os ag
    obtain ⟨oe3, vs3, he3, hz3, hd3⟩ := fl3.there
    have notFr : ∀ {h : Heap} {o : Obj} {vs : Array Value}, h.FunFrames B (X.env :: X.outer) → h.get? a = some o → o.data = .fields vs → a ∉ frs (X.env :: X.outer) := fun {h o vs} ff e dd hm => by
      obtain ⟨_, o', e', hnf⟩ := ff.mem hm
      rw [e] at e'; cases e'
      exact hnf _ dd
    have nfr := notFr fl3.2.2.1 he3 hd3
    have nL : a ≠ X.env.locals := fun z => nfr (List.mem_filterMap.mpr ⟨X.env, List.mem_cons_self, by rw [hf, z]⟩)
    have nF : a ∉ X.fs := fun hm => by
      obtain ⟨e, he, q⟩ := List.mem_filterMap.mp hm
      exact nfr (List.mem_filterMap.mpr ⟨e, List.mem_cons_of_mem _ he, q⟩)
    have nB : B.get? a = none := fl3.2.1
    have nsI : ∀ {b : Addr} {o : Obj}, sI.heap.get? b = some o → b ∉ frs (X.env :: X.outer) → b ≠ a := fun {b o} e hb z => by
      have := nb b o e (by rw [hs]; exact hb)
      rw [z, nB] at this
      cases this
    have n0 : X.s_0.heap.get? a = none := by
      cases e : X.s_0.heap.get? a with
      | none => rfl
      | some o =>
        obtain ⟨o', e'⟩ := J.base.there a o e (by rw [hx0]; exact fun z => nomatch z)
        exact absurd rfl (nsI e' nfr)
    have npin : ∀ p ∈ X.pn ++ pins, p.1 ≠ a := fun p hp => by
      obtain ⟨q1, q2, q3, q4, q5⟩ := J.pin p hp
      refine nsI q1 fun hm => ?_
      obtain ⟨e, he, q⟩ := List.mem_filterMap.mp hm
      rcases List.mem_cons.mp he with rfl | he
      · exact q3 (Option.some.inj (hf.symm.trans q)).symm
      · exact q4 (List.mem_filterMap.mpr ⟨e, he, q⟩)
    have S3 := J3.suite he3 hd3 na nL nF
    refine wpAny_handleBy_cons (codeAny_handlers_test ?_) (by intro q; cases q)
    have LT : PySem.W.Looks (model X.prog X.w) h3 (typeOf (.ref a)) cls := fun A Q E s k q => wpAny_typeOf_ref (k _ _ he3) (by rw [hz3.1]; exact q)
    have LM := PySem.W.exm_one (M := model X.prog X.w) (J3.kIn) LT hb1
    have test : ∀ {Q : Value → Shared → Prop} {E : Value → Shared → Prop}, Q c { s' with heap := h3 } → wpAny (model X.prog X.w) (X.A.mark (some (.ref a))) (eval (.Name x np) X.env) Q E { s' with heap := h3 } := fun {Q E} q => by
      obtain ⟨hg, hdbg, hm | ⟨hm, hv, hnn⟩⟩ := hc
      · exact ld_glob (X := X.suite a ((a, oe3) :: (X.pn ++ pins))) S3 hg hm q hdbg
      · exact ld_blt (X := X.suite a ((a, oe3) :: (X.pn ++ pins))) S3 hg hm hv q hnn hdbg
    refine test (LM.here ?_)
    cases b with
    | true =>
      refine codeAny_handlers_suite_as ?_
      refine HandSPX.lands_againZ fl3 fun h4 fl4 up4 => ?_
      have J4 : Inv X pins σ' H' { s' with heap := h4 } := J.landed nb fl4.1 ((up.trans up3).trans up4) os ag
      obtain ⟨oe4, vs4, he4, hz4, hd4⟩ := fl4.there
      have S4 := J4.suite he4 hd4 na nL nF
      refine store_ok (X := X.suite a ((a, oe4) :: (X.pn ++ pins))) (v := .ref a) S4 hN hi hloc rfl (fun s5 S5 => ?_) (.inr hln)
      obtain ⟨hil, hnx⟩ := hyes rfl a na
      have hget : (σ'.set i (some (V.ref a)))[i]? = some (some (.ref a)) := List.getElem?_set_self hil
      refine wpAny_mono ((hsu a ((a, oe4) :: (X.pn ++ pins))).run [] s5 _ H' { nx := fun σ6 H6 => σ6 = (σ'.set i (some (.ref a))).set k (some (.ref a)) ∧ H6 = H', rt := fun _ _ => False, bk := fun _ _ => False, ct := fun _ _ => False } S5 ⟨_, hget, rfl, rfl⟩) (fun f s6 hsp => ?_) (fun _ _ z => False.elim z)
      cases f with
      | next =>
        obtain ⟨σ6, H6, S6, rfl, rfl⟩ := hsp
        refine gone_ok (unsuite_keep S6 ok) hN hi hln fun s7 J7 => ?_
        obtain ⟨p1, p2, _⟩ := J7.pin (a, oe4) (List.mem_append_right _ (List.mem_append_right _ List.mem_cons_self))
        exact ⟨_, _, track J7 n0 npin (exH_ok p1 hz4 hd4), hnx⟩
      | brk => obtain ⟨_, _, _, z⟩ := hsp; exact z.elim
      | cont => obtain ⟨_, _, _, z⟩ := hsp; exact z.elim
      | ret u => obtain ⟨_, _, _, _, _, z⟩ := hsp; exact z.elim
    | false =>
      show wpAny _ X.A (handleBy (.ref a) X.env []) _ _ _
      refine wpAny_handleBy_nil ?_
      obtain ⟨k1, k2, k3, oe, vs, T, oT, ts', he, hz, hd, h1, hr⟩ := id fl3
      unfold PySem.passOn
      refine wpAny_bind (wpAny_field he hd h1 ?_)
      rw [if_neg (show ¬ ((Value.ref T == Value.none) = true) from by simp)]
      have fin : wpAny (model X.prog X.w) X.A (setFlight (.ref a) X.env.frame) (fun _ s4 => wpAny (model X.prog X.w) X.A (throw (.ref a) : Sem Flow) (SP X pins D) X.xe s4) X.xe { s' with heap := h3 } := by
        rw [hf]
        refine HandSPX.setFlight_upZ fl3 fun h4 hh4 up4 => wpAny_throw (tk _ _ ?_)
        exact ⟨a, B, sI, pins, σ', H', cls, d, rfl, J, nb, (up.trans up3).trans up4, .inr (.inr (by rw [hs]; exact hh4)), na, os, ag, hno rfl⟩
      first
        | exact wpAny_bind (wpAny_pure (wpAny_bind fin))
        | exact wpAny_bind fin
  · cases f with
    | next =>
      obtain ⟨σ', H', J', q⟩ := hsp
      exact wpAny_execs_nil ⟨σ', H', J'.ofTry ok, q⟩
    | brk =>
      obtain ⟨σ', H', J', q⟩ := hsp
      exact ⟨σ', H', J'.ofTry ok, q⟩
    | cont =>
      obtain ⟨σ', H', J', q⟩ := hsp
      exact ⟨σ', H', J'.ofTry ok, q⟩
    | ret u =>
      obtain ⟨v, σ', H', J', r, q⟩ := hsp
      exact ⟨v, σ', H', J'.ofTry ok, r, q⟩
end
def sTryE (i k : Nat) (b : Sx) (cs : List Str) : Sx := fun ρ S => match b ρ S with
  | .fl f S' => .fl f S'
  | .exc c .non ρ' S' => if c ∈ cs ∧ i < ρ'.length then .fl (.nx ((ρ'.set k (some (.exn c .non))).set i none)) S' else .bad
  | _ => .bad
theorem set_set_none {α : Type} {l : List (Option α)} {i k : Nat} {v w : Option α} (h : i ≠ k) : ((l.set i v).set k w).set i none = (l.set k w).set i none := by
  rw [List.set_comm _ _ h, List.set_set]
theorem RepE.unset {K : PySem.W.Frag} {H : Hp} {Fb : Addr → Prop} {m : List Addr} {σ : L2.St} {ρ : Ev} {i : Nat} (h : RepE K H Fb m σ ρ) : RepE K H Fb m (σ.set i none) (ρ.set i none) := by
  refine ⟨by simp [h.1], fun j e q => ?_⟩
  by_cases hj : i = j
  · subst hj
    rw [List.getElem?_set] at q
    split at q
    · split at q <;> cases q
    · rename_i z; exact absurd rfl z
  · rw [List.getElem?_set_ne hj] at q
    obtain ⟨w, e1, r1⟩ := h.2 j e q
    exact ⟨w, by rw [List.getElem?_set_ne hj]; exact e1, r1⟩
section
variable {X : Cx} {W : WX} {x n kn : Str} {c : Value} {i k : Nat} {body : List Stmt} {np pos pos' np2 np3 pos2 : Pos} {b : Sx} {cs : List Str}
theorem sv_tryE (hx0 : X.ex = []) (hs : X.stack = X.env :: X.outer) (hf : X.env.frame = some X.env.locals) (hN : X.N.Nodup) (hi : X.N[i]? = some n) (hln : X.env.kindOf n = some .local) (hc : Names X x c) (hik : i ≠ k) (tk : Takes X W)
    (hb : ∀ (W : WX) (pn : List (Addr × Obj)) (xe : Value → Shared → Prop), Takes (X.tr pn xe) W → PassesOwn (model X.prog X.w) X.A X.env xe → SVs (X.tr pn xe) W body b)
    (hk : ∀ e ∈ cs, X.mg e = some (.ref (He.ga X.K e)) ∧ PySem.W.exmOne X.K (.ref (He.ga X.K e)) c = some true)
    (hsu : ∀ (a : Addr) (pn : List (Addr × Obj)), PSs (X.suite a pn) [.Assign [.Name kn np2] (.Name n np3) pos2] (fun D σ H => ∃ v, σ[i]? = some (some v) ∧ D.nx (σ.set k (some v)) H)) :
    SV X W (.Try body [.ExceptHandler (some (.Name x np)) (some n) [.Assign [.Name kn np2] (.Name n np3) pos2] pos'] [] [] pos) (sTryE i k b cs) := by
  refine ps_imp (ps_try_keep (tb := fun W => upS X.K X.mg W b) hx0 hs hf hN hi hln hc tk (fun W pn xe tk hp => hb W pn xe tk hp) hsu) fun E σ H h => ?_
  obtain ⟨B, m, ρ, S, r, re, f⟩ := h
  refine ⟨B, m, ρ, S, r, re, ?_⟩
  unfold sTryE at f
  cases hr : b ρ S with
  | bad => rw [hr] at f; exact f.elim
  | fl fl S' =>
    rw [hr] at f
    cases fl with
    | nx ρ' => exact f
    | bk ρ' => exact f
    | ct ρ' => exact f
    | rt d => exact f
  | exc e pl ρ' S' =>
    rw [hr] at f
    cases pl with
    | non =>
      dsimp only at f
      by_cases hil : e ∈ cs ∧ i < ρ'.length
      rotate_left
      · rw [if_neg hil] at f; exact f.elim
      rw [if_pos hil] at f
      intro m' H' σ' cls dd po re' xc
      obtain ⟨C, em, rfl, hd⟩ := xc
      have hdd : dd = none := hd.elim (fun h => h.2) fun h => absurd rfl h.1
      subst hdd
      obtain ⟨eD, hex⟩ := hk e hil.1
      have eC : C = He.ga X.K e := by rw [em] at eD; cases eD; rfl
      subst eC
      refine ⟨true, hex, fun _ a na => ⟨by rw [re'.1]; exact hil.2, ?_⟩, fun z => by cases z⟩
      rw [set_set_none hik]
      have sm : Same H' (upd H' a (ExH (.ref (He.ga X.K e)) none a)) := same_upd na
      have p2 := po.trans (Post.grow po.rl sm)
      refine f m' _ _ p2 ?_
      have re2 := re'.kp ((Post.grow po.rl sm).kp po.rl)
      exact (re2.set (.exn (.inl upd_same) (fr_of po.rl a na))).unset
    | _ => exact f.elim
end
section
variable {Q : Fl → Sto → Prop} {E : Str → D → Ev → Sto → Prop} {ρ : Ev} {S : Sto}
theorem ws_tryE {i k : Nat} {b : Sx} {cs : List Str} (hb : Ws (b ρ S) Q (fun c p ρ' S' => p = .non ∧ c ∈ cs ∧ i < ρ'.length ∧ Q (.nx ((ρ'.set k (some (.exn c .non))).set i none)) S')) : Ws (sTryE i k b cs ρ S) Q E := by
  unfold sTryE
  cases e : b ρ S with
  | fl f S' => rw [e] at hb; exact ⟨hb.out⟩
  | bad => rw [e] at hb; exact hb.out.elim
  | exc c p ρ' S' =>
    rw [e] at hb
    obtain ⟨rfl, hc, hl, q⟩ := hb.out
    dsimp only
    rw [if_pos ⟨hc, hl⟩]
    exact ⟨q⟩
end
end DL
set_option Elab.async false
set_option linter.all false
set_option maxRecDepth 100000
set_option maxHeartbeats 4000000
namespace DL
open PySem PySem.Spec PyProof.Rows L2
def isOf (e c : Str) : Bool := decide (c = e) || (decide (c = "VaultError") || decide (c = "ValueError"))
def clsVl (K : PySem.W.Frag) (c : Str) : Value := if c = "ValueError" then .type "ValueError" else .ref (He.ga K c)
def isxAll (K : PySem.W.Frag) (es cs : List Str) : Bool := es.all fun e => excB K e && cs.all fun c => decide (PySem.W.kitOne K (.ref (He.ga K e)) (clsVl K c) = some (isOf e c))
theorem isx_ok {K : PySem.W.Frag} {es cs : List Str} (h : isxAll K es cs = true) {e c : Str} (he : e ∈ es) (hc : c ∈ cs) : ExcC K (He.ga K e) ∧ PySem.W.kitOne K (.ref (He.ga K e)) (clsVl K c) = some (isOf e c) := by
  unfold isxAll at h
  have h1 := List.all_eq_true.mp h e he
  rw [Bool.and_eq_true] at h1
  exact ⟨excB_ok h1.1, of_decide_eq_true (List.all_eq_true.mp h1.2 c hc)⟩
theorem inst_exn {X : Cx} {pins : List (Addr × Obj)} {σ : L2.St} {H : Hp} {s : Shared} {a D : Addr} (I : Inv X pins σ H s) (h : Rd H a (ExH (.ref D) none a)) : ∃ oe, PySem.W.InstAt s.heap a oe D none := by
  have ok : ObjOk X.prog X.w H s.heap a (ExH (.ref D) none a) := by
    rcases h with h | ⟨o, h⟩
    · exact I.hok a _ h
    · exact (show ObjOk X.prog X.w H s.heap a (.frz o (ExH (.ref D) none a)) from I.hok a _ h).2
  obtain ⟨⟨oe, vs, h1, ⟨h2, h3⟩, h4⟩, _⟩ := ok
  obtain ⟨oc, od, oda, osl⟩ := oe
  dsimp only at h2 h3 h4
  subst h2 h3 h4
  exact ⟨_, h1, rfl, rfl, trivial⟩
def cntBD (d y : D) : Option D := match d, y with
  | .lst xs, .bl k => (asBs xs).map fun ns => .int (ns.count k : Nat)
  | _, _ => Option.none
def ixB : List Bool → Bool → Option Nat
  | [], _ => Option.none
  | x :: xs, k => if x = k then Option.some 0 else (ixB xs k).map (· + 1)
def idxBD (d y : D) : Option D := match d, y with
  | .lst xs, .bl k => (asBs xs).bind fun ns => (ixB ns k).map fun i => .int (i : Nat)
  | _, _ => Option.none
theorem ixB_some : ∀ {ns : List Bool} {k : Bool} {i : Nat}, ixB ns k = Option.some i → ns[i]? = Option.some k ∧ ∀ j x, j < i → ns[j]? = Option.some x → x ≠ k
  | x :: xs, k, i, h => by
    unfold ixB at h
    split at h
    · rename_i e
      cases h
      exact ⟨by rw [e]; rfl, fun j x h => by omega⟩
    · rename_i e
      obtain ⟨j, hj, rfl⟩ := Option.map_eq_some_iff.mp h
      obtain ⟨h1, h2⟩ := ixB_some hj
      refine ⟨by simpa using h1, fun j' x' hlt hx => ?_⟩
      cases j' with
      | zero => simp at hx; subst hx; exact e
      | succ j' => exact h2 j' x' (by omega) (by simpa using hx)
  | [], k, i, h => by simp [ixB] at h
def eLsM (g : D → D → Option D) (o : Ex) (fs : List Ex) : Ex := fun ρ S => (o ρ S).bind fun d S => if isLs (view S d) = true then (evL fs ρ S).bind fun ds S => match ds with
  | [y] => ans S (g (view S d) y)
  | _ => .bad
  else .bad
section
variable {X : Cx} {W : WX} {o e : Expr} {fo fe : Ex} {apos cpos : Pos}
theorem ev_cntB (hu : X.A.units + 64 < cLine) (ho : EV X W o fo) (ha : EVA X W [e] [fe]) (hbase : attributeBase o "count" X.env (eval o X.env) = eval o X.env := by rfl)
    (hfew : ((backTo cpos (starEach [e] X.env)).all (fun x => !x.1) && (backToKw cpos (keywordEach [] X.env)).all (fun x => x.1.isSome) && decide ([e].length + ([] : List Keyword).length + (if ([] : List Keyword).isEmpty then 0 else 1) < 30)) = true := by rfl)
    (hline : (apos.endLine == cpos.line) = true := by rfl) (hs : starEach [e] X.env = (false, eval e X.env) :: starEach [] X.env := by rfl) (hplain : (backTo cpos (starEach [] X.env)).any (·.1) = false := by rfl) :
    EV X W (.Call (.Attribute o "count" apos) [e] [] cpos) (eLsM cntBD fo [fe]) := by
  refine pe_imp (pe_bm PySem.F.plainAttrs_list PySem.F.slot_list_count PySem.F.type_list_count (mt_countB hu) ho ha hbase hfew hline hs hplain) fun σ H Q h => ?_
  obtain ⟨B, m, ρ, S, r, re, f⟩ := up_one (g := fun d ρ S => if isLs (view S d) = true then (evL [fe] ρ S).bind fun ds S => match ds with
    | [y] => ans S (cntBD (view S d) y)
    | _ => .bad
    else .bad) h
  refine ⟨B, m, ρ, S, r, re, f.mono fun x H1 => ?_⟩
  rintro ⟨B, m, ρ, S, d, r, re, rx, f⟩
  split at f
  · rename_i hd
    have w := vw r rx
    cases hv : view S d <;> rw [hv] at hd <;> simp [isLs] at hd
    rename_i xs
    rw [hv] at w
    obtain ⟨a, ws, rfl, h1, z1, q1⟩ := w.asL
    refine ⟨ty_lst h1, B, m, ρ, S, r, re, finA.mono (finA.bind f) fun vs H2 => ?_⟩
    rintro ⟨m2, S2, ds, p2, q2, f2⟩
    split at f2
    · rename_i y
      cases q2 with
      | cons qy qn =>
        cases qn
        have rx2 := rx.kp (p2.kp r)
        have w2 := vw p2.rl rx2
        cases e1 : cntBD (view S2 d) y with
        | none => rw [e1] at f2; exact f2.elim
        | some c =>
          rw [e1] at f2
          unfold cntBD at e1
          split at e1
          · rename_i xs2 k hv2
            rw [hv2] at w2
            obtain ⟨a', ws2, ea, h2, z2, q3⟩ := w2.asL
            cases ea
            cases e3 : asBs xs2 with
            | none => rw [e3] at e1; cases e1
            | some ns =>
              rw [e3] at e1
              cases e1
              have ew := asBs_vals e3 q3
              cases qy
              exact ⟨a, ns, k, rfl, rfl, by rw [← ew]; exact SqL.of h2, f2.ok p2.rl (Same.refl _) (.int _)⟩
          · cases e1
    · exact f2.elim
  · exact f.elim
theorem ev_idxB (ho : EV X W o fo) (ha : EVA X W [e] [fe]) (hbase : attributeBase o "index" X.env (eval o X.env) = eval o X.env := by rfl)
    (hfew : ((backTo cpos (starEach [e] X.env)).all (fun x => !x.1) && (backToKw cpos (keywordEach [] X.env)).all (fun x => x.1.isSome) && decide ([e].length + ([] : List Keyword).length + (if ([] : List Keyword).isEmpty then 0 else 1) < 30)) = true := by rfl)
    (hline : (apos.endLine == cpos.line) = true := by rfl) (hs : starEach [e] X.env = (false, eval e X.env) :: starEach [] X.env := by rfl) (hplain : (backTo cpos (starEach [] X.env)).any (·.1) = false := by rfl) :
    EV X W (.Call (.Attribute o "index" apos) [e] [] cpos) (eLsM idxBD fo [fe]) := by
  refine pe_imp (pe_bm PySem.F.plainAttrs_list PySem.F.slot_list_index PySem.F.type_list_index mt_index ho ha hbase hfew hline hs hplain) fun σ H Q h => ?_
  obtain ⟨B, m, ρ, S, r, re, f⟩ := up_one (g := fun d ρ S => if isLs (view S d) = true then (evL [fe] ρ S).bind fun ds S => match ds with
    | [y] => ans S (idxBD (view S d) y)
    | _ => .bad
    else .bad) h
  refine ⟨B, m, ρ, S, r, re, f.mono fun x H1 => ?_⟩
  rintro ⟨B, m, ρ, S, d, r, re, rx, f⟩
  split at f
  · rename_i hd
    have w := vw r rx
    cases hv : view S d <;> rw [hv] at hd <;> simp [isLs] at hd
    rename_i xs
    rw [hv] at w
    obtain ⟨a, ws, rfl, h1, z1, q1⟩ := w.asL
    refine ⟨ty_lst h1, B, m, ρ, S, r, re, finA.mono (finA.bind f) fun vs H2 => ?_⟩
    rintro ⟨m2, S2, ds, p2, q2, f2⟩
    split at f2
    · rename_i y
      cases q2 with
      | cons qy qn =>
        cases qn
        have rx2 := rx.kp (p2.kp r)
        have w2 := vw p2.rl rx2
        cases e1 : idxBD (view S2 d) y with
        | none => rw [e1] at f2; exact f2.elim
        | some c =>
          rw [e1] at f2
          unfold idxBD at e1
          split at e1
          · rename_i xs2 k hv2
            rw [hv2] at w2
            obtain ⟨a', ws2, ea, h2, z2, q3⟩ := w2.asL
            cases ea
            cases e3 : asBs xs2 with
            | none => rw [e3] at e1; cases e1
            | some ns =>
              rw [e3] at e1
              simp only [Option.bind_some] at e1
              obtain ⟨i, hi, rfl⟩ := Option.map_eq_some_iff.mp e1
              have ew := asBs_vals e3 q3
              cases qy
              obtain ⟨hi1, hi2⟩ := ixB_some hi
              refine ⟨a, ws2, .bl k, i, .bl k, rfl, rfl, SqL.of h2, rfl, ?_, ?_, ?_, fun j z' hj hz => ?_, f2.ok p2.rl (Same.refl _) (.int _)⟩
              · rw [ew, List.all_map]; exact List.all_eq_true.mpr fun _ _ => rfl
              · rw [ew, List.getElem?_map, hi1]; rfl
              · cases k <;> rfl
              · rw [ew, List.getElem?_map] at hz
                obtain ⟨x, hx, rfl⟩ := Option.map_eq_some_iff.mp hz
                have := hi2 j x hj hx
                cases x <;> cases k <;> first | rfl | exact absurd rfl this
          · cases e1
    · exact f2.elim
  · exact f.elim
theorem wp_lsM {g : D → D → Option D} {o e : Ex} {ρ : Ev} {S : Sto} {Q : D → Sto → Prop} {E : Px} (h : Wp (o ρ S) (fun d S1 => isLs (view S1 d) = true ∧ Wp (e ρ S1) (fun y S2 => Wo (g (view S2 d) y) fun z => Q z S2) E) E) : Wp (eLsM g o [e] ρ S) Q E :=
  wp_bind (h.mono fun d S1 ⟨e1, h⟩ => by
    rw [if_pos e1]
    refine wp_bind (wp_bind (h.mono fun y S2 q => ?_))
    refine .of (show (evL [] ρ S2).bind (fun ds S => R.ok (y :: ds) S) = .ok [y] S2 from rfl) ?_
    exact wp_ans q)
end
end DL
set_option Elab.async false
set_option linter.all false
set_option maxRecDepth 100000
set_option maxHeartbeats 4000000
namespace DL
open PySem PySem.Spec PyProof.Rows L2
def putFD (f : Str) (y : D) : List (Str × D) → List (Str × D)
  | [] => [(f, y)]
  | (g, x) :: r => if g = f then (g, y) :: r else (g, x) :: putFD f y r
section
variable {K : PySem.W.Frag} {mg : Str → Option Value} {H : Hp} {Fb : Addr → Prop} {m : List Addr}
inductive FsR (K : PySem.W.Frag) (H : Hp) (Fb : Addr → Prop) (m : List Addr) : List (Str × V) → List (Str × D) → Prop
  | nil : FsR K H Fb m [] []
  | cons {f : Str} {v : V} {d : D} {fv : List (Str × V)} {fs : List (Str × D)} : Rep K H Fb m v d → FsR K H Fb m fv fs → FsR K H Fb m ((f, v) :: fv) ((f, d) :: fs)
theorem FsR.of : ∀ {fs : List (Str × D)} {fv : List (Str × V)}, fs.map (·.1) = fv.map (·.1) → RepA K H Fb m (fv.map (·.2)) (fs.map (·.2)) → FsR K H Fb m fv fs
  | [], [], _, _ => .nil
  | [], _ :: _, h, _ => by simp at h
  | _ :: _, [], h, _ => by simp at h
  | (f, d) :: fs, (g, v) :: fv, h, r => by
    simp only [List.map_cons, List.cons.injEq] at h
    obtain ⟨rfl, h⟩ := h
    cases r with
    | cons r rr => exact .cons r (FsR.of h rr)
theorem FsR.names {fv : List (Str × V)} {fs : List (Str × D)} (h : FsR K H Fb m fv fs) : fs.map (·.1) = fv.map (·.1) := by
  induction h with
  | nil => rfl
  | cons _ _ ih => simp [ih]
theorem FsR.vals {fv : List (Str × V)} {fs : List (Str × D)} (h : FsR K H Fb m fv fs) : RepA K H Fb m (fv.map (·.2)) (fs.map (·.2)) := by
  induction h with
  | nil => exact .nil
  | cons r _ ih => exact .cons r ih
theorem FsR.len {fv : List (Str × V)} {fs : List (Str × D)} (h : FsR K H Fb m fv fs) : fv.length = fs.length := by
  induction h with
  | nil => rfl
  | cons _ _ ih => simp [ih]
theorem FsR.kp {H' : Hp} {Fb' : Addr → Prop} {m' : List Addr} (k : Kp H H' Fb Fb' m m') {fv : List (Str × V)} {fs : List (Str × D)} (h : FsR K H Fb m fv fs) : FsR K H' Fb' m' fv fs := by
  induction h with
  | nil => exact .nil
  | cons r _ ih => exact .cons (r.kp k) ih
theorem FsR.get {fv : List (Str × V)} {fs : List (Str × D)} (h : FsR K H Fb m fv fs) {f : Str} {d : D} (e : fs.lookup f = some d) : ∃ v, fv.lookup f = some v ∧ Rep K H Fb m v d := by
  induction h with
  | nil => cases e
  | @cons g v d' fv fs r h ih =>
    rw [List.lookup_cons] at e ⊢
    cases hq : (f == g) with
    | true => rw [hq] at e; cases e; exact ⟨v, rfl, r⟩
    | false => rw [hq] at e; exact ih e
theorem FsR.none {fv : List (Str × V)} {fs : List (Str × D)} (h : FsR K H Fb m fv fs) {f : Str} (e : fs.lookup f = none) : fv.lookup f = none := by
  induction h with
  | nil => rfl
  | @cons g v d' fv fs r h ih =>
    rw [List.lookup_cons] at e ⊢
    cases hq : (f == g) with
    | true => rw [hq] at e; cases e
    | false => rw [hq] at e; exact ih e
theorem FsR.put {fv : List (Str × V)} {fs : List (Str × D)} (h : FsR K H Fb m fv fs) (f : Str) {v : V} {d : D} (r : Rep K H Fb m v d) : FsR K H Fb m (putF f v fv) (putFD f d fs) := by
  induction h with
  | nil => exact .cons r .nil
  | @cons g v' d' fv fs r' h ih =>
    unfold putF putFD
    split
    · exact .cons r h
    · exact .cons r' ih
end
def insOf (S : Sto) (c : Str) (d : D) : Option (Nat × List (Str × D)) := match d with
  | .ref n => (match S[n]? with
    | some (some (.ins c' fs)) => if c' = c then some (n, fs) else none
    | _ => none)
  | _ => none
theorem ins_at {S : Sto} {n : Nat} {c : Str} {fs : List (Str × D)} (h : S[n]? = some (some (.ins c fs))) : insOf S c (.ref n) = some (n, fs) := by
  simp only [insOf, h, if_true]
section
variable {X : Cx} {W : WX} {B : Addr → Prop} {m : List Addr} {S : Sto} {H : Hp} {σ : L2.St} {ρ : Ev}
theorem ins_of {c : Str} {d : D} {n : Nat} {fs : List (Str × D)} {x : V} (gC : X.mg c = some (.ref (He.ga X.K c))) (r : Rl X.K X.mg B m H S) (rx : Rep X.K H (Fo B m S) m x d) (e : insOf S c d = some (n, fs)) :
    ∃ a dx fv, x = .ref a ∧ d = .ref n ∧ m[n]? = some a ∧ S[n]? = some (some (.ins c fs)) ∧ H a = some (.ins (He.ga X.K c) dx fv) ∧ FsR X.K H (Fo B m S) m fv fs := by
  unfold insOf at e
  split at e
  · rename_i k
    split at e
    · rename_i c' fs' hs
      split at e
      · rename_i hc
        cases e
        subst hc
        cases rx with
        | ref ha =>
          cases r.obj _ _ _ ha hs with
          | ins hm hh e1 e2 =>
            rw [gC] at hm
            cases hm
            exact ⟨_, _, _, rfl, rfl, ha, hs, hh, FsR.of e1 e2⟩
      · cases e
    · cases e
  · cases e
def eFld (c f : Str) (o : Ex) : Ex := fun ρ S => (o ρ S).bind fun d S => match insOf S c d with
  | some (_, fs) => (match fs.lookup f with
    | some v => .ok v S
    | none => .bad)
  | none => .bad
theorem ev_fld {c f : Str} {e : Expr} {fe : Ex} {pos : Pos} (gC : X.mg c = some (.ref (He.ga X.K c))) (cl : Cls X.K (He.ga X.K c)) (na : NoAttr X.K (He.ga X.K c) f) (he : EV X W e fe) (hb : attributeBase e f X.env (eval e X.env) = eval e X.env := by rfl) : EV X W (.Attribute e f pos) (eFld c f fe) := by
  refine pe_imp (pe_fld he hb) fun σ H Q h => ?_
  obtain ⟨B, m, ρ, S, r, re, g⟩ := up_one (g := fun d ρ S => match insOf S c d with
    | some (_, fs) => (match fs.lookup f with
      | some v => R.ok v S
      | none => .bad)
    | none => .bad) h
  refine ⟨B, m, ρ, S, r, re, g.mono fun x H1 => ?_⟩
  rintro ⟨B, m, ρ, S, d, r, re, rx, g⟩
  cases e1 : insOf S c d with
  | none => rw [e1] at g; exact g.elim
  | some nf =>
    obtain ⟨n, fs⟩ := nf
    rw [e1] at g
    dsimp only at g
    obtain ⟨a, dx, fv, rfl, rfl, ha, hs, hh, fr⟩ := ins_of gC r rx e1
    cases e2 : fs.lookup f with
    | none => rw [e2] at g; exact g.elim
    | some v =>
      rw [e2] at g
      obtain ⟨w, ew, rw'⟩ := fr.get e2
      exact ⟨a, _, dx, fv, w, rfl, hh, cl, na, ew, g.ok r (Same.refl _) rw'⟩
def sFldS (c f : Str) (o e : Ex) : Sx := fun ρ S => (e ρ S).bindS ρ fun y S => (o ρ S).bindS ρ fun d S => match insOf S c d with
  | some (n, fs) => if fs.length < 1000 then .fl (.nx ρ) (S.set n (some (.ins c (putFD f y fs)))) else .bad
  | none => .bad
theorem sv_fld {c f : Str} {o e : Expr} {fo fe : Ex} {pos pos' : Pos} (gC : X.mg c = some (.ref (He.ga X.K c))) (cl : Cls X.K (He.ga X.K c)) (na : NoAttr X.K (He.ga X.K c) f) (ho : EV X W o fo) (he : EV X W e fe) (hs : swapsWith e (some (.Attribute o f pos')) pos.line X.env = pure false := by rfl) :
    SV X W (.Assign [.Attribute o f pos'] e pos) (sFldS c f fo fe) := by
  refine ps_imp (ps_fld ho he hs) fun E σ H h => ?_
  obtain ⟨B, m, ρ, S, r, re, g⟩ := upS_one (g := fun y ρ S => (fo ρ S).bindS ρ fun d S => match insOf S c d with
    | some (n, fs) => if fs.length < 1000 then .fl (.nx ρ) (S.set n (some (.ins c (putFD f y fs)))) else .bad
    | none => .bad) h
  refine ⟨B, m, ρ, S, r, re, g.mono fun y H1 => ?_⟩
  rintro ⟨B, m, ρ, S, dy, r, re, ry, g⟩
  refine ⟨B, m, ρ, S, r, re, fin.mono (fin.bindS re r g) fun vo H2 => ?_⟩
  rintro ⟨m2, S2, dO, p2, q2, g2⟩
  have re2 := re.kp (p2.kp r)
  have ry2 := ry.kp (p2.kp r)
  cases e1 : insOf S2 c dO with
  | none => rw [e1] at g2; exact g2.elim
  | some nf =>
    obtain ⟨n, fs⟩ := nf
    rw [e1] at g2
    dsimp only at g2
    split at g2
    · rename_i hl
      obtain ⟨a, dx, fv, rfl, rfl, ha, hx, hh, fr⟩ := ins_of gC p2.rl q2 e1
      have kp := kp_upd (ho := .ins (He.ga X.K c) dx (putF f y fv)) (o' := .ins c (putFD f dy fs)) p2.rl ha hx
      have fr2 := (fr.put f ry2).kp kp
      refine ⟨a, _, dx, fv, rfl, hh, cl, na, by rw [fr.len]; exact hl, ?_⟩
      exact g2 m2 _ σ (Post.upd p2.rl ha hx (.ins gC upd_same fr2.names fr2.vals)) (re2.kp kp)
    · exact g2.elim
def OkM (P : Program) (w : World) (K : PySem.W.Frag) (mg : Str → Option Value) (base : Heap) (c m : Str) (ps : List Str) (k : Nat) (F : Fn) : Prop :=
  ∃ fd, DL.FnOk P w K mg base (L2.CX P w) k (He.fAd K (c, some m)) fd ps (spD K mg ps.length F) ∧ Binds K fd ps [] ∧ Meth K (He.ga K c) m (He.fAd K (c, some m))
def eMt (c m : Str) (F : Fn) (o : Ex) (fs : List Ex) : Ex := fun ρ S => (o ρ S).bind fun d S => match insOf S c d with
  | some (_, fl) => if (fl.lookup m).isNone = true then (evL fs ρ S).bind fun ds S => F (d :: ds) S else .bad
  | none => .bad
def tMethG (C : Addr) (m : Str) (sp : Sp) (E : L2.St → XK) (ta : TE) (t : TA) : TE := fun σ H Q => ta σ H fun x H1 => ∃ a dx fs, x = .ref a ∧ H1 a = some (.ins C dx fs) ∧ fs.lookup m = none ∧ t σ H1 fun vs H2 => sp (x :: vs) H2 Q (E σ)
theorem pe_methG {CX : CXT} {C f : Addr} {m : Str} {k : Nat} {fd : FuncData} {ps : List Str} {sp : Sp} {E : L2.St → XK} {o e : Expr} {es : List Expr} {ta : TE} {t : TA} {apos pos : Pos} {pl : Sem Bool} (he : PE X o ta) (c : Cls X.K C) (hm : Meth X.K C m f) (F : DL.FnOk X.prog X.w X.K X.mg X.base CX k f fd ps sp) (hr : DL.Room k X.A) (hb : Binds X.K fd ps []) (hx : ∀ σ, PassesAt CX X σ (E σ)) (ha : PA X (e :: es) t)
    (hst : starEach (e :: es) X.env = (false, eval e X.env) :: starEach es X.env := by rfl) (hpl : (backTo pos (starEach es X.env)).any (·.1) = false := by rfl)
    (ht : eval (.Call (.Attribute o m apos) (e :: es) [] pos) X.env = (do
      let ov ← eval o X.env
      standAt apos.atName
      let (f, first) ← holding [ov] (getMethod ov m pl)
      callWith pos f first (backTo pos (starEach (e :: es) X.env)) (backToKw pos (keywordEach [] X.env))) := by rfl) :
    PE X (.Call (.Attribute o m apos) (e :: es) [] pos) (tMethG C m sp E ta t) := by
  refine ⟨fun pins s σ H Q I h => ?_⟩
  refine PySem.W.methodCall_KW (pl := pl) (thn (he.run pins s σ H _ I h) fun u s1 ⟨x, H1, I1, rx, a, dx, fs, ex, ea, l, q⟩ => ?_) ht
  subst ex
  obtain rfl : u = Value.ref a := rx
  refine getmeth_ok I1 ea c hm l ?_
  refine PySem.W.callWith_K (first := [.ref a]) (h₀ := X.base) I1.ok.mod.kin hm.kp (thn (ha.run pos pins s1 σ H1 _ I1 q) fun us s2 ⟨vs, H2, I2, r, q2⟩ => ⟨I2.kIn, ?_⟩) hst hpl
  exact run_call (ys := .ref a :: us) (xs := .ref a :: vs) F hr hb .nil (hx σ) I2 (.cons rfl r) (by rw [List.append_nil]; exact q2)
theorem pe_methG0 {CX : CXT} {C f : Addr} {m : Str} {k : Nat} {fd : FuncData} {ps : List Str} {sp : Sp} {E : L2.St → XK} {o : Expr} {ta : TE} {apos pos : Pos} {pl : Sem Bool} (he : PE X o ta) (c : Cls X.K C) (hm : Meth X.K C m f) (F : DL.FnOk X.prog X.w X.K X.mg X.base CX k f fd ps sp) (hr : DL.Room k X.A) (hb : Binds X.K fd ps []) (hx : ∀ σ, PassesAt CX X σ (E σ))
    (ht : eval (.Call (.Attribute o m apos) [] [] pos) X.env = (do
      let ov ← eval o X.env
      standAt apos.atName
      let (f, first) ← holding [ov] (getMethod ov m pl)
      callWith pos f first (backTo pos (starEach [] X.env)) (backToKw pos (keywordEach [] X.env))) := by rfl) :
    PE X (.Call (.Attribute o m apos) [] [] pos) (tMethG C m sp E ta tNil) := by
  refine ⟨fun pins s σ H Q I h => ?_⟩
  refine PySem.W.methodCall_KW (pl := pl) (thn (he.run pins s σ H _ I h) fun u s1 ⟨x, H1, I1, rx, a, dx, fs, ex, ea, l, q⟩ => ?_) ht
  subst ex
  obtain rfl : u = Value.ref a := rx
  refine getmeth_ok I1 ea c hm l ?_
  exact PySem.W.callWith_K0 (first := [.ref a]) I1.kIn hm.kp (run_call (ys := [.ref a]) (xs := [.ref a]) F hr hb .nil (hx σ) I1 (.cons rfl .nil) (by rw [List.append_nil]; exact q))
theorem up_mono {f : Ex} {Q Q' : VK} (h : up X.K X.mg W f σ H Q) (k : ∀ v H, Q v H → Q' v H) : up X.K X.mg W f σ H Q' := by
  obtain ⟨B, m, ρ, S, r, re, g⟩ := h
  exact ⟨B, m, ρ, S, r, re, g.mono k⟩
theorem mt_red {c m : Str} {F : Fn} {fo : Ex} {fs : List Ex} {ps : List Str} {Q : VK} (gC : X.mg c = some (.ref (He.ga X.K c))) (hn : fs.length + 1 = ps.length) {ta : TE} {E : L2.St → XK} {t : TA} (hta : ta = up X.K X.mg W fo) (ht : t = upA X.K X.mg W (evL fs)) (hE : E = fun σ => WE W σ)
    (h : up X.K X.mg W (eMt c m F fo fs) σ H Q) : tMethG (He.ga X.K c) m (spD X.K X.mg ps.length F) E ta t σ H Q := by
  subst hta ht hE
  obtain ⟨B, mm, ρ, S, r, re, g⟩ := up_one (g := fun d ρ S => match insOf S c d with
    | some (_, fl) => if (fl.lookup m).isNone = true then (evL fs ρ S).bind fun ds S => F (d :: ds) S else .bad
    | none => .bad) h
  refine ⟨B, mm, ρ, S, r, re, g.mono fun x H1 => ?_⟩
  rintro ⟨B, mm, ρ, S, d, r, re, rx, g⟩
  cases e1 : insOf S c d with
  | none => rw [e1] at g; exact g.elim
  | some nf =>
    obtain ⟨n, fl⟩ := nf
    rw [e1] at g
    dsimp only at g
    split at g
    · rename_i hl
      obtain ⟨a, dx, fv, rfl, rfl, ha, hx, hh, fr⟩ := ins_of gC r rx e1
      refine ⟨a, dx, fv, rfl, hh, fr.none (Option.isNone_iff_eq_none.mp hl), B, mm, ρ, S, r, re, ?_⟩
      cases e2 : evL fs ρ S with
      | bad => rw [e2] at g; exact g.elim
      | exc c p S1 => rw [e2] at g; exact g
      | ok ds S1 =>
        rw [e2] at g
        exact fun m1 H2 vs p q => ⟨B, m1, S1, .ref n :: ds, p.rl, .cons (rx.kp (p.kp r)) q, by rw [List.length_cons, q.length, evL_len _ _ _ _ _ e2, hn], fin_call (fin.later p g)⟩
    · exact g.elim
theorem ev_mt {c m : Str} {F : Fn} {ps : List Str} {k j : Nat} {o e : Expr} {es : List Expr} {fo : Ex} {fs : List Ex} {apos pos : Pos} {pl : Sem Bool} (gC : X.mg c = some (.ref (He.ga X.K c))) (cl : Cls X.K (He.ga X.K c)) (O : OkM X.prog X.w X.K X.mg X.base c m ps k F) (hr : DL.Room j X.A) (tk : Takes X W) (ho : EV X W o fo) (ha : EVA X W (e :: es) fs) (hj : k ≤ j := by omega) (hn : fs.length + 1 = ps.length := by rfl)
    (hst : starEach (e :: es) X.env = (false, eval e X.env) :: starEach es X.env := by rfl) (hpl : (backTo pos (starEach es X.env)).any (·.1) = false := by rfl)
    (ht : eval (.Call (.Attribute o m apos) (e :: es) [] pos) X.env = (do
      let ov ← eval o X.env
      standAt apos.atName
      let (f, first) ← holding [ov] (getMethod ov m pl)
      callWith pos f first (backTo pos (starEach (e :: es) X.env)) (backToKw pos (keywordEach [] X.env))) := by rfl) :
    EV X W (.Call (.Attribute o m apos) (e :: es) [] pos) (eMt c m F fo fs) := by
  obtain ⟨fd, FO, hb, hm⟩ := O
  exact pe_imp (pe_methG (pl := pl) ho cl hm FO (hr.mono hj) hb (fun σ => passAt tk σ) ha hst hpl ht) fun σ H Q h => mt_red gC hn rfl rfl rfl h
theorem ev_mt0 {c m : Str} {F : Fn} {ps : List Str} {k j : Nat} {o : Expr} {fo : Ex} {apos pos : Pos} {pl : Sem Bool} (gC : X.mg c = some (.ref (He.ga X.K c))) (cl : Cls X.K (He.ga X.K c)) (O : OkM X.prog X.w X.K X.mg X.base c m ps k F) (hr : DL.Room j X.A) (tk : Takes X W) (ho : EV X W o fo) (hj : k ≤ j := by omega) (hn : 1 = ps.length := by rfl)
    (ht : eval (.Call (.Attribute o m apos) [] [] pos) X.env = (do
      let ov ← eval o X.env
      standAt apos.atName
      let (f, first) ← holding [ov] (getMethod ov m pl)
      callWith pos f first (backTo pos (starEach [] X.env)) (backToKw pos (keywordEach [] X.env))) := by rfl) :
    EV X W (.Call (.Attribute o m apos) [] [] pos) (eMt c m F fo []) := by
  obtain ⟨fd, FO, hb, hm⟩ := O
  refine pe_imp (pe_methG0 (pl := pl) ho cl hm FO (hr.mono hj) hb (fun σ => passAt tk σ) ht) fun σ H Q h => ?_
  have z := mt_red (fs := []) (m := m) (F := F) (ps := ps) gC hn (rfl : up X.K X.mg W fo = _) rfl (rfl : (fun σ => WE W σ) = _) h
  exact up_mono z fun x H1 ⟨a, dx, fs, e1, e2, e3, q⟩ => ⟨a, dx, fs, e1, e2, e3, upA_nil q⟩
def OkI (P : Program) (w : World) (K : PySem.W.Frag) (mg : Str → Option Value) (base : Heap) (c : Str) (ps : List Str) (k : Nat) (F : Fn) : Prop :=
  ∃ fd, DL.FnOk P w K mg base (L2.CX P w) k (He.fAd K (c, some "__init__")) fd ps (spD K mg ps.length F) ∧ Binds K fd ps [] ∧ Mk K (He.ga K c) (He.fAd K (c, some "__init__"))
def eMk (c : Str) (F : Fn) (fs : List Ex) : Ex := fun ρ S => (evL fs ρ S).bind fun ds S => (F (.ref S.length :: ds) (S ++ [some (.ins c [])])).bind fun z S2 => match z with
  | .non => .ok (.ref S.length) S2
  | _ => .bad
theorem run_makeG {CX : CXT} {C f : Addr} {k : Nat} {fd : FuncData} {ps : List Str} {sp : Sp} {E : XK} {pins : List (Addr × Obj)} {σ : L2.St} {H : Hp} {s : Shared} {Q : VK} {us : List Value} {vs : List V} (M : Mk X.K C f) (F : DL.FnOk X.prog X.w X.K X.mg X.base CX k f fd ps sp) (hr : DL.Room (k + 1) X.A) (hb : Binds X.K fd ps [])
    (hx : PassesAt CX X σ E) (I : Inv X pins σ H s) (r : Vals vs us)
    (h : ∀ x dx, H x = none → H dx = none → dx ≠ x → sp (.ref x :: vs) (upd (upd H dx (.own x)) x (.ins C dx [])) (fun v H2 => v = .non ∧ Q (.ref x) H2) E) (hx2 : ∀ (H2 : Hp) (s2 : Shared) (e : Value) (s' : Shared), Inv X pins σ H2 s2 → CX X.stack H2 s2 E e s' → X.xe e s') :
    wpAny (model X.prog X.w) X.A (call (.ref C) us) (EP X pins σ Q) X.xe s := by
  have hq := h (s.heap.objs.size + 1) s.heap.objs.size (I.hok.fresh (Nat.le_succ _)) (I.hok.fresh (Nat.le_refl _)) (Nat.ne_of_lt (Nat.lt_succ_self _))
  have I2 := Inv.made (C := C) I
  have r2 : Vals (V.ref (s.heap.objs.size + 1) :: vs) (Value.ref (s.heap.objs.size + 1) :: us) := .cons rfl r
  have hl : (Value.ref (s.heap.objs.size + 1) :: us).length = ps.length := by
    have e := r2.length
    rw [F.len _ _ _ _ hq] at e
    exact e.symm
  have hb' := hb _ (Value.ref (s.heap.objs.size + 1) :: us) I2.kIn (by simpa using hl)
  rw [List.append_nil] at hb'
  refine wpAny_call (make_map (f := f) I.kIn M.makes M.init (beq_iff_eq.mp M.fn) (codeAny_mono (F.run _ X.stack _ _ ⟨Value.ref (s.heap.objs.size + 1) :: us, []⟩ (Value.ref (s.heap.objs.size + 1) :: us) _ _ E ⟨hr.r.make C us [], hr.g⟩
    (I2.env0.make C us []) hb' r2 hq) fun r s' hq' => ?_))
  cases r with
  | error e => exact hx2 _ _ e s' I2 hq'
  | ok fl =>
    cases fl with
    | ret u =>
      obtain ⟨v, H', I3, rv, ev, q3⟩ := I2.after hq'
      subst ev
      exact ⟨rv, ⟨V.ref (s.heap.objs.size + 1), H', I3, rfl, q3⟩⟩
    | next => exact False.elim hq'
    | brk => exact False.elim hq'
    | cont => exact False.elim hq'
theorem ev_mk {c : Str} {F : Fn} {ps : List Str} {k j : Nat} {e : Expr} {es : List Expr} {fs : List Ex} {p pos : Pos} (hg : Gl X c) (gC : X.mg c = some (.ref (He.ga X.K c))) (O : OkI X.prog X.w X.K X.mg X.base c ps k F) (hr : DL.Room j X.A) (tk : Takes X W) (ha : EVA X W (e :: es) fs) (hj : k + 1 ≤ j := by omega) (hn : fs.length + 1 = ps.length := by rfl)
    (hdb : (c == ("__debug__" : Str)) = false := by decide) (he : starEach (e :: es) X.env = (false, eval e X.env) :: starEach es X.env := by rfl) (hpl : (backTo pos (starEach es X.env)).any (·.1) = false := by rfl) :
    EV X W (.Call (.Name c p) (e :: es) [] pos) (eMk c F fs) := by
  obtain ⟨fd, FO, hb, M⟩ := O
  refine ⟨fun pins s σ H Q I h => ?_⟩
  refine wpAny_Call_Name_kw (ld_glob I hg gC ?_ hdb)
  obtain ⟨B, m, ρ, S, r, re, g⟩ := h
  have g' : fin X.K X.mg W B m S σ H ((evL fs ρ S).bind fun ds S => (F (.ref S.length :: ds) (S ++ [some (.ins c [])])).bind fun z S2 => match z with
    | .non => .ok (.ref S.length) S2
    | _ => .bad) Q := g
  have hta : upA X.K X.mg W (evL fs) σ H fun vs H1 => ∃ m1 S1 ds, Post X.K X.mg B m S H m1 S1 H1 ∧ RepA X.K H1 (Fo B m1 S1) m1 vs ds ∧ ds.length = fs.length ∧ fin X.K X.mg W B m1 S1 σ H1 ((F (.ref S1.length :: ds) (S1 ++ [some (.ins c [])])).bind fun z S2 => match z with
      | .non => .ok (.ref S1.length) S2
      | _ => .bad) Q := by
    refine ⟨B, m, ρ, S, r, re, ?_⟩
    cases e2 : evL fs ρ S with
    | bad => rw [e2] at g'; exact g'.elim
    | exc c p S1 => rw [e2] at g'; exact g'
    | ok ds S1 =>
      rw [e2] at g'
      exact fun m1 H2 vs p q => ⟨m1, S1, ds, p, q, evL_len _ _ _ _ _ e2, fin.later p g'⟩
  refine PySem.W.callWith_K (h₀ := X.base) I.ok.mod.kin M.kp (thn (ha.run pos pins s σ H _ I hta) fun us s1 ⟨vs, H1, I1, rv, m1, S1, ds, p1, q1, hl, f1⟩ => ⟨I1.kIn, ?_⟩) he hpl
  refine run_makeG (E := WE W σ) M FO (hr.mono hj) hb (passAt tk σ) I1 rv (fun x dx nx nd ne => ?_) (fun H2 s2 e s' I2 hc => passAt tk σ pins H2 s2 e s' I2 hc)
  have sm1 : Same H1 (upd H1 dx (.own x)) := same_upd nd
  have nx2 : (upd H1 dx (.own x)) x = none := by rw [upd_ne (Ne.symm ne)]; exact nx
  have po1 := Post.grow p1.rl sm1
  have po2 : Post X.K X.mg B m1 S1 (upd H1 dx (.own x)) (m1 ++ [x]) (S1 ++ [some (.ins c [])]) (upd (upd H1 dx (.own x)) x (.ins (He.ga X.K c) dx [])) := Post.new po1.rl nx2 (.ins gC upd_same rfl .nil)
  have po := po1.trans po2
  have hx : (m1 ++ [x])[S1.length]? = some x := by rw [← p1.rl.len]; simp
  refine ⟨B, m1 ++ [x], S1 ++ [some (.ins c [])], .ref S1.length :: ds, po.rl, .cons (.ref hx) (q1.kp (po.kp p1.rl)), by rw [List.length_cons, q1.length, hl, hn], ?_⟩
  refine fin_call ?_
  have f2 := fin.later po f1
  cases e3 : F (.ref S1.length :: ds) (S1 ++ [some (.ins c [])]) with
  | bad => rw [e3] at f2; exact f2.elim
  | exc c p S3 => rw [e3] at f2; exact f2
  | ok z S3 =>
    rw [e3] at f2
    cases z with
    | non =>
      intro m3 H3 v p3 rz
      cases rz
      have hx3 : m3[S1.length]? = some x := by
        obtain ⟨l, e, _⟩ := p3.ext
        rw [e, List.getElem?_append_left (by have := p1.rl.len; simp; omega)]
        exact hx
      exact ⟨rfl, f2 m3 H3 _ p3 (.ref hx3)⟩
    | _ => exact f2.elim
end
def eLenO (c : Str) (F : Fn) (o : Ex) : Ex := fun ρ S => (o ρ S).bind fun d S => match insOf S c d with
  | some (_, _) => (F [d] S).nox.bind fun z S2 => match z with
    | .int i => if 0 ≤ i ∧ i < 1000000000 then .ok (.int i) S2 else .bad
    | _ => .bad
  | none => .bad
section
variable {X : Cx} {W : WX}
theorem room_in1 {k : Nat} {A : Around} (r : DL.Room (k + 1) A) : DL.Room k A.in1 := ⟨⟨r.r.hd, by have := r.r.dp; show A.depth + 3 * k + 5 < _; omega, by have := r.r.un; show A.units + 1 + 16 * k + 200 < _; omega⟩, r.g⟩
def rLenO (X : Cx) : List V → Hp → VK → Prop := fun xs H Q => ∃ (a dx C f : Addr) (fv : List (Str × V)) (fd : FuncData) (k : Nat) (ps : List Str) (sp : Sp), xs = [.ref a] ∧ H a = some (.ins C dx fv) ∧ PySem.W.findIn X.K (.ref C) "__len__" = some (some (.ref f)) ∧ PySem.W.isFn X.K (.ref f) = true ∧
  DL.FnOk X.prog X.w X.K X.mg X.base (L2.CX X.prog X.w) k f fd ps sp ∧ Binds X.K fd ps [] ∧ DL.Room (k + 1) X.A ∧ sp [.ref a] H (fun v H2 => ∃ i : Int, v = .int i ∧ 0 ≤ i ∧ i < 1000000000 ∧ Q (.int i) H2) (fun _ _ _ => False)
theorem call_lenO : CallR X (.builtin "len") (rLenO X) := by
  intro pins s σ H xs us Q I r h
  obtain ⟨a, dx, C, f, fv, fd, k, ps, sp, rfl, hh, hs, hf, FO, hb, hr, want⟩ := h
  rw [Vals.ref1 r]
  obtain ⟨m, fr⟩ := I.fr
  obtain ⟨mA, O, _, _, _, _⟩ := ins_get I.hok hh
  obtain ⟨od, ho, _⟩ := lookIn_ns O.ns
  have inst : PySem.W.InstAt s.heap a (PySem.W.instObj C dx) C (some od) := ⟨O.obj, rfl, rfl, ho⟩
  refine PySem.W.len_K (X₀ := I.ok.mod.kin) fr inst hs hf ?_
  have rel : Vals [V.ref a] [Value.ref a] := .cons rfl .nil
  have many : ([Value.ref a] ++ []).length = ps.length := by
    have := FO.len _ _ _ _ want
    simpa using this
  have hb' := hb s [.ref a] I.kIn many
  rw [List.append_nil] at hb'
  refine wpAny_call (codeAny_mono (FO.run X.A.in1 X.stack s H ⟨[.ref a], []⟩ [.ref a] [.ref a] _ _ (room_in1 hr) I.env0.in1 hb' rel want) ?_)
  intro res s2 hres
  match res, hres with
  | .ok (.ret u), hres =>
    obtain ⟨v, H', I3, rv, i, rfl, i0, i1, q⟩ := I.after hres
    obtain ⟨tk, rfl⟩ := (show ∃ t, u = Value.int i t from rv)
    exact ⟨⟨i0, by omega⟩, .int i, H', I3.tok _, ⟨_, rfl⟩, q⟩
  | .ok .next, hres => exact False.elim hres
  | .ok .brk, hres => exact False.elim hres
  | .ok .cont, hres => exact False.elim hres
  | .error er, hres =>
    obtain ⟨a, B, H', cls, d, ea, fl, hok, ub, na, os, ag, he⟩ := hres
    exact he.elim
theorem ev_lenO {c : Str} {F : Fn} {ps : List Str} {k j : Nat} {o : Expr} {fo : Ex} {p pos : Pos} (hg : Gl X "len") (hm : X.mg "len" = none) (gC : X.mg c = some (.ref (He.ga X.K c))) (O : OkM X.prog X.w X.K X.mg X.base c "__len__" ps k F) (hr : DL.Room j X.A) (ho : EV X W o fo) (hj : k + 1 ≤ j := by omega) (hn : 1 = ps.length := by rfl) (hv : bootBuiltins "len" = some (.builtin "len") := by decide +kernel)
    (na : starEach [o] X.env = (false, eval o X.env) :: starEach [] X.env := by rfl) (h1 : (backTo pos (starEach [] X.env)).any (·.1) = false := by rfl) :
    EV X W (.Call (.Name "len" p) [o] [] pos) (eLenO c F fo) := by
  obtain ⟨fd, FO, hb, M⟩ := O
  refine pe_imp (pe_callB call_lenO hg hm hv (pa_cons ho pa_nil na) (by decide) (by decide) na h1) fun σ H Q h => ?_
  obtain ⟨B, m, ρ, S, r, re, g⟩ := up_one (g := fun d ρ S => match insOf S c d with
    | some (_, _) => (F [d] S).nox.bind fun z S2 => match z with
      | .int i => if 0 ≤ i ∧ i < 1000000000 then .ok (.int i) S2 else .bad
      | _ => .bad
    | none => .bad) h
  refine ⟨B, m, ρ, S, r, re, g.mono fun x H1 => ?_⟩
  rintro ⟨B, m, ρ, S, d, r, re, rx, g⟩
  show rLenO X [x] H1 Q
  cases e1 : insOf S c d with
  | none => rw [e1] at g; exact g.elim
  | some nf =>
    obtain ⟨n, fl⟩ := nf
    rw [e1] at g
    dsimp only at g
    obtain ⟨a, dx, fv, rfl, rfl, ha, hx, hh, fr⟩ := ins_of gC r rx e1
    refine ⟨a, dx, _, _, fv, fd, k, ps, _, rfl, hh, M.at_, M.fn, FO, hb, hr.mono hj, B, m, S, [.ref n], r, .cons rx .nil, hn, ?_⟩
    cases e3 : F [.ref n] S with
    | bad => rw [e3] at g; exact g.elim
    | exc c p S3 => rw [e3] at g; exact g.elim
    | ok z S3 =>
      rw [e3] at g
      intro m3 H3 v p3 rz
      cases z with
      | int i =>
        cases rz
        replace g : fin X.K X.mg W B m S σ H1 (if 0 ≤ i ∧ i < 1000000000 then .ok (.int i) S3 else .bad) Q := g
        by_cases hi : 0 ≤ i ∧ i < 1000000000
        · rw [if_pos hi] at g
          exact ⟨i, rfl, hi.1, hi.2, g m3 H3 _ p3 (.int i)⟩
        · rw [if_neg hi] at g
          exact g.elim
      | _ => exact g.elim
end
end DL
set_option Elab.async false
set_option linter.all false
set_option maxRecDepth 100000
set_option maxHeartbeats 4000000
namespace DL
open PySem PySem.Spec PyProof.Rows L2
end DL
set_option Elab.async false
set_option linter.all false
set_option maxRecDepth 100000
set_option maxHeartbeats 4000000
namespace PySem.W
open PySem PySem.Spec PySem.Calls PyProof.Rows
section
variable {prog : Program} {w : World} {A : Around} {E : Value → Shared → Prop} {s : Shared} {K : Frag} {x D : Addr} {ox od : Obj}
/-- e.__class__ of an own exception that has a dict -/
theorem classD {Q : Option Value → Shared → Prop} (C : L2.ExcC K D) (X : K.In s.heap) (I : InstAt s.heap x ox D (some od)) (h : Q (some (.ref D)) { s with toks := s.toks + 1 }) : wpAny (model prog w) A (getAttr? (.ref x) "__class__") Q E s := by
  have hf : findObj K D (some od) "__class__" = some (.bind (.builtin "getset_descriptor.__get__") (.builtin "object.__class__")) := findObj_data (by obtain ⟨cd, hc, _⟩ := any_some C.hd; rw [hc]; rfl) C.ha C.hn C.ht
  obtain ⟨hp, g, d, t, os⟩ := s
  have L0 := I.type (M := model prog w)
  have L1 := looks_findIn (M := model prog w) X C.hg
  have L2 := looks_findIn (M := model prog w) X C.hk
  have L3 := looks_find (M := model prog w) X I hf
  have sub : Looks (model prog w) hp (isInstance (.ref x) (.type "BaseException")) true := L0.andThen (looks_subIn X C.hs)
  have hx0 : (false && onTheHeap (Value.builtin "BaseException.__getattribute__")) = false := rfl
  have hx2 : (Value.builtin "BaseException.__getattribute__" == Value.builtin "object.__getattribute__") = false := by decide +kernel
  have hx1 : (onTheHeap (Value.ref D) && Value.builtin "BaseException.__getattribute__" == Value.builtin "object.__getattribute__") = false := by rw [hx2]; rfl
  unfold getAttr? getAttrBy? getAttrBy
  refine wpAny_bind (wpAny_mkText (wpAny_bind (wpAny_attempt (wpAny_holding (wpAny_bind (L0.at (wpAny_bind (L1.at ?_))))))))
  show wpAny _ _ (if (onTheHeap (Value.ref D) && Value.builtin "BaseException.__getattribute__" == Value.builtin "object.__getattribute__") = true then _ else _) _ _ _
  rw [hx1, if_neg Bool.false_ne_true]
  unfold getAttrByItsOwn hookBefore
  refine wpAny_bind ?_
  rw [if_pos (show onTheHeap (Value.ref D) = true from rfl)]
  refine L2.at ?_
  refine wpAny_bind (wpAny_attempt (wpAny_holding ?_))
  unfold callGetattribute
  rw [hx0, if_neg Bool.false_ne_true]
  unfold boundAndCalled
  rw [PySem.F.excAttr_ValueError.ga.bind (.ref x)]
  refine wpAny_bind (wpAny_pure ?_)
  show wpAny _ _ (call (.builtin "BaseException.__getattribute__") [.ref x, .str "__class__" t]) _ _ _
  refine wpAny_call (codeAny_call_builtin PySem.F.excAttr_ValueError.ga.plain PySem.F.entry_bexc_ga ?_)
  refine @check_slot (model prog w) _ _ ⟨hp, g, d, t + 1, os⟩ "BaseException.__getattribute__" "BaseException" "__getattribute__" (.ref x) [.str "__class__" t] [] _ (by decide +kernel) (by decide +kernel) sub (PySem.F.args_bexc_ga (.ref x) (.str "__class__" t)) ?_
  unfold Builtin.«object.__getattribute__»
  refine wpAny_bind (wpAny_of_eq (a := ((Value.ref x : Value), [Value.str "__class__" t])) (by first | rfl | (simp only [slotArgs]; rfl)) ?_)
  refine wpAny_bind (wpAny_pure (wpAny_bind (L0.at (wpAny_bind (L3.at ?_)))))
  show wpAny _ _ (holding [Value.builtin "object.__class__"] (call (.builtin "getset_descriptor.__get__") [.builtin "object.__class__", .ref x, .ref D]) >>= ret) _ _ _
  refine wpAny_bind (wpAny_holding (wpAny_call (class_get (s := ⟨hp, g, d, t + 1, os⟩) (ox := ox) (od := some od) X I C.hm ?_)))
  refine wpAny_pure ?_
  show wpAny _ _ (handedOut (.ref D)) _ _ _
  rw [handedOut_of (v := .ref D) rfl]
  first
    | exact wpAny_pure (wpAny_pure h)
    | exact wpAny_pure h
    | exact wpAny_pure (wpAny_bind (wpAny_pure (wpAny_pure h)))
theorem kitD (C : L2.ExcC K D) : KitX K (.ref x) (.ref D) (fun h => InstAt h x ox D (some od)) where
  ty := fun _ _ _ I => I.type
  it := fun _ _ X _ => by
    obtain ⟨cdD, hcD, _⟩ := any_some C.hd
    unfold clsIn at hcD
    split at hcD
    · rename_i c' d' cd' sl' ho
      intro A' Q' E' s' k q
      unfold isType loadHead
      exact wpAny_bind (wpAny_loadPart (k _ _ (X _ _ ho)) (wpAny_pure q))
    · cases hcD
  ne := fun h tp dd its n sl X htp => by
    obtain ⟨cdD, hcD, _⟩ := any_some C.hd
    refine Bool.eq_false_iff.mpr fun q => ?_
    have e : D = tp := Value.ref.inj (beq_iff_eq.mp q)
    subst e
    unfold clsIn at hcD
    split at hcD
    · rename_i c' d' cd' sl' ho
      have z := (X _ _ ho).symm.trans htp
      cases z
    · cases hcD
  ca := fun X I k => classD C X I k
end
end PySem.W
namespace DL
open PySem PySem.Spec PyProof.Rows L2
def isxE (es : List Str) (c : Str) (d : D) : Option D := match d with
  | .exn e _ => if e ∈ es then some (.bl (isOf e c)) else none
  | _ => none
theorem exh_at {X : Cx} {pins : List (Addr × Obj)} {σ : L2.St} {H : Hp} {s : Shared} {a : Addr} {cls : Value} {d : Option Addr} (I : Inv X pins σ H s) (h : Rd H a (ExH cls d a)) : ∃ (oe : Obj) (vs : Array Value), s.heap.get? a = some oe ∧ Zc cls d oe ∧ oe.data = .fields vs := by
  have ok : ObjOk X.prog X.w H s.heap a (ExH cls d a) := by
    rcases h with h | ⟨o, h⟩
    · exact I.hok a _ h
    · exact (show ObjOk X.prog X.w H s.heap a (.frz o (ExH cls d a)) from I.hok a _ h).2
  exact ok.1
theorem xd_at {X : Cx} {pins : List (Addr × Obj)} {σ : L2.St} {H : Hp} {s : Shared} {a : Addr} {fs : List (Str × V)} (I : Inv X pins σ H s) (h : Rd H a (.xd fs)) : ∃ mA, s.heap.Ns1 a mA ∧ ∀ f, RelO (fs.lookup f) (mA f) := by
  rcases h with h | ⟨o, h⟩
  · exact I.hok a _ h
  · exact (show ObjOk X.prog X.w H s.heap a (.frz o (.xd fs)) from I.hok a _ h).2
theorem instX {X : Cx} {pins : List (Addr × Obj)} {σ : L2.St} {H : Hp} {s : Shared} {a dd D : Addr} {fs : List (Str × V)} (I : Inv X pins σ H s) (h : Rd H a (ExH (.ref D) (some dd) a)) (hx : Rd H dd (.xd fs)) : ∃ (oe od : Obj) (mA : Str → Option Value), PySem.W.InstAt s.heap a oe D (some od) ∧ (∀ name, PySem.W.lookIn name od = some (mA name)) ∧ ∀ f, RelO (fs.lookup f) (mA f) := by
  obtain ⟨oe, vs, h1, ⟨h2, h3⟩, h4⟩ := exh_at I h
  obtain ⟨mA, hns, hr⟩ := xd_at I hx
  obtain ⟨od, ho, hl⟩ := lookIn_ns hns
  refine ⟨oe, od, mA, ⟨h1, h2, by unfold PySem.W.notCls; rw [h4] <;> rfl, by rw [h3]; exact ho⟩, hl, hr⟩
def rIsXE (K : PySem.W.Frag) : List V → Hp → VK → Prop := fun xs H Q => ∃ (a D : Addr) (c : V) (cv : Value) (b : Bool), xs = [.ref a, c] ∧ (Rd H a (ExH (.ref D) none a) ∨ ∃ dd fs, Rd H a (ExH (.ref D) (some dd) a) ∧ Rd H dd (.xd fs)) ∧ ExcC K D ∧ (∀ u, RelV c u → u = cv) ∧ PySem.W.kitOne K (.ref D) cv = some b ∧ Q (.bl b) H
section
variable {X : Cx} {W : WX}
theorem call_isXE : CallR X (.builtin "isinstance") (rIsXE X.K) := by
  intro pins s σ H xs us Q I r h
  obtain ⟨a, D, c, cv, b, rfl, hx, C, hcv, e, q⟩ := h
  cases r with
  | cons rx rr =>
    cases rr with
    | cons rt rr =>
      cases rr
      cases rx
      have ec := hcv _ rt
      subst ec
      rcases hx with hx | ⟨dd, fs, hx, hd⟩
      · obtain ⟨oe, inst⟩ := inst_exn I hx
        exact PySem.W.kia_one (PySem.W.handS_kitx_exc C.hg C.hk C.hs C.hd C.ha C.hn C.ht C.hm) I.kIn inst e (fun z => nomatch z) fun tk => ⟨.bl b, H, I.kept (t' := tk) fun _ _ z => z, rfl, q⟩
      · obtain ⟨oe, od, mA, inst, _, _⟩ := instX I hx hd
        exact PySem.W.kia_one (PySem.W.kitD C) I.kIn inst e (fun z => nomatch z) fun tk => ⟨.bl b, H, I.kept (t' := tk) fun _ _ z => z, rfl, q⟩
theorem ev_isXE {e ce : Expr} {fe : Ex} {c : V} {C : Str} {es : List Str} {p pos : Pos} (hg : Gl X "isinstance") (hm : X.mg "isinstance" = none) (hcv : ClsV c (clsVl X.K C)) (he : EV X W e fe) (hce : PE X ce (tC c))
    (ht : ∀ x ∈ es, ExcC X.K (He.ga X.K x) ∧ PySem.W.kitOne X.K (.ref (He.ga X.K x)) (clsVl X.K C) = some (isOf x C)) (hv : bootBuiltins "isinstance" = some (.builtin "isinstance") := by decide +kernel)
    (na : starEach [e, ce] X.env = (false, eval e X.env) :: starEach [ce] X.env := by rfl) (nb : starEach [ce] X.env = (false, eval ce X.env) :: starEach [] X.env := by rfl) (h1 : (backTo pos (starEach [ce] X.env)).any (·.1) = false := by rfl) :
    EV X W (.Call (.Name "isinstance" p) [e, ce] [] pos) (eOp1 (isxE es C) fe) := by
  refine pe_imp (pe_callB call_isXE hg hm hv (pa_cons he (pa_cons hce pa_nil nb) na) (by decide) (by decide) na h1) fun σ H Q h => ?_
  obtain ⟨B, m, ρ, S, r, re, f⟩ := up_one (g := fun d ρ S => ans S (isxE es C (view S d))) h
  refine ⟨B, m, ρ, S, r, re, f.mono fun x H1 => ?_⟩
  rintro ⟨B, m, ρ, S, d, r, re, rx, f⟩
  show rIsXE X.K [x, c] H1 Q
  have w := vw r rx
  cases e0 : isxE es C (view S d) with
  | none => rw [e0] at f; exact f.elim
  | some y =>
    rw [e0] at f
    generalize view S d = dd at e0 w
    unfold isxE at e0
    split at e0
    · rename_i ee pp
      split at e0
      · rename_i hin
        cases e0
        obtain ⟨a1, a2⟩ := ht _ hin
        cases w with
        | oth h =>
          cases h with
          | exn h1 h2 => exact ⟨_, _, c, _, _, rfl, .inl h1, a1, fun u ru => hcv.eq ru, a2, f.ok r (Same.refl _) (.bl _)⟩
          | exp h1 h2 h3 h4 h5 h6 => exact ⟨_, _, c, _, _, rfl, .inr ⟨_, _, h1, h3⟩, a1, fun u ru => hcv.eq ru, a2, f.ok r (Same.refl _) (.bl _)⟩
      · cases e0
    · cases e0
end
/-- the i-th statement of a class's body -/
def clsAt (s : Stmt) (i : Nat) : Stmt := match s with
  | .ClassDef _ _ _ b _ _ _ _ _ _ _ => b.getD i (.Pass ⟨0, 0, 0, 0⟩)
  | _ => .Pass ⟨0, 0, 0, 0⟩
def frZ (n : Nat) (g : Addr → Option Obj) : PySem.W.Frag := He.frT g (sysModules :: cStatics :: He.asD g n)
def obsZ (n : Nat) (fa : List He.Fa) (fn : List He.DefD) (ex : PySem.W.Frag → Bool) (g : Addr → Option Obj) : AlY := (He.obsD fa fn (frZ n g), ex (frZ n g))
def hookZ (n : Nat) (fa : List He.Fa) (fn : List He.DefD) (ex : PySem.W.Frag → Bool) : PySem.W.Hook where
  α := AlY
  obs := fun s => obsZ n fa fn ex s.heap.get?
  val := fun _ => (He.valD fn, true)
  says := fun _ h => ∃ K : PySem.W.Frag, K.In h ∧ He.SaysD fa fn K ∧ ex K = true
  of := fun _ _ e => ⟨_, He.frT_in, congrArg (fun z : AlY => z.1) e, congrArg (fun z : AlY => z.2) e⟩
  keeps := fun _ _ _ ⟨K, hK, c⟩ k => ⟨K, PySem.W.Frag.In.keeps hK k, c⟩
theorem obsZ_eq {n : Nat} {fa : List He.Fa} {fn : List He.DefD} {ex : PySem.W.Frag → Bool} {g : Addr → Option Obj} {s : Shared} (h : ∀ a, g a = s.heap.get? a) : obsZ n fa fn ex g = (hookZ n fa fn ex).obs s := by
  have e : g = s.heap.get? := funext h
  rw [e] <;> rfl
end DL
set_option Elab.async false
set_option linter.all false
set_option maxRecDepth 100000
set_option maxHeartbeats 4000000
namespace DL
open PySem PySem.Spec PyProof.Rows L2
section
variable {P : Program} {w : World} {K : PySem.W.Frag} {mg : Str → Option Value} {base : Heap} {c mt name qual : Str} {params : Arguments} {body : List Stmt} {scope : Scope} {N ps ks : List Str} {k n : Nat} {b : Sx} {F : Fn} {is : List Nat}
abbrev BodyOkM (P : Program) (w : World) (K : PySem.W.Frag) (mg : Str → Option Value) (base : Heap) (c mt qual : Str) (body : List Stmt) (scope : Scope) (N : List Str) (k : Nat) (b : Sx) : Prop :=
  ∀ (cdv : Value) (A : Around) (outer : List Env) (s : Shared) (H : Hp) (E : XK), DL.Room k (A.deeper (envOfC qual scope s.heap.objs.size (He.fAd K (c, some mt)) cdv)) →
      Takes (cxOf (L2.CX P w) P w K mg base N qual scope (He.fAd K (c, some mt)) cdv A outer s H E) (WB E) → PassesOwn (model P w) (A.deeper (envOfC qual scope s.heap.objs.size (He.fAd K (c, some mt)) cdv)) (envOfC qual scope s.heap.objs.size (He.fAd K (c, some mt)) cdv) (cxOf (L2.CX P w) P w K mg base N qual scope (He.fAd K (c, some mt)) cdv A outer s H E).xe →
      SVs (cxOf (L2.CX P w) P w K mg base N qual scope (He.fAd K (c, some mt)) cdv A outer s H E) (WB E) body b
theorem okM_N (h : ∃ fd, FunD K name qual params body scope [] [] (He.fAd K (c, some mt)) fd) (hm : Meth K (He.ga K c) mt (He.fAd K (c, some mt))) (sc : FnScope N ps scope)
    (hbind : ∀ (kV doc pm : Value) (an : Option Addr) (cdv ct : Value) (us : List Value), us.length = ps.length → bindArgs (PySem.W.fnOf name qual params body scope .none kV doc pm an cdv ct) ⟨us, []⟩ = pure (ps.zip us))
    (hb : BodyOkM P w K mg base c mt qual body scope N k b) : OkM P w K mg base c mt ps (k + 1) (fnB N.length b) := by
  obtain ⟨fd, g⟩ := h
  exact ⟨fd, fn_denD g sc hb, g.bindsN hbind, hm⟩
theorem okI_N (h : ∃ fd, FunD K name qual params body scope [] [] (He.fAd K (c, some "__init__")) fd) (hm : Mk K (He.ga K c) (He.fAd K (c, some "__init__"))) (sc : FnScope N ps scope)
    (hbind : ∀ (kV doc pm : Value) (an : Option Addr) (cdv ct : Value) (us : List Value), us.length = ps.length → bindArgs (PySem.W.fnOf name qual params body scope .none kV doc pm an cdv ct) ⟨us, []⟩ = pure (ps.zip us))
    (hb : BodyOkM P w K mg base c "__init__" qual body scope N k b) : OkI P w K mg base c ps (k + 1) (fnB N.length b) := by
  obtain ⟨fd, g⟩ := h
  exact ⟨fd, fn_denD g sc hb, g.bindsN hbind, hm⟩
/-- the make with keywords: n values by place, then the keywords -/
def OkIK (P : Program) (w : World) (K : PySem.W.Frag) (mg : Str → Option Value) (base : Heap) (c : Str) (ps : List Str) (n : Nat) (ks : List Str) (is : List Nat) (k : Nat) (F : Fn) : Prop :=
  ∃ fd, DL.FnOk P w K mg base (L2.CX P w) k (He.fAd K (c, some "__init__")) fd ps (spD K mg ps.length F) ∧ (∀ (s : Shared) (us ws : List Value), K.In s.heap → us.length = n + 1 → ws.length = ks.length → BindsTo s fd ⟨us, ks.zip ws⟩ (ps.zip (pick is (us ++ ws)))) ∧ Mk K (He.ga K c) (He.fAd K (c, some "__init__")) ∧ is.length = ps.length ∧ ∀ i ∈ is, i < n + 1 + ks.length
theorem okIK_N (h : ∃ fd, FunD K name qual params body scope [] [] (He.fAd K (c, some "__init__")) fd) (hm : Mk K (He.ga K c) (He.fAd K (c, some "__init__"))) (sc : FnScope N ps scope)
    (hbind : ∀ (kV doc pm : Value) (an : Option Addr) (cdv ct : Value) (us ws : List Value), us.length = n + 1 → ws.length = ks.length → bindArgs (PySem.W.fnOf name qual params body scope .none kV doc pm an cdv ct) ⟨us, ks.zip ws⟩ = pure (ps.zip (pick is (us ++ ws))))
    (hb : BodyOkM P w K mg base c "__init__" qual body scope N k b) (hi : is.length = ps.length := by rfl) (hj : ∀ i ∈ is, i < n + 1 + ks.length := by decide) : OkIK P w K mg base c ps n ks is (k + 1) (fnB N.length b) := by
  obtain ⟨fd, g⟩ := h
  refine ⟨fd, fn_denD g sc hb, ?_, hm, hi, hj⟩
  obtain ⟨oc, od, dV, kV, doc, pm, an, cdv, ct, osl, rfl, lk, hcd, hD, hK⟩ := g.ex
  rcases hD with ⟨_, rfl⟩ | ⟨e, _⟩
  · exact fun s us ws X l1 l2 => BindsTo.of_looks fun M => PySem.W.Looks.of_pure (hbind kV doc pm an cdv ct us ws l1 l2)
  · exact absurd rfl e
/-- a def with keyword-only parameters that have no defaults -/
theorem okFK_0 {x : Str} {G : Fn} (h : ∃ fd, FunD K name qual params body scope [] [] (He.fAd K (x, none)) fd) (hm : mg x = some (.ref (He.ga K x))) (sc : FnScope N ps scope) (hi : is.length = ps.length) (hj : ∀ i ∈ is, i < n + (ks.length + ([] : List V).length))
    (hbind : ∀ (kV doc pm : Value) (an : Option Addr) (cdv ct : Value) (us ws : List Value), us.length = n → ws.length = ks.length → bindArgs (PySem.W.fnOf name qual params body scope .none kV doc pm an cdv ct) ⟨us, ks.zip ws⟩ = pure (ps.zip (pick is (us ++ (ws ++ [])))))
    (hb : BodyOk P w K mg base x qual body scope N k b) (imp : ∀ vs H Q E, spD K mg ps.length G vs H Q E → spD K mg ps.length (fnB N.length b) vs H Q E) : OkFK P w K mg base x ps n ks is [] (k + 1) G := by
  obtain ⟨fd, g⟩ := h
  have FO := (fn_denD (base := base) g sc hb).imp imp
  obtain ⟨oc, od, dV, kV, doc, pm, an, cdv, ct, osl, rfl, lk, hcd, hD, hK⟩ := g.ex
  rcases hD with ⟨_, rfl⟩ | ⟨e, _⟩
  · exact ⟨_, [], FO, .nil, fun s us ws X l1 l2 => BindsTo.of_looks fun M => PySem.W.Looks.of_pure (hbind kV doc pm an cdv ct us ws l1 l2), hm, g.kp, hi, hj⟩
  · exact absurd rfl e
end
def sFldA (c f : Str) (g : D → D → Option D) (o e : Ex) : Sx := fun ρ S => (o ρ S).bindS ρ fun d S => match insOf S c d with
  | some (_, fs) => (match fs.lookup f with
    | some v => (e ρ S).bindS ρ fun y S2 => (match insOf S2 c d with
      | some (n, fs2) => (match g (view S2 v) (view S2 y) with
        | some z => if fs2.length < 1000 then .fl (.nx ρ) (S2.set n (some (.ins c (putFD f z fs2)))) else .bad
        | none => .bad)
      | none => .bad)
    | none => .bad)
  | none => .bad
section
variable {X : Cx} {W : WX}
theorem sv_fldA {c f : Str} {op : Operator} {g : D → D → Option D} {o e : Expr} {fo fe : Ex} {pos pos' : Pos} (gC : X.mg c = some (.ref (He.ga X.K c))) (cl : Cls X.K (He.ga X.K c)) (na : NoAttr X.K (He.ga X.K c) f) (ho : EV X W o fo) (he : EV X W e fe) (hop : OpR X (inplaceOp op) (rG2 X.K g)) :
    SV X W (.AugAssign (.Attribute o f pos') op e pos) (sFldA c f g fo fe) := by
  refine ps_imp (ps_fldaug ho he (rd := rG2 X.K g) (fun pins s σ H x y u v Q I r1 r2 h => hop pins s σ H x y u v Q I r1 r2 h)) fun E σ H h => ?_
  obtain ⟨B, m, ρ, S, r, re, G⟩ := upS_one (g := fun d ρ S => match insOf S c d with
    | some (_, fs) => (match fs.lookup f with
      | some v => (fe ρ S).bindS ρ fun y S2 => (match insOf S2 c d with
        | some (n, fs2) => (match g (view S2 v) (view S2 y) with
          | some z => if fs2.length < 1000 then .fl (.nx ρ) (S2.set n (some (.ins c (putFD f z fs2)))) else .bad
          | none => .bad)
        | none => .bad)
      | none => .bad)
    | none => .bad) h
  refine ⟨B, m, ρ, S, r, re, G.mono fun x H1 => ?_⟩
  rintro ⟨B, m, ρ, S, d, r, re, rx, G⟩
  cases e1 : insOf S c d with
  | none => rw [e1] at G; exact G.elim
  | some nf =>
    obtain ⟨n, fs⟩ := nf
    rw [e1] at G
    dsimp only at G
    obtain ⟨a, dx, fv, rfl, rfl, ha, hs, hh, fr⟩ := ins_of gC r rx e1
    cases e2 : fs.lookup f with
    | none => rw [e2] at G; exact G.elim
    | some v =>
      rw [e2] at G
      dsimp only at G
      obtain ⟨w, ew, rw'⟩ := fr.get e2
      refine ⟨a, _, dx, fv, w, rfl, hh, cl, na, ew, B, m, ρ, S, r, re, fin.mono (fin.bindS re r G) fun y H2 => ?_⟩
      rintro ⟨m2, S2, dy, p2, q2, G2⟩
      have re2 := re.kp (p2.kp r)
      have rw2 := rw'.kp (p2.kp r)
      cases e3 : insOf S2 c (.ref n) with
      | none => rw [e3] at G2; exact G2.elim
      | some nf2 =>
        obtain ⟨n2, fs2⟩ := nf2
        rw [e3] at G2
        dsimp only at G2
        cases e4 : g (view S2 v) (view S2 dy) with
        | none => rw [e4] at G2; exact G2.elim
        | some z =>
          rw [e4] at G2
          dsimp only at G2
          split at G2
          · rename_i hl
            obtain ⟨a2, dx2, fv2, ea2, ed2, ha2, hx2, hh2, fr2⟩ := ins_of gC p2.rl (rx.kp (p2.kp r)) e3
            cases ea2
            cases ed2
            refine ⟨_, m2, _, _, z, fr_of p2.rl, vw p2.rl rw2, vw p2.rl q2, e4, fun H' zz s q => ?_⟩
            have pg := Post.grow p2.rl s
            have hh3 : H' a = some (.ins (He.ga X.K c) dx2 fv2) := s _ _ hh2
            have kp := kp_upd (ho := .ins (He.ga X.K c) dx2 (putF f zz fv2)) (o' := .ins c (putFD f z fs2)) pg.rl ha2 hx2
            refine ⟨dx2, fv2, hh3, by rw [fr2.len]; exact hl, ?_⟩
            have frz := ((fr2.kp (pg.kp p2.rl)).put f q).kp kp
            exact G2 m2 _ σ (pg.trans (Post.upd pg.rl ha2 hx2 (.ins gC upd_same frz.names frz.vals))) ((re2.kp (pg.kp p2.rl)).kp kp)
          · exact G2.elim
def eMkK (c : Str) (F : Fn) (is : List Nat) (fs gs : List Ex) : Ex := fun ρ S => (evL fs ρ S).bind fun us S => (evL gs ρ S).bind fun zs S => (F (pick is (.ref S.length :: us ++ zs)) (S ++ [some (.ins c [])])).bind fun z S2 => match z with
  | .non => .ok (.ref S.length) S2
  | _ => .bad
theorem run_makeGK {CX : CXT} {C f : Addr} {k : Nat} {fd : FuncData} {ps ks : List Str} {is : List Nat} {n : Nat} {sp : Sp} {E : XK} {pins : List (Addr × Obj)} {σ : L2.St} {H : Hp} {s : Shared} {Q : VK} {us ws : List Value} {vs zs : List V} (M : Mk X.K C f) (F : DL.FnOk X.prog X.w X.K X.mg X.base CX k f fd ps sp) (hr : DL.Room (k + 1) X.A)
    (hb : ∀ (s : Shared) (us ws : List Value), X.K.In s.heap → us.length = n + 1 → ws.length = ks.length → BindsTo s fd ⟨us, ks.zip ws⟩ (ps.zip (pick is (us ++ ws))))
    (I : Inv X pins σ H s) (r : Vals vs us) (rz : Vals zs ws) (l1 : vs.length = n) (l2 : zs.length = ks.length)
    (h : ∀ x dx, H x = none → H dx = none → dx ≠ x → sp (pick is (.ref x :: vs ++ zs)) (upd (upd H dx (.own x)) x (.ins C dx [])) (fun v H2 => v = .non ∧ Q (.ref x) H2) E) (hx2 : ∀ (H2 : Hp) (s2 : Shared) (e : Value) (s' : Shared), Inv X pins σ H2 s2 → CX X.stack H2 s2 E e s' → X.xe e s') :
    wpAny (model X.prog X.w) X.A (call (.ref C) us (ks.zip ws)) (EP X pins σ Q) X.xe s := by
  have hq := h (s.heap.objs.size + 1) s.heap.objs.size (I.hok.fresh (Nat.le_succ _)) (I.hok.fresh (Nat.le_refl _)) (Nat.ne_of_lt (Nat.lt_succ_self _))
  have I2 := Inv.made (C := C) I
  have r2 : Vals (V.ref (s.heap.objs.size + 1) :: vs) (Value.ref (s.heap.objs.size + 1) :: us) := .cons rfl r
  have r3 := pick_vals (r2.append rz) is
  have n1 : (Value.ref (s.heap.objs.size + 1) :: us).length = n + 1 := by
    rw [List.length_cons, ← r.length, l1]
  have hb' := hb _ (Value.ref (s.heap.objs.size + 1) :: us) ws I2.kIn n1 (rz.length.symm.trans l2)
  refine wpAny_call (make_map (f := f) I.kIn M.makes M.init (beq_iff_eq.mp M.fn) (codeAny_mono (F.run _ X.stack _ _ ⟨Value.ref (s.heap.objs.size + 1) :: us, ks.zip ws⟩ _ _ _ E ⟨hr.r.make C us (ks.zip ws), hr.g⟩
    (I2.env0.make C us (ks.zip ws)) hb' r3 hq) fun r s' hq' => ?_))
  cases r with
  | error e => exact hx2 _ _ e s' I2 hq'
  | ok fl =>
    cases fl with
    | ret u =>
      obtain ⟨v, H', I3, rv, ev, q3⟩ := I2.after hq'
      subst ev
      exact ⟨rv, ⟨V.ref (s.heap.objs.size + 1), H', I3, rfl, q3⟩⟩
    | next => exact False.elim hq'
    | brk => exact False.elim hq'
    | cont => exact False.elim hq'
theorem ev_mkK {c : Str} {F : Fn} {ps ks : List Str} {is : List Nat} {k j n : Nat} {e : Expr} {es : List Expr} {kws : List Keyword} {fs gs : List Ex} {p pos : Pos} (hg : Gl X c) (gC : X.mg c = some (.ref (He.ga X.K c))) (O : OkIK X.prog X.w X.K X.mg X.base c ps n ks is k F) (hr : DL.Room j X.A) (tk : Takes X W) (ha : EVA X W (e :: es) fs) (hkw : KVA X W kws gs) (hj : k + 1 ≤ j := by omega) (hn : fs.length = n := by rfl) (hm' : gs.length = ks.length := by rfl)
    (hall : (backToKw pos (keywordEach kws X.env)).all (·.1.isSome) = true := by rfl) (hks : (backToKw pos (keywordEach kws X.env)).filterMap (·.1) = ks := by rfl)
    (hdb : (c == ("__debug__" : Str)) = false := by decide) (he : starEach (e :: es) X.env = (false, eval e X.env) :: starEach es X.env := by rfl)
    (hpl : ((backTo pos (starEach (e :: es) X.env)).any (·.1) || (backToKw pos (keywordEach kws X.env)).any (·.1.isNone)) = false := by rfl) :
    EV X W (.Call (.Name c p) (e :: es) kws pos) (eMkK c F is fs gs) := by
  obtain ⟨fd, FO, hb, M, hi, hjj⟩ := O
  refine ⟨fun pins s σ H Q I h => ?_⟩
  refine wpAny_Call_Name_kw (ld_glob I hg gC ?_ hdb)
  obtain ⟨B, m, ρ, S, r, re, g⟩ := h
  let fin2 : Nat → List D → List D → Sto → R D := fun _ us zs S => (F (pick is (.ref S.length :: us ++ zs)) (S ++ [some (.ins c [])])).bind fun z S2 => match z with
    | .non => .ok (.ref S.length) S2
    | _ => .bad
  have g' : fin X.K X.mg W B m S σ H ((evL fs ρ S).bind fun us S => (evL gs ρ S).bind fun zs S => fin2 0 us zs S) Q := g
  have hta : upA X.K X.mg W (evL fs) σ H fun vs H1 => upA X.K X.mg W (evL gs) σ H1 fun ws H2 => ∃ B m2 S2 us zs, Rl X.K X.mg B m2 H2 S2 ∧ RepA X.K H2 (Fo B m2 S2) m2 vs us ∧ RepA X.K H2 (Fo B m2 S2) m2 ws zs ∧ us.length = fs.length ∧ zs.length = gs.length ∧ fin X.K X.mg W B m2 S2 σ H2 (fin2 0 us zs S2) Q := by
    refine ⟨B, m, ρ, S, r, re, ?_⟩
    cases e1 : evL fs ρ S with
    | bad => rw [e1] at g'; exact g'.elim
    | exc c p S1 => rw [e1] at g'; exact g'
    | ok us S1 =>
      rw [e1] at g'
      intro m1 H1 vs po q
      refine ⟨B, m1, ρ, S1, po.rl, re.kp (po.kp r), ?_⟩
      have g2 : fin X.K X.mg W B m1 S1 σ H1 ((evL gs ρ S1).bind fun zs S => fin2 0 us zs S) Q := fin.later po g'
      cases e2 : evL gs ρ S1 with
      | bad => rw [e2] at g2; exact g2.elim
      | exc c p S2 => rw [e2] at g2; exact g2
      | ok zs S2 =>
        rw [e2] at g2
        intro m2 H2 ws po2 q2
        exact ⟨B, m2, S2, us, zs, po2.rl, q.kp (po2.kp po.rl), q2, evL_len _ _ _ _ _ e1, evL_len _ _ _ _ _ e2, fin.later po2 g2⟩
  refine PySem.W.callWith_KW (h₀ := X.base) I.ok.mod.kin M.kp hall (thn (ha.run pos pins s σ H _ I hta) fun us s1 ⟨vs, H1, I1, rv, q⟩ => ?_) hpl he
  refine thn (hkw.run pos pins s1 σ H1 _ I1 q) fun ws s2 ⟨zs, H2, I2, rz, hq⟩ => ⟨I2.kIn, ?_⟩
  obtain ⟨B, m1, S1, du, dz, rl, ru, rzz, l1, l2, f1⟩ := hq
  rw [hks]
  have lv : vs.length = n := by rw [ru.length, l1, hn]
  have lz : zs.length = ks.length := by rw [rzz.length, l2, hm']
  refine run_makeGK (E := WE W σ) M FO (hr.mono hj) hb I2 rv rz lv lz (fun x dx nx nd ne => ?_) (fun H2 s2 e s' I2 hc => passAt tk σ pins H2 s2 e s' I2 hc)
  have sm1 : Same H2 (upd H2 dx (.own x)) := same_upd nd
  have nx2 : (upd H2 dx (.own x)) x = none := by rw [upd_ne (Ne.symm ne)]; exact nx
  have po1 := Post.grow rl sm1
  have po2 : Post X.K X.mg B m1 S1 (upd H2 dx (.own x)) (m1 ++ [x]) (S1 ++ [some (.ins c [])]) (upd (upd H2 dx (.own x)) x (.ins (He.ga X.K c) dx [])) := Post.new po1.rl nx2 (.ins gC upd_same rfl .nil)
  have po := po1.trans po2
  have hx : (m1 ++ [x])[S1.length]? = some x := by rw [← rl.len]; simp
  have rep : RepA X.K (upd (upd H2 dx (.own x)) x (.ins (He.ga X.K c) dx [])) (Fo B (m1 ++ [x]) (S1 ++ [some (.ins c [])])) (m1 ++ [x]) (.ref x :: vs ++ zs) (.ref S1.length :: du ++ dz) := (RepA.cons (.ref hx) (ru.kp (po.kp rl))).append (rzz.kp (po.kp rl))
  refine ⟨B, m1 ++ [x], S1 ++ [some (.ins c [])], pick is (.ref S1.length :: du ++ dz), po.rl, pick_rep rep is, ?_, ?_⟩
  · rw [pick_len is fun i hh => ?_, hi]
    have := hjj i hh
    simp only [List.length_append, List.length_cons]
    omega
  refine fin_call ?_
  have f2 := fin.later po f1
  show fin X.K X.mg _ B _ _ _ _ (F (pick is (.ref S1.length :: du ++ dz)) (S1 ++ [some (.ins c [])])) _
  have f3 : fin X.K X.mg W B (m1 ++ [x]) (S1 ++ [some (.ins c [])]) σ (upd (upd H2 dx (.own x)) x (.ins (He.ga X.K c) dx [])) ((F (pick is (.ref S1.length :: du ++ dz)) (S1 ++ [some (.ins c [])])).bind fun z S2 => match z with
    | .non => .ok (.ref S1.length) S2
    | _ => .bad) Q := f2
  cases e3 : F (pick is (.ref S1.length :: du ++ dz)) (S1 ++ [some (.ins c [])]) with
  | bad => rw [e3] at f3; exact f3.elim
  | exc c p S3 => rw [e3] at f3; exact f3
  | ok z S3 =>
    rw [e3] at f3
    cases z with
    | non =>
      intro m3 H3 v p3 rz
      cases rz
      have hx3 : m3[S1.length]? = some x := by
        obtain ⟨l, e, _⟩ := p3.ext
        rw [e, List.getElem?_append_left (by have := rl.len; simp; omega)]
        exact hx
      exact ⟨rfl, f3 m3 H3 _ p3 (.ref hx3)⟩
    | _ => exact f3.elim
end
section
variable {c f : Str} {n : Nat} {fs : List (Str × D)} {o e : Ex} {ρ : Ev} {S : Sto} {Q : D → Sto → Prop} {Qs : Fl → Sto → Prop} {E : Px} {Es : Str → D → Ev → Sto → Prop}
theorem wp_fld (h : Wp (o ρ S) (fun d S1 => ∃ n fs v, d = .ref n ∧ S1[n]? = some (some (.ins c fs)) ∧ fs.lookup f = some v ∧ Q v S1) E) : Wp (eFld c f o ρ S) Q E := wp_bind (h.mono fun d S1 h => by
  obtain ⟨n, fs, v, rfl, h1, h2, h3⟩ := h
  rw [ins_at h1]
  dsimp only
  rw [h2]
  exact ⟨h3⟩)
theorem ws_fldS (h : Wp (e ρ S) (fun y S1 => Wp (o ρ S1) (fun d S2 => ∃ n fs, d = .ref n ∧ S2[n]? = some (some (.ins c fs)) ∧ fs.length < 1000 ∧ Qs (.nx ρ) (S2.set n (some (.ins c (putFD f y fs))))) (fun c p S => Es c p ρ S)) (fun c p S => Es c p ρ S)) : Ws (sFldS c f o e ρ S) Qs Es :=
  ws_bind (h.mono fun y S1 h => ws_bind (h.mono fun d S2 h => by
    obtain ⟨n, fs, rfl, h1, h2, h3⟩ := h
    rw [ins_at h1]
    dsimp only
    rw [if_pos h2]
    exact ⟨h3⟩))
theorem ws_fldA {g : D → D → Option D} (h : Wp (o ρ S) (fun d S1 => ∃ n fs v, d = .ref n ∧ S1[n]? = some (some (.ins c fs)) ∧ fs.lookup f = some v ∧ Wp (e ρ S1) (fun y S2 => ∃ fs2, S2[n]? = some (some (.ins c fs2)) ∧ fs2.length < 1000 ∧
    Wo (g (view S2 v) (view S2 y)) fun z => Qs (.nx ρ) (S2.set n (some (.ins c (putFD f z fs2))))) (fun c p S => Es c p ρ S)) (fun c p S => Es c p ρ S)) : Ws (sFldA c f g o e ρ S) Qs Es :=
  ws_bind (h.mono fun d S1 h => by
    obtain ⟨n, fs, v, rfl, h1, h2, h3⟩ := h
    rw [ins_at h1]
    dsimp only
    rw [h2]
    refine ws_bind (h3.mono fun y S2 h => ?_)
    obtain ⟨fs2, h4, h5, h6⟩ := h
    rw [ins_at h4]
    dsimp only
    have h7 := h6.out
    cases e1 : g (view S2 v) (view S2 y) with
    | none => rw [e1] at h7; exact h7.elim
    | some z =>
      rw [e1] at h7
      dsimp only
      rw [if_pos h5]
      exact ⟨h7⟩)
theorem wp_mt {m : Str} {F : Fn} {fs : List Ex} (h : Wp (o ρ S) (fun d S1 => ∃ n fl, d = .ref n ∧ S1[n]? = some (some (.ins c fl)) ∧ fl.lookup m = none ∧ Wp (evL fs ρ S1) (fun ds S2 => Wp (F (.ref n :: ds) S2) Q E) E) E) : Wp (eMt c m F o fs ρ S) Q E := wp_bind (h.mono fun d S1 h => by
  obtain ⟨n, fl, rfl, h1, h2, h3⟩ := h
  rw [ins_at h1]
  dsimp only
  rw [if_pos (by rw [h2]; rfl)]
  exact wp_bind h3)
theorem wp_mk {F : Fn} {fs : List Ex} (h : Wp (evL fs ρ S) (fun ds S1 => Wp (F (.ref S1.length :: ds) (S1 ++ [some (.ins c [])])) (fun z S2 => z = .non ∧ Q (.ref S1.length) S2) E) E) : Wp (eMk c F fs ρ S) Q E := wp_bind (h.mono fun ds S1 h => wp_bind (h.mono fun z S2 h => by
  obtain ⟨rfl, q⟩ := h
  exact ⟨q⟩))
theorem wp_mkK {F : Fn} {is : List Nat} {fs gs : List Ex} (h : Wp (evL fs ρ S) (fun us S1 => Wp (evL gs ρ S1) (fun zs S2 => Wp (F (pick is (.ref S2.length :: us ++ zs)) (S2 ++ [some (.ins c [])])) (fun z S3 => z = .non ∧ Q (.ref S2.length) S3) E) E) E) : Wp (eMkK c F is fs gs ρ S) Q E := wp_bind (h.mono fun us S1 h => wp_bind (h.mono fun zs S2 h => wp_bind (h.mono fun z S3 h => by
  obtain ⟨rfl, q⟩ := h
  exact ⟨q⟩)))
theorem wp_lenO {F : Fn} (h : Wp (o ρ S) (fun d S1 => ∃ n fl, d = .ref n ∧ S1[n]? = some (some (.ins c fl)) ∧ Wp (F [.ref n] S1) (fun z S2 => ∃ i : Int, z = .int i ∧ 0 ≤ i ∧ i < 1000000000 ∧ Q (.int i) S2) noX) E) : Wp (eLenO c F o ρ S) Q E := wp_bind (h.mono fun d S1 h => by
  obtain ⟨n, fl, rfl, h1, h2⟩ := h
  rw [ins_at h1]
  dsimp only
  cases e : F [.ref n] S1 with
  | bad => rw [e] at h2; exact h2.out.elim
  | exc c p S3 => rw [e] at h2; exact (h2.out : False).elim
  | ok z S3 =>
    rw [e] at h2
    obtain ⟨i, rfl, h3, h4, q⟩ := h2.out
    show Wp (if 0 ≤ i ∧ i < 1000000000 then R.ok (.int i) S3 else .bad) Q E
    rw [if_pos ⟨h3, h4⟩]
    exact ⟨q⟩)
end
end DL
set_option Elab.async false
set_option linter.all false
set_option maxRecDepth 100000
set_option maxHeartbeats 4000000
namespace DL
open PySem PySem.Spec PyProof.Rows L2
def eTmpL (i : Nat) (g : Ex) : Ex := fun ρ S => match ρ[i]? with
  | some (some (.ref n)) => (match S[n]? with
    | some (some (.lst xs)) => (match g (ρ.set i (some (.lst xs))) (S.map fun _ => none) with
      | .ok d _ => if flatB d = true then .ok d S else .bad
      | _ => .bad)
    | _ => .bad)
  | _ => .bad
section
variable {X : Cx} {W : WX} {e : Expr} {g : Ex} {i : Nat}
theorem ev_tmpL (h : EV X W e g) : EV X W e (eTmpL i g) := by
  refine pe_imp h fun σ H Q q => ?_
  obtain ⟨B, m, ρ, S, r, re, f⟩ := q
  unfold eTmpL at f
  split at f
  · rename_i n en
    split at f
    · rename_i xs ex
      obtain ⟨v, ev, rv⟩ := re.2 i _ en
      cases rv with
      | ref ha =>
        rename_i a
        have hl : Liv m S a := ⟨n, _, ha, ex⟩
        cases r.obj _ _ _ ha ex with
        | @lst vs _ h z q =>
          have inm : ∀ b, Liv m S b → b ∈ m := fun b ⟨k, o, e1, _⟩ => List.mem_of_getElem? e1
          have r' : Rl X.K X.mg (fun b => B b ∨ (Liv m S b ∧ b ≠ a)) m H (S.map fun _ => none) :=
            ⟨by rw [List.length_map]; exact r.len, r.nod, fun b l => (liv_dead l).elim, fun b z => z.elim (r.bt b) fun z => r.mt b (inm b z.1), fun b z => r.mt b z, fun k b o e1 e2 => by
              rw [List.getElem?_map] at e2
              cases h : S[k]? with
              | none => rw [h] at e2; cases e2
              | some x => rw [h] at e2; cases e2⟩
          have nf : ¬ Fo (fun b => B b ∨ (Liv m S b ∧ b ≠ a)) m (S.map fun _ => none) a := by
            rintro ((b | b) | l)
            · exact r.nb a hl b
            · exact b.2 rfl
            · exact liv_dead l
          have kp : Kp H H (Fo B m S) (Fo (fun b => B b ∨ (Liv m S b ∧ b ≠ a)) m (S.map fun _ => none)) m m := by
            refine ⟨fun b xs h f => h, fun b u' h f => h, fun b o' f h' => h', fun b u' h f z => f ?_, fun _ _ h => h⟩
            rcases z with (z | z) | z
            · exact .inl z
            · exact .inr z.1
            · exact (liv_dead z).elim
          refine ⟨fun b => B b ∨ (Liv m S b ∧ b ≠ a), m, ρ.set i (some (.lst xs)), S.map fun _ => none, r', ⟨by simp [re.1], fun j d e' => ?_⟩, ?_⟩
          · by_cases hj : i = j
            · subst hj
              rw [List.getElem?_set] at e'
              have hi : i < ρ.length := (List.getElem?_eq_some_iff.mp en).1
              simp [hi] at e'
              subst e'
              exact ⟨_, ev, .lst h nf z (q.kp kp)⟩
            · rw [List.getElem?_set_ne hj] at e'
              obtain ⟨w, ew, rw'⟩ := re.2 j d e'
              exact ⟨w, ew, rw'.kp kp⟩
          · generalize hr : g (ρ.set i (some (.lst xs))) (S.map fun _ => none) = r2 at f
            cases r2 with
            | bad => exact f.elim
            | exc c p S' => exact f.elim
            | ok d S' =>
              dsimp only at f
              split at f
              · rename_i hfl
                intro m' H' v po rv
                refine f m _ v (Post.grow r fun b o hb => po.keep b o hb liv_dead) ?_
                cases rv with
                | non => exact .non
                | bl b => exact .bl b
                | int i => exact .int i
                | str x => exact .str x
                | _ => cases hfl
              · exact f.elim
    · exact f.elim
  · exact f.elim
end
section
variable {Q : D → Sto → Prop} {E : Px} {ρ : Ev} {S : Sto} {g : Ex} {i n : Nat} {xs : List D}
theorem wp_tmpL (h0 : ρ[i]? = some (some (.ref n))) (h1 : S[n]? = some (some (.lst xs))) (h : Wp (g (ρ.set i (some (.lst xs))) (S.map fun _ => none)) (fun d _ => flatB d = true ∧ Q d S) noX) : Wp (eTmpL i g ρ S) Q E := by
  unfold eTmpL
  simp only [h0, h1]
  obtain ⟨d, S', e, hf, q⟩ := h.ok
  rw [e]
  dsimp only
  rw [if_pos hf]
  exact ⟨q⟩
end
end DL
set_option Elab.async false
set_option linter.all false
set_option maxRecDepth 100000
set_option maxHeartbeats 4000000
namespace C37
open PySem PySem.Spec PyProof.Rows L2 DL
/-- Tape.__init__: 0:self 1:number 2:site 3:room -/
def b_Tape___init__ : Sx :=
  (sSeq (sFldS "Tape" "number" (eVar 0) (eVar 1))
    (sSeq (sFldS "Tape" "site" (eVar 0) (eVar 2))
    (sSeq (sFldS "Tape" "room" (eVar 0) (eVar 3))
    (sSeq (sFldS "Tape" "held" (eVar 0) (eLstM []))
    (sFldS "Tape" "used" (eVar 0) (eC (.int 0)))))))
def d_Tape___init__ : Fn := fnB 4 b_Tape___init__
/-- _law_ulabel: 0:_law_feed 1:_law_shard 2:_law_sort 3:_law_which 4:_law_turn -/
def b_ulabel : Sx :=
  (sSeq (sAsg 2 (eOp2 ixD (eLst [(eC (.str "book")), (eC (.str "piece"))]) (eFn LU.d_udraw [(eVar 0), (eC (.int 2))])))
    (sSeq (sPar 3 4 [(eFn LU.d_udraw [(eVar 0), (eC (.int 40))]), (eFn LU.d_udraw [(eVar 0), (eC (.int 3))])])
    (sRet (eTup [(eVar 2), (eVar 3), (eVar 4), (eVar 1), (eFn LU.d_udraw [(eVar 0), (eC (.int 60))]), (eFn LU.d_udraw [(eVar 0), (eC (.int 400))])]))))
def d_ulabel : Fn := fnB 5 b_ulabel
def ce_urow_1 : Ex := (eFn LU.d_udraw [(eVar 0), (eC (.int 31))])
def c_urow_1 : Ex := eComp (iRng1X (eFn LU.d_udraw [(eVar 0), (eOp2 addD (eVar 1) (eC (.int 1)))])) (.nm 2) tYesX ce_urow_1 [2]
/-- _law_urow: 0:_law_feed 1:_law_limit 2:_law_k -/
def b_urow : Sx :=
  (sRet (eCall tupleD [c_urow_1]))
def d_urow : Fn := fnB 3 b_urow
/-- _law_uwhole: 0:_law_thing -/
def b_uwhole : Sx :=
  (sRet (eAndX (eIsi .int (eVar 0)) (eNotX (eIsi .bool (eVar 0)))))
def d_uwhole : Fn := fnB 1 b_uwhole
/-- _law_uis_place: 0:_law_thing 1:_law_below -/
def b_uis_place : Sx :=
  (sRet (eAndX (eFn d_uwhole [(eVar 0)]) (eChain leD ltD (eC (.int 0)) (eVar 0) (eVar 1))))
def d_uis_place : Fn := fnB 2 b_uis_place
def i_utape_turn_1 : Sx := sIf (tVal (eOp2 ltD (eVar 4) (eC (.int 5)))) (sRet (eTup [(eC (.str "write")), (eTup [(eFn d_ulabel [(eVar 0), (eFn LU.d_udraw [(eVar 0), (eC (.int 8))])]), (eFn d_urow [(eVar 0), (eC (.int 12))])])])) sSkip
def i_utape_turn_2 : Sx := sIf (tAndX (tVal (eOp2 eqD (eVar 4) (eC (.int 5)))) (tVal (eOp2 eqD (eFn LU.d_udraw [(eVar 0), (eC (.int 3))]) (eC (.int 0))))) (sRet (eTup [(eC (.str "blank")), (eTup [])])) sSkip
def i_utape_turn_3 : Sx := sIf (tVal (eOp2 eqD (eFn LU.d_udraw [(eVar 0), (eC (.int 4))]) (eC (.int 0)))) (sAsg 3 (eOp2 ixD (eVar 2) (eFn LU.d_udraw [(eVar 0), (eC (.int 9))]))) sSkip
def i_utape_turn_4 : Sx := sIf (tOrX (tVal (eOp2 eqD (eVar 4) (eC (.int 6)))) (tVal (eOp2 eqD (eVar 4) (eC (.int 5))))) (sRet (eTup [(eC (.str "read")), (eTup [(eVar 3)])])) sSkip
def i_utape_turn_5 : Sx := sIf (tVal (eOp2 eqD (eVar 4) (eC (.int 12)))) (sRet (eTup [(eC (.str "strike")), (eTup [(eVar 3)])])) sSkip
def ce_utape_turn_1 : Ex := (eFn LU.d_udraw [(eVar 0), (eC (.int 31))])
def c_utape_turn_1 : Ex := eComp (iRng1X (eVar 5)) (.nm 8) tYesX ce_utape_turn_1 [8]
def i_utape_turn_6 : Sx := sIf (tVal (eOp2 eqD (eVar 4) (eC (.int 7)))) (sRet (eTup [(eC (.str "right")), (eTup [(eVar 3), (eCall tupleD [c_utape_turn_1])])])) sSkip
def i_utape_turn_7 : Sx := sIf (tVal (eOp2 eqD (eFn LU.d_udraw [(eVar 0), (eC (.int 4))]) (eC (.int 0)))) (sAsg 6 (eOp2 ixD (eVar 2) (eFn LU.d_udraw [(eVar 0), (eC (.int 8))]))) sSkip
def i_utape_turn_8 : Sx := sIf (tVal (eOp2 eqD (eFn LU.d_udraw [(eVar 0), (eC (.int 4))]) (eC (.int 0)))) (sAsg 7 (eOp2 ixD (eOp2 addD (eVar 2) (eLst [(eC (.int 0)), (eC (.int 31)), (eC (.int 62)), (eOp1 negD (eC (.int 30)))])) (eFn LU.d_udraw [(eVar 0), (eC (.int 13))]))) sSkip
/-- _law_utape_turn: 0:_law_feed 1:_law_held 2:_law_odd 3:_law_place 4:_law_way 5:_law_size 6:_law_at 7:_law_by 8:_law_k -/
def b_utape_turn : Sx :=
  (sSeq (sAsg 2 (eLst [(eOp1 negD (eC (.int 1))), (eC (.bl true)), (eC (.bl false)), (eC .non), (eC (.str "0")), (eTup [(eC (.int 0))]), (eLst [(eC (.int 0))]), (eOp2 powD (eC (.int 10)) (eC (.int 39))), (eCall lenD [(eVar 1)])]))
    (sSeq (sAsg 3 (eIfX (tVal (eOp2 neD (eVar 1) (eLst []))) (eFn LU.d_udraw [(eVar 0), (eCall lenD [(eVar 1)])]) (eC (.int 0))))
    (sSeq (sAsg 4 (eFn LU.d_udraw [(eVar 0), (eC (.int 13))]))
    (sSeq i_utape_turn_1
    (sSeq i_utape_turn_2
    (sSeq i_utape_turn_3
    (sSeq i_utape_turn_4
    (sSeq i_utape_turn_5
    (sSeq (sAsg 5 (eIfX (tVal (eFn d_uis_place [(eVar 3), (eCall lenD [(eVar 1)])])) (eCall lenD [(eOp2 ixD (eOp2 ixD (eVar 1) (eVar 3)) (eC (.int 1)))]) (eC (.int 3))))
    (sSeq i_utape_turn_6
    (sSeq (sAsg 6 (eFn LU.d_udraw [(eVar 0), (eOp2 addD (eVar 5) (eC (.int 1)))]))
    (sSeq (sAsg 7 (eFn LU.d_udraw [(eVar 0), (eC (.int 32))]))
    (sSeq i_utape_turn_7
    (sSeq i_utape_turn_8
    (sRet (eTup [(eC (.str "harm")), (eTup [(eVar 3), (eVar 6), (eVar 7)])]))))))))))))))))
def d_utape_turn : Fn := fnB 9 b_utape_turn
def ce_utape_due_1 : Ex := (eOp2 addD (eCall lenD [(eVar 5)]) (eC (.int 1)))
def c_utape_due_1 : Ex := eComp (iSeq (eVar 0)) (.tp [(.nm 4), (.nm 5)]) tYesX ce_utape_due_1 [4, 5]
def i_utape_due_1 : Sx := sIf (tVal (eOp2 gtD (eOp2 addD (eOp2 addD (eTmpL 0 (eCall sumD [c_utape_due_1])) (eCall lenD [(eOp2 ixD (eVar 3) (eC (.int 1)))])) (eC (.int 1))) (eVar 1))) (sRet (eTup [(eC (.str "full")), (eC .non)])) sSkip
def i_utape_due_2 : Sx := sIf (tVal (eOp2 eqD (eVar 2) (eC (.str "write")))) (sSeq i_utape_due_1
    (sSeq (sExpr (eMeth gAppend (eVar 0) [(eTup [(eOp2 ixD (eVar 3) (eC (.int 0))), (eOp2 ixD (eVar 3) (eC (.int 1)))])]))
    (sRet (eTup [(eC (.str "told")), (eOp2 subD (eCall lenD [(eVar 0)]) (eC (.int 1)))])))) sSkip
def i_utape_due_3 : Sx := sIf (tVal (eOp2 eqD (eVar 2) (eC (.str "blank")))) (sSeq (sExpr (eMeth0 gClear (eVar 0)))
    (sRet (eTup [(eC (.str "told")), (eC .non)]))) sSkip
def i_utape_due_4 : Sx := sIf (tNotX (tVal (eFn d_uis_place [(eOp2 ixD (eVar 3) (eC (.int 0))), (eCall lenD [(eVar 0)])]))) (sRet (eTup [(eC (.str "place")), (eC .non)])) sSkip
def i_utape_due_5 : Sx := sIf (tVal (eOp2 eqD (eVar 2) (eC (.str "read")))) (sRet (eTup [(eC (.str "told")), (eTup [(eVar 4), (eVar 5)])])) sSkip
def i_utape_due_6 : Sx := sIf (tVal (eOp2 eqD (eVar 2) (eC (.str "strike")))) (sSeq (sSetIx (eVar 0) (eOp2 ixD (eVar 3) (eC (.int 0))) (eTup [(eOp2 addD (eTup [(eC (.str "struck"))]) (eSl (eVar 4) (some (eC (.int 1))) none)), (eVar 5)]))
    (sRet (eTup [(eC (.str "told")), (eC .non)]))) sSkip
def i_utape_due_7 : Sx := sIf (tVal (eOp2 eqD (eVar 2) (eC (.str "right")))) (sSeq (sSetIx (eVar 0) (eOp2 ixD (eVar 3) (eC (.int 0))) (eTup [(eVar 4), (eOp2 ixD (eVar 3) (eC (.int 1)))]))
    (sRet (eTup [(eC (.str "told")), (eC .non)]))) sSkip
def i_utape_due_8 : Sx := sIf (tOrX (tNotX (tVal (eFn d_uis_place [(eOp2 ixD (eVar 3) (eC (.int 1))), (eCall lenD [(eVar 5)])]))) (tOrX (tNotX (tVal (eFn d_uis_place [(eOp2 ixD (eVar 3) (eC (.int 2))), (eC (.int 31))]))) (tVal (eOp2 eqD (eOp2 ixD (eVar 3) (eC (.int 2))) (eC (.int 0)))))) (sRet (eTup [(eC (.str "sign")), (eC .non)])) sSkip
/-- _law_utape_due: 0:_law_held 1:_law_wide 2:_law_word 3:_law_some 4:_law_label 5:_law_row 6:_law_sign -/
def b_utape_due : Sx :=
  (sSeq i_utape_due_2
    (sSeq i_utape_due_3
    (sSeq i_utape_due_4
    (sSeq (sAsgT (.tp [(.nm 4), (.nm 5)]) (eOp2 ixD (eVar 0) (eOp2 ixD (eVar 3) (eC (.int 0)))))
    (sSeq i_utape_due_5
    (sSeq i_utape_due_6
    (sSeq i_utape_due_7
    (sSeq i_utape_due_8
    (sSeq (sAsg 6 (eOp2 modD (eOp2 addD (eOp2 ixD (eVar 5) (eOp2 ixD (eVar 3) (eC (.int 1)))) (eOp2 ixD (eVar 3) (eC (.int 2)))) (eC (.int 31))))
    (sSeq (sSetIx (eVar 0) (eOp2 ixD (eVar 3) (eC (.int 0))) (eTup [(eVar 4), (eOp2 addD (eOp2 addD (eSl (eVar 5) none (some (eOp2 ixD (eVar 3) (eC (.int 1))))) (eTup [(eVar 6)])) (eSl (eVar 5) (some (eOp2 addD (eOp2 ixD (eVar 3) (eC (.int 1))) (eC (.int 1)))) none))]))
    (sRet (eTup [(eC (.str "told")), (eC .non)]))))))))))))
def d_utape_due : Fn := fnB 7 b_utape_due
/-- Tape.load: 0:self -/
def b_Tape_load : Sx :=
  (sRet (eFld "Tape" "used" (eVar 0)))
def d_Tape_load : Fn := fnB 1 b_Tape_load
def i_Tape_write_1 : Sx := sIf (tVal (eOp2 gtD (eOp2 addD (eOp2 addD (eMt "Tape" "load" d_Tape_load (eVar 0) []) (eCall lenD [(eVar 2)])) (eC (.int 1))) (eFld "Tape" "room" (eVar 0)))) (sRaise "Full") sSkip
/-- Tape.write: 0:self 1:label 2:row -/
def b_Tape_write : Sx :=
  (sSeq i_Tape_write_1
    (sSeq (sExpr (eMeth gAppend (eFld "Tape" "held" (eVar 0)) [(eTup [(eVar 1), (eVar 2)])]))
    (sSeq (sFldA "Tape" "used" igAdd (eVar 0) (eOp2 addD (eCall lenD [(eVar 2)]) (eC (.int 1))))
    (sRet (eOp2 subD (eCall lenD [(eFld "Tape" "held" (eVar 0))]) (eC (.int 1)))))))
def d_Tape_write : Fn := fnB 3 b_Tape_write
/-- is_number: 0:thing 1:least 2:below -/
def b_is_number : Sx :=
  (sRet (eAndX (eIsi .int (eVar 0)) (eAndX (eNotX (eIsi .bool (eVar 0))) (eChain leD ltD (eVar 1) (eVar 0) (eVar 2)))))
def d_is_number : Fn := fnB 3 b_is_number
def i_Tape_need_place_1 : Sx := sIf (tNotX (tVal (eFnK d_is_number [0, 1, 2] [] [(eVar 1)] [(eC (.int 0)), (eCall lenD [(eFld "Tape" "held" (eVar 0))])]))) (sRaise "NoPlace") sSkip
/-- Tape.need_place: 0:self 1:place -/
def b_Tape_need_place : Sx :=
  i_Tape_need_place_1
def d_Tape_need_place : Fn := fnB 2 b_Tape_need_place
/-- Tape.read: 0:self 1:place -/
def b_Tape_read : Sx :=
  (sSeq (sExpr (eMt "Tape" "need_place" d_Tape_need_place (eVar 0) [(eVar 1)]))
    (sRet (eOp2 ixD (eFld "Tape" "held" (eVar 0)) (eVar 1))))
def d_Tape_read : Fn := fnB 2 b_Tape_read
def i_Tape_harm_1 : Sx := sIf (tOrX (tNotX (tVal (eFnK d_is_number [0, 1, 2] [] [(eVar 2)] [(eC (.int 0)), (eCall lenD [(eVar 5)])]))) (tNotX (tVal (eFnK d_is_number [0, 1, 2] [] [(eVar 3)] [(eC (.int 1)), (eC (.int 31))])))) (sRaise "NoSign") sSkip
/-- Tape.harm: 0:self 1:place 2:at 3:by 4:label 5:row -/
def b_Tape_harm : Sx :=
  (sSeq (sExpr (eMt "Tape" "need_place" d_Tape_need_place (eVar 0) [(eVar 1)]))
    (sSeq (sAsgT (.tp [(.nm 4), (.nm 5)]) (eOp2 ixD (eFld "Tape" "held" (eVar 0)) (eVar 1)))
    (sSeq i_Tape_harm_1
    (sSetIx (eFld "Tape" "held" (eVar 0)) (eVar 1) (eTup [(eVar 4), (eOp2 addD (eOp2 addD (eSl (eVar 5) none (some (eVar 2))) (eTup [(eOp2 modD (eOp2 addD (eOp2 ixD (eVar 5) (eVar 2)) (eVar 3)) (eC (.int 31)))])) (eSl (eVar 5) (some (eOp2 addD (eVar 2) (eC (.int 1)))) none))])))))
def d_Tape_harm : Fn := fnB 6 b_Tape_harm
/-- Tape.put_right: 0:self 1:place 2:row -/
def b_Tape_put_right : Sx :=
  (sSeq (sExpr (eMt "Tape" "need_place" d_Tape_need_place (eVar 0) [(eVar 1)]))
    (sSetIx (eFld "Tape" "held" (eVar 0)) (eVar 1) (eTup [(eOp2 ixD (eOp2 ixD (eFld "Tape" "held" (eVar 0)) (eVar 1)) (eC (.int 0))), (eVar 2)])))
def d_Tape_put_right : Fn := fnB 3 b_Tape_put_right
/-- Tape.strike: 0:self 1:place 2:label 3:row -/
def b_Tape_strike : Sx :=
  (sSeq (sExpr (eMt "Tape" "need_place" d_Tape_need_place (eVar 0) [(eVar 1)]))
    (sSeq (sAsgT (.tp [(.nm 2), (.nm 3)]) (eOp2 ixD (eFld "Tape" "held" (eVar 0)) (eVar 1)))
    (sSetIx (eFld "Tape" "held" (eVar 0)) (eVar 1) (eTup [(eOp2 addD (eTup [(eC (.str "struck"))]) (eSl (eVar 2) (some (eC (.int 1))) none)), (eVar 3)]))))
def d_Tape_strike : Fn := fnB 4 b_Tape_strike
/-- Tape.blank: 0:self -/
def b_Tape_blank : Sx :=
  (sSeq (sFldS "Tape" "held" (eVar 0) (eLstM []))
    (sFldS "Tape" "used" (eVar 0) (eC (.int 0))))
def d_Tape_blank : Fn := fnB 1 b_Tape_blank
def i_utape_deed_1 : Sx := sIf (tVal (eOp2 eqD (eVar 1) (eC (.str "write")))) (sRet (eMt "Tape" "write" d_Tape_write (eVar 0) [(eOp2 ixD (eVar 2) (eC (.int 0))), (eOp2 ixD (eVar 2) (eC (.int 1)))])) sSkip
def i_utape_deed_2 : Sx := sIf (tVal (eOp2 eqD (eVar 1) (eC (.str "read")))) (sRet (eMt "Tape" "read" d_Tape_read (eVar 0) [(eOp2 ixD (eVar 2) (eC (.int 0)))])) sSkip
def i_utape_deed_3 : Sx := sIf (tVal (eOp2 eqD (eVar 1) (eC (.str "harm")))) (sRet (eMt "Tape" "harm" d_Tape_harm (eVar 0) [(eOp2 ixD (eVar 2) (eC (.int 0))), (eOp2 ixD (eVar 2) (eC (.int 1))), (eOp2 ixD (eVar 2) (eC (.int 2)))])) sSkip
def i_utape_deed_4 : Sx := sIf (tVal (eOp2 eqD (eVar 1) (eC (.str "right")))) (sRet (eMt "Tape" "put_right" d_Tape_put_right (eVar 0) [(eOp2 ixD (eVar 2) (eC (.int 0))), (eOp2 ixD (eVar 2) (eC (.int 1)))])) sSkip
/-- _law_utape_deed: 0:_law_tape 1:_law_word 2:_law_some -/
def b_utape_deed : Sx :=
  (sSeq i_utape_deed_1
    (sSeq i_utape_deed_2
    (sSeq i_utape_deed_3
    (sSeq i_utape_deed_4
    (sRet (eIfX (tVal (eOp2 eqD (eVar 1) (eC (.str "strike")))) (eMt "Tape" "strike" d_Tape_strike (eVar 0) [(eOp2 ixD (eVar 2) (eC (.int 0)))]) (eMt "Tape" "blank" d_Tape_blank (eVar 0) [])))))))
def d_utape_deed : Fn := fnB 3 b_utape_deed
def i_uword_1 : Sx := sIf (tOrX (tVal (eOp2 neD (eLsM cntBD (eVar 1) [(eC (.bl true))]) (eC (.int 1)))) (tNotX (tVal (eOp1 (isxE ["Full", "NoPlace", "NoSign"] "ValueError") (eVar 0))))) (sRet (eC (.str "odd"))) sSkip
/-- _law_uword: 0:_law_caught 1:_law_kinds 2:_law_words -/
def b_uword : Sx :=
  (sSeq (sAsg 1 (eLst [(eOp1 (isxE ["Full", "NoPlace", "NoSign"] "BadFiles") (eVar 0)), (eOp1 (isxE ["Full", "NoPlace", "NoSign"] "NoFile") (eVar 0))]))
    (sSeq (sAsg 1 (eOp2 addD (eVar 1) (eLst [(eOp1 (isxE ["Full", "NoPlace", "NoSign"] "NoChain") (eVar 0)), (eOp1 (isxE ["Full", "NoPlace", "NoSign"] "NoBook") (eVar 0))])))
    (sSeq (sAsg 1 (eOp2 addD (eVar 1) (eLst [(eOp1 (isxE ["Full", "NoPlace", "NoSign"] "Full") (eVar 0)), (eOp1 (isxE ["Full", "NoPlace", "NoSign"] "NoPlace") (eVar 0))])))
    (sSeq (sAsg 1 (eOp2 addD (eVar 1) (eLst [(eOp1 (isxE ["Full", "NoPlace", "NoSign"] "NoSign") (eVar 0)), (eOp1 (isxE ["Full", "NoPlace", "NoSign"] "TooMany") (eVar 0))])))
    (sSeq (sAsg 1 (eOp2 addD (eVar 1) (eLst [(eOp1 (isxE ["Full", "NoPlace", "NoSign"] "NoDays") (eVar 0)), (eOp1 (isxE ["Full", "NoPlace", "NoSign"] "NoMoment") (eVar 0))])))
    (sSeq (sAsg 1 (eOp2 addD (eVar 1) (eLst [(eOp1 (isxE ["Full", "NoPlace", "NoSign"] "NoRoom") (eVar 0)), (eOp1 (isxE ["Full", "NoPlace", "NoSign"] "BadHold") (eVar 0))])))
    (sSeq (sAsg 1 (eOp2 addD (eVar 1) (eLst [(eOp1 (isxE ["Full", "NoPlace", "NoSign"] "Twice") (eVar 0)), (eOp1 (isxE ["Full", "NoPlace", "NoSign"] "NoHold") (eVar 0))])))
    (sSeq (sAsg 1 (eOp2 addD (eVar 1) (eLst [(eOp1 (isxE ["Full", "NoPlace", "NoSign"] "NoTape") (eVar 0)), (eOp1 (isxE ["Full", "NoPlace", "NoSign"] "BadRack") (eVar 0))])))
    (sSeq (sAsg 1 (eOp2 addD (eVar 1) (eLst [(eOp1 (isxE ["Full", "NoPlace", "NoSign"] "NoRow") (eVar 0)), (eOp1 (isxE ["Full", "NoPlace", "NoSign"] "Lost") (eVar 0))])))
    (sSeq (sAsg 2 (eC (.str "files file chain book full place sign many days moment room hold twice nohold tape rack row lost")))
    (sSeq i_uword_1
    (sRet (eOp2 ixD (eStr1 splitD (eVar 2) (eC (.str " "))) (eLsM idxBD (eVar 1) [(eC (.bl true))]))))))))))))))
def d_uword : Fn := fnB 3 b_uword
/-- _law_utape_told: 0:_law_tape 1:_law_word 2:_law_some 3:_law_caught 4:_law_found 5:e -/
def b_utape_told : Sx :=
  (sSeq (sAsg 3 (eC .non))
    (sSeq (sAsg 4 (eC .non))
    (sSeq (sTryE 5 3 (sAsg 4 (eFn d_utape_deed [(eVar 0), (eVar 1), (eVar 2)])) ["Full", "NoPlace", "NoSign"])
    (sRet (eIfX (tVal (eOp2 isD (eVar 3) (eC .non))) (eTup [(eC (.str "told")), (eVar 4)]) (eTup [(eFn d_uword [(eVar 3)]), (eC .non)]))))))
def d_utape_told : Fn := fnB 6 b_utape_told
/-- Tape.records: 0:self -/
def b_Tape_records : Sx :=
  (sRet (eListM listD [(eFld "Tape" "held" (eVar 0))]))
def d_Tape_records : Fn := fnB 1 b_Tape_records
/-- Tape.__len__: 0:self -/
def b_Tape___len__ : Sx :=
  (sRet (eCall lenD [(eFld "Tape" "held" (eVar 0))]))
def d_Tape___len__ : Fn := fnB 1 b_Tape___len__
def i_u_has_1 : Sx := sIf (tOrX (tNotX (tVal (eIsi .list (eVar 3)))) (tVal (eOp2 neD (eReprQ (eVar 3)) (eReprQ (eVar 1))))) (sRet (eC (.bl false))) sSkip
def ce_u_has_1 : Ex := (eOp2 addD (eCall lenD [(eVar 6)]) (eC (.int 1)))
def c_u_has_1 : Ex := eComp (iSeq (eVar 1)) (.tp [(.nm 5), (.nm 6)]) tYesX ce_u_has_1 [5, 6]
def i_u_has_2 : Sx := sIf (tVal (eOp2 neD (eReprQ (eLst [(eMt "Tape" "load" d_Tape_load (eVar 0) []), (eLenO "Tape" d_Tape___len__ (eVar 0))])) (eReprQ (eLst [(eVar 4), (eCall lenD [(eVar 1)])])))) (sRet (eC (.bl false))) sSkip
def i_u_has_3 : Sx := sIf (tVal (eOp2 neD (eReprQ (eLst [(eFld "Tape" "number" (eVar 0)), (eFld "Tape" "site" (eVar 0)), (eFld "Tape" "room" (eVar 0))])) (eReprQ (eVar 2)))) (sRet (eC (.bl false))) sSkip
/-- _law_u_has: 0:_law_tape 1:_law_held 2:_law_own 3:_law_found 4:_law_load 5:_law_label 6:_law_row -/
def b_u_has : Sx :=
  (sSeq (sAsg 3 (eMt "Tape" "records" d_Tape_records (eVar 0) []))
    (sSeq i_u_has_1
    (sSeq (sExpr (eMeth gAppend (eVar 3) [(eC .non)]))
    (sSeq (sAsg 4 (eTmpL 1 (eCall sumD [c_u_has_1])))
    (sSeq i_u_has_2
    (sSeq i_u_has_3
    (sRet (eOp2 eqD (eReprQ (eMt "Tape" "records" d_Tape_records (eVar 0) [])) (eReprQ (eVar 1))))))))))
def d_u_has : Fn := fnB 7 b_u_has
def lb_law_1 : Sx := (sSeq (sAsg 4 (eOp2 ixD (eLst [(eC (.int 1)), (eC (.int 1)), (eC (.int 1)), (eOp2 powD (eC (.int 10)) (eC (.int 12)))]) (eFn LU.d_udraw [(eVar 1), (eC (.int 4))])))
    (sExpr (eMeth gAppend (eVar 2) [(eLst [(eOp2 mulD (eFn LU.d_udraw [(eVar 1), (eC (.int 12))]) (eVar 4)), (eOp2 mulD (eFn LU.d_udraw [(eVar 1), (eC (.int 6))]) (eVar 4)), (eOp2 mulD (eFn LU.d_udraw [(eVar 1), (eC (.int 81))]) (eVar 4))])])))
def l_law_1 : Sx := sFor (iRng1X (eC (.int 2))) (.nm 3) lb_law_1
def i_law_1 : Sx := sIf (tVal (eOp2 neD (eReprQ (eFn d_utape_told [(eOp2 ixD (eVar 7) (eVar 3)), (eVar 10), (eVar 11)])) (eReprQ (eVar 13)))) (sRet (eC (.bl false))) sSkip
def i_law_2 : Sx := sIf (tVal (eOp2 neD (eReprQ (eVar 11)) (eVar 12))) (sRet (eC (.bl false))) sSkip
def i_law_3 : Sx := sIf (tNotX (tVal (eFn d_u_has [(eOp2 ixD (eVar 7) (eVar 14)), (eOp2 ixD (eVar 8) (eVar 14)), (eOp2 ixD (eVar 2) (eVar 14))]))) (sRet (eC (.bl false))) sSkip
def lb_law_2 : Sx := i_law_3
def l_law_2 : Sx := sFor (iRng1X (eC (.int 2))) (.nm 14) lb_law_2
def lb_law_3 : Sx := (sSeq (sAsg 3 (eFn LU.d_udraw [(eVar 1), (eC (.int 2))]))
    (sSeq (sAsgT (.tp [(.nm 10), (.nm 11)]) (eFn d_utape_turn [(eVar 1), (eOp2 ixD (eVar 8) (eVar 3))]))
    (sSeq (sAsg 12 (eReprQ (eVar 11)))
    (sSeq (sAsg 13 (eFn d_utape_due [(eOp2 ixD (eVar 8) (eVar 3)), (eOp2 ixD (eOp2 ixD (eVar 2) (eVar 3)) (eC (.int 2))), (eVar 10), (eVar 11)]))
    (sSeq i_law_1
    (sSeq i_law_2
    l_law_2))))))
def l_law_3 : Sx := sFor (iRng1X (eC (.int 40))) (.nm 9) lb_law_3
/-- law: 0:_law_script 1:_law_feed 2:_law_owns 3:_law_k 4:_law_great 5:_law_first 6:_law_second 7:_law_two 8:_law_helds 9:_law_turn 10:_law_word 11:_law_some 12:_law_seen 13:_law_due 14:_law_j -/
def b_law : Sx :=
  (sSeq (sAsg 1 (eFn LU.d_uopen [(eVar 0)]))
    (sSeq (sAsg 2 (eLstM []))
    (sSeq l_law_1
    (sSeq (sUnl [(.nm 5), (.nm 6)] (eVar 2))
    (sSeq (sAsg 7 (eLstM [(eMk "Tape" d_Tape___init__ [(eOp2 ixD (eVar 5) (eC (.int 0))), (eOp2 ixD (eVar 5) (eC (.int 1))), (eOp2 ixD (eVar 5) (eC (.int 2)))])]))
    (sSeq (sExpr (eMeth gAppend (eVar 7) [(eMkK "Tape" d_Tape___init__ [0, 1, 2, 3] [(eOp2 ixD (eVar 6) (eC (.int 0))), (eOp2 ixD (eVar 6) (eC (.int 1)))] [(eOp2 ixD (eVar 6) (eC (.int 2)))])]))
    (sSeq (sAsg 8 (eLstM [(eLstM []), (eLstM [])]))
    (sSeq l_law_3
    (sRet (eC (.bl true)))))))))))
def d_law : Fn := fnB 15 b_law
end C37
set_option Elab.async false
set_option linter.all false
set_option maxRecDepth 100000
set_option maxHeartbeats 4000000
namespace C37
open DL PySem
local macro_rules | `(tactic| walk_at "w1") => `(tactic| with_reducible first
  | (refine ws_then ?_; try with_reducible dsimp only [List.set_cons_zero, List.set_cons_succ]) | refine ws_seq ?_ | refine ws_asg ?_ | refine ws_expr ?_ | refine ws_ret ?_ | refine ws_if ?_ | refine ws_asgT ?_ | refine ws_skip ?_ | refine ws_retN ?_ | refine ws_brk ?_ | refine ws_cont ?_ | refine ws_thenR ?_ | refine ws_thenB ?_ | refine ws_thenC ?_ | refine fq_rt ?_ | refine fq_nx ?_ | refine un_nx ?_ | refine un_ct ?_ | refine un_bk ?_ | refine un_rt ?_ | refine ws_loopN ?_
  | (refine ws_loopC (ρ1 := ?r) ?h ?q; (case h => with_unfolding_all rfl); try with_reducible dsimp only [List.set_cons_zero, List.set_cons_succ])
  | refine wp_c ?_ | refine wp_op2 ?_ | refine wp_fn ?_ | refine wp_cons ?_ | refine wp_nil ?_ | refine wp_call ?_ | refine wp_op1 ?_
  | (refine wp_var (d := ?d) ?h ?q; (case h => with_unfolding_all rfl))
  | (refine ws_aug (d := ?d) ?h ?q; (case h => with_unfolding_all rfl))
  | refine wp_tup ?_ | refine wp_lst ?_ | refine wp_lstM ?_ | refine wp_listM ?_
  | refine wp_sl0 ?_ | refine wp_sl1 ?_ | refine wp_sl2 ?_ | refine wp_sl3 ?_
  | refine wp_tval ?_ | refine wp_tnot ?_ | refine wp_tand ?_ | refine wp_tor ?_ | refine wp_tyes ?_ | refine wp_and ?_ | refine wp_or ?_ | refine wp_not ?_ | refine wp_ifx ?_ | refine wp_chain ?_ | refine wp_meth ?_ | refine wp_meth0 ?_
  | refine wp_isi ?_ | refine wp_isis ?_ | refine wp_repr ?_ | refine wp_maxD ?_ | refine wi_rng3 ?_
  | refine wp_str1 ?_ | refine ws_par ?_ | refine wp_dnew ?_ | refine wp_get2 ?_ | refine wp_reprQ ?_ | refine wp_fnK ?_ | refine wi_valsI ?_ | refine wi_itemsI ?_ | refine ws_augI ?_
  | refine wi_seq ?_ | refine wi_rng1 ?_ | refine wi_rng2 ?_ | refine wi_zip2 ?_ | refine wi_zipS ?_
  | (refine wp_fnB (ρ := ?ρ) ?he ?_; (case he => (simp only [List.map_cons, List.map_nil, List.length_cons, List.length_nil, List.replicate, List.cons_append, List.nil_append, Nat.reduceAdd, Nat.reduceSub]; rfl))))
local macro_rules | `(tactic| walk_at "w2") => `(tactic| ((with_reducible refine wo_id ?_); with_reducible first
  | refine vo_sub ?_ | refine vo_add ?_ | refine vo_lt ?_ | refine vo_le ?_ | refine vo_gt ?_ | refine vo_ge ?_ | refine vo_eq ?_ | refine vo_ne ?_ | refine vo_eqS ?_ | refine vo_neS ?_ | refine vo_eqB ?_ | refine vo_neB ?_ | refine vo_neg ?_ | refine vo_slT ?_ | refine vo_slL ?_ | refine vo_slS ?_ | refine vo_lenT ?_ | refine vo_lenL ?_ | refine vo_lenS ?_ | refine vo_revT ?_ | refine vo_revL ?_ | refine vo_min ?_ | refine vo_max ?_ | refine vo_tupL ?_ | refine vo_tupT ?_ | refine vo_lisL ?_ | refine vo_lisT ?_
  | refine vo_igAdd ?_ | refine vo_igMulR (by omega) ?_ | refine vo_igMulL (by omega) ?_ | refine vo_mod (by omega) ?_ | refine vo_div (by omega) ?_ | refine vo_mulR (by omega) ?_ | refine vo_mulL (by omega) ?_
  | refine vo_ixL0 ?_ | refine vo_ixL1 ?_ | refine vo_ixL2 ?_ | refine vo_ixL3 ?_ | refine vo_ixL4 ?_ | refine vo_ixL5 ?_ | refine vo_ixL6 ?_ | refine vo_ixT0 ?_ | refine vo_ixT1 ?_ | refine vo_ixT2 ?_ | refine vo_ixT3 ?_ | refine vo_ixT4 ?_ | refine vo_ixT5 ?_ | refine vo_ixT6 ?_
  | refine vo_starts ?_ | refine vo_isBN ?_ | refine vo_isSN ?_ | refine vo_isLN ?_ | refine vo_isDN ?_ | refine vo_slX (by first | assumption | omega) ?_ | refine vo_lenX (by first | assumption | omega) ?_ | refine vo_addS (by first | assumption | omega) ?_
  | refine vo_inT ?_ | refine vo_ninT ?_ | refine vo_inL ?_ | refine vo_ninL ?_ | refine vo_inI ?_ | refine vo_ninI ?_ | refine vo_sortI (by first | assumption | omega) ?_ | refine vo_sortL ?_ | refine vo_lenI ?_ | refine vo_lt3 ?_ | refine vo_isNN ?_ | refine vo_is3N ?_ | refine vo_isTN ?_ | refine vo_isIN ?_ | refine vo_igAddI ?_ | refine vo_ixI (by assumption) ?_
  | refine vo_vwD1 (by assumption) ?_ | refine vo_vwDc (by assumption) ?_
  | refine wo_vw1 (by assumption) ?_ | refine wo_vw2 (by assumption) ?_ | refine vo_vwc (by assumption) ?_
  | (refine vo_isi (c := ?c) ?h ?q; (case h => with_unfolding_all rfl)) | (refine vo_isis (c := ?c) ?h ?q; (case h => with_unfolding_all rfl))))
local macro_rules | `(tactic| walk_at "w3") => `(tactic| first
  | with_reducible refine nb_ff ?_ | with_reducible refine nb_tt ?_ | with_reducible refine nb_ft ?_ | with_reducible refine nb_tf ?_
  | with_reducible refine ite_f ?_ | with_reducible refine ite_nt ?_ | with_reducible refine ite_nf ?_ | with_reducible refine ite_t ?_
  | ((with_reducible refine ex_id ?_); refine ⟨_, rfl, ?_⟩) | ((with_reducible refine and_id ?_); refine ⟨Nat.le_of_ble_eq_true rfl, ?_⟩))
local macro_rules | `(tactic| walk_at "w") => `(tactic| repeat (first | walk_at "w1" | walk_at "w2" | walk_at "w3"))
theorem cutL_dropN {α : Type} (xs : List α) (v : Int) (h : 0 ≤ v) (hv : v.toNat ≤ xs.length) : cutL xs (some v) none = xs.drop v.toNat := by
  have e2 : HT.sIx xs.length 0 (some v) = min v.toNat xs.length := by
    unfold HT.sIx
    exact if_neg (by omega)
  unfold cutL
  rw [e2, show HT.sIx xs.length xs.length none = xs.length from rfl, Nat.min_eq_left hv, List.take_of_length_le (by rw [List.length_drop]; omega)]
abbrev Rc := (Str × List Int) × List Int
abbrev labD (l : Str × List Int) : D := .tup (.str l.1 :: l.2.map .int)
abbrev numD (r : List Int) : D := .tup (r.map .int)
abbrev recD (r : Rc) : D := .tup [labD r.1, numD r.2]
def heldD (hs : List Rc) : List D := hs.map recD
inductive Odd : D → Prop
  | int {i : Int} : -1000000000000000000000000000000000000000000 ≤ i → i ≤ 1000000000000000000000000000000000000000000 → Odd (.int i)
  | bl (b : Bool) : Odd (.bl b)
  | non : Odd .non
  | str : Odd (.str "0")
  | tup : Odd (.tup [.int 0])
  | lst : Odd (.lst [.int 0])
def numB (d : D) (a b : Int) : Bool := match d with
  | .int i => decide (a ≤ i) && decide (i < b)
  | _ => false
theorem numB_int {d : D} {a b : Int} (h : numB d a b = true) : ∃ i, d = .int i ∧ a ≤ i ∧ i < b := by
  unfold numB at h
  split at h
  · rw [Bool.and_eq_true, decide_eq_true_eq, decide_eq_true_eq] at h
    exact ⟨_, rfl, h.1, h.2⟩
  · cases h
theorem wp_isnum {d : D} {a b : Int} {S : Sto} {Q : D → Sto → Prop} {E : Px} (h : Odd d) (q : Q (.bl (numB d a b)) S) : Wp (d_is_number [d, .int a, .int b] S) Q E := by
  unfold d_is_number b_is_number
  cases h with
  | @int i h1 h2 =>
    walk_at "w"
    refine ⟨fun e => ?_, fun e => ?_⟩
    · walk_at "w"
      rw [show numB (.int i) a b = (decide (a ≤ i) && decide (i < b)) from rfl, e, Bool.true_and] at q
      exact q
    · rw [show numB (.int i) a b = (decide (a ≤ i) && decide (i < b)) from rfl, e, Bool.false_and] at q
      exact q
  | _ => walk_at "w"; exact q
theorem wp_isplace {d : D} {b : Int} {S : Sto} {Q : D → Sto → Prop} {E : Px} (h : Odd d) (q : Q (.bl (numB d 0 b)) S) : Wp (d_uis_place [d, .int b] S) Q E := by
  unfold d_uis_place b_uis_place d_uwhole b_uwhole
  cases h with
  | @int i h1 h2 =>
    walk_at "w"
    refine ⟨fun e => ?_, fun e => ?_⟩
    · walk_at "w"
      rw [show numB (.int i) 0 b = (decide (0 ≤ i) && decide (i < b)) from rfl, e, Bool.true_and] at q
      exact q
    · rw [show numB (.int i) 0 b = (decide (0 ≤ i) && decide (i < b)) from rfl, e, Bool.false_and] at q
      exact q
  | _ => walk_at "w"; exact q
/-- what is done to a tape -/
inductive Dd where
  | wr (l : Str × List Int) (r : List Int) | bl | rd (p : D) | st (p : D) | rt (p : D) (r : List Int) | hm (p a b : D)
def Dd.word : Dd → Str
  | .wr _ _ => "write"
  | .bl => "blank"
  | .rd _ => "read"
  | .st _ => "strike"
  | .rt _ _ => "right"
  | .hm _ _ _ => "harm"
def Dd.some : Dd → D
  | .wr l r => .tup [labD l, numD r]
  | .bl => .tup []
  | .rd p => .tup [p]
  | .st p => .tup [p]
  | .rt p r => .tup [p, numD r]
  | .hm p a b => .tup [p, a, b]
def load (hs : List Rc) : Int := (hs.map fun r => (r.2.length : Int) + 1).sum
def ixO (d : D) : Nat := match d with
  | .int i => i.toNat
  | _ => 0
def nth (hs : List Rc) (i : Nat) : Rc := hs.getD i (("", []), [])
def intO (d : D) : Int := match d with
  | .int i => i
  | _ => 0
def bent (r : List Int) (a : Nat) (b : Int) : List Int := r.take a ++ [((r.getD a 0) + b) % 31] ++ r.drop (a + 1)
/-- what comes of it: the records, the refusal, what is told -/
def due (wide : Int) (hs : List Rc) : Dd → List Rc × Option Str × D
  | .wr l r => if load hs + r.length + 1 > wide then (hs, .some "Full", .non) else (hs ++ [(l, r)], .none, .int hs.length)
  | .bl => ([], .none, .non)
  | .rd p => if numB p 0 hs.length then (hs, .none, recD (nth hs (ixO p))) else (hs, .some "NoPlace", .non)
  | .st p => if numB p 0 hs.length then (hs.set (ixO p) (("struck", (nth hs (ixO p)).1.2), (nth hs (ixO p)).2), .none, .non) else (hs, .some "NoPlace", .non)
  | .rt p r => if numB p 0 hs.length then (hs.set (ixO p) ((nth hs (ixO p)).1, r), .none, .non) else (hs, .some "NoPlace", .non)
  | .hm p a b => if numB p 0 hs.length then (if numB a 0 (nth hs (ixO p)).2.length && numB b 1 31 then (hs.set (ixO p) ((nth hs (ixO p)).1, bent (nth hs (ixO p)).2 (ixO a) (intO b)), .none, .non) else (hs, .some "NoSign", .non)) else (hs, .some "NoPlace", .non)
def wordX (c : Str) : Str := if c = "Full" then "full" else if c = "NoPlace" then "place" else "sign"
def toldD (o : Option Str) (d : D) : D := match o with
  | .none => .tup [.str "told", d]
  | .some c => .tup [.str (wordX c), .non]
def OkDd : Dd → Prop
  | .wr _ _ => True
  | .bl => True
  | .rd p => Odd p
  | .st p => Odd p
  | .rt p _ => Odd p
  | .hm p a b => Odd p ∧ Odd a ∧ Odd b
theorem held_at {hs : List Rc} {i : Nat} (h : i < hs.length) : (heldD hs)[i]? = some (recD (nth hs i)) := by
  unfold heldD nth
  rw [List.getElem?_map, List.getD_eq_getElem?_getD, List.getElem?_eq_getElem h]
  rfl
theorem held_set {hs : List Rc} {i : Nat} {r : Rc} : (heldD hs).set i (recD r) = heldD (hs.set i r) := by
  unfold heldD
  rw [List.map_set]
theorem held_len {hs : List Rc} : (heldD hs).length = hs.length := by unfold heldD; simp
theorem wo_ixH {hs : List Rc} {i : Int} {Q : D → Prop} (h0 : 0 ≤ i) (h1 : i < hs.length) (q : Q (recD (nth hs i.toNat))) : Wo (ixD (.lst (heldD hs)) (.int i)) Q := by
  refine .of (d := recD (nth hs i.toNat)) ?_ q
  show L2.atI (heldD hs) i = _
  rw [atI_in h0 (by rw [held_len]; exact h1)]
  have := held_at (hs := hs) (i := i.toNat) (by omega)
  exact (List.getElem?_eq_some_iff.mp this).2 ▸ rfl
theorem wo_ixR {r : List Int} {i : Int} {Q : D → Prop} (h0 : 0 ≤ i) (h1 : i < r.length) (q : Q (.int (r.getD i.toNat 0))) : Wo (ixD (.tup (r.map .int)) (.int i)) Q := by
  refine .of (d := .int (r.getD i.toNat 0)) ?_ q
  show L2.atI (r.map D.int) i = _
  rw [atI_in h0 (by rw [List.length_map]; exact h1), List.getElem_map, List.getD_eq_getElem?_getD, List.getElem?_eq_getElem (by omega)]
  rfl
theorem cutD_cutL {xs : List D} {a b : Option Int} : cutD xs a b = cutL xs a b := rfl
theorem cut_tail {x : D} {xs : List D} : cutD (x :: xs) (some 1) none = xs := by
  rw [cutD_cutL]
  rw [cutL_dropN _ 1 (by omega) (by simp)]
  rfl
theorem bent_cut {r : List Int} {a b : Int} (h0 : 0 ≤ a) (h1 : a < r.length) : cutD (r.map D.int) none (some a) ++ [.int (((r.getD a.toNat 0) + b) % 31)] ++ cutD (r.map D.int) (some (a + 1)) none = (bent r a.toNat b).map .int := by
  rw [cutD_cutL, cutD_cutL]
  rw [cutL_take _ a h0, cutL_dropN _ (a + 1) (by omega) (by rw [List.length_map]; omega)]
  unfold bent
  rw [List.map_append, List.map_append, List.map_take, List.map_drop, show (a + 1).toNat = a.toNat + 1 by omega]
  rfl
theorem bent_len {r : List Int} {a : Nat} {b : Int} (h : a < r.length) : (bent r a b).length = r.length := by
  unfold bent
  simp
  omega
end C37
set_option Elab.async false
set_option linter.all false
set_option maxRecDepth 100000
set_option maxHeartbeats 4000000
namespace C37
open DL PySem LS
local macro_rules | `(tactic| walk_at "w1") => `(tactic| with_reducible first
  | (refine ws_then ?_; try with_reducible dsimp only [List.set_cons_zero, List.set_cons_succ]) | refine ws_seq ?_ | refine ws_asg ?_ | refine ws_expr ?_ | refine ws_ret ?_ | refine ws_if ?_ | refine ws_asgT ?_ | refine ws_skip ?_ | refine ws_retN ?_ | refine ws_brk ?_ | refine ws_cont ?_ | refine ws_thenR ?_ | refine ws_thenB ?_ | refine ws_thenC ?_ | refine fq_rt ?_ | refine fq_nx ?_ | refine un_nx ?_ | refine un_ct ?_ | refine un_bk ?_ | refine un_rt ?_ | refine ws_loopN ?_
  | (refine ws_loopC (ρ1 := ?r) ?h ?q; (case h => with_unfolding_all rfl); try with_reducible dsimp only [List.set_cons_zero, List.set_cons_succ])
  | refine wp_c ?_ | refine wp_op2 ?_ | refine wp_fn ?_ | refine wp_cons ?_ | refine wp_nil ?_ | refine wp_call ?_ | refine wp_op1 ?_
  | (refine wp_var (d := ?d) ?h ?q; (case h => with_unfolding_all rfl))
  | (refine ws_aug (d := ?d) ?h ?q; (case h => with_unfolding_all rfl))
  | refine wp_tup ?_ | refine wp_lst ?_ | refine wp_lstM ?_ | refine wp_listM ?_
  | refine wp_sl0 ?_ | refine wp_sl1 ?_ | refine wp_sl2 ?_ | refine wp_sl3 ?_
  | refine wp_tval ?_ | refine wp_tnot ?_ | refine wp_tand ?_ | refine wp_tor ?_ | refine wp_tyes ?_ | refine wp_and ?_ | refine wp_or ?_ | refine wp_not ?_ | refine wp_ifx ?_ | refine wp_chain ?_ | refine wp_meth ?_ | refine wp_meth0 ?_
  | refine wp_isi ?_ | refine wp_isis ?_ | refine wp_repr ?_ | refine wp_maxD ?_ | refine wi_rng3 ?_
  | refine wp_str1 ?_ | refine ws_par ?_ | refine wp_dnew ?_ | refine wp_get2 ?_ | refine wp_reprQ ?_ | refine wp_fnK ?_ | refine wi_valsI ?_ | refine wi_itemsI ?_ | refine ws_augI ?_
  | refine wi_seq ?_ | refine wi_rng1 ?_ | refine wi_rng2 ?_ | refine wi_zip2 ?_ | refine wi_zipS ?_
  | (refine wp_fnB (ρ := ?ρ) ?he ?_; (case he => (simp only [List.map_cons, List.map_nil, List.length_cons, List.length_nil, List.replicate, List.cons_append, List.nil_append, Nat.reduceAdd, Nat.reduceSub]; rfl))))
local macro_rules | `(tactic| walk_at "w2") => `(tactic| ((with_reducible refine wo_id ?_); with_reducible first
  | refine vo_sub ?_ | refine vo_add ?_ | refine vo_lt ?_ | refine vo_le ?_ | refine vo_gt ?_ | refine vo_ge ?_ | refine vo_eq ?_ | refine vo_ne ?_ | refine vo_eqS ?_ | refine vo_neS ?_ | refine vo_eqB ?_ | refine vo_neB ?_ | refine vo_neg ?_ | refine vo_slT ?_ | refine vo_slL ?_ | refine vo_slS ?_ | refine vo_lenT ?_ | refine vo_lenL ?_ | refine vo_lenS ?_ | refine vo_revT ?_ | refine vo_revL ?_ | refine vo_min ?_ | refine vo_max ?_ | refine vo_tupL ?_ | refine vo_tupT ?_ | refine vo_lisL ?_ | refine vo_lisT ?_
  | refine vo_igAdd ?_ | refine vo_igMulR (by omega) ?_ | refine vo_igMulL (by omega) ?_ | refine vo_mod (by omega) ?_ | refine vo_div (by omega) ?_ | refine vo_mulR (by omega) ?_ | refine vo_mulL (by omega) ?_
  | refine vo_ixL0 ?_ | refine vo_ixL1 ?_ | refine vo_ixL2 ?_ | refine vo_ixL3 ?_ | refine vo_ixL4 ?_ | refine vo_ixL5 ?_ | refine vo_ixL6 ?_ | refine vo_ixT0 ?_ | refine vo_ixT1 ?_ | refine vo_ixT2 ?_ | refine vo_ixT3 ?_ | refine vo_ixT4 ?_ | refine vo_ixT5 ?_ | refine vo_ixT6 ?_
  | refine vo_starts ?_ | refine vo_isBN ?_ | refine vo_isSN ?_ | refine vo_isLN ?_ | refine vo_isDN ?_ | refine vo_slX (by first | assumption | omega) ?_ | refine vo_lenX (by first | assumption | omega) ?_ | refine vo_addS (by first | assumption | omega) ?_
  | refine vo_inT ?_ | refine vo_ninT ?_ | refine vo_inL ?_ | refine vo_ninL ?_ | refine vo_inI ?_ | refine vo_ninI ?_ | refine vo_sortI (by first | assumption | omega) ?_ | refine vo_sortL ?_ | refine vo_lenI ?_ | refine vo_lt3 ?_ | refine vo_isNN ?_ | refine vo_is3N ?_ | refine vo_isTN ?_ | refine vo_isIN ?_ | refine vo_igAddI ?_ | refine vo_ixI (by assumption) ?_
  | refine vo_vwD1 (by assumption) ?_ | refine vo_vwDc (by assumption) ?_
  | refine wo_vw1 (by assumption) ?_ | refine wo_vw2 (by assumption) ?_ | refine vo_vwc (by assumption) ?_
  | (refine vo_isi (c := ?c) ?h ?q; (case h => with_unfolding_all rfl)) | (refine vo_isis (c := ?c) ?h ?q; (case h => with_unfolding_all rfl))))
local macro_rules | `(tactic| walk_at "w3") => `(tactic| first
  | with_reducible refine nb_ff ?_ | with_reducible refine nb_tt ?_ | with_reducible refine nb_ft ?_ | with_reducible refine nb_tf ?_
  | with_reducible refine ite_f ?_ | with_reducible refine ite_nt ?_ | with_reducible refine ite_nf ?_ | with_reducible refine ite_t ?_
  | ((with_reducible refine ex_id ?_); refine ⟨_, rfl, ?_⟩) | ((with_reducible refine and_id ?_); refine ⟨Nat.le_of_ble_eq_true rfl, ?_⟩))
local macro_rules | `(tactic| walk_at "w") => `(tactic| repeat (first | walk_at "w1" | walk_at "w2" | walk_at "w3"))
theorem ite_wt {x y : Str} {A B : Prop} (h : decide (x = y) = true) (a : A) : (decide (x = y) = true → A) ∧ (decide (x = y) = false → B) := ⟨fun _ => a, fun e => by rw [h] at e; cases e⟩
theorem ite_wf {x y : Str} {A B : Prop} (h : decide (x = y) = false) (b : B) : (decide (x = y) = true → A) ∧ (decide (x = y) = false → B) := ⟨fun e => by (rw [h] at e; cases e), fun _ => b⟩
theorem wp_sumL {c : Ex} {i : Nat} {ρ : Ev} {S : Sto} {Q : D → Sto → Prop} {E : Px} {g : Nat} {hs : List Rc} (h0 : ρ[i]? = some (some (.ref g))) (h : S[g]? = some (some (.lst (heldD hs))))
    (hc : ∀ (S' : Sto) (Q' : D → Sto → Prop), Q' (.lst ((hs.map fun r => ((r.2.length : Int) + 1)).map .int)) S' → Wp (c (ρ.set i (some (.lst (heldD hs)))) S') Q' noX) (q : Q (.int (load hs)) S) : Wp (eTmpL i (eCall sumD [c]) ρ S) Q E := by
  refine wp_tmpL h0 h ?_
  walk_at "w"
  refine hc _ _ ?_
  walk_at "w"
  exact wo_sumL ⟨rfl, q⟩
theorem wp_due {S : Sto} {g : Nat} {wide : Int} {hs : List Rc} {dd : Dd} {Q : D → Sto → Prop} (h : S[g]? = some (some (.lst (heldD hs)))) (ok : OkDd dd) (hz : hs.length ≤ 1000) (hr : ∀ r ∈ hs, r.2.length ≤ 1000 ∧ r.1.2.length ≤ 1000)
    (q : ∀ S', S'[g]? = some (some (.lst (heldD (due wide hs dd).1))) → Only g S S' → Q (toldD (due wide hs dd).2.1 (due wide hs dd).2.2) S') : Wp (d_utape_due [.ref g, .int wide, .str dd.word, dd.some] S) Q noX := by
  have hn : ∀ i, (nth hs i).2.length ≤ 1000 ∧ (nth hs i).1.2.length ≤ 1000 := fun i => by
    unfold nth
    rw [List.getD_eq_getElem?_getD]
    cases e : hs[i]? with
    | none => exact ⟨Nat.zero_le _, Nat.zero_le _⟩
    | some r => exact hr r (List.mem_of_getElem? e)
  unfold d_utape_due
  refine wp_fnB (ρ := [some (.ref g), some (.int wide), some (.str dd.word), some dd.some, none, none, none]) rfl ?_
  unfold b_utape_due
  cases dd with
  | wr l r =>
    unfold i_utape_due_2 i_utape_due_1
    dsimp only [Dd.word, Dd.some]
    walk_at "w"
    refine ite_wt (by decide) ?_
    walk_at "w"
    refine wp_sumL rfl h ?_ ?_
    · intro S' Q' q'
      unfold c_utape_due_1
      refine wp_compM1 hs recD (fun r => .int ((r.2.length : Int) + 1)) (by omega) ?_
      walk_at "w"
      refine ⟨heldD hs, .inr rfl, rfl, fun r hr' => ⟨_, rfl, ?_⟩, ?_⟩
      · unfold ce_utape_due_1
        walk_at "w"
        exact ⟨by rw [List.length_map], rfl⟩
      · rw [List.map_map] at q'
        exact q'
    walk_at "w"
    rw [List.length_map]
    by_cases hw : load hs + r.length + 1 > wide
    · rw [decide_eq_true hw]
      walk_at "w"
      have q2 := q S
      simp only [due, if_pos hw] at q2
      exact q2 h .refl
    · rw [decide_eq_false hw]
      walk_at "w"
      refine ⟨by rw [lst_at h]; rfl, ?_⟩
      walk_at "w"
      refine ⟨_, _, _, h, gApp (by rw [held_len]; omega), ?_⟩
      refine set_gen h fun S2 a2 o2 => ?_
      walk_at "w"
      have q2 := q S2
      simp only [due, if_neg hw] at q2
      have e : heldD hs ++ [D.tup [labD l, numD r]] = heldD (hs ++ [(l, r)]) := by unfold heldD; simp
      rw [show ((heldD hs ++ [D.tup [labD l, numD r]]).length : Int) - 1 = hs.length by rw [List.length_append, held_len]; simp]
      exact q2 (by rw [a2, e]) o2
  | bl =>
    unfold i_utape_due_2 i_utape_due_3
    dsimp only [Dd.word, Dd.some]
    walk_at "w"
    refine ite_wf (by decide) ?_
    walk_at "w"
    refine ite_wt (by decide) ?_
    walk_at "w"
    refine ⟨g, _, _, _, rfl, h, rfl, ?_⟩
    refine set_gen h fun S2 a2 o2 => ?_
    walk_at "w"
    exact q S2 a2 o2
  | rd p =>
    unfold i_utape_due_2 i_utape_due_3 i_utape_due_4 i_utape_due_5
    dsimp only [Dd.word, Dd.some]
    walk_at "w"
    refine ite_wf (by decide) ?_
    walk_at "w"
    refine ite_wf (by decide) ?_
    walk_at "w"
    rw [held_len]
    refine wp_isplace ok ?_
    cases hp : numB p 0 hs.length with
    | false =>
      walk_at "w"
      have q2 := q S
      simp only [due, hp] at q2
      exact q2 h .refl
    | true =>
      obtain ⟨i, rfl, h1, h2⟩ := numB_int hp
      walk_at "w"
      refine wo_ixH h1 h2 ?_
      walk_at "w"
      refine ite_wt (by decide) ?_
      walk_at "w"
      have q2 := q S
      simp only [due, hp, if_true] at q2
      exact q2 h .refl
  | st p =>
    unfold i_utape_due_2 i_utape_due_3 i_utape_due_4 i_utape_due_5 i_utape_due_6
    dsimp only [Dd.word, Dd.some]
    walk_at "w"
    refine ite_wf (by decide) ?_
    walk_at "w"
    refine ite_wf (by decide) ?_
    walk_at "w"
    rw [held_len]
    refine wp_isplace ok ?_
    cases hp : numB p 0 hs.length with
    | false =>
      walk_at "w"
      have q2 := q S
      simp only [due, hp] at q2
      exact q2 h .refl
    | true =>
      obtain ⟨i, rfl, h1, h2⟩ := numB_int hp
      walk_at "w"
      refine wo_ixH h1 h2 ?_
      walk_at "w"
      refine ite_wf (by decide) ?_
      walk_at "w"
      refine ite_wt (by decide) ?_
      walk_at "w"
      refine ws_setIx ?_
      walk_at "w"
      rw [cut_tail]
      refine vo_addT (by have := hn i.toNat; simp; omega) ?_
      walk_at "w"
      refine ⟨g, _, _, _, rfl, rfl, h, ixN_in h1 (by rw [held_len]; exact h2), ?_⟩
      refine set_gen h fun S2 a2 o2 => ?_
      walk_at "w"
      have q2 := q S2
      simp only [due, hp, if_true] at q2
      exact q2 (by rw [a2, ← held_set]; rfl) o2
  | rt p r =>
    unfold i_utape_due_2 i_utape_due_3 i_utape_due_4 i_utape_due_5 i_utape_due_6 i_utape_due_7
    dsimp only [Dd.word, Dd.some]
    walk_at "w"
    refine ite_wf (by decide) ?_
    walk_at "w"
    refine ite_wf (by decide) ?_
    walk_at "w"
    rw [held_len]
    refine wp_isplace ok ?_
    cases hp : numB p 0 hs.length with
    | false =>
      walk_at "w"
      have q2 := q S
      simp only [due, hp] at q2
      exact q2 h .refl
    | true =>
      obtain ⟨i, rfl, h1, h2⟩ := numB_int hp
      walk_at "w"
      refine wo_ixH h1 h2 ?_
      walk_at "w"
      refine ite_wf (by decide) ?_
      walk_at "w"
      refine ite_wf (by decide) ?_
      walk_at "w"
      refine ite_wt (by decide) ?_
      walk_at "w"
      refine ws_setIx ?_
      walk_at "w"
      refine ⟨g, _, _, _, rfl, rfl, h, ixN_in h1 (by rw [held_len]; exact h2), ?_⟩
      refine set_gen h fun S2 a2 o2 => ?_
      walk_at "w"
      have q2 := q S2
      simp only [due, hp, if_true] at q2
      exact q2 (by rw [a2, ← held_set]; rfl) o2
  | hm p a b =>
    obtain ⟨op, oa, ob⟩ := ok
    unfold i_utape_due_2 i_utape_due_3 i_utape_due_4 i_utape_due_5 i_utape_due_6 i_utape_due_7 i_utape_due_8
    dsimp only [Dd.word, Dd.some]
    walk_at "w"
    refine ite_wf (by decide) ?_
    walk_at "w"
    refine ite_wf (by decide) ?_
    walk_at "w"
    rw [held_len]
    refine wp_isplace op ?_
    cases hp : numB p 0 hs.length with
    | false =>
      walk_at "w"
      have q2 := q S
      simp only [due, hp] at q2
      exact q2 h .refl
    | true =>
      obtain ⟨i, rfl, h1, h2⟩ := numB_int hp
      walk_at "w"
      refine wo_ixH h1 h2 ?_
      walk_at "w"
      refine ite_wf (by decide) ?_
      walk_at "w"
      refine ite_wf (by decide) ?_
      walk_at "w"
      refine ite_wf (by decide) ?_
      walk_at "w"
      rw [List.length_map]
      refine wp_isplace oa ?_
      have q2 := q S
      simp only [due, hp, if_true] at q2
      cases ha : numB a 0 (nth hs i.toNat).2.length with
      | false =>
        walk_at "w"
        rw [show ixO (.int i) = i.toNat from rfl, ha, Bool.false_and] at q2
        exact q2 h .refl
      | true =>
        walk_at "w"
        refine wp_isplace ob ?_
        cases hb : numB b 0 31 with
        | false =>
          walk_at "w"
          have : numB b 1 31 = false := by
            cases hb1 : numB b 1 31 with
            | false => rfl
            | true =>
              obtain ⟨j, rfl, z1, z2⟩ := numB_int hb1
              rw [show numB (.int j) 0 31 = (decide (0 ≤ j) && decide (j < 31)) from rfl, decide_eq_true (by omega : 0 ≤ j), decide_eq_true z2] at hb
              cases hb
          rw [this, Bool.and_false] at q2
          exact q2 h .refl
        | true =>
          obtain ⟨j, rfl, j1, j2⟩ := numB_int hb
          obtain ⟨k, rfl, k1, k2⟩ := numB_int ha
          walk_at "w"
          refine ite_d (fun hj => ?_) (fun hj => ?_)
          · walk_at "w"
            rw [show numB (.int j) 1 31 = (decide (1 ≤ j) && decide (j < 31)) from rfl, decide_eq_false (by omega : ¬ 1 ≤ j), Bool.false_and, Bool.and_false] at q2
            exact q2 h .refl
          · walk_at "w"
            refine wo_ixR k1 k2 ?_
            walk_at "w"
            refine ws_setIx ?_
            walk_at "w"
            refine vo_addT (by have z := cutL_len ((nth hs i.toNat).2.map D.int) none (some k); rw [List.length_map] at z; have := hn i.toNat; rw [cutD_cutL]; simp; omega) ?_
            walk_at "w"
            have k3 : (bent (nth hs i.toNat).2 k.toNat j).length = (nth hs i.toNat).2.length := bent_len (by omega)
            refine vo_addT ?_ ?_
            · have z := cutL_len ((nth hs i.toNat).2.map D.int) none (some k)
              have z2 := cutL_len ((nth hs i.toNat).2.map D.int) (some (k + 1)) none
              rw [List.length_map] at z z2
              have := hn i.toNat
              rw [cutD_cutL, cutD_cutL]
              simp
              omega
            rw [bent_cut k1 k2]
            walk_at "w"
            refine ⟨g, _, _, _, rfl, rfl, h, ixN_in h1 (by rw [held_len]; exact h2), ?_⟩
            refine set_gen h fun S2 a2 o2 => ?_
            walk_at "w"
            have q3 := q S2
            have e1 : (numB (.int k) 0 (nth hs i.toNat).2.length && numB (.int j) 1 31) = true := by
              rw [show numB (.int j) 1 31 = (decide (1 ≤ j) && decide (j < 31)) from rfl, decide_eq_true (by omega : 1 ≤ j), decide_eq_true j2, ha]
              rfl
            simp only [due, hp, if_true, show ixO (.int i) = i.toNat from rfl, e1] at q3
            exact q3 (by rw [a2, ← held_set]; rfl) o2
end C37
set_option Elab.async false
set_option linter.all false
set_option maxRecDepth 100000
set_option maxHeartbeats 4000000
namespace C37
open DL PySem LS
local macro_rules | `(tactic| walk_at "w1") => `(tactic| with_reducible first
  | (refine ws_then ?_; try with_reducible dsimp only [List.set_cons_zero, List.set_cons_succ]) | refine ws_seq ?_ | refine ws_asg ?_ | refine ws_expr ?_ | refine ws_ret ?_ | refine ws_if ?_ | refine ws_asgT ?_ | refine ws_skip ?_ | refine ws_retN ?_ | refine ws_brk ?_ | refine ws_cont ?_ | refine ws_thenR ?_ | refine ws_thenB ?_ | refine ws_thenC ?_ | refine fq_rt ?_ | refine fq_nx ?_ | refine un_nx ?_ | refine un_ct ?_ | refine un_bk ?_ | refine un_rt ?_ | refine ws_loopN ?_
  | (refine ws_loopC (ρ1 := ?r) ?h ?q; (case h => with_unfolding_all rfl); try with_reducible dsimp only [List.set_cons_zero, List.set_cons_succ])
  | refine wp_c ?_ | refine wp_op2 ?_ | refine wp_fn ?_ | refine wp_cons ?_ | refine wp_nil ?_ | refine wp_call ?_ | refine wp_op1 ?_
  | (refine wp_var (d := ?d) ?h ?q; (case h => with_unfolding_all rfl))
  | (refine ws_aug (d := ?d) ?h ?q; (case h => with_unfolding_all rfl))
  | refine wp_tup ?_ | refine wp_lst ?_ | refine wp_lstM ?_ | refine wp_listM ?_
  | refine wp_sl0 ?_ | refine wp_sl1 ?_ | refine wp_sl2 ?_ | refine wp_sl3 ?_
  | refine wp_tval ?_ | refine wp_tnot ?_ | refine wp_tand ?_ | refine wp_tor ?_ | refine wp_tyes ?_ | refine wp_and ?_ | refine wp_or ?_ | refine wp_not ?_ | refine wp_ifx ?_ | refine wp_chain ?_ | refine wp_meth ?_ | refine wp_meth0 ?_
  | refine wp_isi ?_ | refine wp_isis ?_ | refine wp_repr ?_ | refine wp_maxD ?_ | refine wi_rng3 ?_
  | refine wp_str1 ?_ | refine ws_par ?_ | refine wp_dnew ?_ | refine wp_get2 ?_ | refine wp_reprQ ?_ | refine wp_fnK ?_ | refine wi_valsI ?_ | refine wi_itemsI ?_ | refine ws_augI ?_
  | refine wi_seq ?_ | refine wi_rng1 ?_ | refine wi_rng2 ?_ | refine wi_zip2 ?_ | refine wi_zipS ?_
  | (refine wp_fnB (ρ := ?ρ) ?he ?_; (case he => (simp only [List.map_cons, List.map_nil, List.length_cons, List.length_nil, List.replicate, List.cons_append, List.nil_append, Nat.reduceAdd, Nat.reduceSub]; rfl))))
local macro_rules | `(tactic| walk_at "w2") => `(tactic| ((with_reducible refine wo_id ?_); with_reducible first
  | refine vo_sub ?_ | refine vo_add ?_ | refine vo_lt ?_ | refine vo_le ?_ | refine vo_gt ?_ | refine vo_ge ?_ | refine vo_eq ?_ | refine vo_ne ?_ | refine vo_eqS ?_ | refine vo_neS ?_ | refine vo_eqB ?_ | refine vo_neB ?_ | refine vo_neg ?_ | refine vo_slT ?_ | refine vo_slL ?_ | refine vo_slS ?_ | refine vo_lenT ?_ | refine vo_lenL ?_ | refine vo_lenS ?_ | refine vo_revT ?_ | refine vo_revL ?_ | refine vo_min ?_ | refine vo_max ?_ | refine vo_tupL ?_ | refine vo_tupT ?_ | refine vo_lisL ?_ | refine vo_lisT ?_
  | refine vo_igAdd ?_ | refine vo_igMulR (by omega) ?_ | refine vo_igMulL (by omega) ?_ | refine vo_mod (by omega) ?_ | refine vo_div (by omega) ?_ | refine vo_mulR (by omega) ?_ | refine vo_mulL (by omega) ?_
  | refine vo_ixL0 ?_ | refine vo_ixL1 ?_ | refine vo_ixL2 ?_ | refine vo_ixL3 ?_ | refine vo_ixL4 ?_ | refine vo_ixL5 ?_ | refine vo_ixL6 ?_ | refine vo_ixT0 ?_ | refine vo_ixT1 ?_ | refine vo_ixT2 ?_ | refine vo_ixT3 ?_ | refine vo_ixT4 ?_ | refine vo_ixT5 ?_ | refine vo_ixT6 ?_
  | refine vo_starts ?_ | refine vo_isBN ?_ | refine vo_isSN ?_ | refine vo_isLN ?_ | refine vo_isDN ?_ | refine vo_slX (by first | assumption | omega) ?_ | refine vo_lenX (by first | assumption | omega) ?_ | refine vo_addS (by first | assumption | omega) ?_
  | refine vo_inT ?_ | refine vo_ninT ?_ | refine vo_inL ?_ | refine vo_ninL ?_ | refine vo_inI ?_ | refine vo_ninI ?_ | refine vo_sortI (by first | assumption | omega) ?_ | refine vo_sortL ?_ | refine vo_lenI ?_ | refine vo_lt3 ?_ | refine vo_isNN ?_ | refine vo_is3N ?_ | refine vo_isTN ?_ | refine vo_isIN ?_ | refine vo_igAddI ?_ | refine vo_ixI (by assumption) ?_
  | refine vo_vwD1 (by assumption) ?_ | refine vo_vwDc (by assumption) ?_
  | refine wo_vw1 (by assumption) ?_ | refine wo_vw2 (by assumption) ?_ | refine vo_vwc (by assumption) ?_
  | (refine vo_isi (c := ?c) ?h ?q; (case h => with_unfolding_all rfl)) | (refine vo_isis (c := ?c) ?h ?q; (case h => with_unfolding_all rfl))))
local macro_rules | `(tactic| walk_at "w3") => `(tactic| first
  | with_reducible refine nb_ff ?_ | with_reducible refine nb_tt ?_ | with_reducible refine nb_ft ?_ | with_reducible refine nb_tf ?_
  | with_reducible refine ite_f ?_ | with_reducible refine ite_nt ?_ | with_reducible refine ite_nf ?_ | with_reducible refine ite_t ?_
  | ((with_reducible refine ex_id ?_); refine ⟨_, rfl, ?_⟩) | ((with_reducible refine and_id ?_); refine ⟨Nat.le_of_ble_eq_true rfl, ?_⟩))
local macro_rules | `(tactic| walk_at "w") => `(tactic| repeat (first | walk_at "w1" | walk_at "w2" | walk_at "w3"))
def flds (num site room : Int) (h : Nat) (u : Int) : List (Str × D) := [("number", .int num), ("site", .int site), ("room", .int room), ("held", .ref h), ("used", .int u)]
theorem lk_number {num site room : Int} {h : Nat} {u : Int} : (flds num site room h u).lookup ("number" : Str) = some (D.int num) := rfl
theorem lk_site {num site room : Int} {h : Nat} {u : Int} : (flds num site room h u).lookup ("site" : Str) = some (D.int site) := rfl
theorem lk_room {num site room : Int} {h : Nat} {u : Int} : (flds num site room h u).lookup ("room" : Str) = some (D.int room) := rfl
theorem lk_held {num site room : Int} {h : Nat} {u : Int} : (flds num site room h u).lookup ("held" : Str) = some (D.ref h) := rfl
theorem lk_used {num site room : Int} {h : Nat} {u : Int} : (flds num site room h u).lookup ("used" : Str) = some (D.int u) := rfl
theorem put_held {num site room : Int} {h h' : Nat} {u : Int} : putFD "held" (.ref h') (flds num site room h u) = flds num site room h' u := rfl
theorem put_used {num site room : Int} {h : Nat} {u u' : Int} : putFD "used" (.int u') (flds num site room h u) = flds num site room h u' := rfl
theorem lk_mt {num site room : Int} {h : Nat} {u : Int} : ∀ m ∈ (["load", "write", "need_place", "read", "harm", "put_right", "strike", "blank", "records"] : List Str), (flds num site room h u).lookup m = none := by
  intro m hm
  simp only [List.mem_cons, List.mem_nil_iff, or_false] at hm
  rcases hm with rfl | rfl | rfl | rfl | rfl | rfl | rfl | rfl | rfl <;> rfl
structure TapeAt (S : Sto) (n h : Nat) (num site room : Int) (hs : List Rc) : Prop where
  o : S[n]? = some (some (.ins "Tape" (flds num site room h (load hs))))
  l : S[h]? = some (some (.lst (heldD hs)))
section
variable {S : Sto} {n h : Nat} {num site room : Int} {hs : List Rc} {Q : D → Sto → Prop} {E : Px} {ρ : Ev} {o : Ex}
theorem wp_held (t : TapeAt S n h num site room hs) (hw : ∀ Q' : D → Sto → Prop, Q' (.ref n) S → Wp (o ρ S) Q' E) (q : Q (.ref h) S) : Wp (eFld "Tape" "held" o ρ S) Q E := wp_fld (hw _ ⟨n, _, _, rfl, t.o, lk_held, q⟩)
theorem wp_need {p : D} (t : TapeAt S n h num site room hs) (op : Odd p) (q : numB p 0 hs.length = true → Q .non S) (e : numB p 0 hs.length = false → E "NoPlace" .non S) : Wp (d_Tape_need_place [.ref n, p] S) Q E := by
  have hl := t.l
  unfold d_Tape_need_place b_Tape_need_place i_Tape_need_place_1
  walk_at "w"
  refine wp_held t (fun Q' q' => by walk_at "w"; exact q') ?_
  walk_at "w"
  show Wp (d_is_number [p, .int 0, .int ↑(heldD hs).length] S) _ _
  rw [held_len]
  refine wp_isnum op ?_
  cases hp : numB p 0 hs.length with
  | false => walk_at "w"; exact ws_raise (e hp)
  | true => walk_at "w"; exact q hp
/-- a method of the tape -/
theorem wp_meth1 {m : Str} {F : Fn} {fs : List Ex} (t : TapeAt S n h num site room hs) (hm : m ∈ (["load", "write", "need_place", "read", "harm", "put_right", "strike", "blank", "records"] : List Str)) (ho : ∀ Q' : D → Sto → Prop, Q' (.ref n) S → Wp (o ρ S) Q' E) (q : Wp (evL fs ρ S) (fun ds S2 => Wp (F (.ref n :: ds) S2) Q E) E) : Wp (eMt "Tape" m F o fs ρ S) Q E :=
  wp_mt (ho _ ⟨n, _, rfl, t.o, lk_mt m hm, q⟩)
theorem wp_tread {p : D} (t : TapeAt S n h num site room hs) (op : Odd p) (q : numB p 0 hs.length = true → Q (recD (nth hs (ixO p))) S) (e : numB p 0 hs.length = false → E "NoPlace" .non S) : Wp (d_Tape_read [.ref n, p] S) Q E := by
  have hl := t.l
  unfold d_Tape_read b_Tape_read
  walk_at "w"
  refine wp_meth1 t (by decide) (fun Q' q' => by walk_at "w"; exact q') ?_
  walk_at "w"
  refine wp_need t op (fun hp => ?_) e
  obtain ⟨i, rfl, h1, h2⟩ := numB_int hp
  walk_at "w"
  refine wp_held t (fun Q' q' => by walk_at "w"; exact q') ?_
  walk_at "w"
  refine wo_ixH h1 h2 ?_
  exact q hp
/-- what stands besides n and h stands on -/
def Fr (n h : Nat) (S S' : Sto) : Prop := S.length ≤ S'.length ∧ ∀ j, j < S.length → j ≠ n → j ≠ h → S'[j]? = S[j]?
theorem Fr.refl : Fr n h S S := ⟨Nat.le_refl _, fun _ _ _ _ => rfl⟩
theorem Fr.onlyH {S' : Sto} (o : Only h S S') : Fr n h S S' := ⟨by rw [o.1]; exact Nat.le_refl _, fun j _ _ hj => o.2 j hj⟩
theorem Fr.onlyN {S' : Sto} (o : Only n S S') : Fr n h S S' := ⟨by rw [o.1]; exact Nat.le_refl _, fun j _ hj _ => o.2 j hj⟩
theorem Fr.trans {S1 S2 : Sto} (a : Fr n h S S1) (b : Fr n h S1 S2) : Fr n h S S2 := ⟨Nat.le_trans a.1 b.1, fun j hj h1 h2 => (b.2 j (Nat.lt_of_lt_of_le hj a.1) h1 h2).trans (a.2 j hj h1 h2)⟩
theorem TapeAt.ne (t : TapeAt S n h num site room hs) : n ≠ h := fun e => by
  have a := t.o
  rw [e, t.l] at a
  cases a
theorem TapeAt.setL {S' : Sto} {hs' : List Rc} (t : TapeAt S n h num site room hs) (e : S'[h]? = some (some (.lst (heldD hs')))) (o : Only h S S') (hl : load hs' = load hs) : TapeAt S' n h num site room hs' := ⟨by rw [o.2 n t.ne, t.o, hl], e⟩
theorem wp_tf {f : Str} {v : D} (t : TapeAt S n h num site room hs) (lk : (flds num site room h (load hs)).lookup f = some v) (hw : ∀ Q' : D → Sto → Prop, Q' (.ref n) S → Wp (o ρ S) Q' E) (q : Q v S) : Wp (eFld "Tape" f o ρ S) Q E := wp_fld (hw _ ⟨n, _, _, rfl, t.o, lk, q⟩)
theorem load_app {l : Str × List Int} {r : List Int} : load (hs ++ [(l, r)]) = load hs + ((r.length : Int) + 1) := by unfold load; simp
theorem wp_twrite {l : Str × List Int} {r : List Int} (t : TapeAt S n h num site room hs) (hz : hs.length ≤ 1000) (q : ¬ load hs + r.length + 1 > room → ∀ S', TapeAt S' n h num site room (hs ++ [(l, r)]) → Fr n h S S' → Q (.int hs.length) S') (e : load hs + r.length + 1 > room → E "Full" .non S) :
    Wp (d_Tape_write [.ref n, labD l, numD r] S) Q E := by
  have hl := t.l
  unfold d_Tape_write b_Tape_write i_Tape_write_1
  walk_at "w"
  refine wp_meth1 t (by decide) (fun Q' q' => by walk_at "w"; exact q') ?_
  unfold d_Tape_load b_Tape_load
  walk_at "w"
  refine wp_tf t lk_used (fun Q' q' => by walk_at "w"; exact q') ?_
  walk_at "w"
  refine wp_tf t lk_room (fun Q' q' => by walk_at "w"; exact q') ?_
  rw [List.length_map]
  walk_at "w"
  refine ite_d (fun hw => ws_raise (e hw)) (fun hw => ?_)
  walk_at "w"
  refine wp_held t (fun Q' q' => by walk_at "w"; exact q') ?_
  refine ⟨h, rfl, by rw [lst_at hl]; rfl, ?_⟩
  walk_at "w"
  refine ⟨_, _, _, hl, gApp (by rw [held_len]; omega), ?_⟩
  refine set_gen hl fun S2 a2 o2 => ?_
  walk_at "w"
  have n2 : S2[n]? = some (some (.ins "Tape" (flds num site room h (load hs)))) := by rw [o2.2 n t.ne]; exact t.o
  refine ws_fldA ?_
  walk_at "w"
  refine ⟨n, _, _, rfl, n2, lk_used, ?_⟩
  walk_at "w"
  refine ⟨_, n2, by show 5 < 1000; omega, ?_⟩
  refine vo_igAdd ?_
  rw [put_used, List.length_map]
  refine set_gen n2 fun S3 a3 o3 => ?_
  have t3 : TapeAt S3 n h num site room (hs ++ [(l, r)]) := by
    refine ⟨by rw [a3, load_app], ?_⟩
    rw [o3.2 h (fun z => t.ne z.symm), a2]
    unfold heldD
    simp
  have hl3 := t3.l
  walk_at "w"
  refine wp_held t3 (fun Q' q' => by walk_at "w"; exact q') ?_
  walk_at "w"
  rw [held_len, List.length_append]
  rw [show (((hs.length + [((l, r) : Rc)].length : Nat) : Int)) - 1 = hs.length by simp]
  exact q hw S3 t3 ((Fr.onlyH o2).trans (Fr.onlyN o3))
theorem load_set {i : Nat} {r : Rc} (hi : i < hs.length) (hr : r.2.length = (nth hs i).2.length) : load (hs.set i r) = load hs := by
  unfold load nth at *
  rw [List.getD_eq_getElem?_getD, List.getElem?_eq_getElem hi] at hr
  induction hs generalizing i with
  | nil => simp at hi
  | cons x hs ih =>
    cases i with
    | zero =>
      simp only [List.set_cons_zero, List.map_cons, List.sum_cons]
      simp only [List.getElem_cons_zero, Option.getD_some] at hr
      rw [hr]
    | succ i =>
      simp only [List.set_cons_succ, List.map_cons, List.sum_cons]
      rw [ih (by simpa using hi) (by simpa using hr)]
/-- the held list's item is stored -/
theorem ws_put {p : D} {ρ' : Ev} {eo ei ee : Ex} {r : Rc} {Qs : Fl → Sto → Prop} {Es : Str → D → Ev → Sto → Prop} {i : Int} (t : TapeAt S n h num site room hs) (h1 : 0 ≤ i) (h2 : i < hs.length) (hr : r.2.length = (nth hs i.toNat).2.length)
    (he : ∀ (Q' : D → Sto → Prop) E', Q' (recD r) S → Wp (ee ρ S) Q' E') (ho : ∀ (Q' : D → Sto → Prop) E', Q' (.ref h) S → Wp (eo ρ S) Q' E') (hi : ∀ (Q' : D → Sto → Prop) E', Q' (.int i) S → Wp (ei ρ S) Q' E')
    (q : ∀ S', TapeAt S' n h num site room (hs.set i.toNat r) → Fr n h S S' → Qs (.nx ρ) S') : Ws (sSetIx eo ei ee ρ S) Qs Es := by
  refine ws_setIx (he _ _ (ho _ _ (hi _ _ ⟨h, _, _, _, rfl, rfl, t.l, ixN_in h1 (by rw [held_len]; exact h2), ?_⟩)))
  refine set_gen t.l fun S2 a2 o2 => ?_
  exact q S2 (t.setL (by rw [a2, ← held_set]) o2 (load_set (by omega) hr)) (Fr.onlyH o2)
theorem wp_tstrike {p : D} (t : TapeAt S n h num site room hs) (op : Odd p) (hr : ∀ i, (nth hs i).1.2.length ≤ 1000)
    (q : numB p 0 hs.length = true → ∀ S', TapeAt S' n h num site room (hs.set (ixO p) (("struck", (nth hs (ixO p)).1.2), (nth hs (ixO p)).2)) → Fr n h S S' → Q .non S') (e : numB p 0 hs.length = false → E "NoPlace" .non S) : Wp (d_Tape_strike [.ref n, p] S) Q E := by
  have hl := t.l
  unfold d_Tape_strike b_Tape_strike
  walk_at "w"
  refine wp_meth1 t (by decide) (fun Q' q' => by walk_at "w"; exact q') ?_
  walk_at "w"
  refine wp_need t op (fun hp => ?_) e
  obtain ⟨i, rfl, h1, h2⟩ := numB_int hp
  walk_at "w"
  refine wp_held t (fun Q' q' => by walk_at "w"; exact q') ?_
  walk_at "w"
  refine wo_ixH h1 h2 ?_
  walk_at "w"
  refine ws_put (r := (("struck", (nth hs i.toNat).1.2), (nth hs i.toNat).2)) (p := .non) (ρ' := []) t h1 h2 rfl ?_ ?_ ?_ ?_
  · intro Q' E' q'
    walk_at "w"
    rw [cut_tail]
    refine vo_addT (by have := hr i.toNat; simp; omega) ?_
    walk_at "w"
    exact q'
  · intro Q' E' q'
    exact wp_held t (fun Q' q' => by walk_at "w"; exact q') q'
  · intro Q' E' q'
    walk_at "w"
    exact q'
  · intro S' t' f'
    exact q hp S' t' f'
theorem wp_tright {p : D} {r : List Int} (t : TapeAt S n h num site room hs) (op : Odd p) (hrr : numB p 0 hs.length = true → r.length = (nth hs (ixO p)).2.length)
    (q : numB p 0 hs.length = true → ∀ S', TapeAt S' n h num site room (hs.set (ixO p) ((nth hs (ixO p)).1, r)) → Fr n h S S' → Q .non S') (e : numB p 0 hs.length = false → E "NoPlace" .non S) : Wp (d_Tape_put_right [.ref n, p, numD r] S) Q E := by
  have hl := t.l
  unfold d_Tape_put_right b_Tape_put_right
  walk_at "w"
  refine wp_meth1 t (by decide) (fun Q' q' => by walk_at "w"; exact q') ?_
  walk_at "w"
  refine wp_need t op (fun hp => ?_) e
  have hr := hrr hp
  obtain ⟨i, rfl, h1, h2⟩ := numB_int hp
  walk_at "w"
  refine ws_put (r := ((nth hs i.toNat).1, r)) (p := .non) (ρ' := []) t h1 h2 hr ?_ ?_ ?_ ?_
  · intro Q' E' q'
    walk_at "w"
    refine wp_held t (fun Q' q' => by walk_at "w"; exact q') ?_
    walk_at "w"
    refine wo_ixH h1 h2 ?_
    walk_at "w"
    exact q'
  · intro Q' E' q'
    exact wp_held t (fun Q' q' => by walk_at "w"; exact q') q'
  · intro Q' E' q'
    walk_at "w"
    exact q'
  · intro S' t' f'
    exact q hp S' t' f'
theorem wp_tharm {p a b : D} (t : TapeAt S n h num site room hs) (op : Odd p) (oa : Odd a) (ob : Odd b) (hr : ∀ i, (nth hs i).2.length ≤ 1000)
    (q : numB p 0 hs.length = true → (numB a 0 (nth hs (ixO p)).2.length && numB b 1 31) = true → ∀ S', TapeAt S' n h num site room (hs.set (ixO p) ((nth hs (ixO p)).1, bent (nth hs (ixO p)).2 (ixO a) (intO b))) → Fr n h S S' → Q .non S') (e : numB p 0 hs.length = false → E "NoPlace" .non S)
    (e2 : numB p 0 hs.length = true → (numB a 0 (nth hs (ixO p)).2.length && numB b 1 31) = false → E "NoSign" .non S) : Wp (d_Tape_harm [.ref n, p, a, b] S) Q E := by
  have hl := t.l
  unfold d_Tape_harm b_Tape_harm i_Tape_harm_1
  walk_at "w"
  refine wp_meth1 t (by decide) (fun Q' q' => by walk_at "w"; exact q') ?_
  walk_at "w"
  refine wp_need t op (fun hp => ?_) e
  obtain ⟨i, rfl, h1, h2⟩ := numB_int hp
  have q2 := q hp
  have e3 := e2 hp
  rw [show ixO (.int i) = i.toNat from rfl] at q2 e3
  walk_at "w"
  refine wp_held t (fun Q' q' => by walk_at "w"; exact q') ?_
  walk_at "w"
  refine wo_ixH h1 h2 ?_
  walk_at "w"
  show Wp (d_is_number [a, .int 0, .int ↑((nth hs i.toNat).2.map D.int).length] S) _ _
  rw [List.length_map]
  refine wp_isnum oa ?_
  cases ha : numB a 0 (nth hs i.toNat).2.length with
  | false =>
    walk_at "w"
    exact ws_raise (e3 (by rw [ha]; rfl))
  | true =>
    walk_at "w"
    show Wp (d_is_number [b, .int 1, .int 31] S) _ _
    refine wp_isnum ob ?_
    cases hb : numB b 1 31 with
    | false =>
      walk_at "w"
      exact ws_raise (e3 (by rw [ha, hb]; rfl))
    | true =>
      obtain ⟨j, rfl, j1, j2⟩ := numB_int hb
      obtain ⟨k, rfl, k1, k2⟩ := numB_int ha
      walk_at "w"
      have k3 : (bent (nth hs i.toNat).2 k.toNat j).length = (nth hs i.toNat).2.length := bent_len (by omega)
      have z := cutL_len ((nth hs i.toNat).2.map D.int) none (some k)
      have z2 := cutL_len ((nth hs i.toNat).2.map D.int) (some (k + 1)) none
      rw [List.length_map] at z z2
      have z3 := hr i.toNat
      refine ws_put (r := ((nth hs i.toNat).1, bent (nth hs i.toNat).2 k.toNat j)) (p := .non) (ρ' := []) t h1 h2 k3 ?_ ?_ ?_ ?_
      · intro Q' E' q'
        walk_at "w"
        refine wo_ixR k1 k2 ?_
        walk_at "w"
        refine vo_addT (by rw [cutD_cutL]; simp; omega) ?_
        walk_at "w"
        refine vo_addT (by rw [cutD_cutL, cutD_cutL]; simp; omega) ?_
        rw [bent_cut k1 k2]
        walk_at "w"
        exact q'
      · intro Q' E' q'
        exact wp_held t (fun Q' q' => by walk_at "w"; exact q') q'
      · intro Q' E' q'
        walk_at "w"
        exact q'
      · intro S' t' f'
        exact q2 (by rw [ha, hb]; rfl) S' t' f'
theorem wp_tblank (t : TapeAt S n h num site room hs) (q : ∀ S', TapeAt S' n S.length num site room [] → Fr n h S S' → Q .non S') : Wp (d_Tape_blank [.ref n] S) Q E := by
  have hl := t.l
  unfold d_Tape_blank b_Tape_blank
  walk_at "w"
  refine ws_fldS ?_
  walk_at "w"
  have hn : n < S.length := (List.getElem?_eq_some_iff.mp t.o).1
  have n1 : (S ++ [some (Ob.lst [])])[n]? = some (some (.ins "Tape" (flds num site room h (load hs)))) := by rw [List.getElem?_append_left hn]; exact t.o
  refine ⟨n, _, rfl, n1, by show 5 < 1000; omega, ?_⟩
  rw [put_held]
  refine set_gen n1 fun S2 a2 o2 => ?_
  walk_at "w"
  refine ws_fldS ?_
  walk_at "w"
  refine ⟨n, _, rfl, a2, by show 5 < 1000; omega, ?_⟩
  rw [put_used]
  refine set_gen a2 fun S3 a3 o3 => ?_
  walk_at "w"
  have hne : S.length ≠ n := by omega
  refine q S3 ⟨a3, ?_⟩ ⟨?_, fun j hj h1 h2 => ?_⟩
  · rw [o3.2 _ hne, o2.2 _ hne]
    exact app_at
  · rw [o3.1, o2.1]
    simp
  · rw [o3.2 _ h1, o2.2 _ h1, List.getElem?_append_left hj]
end
end C37
set_option Elab.async false
set_option linter.all false
set_option maxRecDepth 100000
set_option maxHeartbeats 4000000
namespace C37
open DL PySem LS
local macro_rules | `(tactic| walk_at "w1") => `(tactic| with_reducible first
  | (refine ws_then ?_; try with_reducible dsimp only [List.set_cons_zero, List.set_cons_succ]) | refine ws_seq ?_ | refine ws_asg ?_ | refine ws_expr ?_ | refine ws_ret ?_ | refine ws_if ?_ | refine ws_asgT ?_ | refine ws_skip ?_ | refine ws_retN ?_ | refine ws_brk ?_ | refine ws_cont ?_ | refine ws_thenR ?_ | refine ws_thenB ?_ | refine ws_thenC ?_ | refine fq_rt ?_ | refine fq_nx ?_ | refine un_nx ?_ | refine un_ct ?_ | refine un_bk ?_ | refine un_rt ?_ | refine ws_loopN ?_
  | (refine ws_loopC (ρ1 := ?r) ?h ?q; (case h => with_unfolding_all rfl); try with_reducible dsimp only [List.set_cons_zero, List.set_cons_succ])
  | refine wp_c ?_ | refine wp_op2 ?_ | refine wp_fn ?_ | refine wp_cons ?_ | refine wp_nil ?_ | refine wp_call ?_ | refine wp_op1 ?_
  | (refine wp_var (d := ?d) ?h ?q; (case h => with_unfolding_all rfl))
  | (refine ws_aug (d := ?d) ?h ?q; (case h => with_unfolding_all rfl))
  | refine wp_tup ?_ | refine wp_lst ?_ | refine wp_lstM ?_ | refine wp_listM ?_
  | refine wp_sl0 ?_ | refine wp_sl1 ?_ | refine wp_sl2 ?_ | refine wp_sl3 ?_
  | refine wp_tval ?_ | refine wp_tnot ?_ | refine wp_tand ?_ | refine wp_tor ?_ | refine wp_tyes ?_ | refine wp_and ?_ | refine wp_or ?_ | refine wp_not ?_ | refine wp_ifx ?_ | refine wp_chain ?_ | refine wp_meth ?_ | refine wp_meth0 ?_
  | refine wp_isi ?_ | refine wp_isis ?_ | refine wp_repr ?_ | refine wp_maxD ?_ | refine wi_rng3 ?_
  | refine wp_str1 ?_ | refine ws_par ?_ | refine wp_dnew ?_ | refine wp_get2 ?_ | refine wp_reprQ ?_ | refine wp_fnK ?_ | refine wi_valsI ?_ | refine wi_itemsI ?_ | refine ws_augI ?_
  | refine wi_seq ?_ | refine wi_rng1 ?_ | refine wi_rng2 ?_ | refine wi_zip2 ?_ | refine wi_zipS ?_
  | (refine wp_fnB (ρ := ?ρ) ?he ?_; (case he => (simp only [List.map_cons, List.map_nil, List.length_cons, List.length_nil, List.replicate, List.cons_append, List.nil_append, Nat.reduceAdd, Nat.reduceSub]; rfl))))
local macro_rules | `(tactic| walk_at "w2") => `(tactic| ((with_reducible refine wo_id ?_); with_reducible first
  | refine vo_sub ?_ | refine vo_add ?_ | refine vo_lt ?_ | refine vo_le ?_ | refine vo_gt ?_ | refine vo_ge ?_ | refine vo_eq ?_ | refine vo_ne ?_ | refine vo_eqS ?_ | refine vo_neS ?_ | refine vo_eqB ?_ | refine vo_neB ?_ | refine vo_neg ?_ | refine vo_slT ?_ | refine vo_slL ?_ | refine vo_slS ?_ | refine vo_lenT ?_ | refine vo_lenL ?_ | refine vo_lenS ?_ | refine vo_revT ?_ | refine vo_revL ?_ | refine vo_min ?_ | refine vo_max ?_ | refine vo_tupL ?_ | refine vo_tupT ?_ | refine vo_lisL ?_ | refine vo_lisT ?_
  | refine vo_igAdd ?_ | refine vo_igMulR (by omega) ?_ | refine vo_igMulL (by omega) ?_ | refine vo_mod (by omega) ?_ | refine vo_div (by omega) ?_ | refine vo_mulR (by omega) ?_ | refine vo_mulL (by omega) ?_
  | refine vo_ixL0 ?_ | refine vo_ixL1 ?_ | refine vo_ixL2 ?_ | refine vo_ixL3 ?_ | refine vo_ixL4 ?_ | refine vo_ixL5 ?_ | refine vo_ixL6 ?_ | refine vo_ixT0 ?_ | refine vo_ixT1 ?_ | refine vo_ixT2 ?_ | refine vo_ixT3 ?_ | refine vo_ixT4 ?_ | refine vo_ixT5 ?_ | refine vo_ixT6 ?_
  | refine vo_starts ?_ | refine vo_isBN ?_ | refine vo_isSN ?_ | refine vo_isLN ?_ | refine vo_isDN ?_ | refine vo_slX (by first | assumption | omega) ?_ | refine vo_lenX (by first | assumption | omega) ?_ | refine vo_addS (by first | assumption | omega) ?_
  | refine vo_inT ?_ | refine vo_ninT ?_ | refine vo_inL ?_ | refine vo_ninL ?_ | refine vo_inI ?_ | refine vo_ninI ?_ | refine vo_sortI (by first | assumption | omega) ?_ | refine vo_sortL ?_ | refine vo_lenI ?_ | refine vo_lt3 ?_ | refine vo_isNN ?_ | refine vo_is3N ?_ | refine vo_isTN ?_ | refine vo_isIN ?_ | refine vo_igAddI ?_ | refine vo_ixI (by assumption) ?_
  | refine vo_vwD1 (by assumption) ?_ | refine vo_vwDc (by assumption) ?_
  | refine wo_vw1 (by assumption) ?_ | refine wo_vw2 (by assumption) ?_ | refine vo_vwc (by assumption) ?_
  | (refine vo_isi (c := ?c) ?h ?q; (case h => with_unfolding_all rfl)) | (refine vo_isis (c := ?c) ?h ?q; (case h => with_unfolding_all rfl))))
local macro_rules | `(tactic| walk_at "w3") => `(tactic| first
  | with_reducible refine nb_ff ?_ | with_reducible refine nb_tt ?_ | with_reducible refine nb_ft ?_ | with_reducible refine nb_tf ?_
  | with_reducible refine ite_f ?_ | with_reducible refine ite_nt ?_ | with_reducible refine ite_nf ?_ | with_reducible refine ite_t ?_
  | ((with_reducible refine ex_id ?_); refine ⟨_, rfl, ?_⟩) | ((with_reducible refine and_id ?_); refine ⟨Nat.le_of_ble_eq_true rfl, ?_⟩))
local macro_rules | `(tactic| walk_at "w") => `(tactic| repeat (first | walk_at "w1" | walk_at "w2" | walk_at "w3"))
def OkT (hs : List Rc) (dd : Dd) : Prop := OkDd dd ∧ ∀ p r, dd = .rt p r → numB p 0 hs.length = true → r.length = (nth hs (ixO p)).2.length
section
variable {S : Sto} {n h : Nat} {num site room : Int} {hs : List Rc} {Q : D → Sto → Prop} {E : Px}
theorem wp_deed {dd : Dd} (t : TapeAt S n h num site room hs) (ok : OkT hs dd) (hz : hs.length ≤ 1000) (hr : ∀ r ∈ hs, r.2.length ≤ 1000 ∧ r.1.2.length ≤ 1000)
    (q : (due room hs dd).2.1 = none → ∀ S' h', TapeAt S' n h' num site room (due room hs dd).1 → Fr n h S S' → (h' = h ∨ h' = S.length) → Q (due room hs dd).2.2 S')
    (e : ∀ c, (due room hs dd).2.1 = .some c → (due room hs dd).1 = hs → c ∈ (["Full", "NoPlace", "NoSign"] : List Str) → E c .non S) : Wp (d_utape_deed [.ref n, .str dd.word, dd.some] S) Q E := by
  have hn : ∀ i, (nth hs i).2.length ≤ 1000 ∧ (nth hs i).1.2.length ≤ 1000 := fun i => by
    unfold nth
    rw [List.getD_eq_getElem?_getD]
    cases e : hs[i]? with
    | none => exact ⟨Nat.zero_le _, Nat.zero_le _⟩
    | some r => exact hr r (List.mem_of_getElem? e)
  unfold d_utape_deed
  refine wp_fnB (ρ := [some (.ref n), some (.str dd.word), some dd.some]) rfl ?_
  unfold b_utape_deed i_utape_deed_1 i_utape_deed_2 i_utape_deed_3 i_utape_deed_4
  obtain ⟨ok, okr⟩ := ok
  cases dd with
  | wr l r =>
    dsimp only [Dd.word, Dd.some]
    walk_at "w"
    refine ite_wt (by decide) ?_
    walk_at "w"
    refine wp_meth1 t (by decide) (fun Q' q' => by walk_at "w"; exact q') ?_
    walk_at "w"
    refine wp_twrite t hz (fun hw S' t' f' => ?_) (fun hw => ?_)
    · simp only [due, if_neg hw] at q
      exact q (by first | trivial | rfl) S' h t' f' (.inl rfl)
    · simp only [due, if_pos hw] at e
      exact e _ rfl (by first | trivial | rfl) (by decide)
  | rd p =>
    dsimp only [Dd.word, Dd.some]
    walk_at "w"
    refine ite_wf (by decide) ?_
    walk_at "w"
    refine ite_wt (by decide) ?_
    walk_at "w"
    refine wp_meth1 t (by decide) (fun Q' q' => by walk_at "w"; exact q') ?_
    walk_at "w"
    refine wp_tread t ok (fun hp => ?_) (fun hp => ?_)
    · simp only [due, hp, if_true] at q
      exact q (by first | trivial | rfl) S h t .refl (.inl rfl)
    · simp only [due, hp] at e
      exact e _ rfl (by first | trivial | rfl) (by decide)
  | hm p a b =>
    obtain ⟨op, oa, ob⟩ := ok
    dsimp only [Dd.word, Dd.some]
    walk_at "w"
    refine ite_wf (by decide) ?_
    walk_at "w"
    refine ite_wf (by decide) ?_
    walk_at "w"
    refine ite_wt (by decide) ?_
    walk_at "w"
    refine wp_meth1 t (by decide) (fun Q' q' => by walk_at "w"; exact q') ?_
    walk_at "w"
    refine wp_tharm t op oa ob (fun i => (hn i).1) (fun hp hab S' t' f' => ?_) (fun hp => ?_) (fun hp hab => ?_)
    · simp only [due, hp, hab, if_true] at q
      exact q (by first | trivial | rfl) S' h t' f' (.inl rfl)
    · simp only [due, hp] at e
      exact e _ rfl (by first | trivial | rfl) (by decide)
    · simp only [due, hp, hab, if_true] at e
      exact e _ rfl (by first | trivial | rfl) (by decide)
  | rt p r =>
    dsimp only [Dd.word, Dd.some]
    walk_at "w"
    refine ite_wf (by decide) ?_
    walk_at "w"
    refine ite_wf (by decide) ?_
    walk_at "w"
    refine ite_wf (by decide) ?_
    walk_at "w"
    refine ite_wt (by decide) ?_
    walk_at "w"
    refine wp_meth1 t (by decide) (fun Q' q' => by walk_at "w"; exact q') ?_
    walk_at "w"
    refine wp_tright t ok (okr p r rfl) (fun hp S' t' f' => ?_) (fun hp => ?_)
    · simp only [due, hp, if_true] at q
      exact q (by first | trivial | rfl) S' h t' f' (.inl rfl)
    · simp only [due, hp] at e
      exact e _ rfl (by first | trivial | rfl) (by decide)
  | st p =>
    dsimp only [Dd.word, Dd.some]
    walk_at "w"
    refine ite_wf (by decide) ?_
    walk_at "w"
    refine ite_wf (by decide) ?_
    walk_at "w"
    refine ite_wf (by decide) ?_
    walk_at "w"
    refine ite_wf (by decide) ?_
    walk_at "w"
    refine ite_wt (by decide) ?_
    walk_at "w"
    refine wp_meth1 t (by decide) (fun Q' q' => by walk_at "w"; exact q') ?_
    walk_at "w"
    refine wp_tstrike t ok (fun i => (hn i).2) (fun hp S' t' f' => ?_) (fun hp => ?_)
    · simp only [due, hp, if_true] at q
      exact q (by first | trivial | rfl) S' h t' f' (.inl rfl)
    · simp only [due, hp] at e
      exact e _ rfl (by first | trivial | rfl) (by decide)
  | bl =>
    dsimp only [Dd.word, Dd.some]
    walk_at "w"
    refine ite_wf (by decide) ?_
    walk_at "w"
    refine ite_wf (by decide) ?_
    walk_at "w"
    refine ite_wf (by decide) ?_
    walk_at "w"
    refine ite_wf (by decide) ?_
    walk_at "w"
    refine ite_wf (by decide) ?_
    walk_at "w"
    refine wp_meth1 t (by decide) (fun Q' q' => by walk_at "w"; exact q') ?_
    walk_at "w"
    exact wp_tblank t fun S' t' f' => q rfl S' _ t' f' (.inr rfl)
end
abbrev es : List Str := ["Full", "NoPlace", "NoSign"]
theorem vo_isx {S : Sto} {Q : D → Prop} {e c : Str} {p : D} {b : Bool} (h : e ∈ es) (hb : isOf e c = b) (q : Q (.bl b)) : Wo (isxE es c (view S (.exn e p))) Q := by
  refine .of (d := .bl (isOf e c)) ?_ (by rw [hb]; exact q)
  show (if e ∈ es then _ else _) = _
  rw [if_pos h]
abbrev wds : List Str := ["files", "file", "chain", "book", "full", "place", "sign", "many", "days", "moment", "room", "hold", "twice", "nohold", "tape", "rack", "row", "lost"]
theorem split_w : Txt.split "files file chain book full place sign many days moment room hold twice nohold tape rack row lost" " " = wds := by decide +kernel
theorem wp_uword {c : Str} {S : Sto} {Q : D → Sto → Prop} {E : Px} (h : c ∈ es) (q : Q (.str (wordX c)) S) : Wp (d_uword [.exn c .non] S) Q E := by
  unfold d_uword
  refine wp_fnB (ρ := [some (.exn c .non), none, none]) rfl ?_
  unfold b_uword i_uword_1
  have h0 := h
  simp only [List.mem_cons, List.mem_nil_iff, or_false] at h
  rcases h with rfl | rfl | rfl
  all_goals
    walk_at "w"
    iterate 2
      first
        | refine vo_isx h0 (b := false) (by decide) ?_
        | refine vo_isx h0 (b := true) (by decide) ?_
      walk_at "w"
    iterate 8
      iterate 2
        first
          | refine vo_isx h0 (b := false) (by decide) ?_
          | refine vo_isx h0 (b := true) (by decide) ?_
        walk_at "w"
      refine vo_addL (by simp) ?_
      walk_at "w"
    refine wp_lsM ?_
    walk_at "w"
    refine ⟨rfl, ?_⟩
    walk_at "w"
    refine .of (d := .int 1) rfl ?_
    walk_at "w"
    refine ite_nd (fun h => absurd rfl h) (fun _ => ?_)
    walk_at "w"
    refine vo_isx h0 (b := true) (by decide) ?_
    walk_at "w"
    refine vo_split (by decide) (by decide) (by rw [split_w]; decide) ?_
    rw [split_w]
    walk_at "w"
    refine wp_lsM ?_
    walk_at "w"
    refine ⟨rfl, ?_⟩
    walk_at "w"
    first
      | refine .of (d := .int 4) rfl ?_
      | refine .of (d := .int 5) rfl ?_
      | refine .of (d := .int 6) rfl ?_
    walk_at "w"
    first
      | exact .of (d := .str "full") rfl (by rw [show wordX "Full" = "full" by decide] at q; exact q)
      | exact .of (d := .str "place") rfl (by rw [show wordX "NoPlace" = "place" by decide] at q; exact q)
      | exact .of (d := .str "sign") rfl (by rw [show wordX "NoSign" = "sign" by decide] at q; exact q)
section
variable {S : Sto} {n h : Nat} {num site room : Int} {hs : List Rc} {Q : D → Sto → Prop} {E : Px}
theorem wp_told {dd : Dd} (t : TapeAt S n h num site room hs) (ok : OkT hs dd) (hz : hs.length ≤ 1000) (hr : ∀ r ∈ hs, r.2.length ≤ 1000 ∧ r.1.2.length ≤ 1000)
    (q : ∀ S' h', TapeAt S' n h' num site room (due room hs dd).1 → Fr n h S S' → (h' = h ∨ h' = S.length) → Q (toldD (due room hs dd).2.1 (due room hs dd).2.2) S') : Wp (d_utape_told [.ref n, .str dd.word, dd.some] S) Q E := by
  unfold d_utape_told
  refine wp_fnB (ρ := [some (.ref n), some (.str dd.word), some dd.some, none, none, none]) rfl ?_
  unfold b_utape_told
  walk_at "w"
  refine ws_tryE ?_
  walk_at "w"
  refine wp_deed t ok hz hr (fun ho S' h' t' f' hh => ?_) (fun c hc he hcs => ?_)
  · walk_at "w"
    have q2 := q S' h' t' f' hh
    rw [ho] at q2
    exact q2
  · refine ⟨rfl, hcs, by show 5 < 6; omega, ?_⟩
    walk_at "w"
    refine .of (d := .bl false) rfl ?_
    walk_at "w"
    refine wp_uword hcs ?_
    walk_at "w"
    have q2 := q S h (by rw [he]; exact t) .refl (.inl rfl)
    rw [hc] at q2
    exact q2
end
end C37
set_option Elab.async false
set_option linter.all false
set_option maxRecDepth 100000
set_option maxHeartbeats 4000000
namespace C37
open DL PySem LS
local macro_rules | `(tactic| walk_at "w1") => `(tactic| with_reducible first
  | (refine ws_then ?_; try with_reducible dsimp only [List.set_cons_zero, List.set_cons_succ]) | refine ws_seq ?_ | refine ws_asg ?_ | refine ws_expr ?_ | refine ws_ret ?_ | refine ws_if ?_ | refine ws_asgT ?_ | refine ws_skip ?_ | refine ws_retN ?_ | refine ws_brk ?_ | refine ws_cont ?_ | refine ws_thenR ?_ | refine ws_thenB ?_ | refine ws_thenC ?_ | refine fq_rt ?_ | refine fq_nx ?_ | refine un_nx ?_ | refine un_ct ?_ | refine un_bk ?_ | refine un_rt ?_ | refine ws_loopN ?_
  | (refine ws_loopC (ρ1 := ?r) ?h ?q; (case h => with_unfolding_all rfl); try with_reducible dsimp only [List.set_cons_zero, List.set_cons_succ])
  | refine wp_c ?_ | refine wp_op2 ?_ | refine wp_fn ?_ | refine wp_cons ?_ | refine wp_nil ?_ | refine wp_call ?_ | refine wp_op1 ?_
  | (refine wp_var (d := ?d) ?h ?q; (case h => with_unfolding_all rfl))
  | (refine ws_aug (d := ?d) ?h ?q; (case h => with_unfolding_all rfl))
  | refine wp_tup ?_ | refine wp_lst ?_ | refine wp_lstM ?_ | refine wp_listM ?_
  | refine wp_sl0 ?_ | refine wp_sl1 ?_ | refine wp_sl2 ?_ | refine wp_sl3 ?_
  | refine wp_tval ?_ | refine wp_tnot ?_ | refine wp_tand ?_ | refine wp_tor ?_ | refine wp_tyes ?_ | refine wp_and ?_ | refine wp_or ?_ | refine wp_not ?_ | refine wp_ifx ?_ | refine wp_chain ?_ | refine wp_meth ?_ | refine wp_meth0 ?_
  | refine wp_isi ?_ | refine wp_isis ?_ | refine wp_repr ?_ | refine wp_maxD ?_ | refine wi_rng3 ?_
  | refine wp_str1 ?_ | refine ws_par ?_ | refine wp_dnew ?_ | refine wp_get2 ?_ | refine wp_reprQ ?_ | refine wp_fnK ?_ | refine wi_valsI ?_ | refine wi_itemsI ?_ | refine ws_augI ?_
  | refine wi_seq ?_ | refine wi_rng1 ?_ | refine wi_rng2 ?_ | refine wi_zip2 ?_ | refine wi_zipS ?_
  | (refine wp_fnB (ρ := ?ρ) ?he ?_; (case he => (simp only [List.map_cons, List.map_nil, List.length_cons, List.length_nil, List.replicate, List.cons_append, List.nil_append, Nat.reduceAdd, Nat.reduceSub]; rfl))))
local macro_rules | `(tactic| walk_at "w2") => `(tactic| ((with_reducible refine wo_id ?_); with_reducible first
  | refine vo_sub ?_ | refine vo_add ?_ | refine vo_lt ?_ | refine vo_le ?_ | refine vo_gt ?_ | refine vo_ge ?_ | refine vo_eq ?_ | refine vo_ne ?_ | refine vo_eqS ?_ | refine vo_neS ?_ | refine vo_eqB ?_ | refine vo_neB ?_ | refine vo_neg ?_ | refine vo_slT ?_ | refine vo_slL ?_ | refine vo_slS ?_ | refine vo_lenT ?_ | refine vo_lenL ?_ | refine vo_lenS ?_ | refine vo_revT ?_ | refine vo_revL ?_ | refine vo_min ?_ | refine vo_max ?_ | refine vo_tupL ?_ | refine vo_tupT ?_ | refine vo_lisL ?_ | refine vo_lisT ?_
  | refine vo_igAdd ?_ | refine vo_igMulR (by omega) ?_ | refine vo_igMulL (by omega) ?_ | refine vo_mod (by omega) ?_ | refine vo_div (by omega) ?_ | refine vo_mulR (by omega) ?_ | refine vo_mulL (by omega) ?_
  | refine vo_ixL0 ?_ | refine vo_ixL1 ?_ | refine vo_ixL2 ?_ | refine vo_ixL3 ?_ | refine vo_ixL4 ?_ | refine vo_ixL5 ?_ | refine vo_ixL6 ?_ | refine vo_ixT0 ?_ | refine vo_ixT1 ?_ | refine vo_ixT2 ?_ | refine vo_ixT3 ?_ | refine vo_ixT4 ?_ | refine vo_ixT5 ?_ | refine vo_ixT6 ?_
  | refine vo_starts ?_ | refine vo_isBN ?_ | refine vo_isSN ?_ | refine vo_isLN ?_ | refine vo_isDN ?_ | refine vo_slX (by first | assumption | omega) ?_ | refine vo_lenX (by first | assumption | omega) ?_ | refine vo_addS (by first | assumption | omega) ?_
  | refine vo_inT ?_ | refine vo_ninT ?_ | refine vo_inL ?_ | refine vo_ninL ?_ | refine vo_inI ?_ | refine vo_ninI ?_ | refine vo_sortI (by first | assumption | omega) ?_ | refine vo_sortL ?_ | refine vo_lenI ?_ | refine vo_lt3 ?_ | refine vo_isNN ?_ | refine vo_is3N ?_ | refine vo_isTN ?_ | refine vo_isIN ?_ | refine vo_igAddI ?_ | refine vo_ixI (by assumption) ?_
  | refine vo_vwD1 (by assumption) ?_ | refine vo_vwDc (by assumption) ?_
  | refine wo_vw1 (by assumption) ?_ | refine wo_vw2 (by assumption) ?_ | refine vo_vwc (by assumption) ?_
  | (refine vo_isi (c := ?c) ?h ?q; (case h => with_unfolding_all rfl)) | (refine vo_isis (c := ?c) ?h ?q; (case h => with_unfolding_all rfl))))
local macro_rules | `(tactic| walk_at "w3") => `(tactic| first
  | with_reducible refine nb_ff ?_ | with_reducible refine nb_tt ?_ | with_reducible refine nb_ft ?_ | with_reducible refine nb_tf ?_
  | with_reducible refine ite_f ?_ | with_reducible refine ite_nt ?_ | with_reducible refine ite_nf ?_ | with_reducible refine ite_t ?_
  | ((with_reducible refine ex_id ?_); refine ⟨_, rfl, ?_⟩) | ((with_reducible refine and_id ?_); refine ⟨Nat.le_of_ble_eq_true rfl, ?_⟩))
local macro_rules | `(tactic| walk_at "w") => `(tactic| repeat (first | walk_at "w1" | walk_at "w2" | walk_at "w3"))
structure OkRc (r : Rc) : Prop where
  s : r.1.1 = "book" ∨ r.1.1 = "piece" ∨ r.1.1 = "struck"
  n : r.1.2.length ≤ 5
  i : ∀ x ∈ r.1.2, 0 ≤ x ∧ x ≤ 1000
  l : r.2.length ≤ 12
  r : Row r.2
def labP (l : Str × List Int) : PyData := .tuple (.str l.1 :: l.2.map .int)
def recP (r : Rc) : PyData := .tuple [labP r.1, .tuple (r.2.map .int)]
theorem qd_rec {rr : Nat → Option PyData} {r : Rc} (h : OkRc r) : QD rr (recD r) (recP r) 22 2 := by
  have hs : (reprText r.1.1).length ≤ 14 := by
    rcases h.s with e | e | e <;> rw [e] <;> decide +kernel
  have q1 : QD rr (labD r.1) (labP r.1) 7 1 := (QD.tup (QDs.cons (QD.str hs) (QDs.ints fun x hx => by have := h.i x hx; omega))).mono (by have := h.n; omega) (by omega)
  have q2 : QD rr (numD r.2) (.tuple (r.2.map .int)) 13 1 := (QD.row h.r).mono (by have := h.l; omega) (by omega)
  exact (QD.tup (QDs.cons q1 (QDs.cons q2 QDs.nil))).mono (by omega) (by omega)
theorem qd_held {S : Sto} {g : Nat} {hs : List Rc} (e : S[g]? = some (some (.lst (heldD hs)))) (h : ∀ r ∈ hs, OkRc r) (hz : hs.length ≤ 100) : QD (rdQ S) (.ref g) (.list (hs.map recP)) 3000 3 :=
  (QD.refL e (QDs.map recD recP 22 2 hs fun r hr => qd_rec (h r hr))).mono (by omega) (by omega)
theorem load_le : ∀ hs : List Rc, (∀ r ∈ hs, OkRc r) → 0 ≤ load hs ∧ load hs ≤ 13 * hs.length
  | [], _ => ⟨by simp [load], by simp [load]⟩
  | r :: hs, h => by
    obtain ⟨i1, i2⟩ := load_le hs fun x hx => h x (by simp [hx])
    have := (h r (by simp)).l
    have e : load (r :: hs) = (r.2.length : Int) + 1 + load hs := by unfold load; simp
    rw [e, List.length_cons]
    omega
section
variable {S : Sto} {n h g : Nat} {num site room : Int} {hs : List Rc} {Q : D → Sto → Prop} {E : Px}
theorem TapeAt.ext {S' : Sto} (t : TapeAt S n h num site room hs) (e : Ext S S') : TapeAt S' n h num site room hs := ⟨e.at_ t.o, e.at_ t.l⟩
theorem wp_has (t : TapeAt S n h num site room hs) (hg : S[g]? = some (some (.lst (heldD hs)))) (ho : ∀ r ∈ hs, OkRc r) (hz : hs.length ≤ 100) (b1 : -1000000000000000000 ≤ num ∧ num ≤ 1000000000000000000) (b2 : -1000000000000000000 ≤ site ∧ site ≤ 1000000000000000000) (b3 : -1000000000000000000 ≤ room ∧ room ≤ 1000000000000000000)
    (q : ∀ S', Ext S S' → Q (.bl true) S') : Wp (d_u_has [.ref n, .ref g, .lst [.int num, .int site, .int room]] S) Q E := by
  have hl := t.l
  unfold d_u_has
  refine wp_fnB (ρ := [some (.ref n), some (.ref g), some (.lst [.int num, .int site, .int room]), none, none, none, none]) rfl ?_
  unfold b_u_has i_u_has_1 i_u_has_2 i_u_has_3
  walk_at "w"
  refine wp_meth1 t (by decide) (fun Q' q' => by walk_at "w"; exact q') ?_
  unfold d_Tape_records b_Tape_records
  walk_at "w"
  refine wp_held t (fun Q' q' => by walk_at "w"; exact q') ?_
  walk_at "w"
  have vL : view S (.ref h) = .lst (heldD hs) := by unfold view; simp only [hl]
  refine ⟨heldD hs, by show listD [view S (.ref h)] = _; rw [vL]; rfl, ?_⟩
  have x1 : Ext S (S ++ [some (.lst (heldD hs))]) := .app
  have f1 : (S ++ [some (Ob.lst (heldD hs))])[S.length]? = some (some (.lst (heldD hs))) := app_at
  generalize S ++ [some (Ob.lst (heldD hs))] = S1 at x1 f1
  have g1 := x1.at_ hg
  walk_at "w"
  rw [view_at f1]
  refine .of (d := .bl true) rfl ?_
  walk_at "w"
  refine ex_q (qd_held f1 ho hz) ?_
  walk_at "w"
  refine ex_q (qd_held g1 ho hz) ?_
  walk_at "w"
  refine ite_nd (fun z => absurd rfl z) (fun _ => ?_)
  walk_at "w"
  refine ⟨by rw [lst_at f1]; rfl, ?_⟩
  walk_at "w"
  refine ⟨_, _, _, f1, gApp (by rw [held_len]; omega), ?_⟩
  refine set_gen f1 fun S2 a2 o2 => ?_
  have x2 : Ext S S2 := x1.only o2 (Nat.le_refl _)
  have g2 := x2.at_ hg
  have t2 := t.ext x2
  walk_at "w"
  refine wp_sumL rfl g2 ?_ ?_
  · intro S' Q' q'
    unfold c_u_has_1
    refine wp_compM1 hs recD (fun r => .int ((r.2.length : Int) + 1)) (by omega) ?_
    walk_at "w"
    refine ⟨heldD hs, .inr rfl, rfl, fun r hr' => ⟨_, rfl, ?_⟩, ?_⟩
    · unfold ce_u_has_1
      walk_at "w"
      exact ⟨by rw [List.length_map], rfl⟩
    · rw [List.map_map] at q'
      exact q'
  walk_at "w"
  obtain ⟨l0, l1⟩ := load_le hs ho
  have q2 : ∀ {rr : Nat → Option PyData}, QD rr (.lst [.int (load hs), .int hs.length]) (.list [.int (load hs), .int hs.length]) 10 3 := fun {rr} => (QD.lst (QDs.cons (QD.int (by omega)) (QDs.cons (QD.int (by omega)) QDs.nil))).mono (by omega) (by omega)
  refine wp_meth1 t2 (by decide) (fun Q' q' => by walk_at "w"; exact q') ?_
  unfold d_Tape_load b_Tape_load
  walk_at "w"
  refine wp_tf t2 lk_used (fun Q' q' => by walk_at "w"; exact q') ?_
  walk_at "w"
  refine wp_lenO ?_
  walk_at "w"
  refine ⟨n, _, rfl, t2.o, ?_⟩
  have hl2 := t2.l
  unfold d_Tape___len__ b_Tape___len__
  walk_at "w"
  refine wp_held t2 (fun Q' q' => by walk_at "w"; exact q') ?_
  walk_at "w"
  rw [held_len]
  refine ⟨by omega, by omega, ?_⟩
  walk_at "w"
  refine ⟨(q2 (rr := fun _ => none)).s, Nat.le_trans (q2 (rr := fun _ => none)).w (by omega), Nat.le_trans (q2 (rr := fun _ => none)).h (by omega), ?_⟩
  walk_at "w"
  rw [held_len]
  refine ⟨(q2 (rr := fun _ => none)).s, Nat.le_trans (q2 (rr := fun _ => none)).w (by omega), Nat.le_trans (q2 (rr := fun _ => none)).h (by omega), ?_⟩
  walk_at "w"
  refine ite_nd (fun z => absurd rfl z) (fun _ => ?_)
  walk_at "w"
  have q3 : ∀ {rr : Nat → Option PyData}, QD rr (.lst [.int num, .int site, .int room]) (.list [.int num, .int site, .int room]) 10 3 := fun {rr} => (QD.lst (QDs.cons (QD.int (by omega)) (QDs.cons (QD.int (by omega)) (QDs.cons (QD.int (by omega)) QDs.nil)))).mono (by omega) (by omega)
  refine wp_tf t2 lk_number (fun Q' q' => by walk_at "w"; exact q') ?_
  walk_at "w"
  refine wp_tf t2 lk_site (fun Q' q' => by walk_at "w"; exact q') ?_
  walk_at "w"
  refine wp_tf t2 lk_room (fun Q' q' => by walk_at "w"; exact q') ?_
  walk_at "w"
  refine ⟨(q3 (rr := fun _ => none)).s, Nat.le_trans (q3 (rr := fun _ => none)).w (by omega), Nat.le_trans (q3 (rr := fun _ => none)).h (by omega), ?_⟩
  walk_at "w"
  refine ⟨(q3 (rr := fun _ => none)).s, Nat.le_trans (q3 (rr := fun _ => none)).w (by omega), Nat.le_trans (q3 (rr := fun _ => none)).h (by omega), ?_⟩
  walk_at "w"
  refine ite_nd (fun z => absurd rfl z) (fun _ => ?_)
  walk_at "w"
  refine wp_meth1 t2 (by decide) (fun Q' q' => by walk_at "w"; exact q') ?_
  walk_at "w"
  refine wp_held t2 (fun Q' q' => by walk_at "w"; exact q') ?_
  walk_at "w"
  have vL2 : view S2 (.ref h) = .lst (heldD hs) := by unfold view; simp only [hl2]
  refine ⟨heldD hs, by show listD [view S2 (.ref h)] = _; rw [vL2]; rfl, ?_⟩
  have x3 : Ext S2 (S2 ++ [some (.lst (heldD hs))]) := .app
  have f3 : (S2 ++ [some (Ob.lst (heldD hs))])[S2.length]? = some (some (.lst (heldD hs))) := app_at
  have g3 := x3.at_ g2
  refine fq_rt ?_
  refine ex_q (qd_held f3 ho hz) ?_
  walk_at "w"
  refine ex_q (qd_held g3 ho hz) ?_
  walk_at "w"
  rw [decide_eq_true rfl]
  exact q _ (x2.trans x3)
end
end C37
set_option Elab.async false
set_option linter.all false
set_option maxRecDepth 100000
set_option maxHeartbeats 4000000
namespace C37
open DL PySem LS LU
local macro_rules | `(tactic| walk_at "w1") => `(tactic| with_reducible first
  | (refine ws_then ?_; try with_reducible dsimp only [List.set_cons_zero, List.set_cons_succ]) | refine ws_seq ?_ | refine ws_asg ?_ | refine ws_expr ?_ | refine ws_ret ?_ | refine ws_if ?_ | refine ws_asgT ?_ | refine ws_skip ?_ | refine ws_retN ?_ | refine ws_brk ?_ | refine ws_cont ?_ | refine ws_thenR ?_ | refine ws_thenB ?_ | refine ws_thenC ?_ | refine fq_rt ?_ | refine fq_nx ?_ | refine un_nx ?_ | refine un_ct ?_ | refine un_bk ?_ | refine un_rt ?_ | refine ws_loopN ?_
  | (refine ws_loopC (ρ1 := ?r) ?h ?q; (case h => with_unfolding_all rfl); try with_reducible dsimp only [List.set_cons_zero, List.set_cons_succ])
  | refine wp_c ?_ | refine wp_op2 ?_ | refine wp_fn ?_ | refine wp_cons ?_ | refine wp_nil ?_ | refine wp_call ?_ | refine wp_op1 ?_
  | (refine wp_var (d := ?d) ?h ?q; (case h => with_unfolding_all rfl))
  | (refine ws_aug (d := ?d) ?h ?q; (case h => with_unfolding_all rfl))
  | refine wp_tup ?_ | refine wp_lst ?_ | refine wp_lstM ?_ | refine wp_listM ?_
  | refine wp_sl0 ?_ | refine wp_sl1 ?_ | refine wp_sl2 ?_ | refine wp_sl3 ?_
  | refine wp_tval ?_ | refine wp_tnot ?_ | refine wp_tand ?_ | refine wp_tor ?_ | refine wp_tyes ?_ | refine wp_and ?_ | refine wp_or ?_ | refine wp_not ?_ | refine wp_ifx ?_ | refine wp_chain ?_ | refine wp_meth ?_ | refine wp_meth0 ?_
  | refine wp_isi ?_ | refine wp_isis ?_ | refine wp_repr ?_ | refine wp_maxD ?_ | refine wi_rng3 ?_
  | refine wp_str1 ?_ | refine ws_par ?_ | refine wp_dnew ?_ | refine wp_get2 ?_ | refine wp_reprQ ?_ | refine wp_fnK ?_ | refine wi_valsI ?_ | refine wi_itemsI ?_ | refine ws_augI ?_
  | refine wi_seq ?_ | refine wi_rng1 ?_ | refine wi_rng2 ?_ | refine wi_zip2 ?_ | refine wi_zipS ?_
  | (refine wp_fnB (ρ := ?ρ) ?he ?_; (case he => (simp only [List.map_cons, List.map_nil, List.length_cons, List.length_nil, List.replicate, List.cons_append, List.nil_append, Nat.reduceAdd, Nat.reduceSub]; rfl))))
local macro_rules | `(tactic| walk_at "w2") => `(tactic| ((with_reducible refine wo_id ?_); with_reducible first
  | refine vo_sub ?_ | refine vo_add ?_ | refine vo_lt ?_ | refine vo_le ?_ | refine vo_gt ?_ | refine vo_ge ?_ | refine vo_eq ?_ | refine vo_ne ?_ | refine vo_eqS ?_ | refine vo_neS ?_ | refine vo_eqB ?_ | refine vo_neB ?_ | refine vo_neg ?_ | refine vo_slT ?_ | refine vo_slL ?_ | refine vo_slS ?_ | refine vo_lenT ?_ | refine vo_lenL ?_ | refine vo_lenS ?_ | refine vo_revT ?_ | refine vo_revL ?_ | refine vo_min ?_ | refine vo_max ?_ | refine vo_tupL ?_ | refine vo_tupT ?_ | refine vo_lisL ?_ | refine vo_lisT ?_
  | refine vo_igAdd ?_ | refine vo_igMulR (by omega) ?_ | refine vo_igMulL (by omega) ?_ | refine vo_mod (by omega) ?_ | refine vo_div (by omega) ?_ | refine vo_mulR (by omega) ?_ | refine vo_mulL (by omega) ?_
  | refine vo_ixL0 ?_ | refine vo_ixL1 ?_ | refine vo_ixL2 ?_ | refine vo_ixL3 ?_ | refine vo_ixL4 ?_ | refine vo_ixL5 ?_ | refine vo_ixL6 ?_ | refine vo_ixT0 ?_ | refine vo_ixT1 ?_ | refine vo_ixT2 ?_ | refine vo_ixT3 ?_ | refine vo_ixT4 ?_ | refine vo_ixT5 ?_ | refine vo_ixT6 ?_
  | refine vo_starts ?_ | refine vo_isBN ?_ | refine vo_isSN ?_ | refine vo_isLN ?_ | refine vo_isDN ?_ | refine vo_slX (by first | assumption | omega) ?_ | refine vo_lenX (by first | assumption | omega) ?_ | refine vo_addS (by first | assumption | omega) ?_
  | refine vo_inT ?_ | refine vo_ninT ?_ | refine vo_inL ?_ | refine vo_ninL ?_ | refine vo_inI ?_ | refine vo_ninI ?_ | refine vo_sortI (by first | assumption | omega) ?_ | refine vo_sortL ?_ | refine vo_lenI ?_ | refine vo_lt3 ?_ | refine vo_isNN ?_ | refine vo_is3N ?_ | refine vo_isTN ?_ | refine vo_isIN ?_ | refine vo_igAddI ?_ | refine vo_ixI (by assumption) ?_
  | refine vo_vwD1 (by assumption) ?_ | refine vo_vwDc (by assumption) ?_
  | refine wo_vw1 (by assumption) ?_ | refine wo_vw2 (by assumption) ?_ | refine vo_vwc (by assumption) ?_
  | (refine vo_isi (c := ?c) ?h ?q; (case h => with_unfolding_all rfl)) | (refine vo_isis (c := ?c) ?h ?q; (case h => with_unfolding_all rfl))))
local macro_rules | `(tactic| walk_at "w3") => `(tactic| first
  | with_reducible refine nb_ff ?_ | with_reducible refine nb_tt ?_ | with_reducible refine nb_ft ?_ | with_reducible refine nb_tf ?_
  | with_reducible refine ite_f ?_ | with_reducible refine ite_nt ?_ | with_reducible refine ite_nf ?_ | with_reducible refine ite_t ?_
  | ((with_reducible refine ex_id ?_); refine ⟨_, rfl, ?_⟩) | ((with_reducible refine and_id ?_); refine ⟨Nat.le_of_ble_eq_true rfl, ?_⟩))
local macro_rules | `(tactic| walk_at "w") => `(tactic| repeat (first | walk_at "w1" | walk_at "w2" | walk_at "w3"))
theorem wo_ixAll {xs : List D} {i : Int} {Q : D → Prop} (h : 0 ≤ i ∧ i < xs.length) (q : ∀ d ∈ xs, Q d) : Wo (ixD (.lst xs) (.int i)) Q := by
  refine .of (d := xs[i.toNat]'(by omega)) ?_ (q _ (List.getElem_mem _))
  show L2.atI xs i = _
  rw [atI_in h.1 h.2]
section
variable {S : Sto} {f g : Nat} {k : Int} {hs : List Rc} {Q : D → Sto → Prop} {E : Px}
theorem wp_urow (j : JarS S f k) (hk : k ≤ 200000000) (q : ∀ r S', Row r → r.length ≤ 12 → JarS S' f (k + 20) → Only f S S' → Q (numD r) S') : Wp (d_urow [.ref f, .int 12] S) Q E := by
  unfold d_urow b_urow c_urow_1
  walk_at "w"
  refine wp_compG D.int ?_
  walk_at "w"
  refine wp_udraw j (by omega) (by omega) fun v1 S1 a1 b1 j1 o1 => ?_
  refine ⟨_, rfl, by omega, ?_⟩
  refine ⟨fun i as S' => Row as ∧ JarS S' f (k + 1 + i) ∧ Only f S1 S', by rw [iRng_len]; omega, ⟨fun x hx => by simp at hx, j1.mono (by omega), .refl⟩, ?_, ?_⟩
  · rintro i d as S4 hj hal ⟨hr, p4, o4⟩
    obtain ⟨rfl, hlt⟩ := iRng_at hj
    refine ⟨_, rfl, ?_⟩
    unfold ce_urow_1
    walk_at "w"
    refine wp_udraw p4 (by omega) (by omega) fun v S5 v0 v1 p5 o5 => ?_
    walk_at "w"
    exact ⟨hr.app (fun x hx => by simp at hx; omega), p5.mono (by omega), o4.trans o5⟩
  rintro as S4 hal ⟨hr, p4, o4⟩
  rw [iRng_len] at hal p4
  walk_at "w"
  exact q as S4 hr (by omega) (p4.mono (by omega)) (o1.trans o4)
theorem wp_ulabel {sh : Int} (j : JarS S f k) (hk : k ≤ 200000000) (hs : 0 ≤ sh ∧ sh ≤ 100) (q : ∀ (l : Str × List Int) S', (l.1 = "book" ∨ l.1 = "piece" ∨ l.1 = "struck") → l.2.length ≤ 5 → (∀ x ∈ l.2, 0 ≤ x ∧ x ≤ 1000) → JarS S' f (k + 10) → Only f S S' → Q (labD l) S') : Wp (d_ulabel [.ref f, .int sh] S) Q E := by
  unfold d_ulabel b_ulabel
  walk_at "w"
  refine wp_udraw j (by omega) (by omega) fun v1 S1 a1 b1 j1 o1 => ?_
  walk_at "w"
  refine wo_ixAll ⟨by omega, by simp; omega⟩ fun d hd => ?_
  have hd2 : ∃ s : Str, d = .str s ∧ (s = "book" ∨ s = "piece" ∨ s = "struck") := by
    simp only [List.mem_cons, List.mem_nil_iff, or_false] at hd
    rcases hd with rfl | rfl
    · exact ⟨_, rfl, .inl rfl⟩
    · exact ⟨_, rfl, .inr (.inl rfl)⟩
  obtain ⟨s, rfl, hss⟩ := hd2
  walk_at "w"
  refine wp_udraw j1 (by omega) (by omega) fun v2 S2 a2 b2 j2 o2 => ?_
  walk_at "w"
  refine wp_udraw j2 (by omega) (by omega) fun v3 S3 a3 b3 j3 o3 => ?_
  walk_at "w"
  refine ⟨_, _, rfl, ?_⟩
  walk_at "w"
  refine wp_udraw j3 (by omega) (by omega) fun v4 S4 a4 b4 j4 o4 => ?_
  walk_at "w"
  refine wp_udraw j4 (by omega) (by omega) fun v5 S5 a5 b5 j5 o5 => ?_
  walk_at "w"
  refine q (s, [v2, v3, sh, v4, v5]) S5 hss (by simp) ?_ (j5.mono (by omega)) ((((o1.trans o2).trans o3).trans o4).trans o5)
  intro x hx
  simp only [List.mem_cons, List.mem_nil_iff, or_false] at hx
  omega
/-- the deed that is drawn -/
structure NewOk (hs : List Rc) (dd : Dd) : Prop where
  t : OkT hs dd
  w : ∀ l r, dd = .wr l r → OkRc (l, r)
  r : ∀ p r, dd = .rt p r → Row r ∧ r.length ≤ 12
theorem sds_held : ∀ hs : List Rc, (∀ r ∈ hs, OkRc r) → sds (heldD hs) = true ∧ dpDs (heldD hs) ≤ 60
  | [], _ => ⟨rfl, by simp [heldD, dpDs]⟩
  | r :: hs, ho => by
    obtain ⟨i1, i2⟩ := sds_held hs fun x hx => ho x (by simp [hx])
    have so : PyData.strOk r.1.1 = true := by
      rcases (ho r (by simp)).s with e | e | e <;> rw [e] <;> decide +kernel
    have h1 : ∀ xs : List Int, sds (xs.map D.int) = true ∧ dpDs (xs.map D.int) ≤ 1 := by
      intro xs
      induction xs with
      | nil => exact ⟨rfl, by simp [dpDs]⟩
      | cons x xs ih => exact ⟨by simp only [List.map_cons, sds, sd, ih.1, Bool.and_self], by simp only [List.map_cons, dpDs, dpD]; omega⟩
    obtain ⟨a1, a2⟩ := h1 r.1.2
    obtain ⟨c1, c2⟩ := h1 r.2
    have e : heldD (r :: hs) = recD r :: heldD hs := rfl
    rw [e]
    refine ⟨?_, ?_⟩
    · simp only [sds, sd, a1, c1, i1, so, Bool.and_self]
    · simp only [dpDs, dpD]
      omega
abbrev oddL (m : Int) : List D := [.int (-1), .bl true, .bl false, .non, .str "0", .tup [.int 0], .lst [.int 0], .int 1000000000000000000000000000000000000000, .int m]
theorem odd_all {m : Int} (hm : 0 ≤ m ∧ m ≤ 1000) : ∀ d ∈ oddL m, Odd d := by
  intro d hd
  simp only [List.mem_cons, List.mem_nil_iff, or_false] at hd
  rcases hd with rfl | rfl | rfl | rfl | rfl | rfl | rfl | rfl | rfl
  · exact .int (by omega) (by omega)
  · exact .bl _
  · exact .bl _
  · exact .non
  · exact .str
  · exact .tup
  · exact .lst
  · exact .int (by omega) (by omega)
  · exact .int (by omega) (by omega)
theorem wp_turn (j : JarS S f k) (hk : k ≤ 100000000) (hg : S[g]? = some (some (.lst (heldD hs)))) (hfg : g ≠ f) (hz : hs.length ≤ 100) (ho : ∀ r ∈ hs, OkRc r)
    (q : ∀ dd S', NewOk hs dd → JarS S' f (k + 100) → Only f S S' → Q (.tup [.str dd.word, dd.some]) S') : Wp (d_utape_turn [.ref f, .ref g] S) Q noX := by
  have hn : ∀ i, (nth hs i).2.length ≤ 12 := fun i => by
    unfold nth
    rw [List.getD_eq_getElem?_getD]
    cases e : hs[i]? with
    | none => exact Nat.zero_le _
    | some r => exact (ho r (List.mem_of_getElem? e)).l
  obtain ⟨s1, s2⟩ := sds_held hs ho
  unfold d_utape_turn
  refine wp_fnB (ρ := [some (.ref f), some (.ref g), none, none, none, none, none, none, none]) rfl ?_
  unfold b_utape_turn
  refine ws_mid (fun fl S1 => fl = .nx [some (.ref f), some (.ref g), some (.lst (oddL hs.length)), none, none, none, none, none, none] ∧ S1 = S) ?_ ?_
  · walk_at "w"
    refine .of (d := .int 1000000000000000000000000000000000000000) rfl ?_
    walk_at "w"
    rw [held_len]
    exact ⟨rfl, rfl⟩
  rintro fl S1 ⟨rfl, rfl⟩
  have odd := odd_all (m := hs.length) ⟨by omega, by omega⟩
  generalize hL : oddL (hs.length : Int) = L at odd
  have hLn : L.length = 9 := by rw [← hL]; rfl
  refine ws_then ?_
  refine ws_mid (fun fl S2 => ∃ p, fl = .nx [some (.ref f), some (.ref g), some (.lst L), some p, none, none, none, none, none] ∧ Odd p ∧ JarS S2 f (k + 1) ∧ Only f S1 S2) ?_ ?_
  · walk_at "w"
    refine vo_neNil s1 s2 ?_
    refine ⟨_, rfl, fun hb => ?_, fun hb => ?_⟩
    · walk_at "w"
      rw [held_len]
      have hp : 0 < hs.length := by
        cases hs with
        | nil => cases hb
        | cons r hs => simp
      refine wp_udraw j (by omega) ⟨by omega, by omega⟩ fun v S2 a2 b2 j2 o2 => ?_
      walk_at "w"
      exact ⟨.int (by omega) (by omega), j2, o2⟩
    · walk_at "w"
      exact ⟨.int (by omega) (by omega), j.mono (by omega), .refl⟩
  rintro fl S2 ⟨p, rfl, op, j2, o2⟩
  walk_at "w"
  refine wp_udraw j2 (by omega) (by omega) fun w S3 a3 b3 j3 o3 => ?_
  have o3 := o2.trans o3
  unfold i_utape_turn_1
  walk_at "w"
  refine ite_d (fun hw => ?_) (fun hw => ?_)
  · walk_at "w"
    refine wp_udraw j3 (by omega) (by omega) fun v4 S4 a4 b4 j4 o4 => ?_
    walk_at "w"
    refine wp_ulabel j4 (by omega) ⟨by omega, by omega⟩ fun l S5 l1 l2 l3 j5 o5 => ?_
    walk_at "w"
    refine wp_urow j5 (by omega) fun r S6 r1 r2 j6 o6 => ?_
    walk_at "w"
    refine q (.wr l r) S6 ⟨⟨trivial, fun _ _ z => nomatch z⟩, fun _ _ z => ?_, fun _ _ z => nomatch z⟩ (j6.mono (by omega)) (((o3.trans o4).trans o5).trans o6)
    cases z
    exact ⟨l1, l2, l3, r2, r1⟩
  have plain : ∀ dd : Dd, OkDd dd → (∀ l r, dd ≠ .wr l r) → (∀ p r, dd ≠ .rt p r) → NewOk hs dd := fun dd h1 h2 h3 => ⟨⟨h1, fun p r e => absurd e (h3 p r)⟩, fun l r e => absurd e (h2 l r), fun p r e => absurd e (h3 p r)⟩
  walk_at "w"
  refine ws_midT (fun fl S4 => (fl = .nx [some (.ref f), some (.ref g), some (.lst L), some p, some (.int w), none, none, none, none] ∨ fl = .rt (.tup [.str "blank", .tup []])) ∧ JarS S4 f (k + 3) ∧ Only f S1 S4) ?_ ?_
  · unfold i_utape_turn_2
    walk_at "w"
    refine ite_d (fun _ => ?_) (fun _ => ?_)
    · walk_at "w"
      refine wp_udraw j3 (by omega) (by omega) fun v S4 a4 b4 j4 o4 => ?_
      walk_at "w"
      refine ite_d (fun _ => ?_) (fun _ => ?_)
      · walk_at "w"
        exact ⟨.inr rfl, j4.mono (by omega), o3.trans o4⟩
      · walk_at "w"
        exact ⟨.inl rfl, j4.mono (by omega), o3.trans o4⟩
    · walk_at "w"
      exact ⟨.inl rfl, j3.mono (by omega), o3⟩
  rintro fl S4 ⟨rfl | rfl, j4, o4⟩
  rotate_left
  · walk_at "w"
    exact q .bl S4 (plain .bl trivial (fun _ _ z => nomatch z) (fun _ _ z => nomatch z)) (j4.mono (by omega)) o4
  walk_at "w"
  refine ws_midT (fun fl S5 => ∃ p, fl = .nx [some (.ref f), some (.ref g), some (.lst L), some p, some (.int w), none, none, none, none] ∧ Odd p ∧ JarS S5 f (k + 5) ∧ Only f S1 S5) ?_ ?_
  · unfold i_utape_turn_3
    walk_at "w"
    refine wp_udraw j4 (by omega) (by omega) fun v S5 a5 b5 j5 o5 => ?_
    walk_at "w"
    refine ite_d (fun _ => ?_) (fun _ => ?_)
    · walk_at "w"
      refine wp_udraw j5 (by omega) (by omega) fun v S6 a6 b6 j6 o6 => ?_
      walk_at "w"
      refine wo_ixAll ⟨by omega, by omega⟩ fun d hd => ?_
      walk_at "w"
      exact ⟨odd d hd, j6.mono (by omega), (o4.trans o5).trans o6⟩
    · walk_at "w"
      exact ⟨op, j5.mono (by omega), o4.trans o5⟩
  rintro fl S5 ⟨p, rfl, op, j5, o5⟩
  have g5 : S5[g]? = some (some (.lst (heldD hs))) := by rw [o5.2 g hfg]; exact hg
  have g5l := g5
  unfold i_utape_turn_4
  walk_at "w"
  refine ite_d (fun _ => ?_) (fun _ => ?_)
  · walk_at "w"
    exact q (.rd p) S5 (plain _ op (fun _ _ z => nomatch z) (fun _ _ z => nomatch z)) (j5.mono (by omega)) o5
  walk_at "w"
  refine ite_d (fun _ => ?_) (fun _ => ?_)
  · walk_at "w"
    exact q (.rd p) S5 (plain _ op (fun _ _ z => nomatch z) (fun _ _ z => nomatch z)) (j5.mono (by omega)) o5
  walk_at "w"
  refine ws_midT (fun fl S6 => (fl = .nx [some (.ref f), some (.ref g), some (.lst L), some p, some (.int w), none, none, none, none] ∨ fl = .rt (.tup [.str "strike", .tup [p]])) ∧ S6 = S5) ?_ ?_
  · unfold i_utape_turn_5
    walk_at "w"
    refine ite_d (fun _ => ?_) (fun _ => ?_)
    · walk_at "w"
      exact ⟨.inr rfl, rfl⟩
    · walk_at "w"
      exact ⟨.inl rfl, rfl⟩
  rintro fl S6 ⟨rfl | rfl, rfl⟩
  rotate_left
  · walk_at "w"
    exact q (.st p) S6 (plain _ op (fun _ _ z => nomatch z) (fun _ _ z => nomatch z)) (j5.mono (by omega)) o5
  refine ws_then ?_
  refine ws_mid (fun fl S7 => ∃ sz : Nat, fl = .nx [some (.ref f), some (.ref g), some (.lst L), some p, some (.int w), some (.int sz), none, none, none] ∧ S7 = S6 ∧ sz ≤ 12 ∧ (numB p 0 hs.length = true → sz = (nth hs (ixO p)).2.length)) ?_ ?_
  · walk_at "w"
    rw [held_len]
    refine wp_isplace op ?_
    cases hp : numB p 0 hs.length with
    | false =>
      walk_at "w"
      exact ⟨rfl, Nat.le_of_ble_eq_true rfl, fun z => by cases z⟩
    | true =>
      obtain ⟨i, rfl, h1, h2⟩ := numB_int hp
      walk_at "w"
      refine wo_ixH h1 h2 ?_
      walk_at "w"
      rw [List.length_map]
      exact ⟨rfl, hn _, fun _ => rfl⟩
  rintro fl S7 ⟨sz, rfl, rfl, hsz, hpz⟩
  walk_at "w"
  unfold i_utape_turn_6
  walk_at "w"
  refine ite_d (fun _ => ?_) (fun _ => ?_)
  · walk_at "w"
    unfold c_utape_turn_1
    refine wp_compG D.int ?_
    walk_at "w"
    refine ⟨by omega, ?_⟩
    refine ⟨fun i as S' => Row as ∧ JarS S' f (k + 5 + i) ∧ Only f S7 S', by rw [iRng_len]; omega, ⟨fun x hx => by simp at hx, j5.mono (by omega), .refl⟩, ?_, ?_⟩
    · rintro i d as S8 hj hal ⟨hr, p8, o8⟩
      obtain ⟨rfl, hlt⟩ := iRng_at hj
      refine ⟨_, rfl, ?_⟩
      unfold ce_utape_turn_1
      walk_at "w"
      refine wp_udraw p8 (by omega) (by omega) fun v S9 v0 v1 p9 o9 => ?_
      walk_at "w"
      exact ⟨hr.app (fun x hx => by simp at hx; omega), p9.mono (by omega), o8.trans o9⟩
    rintro as S8 hal ⟨hr, p8, o8⟩
    rw [iRng_len] at hal p8
    walk_at "w"
    refine q (.rt p as) S8 ⟨⟨op, fun p' r' e hp => ?_⟩, (fun _ _ z => nomatch z), fun p' r' e => ?_⟩ (p8.mono (by omega)) (o5.trans o8)
    · cases e
      rw [hal, ← hpz hp]
      omega
    · cases e
      exact ⟨hr, by omega⟩
  walk_at "w"
  refine wp_udraw j5 (by omega) ⟨by omega, by omega⟩ fun va S8 a8 b8 j8 o8 => ?_
  walk_at "w"
  refine wp_udraw j8 (by omega) (by omega) fun vb S9 a9 b9 j9 o9 => ?_
  walk_at "w"
  refine ws_midT (fun fl Sa => ∃ a, fl = .nx [some (.ref f), some (.ref g), some (.lst L), some p, some (.int w), some (.int sz), some a, some (.int vb), none] ∧ Odd a ∧ JarS Sa f (k + 9) ∧ Only f S1 Sa) ?_ ?_
  · unfold i_utape_turn_7
    walk_at "w"
    refine wp_udraw j9 (by omega) (by omega) fun v Sa aa ba ja oa => ?_
    walk_at "w"
    refine ite_d (fun _ => ?_) (fun _ => ?_)
    · walk_at "w"
      refine wp_udraw ja (by omega) (by omega) fun v Sb ab bb jb ob => ?_
      walk_at "w"
      refine wo_ixAll ⟨by omega, by omega⟩ fun d hd => ?_
      walk_at "w"
      exact ⟨odd d hd, jb.mono (by omega), (((o5.trans o8).trans o9).trans oa).trans ob⟩
    · walk_at "w"
      exact ⟨.int (by omega) (by omega), ja.mono (by omega), ((o5.trans o8).trans o9).trans oa⟩
  rintro fl Sa ⟨a, rfl, oda, ja, oa⟩
  walk_at "w"
  refine ws_midT (fun fl Sb => ∃ b, fl = .nx [some (.ref f), some (.ref g), some (.lst L), some p, some (.int w), some (.int sz), some a, some b, none] ∧ Odd b ∧ JarS Sb f (k + 11) ∧ Only f S1 Sb) ?_ ?_
  · unfold i_utape_turn_8
    walk_at "w"
    refine wp_udraw ja (by omega) (by omega) fun v Sb ab bb jb ob => ?_
    walk_at "w"
    refine ite_d (fun _ => ?_) (fun _ => ?_)
    · walk_at "w"
      refine vo_addL (by simp; omega) ?_
      walk_at "w"
      refine wp_udraw jb (by omega) (by omega) fun v Sc ac bc jc oc => ?_
      walk_at "w"
      refine wo_ixAll ⟨by omega, by simp; omega⟩ fun d hd => ?_
      walk_at "w"
      refine ⟨?_, jc.mono (by omega), (oa.trans ob).trans oc⟩
      rcases List.mem_append.mp hd with hd | hd
      · exact odd d hd
      · simp only [List.mem_cons, List.mem_nil_iff, or_false] at hd
        rcases hd with rfl | rfl | rfl | rfl <;> exact .int (by omega) (by omega)
    · walk_at "w"
      exact ⟨.int (by omega) (by omega), jb.mono (by omega), oa.trans ob⟩
  rintro fl Sb ⟨b, rfl, odb, jb, ob⟩
  walk_at "w"
  exact q (.hm p a b) Sb (plain _ ⟨op, oda, odb⟩ (fun _ _ z => nomatch z) (fun _ _ z => nomatch z)) (jb.mono (by omega)) ob
end
end C37
set_option Elab.async false
set_option linter.all false
set_option maxRecDepth 100000
set_option maxHeartbeats 4000000
namespace C37
open DL PySem LS LU
local macro_rules | `(tactic| walk_at "w1") => `(tactic| with_reducible first
  | (refine ws_then ?_; try with_reducible dsimp only [List.set_cons_zero, List.set_cons_succ]) | refine ws_seq ?_ | refine ws_asg ?_ | refine ws_expr ?_ | refine ws_ret ?_ | refine ws_if ?_ | refine ws_asgT ?_ | refine ws_skip ?_ | refine ws_retN ?_ | refine ws_brk ?_ | refine ws_cont ?_ | refine ws_thenR ?_ | refine ws_thenB ?_ | refine ws_thenC ?_ | refine fq_rt ?_ | refine fq_nx ?_ | refine un_nx ?_ | refine un_ct ?_ | refine un_bk ?_ | refine un_rt ?_ | refine ws_loopN ?_
  | (refine ws_loopC (ρ1 := ?r) ?h ?q; (case h => with_unfolding_all rfl); try with_reducible dsimp only [List.set_cons_zero, List.set_cons_succ])
  | refine wp_c ?_ | refine wp_op2 ?_ | refine wp_fn ?_ | refine wp_cons ?_ | refine wp_nil ?_ | refine wp_call ?_ | refine wp_op1 ?_
  | (refine wp_var (d := ?d) ?h ?q; (case h => with_unfolding_all rfl))
  | (refine ws_aug (d := ?d) ?h ?q; (case h => with_unfolding_all rfl))
  | refine wp_tup ?_ | refine wp_lst ?_ | refine wp_lstM ?_ | refine wp_listM ?_
  | refine wp_sl0 ?_ | refine wp_sl1 ?_ | refine wp_sl2 ?_ | refine wp_sl3 ?_
  | refine wp_tval ?_ | refine wp_tnot ?_ | refine wp_tand ?_ | refine wp_tor ?_ | refine wp_tyes ?_ | refine wp_and ?_ | refine wp_or ?_ | refine wp_not ?_ | refine wp_ifx ?_ | refine wp_chain ?_ | refine wp_meth ?_ | refine wp_meth0 ?_
  | refine wp_isi ?_ | refine wp_isis ?_ | refine wp_repr ?_ | refine wp_maxD ?_ | refine wi_rng3 ?_
  | refine wp_str1 ?_ | refine ws_par ?_ | refine wp_dnew ?_ | refine wp_get2 ?_ | refine wp_reprQ ?_ | refine wp_fnK ?_ | refine wi_valsI ?_ | refine wi_itemsI ?_ | refine ws_augI ?_
  | refine wi_seq ?_ | refine wi_rng1 ?_ | refine wi_rng2 ?_ | refine wi_zip2 ?_ | refine wi_zipS ?_
  | (refine wp_fnB (ρ := ?ρ) ?he ?_; (case he => (simp only [List.map_cons, List.map_nil, List.length_cons, List.length_nil, List.replicate, List.cons_append, List.nil_append, Nat.reduceAdd, Nat.reduceSub]; rfl))))
local macro_rules | `(tactic| walk_at "w2") => `(tactic| ((with_reducible refine wo_id ?_); with_reducible first
  | refine vo_sub ?_ | refine vo_add ?_ | refine vo_lt ?_ | refine vo_le ?_ | refine vo_gt ?_ | refine vo_ge ?_ | refine vo_eq ?_ | refine vo_ne ?_ | refine vo_eqS ?_ | refine vo_neS ?_ | refine vo_eqB ?_ | refine vo_neB ?_ | refine vo_neg ?_ | refine vo_slT ?_ | refine vo_slL ?_ | refine vo_slS ?_ | refine vo_lenT ?_ | refine vo_lenL ?_ | refine vo_lenS ?_ | refine vo_revT ?_ | refine vo_revL ?_ | refine vo_min ?_ | refine vo_max ?_ | refine vo_tupL ?_ | refine vo_tupT ?_ | refine vo_lisL ?_ | refine vo_lisT ?_
  | refine vo_igAdd ?_ | refine vo_igMulR (by omega) ?_ | refine vo_igMulL (by omega) ?_ | refine vo_mod (by omega) ?_ | refine vo_div (by omega) ?_ | refine vo_mulR (by omega) ?_ | refine vo_mulL (by omega) ?_
  | refine vo_ixL0 ?_ | refine vo_ixL1 ?_ | refine vo_ixL2 ?_ | refine vo_ixL3 ?_ | refine vo_ixL4 ?_ | refine vo_ixL5 ?_ | refine vo_ixL6 ?_ | refine vo_ixT0 ?_ | refine vo_ixT1 ?_ | refine vo_ixT2 ?_ | refine vo_ixT3 ?_ | refine vo_ixT4 ?_ | refine vo_ixT5 ?_ | refine vo_ixT6 ?_
  | refine vo_starts ?_ | refine vo_isBN ?_ | refine vo_isSN ?_ | refine vo_isLN ?_ | refine vo_isDN ?_ | refine vo_slX (by first | assumption | omega) ?_ | refine vo_lenX (by first | assumption | omega) ?_ | refine vo_addS (by first | assumption | omega) ?_
  | refine vo_inT ?_ | refine vo_ninT ?_ | refine vo_inL ?_ | refine vo_ninL ?_ | refine vo_inI ?_ | refine vo_ninI ?_ | refine vo_sortI (by first | assumption | omega) ?_ | refine vo_sortL ?_ | refine vo_lenI ?_ | refine vo_lt3 ?_ | refine vo_isNN ?_ | refine vo_is3N ?_ | refine vo_isTN ?_ | refine vo_isIN ?_ | refine vo_igAddI ?_ | refine vo_ixI (by assumption) ?_
  | refine vo_vwD1 (by assumption) ?_ | refine vo_vwDc (by assumption) ?_
  | refine wo_vw1 (by assumption) ?_ | refine wo_vw2 (by assumption) ?_ | refine vo_vwc (by assumption) ?_
  | (refine vo_isi (c := ?c) ?h ?q; (case h => with_unfolding_all rfl)) | (refine vo_isis (c := ?c) ?h ?q; (case h => with_unfolding_all rfl))))
local macro_rules | `(tactic| walk_at "w3") => `(tactic| first
  | with_reducible refine nb_ff ?_ | with_reducible refine nb_tt ?_ | with_reducible refine nb_ft ?_ | with_reducible refine nb_tf ?_
  | with_reducible refine ite_f ?_ | with_reducible refine ite_nt ?_ | with_reducible refine ite_nf ?_ | with_reducible refine ite_t ?_
  | ((with_reducible refine ex_id ?_); refine ⟨_, rfl, ?_⟩) | ((with_reducible refine and_id ?_); refine ⟨Nat.le_of_ble_eq_true rfl, ?_⟩))
local macro_rules | `(tactic| walk_at "w") => `(tactic| repeat (first | walk_at "w1" | walk_at "w2" | walk_at "w3"))
theorem nth_ok {hs : List Rc} {p : D} (ho : ∀ r ∈ hs, OkRc r) (h : numB p 0 hs.length = true) : OkRc (nth hs (ixO p)) := by
  obtain ⟨i, rfl, h1, h2⟩ := numB_int h
  unfold nth
  rw [List.getD_eq_getElem?_getD, List.getElem?_eq_getElem (by show i.toNat < _; omega)]
  exact ho _ (List.getElem_mem _)
theorem bent_row {r : List Int} {a : Nat} {b : Int} (h : Row r) : Row (bent r a b) := by
  intro x hx
  unfold bent at hx
  rcases List.mem_append.mp hx with hx | hx
  · rcases List.mem_append.mp hx with hx | hx
    · exact h x (List.mem_of_mem_take hx)
    · rw [List.mem_singleton.mp hx]
      omega
  · exact h x (List.mem_of_mem_drop hx)
theorem set_ok {hs : List Rc} {i : Nat} {r : Rc} (ho : ∀ r ∈ hs, OkRc r) (h : OkRc r) : (∀ x ∈ hs.set i r, OkRc x) ∧ (hs.set i r).length ≤ hs.length + 1 := by
  refine ⟨fun x hx => ?_, by rw [List.length_set]; omega⟩
  rcases List.mem_or_eq_of_mem_set hx with hx | rfl
  · exact ho x hx
  · exact h
theorem due_ok {wide : Int} {hs : List Rc} {dd : Dd} (ho : ∀ r ∈ hs, OkRc r) (hn : NewOk hs dd) : (∀ r ∈ (due wide hs dd).1, OkRc r) ∧ (due wide hs dd).1.length ≤ hs.length + 1 := by
  have same : (∀ r ∈ hs, OkRc r) ∧ hs.length ≤ hs.length + 1 := ⟨ho, by omega⟩
  cases dd with
  | wr l r =>
    simp only [due]
    split
    · exact same
    · refine ⟨fun x hx => ?_, by simp⟩
      rcases List.mem_append.mp hx with hx | hx
      · exact ho x hx
      · rw [List.mem_singleton.mp hx]
        exact hn.w l r rfl
  | bl => exact ⟨fun x hx => by simp [due] at hx, by simp [due]⟩
  | rd p =>
    simp only [due]
    split <;> exact same
  | st p =>
    simp only [due]
    split
    · rename_i hp
      have z := nth_ok ho hp
      exact set_ok ho ⟨.inr (.inr rfl), z.n, z.i, z.l, z.r⟩
    · exact same
  | rt p r =>
    simp only [due]
    split
    · rename_i hp
      have z := nth_ok ho hp
      obtain ⟨z1, z2⟩ := hn.r p r rfl
      exact set_ok ho ⟨z.s, z.n, z.i, z2, z1⟩
    · exact same
  | hm p a b =>
    simp only [due]
    split
    · rename_i hp
      have z := nth_ok ho hp
      split
      · rename_i hab
        rw [Bool.and_eq_true] at hab
        obtain ⟨k, rfl, k1, k2⟩ := numB_int hab.1
        have e : (bent (nth hs (ixO p)).2 (ixO (.int k)) (intO b)).length = (nth hs (ixO p)).2.length := bent_len (by show k.toNat < _; omega)
        exact set_ok ho ⟨z.s, z.n, z.i, by show (bent _ _ _).length ≤ 12; rw [e]; exact z.l, bent_row z.r⟩
      · exact same
    · exact same
theorem qd_odd {d : D} (h : Odd d) : ∃ p, ∀ rr : Nat → Option PyData, QD rr d p 5 2 := by
  cases h with
  | int h1 h2 => exact ⟨_, fun rr => (QD.int (by omega)).mono (by omega) (by omega)⟩
  | bl b => exact ⟨_, fun rr => (QD.bl b).mono (by omega) (by omega)⟩
  | non => exact ⟨_, fun rr => QD.non.mono (by omega) (by omega)⟩
  | str => exact ⟨_, fun rr => (QD.str (by decide +kernel)).mono (by omega) (by omega)⟩
  | tup => exact ⟨_, fun rr => (QD.tup (QDs.cons (QD.int (by omega)) QDs.nil)).mono (by omega) (by omega)⟩
  | lst => exact ⟨_, fun rr => (QD.lst (QDs.cons (QD.int (by omega)) QDs.nil)).mono (by omega) (by omega)⟩
theorem qd_row {r : List Int} (h : Row r) (hl : r.length ≤ 12) : ∀ rr : Nat → Option PyData, QD rr (numD r) (.tuple (r.map .int)) 13 1 := fun rr => (QD.row h).mono (by omega) (by omega)
theorem qd_some {hs : List Rc} {dd : Dd} (hn : NewOk hs dd) : ∃ p, ∀ rr : Nat → Option PyData, QD rr dd.some p 100 5 := by
  cases dd with
  | wr l r =>
    exact ⟨_, fun rr => (qd_rec (hn.w l r rfl)).mono (by omega) (by omega)⟩
  | bl => exact ⟨_, fun rr => (QD.tup (QDs.nil (h := 0))).mono (by omega) (by omega)⟩
  | rd p =>
    obtain ⟨x, hx⟩ := qd_odd (show Odd p from hn.t.1)
    exact ⟨_, fun rr => (QD.tup (QDs.cons (hx rr) QDs.nil)).mono (by omega) (by omega)⟩
  | st p =>
    obtain ⟨x, hx⟩ := qd_odd (show Odd p from hn.t.1)
    exact ⟨_, fun rr => (QD.tup (QDs.cons (hx rr) QDs.nil)).mono (by omega) (by omega)⟩
  | rt p r =>
    obtain ⟨x, hx⟩ := qd_odd (show Odd p from hn.t.1)
    obtain ⟨z1, z2⟩ := hn.r p r rfl
    exact ⟨_, fun rr => (QD.tup (QDs.cons (hx rr) (QDs.cons ((qd_row z1 z2 rr).mono (Nat.le_refl _) (show 1 ≤ 2 by omega)) QDs.nil))).mono (by omega) (by omega)⟩
  | hm p a b =>
    obtain ⟨o1, o2, o3⟩ := (show Odd p ∧ Odd a ∧ Odd b from hn.t.1)
    obtain ⟨x, hx⟩ := qd_odd o1
    obtain ⟨y, hy⟩ := qd_odd o2
    obtain ⟨z, hz⟩ := qd_odd o3
    exact ⟨_, fun rr => (QD.tup (QDs.cons (hx rr) (QDs.cons (hy rr) (QDs.cons (hz rr) QDs.nil)))).mono (by omega) (by omega)⟩
theorem qd_toldN {d : D} {p : PyData} {rr : Nat → Option PyData} (h : QD rr d p 50 3) : QD rr (toldD .none d) (.tuple [.str "told", p]) 100 5 := (QD.tup (QDs.cons ((QD.str (by decide +kernel)).mono (Nat.le_refl _) (Nat.zero_le _)) (QDs.cons h QDs.nil))).mono (by omega) (by omega)
theorem qd_toldS {c : Str} {d : D} {rr : Nat → Option PyData} : QD rr (toldD (.some c) d) (.tuple [.str (wordX c), .none]) 100 5 := by
  have : (reprText (wordX c)).length ≤ 14 := by
    unfold wordX
    split
    · decide +kernel
    · split <;> decide +kernel
  exact (QD.tup (QDs.cons (QD.str this) (QDs.cons (QD.non.mono (Nat.le_refl _) (Nat.zero_le _)) QDs.nil))).mono (by omega) (by omega)
theorem qd_told {wide : Int} {hs : List Rc} {dd : Dd} (ho : ∀ r ∈ hs, OkRc r) (hz : hs.length ≤ 1000) : ∃ p, ∀ rr : Nat → Option PyData, QD rr (toldD (due wide hs dd).2.1 (due wide hs dd).2.2) p 100 5 := by
  have nn : ∃ p, ∀ rr : Nat → Option PyData, QD rr (toldD .none .non) p 100 5 := ⟨_, fun rr => qd_toldN (QD.non.mono (by omega) (by omega))⟩
  cases dd with
  | wr l r =>
    simp only [due]
    split
    · exact ⟨_, fun rr => qd_toldS⟩
    · exact ⟨_, fun rr => qd_toldN ((QD.int (by omega)).mono (by omega) (by omega))⟩
  | bl => exact nn
  | rd p =>
    simp only [due]
    split
    · rename_i hp
      exact ⟨_, fun rr => qd_toldN ((qd_rec (nth_ok ho hp)).mono (by omega) (by omega))⟩
    · exact ⟨_, fun rr => qd_toldS⟩
  | st p =>
    simp only [due]
    split
    · exact nn
    · exact ⟨_, fun rr => qd_toldS⟩
  | rt p r =>
    simp only [due]
    split
    · exact nn
    · exact ⟨_, fun rr => qd_toldS⟩
  | hm p a b =>
    simp only [due]
    split
    · split
      · exact nn
      · exact ⟨_, fun rr => qd_toldS⟩
    · exact ⟨_, fun rr => qd_toldS⟩
end C37
set_option Elab.async false
set_option linter.all false
set_option maxRecDepth 100000
set_option maxHeartbeats 4000000
namespace C37
open DL PySem LS LU
local macro_rules | `(tactic| walk_at "w1") => `(tactic| with_reducible first
  | (refine ws_then ?_; try with_reducible dsimp only [List.set_cons_zero, List.set_cons_succ]) | refine ws_seq ?_ | refine ws_asg ?_ | refine ws_expr ?_ | refine ws_ret ?_ | refine ws_if ?_ | refine ws_asgT ?_ | refine ws_skip ?_ | refine ws_retN ?_ | refine ws_brk ?_ | refine ws_cont ?_ | refine ws_thenR ?_ | refine ws_thenB ?_ | refine ws_thenC ?_ | refine fq_rt ?_ | refine fq_nx ?_ | refine un_nx ?_ | refine un_ct ?_ | refine un_bk ?_ | refine un_rt ?_ | refine ws_loopN ?_
  | (refine ws_loopC (ρ1 := ?r) ?h ?q; (case h => with_unfolding_all rfl); try with_reducible dsimp only [List.set_cons_zero, List.set_cons_succ])
  | refine wp_c ?_ | refine wp_op2 ?_ | refine wp_fn ?_ | refine wp_cons ?_ | refine wp_nil ?_ | refine wp_call ?_ | refine wp_op1 ?_
  | (refine wp_var (d := ?d) ?h ?q; (case h => with_unfolding_all rfl))
  | (refine ws_aug (d := ?d) ?h ?q; (case h => with_unfolding_all rfl))
  | refine wp_tup ?_ | refine wp_lst ?_ | refine wp_lstM ?_ | refine wp_listM ?_
  | refine wp_sl0 ?_ | refine wp_sl1 ?_ | refine wp_sl2 ?_ | refine wp_sl3 ?_
  | refine wp_tval ?_ | refine wp_tnot ?_ | refine wp_tand ?_ | refine wp_tor ?_ | refine wp_tyes ?_ | refine wp_and ?_ | refine wp_or ?_ | refine wp_not ?_ | refine wp_ifx ?_ | refine wp_chain ?_ | refine wp_meth ?_ | refine wp_meth0 ?_
  | refine wp_isi ?_ | refine wp_isis ?_ | refine wp_repr ?_ | refine wp_maxD ?_ | refine wi_rng3 ?_
  | refine wp_str1 ?_ | refine ws_par ?_ | refine wp_dnew ?_ | refine wp_get2 ?_ | refine wp_reprQ ?_ | refine wp_fnK ?_ | refine wi_valsI ?_ | refine wi_itemsI ?_ | refine ws_augI ?_
  | refine wi_seq ?_ | refine wi_rng1 ?_ | refine wi_rng2 ?_ | refine wi_zip2 ?_ | refine wi_zipS ?_
  | (refine wp_fnB (ρ := ?ρ) ?he ?_; (case he => (simp only [List.map_cons, List.map_nil, List.length_cons, List.length_nil, List.replicate, List.cons_append, List.nil_append, Nat.reduceAdd, Nat.reduceSub]; rfl))))
local macro_rules | `(tactic| walk_at "w2") => `(tactic| ((with_reducible refine wo_id ?_); with_reducible first
  | refine vo_sub ?_ | refine vo_add ?_ | refine vo_lt ?_ | refine vo_le ?_ | refine vo_gt ?_ | refine vo_ge ?_ | refine vo_eq ?_ | refine vo_ne ?_ | refine vo_eqS ?_ | refine vo_neS ?_ | refine vo_eqB ?_ | refine vo_neB ?_ | refine vo_neg ?_ | refine vo_slT ?_ | refine vo_slL ?_ | refine vo_slS ?_ | refine vo_lenT ?_ | refine vo_lenL ?_ | refine vo_lenS ?_ | refine vo_revT ?_ | refine vo_revL ?_ | refine vo_min ?_ | refine vo_max ?_ | refine vo_tupL ?_ | refine vo_tupT ?_ | refine vo_lisL ?_ | refine vo_lisT ?_
  | refine vo_igAdd ?_ | refine vo_igMulR (by omega) ?_ | refine vo_igMulL (by omega) ?_ | refine vo_mod (by omega) ?_ | refine vo_div (by omega) ?_ | refine vo_mulR (by omega) ?_ | refine vo_mulL (by omega) ?_
  | refine vo_ixL0 ?_ | refine vo_ixL1 ?_ | refine vo_ixL2 ?_ | refine vo_ixL3 ?_ | refine vo_ixL4 ?_ | refine vo_ixL5 ?_ | refine vo_ixL6 ?_ | refine vo_ixT0 ?_ | refine vo_ixT1 ?_ | refine vo_ixT2 ?_ | refine vo_ixT3 ?_ | refine vo_ixT4 ?_ | refine vo_ixT5 ?_ | refine vo_ixT6 ?_
  | refine vo_starts ?_ | refine vo_isBN ?_ | refine vo_isSN ?_ | refine vo_isLN ?_ | refine vo_isDN ?_ | refine vo_slX (by first | assumption | omega) ?_ | refine vo_lenX (by first | assumption | omega) ?_ | refine vo_addS (by first | assumption | omega) ?_
  | refine vo_inT ?_ | refine vo_ninT ?_ | refine vo_inL ?_ | refine vo_ninL ?_ | refine vo_inI ?_ | refine vo_ninI ?_ | refine vo_sortI (by first | assumption | omega) ?_ | refine vo_sortL ?_ | refine vo_lenI ?_ | refine vo_lt3 ?_ | refine vo_isNN ?_ | refine vo_is3N ?_ | refine vo_isTN ?_ | refine vo_isIN ?_ | refine vo_igAddI ?_ | refine vo_ixI (by assumption) ?_
  | refine vo_vwD1 (by assumption) ?_ | refine vo_vwDc (by assumption) ?_
  | refine wo_vw1 (by assumption) ?_ | refine wo_vw2 (by assumption) ?_ | refine vo_vwc (by assumption) ?_
  | (refine vo_isi (c := ?c) ?h ?q; (case h => with_unfolding_all rfl)) | (refine vo_isis (c := ?c) ?h ?q; (case h => with_unfolding_all rfl))))
local macro_rules | `(tactic| walk_at "w3") => `(tactic| first
  | with_reducible refine nb_ff ?_ | with_reducible refine nb_tt ?_ | with_reducible refine nb_ft ?_ | with_reducible refine nb_tf ?_
  | with_reducible refine ite_f ?_ | with_reducible refine ite_nt ?_ | with_reducible refine ite_nf ?_ | with_reducible refine ite_t ?_
  | ((with_reducible refine ex_id ?_); refine ⟨_, rfl, ?_⟩) | ((with_reducible refine and_id ?_); refine ⟨Nat.le_of_ble_eq_true rfl, ?_⟩))
local macro_rules | `(tactic| walk_at "w") => `(tactic| repeat (first | walk_at "w1" | walk_at "w2" | walk_at "w3"))
abbrev Ow := Int × Int × Int
abbrev ownD (o : Ow) : D := .lst [.int o.1, .int o.2.1, .int o.2.2]
def OwB (o : Ow) : Prop := (0 ≤ o.1 ∧ o.1 ≤ 1000000000000000) ∧ (0 ≤ o.2.1 ∧ o.2.1 ≤ 1000000000000000) ∧ (0 ≤ o.2.2 ∧ o.2.2 ≤ 1000000000000000)
abbrev fixd : List Nat := [0, 1, 2, 4, 5, 7, 8, 9]
structure St (S : Sto) (k : Int) (o0 o1 : Ow) (hs0 hs1 : List Rc) (h0 h1 : Nat) : Prop where
  j : JarS S 0 k
  ow : S[1]? = some (some (.lst [ownD o0, ownD o1]))
  tp : S[4]? = some (some (.lst [.ref 2, .ref 5]))
  hd : S[9]? = some (some (.lst [.ref 7, .ref 8]))
  t0 : TapeAt S 2 h0 o0.1 o0.2.1 o0.2.2 hs0
  t1 : TapeAt S 5 h1 o1.1 o1.2.1 o1.2.2 hs1
  g0 : S[7]? = some (some (.lst (heldD hs0)))
  g1 : S[8]? = some (some (.lst (heldD hs1)))
  d0 : ∀ x ∈ fixd, h0 ≠ x
  d1 : ∀ x ∈ fixd, h1 ≠ x
  d : h0 ≠ h1
theorem jar_keep {S S' : Sto} {n : Nat} {k : Int} (h : JarS S n k) (e : S'[n]? = S[n]?) : JarS S' n k := by
  unfold JarS Jar at *
  rw [e]
  exact h
theorem St.ext {S S' : Sto} {k : Int} {o0 o1 : Ow} {hs0 hs1 : List Rc} {h0 h1 : Nat} (s : St S k o0 o1 hs0 hs1 h0 h1) (e : Ext S S') : St S' k o0 o1 hs0 hs1 h0 h1 := by
  have l0 : 0 < S.length := by have := (List.getElem?_eq_some_iff.mp s.ow).1; omega
  exact ⟨jar_keep s.j (e.2 0 l0), e.at_ s.ow, e.at_ s.tp, e.at_ s.hd, s.t0.ext e, s.t1.ext e, e.at_ s.g0, e.at_ s.g1, s.d0, s.d1, s.d⟩
theorem St.len {S : Sto} {k : Int} {o0 o1 : Ow} {hs0 hs1 : List Rc} {h0 h1 : Nat} (s : St S k o0 o1 hs0 hs1 h0 h1) : 10 ≤ S.length ∧ h0 < S.length ∧ h1 < S.length :=
  ⟨by have := (List.getElem?_eq_some_iff.mp s.hd).1; omega, (List.getElem?_eq_some_iff.mp s.t0.l).1, (List.getElem?_eq_some_iff.mp s.t1.l).1⟩
theorem keep4 {S S1 S2 S3 S4 : Sto} {g n h : Nat} (o1 : Only 0 S S1) (o2 : Only 0 S1 S2) (o3 : Only g S2 S3) (fr : Fr n h S3 S4) {x : Nat} {o : Option Ob} (e : S[x]? = some o) (x0 : x ≠ 0) (xg : x ≠ g) (xn : x ≠ n) (xh : x ≠ h) : S4[x]? = some o := by
  have hx := (List.getElem?_eq_some_iff.mp e).1
  rw [fr.2 x (by rw [o3.1, o2.1, o1.1]; exact hx) xn xh, o3.2 x xg, o2.2 x x0, o1.2 x x0]
  exact e
section
variable {S : Sto} {k : Int} {o0 o1 : Ow} {hs0 hs1 : List Rc} {h0 h1 : Nat} {Qs : Fl → Sto → Prop} {x0 x4 x5 x6 a3 a9 a10 a11 a12 a13 a14 : Option D}
/-- both are looked at -/
theorem ws_look {b3 b10 b11 b12 b13 b14 : Option D} (s : St S k o0 o1 hs0 hs1 h0 h1) (B0 : OwB o0) (B1 : OwB o1) (ho0 : ∀ r ∈ hs0, OkRc r) (ho1 : ∀ r ∈ hs1, OkRc r) (hz0 : hs0.length ≤ 100) (hz1 : hs1.length ≤ 100)
    (q : ∀ c14 S', St S' k o0 o1 hs0 hs1 h0 h1 → Qs (.nx [x0, some (.ref 0), some (.ref 1), b3, x4, x5, x6, some (.ref 4), some (.ref 9), a9, b10, b11, b12, b13, c14]) S') :
    Ws (l_law_2 [x0, some (.ref 0), some (.ref 1), b3, x4, x5, x6, some (.ref 4), some (.ref 9), a9, b10, b11, b12, b13, b14] S) Qs (fun c p x S => noX c p S) := by
  obtain ⟨u1, u2, u3⟩ := B0
  obtain ⟨w1, w2, w3⟩ := B1
  unfold l_law_2
  refine ws_for [14] ?_
  walk_at "w"
  refine ⟨by omega, fun j vs S' => Ext S S' ∧ ∃ a, vs = [a], [b14], rfl, rfl, ⟨.refl, _, rfl⟩, ?_, ?_⟩
  · rintro j d vs S' hj hv ⟨e1, a, rfl⟩
    obtain ⟨rfl, hlt⟩ := iRng_at hj
    have s' := s.ext e1
    have tp := s'.tp
    have hd := s'.hd
    have ow := s'.ow
    refine ⟨_, rfl, ?_⟩
    dsimp only [putAll, List.set_cons_zero, List.set_cons_succ]
    unfold lb_law_2 i_law_3
    have hj2 : j = 0 ∨ j = 1 := by omega
    rcases hj2 with rfl | rfl
    · rw [show (0 : Int) + ((0 : Nat) : Int) = 0 from rfl]
      walk_at "w"
      refine wp_has s'.t0 s'.g0 ho0 hz0 (by omega) (by omega) (by omega) fun S2 e2 => ?_
      walk_at "w"
      exact ⟨[_], rfl, rfl, e1.trans e2, _, rfl⟩
    · rw [show (0 : Int) + ((1 : Nat) : Int) = 1 from rfl]
      walk_at "w"
      refine wp_has s'.t1 s'.g1 ho1 hz1 (by omega) (by omega) (by omega) fun S2 e2 => ?_
      walk_at "w"
      exact ⟨[_], rfl, rfl, e1.trans e2, _, rfl⟩
  · rintro vs S' hv ⟨e1, a, rfl⟩
    exact q _ S' (s.ext e1)
theorem ws_body (s : St S k o0 o1 hs0 hs1 h0 h1) (B0 : OwB o0) (B1 : OwB o1) (ho0 : ∀ r ∈ hs0, OkRc r) (ho1 : ∀ r ∈ hs1, OkRc r) (hz0 : hs0.length ≤ 90) (hz1 : hs1.length ≤ 90) (hk : k ≤ 1000000)
    (q : ∀ b3 b10 b11 b12 b13 b14 S' hs0' hs1' h0' h1', St S' (k + 200) o0 o1 hs0' hs1' h0' h1' → (∀ r ∈ hs0', OkRc r) → (∀ r ∈ hs1', OkRc r) → hs0'.length ≤ hs0.length + 1 → hs1'.length ≤ hs1.length + 1 → Qs (.nx [x0, some (.ref 0), some (.ref 1), b3, x4, x5, x6, some (.ref 4), some (.ref 9), a9, b10, b11, b12, b13, b14]) S') :
    Ws (lb_law_3 [x0, some (.ref 0), some (.ref 1), a3, x4, x5, x6, some (.ref 4), some (.ref 9), a9, a10, a11, a12, a13, a14] S) Qs (fun c p x S => noX c p S) := by
  obtain ⟨len10, lh0, lh1⟩ := s.len
  have vi := s.d0
  have vi1 := s.d1
  have vd := s.d
  simp only [List.forall_mem_cons, List.not_mem_nil, false_implies, implies_true, and_true] at vi vi1
  obtain ⟨z0, z1, z2, z4, z5, z7, z8, z9⟩ := vi
  obtain ⟨y0, y1, y2, y4, y5, y7, y8, y9⟩ := vi1
  unfold lb_law_3 i_law_1 i_law_2
  walk_at "w"
  refine wp_udraw s.j (by omega) (by omega) fun v S1 a1 b1 j1 o1' => ?_
  have ow1 : S1[1]? = some (some (.lst [ownD o0, ownD o1])) := by rw [o1'.2 1 (by omega)]; exact s.ow
  have tp1 : S1[4]? = some (some (.lst [.ref 2, .ref 5])) := by rw [o1'.2 4 (by omega)]; exact s.tp
  have hd1 : S1[9]? = some (some (.lst [.ref 7, .ref 8])) := by rw [o1'.2 9 (by omega)]; exact s.hd
  have hv : v = 0 ∨ v = 1 := by omega
  rcases hv with rfl | rfl
  · have gA : S1[7]? = some (some (.lst (heldD hs0))) := by rw [o1'.2 7 (by omega)]; exact s.g0
    walk_at "w"
    refine wp_turn j1 (by omega) gA (by omega) (by omega) ho0 fun dd S2 nok j2 o2 => ?_
    have ow2 : S2[1]? = some (some (.lst [ownD o0, ownD o1])) := by rw [o2.2 1 (by omega)]; exact ow1
    have hd2 : S2[9]? = some (some (.lst [.ref 7, .ref 8])) := by rw [o2.2 9 (by omega)]; exact hd1
    have gA2 : S2[7]? = some (some (.lst (heldD hs0))) := by rw [o2.2 7 (by omega)]; exact gA
    obtain ⟨ps, qs⟩ := qd_some nok
    obtain ⟨pt, qt⟩ := qd_told (wide := o0.2.2) (dd := dd) ho0 (by omega)
    obtain ⟨ok1, ok2⟩ := due_ok (wide := o0.2.2) ho0 nok
    have lens : ∀ r ∈ hs0, r.2.length ≤ 1000 ∧ r.1.2.length ≤ 1000 := fun r hr => by
      have := ho0 r hr
      have := this.l
      have := (ho0 r hr).n
      omega
    walk_at "w"
    refine ex_q (qs _) ?_
    walk_at "w"
    refine wp_due gA2 nok.t.1 (by omega) lens fun S3 gA3 o3 => ?_
    have l3 : S3.length = S.length := by rw [o3.1, o2.1, o1'.1]
    have tp3 : S3[4]? = some (some (.lst [.ref 2, .ref 5])) := by rw [o3.2 4 (by omega), o2.2 4 (by omega)]; exact tp1
    have tA3 : TapeAt S3 2 h0 o0.1 o0.2.1 o0.2.2 hs0 := ⟨by rw [o3.2 2 (by omega), o2.2 2 (by omega), o1'.2 2 (by omega)]; exact s.t0.o, by rw [o3.2 h0 (by omega), o2.2 h0 (by omega), o1'.2 h0 (by omega)]; exact s.t0.l⟩
    walk_at "w"
    refine wp_told tA3 nok.t (by omega) lens fun S4 h' t4 fr hh => ?_
    walk_at "w"
    refine ex_q (qt _) ?_
    walk_at "w"
    refine ex_q (qt _) ?_
    walk_at "w"
    refine ite_nd (fun z => absurd rfl z) (fun _ => ?_)
    walk_at "w"
    refine ex_q (qs _) ?_
    walk_at "w"
    refine ite_nd (fun z => absurd rfl z) (fun _ => ?_)
    walk_at "w"
    have hf : ∀ x ∈ fixd, h' ≠ x := by
      rcases hh with rfl | rfl
      · exact s.d0
      · intro x hx
        simp only [fixd, List.mem_cons, List.not_mem_nil, or_false] at hx
        omega
    have hd' : h' ≠ h1 := by
      rcases hh with rfl | rfl <;> omega
    have st4 : St S4 (k + 200) o0 o1 (due o0.2.2 hs0 dd).1 hs1 h' h1 := by
      refine ⟨jar_keep (j2.mono (by omega)) (by rw [fr.2 0 (by omega) (by omega) (by omega), o3.2 0 (by omega)]), keep4 o1' o2 o3 fr s.ow (by omega) (by omega) (by omega) (by omega), keep4 o1' o2 o3 fr s.tp (by omega) (by omega) (by omega) (by omega), keep4 o1' o2 o3 fr s.hd (by omega) (by omega) (by omega) (by omega), t4, ⟨keep4 o1' o2 o3 fr s.t1.o (by omega) (by omega) (by omega) (by omega), keep4 o1' o2 o3 fr s.t1.l (by omega) (by omega) (by omega) (by omega)⟩, (by rw [fr.2 7 (by omega) (by omega) (by omega)]; exact gA3), keep4 o1' o2 o3 fr s.g1 (by omega) (by omega) (by omega) (by omega), hf, s.d1, hd'⟩
    exact ws_look st4 B0 B1 ok1 ho1 (by omega) (by omega) fun c14 S5 st5 => q _ _ _ _ _ c14 S5 _ _ _ _ st5 ok1 ho1 ok2 (by omega)
  · have gA : S1[8]? = some (some (.lst (heldD hs1))) := by rw [o1'.2 8 (by omega)]; exact s.g1
    walk_at "w"
    refine wp_turn j1 (by omega) gA (by omega) (by omega) ho1 fun dd S2 nok j2 o2 => ?_
    have ow2 : S2[1]? = some (some (.lst [ownD o0, ownD o1])) := by rw [o2.2 1 (by omega)]; exact ow1
    have hd2 : S2[9]? = some (some (.lst [.ref 7, .ref 8])) := by rw [o2.2 9 (by omega)]; exact hd1
    have gA2 : S2[8]? = some (some (.lst (heldD hs1))) := by rw [o2.2 8 (by omega)]; exact gA
    obtain ⟨ps, qs⟩ := qd_some nok
    obtain ⟨pt, qt⟩ := qd_told (wide := o1.2.2) (dd := dd) ho1 (by omega)
    obtain ⟨ok1, ok2⟩ := due_ok (wide := o1.2.2) ho1 nok
    have lens : ∀ r ∈ hs1, r.2.length ≤ 1000 ∧ r.1.2.length ≤ 1000 := fun r hr => by
      have := ho1 r hr
      have := this.l
      have := (ho1 r hr).n
      omega
    walk_at "w"
    refine ex_q (qs _) ?_
    walk_at "w"
    refine wp_due gA2 nok.t.1 (by omega) lens fun S3 gA3 o3 => ?_
    have l3 : S3.length = S.length := by rw [o3.1, o2.1, o1'.1]
    have tp3 : S3[4]? = some (some (.lst [.ref 2, .ref 5])) := by rw [o3.2 4 (by omega), o2.2 4 (by omega)]; exact tp1
    have tA3 : TapeAt S3 5 h1 o1.1 o1.2.1 o1.2.2 hs1 := ⟨by rw [o3.2 5 (by omega), o2.2 5 (by omega), o1'.2 5 (by omega)]; exact s.t1.o, by rw [o3.2 h1 (by omega), o2.2 h1 (by omega), o1'.2 h1 (by omega)]; exact s.t1.l⟩
    walk_at "w"
    refine wp_told tA3 nok.t (by omega) lens fun S4 h' t4 fr hh => ?_
    walk_at "w"
    refine ex_q (qt _) ?_
    walk_at "w"
    refine ex_q (qt _) ?_
    walk_at "w"
    refine ite_nd (fun z => absurd rfl z) (fun _ => ?_)
    walk_at "w"
    refine ex_q (qs _) ?_
    walk_at "w"
    refine ite_nd (fun z => absurd rfl z) (fun _ => ?_)
    walk_at "w"
    have hf : ∀ x ∈ fixd, h' ≠ x := by
      rcases hh with rfl | rfl
      · exact s.d1
      · intro x hx
        simp only [fixd, List.mem_cons, List.not_mem_nil, or_false] at hx
        omega
    have hd' : h' ≠ h0 := by
      rcases hh with rfl | rfl <;> omega
    have st4 : St S4 (k + 200) o0 o1 hs0 (due o1.2.2 hs1 dd).1 h0 h' := by
      refine ⟨jar_keep (j2.mono (by omega)) (by rw [fr.2 0 (by omega) (by omega) (by omega), o3.2 0 (by omega)]), keep4 o1' o2 o3 fr s.ow (by omega) (by omega) (by omega) (by omega), keep4 o1' o2 o3 fr s.tp (by omega) (by omega) (by omega) (by omega), keep4 o1' o2 o3 fr s.hd (by omega) (by omega) (by omega) (by omega), ⟨keep4 o1' o2 o3 fr s.t0.o (by omega) (by omega) (by omega) (by omega), keep4 o1' o2 o3 fr s.t0.l (by omega) (by omega) (by omega) (by omega)⟩, t4, keep4 o1' o2 o3 fr s.g0 (by omega) (by omega) (by omega) (by omega), (by rw [fr.2 8 (by omega) (by omega) (by omega)]; exact gA3), s.d0, hf, Ne.symm hd'⟩
    exact ws_look st4 B0 B1 ho0 ok1 (by omega) (by omega) fun c14 S5 st5 => q _ _ _ _ _ c14 S5 _ _ _ _ st5 ho0 ok1 (by omega) ok2
end
end C37
set_option Elab.async false
set_option linter.all false
set_option maxRecDepth 100000
set_option maxHeartbeats 4000000
namespace C37
open DL PySem LS LU
local macro_rules | `(tactic| walk_at "w1") => `(tactic| with_reducible first
  | (refine ws_then ?_; try with_reducible dsimp only [List.set_cons_zero, List.set_cons_succ]) | refine ws_seq ?_ | refine ws_asg ?_ | refine ws_expr ?_ | refine ws_ret ?_ | refine ws_if ?_ | refine ws_asgT ?_ | refine ws_skip ?_ | refine ws_retN ?_ | refine ws_brk ?_ | refine ws_cont ?_ | refine ws_thenR ?_ | refine ws_thenB ?_ | refine ws_thenC ?_ | refine fq_rt ?_ | refine fq_nx ?_ | refine un_nx ?_ | refine un_ct ?_ | refine un_bk ?_ | refine un_rt ?_ | refine ws_loopN ?_
  | (refine ws_loopC (ρ1 := ?r) ?h ?q; (case h => with_unfolding_all rfl); try with_reducible dsimp only [List.set_cons_zero, List.set_cons_succ])
  | refine wp_c ?_ | refine wp_op2 ?_ | refine wp_fn ?_ | refine wp_cons ?_ | refine wp_nil ?_ | refine wp_call ?_ | refine wp_op1 ?_
  | (refine wp_var (d := ?d) ?h ?q; (case h => with_unfolding_all rfl))
  | (refine ws_aug (d := ?d) ?h ?q; (case h => with_unfolding_all rfl))
  | refine wp_tup ?_ | refine wp_lst ?_ | refine wp_lstM ?_ | refine wp_listM ?_
  | refine wp_sl0 ?_ | refine wp_sl1 ?_ | refine wp_sl2 ?_ | refine wp_sl3 ?_
  | refine wp_tval ?_ | refine wp_tnot ?_ | refine wp_tand ?_ | refine wp_tor ?_ | refine wp_tyes ?_ | refine wp_and ?_ | refine wp_or ?_ | refine wp_not ?_ | refine wp_ifx ?_ | refine wp_chain ?_ | refine wp_meth ?_ | refine wp_meth0 ?_
  | refine wp_isi ?_ | refine wp_isis ?_ | refine wp_repr ?_ | refine wp_maxD ?_ | refine wi_rng3 ?_
  | refine wp_str1 ?_ | refine ws_par ?_ | refine wp_dnew ?_ | refine wp_get2 ?_ | refine wp_reprQ ?_ | refine wp_fnK ?_ | refine wi_valsI ?_ | refine wi_itemsI ?_ | refine ws_augI ?_
  | refine wi_seq ?_ | refine wi_rng1 ?_ | refine wi_rng2 ?_ | refine wi_zip2 ?_ | refine wi_zipS ?_
  | (refine wp_fnB (ρ := ?ρ) ?he ?_; (case he => (simp only [List.map_cons, List.map_nil, List.length_cons, List.length_nil, List.replicate, List.cons_append, List.nil_append, Nat.reduceAdd, Nat.reduceSub]; rfl))))
local macro_rules | `(tactic| walk_at "w2") => `(tactic| ((with_reducible refine wo_id ?_); with_reducible first
  | refine vo_sub ?_ | refine vo_add ?_ | refine vo_lt ?_ | refine vo_le ?_ | refine vo_gt ?_ | refine vo_ge ?_ | refine vo_eq ?_ | refine vo_ne ?_ | refine vo_eqS ?_ | refine vo_neS ?_ | refine vo_eqB ?_ | refine vo_neB ?_ | refine vo_neg ?_ | refine vo_slT ?_ | refine vo_slL ?_ | refine vo_slS ?_ | refine vo_lenT ?_ | refine vo_lenL ?_ | refine vo_lenS ?_ | refine vo_revT ?_ | refine vo_revL ?_ | refine vo_min ?_ | refine vo_max ?_ | refine vo_tupL ?_ | refine vo_tupT ?_ | refine vo_lisL ?_ | refine vo_lisT ?_
  | refine vo_igAdd ?_ | refine vo_igMulR (by omega) ?_ | refine vo_igMulL (by omega) ?_ | refine vo_mod (by omega) ?_ | refine vo_div (by omega) ?_ | refine vo_mulR (by omega) ?_ | refine vo_mulL (by omega) ?_
  | refine vo_ixL0 ?_ | refine vo_ixL1 ?_ | refine vo_ixL2 ?_ | refine vo_ixL3 ?_ | refine vo_ixL4 ?_ | refine vo_ixL5 ?_ | refine vo_ixL6 ?_ | refine vo_ixT0 ?_ | refine vo_ixT1 ?_ | refine vo_ixT2 ?_ | refine vo_ixT3 ?_ | refine vo_ixT4 ?_ | refine vo_ixT5 ?_ | refine vo_ixT6 ?_
  | refine vo_starts ?_ | refine vo_isBN ?_ | refine vo_isSN ?_ | refine vo_isLN ?_ | refine vo_isDN ?_ | refine vo_slX (by first | assumption | omega) ?_ | refine vo_lenX (by first | assumption | omega) ?_ | refine vo_addS (by first | assumption | omega) ?_
  | refine vo_inT ?_ | refine vo_ninT ?_ | refine vo_inL ?_ | refine vo_ninL ?_ | refine vo_inI ?_ | refine vo_ninI ?_ | refine vo_sortI (by first | assumption | omega) ?_ | refine vo_sortL ?_ | refine vo_lenI ?_ | refine vo_lt3 ?_ | refine vo_isNN ?_ | refine vo_is3N ?_ | refine vo_isTN ?_ | refine vo_isIN ?_ | refine vo_igAddI ?_ | refine vo_ixI (by assumption) ?_
  | refine vo_vwD1 (by assumption) ?_ | refine vo_vwDc (by assumption) ?_
  | refine wo_vw1 (by assumption) ?_ | refine wo_vw2 (by assumption) ?_ | refine vo_vwc (by assumption) ?_
  | (refine vo_isi (c := ?c) ?h ?q; (case h => with_unfolding_all rfl)) | (refine vo_isis (c := ?c) ?h ?q; (case h => with_unfolding_all rfl))))
local macro_rules | `(tactic| walk_at "w3") => `(tactic| first
  | with_reducible refine nb_ff ?_ | with_reducible refine nb_tt ?_ | with_reducible refine nb_ft ?_ | with_reducible refine nb_tf ?_
  | with_reducible refine ite_f ?_ | with_reducible refine ite_nt ?_ | with_reducible refine ite_nf ?_ | with_reducible refine ite_t ?_
  | ((with_reducible refine ex_id ?_); refine ⟨_, rfl, ?_⟩) | ((with_reducible refine and_id ?_); refine ⟨Nat.le_of_ble_eq_true rfl, ?_⟩))
local macro_rules | `(tactic| walk_at "w") => `(tactic| repeat (first | walk_at "w1" | walk_at "w2" | walk_at "w3"))
theorem wp_uopen2 {ns : List Int} (h : ns.length ≤ 63) {Q : D → Sto → Prop} {E : Px} (q : ∀ S, JarS S 0 0 → S.length = 1 → Q (.ref 0) S) : Wp (d_uopen [.scr ns] []) Q E := by
  unfold d_uopen b_uopen
  walk_at "w"
  rw [cut_map]
  walk_at "w"
  exact q _ ⟨cutL ns none (some 60), 0, 0, rfl, by omega, by omega⟩ rfl
theorem wp_init {S : Sto} {n : Nat} {a b c : Int} {Q : D → Sto → Prop} {E : Px} (h : S[n]? = some (some (.ins "Tape" [])))
    (q : ∀ S', S'.length = S.length + 1 → TapeAt S' n S.length a b c [] → (∀ j, j < S.length → j ≠ n → S'[j]? = S[j]?) → Q .non S') : Wp (d_Tape___init__ [.ref n, .int a, .int b, .int c] S) Q E := by
  have hn := (List.getElem?_eq_some_iff.mp h).1
  unfold d_Tape___init__ b_Tape___init__
  walk_at "w"
  refine ws_fldS ?_
  walk_at "w"
  refine ⟨n, _, rfl, h, Nat.le_of_ble_eq_true rfl, ?_⟩
  refine set_gen h fun S1 a1 o1 => ?_
  walk_at "w"
  refine ws_fldS ?_
  walk_at "w"
  refine ⟨n, _, rfl, a1, Nat.le_of_ble_eq_true rfl, ?_⟩
  refine set_gen a1 fun S2 a2 o2 => ?_
  walk_at "w"
  refine ws_fldS ?_
  walk_at "w"
  refine ⟨n, _, rfl, a2, Nat.le_of_ble_eq_true rfl, ?_⟩
  refine set_gen a2 fun S3 a3 o3 => ?_
  walk_at "w"
  refine ws_fldS ?_
  walk_at "w"
  have l3 : S3.length = S.length := by rw [o3.1, o2.1, o1.1]
  have a3' : (S3 ++ [some (Ob.lst [])])[n]? = _ := (List.getElem?_append_left (by omega)).trans a3
  refine ⟨n, _, rfl, a3', Nat.le_of_ble_eq_true rfl, ?_⟩
  refine set_gen a3' fun S4 a4 o4 => ?_
  walk_at "w"
  refine ws_fldS ?_
  walk_at "w"
  refine ⟨n, _, rfl, a4, Nat.le_of_ble_eq_true rfl, ?_⟩
  refine set_gen a4 fun S5 a5 o5 => ?_
  walk_at "w"
  have l5 : S5.length = S.length + 1 := by rw [o5.1, o4.1, List.length_append, l3]; rfl
  refine q S5 l5 ⟨?_, ?_⟩ fun j hj hne => ?_
  · rw [a5, l3]
    rfl
  · rw [o5.2 _ (by omega), o4.2 _ (by omega), ← l3]
    exact app_at
  · rw [o5.2 _ hne, o4.2 _ hne, List.getElem?_append_left (by omega), o3.2 _ hne, o2.2 _ hne, o1.2 _ hne]
theorem mul_b {v g : Int} (h0 : 0 ≤ v) (h1 : v ≤ 80) (g0 : 1 ≤ g) (g1 : g ≤ 1000000000000) : 0 ≤ v * g ∧ v * g ≤ 1000000000000000 := by
  have a := Int.mul_nonneg h0 (show 0 ≤ g by omega)
  have b : v * g ≤ 80 * g := Int.mul_le_mul_of_nonneg_right h1 (by omega)
  omega
theorem law_ok (ns : List Int) (hns : ns.length ≤ 63) : ∃ S, d_law [.scr ns] [] = .ok (.bl true) S := by
  suffices h : Wp (d_law [.scr ns] []) (fun d _ => d = .bl true) noX by
    obtain ⟨d, S, e, rfl⟩ := h.ok
    exact ⟨S, e⟩
  unfold d_law b_law
  walk_at "w"
  refine wp_uopen2 hns fun S j0 l0 => ?_
  walk_at "w"
  rw [l0]
  unfold l_law_1
  refine ws_for [3, 4] ?_
  walk_at "w"
  refine ⟨by omega, fun j vs S' => ∃ os : List Ow, os.length = j ∧ (∀ o ∈ os, OwB o) ∧ S'[1]? = some (some (.lst (os.map ownD))) ∧ JarS S' 0 (j * 10) ∧ S'.length = 2 ∧ ∃ a b, vs = [a, b], [none, none], rfl, rfl, ⟨[], rfl, fun o ho => by simp at ho, by rw [← l0]; exact app_at, ?_, by simp [l0], _, _, rfl⟩, ?_, ?_⟩
  · exact jar_keep (j0.mono (by omega)) (List.getElem?_append_left (by omega))
  · rintro j d vs S' hj hv ⟨os, ol, ob, h1, j1, l1, a, b, rfl⟩
    obtain ⟨rfl, hlt⟩ := iRng_at hj
    refine ⟨_, rfl, ?_⟩
    dsimp only [putAll, List.set_cons_zero, List.set_cons_succ]
    unfold lb_law_1
    walk_at "w"
    refine .of (d := .int 1000000000000) rfl ?_
    walk_at "w"
    refine wp_udraw j1 (by omega) (by omega) fun v S2 a2 b2 j2 o2 => ?_
    walk_at "w"
    refine wo_ixAll ⟨by omega, by simp; omega⟩ fun d hd => ?_
    have hd2 : ∃ gq : Int, d = .int gq ∧ 1 ≤ gq ∧ gq ≤ 1000000000000 := by
      simp only [List.mem_cons, List.mem_nil_iff, or_false] at hd
      rcases hd with rfl | rfl | rfl | rfl
      · exact ⟨_, rfl, by omega, by omega⟩
      · exact ⟨_, rfl, by omega, by omega⟩
      · exact ⟨_, rfl, by omega, by omega⟩
      · exact ⟨_, rfl, by omega, by omega⟩
    obtain ⟨gq, rfl, q1, q2⟩ := hd2
    have h2 : S2[1]? = some (some (.lst (os.map ownD))) := by rw [o2.2 1 (by omega)]; exact h1
    walk_at "w"
    refine ⟨by rw [lst_at h2]; rfl, ?_⟩
    walk_at "w"
    refine wp_udraw j2 (by omega) (by omega) fun v3 S3 a3 b3 j3 o3 => ?_
    walk_at "w"
    refine wp_udraw j3 (by omega) (by omega) fun v4 S4 a4 b4 j4 o4 => ?_
    walk_at "w"
    refine wp_udraw j4 (by omega) (by omega) fun v5 S5 a5 b5 j5 o5 => ?_
    walk_at "w"
    have h5 : S5[1]? = some (some (.lst (os.map ownD))) := by rw [o5.2 1 (by omega), o4.2 1 (by omega), o3.2 1 (by omega)]; exact h2
    refine ⟨_, _, _, h5, gApp (by rw [List.length_map, ol]; omega), ?_⟩
    refine set_gen h5 fun S6 a6 o6 => ?_
    walk_at "w"
    have m1 := mul_b a3 (by omega) q1 q2
    have m2 := mul_b a4 (by omega) q1 q2
    have m3 := mul_b a5 (by omega) q1 q2
    refine ⟨[_, _], rfl, rfl, os ++ [(v3 * gq, v4 * gq, v5 * gq)], by simp [ol], fun o ho => ?_, by rw [a6]; simp, jar_keep (j5.mono (by omega)) (o6.2 0 (by omega)), by rw [o6.1, o5.1, o4.1, o3.1, o2.1, l1], _, _, rfl⟩
    rcases List.mem_append.mp ho with ho | ho
    · exact ob o ho
    · rw [List.mem_singleton.mp ho]
      exact ⟨m1, m2, m3⟩
  · rintro vs S' hv ⟨os, ol, ob, h1, j1, l1, a, b, rfl⟩
    dsimp only [putAll, List.set_cons_zero, List.set_cons_succ]
    have : ∃ o0 o1, os = [o0, o1] := by
      rw [iRng_len] at ol
      match os, ol with
      | [o0, o1], _ => exact ⟨_, _, rfl⟩
    obtain ⟨o0, o1, rfl⟩ := this
    have B0 := ob o0 (by simp)
    have B1 := ob o1 (by simp)
    have h1 : S'[1]? = some (some (.lst [ownD o0, ownD o1])) := h1
    refine ws_then ?_
    refine ws_seq ?_
    refine ws_unl ?_
    walk_at "w"
    refine ⟨1, _, _, rfl, h1, rfl, ?_⟩
    dsimp only [List.set_cons_zero, List.set_cons_succ]
    walk_at "w"
    refine wp_mk ?_
    walk_at "w"
    rw [l1]
    refine wp_init (n := 2) (by rw [← l1]; exact app_at) fun S2 l2 t2 k2 => ?_
    have l2' : S2.length = 4 := by rw [l2, List.length_append, l1]; rfl
    have t2' : TapeAt S2 2 3 o0.1 o0.2.1 o0.2.2 [] := by
      have z := t2
      rw [List.length_append, l1] at z
      exact z
    have b2 : ∀ x, x < 2 → S2[x]? = S'[x]? := fun x hx => by
      rw [k2 x (by rw [List.length_append, l1]; show x < 3; omega) (by omega), List.getElem?_append_left (by omega)]
    walk_at "w"
    refine ⟨rfl, ?_⟩
    walk_at "w"
    have l3 : (S2 ++ [some (Ob.lst [D.ref 2])]).length = 5 := by rw [List.length_append, l2']; rfl
    have f4 : (S2 ++ [some (Ob.lst [D.ref 2])])[4]? = some (some (.lst [.ref 2])) := by
      have z : (S2 ++ [some (Ob.lst [D.ref 2])])[S2.length]? = _ := app_at
      rw [l2'] at z
      exact z
    have x3 : Ext S2 (S2 ++ [some (Ob.lst [D.ref 2])]) := .app
    rw [l2']
    generalize S2 ++ [some (Ob.lst [D.ref 2])] = S3 at l3 f4 x3
    have t3 := t2'.ext x3
    refine ⟨by rw [lst_at f4]; rfl, ?_⟩
    walk_at "w"
    refine wp_mkK ?_
    walk_at "w"
    show Wp (d_Tape___init__ [.ref S3.length, .int o1.1, .int o1.2.1, .int o1.2.2] _) _ _
    rw [l3]
    refine wp_init (n := 5) (by rw [← l3]; exact app_at) fun S4 l4 t4 k4 => ?_
    have l4' : S4.length = 7 := by rw [l4, List.length_append, l3]; rfl
    have t4' : TapeAt S4 5 6 o1.1 o1.2.1 o1.2.2 [] := by
      have z := t4
      rw [List.length_append, l3] at z
      exact z
    have b4 : ∀ x, x < 5 → S4[x]? = S3[x]? := fun x hx => by
      rw [k4 x (by rw [List.length_append, l3]; show x < 6; omega) (by omega), List.getElem?_append_left (by omega)]
    have f4' : S4[4]? = some (some (.lst [.ref 2])) := by rw [b4 4 (by omega)]; exact f4
    refine ⟨rfl, ?_⟩
    walk_at "w"
    refine ⟨_, _, _, f4', gApp (by simp), ?_⟩
    refine set_gen f4' fun S5 a5 o5 => ?_
    have l5 : S5.length = 7 := by rw [o5.1, l4']
    walk_at "w"
    have e1l : (S5 ++ [some (Ob.lst [])]).length = 8 := by rw [List.length_append, l5]; rfl
    have p7 : (S5 ++ [some (Ob.lst [])])[7]? = some (some (.lst (heldD []))) := by rw [← l5]; exact app_at
    have y1 : Ext S5 (S5 ++ [some (Ob.lst [])]) := .app
    rw [l5]
    generalize S5 ++ [some (Ob.lst [])] = E1 at e1l p7 y1
    have e2l : (E1 ++ [some (Ob.lst [])]).length = 9 := by rw [List.length_append, e1l]; rfl
    have p8 : (E1 ++ [some (Ob.lst [])])[8]? = some (some (.lst (heldD []))) := by rw [← e1l]; exact app_at
    have y2 : Ext E1 (E1 ++ [some (Ob.lst [])]) := .app
    rw [e1l]
    generalize E1 ++ [some (Ob.lst [])] = E2 at e2l p8 y2
    have p9 : (E2 ++ [some (Ob.lst [D.ref 7, D.ref 8])])[9]? = some (some (.lst [.ref 7, .ref 8])) := by rw [← e2l]; exact app_at
    have y3 : Ext E2 (E2 ++ [some (Ob.lst [D.ref 7, D.ref 8])]) := .app
    rw [e2l]
    generalize E2 ++ [some (Ob.lst [D.ref 7, D.ref 8])] = E3 at p9 y3
    have y := (y1.trans y2).trans y3
    have ch : ∀ x, x < 2 → E3[x]? = S'[x]? := fun x hx => by
      rw [y.2 x (by omega), o5.2 x (by omega), b4 x (by omega), x3.2 x (by omega), b2 x hx]
    rw [iRng_len] at j1
    have s0 : St E3 20 o0 o1 [] [] 3 6 := by
      refine ⟨jar_keep (j1.mono (by omega)) (ch 0 (by omega)), by rw [ch 1 (by omega)]; exact h1, y.at_ a5, p9, TapeAt.ext ⟨?_, ?_⟩ y, TapeAt.ext ⟨?_, ?_⟩ y, (y2.trans y3).at_ p7, y3.at_ p8, by decide, by decide, by decide⟩
      · rw [o5.2 2 (by omega), b4 2 (by omega)]; exact t3.o
      · rw [o5.2 3 (by omega), b4 3 (by omega)]; exact t3.l
      · rw [o5.2 5 (by omega)]; exact t4'.o
      · rw [o5.2 6 (by omega)]; exact t4'.l
    unfold l_law_3
    refine ws_for [3, 9, 10, 11, 12, 13, 14] ?_
    walk_at "w"
    refine ⟨by omega, fun j vs S6 => ∃ hs0 hs1 h0 h1, St S6 (20 + j * 200) o0 o1 hs0 hs1 h0 h1 ∧ (∀ r ∈ hs0, OkRc r) ∧ (∀ r ∈ hs1, OkRc r) ∧ hs0.length ≤ j ∧ hs1.length ≤ j ∧ ∃ c3 c9 c10 c11 c12 c13 c14, vs = [c3, c9, c10, c11, c12, c13, c14], [a, none, none, none, none, none, none], rfl, rfl, ⟨[], [], 3, 6, by rw [show (20 : Int) + ((0 : Nat) : Int) * 200 = 20 from rfl]; exact s0, fun r hr => by simp at hr, fun r hr => by simp at hr, by simp, by simp, _, _, _, _, _, _, _, rfl⟩, ?_, ?_⟩
    · rintro j d vs S6 hj hv ⟨hs0, hs1, i0, i1, st, r0, r1, n0, n1, c3, c9, c10, c11, c12, c13, c14, rfl⟩
      obtain ⟨rfl, hlt⟩ := iRng_at hj
      refine ⟨_, rfl, ?_⟩
      dsimp only [putAll, List.set_cons_zero, List.set_cons_succ]
      refine ws_body st B0 B1 r0 r1 (by omega) (by omega) (by omega) fun d3 d10 d11 d12 d13 d14 S7 hs0' hs1' i0' i1' st' r0' r1' n0' n1' => ?_
      exact ⟨[_, _, _, _, _, _, _], rfl, rfl, hs0', hs1', i0', i1', by
        have e : 20 + ((j + 1 : Nat) : Int) * 200 = 20 + (j : Int) * 200 + 200 := by push_cast; omega
        rw [e]; exact st', r0', r1', by omega, by omega, _, _, _, _, _, _, _, rfl⟩
    · rintro vs S6 hv _
      walk_at "w"
      rfl
end C37
set_option Elab.async false
set_option linter.all false
set_option maxRecDepth 100000
set_option maxHeartbeats 0
namespace C37
open PySem PySem.Spec PyProof.Rows L2 DL
def top (i : Nat) : Stmt := PySem.Challenge.pw_saltvault_k37_tapes.main.body.getD i (.Pass ⟨0, 0, 0, 0⟩)
abbrev s_uopen : Stmt := top 26
abbrev N_uopen : List Str := ["_law_script"]
theorem sc_uopen : FnScope N_uopen ["_law_script"] (defScope s_uopen) := ⟨rfl, rfl, rfl, by decide +kernel, rfl, by decide +kernel, by decide +kernel⟩
def a_uopen : He.DefD := ⟨("_law_uopen", none), "_law_uopen", "_law_uopen", defArgs s_uopen, defBody s_uopen, defScope s_uopen, [], []⟩
abbrev s_umixed : Stmt := top 25
abbrev N_umixed : List Str := ["_law_cell", "_law_at", "_law_one", "_law_two", "_law_three"]
theorem sc_umixed : FnScope N_umixed ["_law_cell", "_law_at"] (defScope s_umixed) := ⟨rfl, rfl, rfl, by decide +kernel, rfl, by decide +kernel, by decide +kernel⟩
def a_umixed : He.DefD := ⟨("_law_umixed", none), "_law_umixed", "_law_umixed", defArgs s_umixed, defBody s_umixed, defScope s_umixed, [], []⟩
abbrev s_udraw : Stmt := top 27
abbrev N_udraw : List Str := ["_law_feed", "_law_below", "_law_at", "_law_cell", "_law_drawn"]
theorem sc_udraw : FnScope N_udraw ["_law_feed", "_law_below"] (defScope s_udraw) := ⟨rfl, rfl, rfl, by decide +kernel, rfl, by decide +kernel, by decide +kernel⟩
def a_udraw : He.DefD := ⟨("_law_udraw", none), "_law_udraw", "_law_udraw", defArgs s_udraw, defBody s_udraw, defScope s_udraw, [], []⟩
abbrev s_Tape___init__ : Stmt := clsAt (top 23) 0
abbrev N_Tape___init__ : List Str := ["self", "number", "site", "room"]
theorem sc_Tape___init__ : FnScope N_Tape___init__ ["self", "number", "site", "room"] (defScope s_Tape___init__) := ⟨rfl, rfl, rfl, by decide +kernel, rfl, by decide +kernel, by decide +kernel⟩
def a_Tape___init__ : He.DefD := ⟨("Tape", some "__init__"), "__init__", "Tape.__init__", defArgs s_Tape___init__, defBody s_Tape___init__, defScope s_Tape___init__, [], []⟩
abbrev s_ulabel : Stmt := top 31
abbrev N_ulabel : List Str := ["_law_feed", "_law_shard", "_law_sort", "_law_which", "_law_turn"]
theorem sc_ulabel : FnScope N_ulabel ["_law_feed", "_law_shard"] (defScope s_ulabel) := ⟨rfl, rfl, rfl, by decide +kernel, rfl, by decide +kernel, by decide +kernel⟩
def a_ulabel : He.DefD := ⟨("_law_ulabel", none), "_law_ulabel", "_law_ulabel", defArgs s_ulabel, defBody s_ulabel, defScope s_ulabel, [], []⟩
abbrev s_urow : Stmt := top 29
abbrev N_urow : List Str := ["_law_feed", "_law_limit", "_law_k"]
theorem sc_urow : FnScope N_urow ["_law_feed", "_law_limit"] (defScope s_urow) := ⟨rfl, rfl, rfl, by decide +kernel, rfl, by decide +kernel, by decide +kernel⟩
def a_urow : He.DefD := ⟨("_law_urow", none), "_law_urow", "_law_urow", defArgs s_urow, defBody s_urow, defScope s_urow, [], []⟩
abbrev s_uwhole : Stmt := top 28
abbrev N_uwhole : List Str := ["_law_thing"]
theorem sc_uwhole : FnScope N_uwhole ["_law_thing"] (defScope s_uwhole) := ⟨rfl, rfl, rfl, by decide +kernel, rfl, by decide +kernel, by decide +kernel⟩
def a_uwhole : He.DefD := ⟨("_law_uwhole", none), "_law_uwhole", "_law_uwhole", defArgs s_uwhole, defBody s_uwhole, defScope s_uwhole, [], []⟩
abbrev s_uis_place : Stmt := top 34
abbrev N_uis_place : List Str := ["_law_thing", "_law_below"]
theorem sc_uis_place : FnScope N_uis_place ["_law_thing", "_law_below"] (defScope s_uis_place) := ⟨rfl, rfl, rfl, by decide +kernel, rfl, by decide +kernel, by decide +kernel⟩
def a_uis_place : He.DefD := ⟨("_law_uis_place", none), "_law_uis_place", "_law_uis_place", defArgs s_uis_place, defBody s_uis_place, defScope s_uis_place, [], []⟩
abbrev s_utape_turn : Stmt := top 36
abbrev N_utape_turn : List Str := ["_law_feed", "_law_held", "_law_odd", "_law_place", "_law_way", "_law_size", "_law_at", "_law_by", "_law_k"]
theorem sc_utape_turn : FnScope N_utape_turn ["_law_feed", "_law_held"] (defScope s_utape_turn) := ⟨rfl, rfl, rfl, by decide +kernel, rfl, by decide +kernel, by decide +kernel⟩
def a_utape_turn : He.DefD := ⟨("_law_utape_turn", none), "_law_utape_turn", "_law_utape_turn", defArgs s_utape_turn, defBody s_utape_turn, defScope s_utape_turn, [], []⟩
abbrev s_utape_due : Stmt := top 35
abbrev N_utape_due : List Str := ["_law_held", "_law_wide", "_law_word", "_law_some", "_law_label", "_law_row", "_law_sign"]
theorem sc_utape_due : FnScope N_utape_due ["_law_held", "_law_wide", "_law_word", "_law_some"] (defScope s_utape_due) := ⟨rfl, rfl, rfl, by decide +kernel, rfl, by decide +kernel, by decide +kernel⟩
def a_utape_due : He.DefD := ⟨("_law_utape_due", none), "_law_utape_due", "_law_utape_due", defArgs s_utape_due, defBody s_utape_due, defScope s_utape_due, [], []⟩
abbrev s_Tape_load : Stmt := clsAt (top 23) 2
abbrev N_Tape_load : List Str := ["self"]
theorem sc_Tape_load : FnScope N_Tape_load ["self"] (defScope s_Tape_load) := ⟨rfl, rfl, rfl, by decide +kernel, rfl, by decide +kernel, by decide +kernel⟩
def a_Tape_load : He.DefD := ⟨("Tape", some "load"), "load", "Tape.load", defArgs s_Tape_load, defBody s_Tape_load, defScope s_Tape_load, [], []⟩
abbrev s_Tape_write : Stmt := clsAt (top 23) 3
abbrev N_Tape_write : List Str := ["self", "label", "row"]
theorem sc_Tape_write : FnScope N_Tape_write ["self", "label", "row"] (defScope s_Tape_write) := ⟨rfl, rfl, rfl, by decide +kernel, rfl, by decide +kernel, by decide +kernel⟩
def a_Tape_write : He.DefD := ⟨("Tape", some "write"), "write", "Tape.write", defArgs s_Tape_write, defBody s_Tape_write, defScope s_Tape_write, [], []⟩
abbrev s_is_number : Stmt := top 22
abbrev N_is_number : List Str := ["thing", "least", "below"]
theorem sc_is_number : FnScope N_is_number ["thing", "least", "below"] (defScope s_is_number) := ⟨rfl, rfl, rfl, by decide +kernel, rfl, by decide +kernel, by decide +kernel⟩
def a_is_number : He.DefD := ⟨("is_number", none), "is_number", "is_number", defArgs s_is_number, defBody s_is_number, defScope s_is_number, [], []⟩
abbrev s_Tape_need_place : Stmt := clsAt (top 23) 4
abbrev N_Tape_need_place : List Str := ["self", "place"]
theorem sc_Tape_need_place : FnScope N_Tape_need_place ["self", "place"] (defScope s_Tape_need_place) := ⟨rfl, rfl, rfl, by decide +kernel, rfl, by decide +kernel, by decide +kernel⟩
def a_Tape_need_place : He.DefD := ⟨("Tape", some "need_place"), "need_place", "Tape.need_place", defArgs s_Tape_need_place, defBody s_Tape_need_place, defScope s_Tape_need_place, [], []⟩
abbrev s_Tape_read : Stmt := clsAt (top 23) 5
abbrev N_Tape_read : List Str := ["self", "place"]
theorem sc_Tape_read : FnScope N_Tape_read ["self", "place"] (defScope s_Tape_read) := ⟨rfl, rfl, rfl, by decide +kernel, rfl, by decide +kernel, by decide +kernel⟩
def a_Tape_read : He.DefD := ⟨("Tape", some "read"), "read", "Tape.read", defArgs s_Tape_read, defBody s_Tape_read, defScope s_Tape_read, [], []⟩
abbrev s_Tape_harm : Stmt := clsAt (top 23) 6
abbrev N_Tape_harm : List Str := ["self", "place", "at", "by", "label", "row"]
theorem sc_Tape_harm : FnScope N_Tape_harm ["self", "place", "at", "by"] (defScope s_Tape_harm) := ⟨rfl, rfl, rfl, by decide +kernel, rfl, by decide +kernel, by decide +kernel⟩
def a_Tape_harm : He.DefD := ⟨("Tape", some "harm"), "harm", "Tape.harm", defArgs s_Tape_harm, defBody s_Tape_harm, defScope s_Tape_harm, [], []⟩
abbrev s_Tape_put_right : Stmt := clsAt (top 23) 7
abbrev N_Tape_put_right : List Str := ["self", "place", "row"]
theorem sc_Tape_put_right : FnScope N_Tape_put_right ["self", "place", "row"] (defScope s_Tape_put_right) := ⟨rfl, rfl, rfl, by decide +kernel, rfl, by decide +kernel, by decide +kernel⟩
def a_Tape_put_right : He.DefD := ⟨("Tape", some "put_right"), "put_right", "Tape.put_right", defArgs s_Tape_put_right, defBody s_Tape_put_right, defScope s_Tape_put_right, [], []⟩
abbrev s_Tape_strike : Stmt := clsAt (top 23) 8
abbrev N_Tape_strike : List Str := ["self", "place", "label", "row"]
theorem sc_Tape_strike : FnScope N_Tape_strike ["self", "place"] (defScope s_Tape_strike) := ⟨rfl, rfl, rfl, by decide +kernel, rfl, by decide +kernel, by decide +kernel⟩
def a_Tape_strike : He.DefD := ⟨("Tape", some "strike"), "strike", "Tape.strike", defArgs s_Tape_strike, defBody s_Tape_strike, defScope s_Tape_strike, [], []⟩
abbrev s_Tape_blank : Stmt := clsAt (top 23) 9
abbrev N_Tape_blank : List Str := ["self"]
theorem sc_Tape_blank : FnScope N_Tape_blank ["self"] (defScope s_Tape_blank) := ⟨rfl, rfl, rfl, by decide +kernel, rfl, by decide +kernel, by decide +kernel⟩
def a_Tape_blank : He.DefD := ⟨("Tape", some "blank"), "blank", "Tape.blank", defArgs s_Tape_blank, defBody s_Tape_blank, defScope s_Tape_blank, [], []⟩
abbrev s_utape_deed : Stmt := top 32
abbrev N_utape_deed : List Str := ["_law_tape", "_law_word", "_law_some"]
theorem sc_utape_deed : FnScope N_utape_deed ["_law_tape", "_law_word", "_law_some"] (defScope s_utape_deed) := ⟨rfl, rfl, rfl, by decide +kernel, rfl, by decide +kernel, by decide +kernel⟩
def a_utape_deed : He.DefD := ⟨("_law_utape_deed", none), "_law_utape_deed", "_law_utape_deed", defArgs s_utape_deed, defBody s_utape_deed, defScope s_utape_deed, [], []⟩
abbrev s_uword : Stmt := top 30
abbrev N_uword : List Str := ["_law_caught", "_law_kinds", "_law_words"]
theorem sc_uword : FnScope N_uword ["_law_caught"] (defScope s_uword) := ⟨rfl, rfl, rfl, by decide +kernel, rfl, by decide +kernel, by decide +kernel⟩
def a_uword : He.DefD := ⟨("_law_uword", none), "_law_uword", "_law_uword", defArgs s_uword, defBody s_uword, defScope s_uword, [], []⟩
abbrev s_utape_told : Stmt := top 33
abbrev N_utape_told : List Str := ["_law_tape", "_law_word", "_law_some", "_law_caught", "_law_found", "e"]
theorem sc_utape_told : FnScope N_utape_told ["_law_tape", "_law_word", "_law_some"] (defScope s_utape_told) := ⟨rfl, rfl, rfl, by decide +kernel, rfl, by decide +kernel, by decide +kernel⟩
def a_utape_told : He.DefD := ⟨("_law_utape_told", none), "_law_utape_told", "_law_utape_told", defArgs s_utape_told, defBody s_utape_told, defScope s_utape_told, [], []⟩
abbrev s_Tape_records : Stmt := clsAt (top 23) 10
abbrev N_Tape_records : List Str := ["self"]
theorem sc_Tape_records : FnScope N_Tape_records ["self"] (defScope s_Tape_records) := ⟨rfl, rfl, rfl, by decide +kernel, rfl, by decide +kernel, by decide +kernel⟩
def a_Tape_records : He.DefD := ⟨("Tape", some "records"), "records", "Tape.records", defArgs s_Tape_records, defBody s_Tape_records, defScope s_Tape_records, [], []⟩
abbrev s_Tape___len__ : Stmt := clsAt (top 23) 1
abbrev N_Tape___len__ : List Str := ["self"]
theorem sc_Tape___len__ : FnScope N_Tape___len__ ["self"] (defScope s_Tape___len__) := ⟨rfl, rfl, rfl, by decide +kernel, rfl, by decide +kernel, by decide +kernel⟩
def a_Tape___len__ : He.DefD := ⟨("Tape", some "__len__"), "__len__", "Tape.__len__", defArgs s_Tape___len__, defBody s_Tape___len__, defScope s_Tape___len__, [], []⟩
abbrev s_u_has : Stmt := top 37
abbrev N_u_has : List Str := ["_law_tape", "_law_held", "_law_own", "_law_found", "_law_load", "_law_label", "_law_row"]
theorem sc_u_has : FnScope N_u_has ["_law_tape", "_law_held", "_law_own"] (defScope s_u_has) := ⟨rfl, rfl, rfl, by decide +kernel, rfl, by decide +kernel, by decide +kernel⟩
def a_u_has : He.DefD := ⟨("_law_u_has", none), "_law_u_has", "_law_u_has", defArgs s_u_has, defBody s_u_has, defScope s_u_has, [], []⟩
abbrev s_law : Stmt := top 38
abbrev N_law : List Str := ["_law_script", "_law_feed", "_law_owns", "_law_k", "_law_great", "_law_first", "_law_second", "_law_two", "_law_helds", "_law_turn", "_law_word", "_law_some", "_law_seen", "_law_due", "_law_j"]
theorem sc_law : FnScope N_law ["_law_script"] (defScope s_law) := ⟨rfl, rfl, rfl, by decide +kernel, rfl, by decide +kernel, by decide +kernel⟩
def a_law : He.DefD := ⟨("law", none), "law", "law", defArgs s_law, defBody s_law, defScope s_law, [], []⟩
def fn : List He.DefD := [a_uopen, a_umixed, a_udraw, a_Tape___init__, a_ulabel, a_urow, a_uwhole, a_uis_place, a_utape_turn, a_utape_due, a_Tape_load, a_Tape_write, a_is_number, a_Tape_need_place, a_Tape_read, a_Tape_harm, a_Tape_put_right, a_Tape_strike, a_Tape_blank, a_utape_deed, a_uword, a_utape_told, a_Tape_records, a_Tape___len__, a_u_has, a_law]
def fa : List He.Fa := [.glo "_law_uopen", .glo "_law_umixed", .glo "_law_udraw", .glo "_law_ulabel", .glo "_law_urow", .glo "_law_uwhole", .glo "_law_uis_place", .glo "_law_utape_turn", .glo "_law_utape_due", .glo "is_number", .glo "_law_utape_deed", .glo "_law_uword", .glo "_law_utape_told", .glo "_law_u_has", .glo "law", .glo "Tape", .cls "Tape", .noat "Tape" "held", .noat "Tape" "number", .noat "Tape" "room", .noat "Tape" "site", .noat "Tape" "used", .meth "Tape" "load", .meth "Tape" "write", .meth "Tape" "need_place", .meth "Tape" "read", .meth "Tape" "harm", .meth "Tape" "put_right", .meth "Tape" "strike", .meth "Tape" "blank", .meth "Tape" "records", .meth "Tape" "__len__", .mkr "Tape", .free "ValueError", .free "bool", .free "int", .free "isinstance", .free "len", .free "list", .free "range", .free "repr", .free "sum", .free "tuple", .int "PRIME" (31), .glo "BadFiles", .glo "BadHold", .glo "BadRack", .glo "Full", .glo "Lost", .glo "NoBook", .glo "NoChain", .glo "NoDays", .glo "NoFile", .glo "NoHold", .glo "NoMoment", .glo "NoPlace", .glo "NoRoom", .glo "NoRow", .glo "NoSign", .glo "NoTape", .glo "TooMany", .glo "Twice", .glo "VaultError", .exc "Full", .exc "NoPlace", .exc "NoSign", .exm "Full" "VaultError" true, .exm "NoPlace" "VaultError" true, .exm "NoSign" "VaultError" true]
def ex (K : PySem.W.Frag) : Bool := sysB K && isxAll K ["Full", "NoPlace", "NoSign"] ["BadFiles", "BadHold", "BadRack", "Full", "Lost", "NoBook", "NoChain", "NoDays", "NoFile", "NoHold", "NoMoment", "NoPlace", "NoRoom", "NoRow", "NoSign", "NoTape", "TooMany", "Twice", "ValueError"]
structure Fx (K : PySem.W.Frag) (mg : Str → Option Value) : Prop where
  c : He.SaysD fa fn K
  h : ∃ h, K.In h ∧ h.Ns mainGlobals mg
  e : ex K = true
section
variable {K : PySem.W.Frag} {mg : Str → Option Value} (fx : Fx K mg)
include fx
theorem Fx.g_Tape : mg "Tape" = some (.ref (He.ga K "Tape")) := by obtain ⟨h, X, G⟩ := fx.h; exact He.glo_ok X G (fx.c.fact 15 (f := .glo "Tape") rfl)
theorem Fx.cl_Tape : Cls K (He.ga K "Tape") := He.cls_ok (fx.c.fact 16 (f := .cls "Tape") rfl)
theorem Fx.na_Tape_held : NoAttr K (He.ga K "Tape") "held" := He.noat_ok (fx.c.fact 17 (f := .noat "Tape" "held") rfl)
theorem Fx.na_Tape_number : NoAttr K (He.ga K "Tape") "number" := He.noat_ok (fx.c.fact 18 (f := .noat "Tape" "number") rfl)
theorem Fx.na_Tape_room : NoAttr K (He.ga K "Tape") "room" := He.noat_ok (fx.c.fact 19 (f := .noat "Tape" "room") rfl)
theorem Fx.na_Tape_site : NoAttr K (He.ga K "Tape") "site" := He.noat_ok (fx.c.fact 20 (f := .noat "Tape" "site") rfl)
theorem Fx.na_Tape_used : NoAttr K (He.ga K "Tape") "used" := He.noat_ok (fx.c.fact 21 (f := .noat "Tape" "used") rfl)
theorem Fx.mt_Tape_load : Meth K (He.ga K "Tape") "load" (He.fAd K ("Tape", some "load")) := He.meth_ok (fx.c.fact 22 (f := .meth "Tape" "load") rfl)
theorem Fx.mt_Tape_write : Meth K (He.ga K "Tape") "write" (He.fAd K ("Tape", some "write")) := He.meth_ok (fx.c.fact 23 (f := .meth "Tape" "write") rfl)
theorem Fx.mt_Tape_need_place : Meth K (He.ga K "Tape") "need_place" (He.fAd K ("Tape", some "need_place")) := He.meth_ok (fx.c.fact 24 (f := .meth "Tape" "need_place") rfl)
theorem Fx.mt_Tape_read : Meth K (He.ga K "Tape") "read" (He.fAd K ("Tape", some "read")) := He.meth_ok (fx.c.fact 25 (f := .meth "Tape" "read") rfl)
theorem Fx.mt_Tape_harm : Meth K (He.ga K "Tape") "harm" (He.fAd K ("Tape", some "harm")) := He.meth_ok (fx.c.fact 26 (f := .meth "Tape" "harm") rfl)
theorem Fx.mt_Tape_put_right : Meth K (He.ga K "Tape") "put_right" (He.fAd K ("Tape", some "put_right")) := He.meth_ok (fx.c.fact 27 (f := .meth "Tape" "put_right") rfl)
theorem Fx.mt_Tape_strike : Meth K (He.ga K "Tape") "strike" (He.fAd K ("Tape", some "strike")) := He.meth_ok (fx.c.fact 28 (f := .meth "Tape" "strike") rfl)
theorem Fx.mt_Tape_blank : Meth K (He.ga K "Tape") "blank" (He.fAd K ("Tape", some "blank")) := He.meth_ok (fx.c.fact 29 (f := .meth "Tape" "blank") rfl)
theorem Fx.mt_Tape_records : Meth K (He.ga K "Tape") "records" (He.fAd K ("Tape", some "records")) := He.meth_ok (fx.c.fact 30 (f := .meth "Tape" "records") rfl)
theorem Fx.mt_Tape___len__ : Meth K (He.ga K "Tape") "__len__" (He.fAd K ("Tape", some "__len__")) := He.meth_ok (fx.c.fact 31 (f := .meth "Tape" "__len__") rfl)
theorem Fx.mk_Tape : Mk K (He.ga K "Tape") (He.fAd K ("Tape", some "__init__")) := He.mkr_ok (fx.c.fact 32 (f := .mkr "Tape") rfl)
theorem Fx.g_uopen : mg "_law_uopen" = some (.ref (He.ga K "_law_uopen")) := by obtain ⟨h, X, G⟩ := fx.h; exact He.glo_ok X G (fx.c.fact 0 (f := .glo "_law_uopen") rfl)
theorem Fx.g_umixed : mg "_law_umixed" = some (.ref (He.ga K "_law_umixed")) := by obtain ⟨h, X, G⟩ := fx.h; exact He.glo_ok X G (fx.c.fact 1 (f := .glo "_law_umixed") rfl)
theorem Fx.g_udraw : mg "_law_udraw" = some (.ref (He.ga K "_law_udraw")) := by obtain ⟨h, X, G⟩ := fx.h; exact He.glo_ok X G (fx.c.fact 2 (f := .glo "_law_udraw") rfl)
theorem Fx.g_ulabel : mg "_law_ulabel" = some (.ref (He.ga K "_law_ulabel")) := by obtain ⟨h, X, G⟩ := fx.h; exact He.glo_ok X G (fx.c.fact 3 (f := .glo "_law_ulabel") rfl)
theorem Fx.g_urow : mg "_law_urow" = some (.ref (He.ga K "_law_urow")) := by obtain ⟨h, X, G⟩ := fx.h; exact He.glo_ok X G (fx.c.fact 4 (f := .glo "_law_urow") rfl)
theorem Fx.g_uwhole : mg "_law_uwhole" = some (.ref (He.ga K "_law_uwhole")) := by obtain ⟨h, X, G⟩ := fx.h; exact He.glo_ok X G (fx.c.fact 5 (f := .glo "_law_uwhole") rfl)
theorem Fx.g_uis_place : mg "_law_uis_place" = some (.ref (He.ga K "_law_uis_place")) := by obtain ⟨h, X, G⟩ := fx.h; exact He.glo_ok X G (fx.c.fact 6 (f := .glo "_law_uis_place") rfl)
theorem Fx.g_utape_turn : mg "_law_utape_turn" = some (.ref (He.ga K "_law_utape_turn")) := by obtain ⟨h, X, G⟩ := fx.h; exact He.glo_ok X G (fx.c.fact 7 (f := .glo "_law_utape_turn") rfl)
theorem Fx.g_utape_due : mg "_law_utape_due" = some (.ref (He.ga K "_law_utape_due")) := by obtain ⟨h, X, G⟩ := fx.h; exact He.glo_ok X G (fx.c.fact 8 (f := .glo "_law_utape_due") rfl)
theorem Fx.g_is_number : mg "is_number" = some (.ref (He.ga K "is_number")) := by obtain ⟨h, X, G⟩ := fx.h; exact He.glo_ok X G (fx.c.fact 9 (f := .glo "is_number") rfl)
theorem Fx.g_utape_deed : mg "_law_utape_deed" = some (.ref (He.ga K "_law_utape_deed")) := by obtain ⟨h, X, G⟩ := fx.h; exact He.glo_ok X G (fx.c.fact 10 (f := .glo "_law_utape_deed") rfl)
theorem Fx.g_uword : mg "_law_uword" = some (.ref (He.ga K "_law_uword")) := by obtain ⟨h, X, G⟩ := fx.h; exact He.glo_ok X G (fx.c.fact 11 (f := .glo "_law_uword") rfl)
theorem Fx.g_utape_told : mg "_law_utape_told" = some (.ref (He.ga K "_law_utape_told")) := by obtain ⟨h, X, G⟩ := fx.h; exact He.glo_ok X G (fx.c.fact 12 (f := .glo "_law_utape_told") rfl)
theorem Fx.g_u_has : mg "_law_u_has" = some (.ref (He.ga K "_law_u_has")) := by obtain ⟨h, X, G⟩ := fx.h; exact He.glo_ok X G (fx.c.fact 13 (f := .glo "_law_u_has") rfl)
theorem Fx.g_law : mg "law" = some (.ref (He.ga K "law")) := by obtain ⟨h, X, G⟩ := fx.h; exact He.glo_ok X G (fx.c.fact 14 (f := .glo "law") rfl)
theorem Fx.m_ValueError : mg "ValueError" = none := by obtain ⟨h, X, G⟩ := fx.h; exact He.free_ok X G (fx.c.fact 33 (f := .free "ValueError") rfl)
theorem Fx.m_bool : mg "bool" = none := by obtain ⟨h, X, G⟩ := fx.h; exact He.free_ok X G (fx.c.fact 34 (f := .free "bool") rfl)
theorem Fx.m_int : mg "int" = none := by obtain ⟨h, X, G⟩ := fx.h; exact He.free_ok X G (fx.c.fact 35 (f := .free "int") rfl)
theorem Fx.m_isinstance : mg "isinstance" = none := by obtain ⟨h, X, G⟩ := fx.h; exact He.free_ok X G (fx.c.fact 36 (f := .free "isinstance") rfl)
theorem Fx.m_len : mg "len" = none := by obtain ⟨h, X, G⟩ := fx.h; exact He.free_ok X G (fx.c.fact 37 (f := .free "len") rfl)
theorem Fx.m_list : mg "list" = none := by obtain ⟨h, X, G⟩ := fx.h; exact He.free_ok X G (fx.c.fact 38 (f := .free "list") rfl)
theorem Fx.m_range : mg "range" = none := by obtain ⟨h, X, G⟩ := fx.h; exact He.free_ok X G (fx.c.fact 39 (f := .free "range") rfl)
theorem Fx.m_repr : mg "repr" = none := by obtain ⟨h, X, G⟩ := fx.h; exact He.free_ok X G (fx.c.fact 40 (f := .free "repr") rfl)
theorem Fx.m_sum : mg "sum" = none := by obtain ⟨h, X, G⟩ := fx.h; exact He.free_ok X G (fx.c.fact 41 (f := .free "sum") rfl)
theorem Fx.m_tuple : mg "tuple" = none := by obtain ⟨h, X, G⟩ := fx.h; exact He.free_ok X G (fx.c.fact 42 (f := .free "tuple") rfl)
theorem Fx.c_PRIME : ∃ t, mg "PRIME" = some (.int (31) t) := by obtain ⟨h, X, G⟩ := fx.h; exact He.int_ok X G (fx.c.fact 43 (f := .int "PRIME" (31)) rfl)
theorem Fx.g_BadFiles : mg "BadFiles" = some (.ref (He.ga K "BadFiles")) := by obtain ⟨h, X, G⟩ := fx.h; exact He.glo_ok X G (fx.c.fact 44 (f := .glo "BadFiles") rfl)
theorem Fx.g_BadHold : mg "BadHold" = some (.ref (He.ga K "BadHold")) := by obtain ⟨h, X, G⟩ := fx.h; exact He.glo_ok X G (fx.c.fact 45 (f := .glo "BadHold") rfl)
theorem Fx.g_BadRack : mg "BadRack" = some (.ref (He.ga K "BadRack")) := by obtain ⟨h, X, G⟩ := fx.h; exact He.glo_ok X G (fx.c.fact 46 (f := .glo "BadRack") rfl)
theorem Fx.g_Full : mg "Full" = some (.ref (He.ga K "Full")) := by obtain ⟨h, X, G⟩ := fx.h; exact He.glo_ok X G (fx.c.fact 47 (f := .glo "Full") rfl)
theorem Fx.g_Lost : mg "Lost" = some (.ref (He.ga K "Lost")) := by obtain ⟨h, X, G⟩ := fx.h; exact He.glo_ok X G (fx.c.fact 48 (f := .glo "Lost") rfl)
theorem Fx.g_NoBook : mg "NoBook" = some (.ref (He.ga K "NoBook")) := by obtain ⟨h, X, G⟩ := fx.h; exact He.glo_ok X G (fx.c.fact 49 (f := .glo "NoBook") rfl)
theorem Fx.g_NoChain : mg "NoChain" = some (.ref (He.ga K "NoChain")) := by obtain ⟨h, X, G⟩ := fx.h; exact He.glo_ok X G (fx.c.fact 50 (f := .glo "NoChain") rfl)
theorem Fx.g_NoDays : mg "NoDays" = some (.ref (He.ga K "NoDays")) := by obtain ⟨h, X, G⟩ := fx.h; exact He.glo_ok X G (fx.c.fact 51 (f := .glo "NoDays") rfl)
theorem Fx.g_NoFile : mg "NoFile" = some (.ref (He.ga K "NoFile")) := by obtain ⟨h, X, G⟩ := fx.h; exact He.glo_ok X G (fx.c.fact 52 (f := .glo "NoFile") rfl)
theorem Fx.g_NoHold : mg "NoHold" = some (.ref (He.ga K "NoHold")) := by obtain ⟨h, X, G⟩ := fx.h; exact He.glo_ok X G (fx.c.fact 53 (f := .glo "NoHold") rfl)
theorem Fx.g_NoMoment : mg "NoMoment" = some (.ref (He.ga K "NoMoment")) := by obtain ⟨h, X, G⟩ := fx.h; exact He.glo_ok X G (fx.c.fact 54 (f := .glo "NoMoment") rfl)
theorem Fx.g_NoPlace : mg "NoPlace" = some (.ref (He.ga K "NoPlace")) := by obtain ⟨h, X, G⟩ := fx.h; exact He.glo_ok X G (fx.c.fact 55 (f := .glo "NoPlace") rfl)
theorem Fx.g_NoRoom : mg "NoRoom" = some (.ref (He.ga K "NoRoom")) := by obtain ⟨h, X, G⟩ := fx.h; exact He.glo_ok X G (fx.c.fact 56 (f := .glo "NoRoom") rfl)
theorem Fx.g_NoRow : mg "NoRow" = some (.ref (He.ga K "NoRow")) := by obtain ⟨h, X, G⟩ := fx.h; exact He.glo_ok X G (fx.c.fact 57 (f := .glo "NoRow") rfl)
theorem Fx.g_NoSign : mg "NoSign" = some (.ref (He.ga K "NoSign")) := by obtain ⟨h, X, G⟩ := fx.h; exact He.glo_ok X G (fx.c.fact 58 (f := .glo "NoSign") rfl)
theorem Fx.g_NoTape : mg "NoTape" = some (.ref (He.ga K "NoTape")) := by obtain ⟨h, X, G⟩ := fx.h; exact He.glo_ok X G (fx.c.fact 59 (f := .glo "NoTape") rfl)
theorem Fx.g_TooMany : mg "TooMany" = some (.ref (He.ga K "TooMany")) := by obtain ⟨h, X, G⟩ := fx.h; exact He.glo_ok X G (fx.c.fact 60 (f := .glo "TooMany") rfl)
theorem Fx.g_Twice : mg "Twice" = some (.ref (He.ga K "Twice")) := by obtain ⟨h, X, G⟩ := fx.h; exact He.glo_ok X G (fx.c.fact 61 (f := .glo "Twice") rfl)
theorem Fx.g_VaultError : mg "VaultError" = some (.ref (He.ga K "VaultError")) := by obtain ⟨h, X, G⟩ := fx.h; exact He.glo_ok X G (fx.c.fact 62 (f := .glo "VaultError") rfl)
theorem Fx.x_Full : (He.Fa.exc "Full").ok K = true := fx.c.fact 63 (f := .exc "Full") rfl
theorem Fx.x_NoPlace : (He.Fa.exc "NoPlace").ok K = true := fx.c.fact 64 (f := .exc "NoPlace") rfl
theorem Fx.x_NoSign : (He.Fa.exc "NoSign").ok K = true := fx.c.fact 65 (f := .exc "NoSign") rfl
theorem Fx.xm_Full_VaultError : PySem.W.exmOne K (.ref (He.ga K "Full")) (.ref (He.ga K "VaultError")) = some true := He.exm_ok (fx.c.fact 66 (f := .exm "Full" "VaultError" true) rfl)
theorem Fx.xm_NoPlace_VaultError : PySem.W.exmOne K (.ref (He.ga K "NoPlace")) (.ref (He.ga K "VaultError")) = some true := He.exm_ok (fx.c.fact 67 (f := .exm "NoPlace" "VaultError" true) rfl)
theorem Fx.xm_NoSign_VaultError : PySem.W.exmOne K (.ref (He.ga K "NoSign")) (.ref (He.ga K "VaultError")) = some true := He.exm_ok (fx.c.fact 68 (f := .exm "NoSign" "VaultError" true) rfl)
theorem Fx.k_sys : sysB K = true := by
  have e := fx.e
  simp only [ex, Bool.and_eq_true] at e
  exact e.1
theorem Fx.isx : isxAll K ["Full", "NoPlace", "NoSign"] ["BadFiles", "BadHold", "BadRack", "Full", "Lost", "NoBook", "NoChain", "NoDays", "NoFile", "NoHold", "NoMoment", "NoPlace", "NoRoom", "NoRow", "NoSign", "NoTape", "TooMany", "Twice", "ValueError"] = true := by
  have e := fx.e
  simp only [ex, Bool.and_eq_true] at e
  exact e.2
end
theorem ok_uopen {P : Program} {w : World} {K : PySem.W.Frag} {mg : Str → Option Value} {base : Heap} (fx : Fx K mg) : OkF P w K mg base "_law_uopen" ["_law_script"] 1 LU.d_uopen :=
  okF_N (fx.c.def_ 0 (d := a_uopen) rfl) fx.g_uopen sc_uopen (fun _ _ _ _ _ _ us hl => match us, hl with | [_], _ => rfl) fun cdv A outer s H E hr tk hp =>
  (sv_one (sv_ret (ev_lstM (ea_cons (ev_callTy cg_list rfl fx.m_list (by decide +kernel) (ea_cons (ev_sl ev_var pv_none (pv_some ev_int)) ea_nil)) (ea_cons ev_int (ea_cons ev_int ea_nil))))))
theorem ok_umixed {P : Program} {w : World} {K : PySem.W.Frag} {mg : Str → Option Value} {base : Heap} (fx : Fx K mg) : OkF P w K mg base "_law_umixed" ["_law_cell", "_law_at"] 1 LU.d_umixed :=
  okF_P (fx.c.def_ 1 (d := a_umixed) rfl) fx.g_umixed sc_umixed (fun _ _ _ _ _ _ us hl => match us, hl with | [_, _], _ => rfl) fun cdv A outer s H E hr tk hp =>
  (sv_cons (sv_asg sc_umixed.nd rfl (by first | exact Or.inl rfl | exact Or.inr rfl) (ev_op og_mod (ev_op og_add (ev_op og_add (ev_op og_mul (ev_op og_mod ev_var ev_int) ev_int) (ev_op og_mul ev_var ev_int)) ev_int) ev_int))
    (sv_cons (sv_asg sc_umixed.nd rfl (by first | exact Or.inl rfl | exact Or.inr rfl) (ev_op og_mod (ev_op og_add (ev_op og_add (ev_op og_mul ev_var ev_var) (ev_op og_mul (ev_op og_mul ev_var ev_var) ev_int)) ev_int) ev_int))
    (sv_cons (sv_asg sc_umixed.nd rfl (by first | exact Or.inl rfl | exact Or.inr rfl) (ev_op og_mod (ev_op og_add (ev_op og_add (ev_op og_mul ev_var ev_var) ev_var) ev_var) ev_int))
    (sv_one (sv_ret (ev_op og_add (ev_op og_mul (ev_op og_add (ev_op og_mul ev_var ev_int) ev_var) ev_int) ev_var))))))
theorem ok_udraw {P : Program} {w : World} {K : PySem.W.Frag} {mg : Str → Option Value} {base : Heap} (fx : Fx K mg) : OkF P w K mg base "_law_udraw" ["_law_feed", "_law_below"] 2 LU.d_udraw :=
  okF_N (fx.c.def_ 2 (d := a_udraw) rfl) fx.g_udraw sc_udraw (fun _ _ _ _ _ _ us hl => match us, hl with | [_, _], _ => rfl) fun cdv A outer s H E hr tk hp =>
  (sv_cons (sv_if (tv_cmp og_lt (ev_ix hr.r.units ev_var ev_int) ev_var rfl) (sv_cons (sv_asg sc_udraw.nd rfl (by first | exact Or.inl rfl | exact Or.inr rfl) (ev_ix hr.r.units ev_var ev_int))
    (sv_cons (sv_asg sc_udraw.nd rfl (by first | exact Or.inl rfl | exact Or.inr rfl) (ev_op og_mul ev_var ev_int))
    (sv_cons (sv_if (tv_cmp (og_ne hr.r.units) (ev_ix hr.r.units ev_var ev_int) (ev_lst ea_nil) rfl) (sv_one (sv_asg sc_udraw.nd rfl (by first | exact Or.inl rfl | exact Or.inr rfl) (ev_ix hr.r.units (ev_ix hr.r.units ev_var ev_int) (ev_op og_mod ev_var (ev_callB cg_len rfl fx.m_len (by decide +kernel) (ea_cons (ev_ix hr.r.units ev_var ev_int) ea_nil)))))) sv_nil)
    (sv_cons (sv_setIx hr.r.units (ev_op og_add ev_var ev_int) ev_var ev_int)
    (sv_cons (sv_setIx hr.r.units ev_var ev_var ev_int)
    (sv_one (sv_if (tv_w (wv_or (tv_cmp og_lt ev_var (ev_op og_pow ev_int ev_int) rfl) (wv_or1 (tv_cmp og_ge ev_var (ev_callB cg_len rfl fx.m_len (by decide +kernel) (ea_cons (ev_ix hr.r.units ev_var ev_int) ea_nil)) rfl)))) (sv_one (sv_setIx hr.r.units (ev_fnO (ok_umixed fx) hr rfl tk (ea_cons ev_var (ea_cons ev_var ea_nil))) ev_var ev_int)) sv_nil))))))) sv_nil)
    (sv_cons (sv_asg sc_udraw.nd rfl (by first | exact Or.inl rfl | exact Or.inr rfl) (ev_op og_mod (ev_ix hr.r.units ev_var ev_int) ev_var))
    (sv_cons (sv_setIx hr.r.units (ev_op og_div (ev_ix hr.r.units ev_var ev_int) ev_var) ev_var ev_int)
    (sv_one (sv_ret ev_var)))))
theorem okB_Tape___init__ {P : Program} {w : World} {K : PySem.W.Frag} {mg : Str → Option Value} {base : Heap} (fx : Fx K mg) : BodyOkM P w K mg base "Tape" "__init__" "Tape.__init__" (defBody s_Tape___init__) (defScope s_Tape___init__) N_Tape___init__ 0 b_Tape___init__ := fun cdv A outer s H E hr tk hp =>
  (sv_cons (sv_fld fx.g_Tape fx.cl_Tape fx.na_Tape_number ev_var ev_var)
    (sv_cons (sv_fld fx.g_Tape fx.cl_Tape fx.na_Tape_site ev_var ev_var)
    (sv_cons (sv_fld fx.g_Tape fx.cl_Tape fx.na_Tape_room ev_var ev_var)
    (sv_cons (sv_fld fx.g_Tape fx.cl_Tape fx.na_Tape_held ev_var (ev_lstM ea_nil))
    (sv_one (sv_fld fx.g_Tape fx.cl_Tape fx.na_Tape_used ev_var ev_int))))))
theorem ok_Tape___init__ {P : Program} {w : World} {K : PySem.W.Frag} {mg : Str → Option Value} {base : Heap} (fx : Fx K mg) : OkI P w K mg base "Tape" ["self", "number", "site", "room"] 1 d_Tape___init__ := okI_N (fx.c.def_ 3 (d := a_Tape___init__) rfl) fx.mk_Tape sc_Tape___init__ (fun _ _ _ _ _ _ us hl => match us, hl with | [_, _, _, _], _ => rfl) (okB_Tape___init__ fx)
theorem okIK_Tape___init___0 {P : Program} {w : World} {K : PySem.W.Frag} {mg : Str → Option Value} {base : Heap} (fx : Fx K mg) : OkIK P w K mg base "Tape" ["self", "number", "site", "room"] 2 ["room"] [0, 1, 2, 3] 1 d_Tape___init__ := okIK_N (fx.c.def_ 3 (d := a_Tape___init__) rfl) fx.mk_Tape sc_Tape___init__ (fun _ _ _ _ _ _ us ws h1 h2 => match us, ws, h1, h2 with | [_, _, _], [_], _, _ => rfl) (okB_Tape___init__ fx)
theorem ok_ulabel {P : Program} {w : World} {K : PySem.W.Frag} {mg : Str → Option Value} {base : Heap} (fx : Fx K mg) : OkF P w K mg base "_law_ulabel" ["_law_feed", "_law_shard"] 3 d_ulabel :=
  okF_N (fx.c.def_ 4 (d := a_ulabel) rfl) fx.g_ulabel sc_ulabel (fun _ _ _ _ _ _ us hl => match us, hl with | [_, _], _ => rfl) fun cdv A outer s H E hr tk hp =>
  (sv_cons (sv_asg sc_ulabel.nd rfl (by first | exact Or.inl rfl | exact Or.inr rfl) (ev_ix hr.r.units (ev_lst (ea_cons ev_str (ea_cons ev_str ea_nil))) (ev_fnO (ok_udraw fx) hr rfl tk (ea_cons ev_var (ea_cons ev_int ea_nil)))))
    (sv_cons (sv_par rfl sc_ulabel.nd rfl rfl (by decide) rfl rfl (ea_cons (ev_fnO (ok_udraw fx) hr rfl tk (ea_cons ev_var (ea_cons ev_int ea_nil))) (ea_cons (ev_fnO (ok_udraw fx) hr rfl tk (ea_cons ev_var (ea_cons ev_int ea_nil))) ea_nil)))
    (sv_one (sv_ret (ev_tup (ea_cons ev_var (ea_cons ev_var (ea_cons ev_var (ea_cons ev_var (ea_cons (ev_fnO (ok_udraw fx) hr rfl tk (ea_cons ev_var (ea_cons ev_int ea_nil))) (ea_cons (ev_fnO (ok_udraw fx) hr rfl tk (ea_cons ev_var (ea_cons ev_int ea_nil))) ea_nil)))))))))))
theorem ok_urow {P : Program} {w : World} {K : PySem.W.Frag} {mg : Str → Option Value} {base : Heap} (fx : Fx K mg) : OkF P w K mg base "_law_urow" ["_law_feed", "_law_limit"] 3 d_urow :=
  okF_N (fx.c.def_ 5 (d := a_urow) rfl) fx.g_urow sc_urow (fun _ _ _ _ _ _ us hl => match us, hl with | [_, _], _ => rfl) fun cdv A outer s H E hr tk hp =>
  (sv_one (sv_ret (ev_callTy cg_tuple rfl fx.m_tuple (by decide +kernel) (ea_cons (ev_comp (own := [(("_law_k" : Str), 2)]) rfl sc_urow.nd (iv_rng1 rfl fx.m_range (ev_fnO (ok_udraw fx) hr rfl tk (ea_cons ev_var (ea_cons (ev_op og_add ev_var ev_int) ea_nil)))) (blkOk_by (N := N_urow) (sc := defScope s_urow) (own := [(("_law_k" : Str), 2)]) (by decide +kernel)) (fun _ _ _ _ _ => (gv_nm sc_urow.nd rfl (by first | exact Or.inl rfl | exact Or.inr rfl))) (fun _ _ _ _ _ => tvs_nil) (fun _ _ _ _ _ => (ev_fnO (ok_udraw fx) hr rfl takes0 (ea_cons ev_var (ea_cons ev_int ea_nil))))) ea_nil))))
theorem ok_uwhole {P : Program} {w : World} {K : PySem.W.Frag} {mg : Str → Option Value} {base : Heap} (fx : Fx K mg) : OkF P w K mg base "_law_uwhole" ["_law_thing"] 1 d_uwhole :=
  okF_N (fx.c.def_ 6 (d := a_uwhole) rfl) fx.g_uwhole sc_uwhole (fun _ _ _ _ _ _ us hl => match us, hl with | [_], _ => rfl) fun cdv A outer s H E hr tk hp =>
  (sv_one (sv_ret (ev_and (ev_isi (t := .int) rfl fx.m_isinstance (by decide +kernel) rfl fx.m_int (by decide +kernel) ev_var) (ev_one (ev_not (ev_isi (t := .bool) rfl fx.m_isinstance (by decide +kernel) rfl fx.m_bool (by decide +kernel) ev_var))))))
theorem ok_uis_place {P : Program} {w : World} {K : PySem.W.Frag} {mg : Str → Option Value} {base : Heap} (fx : Fx K mg) : OkF P w K mg base "_law_uis_place" ["_law_thing", "_law_below"] 2 d_uis_place :=
  okF_N (fx.c.def_ 7 (d := a_uis_place) rfl) fx.g_uis_place sc_uis_place (fun _ _ _ _ _ _ us hl => match us, hl with | [_, _], _ => rfl) fun cdv A outer s H E hr tk hp =>
  (sv_one (sv_ret (ev_and (ev_fnO (ok_uwhole fx) hr rfl tk (ea_cons ev_var ea_nil)) (ev_one (ev_chain og_le og_lt ev_int ev_var ev_var)))))
theorem ok_utape_turn {P : Program} {w : World} {K : PySem.W.Frag} {mg : Str → Option Value} {base : Heap} (fx : Fx K mg) : OkF P w K mg base "_law_utape_turn" ["_law_feed", "_law_held"] 4 d_utape_turn :=
  okF_N (fx.c.def_ 8 (d := a_utape_turn) rfl) fx.g_utape_turn sc_utape_turn (fun _ _ _ _ _ _ us hl => match us, hl with | [_, _], _ => rfl) fun cdv A outer s H E hr tk hp =>
  (sv_cons (sv_asg sc_utape_turn.nd rfl (by first | exact Or.inl rfl | exact Or.inr rfl) (ev_lst (ea_cons (ev_un og_neg ev_int) (ea_cons ev_bl (ea_cons ev_bl (ea_cons ev_non (ea_cons ev_str (ea_cons (ev_tup (ea_cons ev_int ea_nil)) (ea_cons (ev_lst (ea_cons ev_int ea_nil)) (ea_cons (ev_op og_pow ev_int ev_int) (ea_cons (ev_callB cg_len rfl fx.m_len (by decide +kernel) (ea_cons ev_var ea_nil)) ea_nil)))))))))))
    (sv_cons (sv_asg sc_utape_turn.nd rfl (by first | exact Or.inl rfl | exact Or.inr rfl) (ev_ifx (tv_cmp (og_ne hr.r.units) ev_var (ev_lst ea_nil) rfl) (ev_fnO (ok_udraw fx) hr rfl tk (ea_cons ev_var (ea_cons (ev_callB cg_len rfl fx.m_len (by decide +kernel) (ea_cons ev_var ea_nil)) ea_nil))) ev_int))
    (sv_cons (sv_asg sc_utape_turn.nd rfl (by first | exact Or.inl rfl | exact Or.inr rfl) (ev_fnO (ok_udraw fx) hr rfl tk (ea_cons ev_var (ea_cons ev_int ea_nil))))
    (sv_cons (sv_if (tv_cmp og_lt ev_var ev_int rfl) (sv_one (sv_ret (ev_tup (ea_cons ev_str (ea_cons (ev_tup (ea_cons (ev_fnO (ok_ulabel fx) hr rfl tk (ea_cons ev_var (ea_cons (ev_fnO (ok_udraw fx) hr rfl tk (ea_cons ev_var (ea_cons ev_int ea_nil))) ea_nil))) (ea_cons (ev_fnO (ok_urow fx) hr rfl tk (ea_cons ev_var (ea_cons ev_int ea_nil))) ea_nil))) ea_nil))))) sv_nil)
    (sv_cons (sv_if (tv_w (wv_and (tv_cmp (og_eq hr.r.units) ev_var ev_int rfl) (wv_and1 (tv_cmp (og_eq hr.r.units) (ev_fnO (ok_udraw fx) hr rfl tk (ea_cons ev_var (ea_cons ev_int ea_nil))) ev_int rfl)))) (sv_one (sv_ret (ev_tup (ea_cons ev_str (ea_cons (ev_tup ea_nil) ea_nil))))) sv_nil)
    (sv_cons (sv_if (tv_cmp (og_eq hr.r.units) (ev_fnO (ok_udraw fx) hr rfl tk (ea_cons ev_var (ea_cons ev_int ea_nil))) ev_int rfl) (sv_one (sv_asg sc_utape_turn.nd rfl (by first | exact Or.inl rfl | exact Or.inr rfl) (ev_ix hr.r.units ev_var (ev_fnO (ok_udraw fx) hr rfl tk (ea_cons ev_var (ea_cons ev_int ea_nil)))))) sv_nil)
    (sv_cons (sv_if (tv_w (wv_or (tv_cmp (og_eq hr.r.units) ev_var ev_int rfl) (wv_or1 (tv_cmp (og_eq hr.r.units) ev_var ev_int rfl)))) (sv_one (sv_ret (ev_tup (ea_cons ev_str (ea_cons (ev_tup (ea_cons ev_var ea_nil)) ea_nil))))) sv_nil)
    (sv_cons (sv_if (tv_cmp (og_eq hr.r.units) ev_var ev_int rfl) (sv_one (sv_ret (ev_tup (ea_cons ev_str (ea_cons (ev_tup (ea_cons ev_var ea_nil)) ea_nil))))) sv_nil)
    (sv_cons (sv_asg sc_utape_turn.nd rfl (by first | exact Or.inl rfl | exact Or.inr rfl) (ev_ifx (tv_val (ev_fnO (ok_uis_place fx) hr rfl tk (ea_cons ev_var (ea_cons (ev_callB cg_len rfl fx.m_len (by decide +kernel) (ea_cons ev_var ea_nil)) ea_nil)))) (ev_callB cg_len rfl fx.m_len (by decide +kernel) (ea_cons (ev_ix hr.r.units (ev_ix hr.r.units ev_var ev_var) ev_int) ea_nil)) ev_int))
    (sv_cons (sv_if (tv_cmp (og_eq hr.r.units) ev_var ev_int rfl) (sv_one (sv_ret (ev_tup (ea_cons ev_str (ea_cons (ev_tup (ea_cons ev_var (ea_cons (ev_callTy cg_tuple rfl fx.m_tuple (by decide +kernel) (ea_cons (ev_comp (own := [(("_law_k" : Str), 8)]) rfl sc_utape_turn.nd (iv_rng1 rfl fx.m_range ev_var) (blkOk_by (N := N_utape_turn) (sc := defScope s_utape_turn) (own := [(("_law_k" : Str), 8)]) (by decide +kernel)) (fun _ _ _ _ _ => (gv_nm sc_utape_turn.nd rfl (by first | exact Or.inl rfl | exact Or.inr rfl))) (fun _ _ _ _ _ => tvs_nil) (fun _ _ _ _ _ => (ev_fnO (ok_udraw fx) hr rfl takes0 (ea_cons ev_var (ea_cons ev_int ea_nil))))) ea_nil)) ea_nil))) ea_nil))))) sv_nil)
    (sv_cons (sv_asg sc_utape_turn.nd rfl (by first | exact Or.inl rfl | exact Or.inr rfl) (ev_fnO (ok_udraw fx) hr rfl tk (ea_cons ev_var (ea_cons (ev_op og_add ev_var ev_int) ea_nil))))
    (sv_cons (sv_asg sc_utape_turn.nd rfl (by first | exact Or.inl rfl | exact Or.inr rfl) (ev_fnO (ok_udraw fx) hr rfl tk (ea_cons ev_var (ea_cons ev_int ea_nil))))
    (sv_cons (sv_if (tv_cmp (og_eq hr.r.units) (ev_fnO (ok_udraw fx) hr rfl tk (ea_cons ev_var (ea_cons ev_int ea_nil))) ev_int rfl) (sv_one (sv_asg sc_utape_turn.nd rfl (by first | exact Or.inl rfl | exact Or.inr rfl) (ev_ix hr.r.units ev_var (ev_fnO (ok_udraw fx) hr rfl tk (ea_cons ev_var (ea_cons ev_int ea_nil)))))) sv_nil)
    (sv_cons (sv_if (tv_cmp (og_eq hr.r.units) (ev_fnO (ok_udraw fx) hr rfl tk (ea_cons ev_var (ea_cons ev_int ea_nil))) ev_int rfl) (sv_one (sv_asg sc_utape_turn.nd rfl (by first | exact Or.inl rfl | exact Or.inr rfl) (ev_ix hr.r.units (ev_op og_add ev_var (ev_lst (ea_cons ev_int (ea_cons ev_int (ea_cons ev_int (ea_cons (ev_un og_neg ev_int) ea_nil)))))) (ev_fnO (ok_udraw fx) hr rfl tk (ea_cons ev_var (ea_cons ev_int ea_nil)))))) sv_nil)
    (sv_one (sv_ret (ev_tup (ea_cons ev_str (ea_cons (ev_tup (ea_cons ev_var (ea_cons ev_var (ea_cons ev_var ea_nil)))) ea_nil)))))))))))))))))))
theorem ok_utape_due {P : Program} {w : World} {K : PySem.W.Frag} {mg : Str → Option Value} {base : Heap} (fx : Fx K mg) : OkF P w K mg base "_law_utape_due" ["_law_held", "_law_wide", "_law_word", "_law_some"] 3 d_utape_due :=
  okF_N (fx.c.def_ 9 (d := a_utape_due) rfl) fx.g_utape_due sc_utape_due (fun _ _ _ _ _ _ us hl => match us, hl with | [_, _, _, _], _ => rfl) fun cdv A outer s H E hr tk hp =>
  (sv_cons (sv_if (tv_cmp (og_eq hr.r.units) ev_var ev_str rfl) (sv_cons (sv_if (tv_cmp og_gt (ev_op og_add (ev_op og_add (ev_tmpL (ev_callB (cg_sum rfl) rfl fx.m_sum (by decide +kernel) (ea_cons (ev_comp (own := [(("_law_label" : Str), 4), (("_law_row" : Str), 5)]) rfl sc_utape_due.nd (iv_seq ev_var) (blkOk_by (N := N_utape_due) (sc := defScope s_utape_due) (own := [(("_law_label" : Str), 4), (("_law_row" : Str), 5)]) (by decide +kernel)) (fun _ _ _ _ _ => (gv_tp rfl (gv_cons (gv_nm sc_utape_due.nd rfl (by first | exact Or.inl rfl | exact Or.inr rfl)) (gv_cons (gv_nm sc_utape_due.nd rfl (by first | exact Or.inl rfl | exact Or.inr rfl)) gv_nil)))) (fun _ _ _ _ _ => tvs_nil) (fun _ _ _ _ _ => (ev_op og_add (ev_callB cg_len rfl fx.m_len (by decide +kernel) (ea_cons ev_var ea_nil)) ev_int))) ea_nil))) (ev_callB cg_len rfl fx.m_len (by decide +kernel) (ea_cons (ev_ix hr.r.units ev_var ev_int) ea_nil))) ev_int) ev_var rfl) (sv_one (sv_ret (ev_tup (ea_cons ev_str (ea_cons ev_non ea_nil))))) sv_nil)
    (sv_cons (sv_expr (ev_append ev_var (ea_cons (ev_tup (ea_cons (ev_ix hr.r.units ev_var ev_int) (ea_cons (ev_ix hr.r.units ev_var ev_int) ea_nil))) ea_nil)))
    (sv_one (sv_ret (ev_tup (ea_cons ev_str (ea_cons (ev_op og_sub (ev_callB cg_len rfl fx.m_len (by decide +kernel) (ea_cons ev_var ea_nil)) ev_int) ea_nil))))))) sv_nil)
    (sv_cons (sv_if (tv_cmp (og_eq hr.r.units) ev_var ev_str rfl) (sv_cons (sv_expr (ev_clear ev_var))
    (sv_one (sv_ret (ev_tup (ea_cons ev_str (ea_cons ev_non ea_nil)))))) sv_nil)
    (sv_cons (sv_if (tv_not (tv_val (ev_fnO (ok_uis_place fx) hr rfl tk (ea_cons (ev_ix hr.r.units ev_var ev_int) (ea_cons (ev_callB cg_len rfl fx.m_len (by decide +kernel) (ea_cons ev_var ea_nil)) ea_nil))))) (sv_one (sv_ret (ev_tup (ea_cons ev_str (ea_cons ev_non ea_nil))))) sv_nil)
    (sv_cons (sv_asgT (ev_ix hr.r.units ev_var (ev_ix hr.r.units ev_var ev_int)) (gv_tp rfl (gv_cons (gv_nm sc_utape_due.nd rfl (by first | exact Or.inl rfl | exact Or.inr rfl)) (gv_cons (gv_nm sc_utape_due.nd rfl (by first | exact Or.inl rfl | exact Or.inr rfl)) gv_nil))))
    (sv_cons (sv_if (tv_cmp (og_eq hr.r.units) ev_var ev_str rfl) (sv_one (sv_ret (ev_tup (ea_cons ev_str (ea_cons (ev_tup (ea_cons ev_var (ea_cons ev_var ea_nil))) ea_nil))))) sv_nil)
    (sv_cons (sv_if (tv_cmp (og_eq hr.r.units) ev_var ev_str rfl) (sv_cons (sv_setIx hr.r.units (ev_tup (ea_cons (ev_op og_add (ev_tup (ea_cons ev_str ea_nil)) (ev_sl ev_var (pv_some ev_int) pv_none)) (ea_cons ev_var ea_nil))) ev_var (ev_ix hr.r.units ev_var ev_int))
    (sv_one (sv_ret (ev_tup (ea_cons ev_str (ea_cons ev_non ea_nil)))))) sv_nil)
    (sv_cons (sv_if (tv_cmp (og_eq hr.r.units) ev_var ev_str rfl) (sv_cons (sv_setIx hr.r.units (ev_tup (ea_cons ev_var (ea_cons (ev_ix hr.r.units ev_var ev_int) ea_nil))) ev_var (ev_ix hr.r.units ev_var ev_int))
    (sv_one (sv_ret (ev_tup (ea_cons ev_str (ea_cons ev_non ea_nil)))))) sv_nil)
    (sv_cons (sv_if (tv_w (wv_or (tv_not (tv_val (ev_fnO (ok_uis_place fx) hr rfl tk (ea_cons (ev_ix hr.r.units ev_var ev_int) (ea_cons (ev_callB cg_len rfl fx.m_len (by decide +kernel) (ea_cons ev_var ea_nil)) ea_nil))))) (wv_or (tv_not (tv_val (ev_fnO (ok_uis_place fx) hr rfl tk (ea_cons (ev_ix hr.r.units ev_var ev_int) (ea_cons ev_int ea_nil))))) (wv_or1 (tv_cmp (og_eq hr.r.units) (ev_ix hr.r.units ev_var ev_int) ev_int rfl))))) (sv_one (sv_ret (ev_tup (ea_cons ev_str (ea_cons ev_non ea_nil))))) sv_nil)
    (sv_cons (sv_asg sc_utape_due.nd rfl (by first | exact Or.inl rfl | exact Or.inr rfl) (ev_op og_mod (ev_op og_add (ev_ix hr.r.units ev_var (ev_ix hr.r.units ev_var ev_int)) (ev_ix hr.r.units ev_var ev_int)) ev_int))
    (sv_cons (sv_setIx hr.r.units (ev_tup (ea_cons ev_var (ea_cons (ev_op og_add (ev_op og_add (ev_sl ev_var pv_none (pv_some (ev_ix hr.r.units ev_var ev_int))) (ev_tup (ea_cons ev_var ea_nil))) (ev_sl ev_var (pv_some (ev_op og_add (ev_ix hr.r.units ev_var ev_int) ev_int)) pv_none)) ea_nil))) ev_var (ev_ix hr.r.units ev_var ev_int))
    (sv_one (sv_ret (ev_tup (ea_cons ev_str (ea_cons ev_non ea_nil)))))))))))))))
theorem okB_Tape_load {P : Program} {w : World} {K : PySem.W.Frag} {mg : Str → Option Value} {base : Heap} (fx : Fx K mg) : BodyOkM P w K mg base "Tape" "load" "Tape.load" (defBody s_Tape_load) (defScope s_Tape_load) N_Tape_load 0 b_Tape_load := fun cdv A outer s H E hr tk hp =>
  (sv_one (sv_ret (ev_fld fx.g_Tape fx.cl_Tape fx.na_Tape_used ev_var)))
theorem ok_Tape_load {P : Program} {w : World} {K : PySem.W.Frag} {mg : Str → Option Value} {base : Heap} (fx : Fx K mg) : OkM P w K mg base "Tape" "load" ["self"] 1 d_Tape_load := okM_N (fx.c.def_ 10 (d := a_Tape_load) rfl) fx.mt_Tape_load sc_Tape_load (fun _ _ _ _ _ _ us hl => match us, hl with | [_], _ => rfl) (okB_Tape_load fx)
theorem okB_Tape_write {P : Program} {w : World} {K : PySem.W.Frag} {mg : Str → Option Value} {base : Heap} (fx : Fx K mg) : BodyOkM P w K mg base "Tape" "write" "Tape.write" (defBody s_Tape_write) (defScope s_Tape_write) N_Tape_write 1 b_Tape_write := fun cdv A outer s H E hr tk hp =>
  (sv_cons (sv_if (tv_cmp og_gt (ev_op og_add (ev_op og_add (ev_mt0 fx.g_Tape fx.cl_Tape (ok_Tape_load fx) hr tk ev_var) (ev_callB cg_len rfl fx.m_len (by decide +kernel) (ea_cons ev_var ea_nil))) ev_int) (ev_fld fx.g_Tape fx.cl_Tape fx.na_Tape_room ev_var) rfl) (sv_one (sv_raise rfl tk rfl fx.g_Full fx.x_Full)) sv_nil)
    (sv_cons (sv_expr (ev_append (ev_fld fx.g_Tape fx.cl_Tape fx.na_Tape_held ev_var) (ea_cons (ev_tup (ea_cons ev_var (ea_cons ev_var ea_nil))) ea_nil)))
    (sv_cons (sv_fldA fx.g_Tape fx.cl_Tape fx.na_Tape_used ev_var (ev_op og_add (ev_callB cg_len rfl fx.m_len (by decide +kernel) (ea_cons ev_var ea_nil)) ev_int) ig_addN)
    (sv_one (sv_ret (ev_op og_sub (ev_callB cg_len rfl fx.m_len (by decide +kernel) (ea_cons (ev_fld fx.g_Tape fx.cl_Tape fx.na_Tape_held ev_var) ea_nil)) ev_int))))))
theorem ok_Tape_write {P : Program} {w : World} {K : PySem.W.Frag} {mg : Str → Option Value} {base : Heap} (fx : Fx K mg) : OkM P w K mg base "Tape" "write" ["self", "label", "row"] 2 d_Tape_write := okM_N (fx.c.def_ 11 (d := a_Tape_write) rfl) fx.mt_Tape_write sc_Tape_write (fun _ _ _ _ _ _ us hl => match us, hl with | [_, _, _], _ => rfl) (okB_Tape_write fx)
theorem okB_is_number {P : Program} {w : World} {K : PySem.W.Frag} {mg : Str → Option Value} {base : Heap} (fx : Fx K mg) : BodyOk P w K mg base "is_number" "is_number" (defBody s_is_number) (defScope s_is_number) N_is_number 0 b_is_number := fun cdv A outer s H E hr tk hp =>
  (sv_one (sv_ret (ev_and (ev_isi (t := .int) rfl fx.m_isinstance (by decide +kernel) rfl fx.m_int (by decide +kernel) ev_var) (ev_and (ev_not (ev_isi (t := .bool) rfl fx.m_isinstance (by decide +kernel) rfl fx.m_bool (by decide +kernel) ev_var)) (ev_one (ev_chain og_le og_lt ev_var ev_var ev_var))))))
theorem okK_is_number_0 {P : Program} {w : World} {K : PySem.W.Frag} {mg : Str → Option Value} {base : Heap} (fx : Fx K mg) : OkFK P w K mg base "is_number" ["thing", "least", "below"] 1 ["least", "below"] [0, 1, 2] [] 1 d_is_number :=
  okFK_0 (fx.c.def_ 12 (d := a_is_number) rfl) fx.g_is_number sc_is_number rfl (by decide) (fun _ _ _ _ _ _ us ws h1 h2 => match us, ws, h1, h2 with | [_], [_, _], _, _ => rfl) (okB_is_number fx) (fun _ _ _ _ h => h)
theorem okB_Tape_need_place {P : Program} {w : World} {K : PySem.W.Frag} {mg : Str → Option Value} {base : Heap} (fx : Fx K mg) : BodyOkM P w K mg base "Tape" "need_place" "Tape.need_place" (defBody s_Tape_need_place) (defScope s_Tape_need_place) N_Tape_need_place 1 b_Tape_need_place := fun cdv A outer s H E hr tk hp =>
  (sv_one (sv_if (tv_not (tv_val (ev_fnK (okK_is_number_0 fx) (fun _ _ _ => .nil) hr rfl tk (ea_cons ev_var ea_nil) (ka_cons ev_int (ka_cons (ev_callB cg_len rfl fx.m_len (by decide +kernel) (ea_cons (ev_fld fx.g_Tape fx.cl_Tape fx.na_Tape_held ev_var) ea_nil)) ka_nil))))) (sv_one (sv_raise rfl tk rfl fx.g_NoPlace fx.x_NoPlace)) sv_nil))
theorem ok_Tape_need_place {P : Program} {w : World} {K : PySem.W.Frag} {mg : Str → Option Value} {base : Heap} (fx : Fx K mg) : OkM P w K mg base "Tape" "need_place" ["self", "place"] 2 d_Tape_need_place := okM_N (fx.c.def_ 13 (d := a_Tape_need_place) rfl) fx.mt_Tape_need_place sc_Tape_need_place (fun _ _ _ _ _ _ us hl => match us, hl with | [_, _], _ => rfl) (okB_Tape_need_place fx)
theorem okB_Tape_read {P : Program} {w : World} {K : PySem.W.Frag} {mg : Str → Option Value} {base : Heap} (fx : Fx K mg) : BodyOkM P w K mg base "Tape" "read" "Tape.read" (defBody s_Tape_read) (defScope s_Tape_read) N_Tape_read 2 b_Tape_read := fun cdv A outer s H E hr tk hp =>
  (sv_cons (sv_expr (ev_mt fx.g_Tape fx.cl_Tape (ok_Tape_need_place fx) hr tk ev_var (ea_cons ev_var ea_nil)))
    (sv_one (sv_ret (ev_ix hr.r.units (ev_fld fx.g_Tape fx.cl_Tape fx.na_Tape_held ev_var) ev_var))))
theorem ok_Tape_read {P : Program} {w : World} {K : PySem.W.Frag} {mg : Str → Option Value} {base : Heap} (fx : Fx K mg) : OkM P w K mg base "Tape" "read" ["self", "place"] 3 d_Tape_read := okM_N (fx.c.def_ 14 (d := a_Tape_read) rfl) fx.mt_Tape_read sc_Tape_read (fun _ _ _ _ _ _ us hl => match us, hl with | [_, _], _ => rfl) (okB_Tape_read fx)
theorem okB_Tape_harm {P : Program} {w : World} {K : PySem.W.Frag} {mg : Str → Option Value} {base : Heap} (fx : Fx K mg) : BodyOkM P w K mg base "Tape" "harm" "Tape.harm" (defBody s_Tape_harm) (defScope s_Tape_harm) N_Tape_harm 2 b_Tape_harm := fun cdv A outer s H E hr tk hp =>
  (sv_cons (sv_expr (ev_mt fx.g_Tape fx.cl_Tape (ok_Tape_need_place fx) hr tk ev_var (ea_cons ev_var ea_nil)))
    (sv_cons (sv_asgT (ev_ix hr.r.units (ev_fld fx.g_Tape fx.cl_Tape fx.na_Tape_held ev_var) ev_var) (gv_tp rfl (gv_cons (gv_nm sc_Tape_harm.nd rfl (by first | exact Or.inl rfl | exact Or.inr rfl)) (gv_cons (gv_nm sc_Tape_harm.nd rfl (by first | exact Or.inl rfl | exact Or.inr rfl)) gv_nil))))
    (sv_cons (sv_if (tv_w (wv_or (tv_not (tv_val (ev_fnK (okK_is_number_0 fx) (fun _ _ _ => .nil) hr rfl tk (ea_cons ev_var ea_nil) (ka_cons ev_int (ka_cons (ev_callB cg_len rfl fx.m_len (by decide +kernel) (ea_cons ev_var ea_nil)) ka_nil))))) (wv_or1 (tv_not (tv_val (ev_fnK (okK_is_number_0 fx) (fun _ _ _ => .nil) hr rfl tk (ea_cons ev_var ea_nil) (ka_cons ev_int (ka_cons (ev_gint rfl fx.c_PRIME) ka_nil)))))))) (sv_one (sv_raise rfl tk rfl fx.g_NoSign fx.x_NoSign)) sv_nil)
    (sv_one (sv_setIx hr.r.units (ev_tup (ea_cons ev_var (ea_cons (ev_op og_add (ev_op og_add (ev_sl ev_var pv_none (pv_some ev_var)) (ev_tup (ea_cons (ev_op og_mod (ev_op og_add (ev_ix hr.r.units ev_var ev_var) ev_var) (ev_gint rfl fx.c_PRIME)) ea_nil))) (ev_sl ev_var (pv_some (ev_op og_add ev_var ev_int)) pv_none)) ea_nil))) (ev_fld fx.g_Tape fx.cl_Tape fx.na_Tape_held ev_var) ev_var)))))
theorem ok_Tape_harm {P : Program} {w : World} {K : PySem.W.Frag} {mg : Str → Option Value} {base : Heap} (fx : Fx K mg) : OkM P w K mg base "Tape" "harm" ["self", "place", "at", "by"] 3 d_Tape_harm := okM_N (fx.c.def_ 15 (d := a_Tape_harm) rfl) fx.mt_Tape_harm sc_Tape_harm (fun _ _ _ _ _ _ us hl => match us, hl with | [_, _, _, _], _ => rfl) (okB_Tape_harm fx)
theorem okB_Tape_put_right {P : Program} {w : World} {K : PySem.W.Frag} {mg : Str → Option Value} {base : Heap} (fx : Fx K mg) : BodyOkM P w K mg base "Tape" "put_right" "Tape.put_right" (defBody s_Tape_put_right) (defScope s_Tape_put_right) N_Tape_put_right 2 b_Tape_put_right := fun cdv A outer s H E hr tk hp =>
  (sv_cons (sv_expr (ev_mt fx.g_Tape fx.cl_Tape (ok_Tape_need_place fx) hr tk ev_var (ea_cons ev_var ea_nil)))
    (sv_one (sv_setIx hr.r.units (ev_tup (ea_cons (ev_ix hr.r.units (ev_ix hr.r.units (ev_fld fx.g_Tape fx.cl_Tape fx.na_Tape_held ev_var) ev_var) ev_int) (ea_cons ev_var ea_nil))) (ev_fld fx.g_Tape fx.cl_Tape fx.na_Tape_held ev_var) ev_var)))
theorem ok_Tape_put_right {P : Program} {w : World} {K : PySem.W.Frag} {mg : Str → Option Value} {base : Heap} (fx : Fx K mg) : OkM P w K mg base "Tape" "put_right" ["self", "place", "row"] 3 d_Tape_put_right := okM_N (fx.c.def_ 16 (d := a_Tape_put_right) rfl) fx.mt_Tape_put_right sc_Tape_put_right (fun _ _ _ _ _ _ us hl => match us, hl with | [_, _, _], _ => rfl) (okB_Tape_put_right fx)
theorem okB_Tape_strike {P : Program} {w : World} {K : PySem.W.Frag} {mg : Str → Option Value} {base : Heap} (fx : Fx K mg) : BodyOkM P w K mg base "Tape" "strike" "Tape.strike" (defBody s_Tape_strike) (defScope s_Tape_strike) N_Tape_strike 2 b_Tape_strike := fun cdv A outer s H E hr tk hp =>
  (sv_cons (sv_expr (ev_mt fx.g_Tape fx.cl_Tape (ok_Tape_need_place fx) hr tk ev_var (ea_cons ev_var ea_nil)))
    (sv_cons (sv_asgT (ev_ix hr.r.units (ev_fld fx.g_Tape fx.cl_Tape fx.na_Tape_held ev_var) ev_var) (gv_tp rfl (gv_cons (gv_nm sc_Tape_strike.nd rfl (by first | exact Or.inl rfl | exact Or.inr rfl)) (gv_cons (gv_nm sc_Tape_strike.nd rfl (by first | exact Or.inl rfl | exact Or.inr rfl)) gv_nil))))
    (sv_one (sv_setIx hr.r.units (ev_tup (ea_cons (ev_op og_add (ev_tup (ea_cons ev_str ea_nil)) (ev_sl ev_var (pv_some ev_int) pv_none)) (ea_cons ev_var ea_nil))) (ev_fld fx.g_Tape fx.cl_Tape fx.na_Tape_held ev_var) ev_var))))
theorem ok_Tape_strike {P : Program} {w : World} {K : PySem.W.Frag} {mg : Str → Option Value} {base : Heap} (fx : Fx K mg) : OkM P w K mg base "Tape" "strike" ["self", "place"] 3 d_Tape_strike := okM_N (fx.c.def_ 17 (d := a_Tape_strike) rfl) fx.mt_Tape_strike sc_Tape_strike (fun _ _ _ _ _ _ us hl => match us, hl with | [_, _], _ => rfl) (okB_Tape_strike fx)
theorem okB_Tape_blank {P : Program} {w : World} {K : PySem.W.Frag} {mg : Str → Option Value} {base : Heap} (fx : Fx K mg) : BodyOkM P w K mg base "Tape" "blank" "Tape.blank" (defBody s_Tape_blank) (defScope s_Tape_blank) N_Tape_blank 0 b_Tape_blank := fun cdv A outer s H E hr tk hp =>
  (sv_cons (sv_fld fx.g_Tape fx.cl_Tape fx.na_Tape_held ev_var (ev_lstM ea_nil))
    (sv_one (sv_fld fx.g_Tape fx.cl_Tape fx.na_Tape_used ev_var ev_int)))
theorem ok_Tape_blank {P : Program} {w : World} {K : PySem.W.Frag} {mg : Str → Option Value} {base : Heap} (fx : Fx K mg) : OkM P w K mg base "Tape" "blank" ["self"] 1 d_Tape_blank := okM_N (fx.c.def_ 18 (d := a_Tape_blank) rfl) fx.mt_Tape_blank sc_Tape_blank (fun _ _ _ _ _ _ us hl => match us, hl with | [_], _ => rfl) (okB_Tape_blank fx)
theorem ok_utape_deed {P : Program} {w : World} {K : PySem.W.Frag} {mg : Str → Option Value} {base : Heap} (fx : Fx K mg) : OkF P w K mg base "_law_utape_deed" ["_law_tape", "_law_word", "_law_some"] 4 d_utape_deed :=
  okF_N (fx.c.def_ 19 (d := a_utape_deed) rfl) fx.g_utape_deed sc_utape_deed (fun _ _ _ _ _ _ us hl => match us, hl with | [_, _, _], _ => rfl) fun cdv A outer s H E hr tk hp =>
  (sv_cons (sv_if (tv_cmp (og_eq hr.r.units) ev_var ev_str rfl) (sv_one (sv_ret (ev_mt fx.g_Tape fx.cl_Tape (ok_Tape_write fx) hr tk ev_var (ea_cons (ev_ix hr.r.units ev_var ev_int) (ea_cons (ev_ix hr.r.units ev_var ev_int) ea_nil))))) sv_nil)
    (sv_cons (sv_if (tv_cmp (og_eq hr.r.units) ev_var ev_str rfl) (sv_one (sv_ret (ev_mt fx.g_Tape fx.cl_Tape (ok_Tape_read fx) hr tk ev_var (ea_cons (ev_ix hr.r.units ev_var ev_int) ea_nil)))) sv_nil)
    (sv_cons (sv_if (tv_cmp (og_eq hr.r.units) ev_var ev_str rfl) (sv_one (sv_ret (ev_mt fx.g_Tape fx.cl_Tape (ok_Tape_harm fx) hr tk ev_var (ea_cons (ev_ix hr.r.units ev_var ev_int) (ea_cons (ev_ix hr.r.units ev_var ev_int) (ea_cons (ev_ix hr.r.units ev_var ev_int) ea_nil)))))) sv_nil)
    (sv_cons (sv_if (tv_cmp (og_eq hr.r.units) ev_var ev_str rfl) (sv_one (sv_ret (ev_mt fx.g_Tape fx.cl_Tape (ok_Tape_put_right fx) hr tk ev_var (ea_cons (ev_ix hr.r.units ev_var ev_int) (ea_cons (ev_ix hr.r.units ev_var ev_int) ea_nil))))) sv_nil)
    (sv_one (sv_ret (ev_ifx (tv_cmp (og_eq hr.r.units) ev_var ev_str rfl) (ev_mt fx.g_Tape fx.cl_Tape (ok_Tape_strike fx) hr tk ev_var (ea_cons (ev_ix hr.r.units ev_var ev_int) ea_nil)) (ev_mt0 fx.g_Tape fx.cl_Tape (ok_Tape_blank fx) hr tk ev_var))))))))
theorem ok_uword {P : Program} {w : World} {K : PySem.W.Frag} {mg : Str → Option Value} {base : Heap} (fx : Fx K mg) : OkF P w K mg base "_law_uword" ["_law_caught"] 1 d_uword :=
  okF_N (fx.c.def_ 20 (d := a_uword) rfl) fx.g_uword sc_uword (fun _ _ _ _ _ _ us hl => match us, hl with | [_], _ => rfl) fun cdv A outer s H E hr tk hp =>
  (sv_cons (sv_asg sc_uword.nd rfl (by first | exact Or.inl rfl | exact Or.inr rfl) (ev_lst (ea_cons (ev_isXE (C := "BadFiles") rfl fx.m_isinstance (by first | exact .own _ | exact .ty _) ev_var (pe_glob (v := .ref (He.ga K "BadFiles")) rfl fx.g_BadFiles rfl) (fun x hx => isx_ok fx.isx hx (by decide))) (ea_cons (ev_isXE (C := "NoFile") rfl fx.m_isinstance (by first | exact .own _ | exact .ty _) ev_var (pe_glob (v := .ref (He.ga K "NoFile")) rfl fx.g_NoFile rfl) (fun x hx => isx_ok fx.isx hx (by decide))) ea_nil))))
    (sv_cons (sv_asg sc_uword.nd rfl (by first | exact Or.inl rfl | exact Or.inr rfl) (ev_op og_add ev_var (ev_lst (ea_cons (ev_isXE (C := "NoChain") rfl fx.m_isinstance (by first | exact .own _ | exact .ty _) ev_var (pe_glob (v := .ref (He.ga K "NoChain")) rfl fx.g_NoChain rfl) (fun x hx => isx_ok fx.isx hx (by decide))) (ea_cons (ev_isXE (C := "NoBook") rfl fx.m_isinstance (by first | exact .own _ | exact .ty _) ev_var (pe_glob (v := .ref (He.ga K "NoBook")) rfl fx.g_NoBook rfl) (fun x hx => isx_ok fx.isx hx (by decide))) ea_nil)))))
    (sv_cons (sv_asg sc_uword.nd rfl (by first | exact Or.inl rfl | exact Or.inr rfl) (ev_op og_add ev_var (ev_lst (ea_cons (ev_isXE (C := "Full") rfl fx.m_isinstance (by first | exact .own _ | exact .ty _) ev_var (pe_glob (v := .ref (He.ga K "Full")) rfl fx.g_Full rfl) (fun x hx => isx_ok fx.isx hx (by decide))) (ea_cons (ev_isXE (C := "NoPlace") rfl fx.m_isinstance (by first | exact .own _ | exact .ty _) ev_var (pe_glob (v := .ref (He.ga K "NoPlace")) rfl fx.g_NoPlace rfl) (fun x hx => isx_ok fx.isx hx (by decide))) ea_nil)))))
    (sv_cons (sv_asg sc_uword.nd rfl (by first | exact Or.inl rfl | exact Or.inr rfl) (ev_op og_add ev_var (ev_lst (ea_cons (ev_isXE (C := "NoSign") rfl fx.m_isinstance (by first | exact .own _ | exact .ty _) ev_var (pe_glob (v := .ref (He.ga K "NoSign")) rfl fx.g_NoSign rfl) (fun x hx => isx_ok fx.isx hx (by decide))) (ea_cons (ev_isXE (C := "TooMany") rfl fx.m_isinstance (by first | exact .own _ | exact .ty _) ev_var (pe_glob (v := .ref (He.ga K "TooMany")) rfl fx.g_TooMany rfl) (fun x hx => isx_ok fx.isx hx (by decide))) ea_nil)))))
    (sv_cons (sv_asg sc_uword.nd rfl (by first | exact Or.inl rfl | exact Or.inr rfl) (ev_op og_add ev_var (ev_lst (ea_cons (ev_isXE (C := "NoDays") rfl fx.m_isinstance (by first | exact .own _ | exact .ty _) ev_var (pe_glob (v := .ref (He.ga K "NoDays")) rfl fx.g_NoDays rfl) (fun x hx => isx_ok fx.isx hx (by decide))) (ea_cons (ev_isXE (C := "NoMoment") rfl fx.m_isinstance (by first | exact .own _ | exact .ty _) ev_var (pe_glob (v := .ref (He.ga K "NoMoment")) rfl fx.g_NoMoment rfl) (fun x hx => isx_ok fx.isx hx (by decide))) ea_nil)))))
    (sv_cons (sv_asg sc_uword.nd rfl (by first | exact Or.inl rfl | exact Or.inr rfl) (ev_op og_add ev_var (ev_lst (ea_cons (ev_isXE (C := "NoRoom") rfl fx.m_isinstance (by first | exact .own _ | exact .ty _) ev_var (pe_glob (v := .ref (He.ga K "NoRoom")) rfl fx.g_NoRoom rfl) (fun x hx => isx_ok fx.isx hx (by decide))) (ea_cons (ev_isXE (C := "BadHold") rfl fx.m_isinstance (by first | exact .own _ | exact .ty _) ev_var (pe_glob (v := .ref (He.ga K "BadHold")) rfl fx.g_BadHold rfl) (fun x hx => isx_ok fx.isx hx (by decide))) ea_nil)))))
    (sv_cons (sv_asg sc_uword.nd rfl (by first | exact Or.inl rfl | exact Or.inr rfl) (ev_op og_add ev_var (ev_lst (ea_cons (ev_isXE (C := "Twice") rfl fx.m_isinstance (by first | exact .own _ | exact .ty _) ev_var (pe_glob (v := .ref (He.ga K "Twice")) rfl fx.g_Twice rfl) (fun x hx => isx_ok fx.isx hx (by decide))) (ea_cons (ev_isXE (C := "NoHold") rfl fx.m_isinstance (by first | exact .own _ | exact .ty _) ev_var (pe_glob (v := .ref (He.ga K "NoHold")) rfl fx.g_NoHold rfl) (fun x hx => isx_ok fx.isx hx (by decide))) ea_nil)))))
    (sv_cons (sv_asg sc_uword.nd rfl (by first | exact Or.inl rfl | exact Or.inr rfl) (ev_op og_add ev_var (ev_lst (ea_cons (ev_isXE (C := "NoTape") rfl fx.m_isinstance (by first | exact .own _ | exact .ty _) ev_var (pe_glob (v := .ref (He.ga K "NoTape")) rfl fx.g_NoTape rfl) (fun x hx => isx_ok fx.isx hx (by decide))) (ea_cons (ev_isXE (C := "BadRack") rfl fx.m_isinstance (by first | exact .own _ | exact .ty _) ev_var (pe_glob (v := .ref (He.ga K "BadRack")) rfl fx.g_BadRack rfl) (fun x hx => isx_ok fx.isx hx (by decide))) ea_nil)))))
    (sv_cons (sv_asg sc_uword.nd rfl (by first | exact Or.inl rfl | exact Or.inr rfl) (ev_op og_add ev_var (ev_lst (ea_cons (ev_isXE (C := "NoRow") rfl fx.m_isinstance (by first | exact .own _ | exact .ty _) ev_var (pe_glob (v := .ref (He.ga K "NoRow")) rfl fx.g_NoRow rfl) (fun x hx => isx_ok fx.isx hx (by decide))) (ea_cons (ev_isXE (C := "Lost") rfl fx.m_isinstance (by first | exact .own _ | exact .ty _) ev_var (pe_glob (v := .ref (He.ga K "Lost")) rfl fx.g_Lost rfl) (fun x hx => isx_ok fx.isx hx (by decide))) ea_nil)))))
    (sv_cons (sv_asg sc_uword.nd rfl (by first | exact Or.inl rfl | exact Or.inr rfl) ev_str)
    (sv_cons (sv_if (tv_w (wv_or (tv_cmp (og_ne hr.r.units) (ev_cntB hr.r.units ev_var (ea_cons ev_bl ea_nil)) ev_int rfl) (wv_or1 (tv_not (tv_val (ev_isXE (C := "ValueError") rfl fx.m_isinstance (by first | exact .own _ | exact .ty _) ev_var (pe_bltn (v := .ty "ValueError") rfl fx.m_ValueError (by decide +kernel) rfl) (fun x hx => isx_ok fx.isx hx (by decide)))))))) (sv_one (sv_ret ev_str)) sv_nil)
    (sv_one (sv_ret (ev_ix hr.r.units (ev_split ev_var ev_str) (ev_idxB ev_var (ea_cons ev_bl ea_nil))))))))))))))))
theorem ok_utape_told {P : Program} {w : World} {K : PySem.W.Frag} {mg : Str → Option Value} {base : Heap} (fx : Fx K mg) : OkF P w K mg base "_law_utape_told" ["_law_tape", "_law_word", "_law_some"] 5 d_utape_told :=
  okF_N (fx.c.def_ 21 (d := a_utape_told) rfl) fx.g_utape_told sc_utape_told (fun _ _ _ _ _ _ us hl => match us, hl with | [_, _, _], _ => rfl) fun cdv A outer s H E hr tk hp =>
  (sv_cons (sv_asg sc_utape_told.nd rfl (by first | exact Or.inl rfl | exact Or.inr rfl) ev_non)
    (sv_cons (sv_asg sc_utape_told.nd rfl (by first | exact Or.inl rfl | exact Or.inr rfl) ev_non)
    (sv_cons (sv_tryE rfl rfl rfl sc_utape_told.nd rfl rfl ⟨rfl, by decide, .inl fx.g_VaultError⟩ (by decide) tk (fun W pn xe tk hp => (sv_one (sv_asg sc_utape_told.nd rfl (by first | exact Or.inl rfl | exact Or.inr rfl) (ev_fnO (ok_utape_deed fx) hr rfl tk (ea_cons ev_var (ea_cons ev_var (ea_cons ev_var ea_nil))))))) (fun e he => by simp only [List.mem_cons, List.not_mem_nil, or_false] at he; rcases he with rfl | rfl | rfl <;> first | exact ⟨fx.g_Full, fx.xm_Full_VaultError⟩ | exact ⟨fx.g_NoPlace, fx.xm_NoPlace_VaultError⟩ | exact ⟨fx.g_NoSign, fx.xm_NoSign_VaultError⟩) (fun a pn => pss_imp (pss_cons (ps_asg (pe_var (i := 5) rfl (by first | exact Or.inl rfl | exact Or.inr (Or.inl rfl) | exact Or.inr (Or.inr rfl))) (pg_name (i := 3) sc_utape_told.nd rfl (by first | exact Or.inl rfl | exact Or.inr rfl))) pss_nil) (fun D σ H h => h)))
    (sv_one (sv_ret (ev_ifx (tv_cmp og_is ev_var ev_non rfl) (ev_tup (ea_cons ev_str (ea_cons ev_var ea_nil))) (ev_tup (ea_cons (ev_fnO (ok_uword fx) hr rfl tk (ea_cons ev_var ea_nil)) (ea_cons ev_non ea_nil)))))))))
theorem okB_Tape_records {P : Program} {w : World} {K : PySem.W.Frag} {mg : Str → Option Value} {base : Heap} (fx : Fx K mg) : BodyOkM P w K mg base "Tape" "records" "Tape.records" (defBody s_Tape_records) (defScope s_Tape_records) N_Tape_records 0 b_Tape_records := fun cdv A outer s H E hr tk hp =>
  (sv_one (sv_ret (ev_listM rfl fx.m_list (ea_cons (ev_fld fx.g_Tape fx.cl_Tape fx.na_Tape_held ev_var) ea_nil))))
theorem ok_Tape_records {P : Program} {w : World} {K : PySem.W.Frag} {mg : Str → Option Value} {base : Heap} (fx : Fx K mg) : OkM P w K mg base "Tape" "records" ["self"] 1 d_Tape_records := okM_N (fx.c.def_ 22 (d := a_Tape_records) rfl) fx.mt_Tape_records sc_Tape_records (fun _ _ _ _ _ _ us hl => match us, hl with | [_], _ => rfl) (okB_Tape_records fx)
theorem okB_Tape___len__ {P : Program} {w : World} {K : PySem.W.Frag} {mg : Str → Option Value} {base : Heap} (fx : Fx K mg) : BodyOkM P w K mg base "Tape" "__len__" "Tape.__len__" (defBody s_Tape___len__) (defScope s_Tape___len__) N_Tape___len__ 0 b_Tape___len__ := fun cdv A outer s H E hr tk hp =>
  (sv_one (sv_ret (ev_callB cg_len rfl fx.m_len (by decide +kernel) (ea_cons (ev_fld fx.g_Tape fx.cl_Tape fx.na_Tape_held ev_var) ea_nil))))
theorem ok_Tape___len__ {P : Program} {w : World} {K : PySem.W.Frag} {mg : Str → Option Value} {base : Heap} (fx : Fx K mg) : OkM P w K mg base "Tape" "__len__" ["self"] 1 d_Tape___len__ := okM_N (fx.c.def_ 23 (d := a_Tape___len__) rfl) fx.mt_Tape___len__ sc_Tape___len__ (fun _ _ _ _ _ _ us hl => match us, hl with | [_], _ => rfl) (okB_Tape___len__ fx)
theorem ok_u_has {P : Program} {w : World} {K : PySem.W.Frag} {mg : Str → Option Value} {base : Heap} (fx : Fx K mg) : OkF P w K mg base "_law_u_has" ["_law_tape", "_law_held", "_law_own"] 3 d_u_has :=
  okF_N (fx.c.def_ 24 (d := a_u_has) rfl) fx.g_u_has sc_u_has (fun _ _ _ _ _ _ us hl => match us, hl with | [_, _, _], _ => rfl) fun cdv A outer s H E hr tk hp =>
  (sv_cons (sv_asg sc_u_has.nd rfl (by first | exact Or.inl rfl | exact Or.inr rfl) (ev_mt0 fx.g_Tape fx.cl_Tape (ok_Tape_records fx) hr tk ev_var))
    (sv_cons (sv_if (tv_w (wv_or (tv_not (tv_val (ev_isi (t := .list) rfl fx.m_isinstance (by decide +kernel) rfl fx.m_list (by decide +kernel) ev_var))) (wv_or1 (tv_cmp (og_ne hr.r.units) (ev_reprQ fx.k_sys hr rfl fx.m_repr ev_var) (ev_reprQ fx.k_sys hr rfl fx.m_repr ev_var) rfl)))) (sv_one (sv_ret ev_bl)) sv_nil)
    (sv_cons (sv_expr (ev_append ev_var (ea_cons ev_non ea_nil)))
    (sv_cons (sv_asg sc_u_has.nd rfl (by first | exact Or.inl rfl | exact Or.inr rfl) (ev_tmpL (ev_callB (cg_sum rfl) rfl fx.m_sum (by decide +kernel) (ea_cons (ev_comp (own := [(("_law_label" : Str), 5), (("_law_row" : Str), 6)]) rfl sc_u_has.nd (iv_seq ev_var) (blkOk_by (N := N_u_has) (sc := defScope s_u_has) (own := [(("_law_label" : Str), 5), (("_law_row" : Str), 6)]) (by decide +kernel)) (fun _ _ _ _ _ => (gv_tp rfl (gv_cons (gv_nm sc_u_has.nd rfl (by first | exact Or.inl rfl | exact Or.inr rfl)) (gv_cons (gv_nm sc_u_has.nd rfl (by first | exact Or.inl rfl | exact Or.inr rfl)) gv_nil)))) (fun _ _ _ _ _ => tvs_nil) (fun _ _ _ _ _ => (ev_op og_add (ev_callB cg_len rfl fx.m_len (by decide +kernel) (ea_cons ev_var ea_nil)) ev_int))) ea_nil))))
    (sv_cons (sv_if (tv_cmp (og_ne hr.r.units) (ev_reprQ fx.k_sys hr rfl fx.m_repr (ev_lst (ea_cons (ev_mt0 fx.g_Tape fx.cl_Tape (ok_Tape_load fx) hr tk ev_var) (ea_cons (ev_lenO rfl fx.m_len fx.g_Tape (ok_Tape___len__ fx) hr ev_var) ea_nil)))) (ev_reprQ fx.k_sys hr rfl fx.m_repr (ev_lst (ea_cons ev_var (ea_cons (ev_callB cg_len rfl fx.m_len (by decide +kernel) (ea_cons ev_var ea_nil)) ea_nil)))) rfl) (sv_one (sv_ret ev_bl)) sv_nil)
    (sv_cons (sv_if (tv_cmp (og_ne hr.r.units) (ev_reprQ fx.k_sys hr rfl fx.m_repr (ev_lst (ea_cons (ev_fld fx.g_Tape fx.cl_Tape fx.na_Tape_number ev_var) (ea_cons (ev_fld fx.g_Tape fx.cl_Tape fx.na_Tape_site ev_var) (ea_cons (ev_fld fx.g_Tape fx.cl_Tape fx.na_Tape_room ev_var) ea_nil))))) (ev_reprQ fx.k_sys hr rfl fx.m_repr ev_var) rfl) (sv_one (sv_ret ev_bl)) sv_nil)
    (sv_one (sv_ret (ev_cmp (og_eq hr.r.units) (ev_reprQ fx.k_sys hr rfl fx.m_repr (ev_mt0 fx.g_Tape fx.cl_Tape (ok_Tape_records fx) hr tk ev_var)) (ev_reprQ fx.k_sys hr rfl fx.m_repr ev_var) rfl)))))))))
theorem ok_law {P : Program} {w : World} {K : PySem.W.Frag} {mg : Str → Option Value} {base : Heap} (fx : Fx K mg) : OkF P w K mg base "law" ["_law_script"] 6 d_law :=
  okF_N (fx.c.def_ 25 (d := a_law) rfl) fx.g_law sc_law (fun _ _ _ _ _ _ us hl => match us, hl with | [_], _ => rfl) fun cdv A outer s H E hr tk hp =>
  (sv_cons (sv_asg sc_law.nd rfl (by first | exact Or.inl rfl | exact Or.inr rfl) (ev_fnO (ok_uopen fx) hr rfl tk (ea_cons ev_var ea_nil)))
    (sv_cons (sv_asg sc_law.nd rfl (by first | exact Or.inl rfl | exact Or.inr rfl) (ev_lstM ea_nil))
    (sv_cons (sv_for hp rfl (iv_rng1 rfl fx.m_range ev_int) (gv_nm sc_law.nd rfl (by first | exact Or.inl rfl | exact Or.inr rfl)) (sv_cons (sv_asg sc_law.nd rfl (by first | exact Or.inl rfl | exact Or.inr rfl) (ev_ix hr.r.units (ev_lst (ea_cons ev_int (ea_cons ev_int (ea_cons ev_int (ea_cons (ev_op og_pow ev_int ev_int) ea_nil))))) (ev_fnO (ok_udraw fx) hr rfl tk (ea_cons ev_var (ea_cons ev_int ea_nil)))))
    (sv_one (sv_expr (ev_append ev_var (ea_cons (ev_lst (ea_cons (ev_op og_mul (ev_fnO (ok_udraw fx) hr rfl tk (ea_cons ev_var (ea_cons ev_int ea_nil))) ev_var) (ea_cons (ev_op og_mul (ev_fnO (ok_udraw fx) hr rfl tk (ea_cons ev_var (ea_cons ev_int ea_nil))) ev_var) (ea_cons (ev_op og_mul (ev_fnO (ok_udraw fx) hr rfl tk (ea_cons ev_var (ea_cons ev_int ea_nil))) ev_var) ea_nil)))) ea_nil))))))
    (sv_cons (sv_unl rfl ev_var (gv_cons (gv_nm sc_law.nd rfl (by first | exact Or.inl rfl | exact Or.inr rfl)) (gv_cons (gv_nm sc_law.nd rfl (by first | exact Or.inl rfl | exact Or.inr rfl)) gv_nil)))
    (sv_cons (sv_asg sc_law.nd rfl (by first | exact Or.inl rfl | exact Or.inr rfl) (ev_lstM (ea_cons (ev_mk rfl fx.g_Tape (ok_Tape___init__ fx) hr tk (ea_cons (ev_ix hr.r.units ev_var ev_int) (ea_cons (ev_ix hr.r.units ev_var ev_int) (ea_cons (ev_ix hr.r.units ev_var ev_int) ea_nil)))) ea_nil)))
    (sv_cons (sv_expr (ev_append ev_var (ea_cons (ev_mkK rfl fx.g_Tape (okIK_Tape___init___0 fx) hr tk (ea_cons (ev_ix hr.r.units ev_var ev_int) (ea_cons (ev_ix hr.r.units ev_var ev_int) ea_nil)) (ka_cons (ev_ix hr.r.units ev_var ev_int) ka_nil)) ea_nil)))
    (sv_cons (sv_asg sc_law.nd rfl (by first | exact Or.inl rfl | exact Or.inr rfl) (ev_lstM (ea_cons (ev_lstM ea_nil) (ea_cons (ev_lstM ea_nil) ea_nil))))
    (sv_cons (sv_for hp rfl (iv_rng1 rfl fx.m_range ev_int) (gv_nm sc_law.nd rfl (by first | exact Or.inl rfl | exact Or.inr rfl)) (sv_cons (sv_asg sc_law.nd rfl (by first | exact Or.inl rfl | exact Or.inr rfl) (ev_fnO (ok_udraw fx) hr rfl tk (ea_cons ev_var (ea_cons ev_int ea_nil))))
    (sv_cons (sv_asgT (ev_fnO (ok_utape_turn fx) hr rfl tk (ea_cons ev_var (ea_cons (ev_ix hr.r.units ev_var ev_var) ea_nil))) (gv_tp rfl (gv_cons (gv_nm sc_law.nd rfl (by first | exact Or.inl rfl | exact Or.inr rfl)) (gv_cons (gv_nm sc_law.nd rfl (by first | exact Or.inl rfl | exact Or.inr rfl)) gv_nil))))
    (sv_cons (sv_asg sc_law.nd rfl (by first | exact Or.inl rfl | exact Or.inr rfl) (ev_reprQ fx.k_sys hr rfl fx.m_repr ev_var))
    (sv_cons (sv_asg sc_law.nd rfl (by first | exact Or.inl rfl | exact Or.inr rfl) (ev_fnO (ok_utape_due fx) hr rfl tk (ea_cons (ev_ix hr.r.units ev_var ev_var) (ea_cons (ev_ix hr.r.units (ev_ix hr.r.units ev_var ev_var) ev_int) (ea_cons ev_var (ea_cons ev_var ea_nil))))))
    (sv_cons (sv_if (tv_cmp (og_ne hr.r.units) (ev_reprQ fx.k_sys hr rfl fx.m_repr (ev_fnO (ok_utape_told fx) hr rfl tk (ea_cons (ev_ix hr.r.units ev_var ev_var) (ea_cons ev_var (ea_cons ev_var ea_nil))))) (ev_reprQ fx.k_sys hr rfl fx.m_repr ev_var) rfl) (sv_one (sv_ret ev_bl)) sv_nil)
    (sv_cons (sv_if (tv_cmp (og_ne hr.r.units) (ev_reprQ fx.k_sys hr rfl fx.m_repr ev_var) ev_var rfl) (sv_one (sv_ret ev_bl)) sv_nil)
    (sv_one (sv_for hp rfl (iv_rng1 rfl fx.m_range ev_int) (gv_nm sc_law.nd rfl (by first | exact Or.inl rfl | exact Or.inr rfl)) (sv_one (sv_if (tv_not (tv_val (ev_fnO (ok_u_has fx) hr rfl tk (ea_cons (ev_ix hr.r.units ev_var ev_var) (ea_cons (ev_ix hr.r.units ev_var ev_var) (ea_cons (ev_ix hr.r.units ev_var ev_var) ea_nil)))))) (sv_one (sv_ret ev_bl)) sv_nil)))))))))))
    (sv_one (sv_ret ev_bl))))))))))
abbrev R : PySem.W.OpenRow := PySem.W.OpenLaw.row PySem.Challenge.rw_saltvault_k37_tapes
abbrev hk : PySem.W.Hook := hookZ 6 fa fn ex
def ob (s : PySem.W.SharedT) : AlY := obsZ 6 fa fn ex (HandSHeadRun.getT s)
theorem ob_eq (s : PySem.W.SharedT) : ob s = hk.obs s.abs := obsZ_eq (HandSHeadRun.getT_eq s)
theorem run (w : World) : HandSHeadRun.RunEq R (PySem.W.view R.prog [38]) hk ob 6000 [("VaultError" : PySem.Str), ("BadFiles" : PySem.Str), ("NoFile" : PySem.Str), ("NoChain" : PySem.Str), ("NoBook" : PySem.Str), ("Full" : PySem.Str), ("NoPlace" : PySem.Str), ("NoSign" : PySem.Str), ("TooMany" : PySem.Str), ("NoDays" : PySem.Str), ("NoMoment" : PySem.Str), ("NoRoom" : PySem.Str), ("BadHold" : PySem.Str), ("Twice" : PySem.Str), ("NoHold" : PySem.Str), ("NoTape" : PySem.Str), ("BadRack" : PySem.Str), ("NoRow" : PySem.Str), ("Lost" : PySem.Str), ("PRIME" : PySem.Str), ("is_number" : PySem.Str), ("Tape" : PySem.Str), ("_law_umixed" : PySem.Str), ("_law_uopen" : PySem.Str), ("_law_udraw" : PySem.Str), ("_law_uwhole" : PySem.Str), ("_law_urow" : PySem.Str), ("_law_uword" : PySem.Str), ("_law_ulabel" : PySem.Str), ("_law_utape_deed" : PySem.Str), ("_law_utape_told" : PySem.Str), ("_law_uis_place" : PySem.Str), ("_law_utape_due" : PySem.Str), ("_law_utape_turn" : PySem.Str), ("_law_u_has" : PySem.Str)] w := by
  intro os
  kernel_rfl
end C37
open PySem PySem.W PySem.Calls PyProof.Rows
theorem C37.holds (hlaw : ∀ ns : List Int, ns.length ≤ 63 → ∃ S, C37.d_law [.scr ns] [] = .ok (.bl true) S) : PySem.Challenge.rw_saltvault_k37_tapes.Holds := by
  w_on; o_law
  refine HandSHeadRun.head_any (r := OpenLaw.row PySem.Challenge.rw_saltvault_k37_tapes) (q := view (OpenLaw.row PySem.Challenge.rw_saltvault_k37_tapes).prog [38]) (H := C37.hk) (ob := C37.ob) (M := 6000) (loose := [("VaultError" : PySem.Str), ("BadFiles" : PySem.Str), ("NoFile" : PySem.Str), ("NoChain" : PySem.Str), ("NoBook" : PySem.Str), ("Full" : PySem.Str), ("NoPlace" : PySem.Str), ("NoSign" : PySem.Str), ("TooMany" : PySem.Str), ("NoDays" : PySem.Str), ("NoMoment" : PySem.Str), ("NoRoom" : PySem.Str), ("BadHold" : PySem.Str), ("Twice" : PySem.Str), ("NoHold" : PySem.Str), ("NoTape" : PySem.Str), ("BadRack" : PySem.Str), ("NoRow" : PySem.Str), ("Lost" : PySem.Str), ("PRIME" : PySem.Str), ("is_number" : PySem.Str), ("Tape" : PySem.Str), ("_law_umixed" : PySem.Str), ("_law_uopen" : PySem.Str), ("_law_udraw" : PySem.Str), ("_law_uwhole" : PySem.Str), ("_law_urow" : PySem.Str), ("_law_uword" : PySem.Str), ("_law_ulabel" : PySem.Str), ("_law_utape_deed" : PySem.Str), ("_law_utape_told" : PySem.Str), ("_law_uis_place" : PySem.Str), ("_law_utape_due" : PySem.Str), ("_law_utape_turn" : PySem.Str), ("_law_u_has" : PySem.Str)]) (d := HandSHeadRun.topDef (OpenLaw.row PySem.Challenge.rw_saltvault_k37_tapes).prog 38) (kwd := []) C37.ob_eq
    (by kernel_rfl) (fun s => by kernel_rfl) C37.run (by kernel_rfl) (by kernel_rfl) (by kernel_rfl) (by rfl) (by first | assumption | decide +kernel) (by decide +kernel) ⟨rfl, rfl, rfl, rfl, rfl, by decide +kernel⟩ ?hw ?hc
  case hw => w_witness2
  case hc =>
    refine DL.walk_ofG (l := PySem.Challenge.rw_saltvault_k37_tapes) (n := 63) (k := 6) (x := "_law_script") (CX := fun w => L2.CX (PySem.Challenge.rw_saltvault_k37_tapes).prog w) rfl (by decide) (by kernel_rfl) ⟨⟨rfl, by decide, by decide⟩, rfl⟩ ?F (fun w H s e s' z => DL.cx_none H s e s' z)
    intro w mg fa h Y G hmg0
    obtain ⟨K, KX, c, e0⟩ := Y
    have fx : C37.Fx K mg := ⟨c, ⟨h, KX, G⟩, e0⟩
    have hmg : mg ("law" : PySem.Str) = some (.ref fa) := by
      have e : (HandSHeadRun.topDef (OpenLaw.row PySem.Challenge.rw_saltvault_k37_tapes).prog 38).name = ("law" : PySem.Str) := by kernel_rfl
      rw [← e]
      exact hmg0
    have e := hmg.symm.trans fx.g_law
    cases e
    obtain ⟨fd, F⟩ := fx.c.def_ 25 (d := C37.a_law) rfl
    have b := L2.FunD.bindsA (ps := ["_law_script"]) F fun _ _ _ _ _ _ us hl => match us, hl with | [_], _ => rfl
    exact ⟨K, fd, DL.spD K mg 1 C37.d_law, KX, fun s v => b s [v] rfl, fun H a ns hl hO hS => DL.sp_law hlaw H a ns hl hO hS, fun base _ _ => DL.OkF.at_ (C37.ok_law fx) F⟩
theorem PySem.Challenge.cw_saltvault_k37_tapes_holds : PySem.Challenge.rw_saltvault_k37_tapes.Holds := by
  exact C37.holds C37.law_ok
