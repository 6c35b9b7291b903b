import PyProof.Rows.All
import KE.KDictKeyed
import KE.KeyNested
import Wide.All
import OpenK.AllK
import Wide.FinOn
import HandS.ForExc
import HandS.Comp
import HandS.Dict
import HandS.Iter
import HandS.Text
import HandS.TupAny
import HandS.IsInst
import HandS.Wide
import HandS.TryMany
import HandS.HeadHook2
import HandS.ExcCtx
import HandS.TupMul
import HandS.TupLe
import KE.DataCmp
import HandS.WordsDict
import KE.SortData
import HandS.SortInts
import HandS.Conv
import HandS.Style
import HandS.DictTup
import KE.KDictLaws
import HandS.ExcIs
import HandS.HeadHook1
import KE.KDictDisplayH
import HandS.ExcOwn
import PyProof.ExcBaseAll.ValueError
import HandS.Head2
import HandS.HeadEnd
import KE.KStateDown
import PySem.Challenge.RW_signbench_k02_keys_read
set_option Elab.async false
set_option linter.all false
set_option maxRecDepth 100000
set_option maxHeartbeats 4000000
namespace S
open PySem PySem.Spec L2
open PyProof.Rows hiding St

/-! ## data: tuples by value, lists and dicts and instances by address; lst is told data alone -/
structure Kt where
  K : PySem.W.Frag
  P : Program
  w : World
instance : CoeOut Kt PySem.W.Frag := ⟨Kt.K⟩
abbrev kt (X : Cx) : Kt := ⟨X.K, X.prog, X.w⟩

inductive D where
  | non | bl (b : Bool) | int (i : Int) | str (x : Str) | tup (xs : List D) | lst (xs : List D) | ref (a : Addr) | ty (n : String) | fn (x : Str) | rl (xs : List D)

/-- a list that never changes -/
def KL (K : Kt) (a : Addr) (xs : List V) : Prop := ∃ (o : Obj) (its : Array Value) (n : Nat), K.K.lookup a = some o ∧ o.cls = .type "list" ∧ o.dict = none ∧ o.data = .seq its n ∧ its.size ≤ sizeLine ∧ Vals xs its.toList
def Sq0 (K : Kt) (H : Hp) (a : Addr) (vs : List V) : Prop := (∃ o, H a = some (.frz o (.lst vs))) ∨ KL K a vs
theorem Sq0.sq {K : Kt} {H : Hp} {a : Addr} {vs : List V} (h : Sq0 K H a vs) : SqL K H a vs := by
  rcases h with ⟨o, h⟩ | h
  · exact .inl (.inr ⟨o, h⟩)
  · exact .inr h
mutual
inductive Rp (K : Kt) (H : Hp) : D → V → Prop
  | non : Rp K H .non .non
  | bl (b : Bool) : Rp K H (.bl b) (.bl b)
  | int (i : Int) : Rp K H (.int i) (.int i)
  | str (x : Str) : Rp K H (.str x) (.str x)
  | ref (a : Addr) : Rp K H (.ref a) (.ref a)
  | ty (n : String) : Rp K H (.ty n) (.ty n)
  | fn (x : Str) : Rp K H (.fn x) (.ref (He.ga K x))
  | tup {xs : List D} {vs : List V} {a : Addr} : SqT K H a vs → Rps K H xs vs → Rp K H (.tup xs) (.ref a)
  | rl {xs : List D} {vs : List V} {a : Addr} : Sq0 K H a vs → Rps K H xs vs → Rp K H (.rl xs) (.ref a)
inductive Rps (K : Kt) (H : Hp) : List D → List V → Prop
  | nil : Rps K H [] []
  | cons {x : D} {v : V} {xs : List D} {vs : List V} : Rp K H x v → Rps K H xs vs → Rps K H (x :: xs) (v :: vs)
end

structure Tm (K : Kt) (H H' : Hp) : Prop where
  t : ∀ a vs, SqT K H a vs → SqT K H' a vs
  l : ∀ a vs, Sq0 K H a vs → Sq0 K H' a vs
theorem Tm.refl {K : Kt} {H : Hp} : Tm K H H := ⟨fun _ _ h => h, fun _ _ h => h⟩
theorem Tm.trans {K : Kt} {H H1 H2 : Hp} (a : Tm K H H1) (b : Tm K H1 H2) : Tm K H H2 := ⟨fun x vs h => b.t x vs (a.t x vs h), fun x vs h => b.l x vs (a.l x vs h)⟩

section
variable {K : Kt} {H H' : Hp}
mutual
theorem Rp.mono (t : Tm K H H') : ∀ {d : D} {v : V}, Rp K H d v → Rp K H' d v
  | _, _, .non => .non
  | _, _, .bl b => .bl b
  | _, _, .int i => .int i
  | _, _, .str x => .str x
  | _, _, .ref a => .ref a
  | _, _, .ty n => .ty n
  | _, _, .fn x => .fn x
  | _, _, .tup h r => .tup (t.t _ _ h) (Rps.mono t r)
  | _, _, .rl h r => .rl (t.l _ _ h) (Rps.mono t r)
theorem Rps.mono (t : Tm K H H') : ∀ {ds : List D} {vs : List V}, Rps K H ds vs → Rps K H' ds vs
  | _, _, .nil => .nil
  | _, _, .cons h r => .cons (Rp.mono t h) (Rps.mono t r)
end
theorem Rps.length : ∀ {ds : List D} {vs : List V}, Rps K H ds vs → ds.length = vs.length
  | _, _, .nil => rfl
  | _, _, .cons _ r => by simp [Rps.length r]
theorem Rps.get : ∀ {ds : List D} {vs : List V} {i : Nat} {d : D}, Rps K H ds vs → ds[i]? = some d → ∃ v, vs[i]? = some v ∧ Rp K H d v
  | _, _, _, _, .nil, e => by simp at e
  | _, _, 0, _, .cons h _, e => by simp at e; subst e; exact ⟨_, rfl, h⟩
  | _, _, i + 1, _, .cons _ r, e => by
    obtain ⟨v, h1, h2⟩ := Rps.get (i := i) r (by simpa using e)
    exact ⟨v, by simpa using h1, h2⟩
theorem Rps.get' : ∀ {ds : List D} {vs : List V} {i : Nat} {v : V}, Rps K H ds vs → vs[i]? = some v → ∃ d, ds[i]? = some d ∧ Rp K H d v
  | _, _, _, _, .nil, e => by simp at e
  | _, _, 0, _, .cons h _, e => by simp at e; subst e; exact ⟨_, rfl, h⟩
  | _, _, i + 1, _, .cons _ r, e => by
    obtain ⟨v, h1, h2⟩ := Rps.get' (i := i) r (by simpa using e)
    exact ⟨v, by simpa using h1, h2⟩
theorem Rps.append : ∀ {ds es : List D} {vs us : List V}, Rps K H ds vs → Rps K H es us → Rps K H (ds ++ es) (vs ++ us)
  | _, _, _, _, .nil, s => s
  | _, _, _, _, .cons h r, s => .cons h (Rps.append r s)
theorem Rps.take : ∀ {ds : List D} {vs : List V} (n : Nat), Rps K H ds vs → Rps K H (ds.take n) (vs.take n)
  | _, _, 0, _ => by simpa using Rps.nil
  | _, _, _ + 1, .nil => by simpa using Rps.nil
  | _, _, n + 1, .cons h r => by simpa using Rps.cons h (Rps.take n r)
theorem Rps.drop : ∀ {ds : List D} {vs : List V} (n : Nat), Rps K H ds vs → Rps K H (ds.drop n) (vs.drop n)
  | _, _, 0, r => by simpa using r
  | _, _, _ + 1, .nil => by simpa using Rps.nil
  | _, _, n + 1, .cons _ r => by simpa using Rps.drop n r
theorem Rps.reverse : ∀ {ds : List D} {vs : List V}, Rps K H ds vs → Rps K H ds.reverse vs.reverse
  | _, _, .nil => by simpa using Rps.nil
  | _, _, .cons h r => by simpa using Rps.append (Rps.reverse r) (.cons h .nil)
theorem Rps.set {x : D} {v : V} (q : Rp K H x v) : ∀ {ds : List D} {vs : List V} (n : Nat), Rps K H ds vs → Rps K H (ds.set n x) (vs.set n v)
  | _, _, 0, .nil => by simpa using Rps.nil
  | _, _, _ + 1, .nil => by simpa using Rps.nil
  | _, _, 0, .cons _ r => by simpa using Rps.cons q r
  | _, _, n + 1, .cons h r => by simpa using Rps.cons h (Rps.set q n r)
end

/-! ## the heap of what may change -/
def attrs0 : List Str := ["by_keys", "starts", "known", "costs", "last_number", "open_letters", "kept_answers", "far_field", "far_spot", "early", "told_words", "above", "deeds_done", "last_under", "at_node"]
def attrs1 : List Str := ["table", "words_here", "rates", "field", "ahead", "typed", "wait", "wished", "which", "way", "spot", "learning", "since", "places", "house", "tree", "stands", "sent"]
def attrs2 : List Str := ["table_rows", "desk_book", "desk_rates", "desk_field", "desk_commits", "the_bench"]
def attrs : List Str := attrs0 ++ (attrs1 ++ attrs2)
def clsName : Nat → Str
  | 0 => "KeyReader" | 1 => "Book" | 2 => "Near" | 3 => "Far" | 4 => "Tree" | 5 => "House" | 6 => "Stand" | 7 => "Bench" | _ => "Desk"
inductive GO where
  | lst (xs : List D) | rol (xs : List D) | dic (kvs : List (D × D)) | dit (kvs : List (D × D)) (ep : Nat) | dik (kvs : List (Int × D)) (ep : Nat) | obj (c : Nat) (fs : Nat → Option D)
abbrev Hd := Addr → Option GO
def st (G : Hd) (a : Addr) (o : GO) : Hd := fun b => if b = a then some o else G b
@[simp] theorem st_same {G : Hd} {a : Addr} {o : GO} : st G a o a = some o := by simp [st]
theorem st_ne {G : Hd} {a b : Addr} {o : GO} (h : b ≠ a) : st G a o b = G b := by simp [st, h]
@[simp] theorem st_st {G : Hd} {a : Addr} {o u : GO} : st (st G a o) a u = st G a u := by funext b; unfold st; split <;> rfl

/-- keys by value: numbers and texts -/
def keyD : Key → D
  | .inl i => .int i
  | .inr x => .str x
inductive KvR (K : Kt) (H : Hp) : List (D × D) → List (Key × V) → Prop
  | nil : KvR K H [] []
  | cons {k : Key} {d : D} {v : V} {r : List (D × D)} {s : List (Key × V)} : Rp K H d v → KvR K H r s → KvR K H ((keyD k, d) :: r) ((k, v) :: s)

/-! keys that are tuples -/
mutual
def keyN : D → Option NestedKey
  | .non => some .none
  | .bl b => some (.num (if b = true then 1 else 0))
  | .int i => some (.num i)
  | .str x => some (.text x)
  | .tup xs => match keysN xs with
    | some ks => some (.tup ks)
    | none => none
  | _ => none
def keysN : List D → Option (List NestedKey)
  | [] => some []
  | x :: xs => match keyN x, keysN xs with
    | some k, some ks => some (k :: ks)
    | _, _ => none
end
inductive DitR (K : Kt) (H : Hp) : List (D × D) → List (NestedKey × Addr × Value) → Prop
  | nil : DitR K H [] []
  | cons {kd : List D} {nk : NestedKey} {ad : Addr} {d : D} {v : V} {u : Value} {r : List (D × D)} {s : List (NestedKey × Addr × Value)} : keyN (.tup kd) = some nk → nk.depth ≤ 8 → Rp K H (.tup kd) (.ref ad) → Rp K H d v → RelV v u → DitR K H r s → DitR K H ((.tup kd, d) :: r) ((nk, ad, u) :: s)
/-- a dict whose keys are tuples, by its entries -/
def DitP (P : Program) (w : World) (a : Addr) (xs : List (NestedKey × Addr × Value)) (ep : Nat) (h : Heap) : Prop :=
  xs.length ≤ sizeLine ∧ (a == sysModules) = false ∧ (xs.map (·.1)).Nodup ∧ ∃ o es, h.get? a = some o ∧ o.ExactDict ∧ o.data = .dict es ep ∧ es.toList = xs.map (entryOfKey (nestedKind P w))
def DitO (P : Program) (w : World) (a : Addr) (xs : List (NestedKey × Addr × Value)) (ep : Nat) : HO := .ext (DitP P w a xs ep)
/-! dicts whose keys are whole numbers -/
inductive DikR (K : Kt) (H : Hp) : List (Int × D) → List (Int × Value) → Prop
  | nil : DikR K H [] []
  | cons {i : Int} {d : D} {v : V} {u : Value} {r : List (Int × D)} {s : List (Int × Value)} : Rp K H d v → RelV v u → DikR K H r s → DikR K H ((i, d) :: r) ((i, u) :: s)
def DikP (P : Program) (w : World) (a : Addr) (xs : List (Int × Value)) (ep : Nat) (h : Heap) : Prop :=
  xs.length ≤ sizeLine ∧ (a == sysModules) = false ∧ ∃ o es, h.get? a = some o ∧ o.ExactDict ∧ o.data = .dict es ep ∧ KeysOf (intKind P w) es ∧ Pairs (intKind P w) es.toList xs ∧ (xs.map (·.1)).Nodup
def DikO (P : Program) (w : World) (a : Addr) (xs : List (Int × Value)) (ep : Nat) : HO := .ext (DikP P w a xs ep)
def RpO (K : Kt) (H : Hp) : Option D → Option V → Prop
  | some d, some v => Rp K H d v
  | none, none => True
  | _, _ => False
/-- what stands at an address, told in V -/
def GOk (K : Kt) (H : Hp) (a : Addr) : GO → Prop
  | .lst xs => ∃ vs, H a = some (.lst vs) ∧ Rps K H xs vs
  | .rol xs => ∃ o vs, H a = some (.frz o (.lst vs)) ∧ Rps K H xs vs
  | .dic kvs => ∃ vs, H a = some (.dK vs) ∧ KvR K H kvs vs
  | .dit kvs ep => ∃ xs, H a = some (DitO K.P K.w a xs ep) ∧ DitR K H kvs xs
  | .dik kvs ep => ∃ xs, H a = some (DikO K.P K.w a xs ep) ∧ DikR K H kvs xs
  | .obj c fs => ∃ dx fv, H a = some (.ins (He.ga K (clsName c)) dx fv) ∧ (fv.map (·.1)).Nodup ∧ (∀ f ∈ fv.map (·.1), f ∈ attrs) ∧ ∀ (i : Nat) f, attrs[i]? = some f → RpO K H (fs i) (fv.lookup f)
def GR (K : Kt) (G : Hd) (H : Hp) : Prop := ∀ a o, G a = some o → GOk K H a o

abbrev Sd := List (Option D)
structure SR (K : Kt) (H : Hp) (σd : Sd) (σ : St) : Prop where
  len : σd.length = σ.length
  at_ : ∀ (i : Nat) (d : D), σd[i]? = some (some d) → ∃ v, σ[i]? = some (some v) ∧ Rp K H d v
theorem SR.mono {K : Kt} {H H' : Hp} {σd : Sd} {σ : St} (t : Tm K H H') (s : SR K H σd σ) : SR K H' σd σ := ⟨s.len, fun i d e => let ⟨v, h1, h2⟩ := s.at_ i d e; ⟨v, h1, h2.mono t⟩⟩
theorem SR.set {K : Kt} {H : Hp} {σd : Sd} {σ : St} (s : SR K H σd σ) (i : Nat) {d : D} {v : V} (r : Rp K H d v) : SR K H (σd.set i (some d)) (σ.set i (some v)) := by
  refine ⟨by simp [s.len], fun j e h => ?_⟩
  by_cases hj : i = j
  · subst hj
    have hl : i < σd.length := by
      have := (List.getElem?_eq_some_iff.mp h).1
      simpa using this
    rw [List.getElem?_set_self hl] at h
    cases h
    exact ⟨v, by rw [List.getElem?_set_self (by rw [← s.len]; exact hl)], r⟩
  · rw [List.getElem?_set_ne hj] at h ⊢
    exact s.at_ j e h

/-! ## readings -/
abbrev Qd := D → Hd → Prop
abbrev Wx := Nat → D → Sd → Hd → Prop
abbrev W0 : Wx := fun _ _ _ _ => False
abbrev TEd := Wx → Sd → Hd → Qd → Prop
abbrev TTd := Wx → Sd → Hd → (Bool → Hd → Prop) → Prop
abbrev TAd := Wx → Sd → Hd → (List D → Hd → Prop) → Prop
structure En where
  nx : Sd → Hd → Prop
  rt : D → Hd → Prop
  bk : Sd → Hd → Prop := fun _ _ => False
  ct : Sd → Hd → Prop := fun _ _ => False
abbrev TSd := Wx → En → Sd → Hd → Prop

/-- exceptions by number -/
def excNames : List Str := ["BenchError", "NoWord", "Twice", "TooMany", "Missing", "NoPlace", "NoChoice", "NoMark", "Marked", "Barred", "TooLong", "NoStanding", "NoDeed", "Full", "NoNode", "NoText", "Nothing", "NoWish", "Fight", "NoCutting", "Waits", "NoTurn", "NoTable", "NoSaying"]
def excN (i : Nat) : Str := excNames.getD i "BenchError"
/-- an exception's class and what it bears (Fight alone bears something) -/
def ExR (K : Kt) (H : Hp) (i : Nat) (d : D) (cls : Value) (od : Option Addr) : Prop :=
  cls = .ref (He.ga K (excN i)) ∧ ((i ≠ 18 ∧ od = none ∧ d = .non) ∨ (i = 18 ∧ ∃ a v, od = some a ∧ H a = some (.xd [("other", v)]) ∧ Rp K H d v))


def CQ (K : Kt) (H : Hp) (Q : VK) (q : Qd) : Prop := ∀ v d H' G', Tm K H H' → GR K G' H' → Rp K H' d v → q d G' → Q v H'
def CB (K : Kt) (H : Hp) (Q : Bool → Hp → Prop) (q : Bool → Hd → Prop) : Prop := ∀ b H' G', Tm K H H' → GR K G' H' → q b G' → Q b H'
def CA (K : Kt) (H : Hp) (Q : List V → Hp → Prop) (q : List D → Hd → Prop) : Prop := ∀ vs ds H' G', Tm K H H' → GR K G' H' → Rps K H' ds vs → q ds G' → Q vs H'
def CW (K : Kt) (W : WX) (H : Hp) (w : Wx) : Prop := ∀ i d σd σ G H' cls od, Tm K H H' → SR K H' σd σ → GR K G H' → ExR K H' i d cls od → w i d σd G → W cls od σ H'
/-- all slots but these stand -/
def Ag (sl : List Nat) (σ σ' : St) : Prop := σ'.length = σ.length ∧ ∀ j, j ∉ sl → σ'[j]? = σ[j]?
def CG (K : Kt) (H : Hp) (sl : List Nat) (σ : St) (Q : St → Hp → Prop) (q : Sd → Hd → Prop) : Prop := ∀ σd' σ' H' G', Tm K H H' → Ag sl σ σ' → SR K H' σd' σ' → GR K G' H' → q σd' G' → Q σ' H'
structure Cl (K : Kt) (H : Hp) (E : Ends) (e : En) : Prop where
  nx : ∀ σd σ H' G', Tm K H H' → SR K H' σd σ → GR K G' H' → e.nx σd G' → E.nx σ H'
  rt : ∀ v d H' G', Tm K H H' → GR K G' H' → Rp K H' d v → e.rt d G' → E.rt v H'
  bk : ∀ σd σ H' G', Tm K H H' → SR K H' σd σ → GR K G' H' → e.bk σd G' → E.bk σ H'
  ct : ∀ σd σ H' G', Tm K H H' → SR K H' σd σ → GR K G' H' → e.ct σd G' → E.ct σ H'
section
variable {K : Kt} {H H' : Hp}
theorem Cl.mono {E : Ends} {e : En} (t : Tm K H H') (c : Cl K H E e) : Cl K H' E e :=
  ⟨fun a b x y m => c.nx a b x y (t.trans m), fun a b x y m => c.rt a b x y (t.trans m), fun a b x y m => c.bk a b x y (t.trans m), fun a b x y m => c.ct a b x y (t.trans m)⟩
theorem CQ.mono {Q : VK} {q : Qd} (t : Tm K H H') (c : CQ K H Q q) : CQ K H' Q q := fun a b x y m => c a b x y (t.trans m)
theorem CA.mono {Q : List V → Hp → Prop} {q : List D → Hd → Prop} (t : Tm K H H') (c : CA K H Q q) : CA K H' Q q := fun a b x y m => c a b x y (t.trans m)
theorem CW.mono {W : WX} {w : Wx} (t : Tm K H H') (c : CW K W H w) : CW K W H' w := fun a b x y z u v p m => c a b x y z u v p (t.trans m)
theorem Ag.refl {sl : List Nat} {σ : St} : Ag sl σ σ := ⟨rfl, fun _ _ => rfl⟩
theorem Ag.trans {sl sl' : List Nat} {σ σ1 σ2 : St} (a : Ag sl σ σ1) (b : Ag sl' σ1 σ2) : Ag (sl ++ sl') σ σ2 :=
  ⟨b.1.trans a.1, fun j h => (b.2 j fun x => h (List.mem_append_right _ x)).trans (a.2 j fun x => h (List.mem_append_left _ x))⟩
theorem Ag.set {σ : St} {i : Nat} {v : Option V} : Ag [i] σ (σ.set i v) := ⟨by simp, fun j h => by rw [List.getElem?_set_ne (fun e => h (by simp [e]))]⟩
end
def liftE (K : Kt) (W : WX) (t : TEd) : TE := fun σ H Q => ∃ σd G q w, SR K H σd σ ∧ GR K G H ∧ t w σd G q ∧ CQ K H Q q ∧ CW K W H w
def liftT (K : Kt) (W : WX) (t : TTd) : TT := fun σ H Q => ∃ σd G q w, SR K H σd σ ∧ GR K G H ∧ t w σd G q ∧ CB K H Q q ∧ CW K W H w
def liftA (K : Kt) (W : WX) (t : TAd) : TA := fun σ H Q => ∃ σd G q w, SR K H σd σ ∧ GR K G H ∧ t w σd G q ∧ CA K H Q q ∧ CW K W H w
def liftS (K : Kt) (W : WX) (t : TSd) : TS := fun E σ H => ∃ σd G e w, SR K H σd σ ∧ GR K G H ∧ t w e σd G ∧ Cl K H E e ∧ CW K W H w
abbrev TGd := Wx → D → Sd → Hd → (Sd → Hd → Prop) → Prop
abbrev TGsd := Wx → List D → Sd → Hd → (Sd → Hd → Prop) → Prop
def liftG (K : Kt) (W : WX) (sl : List Nat) (t : TGd) : TG := fun v σ H Q => ∃ d σd G q w, Rp K H d v ∧ SR K H σd σ ∧ GR K G H ∧ t w d σd G q ∧ CG K H sl σ Q q ∧ CW K W H w
def liftGs (K : Kt) (W : WX) (sl : List Nat) (t : TGsd) : TGs := fun vs σ H Q => ∃ ds σd G q w, Rps K H ds vs ∧ SR K H σd σ ∧ GR K G H ∧ t w ds σd G q ∧ CG K H sl σ Q q ∧ CW K W H w

def DE (X : Cx) (e : Expr) (t : TEd) : Prop := ∀ W, L2N.Takes X W → PE X e (liftE (kt X) W t)
def DT (X : Cx) (e : Expr) (t : TTd) : Prop := ∀ W, L2N.Takes X W → PT X e (liftT (kt X) W t)
def DW (X : Cx) (e : Expr) (t : TTd) : Prop := ∀ W, L2N.Takes X W → PW X e (liftT (kt X) W t)
def DA (X : Cx) (es : List Expr) (t : TAd) : Prop := ∀ W, L2N.Takes X W → PA X es (liftA (kt X) W t)
def DS (X : Cx) (s : Stmt) (t : TSd) : Prop := ∀ W, L2N.Takes X W → PS X s (liftS (kt X) W t)
def DSs (X : Cx) (s : List Stmt) (t : TSd) : Prop := ∀ W, L2N.Takes X W → PSs X s (liftS (kt X) W t)
def DG (X : Cx) (e : Expr) (sl : List Nat) (t : TGd) : Prop := ∀ W, L2N.Takes X W → PG X e (liftG (kt X) W sl t)
def DGs (X : Cx) (es : List Expr) (sl : List Nat) (t : TGsd) : Prop := ∀ W, L2N.Takes X W → PGs X es (liftGs (kt X) W sl t)

section
variable {X : Cx}
theorem PEi {e : Expr} {t t' : TE} (h : PE X e t) (i : ∀ σ H Q, t' σ H Q → t σ H Q) : PE X e t' := ⟨fun pins s σ H Q I q => h.run pins s σ H Q I (i _ _ _ q)⟩
theorem PTi {e : Expr} {t t' : TT} (h : PT X e t) (i : ∀ σ H Q, t' σ H Q → t σ H Q) : PT X e t' := ⟨fun pins s σ H Q I q => h.run pins s σ H Q I (i _ _ _ q)⟩
theorem PWi {e : Expr} {t t' : TT} (h : PW X e t) (i : ∀ σ H Q, t' σ H Q → t σ H Q) : PW X e t' := ⟨fun wh pins s σ H Q I q => h.run wh pins s σ H Q I (i _ _ _ q)⟩
theorem PAi {e : List Expr} {t t' : TA} (h : PA X e t) (i : ∀ σ H Q, t' σ H Q → t σ H Q) : PA X e t' := ⟨fun pos pins s σ H Q I q => h.run pos pins s σ H Q I (i _ _ _ q)⟩
theorem PSi {e : Stmt} {t t' : TS} (h : PS X e t) (i : ∀ D σ H, t' D σ H → t D σ H) : PS X e t' := ⟨fun pins s σ H D I q => h.run pins s σ H D I (i _ _ _ q)⟩
theorem PSsi {e : List Stmt} {t t' : TS} (h : PSs X e t) (i : ∀ D σ H, t' D σ H → t D σ H) : PSs X e t' := ⟨fun pins s σ H D I q => h.run pins s σ H D I (i _ _ _ q)⟩
theorem PGi {e : Expr} {t t' : TG} (h : PG X e t) (i : ∀ v σ H Q, t' v σ H Q → t v σ H Q) : PG X e t' := ⟨fun pins s σ H v u Q I r q => h.run pins s σ H v u Q I r (i _ _ _ _ q)⟩
theorem PGsi {e : List Expr} {t t' : TGs} (h : PGs X e t) (i : ∀ v σ H Q, t' v σ H Q → t v σ H Q) : PGs X e t' := ⟨fun pins s σ H v u Q I r q => h.run pins s σ H v u Q I r (i _ _ _ _ q)⟩

/-! ## expressions -/
variable {a b c e : Expr} {es : List Expr} {ta tb tc te : TEd} {tA tB tC' : TTd} {tes : TAd} {pos : Pos}
def dVar (i : Nat) : TEd := fun _ σ G Q => ∃ d, σ[i]? = some (some d) ∧ Q d G
def dC (d : D) : TEd := fun _ _ G Q => Q d G
theorem de_var {i : Nat} {x : Str} (hN : X.N[i]? = some x) (hv : Vis X.env.scope x) (hd : (x == ("__debug__" : Str)) = false) (hcd : (x == ("__classdict__" : Str)) = false) : DE X (.Name x pos) (dVar i) := fun W tk =>
  PEi (pe_var hN hv hd hcd) fun σ H Q ⟨σd, G, q, w, sr, gr, ⟨d, e, h⟩, cl, _⟩ => let ⟨v, hv, rv⟩ := sr.at_ i d e; ⟨v, hv, cl v d H G Tm.refl gr rv h⟩
theorem de_c {v : V} {d : D} (h : PE X e (tC v)) (r : ∀ H, Rp (kt X) H d v) : DE X e (dC d) := fun W tk =>
  PEi h fun σ H Q ⟨σd, G, q, w, sr, gr, h, cl, _⟩ => cl v d H G Tm.refl gr (r H) h

def dOp (r : D → D → Hd → Qd → Prop) (ta tb : TEd) : TEd := fun w σ G Q => ta w σ G fun x G1 => tb w σ G1 fun y G2 => r x y G2 Q
def lift2 (K : Kt) (r : D → D → Hd → Qd → Prop) : R2 := fun x y H Q => ∃ dx dy G q, Rp K H dx x ∧ Rp K H dy y ∧ GR K G H ∧ r dx dy G q ∧ CQ K H Q q
theorem op_read {K : Kt} {W : WX} {r : D → D → Hd → Qd → Prop} (σ : St) (H : Hp) (Q : VK) (h : liftE K W (dOp r ta tb) σ H Q) : tOp (lift2 K r) (liftE K W ta) (liftE K W tb) σ H Q := by
  obtain ⟨σd, G, q, w, sr, gr, h, cl, cw⟩ := h
  refine ⟨σd, G, _, w, sr, gr, h, fun v d H1 G1 t1 gr1 r1 h1 => ?_, cw⟩
  refine ⟨σd, G1, _, w, sr.mono t1, gr1, h1, fun v2 d2 H2 G2 t2 gr2 r2 h2 => ?_, cw.mono t1⟩
  exact ⟨d, d2, G2, q, r1.mono t2, r2, gr2, h2, cl.mono (t1.trans t2)⟩
def OpD (X : Cx) (f : Value → Value → Sem Value) (r : D → D → Hd → Qd → Prop) : Prop := OpR X f (lift2 (kt X) r)
theorem de_op {op : Operator} {r : D → D → Hd → Qd → Prop} (ho : OpD X (binaryOp op) r) (ha : DE X a ta) (hb : DE X b tb) : DE X (.BinOp a op b pos) (dOp r ta tb) := fun W tk =>
  PEi (pe_op ho (ha W tk) (hb W tk)) op_read
theorem de_cmp {op : CmpOp} {r : D → D → Hd → Qd → Prop} (ho : OpD X (compareOp op) r) (ha : DE X a ta) (hb : DE X b tb) (hm : behindInMarks op b = false) : DE X (.Compare a [op] [b] pos) (dOp r ta tb) := fun W tk =>
  PEi (pe_cmpR ho (ha W tk) (hb W tk) hm) op_read
def dUn (r : D → Hd → Qd → Prop) (ta : TEd) : TEd := fun w σ G Q => ta w σ G fun x G1 => r x G1 Q
def lift1 (K : Kt) (r : D → Hd → Qd → Prop) : V → Hp → VK → Prop := fun x H Q => ∃ dx G q, Rp K H dx x ∧ GR K G H ∧ r dx G q ∧ CQ K H Q q
theorem un_read {K : Kt} {W : WX} {r : D → Hd → Qd → Prop} (σ : St) (H : Hp) (Q : VK) (h : liftE K W (dUn r ta) σ H Q) : liftE K W ta σ H fun x H1 => lift1 K r x H1 Q := by
  obtain ⟨σd, G, q, w, sr, gr, h, cl, cw⟩ := h
  exact ⟨σd, G, _, w, sr, gr, h, fun v d H1 G1 t1 gr1 r1 h1 => ⟨d, G1, q, r1, gr1, h1, cl.mono t1⟩, cw⟩
theorem de_un {op : UnaryOp} {r : D → Hd → Qd → Prop} (ho : UnR X (unaryOp op) (lift1 (kt X) r)) (ha : DE X a ta) : DE X (.UnaryOp op a pos) (dUn r ta) := fun W tk =>
  PEi (pe_un ho (ha W tk)) un_read
def dB (t : TEd) : TTd := fun w σ G Q => t w σ G fun d G1 => ∃ k, d = .bl k ∧ Q k G1
theorem Rp.bl_inv {K : Kt} {H : Hp} {k : Bool} {v : V} (h : Rp K H (.bl k) v) : v = .bl k := by cases h; rfl
theorem Rp.int_inv {K : Kt} {H : Hp} {k : Int} {v : V} (h : Rp K H (.int k) v) : v = .int k := by cases h; rfl
theorem Rp.str_inv {K : Kt} {H : Hp} {k : Str} {v : V} (h : Rp K H (.str k) v) : v = .str k := by cases h; rfl
theorem Rp.non_inv {K : Kt} {H : Hp} {v : V} (h : Rp K H .non v) : v = .non := by cases h; rfl
theorem Rp.ref_inv {K : Kt} {H : Hp} {k : Addr} {v : V} (h : Rp K H (.ref k) v) : v = .ref k := by cases h; rfl
theorem Rp.tup_inv {K : Kt} {H : Hp} {xs : List D} {v : V} (h : Rp K H (.tup xs) v) : ∃ a vs, v = .ref a ∧ SqT K H a vs ∧ Rps K H xs vs := by cases h; exact ⟨_, _, rfl, by assumption, by assumption⟩
theorem Rp.rl_inv {K : Kt} {H : Hp} {xs : List D} {v : V} (h : Rp K H (.rl xs) v) : ∃ a vs, v = .ref a ∧ Sq0 K H a vs ∧ Rps K H xs vs := by cases h; exact ⟨_, _, rfl, by assumption, by assumption⟩
theorem test_read {K : Kt} {W : WX} {t : TEd} (σ : St) (H : Hp) (Q : Bool → Hp → Prop) (h : liftT K W (dB t) σ H Q) : liftE K W t σ H fun x H' => ∃ k, x = .bl k ∧ Q k H' := by
  obtain ⟨σd, G, q, w, sr, gr, h, cl, cw⟩ := h
  exact ⟨σd, G, _, w, sr, gr, h, fun v d H1 G1 t1 gr1 r1 ⟨k, e, h1⟩ => ⟨k, by subst e; exact r1.bl_inv, cl k H1 G1 t1 gr1 h1⟩, cw⟩
theorem dt_cmp {op : CmpOp} {r : D → D → Hd → Qd → Prop} (ho : OpD X (compareOp op) r) (ha : DE X a ta) (hb : DE X b tb) (hm : behindInMarks op b = false) : DT X (.Compare a [op] [b] pos) (dB (dOp r ta tb)) := fun W tk =>
  PTi (pt_cmpR ho (ha W tk) (hb W tk) hm) fun _ _ _ h => op_read _ _ _ (test_read _ _ _ h)
theorem dt_val {e : Expr} {t : TEd} (h : DE X e t) (he : ∀ whole, isTrue e X.env whole = (do let v ← whole; standAt e.pos; holding [v] (truthy v))) : DT X e (dB t) := fun W tk =>
  PTi (pt_val (h W tk) he) test_read
/-- two ways by a truth -/
def Br (c : Bool) (A B : Prop) : Prop := (c = true → A) ∧ (c = false → B)
@[simp] theorem Br_true {A B : Prop} : Br true A B = A := by simp [Br]
@[simp] theorem Br_false {A B : Prop} : Br false A B = B := by simp [Br]
theorem Br.ite {c : Bool} {A B A' B' : Prop} (h : Br c A B) (f : A → A') (g : B → B') : if c = true then A' else B' := by
  cases c with
  | true => rw [if_pos rfl]; exact f (h.1 rfl)
  | false => rw [if_neg (by decide)]; exact g (h.2 rfl)
def dChain (r r' : D → D → Hd → Qd → Prop) (ta tb tc : TEd) : TEd := fun w σ G Q => ta w σ G fun x G1 => tb w σ G1 fun y G2 => r x y G2 fun z G3 => ∃ k, z = .bl k ∧ Br k (tc w σ G3 fun u G4 => r' y u G4 Q) (Q (.bl false) G3)
theorem chain_read {K : Kt} {W : WX} {r r' : D → D → Hd → Qd → Prop} (σ : St) (H : Hp) (Q : VK) (h : liftE K W (dChain r r' ta tb tc) σ H Q) : tChain (lift2 K r) (lift2 K r') (liftE K W ta) (liftE K W tb) (liftE K W tc) σ H Q := by
  obtain ⟨σd, G, q, w, sr, gr, h, cl, cw⟩ := h
  refine ⟨σd, G, _, w, sr, gr, h, fun v d H1 G1 t1 gr1 r1 h1 => ?_, cw⟩
  refine ⟨σd, G1, _, w, sr.mono t1, gr1, h1, fun v2 d2 H2 G2 t2 gr2 r2 h2 => ?_, cw.mono t1⟩
  refine ⟨d, d2, G2, _, r1.mono t2, r2, gr2, h2, fun v3 d3 H3 G3 t3 gr3 r3 ⟨k, e, h3⟩ => ?_⟩
  subst e
  refine ⟨k, r3.bl_inv, h3.ite (fun h3 => ?_) fun h3 => cl _ _ _ _ ((t1.trans t2).trans t3) gr3 (.bl _) h3⟩
  refine ⟨σd, G3, _, w, sr.mono ((t1.trans t2).trans t3), gr3, h3, fun v4 d4 H4 G4 t4 gr4 r4 h4 => ?_, cw.mono ((t1.trans t2).trans t3)⟩
  exact ⟨d2, d4, G4, q, r2.mono (t3.trans t4), r4, gr4, h4, cl.mono (((t1.trans t2).trans t3).trans t4)⟩
theorem de_chain {op op' : CmpOp} {r r' : D → D → Hd → Qd → Prop} (ho : OpD X (compareOp op) r) (ho' : OpD X (compareOp op') r') (ha : DE X a ta) (hb : DE X b tb) (hc : DE X c tc) (hm : lastMarks [op, op'] [b, c] = false) :
    DE X (.Compare a [op, op'] [b, c] pos) (dChain r r' ta tb tc) := fun W tk => PEi (pe_chain ho ho' (ha W tk) (hb W tk) (hc W tk) hm) chain_read
theorem dt_chain {op op' : CmpOp} {r r' : D → D → Hd → Qd → Prop} (ho : OpD X (compareOp op) r) (ho' : OpD X (compareOp op') r') (ha : DE X a ta) (hb : DE X b tb) (hc : DE X c tc) (hm : lastMarks [op, op'] [b, c] = false) :
    DT X (.Compare a [op, op'] [b, c] pos) (dB (dChain r r' ta tb tc)) := fun W tk => PTi (pt_chain ho ho' (ha W tk) (hb W tk) (hc W tk) hm) fun _ _ _ h => chain_read _ _ _ (test_read _ _ _ h)

/-! tests -/
def dAnd (t u : TTd) : TTd := fun w σ G Q => t w σ G fun k G1 => Br k (u w σ G1 Q) (Q false G1)
def dOr (t u : TTd) : TTd := fun w σ G Q => t w σ G fun k G1 => Br k (Q true G1) (u w σ G1 Q)
def dNot (t : TTd) : TTd := fun w σ G Q => t w σ G fun k G1 => Q (!k) G1
theorem CB.mono {K : Kt} {H H' : Hp} {Q : Bool → Hp → Prop} {q : Bool → Hd → Prop} (t : Tm K H H') (c : CB K H Q q) : CB K H' Q q := fun a b x m => c a b x (t.trans m)
theorem dw_and1 (ha : DT X a tA) : DW X (.BoolOp .And [a] pos) tA := fun W tk => pw_and1 (ha W tk)
theorem dw_or1 (ha : DT X a tA) : DW X (.BoolOp .Or [a] pos) tA := fun W tk => pw_or1 (ha W tk)
theorem dw_and {rest : List Expr} (ha : DT X a tA) (hb : DW X (.BoolOp .And (b :: rest) pos) tB) : DW X (.BoolOp .And (a :: b :: rest) pos) (dAnd tA tB) := fun W tk =>
  PWi (pw_and (ha W tk) (hb W tk)) fun σ H Q ⟨σd, G, q, w, sr, gr, h, cl, cw⟩ => ⟨σd, G, _, w, sr, gr, h, fun k H1 G1 t1 gr1 h1 =>
    h1.ite (fun h2 => ⟨σd, G1, q, w, sr.mono t1, gr1, h2, cl.mono t1, cw.mono t1⟩) fun h2 => cl _ _ _ t1 gr1 h2, cw⟩
theorem dw_or {rest : List Expr} (ha : DT X a tA) (hb : DW X (.BoolOp .Or (b :: rest) pos) tB) : DW X (.BoolOp .Or (a :: b :: rest) pos) (dOr tA tB) := fun W tk =>
  PWi (pw_or (ha W tk) (hb W tk)) fun σ H Q ⟨σd, G, q, w, sr, gr, h, cl, cw⟩ => ⟨σd, G, _, w, sr, gr, h, fun k H1 G1 t1 gr1 h1 =>
    h1.ite (fun h2 => cl _ _ _ t1 gr1 h2) fun h2 => ⟨σd, G1, q, w, sr.mono t1, gr1, h2, cl.mono t1, cw.mono t1⟩, cw⟩
theorem dw_pt (h : DW X e tA) : DT X e tA := fun W tk => (h W tk).pt
theorem dt_not (ha : DT X a tA) : DT X (.UnaryOp .Not a pos) (dNot tA) := fun W tk =>
  PTi (pt_not (ha W tk)) fun σ H Q ⟨σd, G, q, w, sr, gr, h, cl, cw⟩ => ⟨σd, G, _, w, sr, gr, h, fun k H1 G1 t1 gr1 h1 => cl _ _ _ t1 gr1 h1, cw⟩
/-! truths as values -/
def dAndV (ta tb : TEd) : TEd := fun w σ G Q => ta w σ G fun x G1 => ∃ k, x = .bl k ∧ Br k (tb w σ G1 Q) (Q (.bl false) G1)
def dOrV (ta tb : TEd) : TEd := fun w σ G Q => ta w σ G fun x G1 => ∃ k, x = .bl k ∧ Br k (Q (.bl true) G1) (tb w σ G1 Q)
def dNotV (ta : TEd) : TEd := fun w σ G Q => ta w σ G fun x G1 => ∃ k, x = .bl k ∧ Q (.bl (!k)) G1
theorem de_one {op} (h : DE X a ta) : DE X (.BoolOp op [a] pos) ta := fun W tk => pe_one (h W tk)
theorem de_and {rest : List Expr} (ha : DE X a ta) (hb : DE X (.BoolOp .And (b :: rest) pos) tb) : DE X (.BoolOp .And (a :: b :: rest) pos) (dAndV ta tb) := fun W tk =>
  PEi (pe_and (ha W tk) (hb W tk)) fun σ H Q ⟨σd, G, q, w, sr, gr, h, cl, cw⟩ => ⟨σd, G, _, w, sr, gr, h, fun v d H1 G1 t1 gr1 r1 ⟨k, e, h1⟩ => by
    subst e
    exact ⟨k, r1.bl_inv, h1.ite (fun h2 => ⟨σd, G1, q, w, sr.mono t1, gr1, h2, cl.mono t1, cw.mono t1⟩) fun h2 => cl _ _ _ _ t1 gr1 (.bl _) h2⟩, cw⟩
theorem de_or {rest : List Expr} (ha : DE X a ta) (hb : DE X (.BoolOp .Or (b :: rest) pos) tb) : DE X (.BoolOp .Or (a :: b :: rest) pos) (dOrV ta tb) := fun W tk =>
  PEi (pe_or (ha W tk) (hb W tk)) fun σ H Q ⟨σd, G, q, w, sr, gr, h, cl, cw⟩ => ⟨σd, G, _, w, sr, gr, h, fun v d H1 G1 t1 gr1 r1 ⟨k, e, h1⟩ => by
    subst e
    exact ⟨k, r1.bl_inv, h1.ite (fun h2 => cl _ _ _ _ t1 gr1 (.bl _) h2) fun h2 => ⟨σd, G1, q, w, sr.mono t1, gr1, h2, cl.mono t1, cw.mono t1⟩⟩, cw⟩
theorem de_not (ha : DE X a ta) : DE X (.UnaryOp .Not a pos) (dNotV ta) := fun W tk =>
  PEi (pe_not (ha W tk)) fun σ H Q ⟨σd, G, q, w, sr, gr, h, cl, cw⟩ => ⟨σd, G, _, w, sr, gr, h, fun v d H1 G1 t1 gr1 r1 ⟨k, e, h1⟩ => by
    subst e
    exact ⟨k, r1.bl_inv, cl _ _ _ _ t1 gr1 (.bl _) h1⟩, cw⟩
def dIfE (t : TTd) (ta tb : TEd) : TEd := fun w σ G Q => t w σ G fun k G1 => Br k (ta w σ G1 Q) (tb w σ G1 Q)
theorem de_ifExp (hc : DT X c tA) (ha : DE X a ta) (hb : DE X b tb) : DE X (.IfExp c a b pos) (dIfE tA ta tb) := fun W tk =>
  PEi (pe_ifExp (hc W tk) (ha W tk) (hb W tk)) fun σ H Q ⟨σd, G, q, w, sr, gr, h, cl, cw⟩ => ⟨σd, G, _, w, sr, gr, h, fun k H1 G1 t1 gr1 h1 =>
    h1.ite (fun h2 => ⟨σd, G1, q, w, sr.mono t1, gr1, h2, cl.mono t1, cw.mono t1⟩) fun h2 => ⟨σd, G1, q, w, sr.mono t1, gr1, h2, cl.mono t1, cw.mono t1⟩, cw⟩

/-! ## arguments, displays -/
def dNil : TAd := fun _ _ G Q => Q [] G
def dCons (te : TEd) (t : TAd) : TAd := fun w σ G Q => te w σ G fun x G1 => t w σ G1 fun xs G2 => Q (x :: xs) G2
def plainE : Expr → Bool
  | .Starred .. => false
  | .ListComp .. => false
  | .SetComp .. => false
  | .DictComp .. => false
  | .Slice .. => false
  | _ => true
def unstarE : Expr → Bool
  | .Starred .. => false
  | _ => true
theorem star_ok {env : Env} (h : unstarE e = true) : starEach (e :: es) env = (false, eval e env) :: starEach es env := by
  cases e <;> first | rfl | cases h
theorem da_nil : DA X [] dNil := fun W tk => PAi pa_nil fun σ H Q ⟨σd, G, q, w, sr, gr, h, cl, cw⟩ => cl _ _ _ _ Tm.refl gr .nil h
theorem da_cons (ha : DE X e te) (hr : DA X es tes) (hs : unstarE e = true) : DA X (e :: es) (dCons te tes) := fun W tk =>
  PAi (pa_cons (ha W tk) (hr W tk) (star_ok hs)) fun σ H Q ⟨σd, G, q, w, sr, gr, h, cl, cw⟩ => ⟨σd, G, _, w, sr, gr, h, fun v d H1 G1 t1 gr1 r1 h1 =>
    ⟨σd, G1, _, w, sr.mono t1, gr1, h1, fun vs ds H2 G2 t2 gr2 r2 h2 => cl _ _ _ _ (t1.trans t2) gr2 (.cons (r1.mono t2) r2) h2, cw.mono t1⟩, cw⟩
end
end S

set_option Elab.async false
set_option linter.all false
set_option maxRecDepth 100000
set_option maxHeartbeats 4000000
namespace S
open PySem PySem.Spec L2
open PyProof.Rows hiding St
/-! ## the heap in V and in D -/
section
variable {K : Kt} {H H' : Hp} {G : Hd} {a p : Addr}
def Solid : HO → Prop
  | .tup _ => True
  | .frz _ _ => True
  | _ => False
theorem Tm.put {o : HO} (h : ∀ u, H a = some u → ¬ Solid u) : Tm K H (upd H a o) where
  t := fun b vs q => by
    rcases q with q | q
    · refine .inl ?_
      rcases q with q | ⟨ob, q⟩
      · exact .inl (by rw [upd_ne (fun e : b = a => h (.tup vs) (e ▸ q) trivial)]; exact q)
      · exact .inr ⟨ob, by rw [upd_ne (fun e : b = a => h (.frz ob (.tup vs)) (e ▸ q) trivial)]; exact q⟩
    · exact .inr q
  l := fun b vs q => by
    rcases q with ⟨ob, q⟩ | q
    · exact .inl ⟨ob, by rw [upd_ne (fun e : b = a => h (.frz ob (.lst vs)) (e ▸ q) trivial)]; exact q⟩
    · exact .inr q
theorem Tm.new {o : HO} (h : H p = none) : Tm K H (upd H p o) := Tm.put fun u q => by rw [h] at q; cases q
theorem KvR.mono (t : Tm K H H') : ∀ {r : List (D × D)} {s : List (Key × V)}, KvR K H r s → KvR K H' r s
  | _, _, .nil => .nil
  | _, _, .cons h q => .cons (h.mono t) (KvR.mono t q)
theorem DitR.mono (t : Tm K H H') : ∀ {r : List (D × D)} {s : List (NestedKey × Addr × Value)}, DitR K H r s → DitR K H' r s
  | _, _, .nil => .nil
  | _, _, .cons h1 h2 h3 h4 h5 q => .cons h1 h2 (h3.mono t) (h4.mono t) h5 (DitR.mono t q)
theorem DikR.mono (t : Tm K H H') : ∀ {r : List (Int × D)} {s : List (Int × Value)}, DikR K H r s → DikR K H' r s
  | _, _, .nil => .nil
  | _, _, .cons h1 h2 q => .cons (h1.mono t) h2 (DikR.mono t q)
theorem RpO.mono (t : Tm K H H') : ∀ {x : Option D} {y : Option V}, RpO K H x y → RpO K H' x y
  | some _, some _, h => Rp.mono t h
  | none, none, _ => trivial
  | some _, none, h => False.elim h
  | none, some _, h => False.elim h
theorem GOk.mono {o : GO} (t : Tm K H H') (h : H' a = H a) (g : GOk K H a o) : GOk K H' a o := by
  cases o with
  | lst xs => obtain ⟨vs, e, r⟩ := g; exact ⟨vs, h.trans e, r.mono t⟩
  | rol xs => obtain ⟨o, vs, e, r⟩ := g; exact ⟨o, vs, h.trans e, r.mono t⟩
  | dic xs => obtain ⟨vs, e, r⟩ := g; exact ⟨vs, h.trans e, r.mono t⟩
  | dit xs ep => obtain ⟨vs, e, r⟩ := g; exact ⟨vs, h.trans e, r.mono t⟩
  | dik xs ep => obtain ⟨vs, e, r⟩ := g; exact ⟨vs, h.trans e, r.mono t⟩
  | obj c fs => obtain ⟨dx, fv, e, n, s, r⟩ := g; exact ⟨dx, fv, h.trans e, n, s, fun i f q => (r i f q).mono t⟩
theorem GOk.there {o : GO} (g : GOk K H a o) : H a ≠ none := by
  cases o with
  | lst xs => obtain ⟨vs, e, r⟩ := g; rw [e]; simp
  | rol xs => obtain ⟨o, vs, e, r⟩ := g; rw [e]; simp
  | dic xs => obtain ⟨vs, e, r⟩ := g; rw [e]; simp
  | dit xs ep => obtain ⟨vs, e, r⟩ := g; rw [e]; simp
  | dik xs ep => obtain ⟨vs, e, r⟩ := g; rw [e]; simp
  | obj c fs => obtain ⟨dx, fv, e, n, s, r⟩ := g; rw [e]; simp
theorem GR.free (g : GR K G H) (h : H p = none) : G p = none := by
  cases q : G p with
  | none => rfl
  | some o => exact absurd h (g p o q).there
/-- an object that G doesn't tell may come -/
theorem GR.keep {o : HO} (g : GR K G H) (h : H p = none) : GR K G (upd H p o) := fun b u q =>
  (g b u q).mono (Tm.new h) (upd_ne fun e => (g b u q).there (e ▸ h))
theorem GR.new {o : HO} {u : GO} (g : GR K G H) (h : H p = none) (k : GOk K (upd H p o) p u) : GR K (st G p u) (upd H p o) := fun b v q => by
  by_cases e : b = p
  · subst e; rw [st_same] at q; cases q; exact k
  · rw [st_ne e] at q; exact g.keep h b v q
theorem GR.set {o : HO} {u : GO} (g : GR K G H) (t : Tm K H (upd H a o)) (k : GOk K (upd H a o) a u) : GR K (st G a u) (upd H a o) := fun b v q => by
  by_cases e : b = a
  · subst e; rw [st_same] at q; cases q; exact k
  · rw [st_ne e] at q; exact (g b v q).mono t (upd_ne e)
theorem GR.lst {xs : List D} (g : GR K G H) (h : G a = some (.lst xs)) : ∃ vs, H a = some (.lst vs) ∧ Rps K H xs vs := g a _ h
theorem Tm.lst {vs vs' : List V} (h : H a = some (.lst vs)) : Tm K H (upd H a (.lst vs')) := Tm.put fun u q => by rw [h] at q; cases q; exact fun z => z
end

section
variable {X : Cx} {a b c e : Expr} {es : List Expr} {ta tb tc te : TEd} {tA tB : TTd} {tes : TAd} {pos : Pos}
/-! ## displays -/
def dTup (t : TAd) : TEd := fun w σ G Q => t w σ G fun xs G1 => xs.length ≤ sizeLine ∧ Q (.tup xs) G1
def dLst (t : TAd) : TEd := fun w σ G Q => t w σ G fun xs G1 => xs.length ≤ sizeLine ∧ ∀ p, G1 p = none → Q (.ref p) (st G1 p (.lst xs))
theorem de_tup {x1} (h : DA X es tes) : DE X (.Tuple es x1 pos) (dTup tes) := fun W tk =>
  PEi (pe_tup (h W tk)) fun σ H Q ⟨σd, G, q, w, sr, gr, h, cl, cw⟩ => ⟨σd, G, _, w, sr, gr, h, fun vs ds H1 G1 t1 gr1 r1 ⟨hl, h1⟩ =>
    ⟨by rw [← r1.length]; exact hl, fun p hp => cl _ _ _ _ (t1.trans (Tm.new hp)) (gr1.keep hp) (.tup (.inl (.inl upd_same)) (r1.mono (Tm.new hp))) h1⟩, cw⟩
theorem de_lst (h : DA X es tes) : DE X (.List es pos) (dLst tes) := fun W tk =>
  PEi (pe_lst (h W tk)) fun σ H Q ⟨σd, G, q, w, sr, gr, h, cl, cw⟩ => ⟨σd, G, _, w, sr, gr, h, fun vs ds H1 G1 t1 gr1 r1 ⟨hl, h1⟩ =>
    ⟨by rw [← r1.length]; exact hl, fun p hp => cl _ _ _ _ (t1.trans (Tm.new hp)) (gr1.new (u := .lst ds) hp ⟨_, upd_same, r1.mono (Tm.new hp)⟩) (.ref p) (h1 p (gr1.free hp))⟩, cw⟩

/-! ## statements -/
variable {s : Stmt} {ss : List Stmt} {t u : TSd}
def dNext : TSd := fun _ E σ G => E.nx σ G
def dSeq (t u : TSd) : TSd := fun w E σ G => t w { E with nx := u w E } σ G
theorem ds_nil : DSs X [] dNext := fun W tk => PSsi pss_nil fun E σ H ⟨σd, G, e, w, sr, gr, h, cl, cw⟩ => cl.nx _ _ _ _ Tm.refl sr gr h
theorem ds_cons (h1 : DS X s t) (h2 : DSs X ss u) : DSs X (s :: ss) (dSeq t u) := fun W tk =>
  PSsi (pss_cons (h1 W tk) (h2 W tk)) fun E σ H ⟨σd, G, e, w, sr, gr, h, cl, cw⟩ => ⟨σd, G, _, w, sr, gr, h,
    ⟨fun σ1 σ2 H1 G1 t1 sr1 gr1 h1 => ⟨σ1, G1, e, w, sr1, gr1, h1, cl.mono t1, cw.mono t1⟩, cl.rt, cl.bk, cl.ct⟩, cw⟩
theorem ds_one (h1 : DS X s t) : DSs X [s] t := fun W tk => pss_one (h1 W tk)
def dBreak : TSd := fun _ E σ G => E.bk σ G
def dCont : TSd := fun _ E σ G => E.ct σ G
theorem ds_pass : DS X (.Pass pos) dNext := fun W tk => PSi ps_pass fun E σ H ⟨σd, G, e, w, sr, gr, h, cl, cw⟩ => cl.nx _ _ _ _ Tm.refl sr gr h
theorem ds_break : DS X (.Break pos) dBreak := fun W tk => PSi ps_break fun E σ H ⟨σd, G, e, w, sr, gr, h, cl, cw⟩ => cl.bk _ _ _ _ Tm.refl sr gr h
theorem ds_continue : DS X (.Continue pos) dCont := fun W tk => PSi ps_continue fun E σ H ⟨σd, G, e, w, sr, gr, h, cl, cw⟩ => cl.ct _ _ _ _ Tm.refl sr gr h
def dDrop (te : TEd) : TSd := fun w E σ G => te w σ G fun _ G1 => E.nx σ G1
def dRet (te : TEd) : TSd := fun w E σ G => te w σ G E.rt
def dRetN : TSd := fun _ E _ G => E.rt .non G
theorem swaps_ok {env : Env} {tg : Option Expr} {n : Nat} (h : plainE e = true) : swapsWith e tg n env = pure false := by
  cases e <;> first | rfl | cases h
theorem ds_expr (he : DE X e te) (h : plainE e = true) : DS X (.Expr e pos) (dDrop te) := fun W tk =>
  PSi (ps_expr (he W tk) (swaps_ok h)) fun E σ H ⟨σd, G, e, w, sr, gr, h, cl, cw⟩ => ⟨σd, G, _, w, sr, gr, h, fun v d H1 G1 t1 gr1 r1 h1 => cl.nx _ _ _ _ t1 (sr.mono t1) gr1 h1, cw⟩
theorem ds_ret (he : DE X e te) : DS X (.Return (some e) pos) (dRet te) := fun W tk =>
  PSi (ps_ret (he W tk)) fun E σ H ⟨σd, G, e, w, sr, gr, h, cl, cw⟩ => ⟨σd, G, _, w, sr, gr, h, cl.rt, cw⟩
theorem ds_retN : DS X (.Return none pos) dRetN := fun W tk => PSi ps_retN fun E σ H ⟨σd, G, e, w, sr, gr, h, cl, cw⟩ => cl.rt _ _ _ _ Tm.refl gr .non h
def dIf (c : TTd) (t u : TSd) : TSd := fun w E σ G => c w σ G fun k G1 => Br k (t w E σ G1) (u w E σ G1)
theorem ds_if {A B : List Stmt} (hc : DT X c tA) (ha : DSs X A t) (hb : DSs X B u) : DS X (.If c A B pos) (dIf tA t u) := fun W tk =>
  PSi (ps_if (hc W tk) (ha W tk) (hb W tk)) fun E σ H ⟨σd, G, e, w, sr, gr, h, cl, cw⟩ => ⟨σd, G, _, w, sr, gr, h, fun k H1 G1 t1 gr1 h1 =>
    h1.ite (fun h2 => ⟨σd, G1, e, w, sr.mono t1, gr1, h2, cl.mono t1, cw.mono t1⟩) fun h2 => ⟨σd, G1, e, w, sr.mono t1, gr1, h2, cl.mono t1, cw.mono t1⟩, cw⟩
/-! targets -/
def dgName (i : Nat) : TGd := fun _ d σ G Q => Q (σ.set i (some d)) G
theorem dg_name {i : Nat} {x : Str} (hN : X.N.Nodup) (hi : X.N[i]? = some x) (hx : Loc X.env.scope x) (hf : X.fn x = true ∨ X.env.scope.names.lookup x = some .local) : DG X (.Name x pos) [i] (dgName i) := fun W tk =>
  PGi (pg_name hN hi hx hf) fun v σ H Q ⟨d, σd, G, q, w, r, sr, gr, h, cl, cw⟩ => cl _ _ _ _ Tm.refl Ag.set (sr.set i r) gr h
def dgNil : TGsd := fun _ ds σ G Q => match ds with
  | [] => Q σ G
  | _ => False
def dgCons (t : TGd) (u : TGsd) : TGsd := fun w ds σ G Q => match ds with
  | d :: r => t w d σ G fun σ1 G1 => u w r σ1 G1 Q
  | [] => False
theorem dgs_nil : DGs X [] [] dgNil := fun W tk => PGsi pgs_nil fun vs σ H Q ⟨ds, σd, G, q, w, r, sr, gr, h, cl, cw⟩ => by
  cases r with
  | nil => exact ⟨rfl, cl _ _ _ _ Tm.refl Ag.refl sr gr h⟩
  | cons _ _ => exact False.elim h
theorem CG.weak {K : Kt} {H : Hp} {sl sl' : List Nat} {σ : St} {Q : St → Hp → Prop} {q : Sd → Hd → Prop} (h : ∀ j, j ∈ sl' → j ∈ sl) (c : CG K H sl σ Q q) : CG K H sl' σ Q q :=
  fun a b x y m n => c a b x y m ⟨n.1, fun j hj => n.2 j fun z => hj (h j z)⟩
theorem dgs_cons {sl sl' : List Nat} {tg : TGd} {us : TGsd} (h1 : DG X e sl tg) (h2 : DGs X es sl' us) (hs : (assignEach (e :: es) X.env).map (·.2) = assign e X.env :: (assignEach es X.env).map (·.2)) : DGs X (e :: es) (sl ++ sl') (dgCons tg us) := fun W tk =>
  PGsi (pgs_cons (h1 W tk) (h2 W tk) hs) fun vs σ H Q ⟨ds, σd, G, q, w, r, sr, gr, h, cl, cw⟩ => by
    cases r with
    | nil => exact False.elim h
    | cons r0 r => exact ⟨_, _, rfl, _, σd, G, _, w, r0, sr, gr, h, fun σ1 σ2 H1 G1 t1 ag sr1 gr1 h1 => ⟨_, σ1, G1, q, w, r.mono t1, sr1, gr1, h1,
        fun σ3 σ4 H2 G2 t2 ag2 sr2 gr2 h2 => cl _ _ _ _ (t1.trans t2) (ag.trans ag2) sr2 gr2 h2, cw.mono t1⟩, cw⟩
def dgTup (n : Nat) (t : TGsd) : TGd := fun w d σ G Q => match d with
  | .tup xs => xs.length = n ∧ t w xs σ G Q
  | _ => False
theorem dg_tup {k n : Nat} {sl : List Nat} {us : TGsd} (hc : X.calm = true) (h : DGs X es sl us) (hn : (assignEach es X.env).length = n) (hst : (assignEach es X.env).findIdx? (·.1) = none) : DG X (.Tuple es k pos) sl (dgTup n us) := fun W tk =>
  PGi (pg_tup hc (h W tk) hn hst) fun v σ H Q ⟨d, σd, G, q, w, r, sr, gr, h, cl, cw⟩ => by
    cases d with
    | tup xs =>
      obtain ⟨a, vs, rfl, sq, rs⟩ := r.tup_inv
      exact ⟨a, vs, rfl, sq, by rw [← rs.length]; exact h.1, xs, σd, G, q, w, rs, sr, gr, h.2, cl, cw⟩
    | _ => exact False.elim h
/-- o[i] = v, by values -/
def lift3 (K : Kt) (r : D → D → D → Hd → (Hd → Prop) → Prop) : TSet := fun o i v H Q => ∃ d1 d2 d3 G q, Rp K H d1 o ∧ Rp K H d2 i ∧ Rp K H d3 v ∧ GR K G H ∧ r d1 d2 d3 G q ∧ ∀ H' G', Tm K H H' → GR K G' H' → q G' → Q H'
def dgSub (to ti : TEd) (r : D → D → D → Hd → (Hd → Prop) → Prop) : TGd := fun w v σ G Q => to w σ G fun o G1 => ti w σ G1 fun i G2 => r o i v G2 fun G3 => Q σ G3
def dAsg (te : TEd) (g : TGd) : TSd := fun w E σ G => te w σ G fun x G1 => g w x σ G1 E.nx
theorem ds_set {i : Nat} {x : Str} {pos' : Pos} (hN : X.N.Nodup) (hi : X.N[i]? = some x) (hx : Loc X.env.scope x) (hf : X.fn x = true ∨ X.env.scope.names.lookup x = some .local) (he : DE X e te) (hs : swapsWith e (some (.Name x pos')) pos.line X.env = pure false) :
    DS X (.Assign [.Name x pos'] e pos) (dAsg te (dgName i)) := fun W tk =>
  PSi (ps_set hN hi hx (he W tk) hs hf) fun E σ H ⟨σd, G, e, w, sr, gr, h, cl, cw⟩ => ⟨σd, G, _, w, sr, gr, h, fun v d H1 G1 t1 gr1 r1 h1 => cl.nx _ _ _ _ t1 ((sr.mono t1).set i r1) gr1 h1, cw⟩
theorem ds_asg {tg : Expr} {sl : List Nat} {g : TGd} (he : DE X e te) (hg : DG X tg sl g) (hs : swapsWithSole [tg] e pos.line X.env = pure false) (hw : swappedStores [tg] e X.env = pure none)
    (h1 : (assignEach [tg] X.env).map (·.2) = [assign tg X.env]) : DS X (.Assign [tg] e pos) (dAsg te g) := fun W tk =>
  PSi (ps_asg (he W tk) (hg W tk) hs hw h1) fun E σ H ⟨σd, G, e, w, sr, gr, h, cl, cw⟩ => ⟨σd, G, _, w, sr, gr, h, fun v d H1 G1 t1 gr1 r1 h1 =>
    ⟨d, σd, G1, _, w, r1, sr.mono t1, gr1, h1, fun σ1 σ2 H2 G2 t2 ag sr2 gr2 h2 => cl.nx _ _ _ _ (t1.trans t2) sr2 gr2 h2, cw.mono t1⟩, cw⟩
/-- two local names at once -/
def dPar (i j : Nat) (t : TAd) : TSd := fun w E σ G => t w σ G fun ds G1 => match ds with
  | [x, y] => E.nx ((σ.set i (some x)).set j (some y)) G1
  | _ => False
theorem ds_par {i j : Nat} {x y : Str} {px py pt : Pos} {kt k2 pt2} (hc : X.calm = true) (hN : X.N.Nodup) (hi : X.N[i]? = some x) (hj : X.N[j]? = some y) (hij : i ≠ j)
    (hx : X.env.scope.names.lookup x = some .local) (hy : X.env.scope.names.lookup y = some .local) (ha : DA X [a, b] tes)
    (hw : swappedStores [.Tuple [.Name x px, .Name y py] kt pt] (.Tuple [a, b] k2 pt2) X.env = pure (some [x, y])) :
    DS X (.Assign [.Tuple [.Name x px, .Name y py] kt pt] (.Tuple [a, b] k2 pt2) pos) (dPar i j tes) := fun W tk =>
  PSi (ps_par hc hN hi hj hij hx hy (ha W tk) hw) fun E σ H ⟨σd, G, e, w, sr, gr, h, cl, cw⟩ => ⟨σd, G, _, w, sr, gr, h, fun vs ds H1 G1 t1 gr1 r1 h1 => by
    cases r1 with
    | nil => exact False.elim h1
    | cons r1 rs =>
      cases rs with
      | nil => exact False.elim h1
      | cons r2 rs =>
        cases rs with
        | cons _ _ => exact False.elim h1
        | nil => exact ⟨_, _, rfl, cl.nx _ _ _ _ t1 (((sr.mono t1).set i r1).set j r2) gr1 h1⟩, cw⟩
/-! in place -/
def liftIp (K : Kt) (r : D → D → Hd → Qd → Prop) : TIp := lift2 K r
def dAug (i : Nat) (te : TEd) (r : D → D → Hd → Qd → Prop) : TSd := fun w E σ G => ∃ x, σ[i]? = some (some x) ∧ te w σ G fun y G1 => r x y G1 fun z G2 => E.nx (σ.set i (some z)) G2
theorem ds_aug {i : Nat} {x : Str} {op : Operator} {r : D → D → Hd → Qd → Prop} {pos' : Pos} (hN : X.N.Nodup) (hi : X.N[i]? = some x) (hx : Loc X.env.scope x) (hf : X.fn x = true ∨ X.env.scope.names.lookup x = some .local) (he : DE X e te) (ho : PIp X op (lift2 (kt X) r)) :
    DS X (.AugAssign (.Name x pos') op e pos) (dAug i te r) := fun W tk =>
  PSi (ps_aug hN hi hx (he W tk) ho hf) fun E σ H ⟨σd, G, e, w, sr, gr, ⟨d, ed, h⟩, cl, cw⟩ => by
    obtain ⟨v, ev, rv⟩ := sr.at_ i d ed
    exact ⟨v, ev, σd, G, _, w, sr, gr, h, fun v2 d2 H1 G1 t1 gr1 r1 h1 => ⟨d, d2, G1, _, rv.mono t1, r1, gr1, h1, fun v3 d3 H2 G2 t2 gr2 r2 h2 => cl.nx _ _ _ _ (t1.trans t2) ((sr.mono (t1.trans t2)).set i r2) gr2 h2⟩, cw⟩
end
end S

set_option Elab.async false
set_option linter.all false
set_option maxRecDepth 100000
set_option maxHeartbeats 4000000
namespace S
open PySem PySem.Spec L2
open PyProof.Rows hiding St
/-! ## loops, comprehensions -/
abbrev TId := Wx → Sd → Hd → (List D → (Hd → Prop) → Hd → Prop) → Prop
def ItOk (K : Kt) (H1 : Hp) (J : It) (xs : List D) (stay : Hd → Prop) : Prop := ∀ i H G, Tm K H1 H → GR K G H → stay G →
  (i < xs.length → J.go i H ∧ ∀ x H', J.yld i H x H' → Tm K H H' ∧ GR K G H' ∧ ∃ d, xs[i]? = some d ∧ Rp K H' d x) ∧ (i = xs.length → J.stop i H)
def liftI (K : Kt) (W : WX) (t : TId) : TI := fun σ H R => ∃ σd G r w, SR K H σd σ ∧ GR K G H ∧ t w σd G r ∧
  (∀ J xs stay H1 G1, Tm K H H1 → GR K G1 H1 → ItOk K H1 J xs stay → r xs stay G1 → R J H1) ∧ CW K W H w
def DI (X : Cx) (tg e : Expr) (t : TId) : Prop := ∀ W, L2N.Takes X W → PI X tg e (liftI (kt X) W t)
def dFor (it : TId) (g : TGd) (body : TSd) : TSd := fun w E σ G => it w σ G fun xs stay G1 => ∃ Iv : Nat → Sd → Hd → Prop, Iv 0 σ G1 ∧ (∀ i σ G, Iv i σ G → stay G) ∧
  (∀ i x σ G, xs[i]? = some x → Iv i σ G → g w x σ G fun σ1 G2 => body w { nx := Iv (i + 1), rt := E.rt, bk := E.nx, ct := Iv (i + 1) } σ1 G2) ∧ ∀ σ G, Iv xs.length σ G → E.nx σ G
def wipeD (σ : Sd) : List Nat → Sd
  | [] => σ
  | v :: vs => (wipeD σ vs).set v none
def dLc (it : TId) (g : TGd) (tt : TTd) (te : TEd) (vs : List Nat) : TEd := fun w σ G Q => it w σ G fun xs stay G1 => ∀ p, G1 p = none → ∃ Iv : Nat → Hd → Prop, Iv 0 (st G1 p (.lst [])) ∧ (∀ i G, Iv i G → stay G) ∧
  (∀ i x G, xs[i]? = some x → Iv i G → g W0 x (wipeD σ vs) G fun σ2 G2 => tt W0 σ2 G2 fun k G3 => Br k (te W0 σ2 G3 fun y G4 => ∃ acc, G4 p = some (.lst acc) ∧ acc.length < sizeLine ∧ Iv (i + 1) (st G4 p (.lst (acc ++ [y])))) (Iv (i + 1) G3)) ∧
  ∀ G, Iv xs.length G → Q (.ref p) G
def dYes : TTd := fun _ _ G Q => Q true G
def dWhile (c : TTd) (body : TSd) : TSd := fun w E σ G => ∃ Iv : Nat → Sd → Hd → Prop, (∃ m, Iv m σ G) ∧ ∀ m σ G, Iv m σ G →
  c w σ G fun k G1 => Br k (∃ N : Sd → Hd → Prop, (∀ σ G, N σ G → ∃ m', m' < m ∧ Iv m' σ G) ∧ body w { nx := N, rt := E.rt, bk := E.nx, ct := N } σ G1) (E.nx σ G1)
theorem wipe_get (σ : St) : ∀ (vs : List Nat) (j : Nat), (wipe σ vs)[j]? = if j ∈ vs ∧ j < σ.length then some none else σ[j]?
  | [], j => by simp [wipe]
  | v :: vs, j => by
    have ih := wipe_get σ vs j
    have hl : (wipe σ vs).length = σ.length := wipe_length σ vs
    show ((wipe σ vs).set v none)[j]? = _
    by_cases hj : v = j
    · subst hj
      by_cases hb : v < σ.length
      · rw [List.getElem?_set_self (by rw [hl]; exact hb)]; simp [hb]
      · rw [List.getElem?_eq_none (by simp [hl]; omega), List.getElem?_eq_none (by omega)]; simp [hb]
    · rw [List.getElem?_set_ne hj, ih]
      have : j ≠ v := fun e => hj e.symm
      simp [this]
theorem wipeD_length (σ : Sd) : ∀ vs : List Nat, (wipeD σ vs).length = σ.length
  | [] => rfl
  | v :: vs => by simp [wipeD, wipeD_length σ vs]
theorem SR.wipe {K : Kt} {H : Hp} {σd : Sd} {σ : St} (s : SR K H σd σ) : ∀ vs : List Nat, SR K H (wipeD σd vs) (wipe σ vs)
  | [] => s
  | v :: vs => by
    have ih := SR.wipe s vs
    refine ⟨by simp [wipeD, L2.wipe, ih.len], fun j d h => ?_⟩
    have h' : ((wipeD σd vs).set v none)[j]? = some (some d) := h
    show ∃ u, ((L2.wipe σ vs).set v none)[j]? = some (some u) ∧ _
    by_cases hj : v = j
    · subst hj
      have hl := (List.getElem?_eq_some_iff.mp h').1
      rw [List.getElem?_set_self (by simpa using hl)] at h'
      cases h'
    · rw [List.getElem?_set_ne hj] at h' ⊢
      exact ih.at_ j d h'
theorem Ag.wipe {sl vs : List Nat} {σ σ2 : St} (hs : ∀ j, j ∈ sl → j ∈ vs) (a : Ag sl (L2.wipe σ vs) σ2) : L2.wipe σ2 vs = L2.wipe σ vs := by
  have hl : σ2.length = σ.length := a.1.trans (wipe_length σ vs)
  refine List.ext_getElem? fun j => ?_
  rw [wipe_get, wipe_get]
  by_cases h : j ∈ vs ∧ j < σ.length
  · rw [if_pos h, if_pos ⟨h.1, by rw [hl]; exact h.2⟩]
  · rw [if_neg h, if_neg (by rw [hl]; exact h)]
    by_cases hj : j ∈ vs
    · have hn : ¬ j < σ.length := fun q => h ⟨hj, q⟩
      rw [List.getElem?_eq_none (by omega), List.getElem?_eq_none (by omega)]
    · rw [a.2 j fun z => hj (hs j z), wipe_get, if_neg h]

section
variable {X : Cx} {iter e : Expr} {body : List Stmt} {it : TId} {sl : List Nat} {g : TGd} {tb : TSd} {tg : Expr} {tt : TTd} {te : TEd} {pos : Pos}
theorem ds_for (hp : PassesOwn (model X.prog X.w) X.A X.env X.xe) (hc : X.calm = true) (hi : DI X tg iter it) (hg : DG X tg sl g) (hb : DSs X body tb) (hs : ∀ x, foldedSetIterable iter X.env x = pure x) : DS X (.For tg iter body [] pos) (dFor it g tb) := fun W tk =>
  PSi (ps_for hp hc (hi W tk) (hg W tk) (hb W tk) hs) fun E σ H ⟨σd, G, e, w, sr, gr, h, cl, cw⟩ => by
    refine ⟨σd, G, _, w, sr, gr, h, fun J xs stay H1 G1 t1 gr1 ok ⟨Iv, h0, hst, hturn, hend⟩ => ?_, cw⟩
    refine ⟨fun i m σ' H' => m = xs.length - i ∧ i ≤ xs.length ∧ ∃ σd' G', Tm (kt X) H1 H' ∧ SR (kt X) H' σd' σ' ∧ GR (kt X) G' H' ∧ Iv i σd' G', ⟨_, rfl, Nat.zero_le _, σd, G1, Tm.refl, sr.mono t1, gr1, h0⟩, ?_⟩
    rintro i m σ' H' ⟨rfl, hi, σd', G', t2, sr2, gr2, iv⟩
    obtain ⟨o1, o2⟩ := ok i H' G' t2 gr2 (hst _ _ _ iv)
    by_cases hlt : i < xs.length
    · obtain ⟨go, y⟩ := o1 hlt
      refine .inr ⟨go, fun σ'' H'' => i + 1 ≤ xs.length ∧ ∃ σd'' G'', Tm (kt X) H1 H'' ∧ SR (kt X) H'' σd'' σ'' ∧ GR (kt X) G'' H'' ∧ Iv (i + 1) σd'' G'', fun σ'' H'' ⟨_, z⟩ => ⟨xs.length - (i + 1), by omega, rfl, hlt, z⟩, fun x H2 yx => ?_⟩
      obtain ⟨t3, gr3, d, ed, rd⟩ := y x H2 yx
      have t13 : Tm (kt X) H H2 := (t1.trans t2).trans t3
      refine ⟨d, σd', G', _, w, rd, sr2.mono t3, gr3, hturn i d σd' G' ed iv, fun σ3d σ3 H3 G3 t4 ag sr4 gr4 h4 => ⟨σ3d, G3, _, w, sr4, gr4, h4, ?_, cw.mono (t13.trans t4)⟩, cw.mono t13⟩
      have t5 : Tm (kt X) H1 H3 := t2.trans (t3.trans t4)
      exact ⟨fun a b H5 G5 m5 s5 g5 q => ⟨hlt, a, G5, t5.trans m5, s5, g5, q⟩, fun v d H5 G5 m5 => cl.rt v d H5 G5 ((t13.trans t4).trans m5),
        fun a b H5 G5 m5 => cl.nx a b H5 G5 ((t13.trans t4).trans m5), fun a b H5 G5 m5 s5 g5 q => ⟨hlt, a, G5, t5.trans m5, s5, g5, q⟩⟩
    · have e1 : i = xs.length := by omega
      subst e1
      exact .inl ⟨o2 rfl, cl.nx _ _ _ _ (t1.trans t2) sr2 gr2 (hend _ _ iv)⟩
theorem ds_while {c : Expr} {tc : TTd} (hp : PassesOwn (model X.prog X.w) X.A X.env X.xe) (hc : DT X c tc) (hb : DSs X body tb) : DS X (.While c body [] pos) (dWhile tc tb) := fun W tk =>
  PSi (ps_while hp (hc W tk) (hb W tk)) fun E σ H ⟨σd, G, e, w, sr, gr, ⟨Iv, ⟨m0, h0⟩, hturn⟩, cl, cw⟩ => by
    refine ⟨fun m σ' H' => ∃ σd' G', Tm (kt X) H H' ∧ SR (kt X) H' σd' σ' ∧ GR (kt X) G' H' ∧ Iv m σd' G', ⟨m0, σd, G, Tm.refl, sr, gr, h0⟩, ?_⟩
    rintro m σ' H' ⟨σd', G', t1, sr1, gr1, iv⟩
    refine ⟨σd', G', _, w, sr1, gr1, hturn m σd' G' iv, fun k H2 G2 t2 gr2 h2 => h2.ite (fun ⟨N, hN, hbody⟩ => ?_) fun h3 => cl.nx _ _ _ _ (t1.trans t2) (sr1.mono t2) gr2 h3, cw.mono t1⟩
    have t12 := t1.trans t2
    refine ⟨fun σ3 H3 => ∃ σd3 G3, Tm (kt X) H H3 ∧ SR (kt X) H3 σd3 σ3 ∧ GR (kt X) G3 H3 ∧ N σd3 G3, fun σ3 H3 ⟨σd3, G3, t3, sr3, gr3, n3⟩ => let ⟨m', hm, hv⟩ := hN _ _ n3; ⟨m', hm, σd3, G3, t3, sr3, gr3, hv⟩, ?_⟩
    exact ⟨σd', G2, _, w, sr1.mono t2, gr2, hbody, ⟨fun a b H5 G5 m5 s5 g5 q => ⟨a, G5, t12.trans m5, s5, g5, q⟩, fun v d H5 G5 m5 => cl.rt v d H5 G5 (t12.trans m5), fun a b H5 G5 m5 => cl.nx a b H5 G5 (t12.trans m5),
      fun a b H5 G5 m5 s5 g5 q => ⟨a, G5, t12.trans m5, s5, g5, q⟩⟩, cw.mono t12⟩
abbrev Blk (X : Cx) (scope : Scope) (s : Shared) (H : Hp) (C : Addr) (cl : List (Str × Addr)) (fp : List Addr) : Cx := X.blk s H scope (compEnvC scope cl C X.env) fp
theorem blk_takes {scope : Scope} {s : Shared} {H : Hp} {C : Addr} {cl : List (Str × Addr)} {fp : List Addr} : L2N.Takes (Blk X scope s H C cl fp) fun _ _ _ _ => False := fun _ _ ⟨_, _, _, _, _, _, _, _, _, _, _, _, _, _, _, _, z⟩ => z.elim
theorem cw0 {K : Kt} {H : Hp} : CW K (fun _ _ _ _ => False) H W0 := fun _ _ _ _ _ _ _ _ _ _ _ _ h => h
theorem lc_read {K : Kt} {W : WX} {vs : List Nat} (hsl : ∀ j, j ∈ sl → j ∈ vs) (σ : St) (H : Hp) (Q : VK) (h : liftE K W (dLc it g tt te vs) σ H Q) :
    tLc (liftI K W it) (liftG K (fun _ _ _ _ => False) sl g) (liftT K (fun _ _ _ _ => False) tt) (liftE K (fun _ _ _ _ => False) te) vs σ H Q := by
  obtain ⟨σd, G, q, w, sr, gr, h, cl, cw⟩ := h
  refine ⟨σd, G, _, w, sr, gr, h, fun J xs stay H1 G1 t1 gr1 ok hp => ?_, cw⟩
  intro p hp0
  obtain ⟨Iv, h0, hst, hturn, hend⟩ := hp p (gr1.free hp0)
  have tn : Tm K H1 (upd H1 p (.lst [])) := Tm.new hp0
  refine ⟨fun i m H' => m = xs.length - i ∧ i ≤ xs.length ∧ ∃ G', Tm K H1 H' ∧ GR K G' H' ∧ Iv i G', ⟨_, rfl, Nat.zero_le _, _, tn, gr1.new (u := .lst []) hp0 ⟨_, upd_same, .nil⟩, h0⟩, ?_⟩
  rintro i m H' ⟨rfl, hi, G', t2, gr2, iv⟩
  obtain ⟨o1, o2⟩ := ok i H' G' t2 gr2 (hst _ _ iv)
  by_cases hlt : i < xs.length
  · obtain ⟨go, y⟩ := o1 hlt
    refine .inr ⟨go, fun H'' => i + 1 ≤ xs.length ∧ ∃ G'', Tm K H1 H'' ∧ GR K G'' H'' ∧ Iv (i + 1) G'', fun H'' ⟨_, z⟩ => ⟨xs.length - (i + 1), by omega, rfl, hlt, z⟩, fun x H2 yx => ?_⟩
    obtain ⟨t3, gr3, d, ed, rd⟩ := y x H2 yx
    have s0 : SR K H2 (wipeD σd vs) (wipe σ vs) := (sr.mono ((t1.trans t2).trans t3)).wipe vs
    refine ⟨d, wipeD σd vs, G', _, W0, rd, s0, gr3, hturn i d G' ed iv, fun σ3d σ3 H3 G3 t4 ag sr4 gr4 h4 => ⟨ag.wipe hsl, ?_⟩, cw0⟩
    refine ⟨σ3d, G3, _, W0, sr4, gr4, h4, fun k H4 G4 t5 gr5 h5 => h5.ite (fun h6 => ?_) fun h6 => ⟨hlt, G4, t2.trans (t3.trans (t4.trans t5)), gr5, h6⟩, cw0⟩
    refine ⟨σ3d, G4, _, W0, sr4.mono t5, gr5, h6, fun v y H5 G5 t6 gr6 r6 ⟨acc, ea, hl, h7⟩ => ?_, cw0⟩
    obtain ⟨us, eu, ru⟩ := gr6.lst ea
    have tw : Tm K H5 (upd H5 p (.lst (us ++ [v]))) := Tm.lst eu
    exact ⟨us, eu, by rw [← ru.length]; exact hl, hlt, _, t2.trans (t3.trans (t4.trans (t5.trans (t6.trans tw)))), gr6.set (u := .lst (acc ++ [y])) tw ⟨_, upd_same, (ru.mono tw).append (.cons (r6.mono tw) .nil)⟩, h7⟩
  · have e1 : i = xs.length := by omega
    subst e1
    exact .inl ⟨o2 rfl, cl _ _ _ _ (t1.trans t2) gr2 (.ref p) (hend _ iv)⟩
theorem pts_of {ifs : List Expr} (h : (ifs = [] ∧ tt = dYes) ∨ ∃ c, ifs = [c] ∧ DT X c tt) (W : WX) (tk : L2N.Takes X W) : PTs X ifs (liftT (kt X) W tt) := by
  rcases h with ⟨rfl, rfl⟩ | ⟨c, rfl, h⟩
  · exact ⟨fun pins s σ H Q I ⟨σd, G, q, w, sr, gr, h, cl, cw⟩ => pts_nil.run pins s σ H Q I (cl _ _ _ Tm.refl gr h)⟩
  · exact pts_one (h W tk)
theorem de_lc {elt : Expr} {ifs : List Expr} {scope : Scope} {own : List (Str × Nat)} (hc : X.calm = true) (hN : X.N.Nodup) (hi : DI X tg iter it) (ok : BlkOk X.N X.env.scope scope own) (hsl : ∀ j, j ∈ sl → j ∈ own.map (·.2))
    (hg : ∀ s H C cl fp, DG (Blk X scope s H C cl fp) tg sl g) (ht : ∀ s H C cl fp, (ifs = [] ∧ tt = dYes) ∨ ∃ c, ifs = [c] ∧ DT (Blk X scope s H C cl fp) c tt) (he : ∀ s H C cl fp, DE (Blk X scope s H C cl fp) elt te)
    (hs : ∀ x, foldedSetIterable iter X.env x = pure x) : DE X (.ListComp elt [⟨tg, iter, ifs, 0⟩] scope pos) (dLc it g tt te (own.map (·.2))) := fun W tk =>
  PEi (pe_lc hc hN (hi W tk) ok (fun s H C cl fp => hg s H C cl fp _ blk_takes) (fun s H C cl fp => pts_of (ht s H C cl fp) _ blk_takes) (fun s H C cl fp => he s H C cl fp _ blk_takes) hs) (lc_read hsl)
theorem ds_setLc {i : Nat} {y : Str} {py spos : Pos} {elt : Expr} {ifs : List Expr} {scope : Scope} {own : List (Str × Nat)} (hc : X.calm = true) (hN : X.N.Nodup) (hy : X.N[i]? = some y) (hyl : X.env.scope.names.lookup y = some .local)
    (hsw : swapsWith (.ListComp elt [⟨tg, iter, ifs, 0⟩] scope pos) (some (.Name y py)) spos.line X.env = pure true) (hi : DI X tg iter it) (ok : BlkOk X.N X.env.scope scope own) (hsl : ∀ j, j ∈ sl → j ∈ own.map (·.2))
    (hg : ∀ s H C cl fp, DG (Blk X scope s H C cl fp) tg sl g) (ht : ∀ s H C cl fp, (ifs = [] ∧ tt = dYes) ∨ ∃ c, ifs = [c] ∧ DT (Blk X scope s H C cl fp) c tt) (he : ∀ s H C cl fp, DE (Blk X scope s H C cl fp) elt te)
    (hs : ∀ x, foldedSetIterable iter X.env x = pure x) : DS X (.Assign [.Name y py] (.ListComp elt [⟨tg, iter, ifs, 0⟩] scope pos) spos) (dAsg (dLc it g tt te (own.map (·.2))) (dgName i)) := fun W tk =>
  PSi (ps_setLc hc hN hy hyl hsw (hi W tk) ok (fun s H C cl fp => hg s H C cl fp _ blk_takes) (fun s H C cl fp => pts_of (ht s H C cl fp) _ blk_takes) (fun s H C cl fp => he s H C cl fp _ blk_takes) hs) fun E σ H ⟨σd, G, e, w, sr, gr, h, cl, cw⟩ =>
    lc_read hsl _ _ _ ⟨σd, G, _, w, sr, gr, h, fun v d H1 G1 t1 gr1 r1 h1 => cl.nx _ _ _ _ t1 ((sr.mono t1).set i r1) gr1 h1, cw⟩
end

/-! ## calls -/
abbrev DSp := List D → Hd → Qd → (Nat → D → Hd → Prop) → Prop
abbrev X0 : Nat → D → Hd → Prop := fun _ _ _ => False
def liftSp (K : Kt) (sp : DSp) : Sp := fun vs H Q E => ∃ ds G q x, Rps K H ds vs ∧ GR K G H ∧ sp ds G q x ∧ CQ K H Q q ∧ ∀ i d G' H' cls od, Tm K H H' → GR K G' H' → ExR K H' i d cls od → x i d G' → E cls od H'
structure Cal (X : Cx) (name : Str) (sp : DSp) : Prop where
  ex : ∃ f fd ps k, FnOk X.prog X.w (kt X) X.mg X.base (L2N.CX X.prog X.w) k f fd ps (liftSp (kt X) sp) ∧ Room k X.A ∧ X.mg name = some (.ref f) ∧ PySem.W.keepIn X.K (.ref f) = true ∧ Binds (kt X) fd ps []
def dCall (sp : DSp) (t : TAd) : TEd := fun w σ G Q => t w σ G fun ds G1 => sp ds G1 Q fun i d G2 => w i d σ G2
section
variable {X : Cx} {e o : Expr} {es : List Expr} {te : TEd} {tes : TAd} {pos p apos : Pos} {sp : DSp} {x m : Str}
theorem plain_ok {env : Env} : ∀ {es : List Expr}, es.all unstarE = true → (backTo pos (starEach es env)).any (·.1) = false
  | [], _ => rfl
  | e :: es, h => by
    simp only [List.all_cons, Bool.and_eq_true] at h
    rw [star_ok h.1]
    have ih := plain_ok (env := env) h.2
    simpa [backTo] using ih
theorem de_call (c : Cal X x sp) (hg : Gl X x) (hd : (x == ("__debug__" : Str)) = false) (ha : DA X (e :: es) tes) (hs : (e :: es).all unstarE = true) : DE X (.Call (.Name x p) (e :: es) [] pos) (dCall sp tes) := fun W tk => by
  obtain ⟨f, fd, ps, k, F, hr, hm, hk, hb⟩ := c.ex
  simp only [List.all_cons, Bool.and_eq_true] at hs
  refine PEi (pe_callS F hr hg hm hk hb (fun σ => L2N.passAt tk σ) (ha W tk) hd (star_ok hs.1) (plain_ok hs.2)) fun σ H Q ⟨σd, G, q, w, sr, gr, h, cl, cw⟩ => ?_
  exact ⟨σd, G, _, w, sr, gr, h, fun vs ds H1 G1 t1 gr1 r1 h1 => ⟨ds, G1, q, _, r1, gr1, h1, cl.mono t1, fun i d G' H' cls od t2 gr2 ex h2 => cw i d σd σ G' H' cls od (t1.trans t2) (sr.mono (t1.trans t2)) gr2 ex h2⟩, cw⟩
end
end S

set_option Elab.async false
set_option linter.all false
set_option maxRecDepth 100000
set_option maxHeartbeats 4000000
namespace S
open PySem PySem.Spec L2
open PyProof.Rows hiding St
/-! ## dicts whose keys are tuples -/
section
variable {X : Cx} {pins : List (Addr × Obj)} {σ : St} {H : Hp} {s : Shared}
mutual
theorem nest_of (I : L2.Inv X pins σ H s) : ∀ {d : D} {v : V} {u : Value} {nk : NestedKey}, keyN d = some nk → Rp (kt X) H d v → RelV v u → NestedIs s.heap nk u
  | .non, _, _, _, e, r, q => by cases e; cases r; cases q; exact .none
  | .bl b, _, _, _, e, r, q => by cases e; cases r; cases q; exact .bool rfl
  | .int i, _, _, _, e, r, q => by cases e; cases r; obtain ⟨t, rfl⟩ := q; exact .int _ _
  | .str x, _, _, _, e, r, q => by cases e; cases r; obtain ⟨t, rfl⟩ := q; exact .text _ _
  | .tup xs, _, _, _, e, r, q => by
    simp only [keyN] at e
    split at e
    · rename_i ks ek
      cases e
      obtain ⟨a, vs, rfl, sa, ra⟩ := r.tup_inv
      cases q
      obtain ⟨its, rv, ⟨⟨oc, od, dt, sl⟩, h1, h2, n, h3⟩, _⟩ := I.tuple sa
      simp only at h2 h3
      exact .tup h1 h2 h3 (nests_of I ek ra (by simpa using rv))
    · cases e
  | .lst _, _, _, _, e, _, _ => by cases e
  | .ref _, _, _, _, e, _, _ => by cases e
  | .ty _, _, _, _, e, _, _ => by cases e
  | .fn _, _, _, _, e, _, _ => by cases e
  | .rl _, _, _, _, e, _, _ => by cases e
theorem nests_of (I : L2.Inv X pins σ H s) : ∀ {ds : List D} {vs : List V} {us : List Value} {ks : List NestedKey}, keysN ds = some ks → Rps (kt X) H ds vs → Vals vs us → NestedAll s.heap ks us
  | [], _, _, _, e, r, q => by cases e; cases r; cases q; exact .nil
  | d :: ds, _, _, _, e, r, q => by
    simp only [keysN] at e
    split at e
    · rename_i k ks e1 e2
      cases e
      cases r with
      | cons r rs =>
        cases q with
        | cons q qs => exact .cons (nest_of I e1 r q) (nests_of I e2 rs qs)
    · cases e
end
theorem dit_len : ∀ {kvs : List (D × D)} {xs : List (NestedKey × Addr × Value)}, DitR (kt X) H kvs xs → kvs.length = xs.length
  | _, _, .nil => rfl
  | _, _, .cons _ _ _ _ _ q => by simp [dit_len q]
theorem dit_is (I : L2.Inv X pins σ H s) : ∀ {kvs : List (D × D)} {xs : List (NestedKey × Addr × Value)}, DitR (kt X) H kvs xs → ∀ x ∈ xs, (nestedKind X.prog X.w).is s.heap x.1 x.2.1
  | _, _, .nil, _, h => by cases h
  | _, _, .cons h1 h2 h3 _ _ q, x, h => by
    rcases List.mem_cons.mp h with rfl | h
    · exact ⟨nest_of I h1 h3 rfl, h2⟩
    · exact dit_is I q x h
theorem dit_of (I : L2.Inv X pins σ H s) {a : Addr} {kvs : List (D × D)} {xs : List (NestedKey × Addr × Value)} {ep : Nat} (e : H a = some (DitO X.prog X.w a xs ep)) (r : DitR (kt X) H kvs xs) :
    s.heap.DictOfH (nestedKind X.prog X.w) a xs ∧ xs.length ≤ sizeLine ∧ (a == sysModules) = false := by
  obtain ⟨⟨l, hs, nd, o, es, h1, h2, h3, h4⟩, _⟩ := I.hok a _ e
  exact ⟨⟨o, es, ep, h1, h2, h3, h4, dit_is I r, nd⟩, l, hs⟩
end
/-- what stands in it at a key -/
def sameK (a b : D) : Bool := decide (keyN a = keyN b)
def valT (kvs : List (D × D)) (k : D) : Option D := (kvs.find? fun kv => sameK kv.1 k).map (·.2)
def putT (kvs : List (D × D)) (k v : D) : List (D × D) := if (valT kvs k).isSome then kvs.map (fun kv => if sameK kv.1 k then (kv.1, v) else kv) else kvs ++ [(k, v)]
def kdep (d : D) : Nat := match keyN d with
  | some k => k.depth
  | none => 9
def keyOk (k : D) : Prop := kdep k ≤ 8
theorem keyOk_ok {k : D} (h : keyOk k) : ∃ nk, keyN k = some nk ∧ nk.depth ≤ 8 := by
  unfold keyOk kdep at h
  split at h
  · rename_i nk e; exact ⟨nk, e, h⟩
  · omega
section
variable {K : Kt} {H : Hp}
theorem DitR.val {k : D} {nk : NestedKey} (hk : keyN k = some nk) : ∀ {kvs : List (D × D)} {xs : List (NestedKey × Addr × Value)}, DitR K H kvs xs → (∀ d, valT kvs k = some d → ∃ p v, atKey xs nk = some p ∧ Rp K H d v ∧ RelV v p.2) ∧ (valT kvs k = none → atKey xs nk = none)
  | _, _, .nil => ⟨fun d h => (by cases h), fun _ => rfl⟩
  | _, _, @DitR.cons _ _ kd nk' ad d v u r s h1 h2 h3 h4 h5 q => by
    obtain ⟨i1, i2⟩ := DitR.val hk q
    by_cases e : nk' = nk
    · have es : sameK (.tup kd) k = true := by unfold sameK; rw [h1, hk, e]; simp
      refine ⟨fun d' hd => ?_, fun hd => ?_⟩
      · simp [valT, List.find?_cons, es] at hd
        subst hd
        exact ⟨(ad, u), v, by simp [atKey, List.find?_cons, e], h4, h5⟩
      · simp [valT, List.find?_cons, es] at hd
    · have es : sameK (.tup kd) k = false := by unfold sameK; rw [h1, hk]; simp [e]
      refine ⟨fun d' hd => ?_, fun hd => ?_⟩
      · have hd : valT r k = some d' := by simpa [valT, List.find?_cons, es] using hd
        obtain ⟨p, v, e1, e2⟩ := i1 d' hd
        exact ⟨p, v, by simpa [atKey, List.find?_cons, e] using e1, e2⟩
      · have hd : valT r k = none := by simpa [valT, List.find?_cons, es] using hd
        simpa [atKey, List.find?_cons, e] using i2 hd
theorem DitR.isS {k : D} {nk : NestedKey} (hk : keyN k = some nk) {kvs : List (D × D)} {xs : List (NestedKey × Addr × Value)} (r : DitR K H kvs xs) : (valT kvs k).isSome = (atKey xs nk).isSome := by
  obtain ⟨i1, i2⟩ := r.val hk
  cases e : valT kvs k with
  | none => rw [i2 e]; rfl
  | some d => obtain ⟨p, v, e1, _⟩ := i1 d e; rw [e1]; rfl
theorem DitR.repl {k d : D} {v : V} {u : Value} {nk : NestedKey} (hk : keyN k = some nk) (hd : Rp K H d v) (hv : RelV v u) : ∀ {kvs : List (D × D)} {xs : List (NestedKey × Addr × Value)}, DitR K H kvs xs → DitR K H (kvs.map fun kv => if sameK kv.1 k then (kv.1, d) else kv) (xs.map (putAt nk u))
  | _, _, .nil => .nil
  | _, _, @DitR.cons _ _ kd nk' ad d' v' u' r s h1 h2 h3 h4 h5 q => by
    have ih := DitR.repl hk hd hv q
    by_cases e : nk' = nk
    · have es : sameK (.tup kd) k = true := by unfold sameK; rw [h1, hk, e]; simp
      have e2 : putAt nk u (nk', ad, u') = (nk', ad, u) := by simp [putAt, e]
      rw [List.map_cons, List.map_cons, e2]
      simp only [es, if_true]
      exact .cons h1 h2 h3 hd hv ih
    · have es : sameK (.tup kd) k = false := by unfold sameK; rw [h1, hk]; simp [e]
      have e2 : putAt nk u (nk', ad, u') = (nk', ad, u') := by simp [putAt, e]
      rw [List.map_cons, List.map_cons, e2]
      simp only [es, Bool.false_eq_true, if_false]
      exact .cons h1 h2 h3 h4 h5 ih
theorem DitR.snoc {kd : List D} {d : D} {v : V} {u : Value} {ad : Addr} {nk : NestedKey} (hk : keyN (.tup kd) = some nk) (hdp : nk.depth ≤ 8) (hr : Rp K H (.tup kd) (.ref ad)) (hd : Rp K H d v) (hv : RelV v u) : ∀ {kvs : List (D × D)} {xs : List (NestedKey × Addr × Value)}, DitR K H kvs xs → DitR K H (kvs ++ [(.tup kd, d)]) (xs ++ [(nk, ad, u)])
  | _, _, .nil => .cons hk hdp hr hd hv .nil
  | _, _, .cons h1 h2 h3 h4 h5 q => .cons h1 h2 h3 h4 h5 (DitR.snoc hk hdp hr hd hv q)
theorem DitR.put {kd : List D} {d : D} {v : V} {u : Value} {ad : Addr} {nk : NestedKey} {kvs : List (D × D)} {xs : List (NestedKey × Addr × Value)} (r : DitR K H kvs xs) (hk : keyN (.tup kd) = some nk) (hdp : nk.depth ≤ 8) (hr : Rp K H (.tup kd) (.ref ad)) (hd : Rp K H d v) (hv : RelV v u) :
    DitR K H (putT kvs (.tup kd) d) (storedH xs nk ad u) := by
  unfold putT storedH
  rw [r.isS hk]
  split
  · exact r.repl hk hd hv
  · exact r.snoc hk hdp hr hd hv
end
theorem putT_len {kvs : List (D × D)} {k v : D} : (putT kvs k v).length ≤ kvs.length + 1 := by
  unfold putT; split
  · simp
  · simp
section
variable {X : Cx} {pos : Pos}
def dDnew : TEd := fun _ _ G Q => ∀ p, G p = none → Q (.ref p) (st G p (.dit [] 0))
theorem ditO_new {P : Program} {w : World} {H : Hp} (h : Heap) (hb : sysModules < h.objs.size) : ObjOk P w H (h.push { cls := .type "dict", data := .dict #[] }) h.objs.size (DitO P w h.objs.size [] 0) := by
  refine ⟨⟨Nat.zero_le _, beq_eq_false_iff_ne.mpr (Ne.symm (Nat.ne_of_lt hb)), List.nodup_nil, _, #[], Heap.get?_push_size _ rfl, ⟨rfl, rfl, rfl⟩, rfl, rfl⟩, ⟨_, Heap.get?_push_size _ rfl⟩, ?_⟩
  rintro h1 h2 ⟨l, hs, nd, o, es, e1, r⟩ k
  exact ⟨l, hs, nd, o, es, k o e1, r⟩
theorem pe_dnewD : PE X (.Dict [] [] pos) (fun _ H Q => ∀ p, H p = none → Q (.ref p) (upd H p (DitO X.prog X.w p [] 0))) := ⟨fun pins s σ H Q I h =>
  wpAny_Dict_empty ⟨.ref s.heap.objs.size, _, I.laid (a := s.heap.objs.size) (o := DitO X.prog X.w s.heap.objs.size [] 0) (t' := s.toks) (fun _ _ q => Heap.get?_push_of_some _ q) (Nat.le_refl _) (ditO_new s.heap I.big), rfl, h _ (I.hok.fresh (Nat.le_refl _))⟩⟩
theorem de_dnew : DE X (.Dict [] [] pos) dDnew := fun W tk => PEi pe_dnewD fun σ H Q ⟨σd, G, q, w, sr, gr, h, cl, cw⟩ p hp =>
  cl _ _ _ _ (Tm.new hp) (gr.new (u := .dit [] 0) hp ⟨[], upd_same, .nil⟩) (.ref p) (h p (gr.free hp))
/-! d[k] -/
theorem ix_dit (hu : X.A.units + 9 < cLine) {value slice : Expr} {pins : List (Addr × Obj)} {s : Shared} {σ : St} {H : Hp} {a : Addr} {kd : List D} {y : V} {u : Value} {G : Hd} {kvs : List (D × D)} {ep : Nat} {d : D} {q : Qd} {Q : VK} (I : L2.Inv X pins σ H s) (ry : RelV y u) (r2 : Rp (kt X) H (.tup kd) y)
    (gr : GR (kt X) G H) (e : G a = some (.dit kvs ep)) (ko : keyOk (.tup kd)) (hv : valT kvs (.tup kd) = some d) (h : q d G) (cl : CQ (kt X) H Q q) (hs : subscripted slice false (.ref a) u = operate [.ref a, u] (getItem (.ref a) u)) :
    wpAny (model X.prog X.w) X.A (subscriptTail value slice (.ref a) u) (EP X pins σ Q) X.xe s := by
  obtain ⟨xs, ha, r⟩ := gr _ _ e
  obtain ⟨dd, hl, hs0⟩ := dit_of I ha r
  obtain ⟨nk, hk, hdp⟩ := keyOk_ok ko
  obtain ⟨b, vs, rfl, sb, rb⟩ := r2.tup_inv
  cases (show u = Value.ref b from ry)
  obtain ⟨p, v, hp, rv, rel⟩ := (r.val hk).1 d hv
  have hT : s.TypeIs (.ref a) "dict" := dd.typeIs
  unfold subscriptTail
  refine wpAny_bind ?_
  rw [getitemInPython_of_ne hT.not_modules]
  refine wpAny_bind (wpAny_specialOf hT PySem.F.slot_dict_getitem.lookup ?_)
  have get : wpAny (model X.prog X.w) X.A (getItem (.ref a) (.ref b)) (EP X pins σ Q) X.xe s :=
    wpAny_getItem_heap (knd := nestedKind X.prog X.w) (k := nk) (by show X.A.units + 1 + 8 < cLine; omega) ⟨nest_of I hk r2 rfl, hdp⟩ dd hp ⟨v, H, I.tok _, rel, cl _ _ _ _ Tm.refl gr rv h⟩
  have fin : wpAny (model X.prog X.w) X.A (subscripted slice false (.ref a) (.ref b)) (fun r s₃ => wpAny (model X.prog X.w) X.A (letTemporaryGo value (.ref a) r >>= fun _ => pure r) (EP X pins σ Q) X.xe s₃) X.xe s := by
    rw [hs]
    exact wpAny_operating (wpAny_mono get (fun r s₃ h₃ => wpAny_bind (wpAny_letTemporaryGo (wpAny_pure h₃))) fun _ _ x => x)
  first
    | exact wpAny_pure (wpAny_bind fin)
    | exact wpAny_bind (wpAny_pure (wpAny_bind fin))
    | exact wpAny_bind fin
end
section
variable {X : Cx}
/-- d[k] = v -/
theorem set_dit (hu : X.A.units + 9 < cLine) {pins : List (Addr × Obj)} {s : Shared} {σ : St} {H : Hp} {a : Addr} {kd : List D} {y vv : V} {u u2 : Value} {G : Hd} {kvs : List (D × D)} {ep : Nat} {d : D} {q : Hd → Prop} {Q : Hp → Prop} (I : L2.Inv X pins σ H s) (ry : RelV y u) (rv : RelV vv u2)
    (r2 : Rp (kt X) H (.tup kd) y) (r3 : Rp (kt X) H d vv) (gr : GR (kt X) G H) (e : G a = some (.dit kvs ep)) (ko : keyOk (.tup kd)) (hl : kvs.length < sizeLine) (h : ∀ ep', q (st G a (.dit (putT kvs (.tup kd) d) ep')))
    (cl : ∀ H' G', Tm (kt X) H H' → GR (kt X) G' H' → q G' → Q H') : wpAny (model X.prog X.w) X.A (setItem (.ref a) u u2) (fun _ s' => ∃ H', L2.Inv X pins σ H' s' ∧ Q H') X.xe s := by
  obtain ⟨xs, ha, r⟩ := gr _ _ e
  obtain ⟨dd, hz, hs0⟩ := dit_of I ha r
  obtain ⟨nk, hk, hdp⟩ := keyOk_ok ko
  obtain ⟨b, vs, rfl, sb, rb⟩ := r2.tup_inv
  cases (show u = Value.ref b from ry)
  have el := dit_len r
  refine wpAny_setItem_heap (knd := nestedKind X.prog X.w) (hsz := hz) (k := nk) (by show X.A.units + 1 + 8 < cLine; omega) ⟨nest_of I hk r2 rfl, hdp⟩ dd fun h' dd' hs => ?_
  obtain ⟨o, es, ep', h1, h2, h3, h4, h5, h6⟩ := dd'
  have rp := r.put (ad := b) hk hdp r2 r3 rv
  have hl2 : (storedH xs nk b u2).length ≤ sizeLine := by rw [← dit_len rp]; have := putT_len (kvs := kvs) (k := .tup kd) (v := d); omega
  have t : Tm (kt X) H (upd H a (DitO X.prog X.w a (storedH xs nk b u2) ep')) := Tm.put fun u q => by rw [ha] at q; cases q; exact fun z => z
  refine ⟨upd H a (DitO X.prog X.w a (storedH xs nk b u2) ep'), d_write I (by rw [ha]; exact True.intro) hs ⟨o, h1⟩ ⟨⟨hl2, hs0, h6, o, es, h1, h2, h3, h4⟩, ⟨o, h1⟩, ?_⟩, cl _ _ t (gr.set (u := .dit (putT kvs (.tup kd) d) ep') t ⟨_, upd_same, rp.mono t⟩) (h ep')⟩
  rintro g1 g2 ⟨l, hs, nd, o, es, e1, r⟩ k
  exact ⟨l, hs, nd, o, es, k o e1, r⟩
end
end S

set_option Elab.async false
set_option linter.all false
set_option maxRecDepth 100000
set_option maxHeartbeats 4000000
namespace S
open PySem PySem.Spec L2
open PyProof.Rows hiding St
/-! ## told data: lists by value -/
mutual
inductive Dd (G : Hd) : D → D → Prop
  | non : Dd G .non .non
  | bl (b : Bool) : Dd G (.bl b) (.bl b)
  | int (i : Int) : Dd G (.int i) (.int i)
  | str (x : Str) : Dd G (.str x) (.str x)
  | tup {xs ds : List D} : Dds G xs ds → Dd G (.tup xs) (.tup ds)
  | lst {a : Addr} {xs ds : List D} : G a = some (.lst xs) → Dds G xs ds → Dd G (.ref a) (.lst ds)
  | rol {a : Addr} {xs ds : List D} : G a = some (.rol xs) → Dds G xs ds → Dd G (.ref a) (.lst ds)
inductive Dds (G : Hd) : List D → List D → Prop
  | nil : Dds G [] []
  | cons {x d : D} {xs ds : List D} : Dd G x d → Dds G xs ds → Dds G (x :: xs) (d :: ds)
end
mutual
def toPy : D → PyData
  | .non => .none
  | .bl b => .bool b
  | .int i => .int i
  | .str x => .str x
  | .tup xs => .tuple (toPys xs)
  | .lst xs => .list (toPys xs)
  | .ref _ => .none
  | .ty _ => .none
  | .fn _ => .none
  | .rl _ => .none
def toPys : List D → List PyData
  | [] => []
  | x :: xs => toPy x :: toPys xs
end
mutual
/-- == of told data -/
def eqB : D → D → Bool
  | .non, .non => true
  | .bl a, .bl b => a == b
  | .bl a, .int j => (if a then 1 else 0) == j
  | .int i, .bl b => i == (if b then 1 else 0)
  | .int i, .int j => i == j
  | .str x, .str y => x == y
  | .lst xs, .lst ys => eqBs xs ys
  | .tup xs, .tup ys => eqBs xs ys
  | _, _ => false
def eqBs : List D → List D → Bool
  | [], [] => true
  | x :: xs, y :: ys => eqB x y && eqBs xs ys
  | _, _ => false
end
mutual
/-- told data alone, of texts with signs that are some -/
def okD : D → Bool
  | .non => true
  | .bl _ => true
  | .int _ => true
  | .str x => PySem.PyData.strOk x
  | .tup xs => okDs xs
  | .lst xs => okDs xs
  | _ => false
def okDs : List D → Bool
  | [] => true
  | x :: xs => okD x && okDs xs
end
mutual
def dep : D → Nat
  | .tup xs => deps xs + 1
  | .lst xs => deps xs + 1
  | _ => 0
def deps : List D → Nat
  | [] => 0
  | x :: xs => max (dep x) (deps xs)
end
mutual
theorem py_depth : ∀ d : D, (toPy d).depth ≤ dep d
  | .non => Nat.le_refl _
  | .bl _ => Nat.le_refl _
  | .int _ => Nat.le_refl _
  | .str _ => Nat.le_refl _
  | .tup xs => by simp only [toPy, dep, PyData.depth]; exact Nat.succ_le_succ (pys_depth xs)
  | .lst xs => by simp only [toPy, dep, PyData.depth]; exact Nat.succ_le_succ (pys_depth xs)
  | .ref _ => Nat.le_refl _
  | .ty _ => Nat.le_refl _
  | .fn _ => Nat.le_refl _
  | .rl _ => Nat.le_refl _
theorem pys_depth : ∀ ds : List D, PyData.depthAll (toPys ds) ≤ deps ds
  | [] => Nat.le_refl _
  | x :: xs => by
    have h1 := py_depth x
    have h2 := pys_depth xs
    simp only [toPys, deps, PyData.depthAll]; omega
end
mutual
theorem py_lay : ∀ d : D, okD d = true → (toPy d).canLay0 = true
  | .non, _ => rfl
  | .bl _, _ => rfl
  | .int _, _ => rfl
  | .str _, h => h
  | .tup xs, h => by simp only [toPy, PyData.canLay0]; exact pys_lay xs h
  | .lst xs, h => by simp only [toPy, PyData.canLay0]; exact pys_lay xs h
theorem pys_lay : ∀ ds : List D, okDs ds = true → PyData.canLayAll0 (toPys ds) = true
  | [], _ => rfl
  | x :: xs, h => by
    simp only [okDs, Bool.and_eq_true] at h
    simp only [toPys, PyData.canLayAll0, Bool.and_eq_true]
    exact ⟨py_lay x h.1, pys_lay xs h.2⟩
end
mutual
theorem py_eqv : ∀ x y : D, okD x = true → okD y = true → PyData.eqv (toPy x) (toPy y) = eqB x y
  | .non, y, _, hy => by cases y <;> first | rfl | cases hy
  | .bl _, y, _, hy => by cases y <;> first | rfl | cases hy
  | .int _, y, _, hy => by cases y <;> first | rfl | cases hy
  | .str _, y, _, hy => by cases y <;> first | rfl | cases hy
  | .tup xs, y, hx, hy => by
    cases y with
    | tup ys => simp only [toPy, PyData.eqv, eqB]; exact pys_eqv xs ys hx hy
    | _ => first | rfl | cases hy
  | .lst xs, y, hx, hy => by
    cases y with
    | lst ys => simp only [toPy, PyData.eqv, eqB]; exact pys_eqv xs ys hx hy
    | _ => first | rfl | cases hy
theorem pys_eqv : ∀ xs ys : List D, okDs xs = true → okDs ys = true → PyData.eqvAll (toPys xs) (toPys ys) = eqBs xs ys
  | [], [], _, _ => rfl
  | [], _ :: _, _, _ => rfl
  | _ :: _, [], _, _ => rfl
  | x :: xs, y :: ys, hx, hy => by
    simp only [okDs, Bool.and_eq_true] at hx hy
    simp only [toPys, PyData.eqvAll, eqBs, py_eqv x y hx.1 hy.1, pys_eqv xs ys hx.2 hy.2]
end
def sh (d : D) : Prop := okD d = true ∧ dep d ≤ 64
theorem sh_py {d : D} (h : sh d) : SeqAt.shaped (toPy d) = true := by
  unfold SeqAt.shaped
  rw [Bool.and_eq_true]
  exact ⟨py_lay d h.1, decide_eq_true (Nat.le_trans (py_depth d) h.2)⟩
section
variable {K : Kt} {H : Hp} {G : Hd}
mutual
theorem Dd.dp (g : GR K G H) : ∀ {x d : D} {v : V}, Dd G x d → Rp K H x v → Dp K H v (toPy d)
  | _, _, _, .non, .non => .non
  | _, _, _, .bl b, .bl _ => .bl b
  | _, _, _, .int i, .int _ => .int i
  | _, _, _, .str x, .str _ => .str x
  | _, _, _, .tup h, .tup q r => .tup q (Dds.dp g h r)
  | _, _, _, .lst e h, r => by
    cases r
    obtain ⟨vs, hv, r⟩ := g _ _ e
    exact .lst (.inl (.inl hv)) (Dds.dp g h r)
  | _, _, _, .rol e h, r => by
    cases r
    obtain ⟨o, vs, hv, r⟩ := g _ _ e
    exact .lst (.inl (.inr ⟨o, hv⟩)) (Dds.dp g h r)
theorem Dds.dp (g : GR K G H) : ∀ {xs ds : List D} {vs : List V}, Dds G xs ds → Rps K H xs vs → DpAll K H vs (toPys ds)
  | _, _, _, .nil, .nil => .nil
  | _, _, _, .cons h hs, .cons r rs => .cons (Dd.dp g h r) (Dds.dp g hs rs)
end
end
def seqG (G : Hd) (a : Addr) (xs : List D) : Prop := G a = some (.lst xs) ∨ G a = some (.rol xs)
def eqR (neg : Bool) : D → D → Hd → Qd → Prop := fun x y G Q => ∃ d e, Dd G x d ∧ Dd G y e ∧ sh d ∧ sh e ∧ Q (.bl (neg ^^ eqB d e)) G
section
variable {X : Cx}
theorem od_eq (hu : X.A.units + 64 < cLine) : OpD X (compareOp .Eq) (eqR false) := by
  intro pins s σ H x y v u Q I rx ry ⟨dx, dy, G, q, r1, r2, gr, ⟨d, e, h1, h2, s1, s2, h⟩, cl⟩
  refine op_eqD hu pins s σ H x y v u Q I rx ry ⟨toPy d, toPy e, h1.dp gr r1, h2.dp gr r2, sh_py s1, sh_py s2, ?_⟩
  rw [py_eqv d e s1.1 s2.1]
  exact cl _ _ _ _ Tm.refl gr (.bl _) (by simpa using h)
theorem od_ne (hu : X.A.units + 64 < cLine) : OpD X (compareOp .NotEq) (eqR true) := by
  intro pins s σ H x y v u Q I rx ry ⟨dx, dy, G, q, r1, r2, gr, ⟨d, e, h1, h2, s1, s2, h⟩, cl⟩
  refine op_neD hu pins s σ H x y v u Q I rx ry ⟨toPy d, toPy e, h1.dp gr r1, h2.dp gr r2, sh_py s1, sh_py s2, ?_⟩
  rw [py_eqv d e s1.1 s2.1]
  exact cl _ _ _ _ Tm.refl gr (.bl _) (by simpa using h)
/-! ## operators by values -/
abbrev R2d := D → D → Hd → Qd → Prop
def addD : R2d := fun x y G Q => match x, y with
  | .int i, .int j => Q (.int (i + j)) G
  | .str x, .str y => x.length + y.length ≤ sizeLine ∧ Q (.str (x ++ y)) G
  | .tup xs, .tup ys => xs.length + ys.length ≤ sizeLine ∧ Q (.tup (xs ++ ys)) G
  | .ref a, .ref b => ∃ xs, G a = some (.lst xs) ∧ ∃ ys, G b = some (.lst ys) ∧ xs.length + ys.length ≤ sizeLine ∧ ∀ p, G p = none → Q (.ref p) (st G p (.lst (xs ++ ys)))
  | _, _ => False
theorem od_add : OpD X (binaryOp .Add) addD := by
  intro pins s σ H x y v u Q I rx ry ⟨dx, dy, G, q, r1, r2, gr, h, cl⟩
  unfold addD at h
  split at h
  · cases r1; cases r2; exact op_add pins s σ H _ _ v u Q I rx ry ⟨_, _, rfl, rfl, cl _ _ _ _ Tm.refl gr (.int _) h⟩
  · cases r1; cases r2; exact op_add_str pins s σ H _ _ v u Q I rx ry ⟨_, _, rfl, rfl, h.1, cl _ _ _ _ Tm.refl gr (.str _) h.2⟩
  · rename_i xs ys
    obtain ⟨a, vs, rfl, sa, ra⟩ := r1.tup_inv
    obtain ⟨b, us, rfl, sb, rb⟩ := r2.tup_inv
    have e1 := ra.length
    have e2 := rb.length
    refine op_catA pins s σ H _ _ v u Q I rx ry ⟨a, b, vs, us, rfl, rfl, sa, sb, by rw [← e1, ← e2]; exact h.1, fun hx => ?_, fun hx hy => ?_, fun hx hy p hp => ?_⟩
    · subst hx
      cases ra
      exact cl _ _ _ _ Tm.refl gr (.tup sb rb) h.2
    · subst hy
      cases rb
      have q2 := h.2
      rw [List.append_nil] at q2
      exact cl _ _ _ _ Tm.refl gr (.tup sa ra) q2
    · have t := Tm.new (K := (kt X)) (o := .tup (vs ++ us)) hp
      exact cl _ _ _ _ t (gr.keep hp) (.tup (.inl (.inl upd_same)) ((ra.mono t).append (rb.mono t))) h.2
  · rename_i a b
    obtain ⟨xs, ea, ys, eb, hl, h⟩ := h
    cases r1; cases r2
    obtain ⟨vs, ha, ra⟩ := gr.lst ea
    obtain ⟨us, hb, rb⟩ := gr.lst eb
    refine op_cat pins s σ H _ _ v u Q I rx ry ⟨a, b, vs, us, rfl, rfl, ha, hb, by rw [← ra.length, ← rb.length]; exact hl, fun p hp => ?_⟩
    have t := Tm.new (K := (kt X)) (o := .lst (vs ++ us)) hp
    exact cl _ _ _ _ t (gr.new (u := .lst (xs ++ ys)) hp ⟨_, upd_same, (ra.mono t).append (rb.mono t)⟩) (.ref p) (h p (gr.free hp))
  · exact h.elim
def intD (C : Int → Int → Prop) (f : Int → Int → D) : R2d := fun x y G Q => match x, y with
  | .int i, .int j => C i j ∧ Q (f i j) G
  | _, _ => False
theorem od_int {f : Value → Value → Sem Value} {C : Int → Int → Prop} {k : Int → Int → V} {kd : Int → Int → D} (h0 : OpR X f (rI C k)) (hk : ∀ H i j, Rp (kt X) H (kd i j) (k i j)) : OpD X f (intD C kd) := by
  intro pins s σ H x y v u Q I rx ry ⟨dx, dy, G, q, r1, r2, gr, h, cl⟩
  unfold intD at h
  split at h
  · cases r1; cases r2; exact h0 pins s σ H _ _ v u Q I rx ry ⟨_, _, rfl, rfl, h.1, cl _ _ _ _ Tm.refl gr (hk _ _ _) h.2⟩
  · exact h.elim
theorem od_int0 {f : Value → Value → Sem Value} {k : Int → Int → V} {kd : Int → Int → D} (h0 : OpR X f (rI0 k)) (hk : ∀ H i j, Rp (kt X) H (kd i j) (k i j)) : OpD X f (intD (fun _ _ => True) kd) := by
  intro pins s σ H x y v u Q I rx ry ⟨dx, dy, G, q, r1, r2, gr, h, cl⟩
  unfold intD at h
  split at h
  · cases r1; cases r2; exact h0 pins s σ H _ _ v u Q I rx ry ⟨_, _, rfl, rfl, cl _ _ _ _ Tm.refl gr (hk _ _ _) h.2⟩
  · exact h.elim
def subD : R2d := intD (fun _ _ => True) fun i j => .int (i - j)
def modD : R2d := intD (fun _ j => 0 < j) fun i j => .int (i % j)
def divD : R2d := intD CDivW fun i j => .int (i / j)
def powD : R2d := intD CPow fun i j => .int (i ^ j.toNat)
def ltD : R2d := fun x y G Q => match x, y with
  | .tup xs, .tup ys => ∃ ds es, Dds G xs ds ∧ Dds G ys es ∧ PySem.W.alike (toPy (.tup ds)) (toPy (.tup es)) = true ∧ dep (.tup ds) ≤ 50 ∧ Q (.bl (PySem.W.dataLt (toPy (.tup ds)) (toPy (.tup es)))) G
  | x, y => intD (fun _ _ => True) (fun i j => .bl (decide (i < j))) x y G Q
def leD : R2d := intD (fun _ _ => True) fun i j => .bl (decide (i ≤ j))
def gtD : R2d := intD (fun _ _ => True) fun i j => .bl (decide (j < i))
def geD : R2d := intD (fun _ _ => True) fun i j => .bl (decide (j ≤ i))
theorem od_sub : OpD X (binaryOp .Sub) subD := od_int0 op_sub fun _ _ _ => .int _
theorem od_mod : OpD X (binaryOp .Mod) modD := od_int op_mod fun _ _ _ => .int _
theorem od_div : OpD X (binaryOp .FloorDiv) divD := od_int op_fdivW fun _ _ _ => .int _
theorem od_pow : OpD X (binaryOp .Pow) powD := od_int op_pow fun _ _ _ => .int _
theorem od_ltI : OpD X (compareOp .Lt) (intD (fun _ _ => True) fun i j => .bl (decide (i < j))) := od_int0 op_lt fun _ _ _ => .bl _
theorem od_lt (hu2 : X.A.units + 65 < cLine) : OpD X (compareOp .Lt) ltD := by
  intro pins s σ H x y v u Q I rx ry ⟨dx, dy, G, q, r1, r2, gr, h, cl⟩
  unfold ltD at h
  split at h
  · obtain ⟨ds, es, h1, h2, ha, hd, h⟩ := h
    obtain ⟨as, q1⟩ := Dp.reads I _ x v ((Dd.tup h1).dp gr r1) rx
    obtain ⟨bs, q2⟩ := Dp.reads I _ y u ((Dd.tup h2).dp gr r2) ry
    have h3 := py_depth (.tup ds)
    exact PySem.W.lt_data q1 q2 ha (by intro z; cases z) (by omega) ⟨.bl _, H, I, rfl, cl _ _ _ _ Tm.refl gr (.bl _) h⟩
  · exact od_ltI pins s σ H x y v u Q I rx ry ⟨_, _, G, q, r1, r2, gr, h, cl⟩
theorem od_le : OpD X (compareOp .LtE) leD := od_int0 op_le fun _ _ _ => .bl _
theorem od_gt : OpD X (compareOp .Gt) gtD := od_int0 op_gt fun _ _ _ => .bl _
theorem od_ge : OpD X (compareOp .GtE) geD := od_int0 op_ge fun _ _ _ => .bl _
def repD (xs : List D) (k : Nat) : List D := (List.replicate k xs).flatten
theorem Rps.rep {K : Kt} {H : Hp} {xs : List D} {vs : List V} (r : Rps K H xs vs) : ∀ k : Nat, Rps K H (repD xs k) (List.replicate k vs).flatten
  | 0 => .nil
  | k + 1 => by
    unfold repD
    rw [List.replicate_succ, List.replicate_succ, List.flatten_cons, List.flatten_cons]
    exact r.append (Rps.rep r k)
def mulD : R2d := fun x y G Q => match x, y with
  | .int i, .int j => CMulW i j ∧ Q (.int (i * j)) G
  | .ref a, .int k => ∃ xs, G a = some (.lst xs) ∧ (-(2 ^ 63) ≤ k ∧ k < 2 ^ 63 ∧ xs.length * k.toNat ≤ sizeLine) ∧ ∀ p, G p = none → Q (.ref p) (st G p (.lst (repD xs k.toNat)))
  | .tup xs, .int k => (xs ≠ [] ∧ 2 ≤ k ∧ k ≤ 1000 ∧ xs.length ≤ 1000) ∧ Q (.tup (repD xs k.toNat)) G
  | _, _ => False
theorem od_mul : OpD X (binaryOp .Mult) mulD := by
  intro pins s σ H x y v u Q I rx ry ⟨dx, dy, G, q, r1, r2, gr, h, cl⟩
  unfold mulD at h
  split at h
  · cases r1; cases r2; exact op_mulW pins s σ H _ _ v u Q I rx ry ⟨_, _, rfl, rfl, h.1, cl _ _ _ _ Tm.refl gr (.int _) h.2⟩
  · rename_i l k
    obtain ⟨xs, e, ⟨h1, h2, h3⟩, h⟩ := h
    cases r1; cases r2
    obtain ⟨vs, ha, ra⟩ := gr.lst e
    refine op_rep pins s σ H _ _ v u Q I rx ry ⟨_, _, vs, rfl, rfl, ha, h1, h2, by rw [← ra.length]; exact h3, fun p hp => ?_⟩
    have t := Tm.new (K := (kt X)) (o := .lst (List.replicate k.toNat vs).flatten) hp
    exact cl _ _ _ _ t (gr.new (u := .lst _) hp ⟨_, upd_same, (ra.mono t).rep _⟩) (.ref p) (h p (gr.free hp))
  · rename_i xs k
    obtain ⟨⟨h1, h2, h3, h4⟩, h⟩ := h
    obtain ⟨a, vs, rfl, sa, ra⟩ := r1.tup_inv
    cases r2
    have el := ra.length
    refine op_repT pins s σ H _ _ v u Q I rx ry ⟨a, _, vs, rfl, rfl, sa, fun e => h1 (by rw [e] at el; exact List.eq_nil_of_length_eq_zero (by simpa using el)), h2, h3, by rw [← el]; exact h4, fun p hp => ?_⟩
    have t := Tm.new (K := (kt X)) (o := .tup (List.replicate k.toNat vs).flatten) hp
    exact cl _ _ _ _ t (gr.keep hp) (.tup (.inl (.inl upd_same)) ((ra.mono t).rep _)) h
  · exact h.elim
/-- in, of told data: a tuple's or a list's items; a text's parts -/
def inK (neg : Bool) (x : D) (a : Addr) (G : Hd) (Q : Qd) : Prop := match x with
  | .tup ks => ∃ kvs ep, G a = some (.dit kvs ep) ∧ keyOk (.tup ks) ∧ Q (.bl (neg ^^ (valT kvs (.tup ks)).isSome)) G
  | _ => False
def inD (neg : Bool) : R2d := fun x y G Q => match y with
  | .tup ys => ∃ d es, Dd G x d ∧ Dds G ys es ∧ sh d ∧ sh (.tup es) ∧ Q (.bl (neg ^^ es.any fun z => eqB z d)) G
  | .ref a => (∃ ys, seqG G a ys ∧ ∃ d es, Dd G x d ∧ Dds G ys es ∧ sh d ∧ sh (.lst es) ∧ Q (.bl (neg ^^ es.any fun z => eqB z d)) G) ∨ inK neg x a G Q
  | _ => False
theorem any_py {d : D} (hd : okD d = true) : ∀ {es : List D}, okDs es = true → ((toPys es).any fun z => PyData.eqv z (toPy d)) = es.any fun z => eqB z d
  | [], _ => rfl
  | e :: es, h => by
    simp only [okDs, Bool.and_eq_true] at h
    simp only [toPys, List.any_cons, py_eqv e d h.1 hd, any_py hd h.2]
theorem xor_t {b : Bool} : (true ^^ b) = !b := by cases b <;> rfl
theorem od_inB (neg : Bool) (hu : X.A.units + 64 < cLine) (hu2 : X.A.units + 65 < cLine) : OpD X (compareOp (if neg then .NotIn else .In)) (inD neg) := by
  intro pins s σ H x y v u Q I rx ry ⟨dx, dy, G, q, r1, r2, gr, h, cl⟩
  unfold inD at h
  split at h
  · obtain ⟨d, es, h1, h2, s1, s2, h⟩ := h
    obtain ⟨as, q1⟩ := Dp.reads I _ x v (h1.dp gr r1) rx
    have hy : Dp (kt X) H y (.tuple (toPys es)) := (Dd.tup h2).dp gr r2
    obtain ⟨bs, q2⟩ := Dp.reads I _ y u hy ry
    have hxs : PyData.canLayAll0 (toPys es) = true := SeqAt.canLay_of_shaped (sh_py s2)
    have hr : X.A.units + 1 + min (PyData.depthAll (toPys es)) (toPy d).depth < cLine := room_in_shaped (sh_py s1) hu2
    rw [← any_py s1.1 s2.1] at h
    cases neg with
    | false => exact SeqAt.in_tuple_reads q2 q1 hxs (SeqAt.canLay_of_shaped (sh_py s1)) hr ⟨.bl _, H, I, rfl, cl _ _ _ _ Tm.refl gr (.bl _) (by simpa using h)⟩
    | true => exact SeqAt.notIn_tuple_reads q2 q1 hxs (SeqAt.canLay_of_shaped (sh_py s1)) hr ⟨.bl _, H, I, rfl, cl _ _ _ _ Tm.refl gr (.bl _) (by rw [xor_t] at h; exact h)⟩
  · rcases h with h | h
    rotate_left
    · unfold inK at h
      split at h
      · obtain ⟨kvs, ep, eg, ko, h⟩ := h
        cases r2
        obtain ⟨xs, ha, rxs⟩ := gr _ _ eg
        obtain ⟨dd, hz, hs0⟩ := dit_of I ha rxs
        obtain ⟨nk, hk, hdp⟩ := keyOk_ok ko
        have kn := nest_of I hk r1 rx
        obtain ⟨b, ws, rfl, sb, rb⟩ := r1.tup_inv
        cases (show v = Value.ref b from rx)
        cases (show u = Value.ref _ from ry)
        rw [rxs.isS hk] at h
        have ev : (valueAt (pairsH xs) nk).isSome = (atKey xs nk).isSome := by rw [valueAt_pairsH, Option.isSome_map]
        cases neg with
        | false => exact in_keyed (knd := nestedKind X.prog X.w) (k := nk) (by show X.A.units + 1 + 8 < cLine; omega) ⟨kn, hdp⟩ hs0 ⟨xs, dd, rfl⟩ ⟨.bl _, H, I.tok _, rfl, cl _ _ _ _ Tm.refl gr (.bl _) (by rw [ev]; simpa using h)⟩
        | true => exact notIn_keyed (knd := nestedKind X.prog X.w) (k := nk) (by show X.A.units + 1 + 8 < cLine; omega) ⟨kn, hdp⟩ hs0 ⟨xs, dd, rfl⟩ ⟨.bl _, H, I.tok _, rfl, cl _ _ _ _ Tm.refl gr (.bl _) (by rw [ev]; rw [xor_t] at h; exact h)⟩
      · exact h.elim
    obtain ⟨ys, sq, d, es, h1, h2, s1, s2, h⟩ := h
    obtain ⟨as, q1⟩ := Dp.reads I _ x v (h1.dp gr r1) rx
    have hy : Dp (kt X) H y (.list (toPys es)) := (sq.elim (fun e => Dd.lst e h2) fun e => Dd.rol e h2).dp gr r2
    obtain ⟨bs, q2⟩ := Dp.reads I _ y u hy ry
    have hxs : PyData.canLayAll0 (toPys es) = true := SeqAt.canLay_of_shaped (sh_py s2)
    have hr : X.A.units + 1 + min (PyData.depthAll (toPys es)) (toPy d).depth < cLine := room_in_shaped (sh_py s1) hu2
    rw [← any_py s1.1 s2.1] at h
    cases neg with
    | false => exact SeqAt.in_list_reads q2 q1 hxs (SeqAt.canLay_of_shaped (sh_py s1)) hr ⟨.bl _, H, I, rfl, cl _ _ _ _ Tm.refl gr (.bl _) (by simpa using h)⟩
    | true => exact SeqAt.notIn_list_reads q2 q1 hxs (SeqAt.canLay_of_shaped (sh_py s1)) hr ⟨.bl _, H, I, rfl, cl _ _ _ _ Tm.refl gr (.bl _) (by rw [xor_t] at h; exact h)⟩
  · exact h.elim
def isNon : D → Bool
  | .non => true
  | _ => false
def isND (neg : Bool) : R2d := fun x y G Q => match y with
  | .non => Q (.bl (neg ^^ isNon x)) G
  | .bl b => ∃ a, x = .bl a ∧ Q (.bl (neg ^^ decide (a = b))) G
  | _ => False
theorem rp_non {K : Kt} {H : Hp} {x : D} {v : V} (h : Rp K H x v) : decide (v = V.non) = isNon x := by cases h <;> simp [isNon]
theorem od_is : OpD X (compareOp .Is) (isND false) := by
  intro pins s σ H x y v u Q I rx ry ⟨dx, dy, G, q, r1, r2, gr, h, cl⟩
  unfold isND at h
  split at h
  · cases r2
    refine op_isN pins s σ H _ _ v u Q I rx ry ⟨rfl, ?_⟩
    rw [rp_non r1]
    exact cl _ _ _ _ Tm.refl gr (.bl _) (by simpa using h)
  · obtain ⟨a, rfl, h⟩ := h
    cases r1; cases r2
    exact op_is_bl pins s σ H _ _ v u Q I rx ry ⟨a, _, rfl, rfl, cl _ _ _ _ Tm.refl gr (.bl _) (by simpa using h)⟩
  · exact h.elim
theorem od_isnot : OpD X (compareOp .IsNot) (isND true) := by
  intro pins s σ H x y v u Q I rx ry ⟨dx, dy, G, q, r1, r2, gr, h, cl⟩
  unfold isND at h
  split at h
  · cases r2
    refine op_notN pins s σ H _ _ v u Q I rx ry ⟨rfl, ?_⟩
    rw [rp_non r1]
    exact cl _ _ _ _ Tm.refl gr (.bl _) (by simpa using h)
  · obtain ⟨a, rfl, h⟩ := h
    cases r1; cases r2
    exact op_isnot_bl pins s σ H _ _ v u Q I rx ry ⟨a, _, rfl, rfl, cl _ _ _ _ Tm.refl gr (.bl _) (by simpa using h)⟩
  · exact h.elim
def negD : D → Hd → Qd → Prop := fun x G Q => match x with
  | .int i => Q (.int (-i)) G
  | _ => False
theorem ud_neg : UnR X (unaryOp .USub) (lift1 (kt X) negD) := by
  intro pins s σ H x v Q I rx ⟨dx, G, q, r1, gr, h, cl⟩
  unfold negD at h
  split at h
  · cases r1; exact un_neg pins s σ H _ v Q I rx ⟨_, rfl, cl _ _ _ _ Tm.refl gr (.int _) h⟩
  · exact h.elim
/-! in place -/
theorem ipd_add : PIp X .Add (lift2 (kt X) (intD (fun _ _ => True) fun i j => .int (i + j))) := by
  intro pins s σ H x y v u Q I rx ry ⟨dx, dy, G, q, r1, r2, gr, h, cl⟩
  unfold intD at h
  split at h
  · cases r1; cases r2; exact ip_add pins s σ H _ _ v u Q I rx ry ⟨_, _, rfl, rfl, cl _ _ _ _ Tm.refl gr (.int _) h.2⟩
  · exact h.elim
/-! ## items, slices -/
theorem seq_of {K : Kt} {H : Hp} {G : Hd} {a : Addr} {xs : List D} (g : GR K G H) (h : seqG G a xs) : ∃ vs, SqL K H a vs ∧ Rps K H xs vs := by
  rcases h with h | h
  · obtain ⟨vs, e, r⟩ := g a _ h; exact ⟨vs, .inl (.inl e), r⟩
  · obtain ⟨o, vs, e, r⟩ := g a _ h; exact ⟨vs, .inl (.inr ⟨o, e⟩), r⟩
theorem atI_rps {K : Kt} {H : Hp} {xs : List D} {vs : List V} {i : Int} {d : D} (r : Rps K H xs vs) (h : atI xs i = some d) : ∃ v, atI vs i = some v ∧ Rp K H d v := by
  unfold atI at h ⊢
  rw [← r.length]
  cases e : ixN xs.length i with
  | none => rw [e] at h; cases h
  | some j => rw [e] at h; exact r.get h
def ixD : R2d := fun x y G Q => match x, y with
  | .tup xs, .int i => ∃ d, atI xs i = some d ∧ Q d G
  | .ref a, .int i => ∃ xs, seqG G a xs ∧ ∃ d, atI xs i = some d ∧ Q d G
  | .ref a, .tup k => ∃ kvs ep, G a = some (.dit kvs ep) ∧ keyOk (.tup k) ∧ ∃ d, valT kvs (.tup k) = some d ∧ Q d G
  | .rl xs, .int i => ∃ d, atI xs i = some d ∧ Q d G
  | .str z, .int i => z.length ≤ sizeLine ∧ ∃ c, atI z.cps.toList i = some c ∧ Q (.str ⟨#[c]⟩) G
  | _, _ => False
theorem ixd (hu : X.A.units + 9 < cLine) : IxR X (lift2 (kt X) ixD) := by
  intro value slice pins s σ H x y v u Q I rx ry ⟨dx, dy, G, q, r1, r2, gr, h, cl⟩ hs
  unfold ixD at h
  split at h
  · obtain ⟨d, e, h⟩ := h
    obtain ⟨a, vs, rfl, sa, ra⟩ := r1.tup_inv
    cases r2
    obtain ⟨z, ez, rz⟩ := atI_rps ra e
    exact ix_tup value slice pins s σ H _ _ v u Q I rx ry ⟨a, vs, _, z, rfl, rfl, sa, ez, cl _ _ _ _ Tm.refl gr rz h⟩ hs
  · obtain ⟨xs, sq, d, e, h⟩ := h
    cases r1; cases r2
    obtain ⟨vs, sa, ra⟩ := seq_of gr sq
    obtain ⟨z, ez, rz⟩ := atI_rps ra e
    exact ix_list value slice pins s σ H _ _ v u Q I rx ry ⟨_, vs, _, z, rfl, rfl, sa, ez, cl _ _ _ _ Tm.refl gr rz h⟩ hs
  · obtain ⟨kvs, ep, e, ko, d, hv, h⟩ := h
    cases r1
    cases (show v = Value.ref _ from rx)
    exact ix_dit hu I ry r2 gr e ko hv h cl hs
  · obtain ⟨d, e, h⟩ := h
    obtain ⟨a, vs, rfl, sa, ra⟩ := r1.rl_inv
    cases r2
    obtain ⟨z, ez, rz⟩ := atI_rps ra e
    exact ix_list value slice pins s σ H _ _ v u Q I rx ry ⟨a, vs, _, z, rfl, rfl, sa.sq, ez, cl _ _ _ _ Tm.refl gr rz h⟩ hs
  · obtain ⟨hz, c, e, h⟩ := h
    cases r1; cases r2
    exact ix_str value slice pins s σ H _ _ v u Q I rx ry ⟨_, _, c, rfl, rfl, hz, e, cl _ _ _ _ Tm.refl gr (.str _) h⟩ hs
  · exact h.elim
theorem de_ix {a b : Expr} {ta tb : TEd} {pos : Pos} (hu : X.A.units + 9 < cLine) (ha : DE X a ta) (hb : DE X b tb) (hs : PlainIx b) : DE X (.Subscript a b pos) (dOp ixD ta tb) := fun W tk =>
  PEi (pe_ix (ixd hu) (ha W tk) (hb W tk) hs) op_read
def cut {α : Type} (xs : List α) (lo hi : Option Int) : List α := (xs.drop (HT.sIx xs.length 0 lo)).take (HT.sIx xs.length xs.length hi - HT.sIx xs.length 0 lo)
theorem Rps.cut {K : Kt} {H : Hp} {xs : List D} {vs : List V} (r : Rps K H xs vs) (lo hi : Option Int) : Rps K H (cut xs lo hi) (cutV vs lo hi) := by
  unfold S.cut cutV
  rw [r.length]
  exact (r.drop _).take _
abbrev TOd := Wx → Sd → Hd → (Option Int → Hd → Prop) → Prop
def CO (K : Kt) (H : Hp) (Q : Option Int → Hp → Prop) (q : Option Int → Hd → Prop) : Prop := ∀ o H' G', Tm K H H' → GR K G' H' → q o G' → Q o H'
def liftO (K : Kt) (W : WX) (t : TOd) : TO := fun σ H Q => ∃ σd G q w, SR K H σd σ ∧ GR K G H ∧ t w σd G q ∧ CO K H Q q ∧ CW K W H w
def DO' (X : Cx) (e : Option Expr) (t : TOd) : Prop := ∀ W, L2N.Takes X W → PO X e (liftO (kt X) W t)
def dNoPart : TOd := fun _ _ G Q => Q none G
def dPart (te : TEd) : TOd := fun w σ G Q => te w σ G fun d G1 => match d with
  | .int i => Q (some i) G1
  | _ => False
theorem POi {e : Option Expr} {t t' : TO} (h : PO X e t) (i : ∀ σ H Q, t' σ H Q → t σ H Q) : PO X e t' := ⟨fun pins s σ H Q I q => h.run pins s σ H Q I (i _ _ _ q)⟩
theorem do_none : DO' X none dNoPart := fun W tk => POi po_none fun σ H Q ⟨σd, G, q, w, sr, gr, h, cl, cw⟩ => cl _ _ _ Tm.refl gr h
theorem do_some {e : Expr} {te : TEd} (he : DE X e te) : DO' X (some e) (dPart te) := fun W tk => POi (po_some (he W tk)) fun σ H Q ⟨σd, G, q, w, sr, gr, h, cl, cw⟩ =>
  ⟨σd, G, _, w, sr, gr, h, fun v d H1 G1 t1 gr1 r1 h1 => by
    cases d with
    | int i => exact ⟨i, r1.int_inv, cl _ _ _ t1 gr1 h1⟩
    | _ => exact False.elim h1, cw⟩
def slD : D → Option Int → Option Int → Hd → Qd → Prop := fun x lo hi G Q => match x with
  | .tup xs => Q (.tup (cut xs lo hi)) G
  | .ref a => ∃ xs, seqG G a xs ∧ ∀ p, G p = none → Q (.ref p) (st G p (.lst (cut xs lo hi)))
  | .str z => z.length ≤ sizeLine ∧ Q (.str (cutS z lo hi)) G
  | _ => False
theorem sIx_whole {n : Nat} {lo hi : Option Int} (h : HT.sIx n 0 lo = 0 ∧ HT.sIx n n hi = n) {α : Type} {xs : List α} (e : xs.length = n) : cut xs lo hi = xs := by
  unfold cut
  rw [e, h.1, h.2, List.drop_zero, Nat.sub_zero, ← e, List.take_length]
def liftSl (K : Kt) (r : D → Option Int → Option Int → Hd → Qd → Prop) : V → Option Int → Option Int → Hp → VK → Prop := fun x lo hi H Q => ∃ dx G q, Rp K H dx x ∧ GR K G H ∧ r dx lo hi G q ∧ CQ K H Q q
theorem sld : SlR X (liftSl (kt X) slD) := by
  intro pins s σ H x v vl vu lo hi sl Q I rx hs pl pu ⟨dx, G, q, r1, gr, h, cl⟩
  unfold slD at h
  split at h
  · obtain ⟨a, vs, rfl, sa, ra⟩ := r1.tup_inv
    refine sl_tupA pins s σ H _ v vl vu lo hi sl Q I rx hs pl pu ⟨a, vs, rfl, sa, fun hw => ?_, fun hw p hp => ?_⟩
    · rw [sIx_whole hw ra.length] at h
      exact cl _ _ _ _ Tm.refl gr (.tup sa ra) h
    · have t := Tm.new (K := (kt X)) (o := .tup (cutV vs lo hi)) hp
      exact cl _ _ _ _ t (gr.keep hp) (.tup (.inl (.inl upd_same)) ((ra.mono t).cut lo hi)) h
  · obtain ⟨xs, sq, h⟩ := h
    cases r1
    obtain ⟨vs, sa, ra⟩ := seq_of gr sq
    refine sl_list pins s σ H _ v vl vu lo hi sl Q I rx hs pl pu ⟨_, vs, rfl, sa, fun p hp => ?_⟩
    have t := Tm.new (K := (kt X)) (o := .lst (cutV vs lo hi)) hp
    exact cl _ _ _ _ t (gr.new (u := .lst (cut xs lo hi)) hp ⟨_, upd_same, (ra.mono t).cut lo hi⟩) (.ref p) (h p (gr.free hp))
  · cases r1
    exact sl_str pins s σ H _ v vl vu lo hi sl Q I rx hs pl pu ⟨_, rfl, h.1, cl _ _ _ _ Tm.refl gr (.str _) h.2⟩
  · exact h.elim
def dSl (te : TEd) (tl th : TOd) : TEd := fun w σ G Q => te w σ G fun x G1 => tl w σ G1 fun l G2 => th w σ G2 fun u G3 => slD x l u G3 Q
theorem de_slice {e : Expr} {lo hi : Option Expr} {te : TEd} {tl th : TOd} {pos p2 : Pos} (he : DE X e te) (hl : DO' X lo tl) (hh : DO' X hi th) : DE X (.Subscript e (.Slice lo hi none p2) pos) (dSl te tl th) := fun W tk =>
  PEi (pe_slice sld (he W tk) (hl W tk) (hh W tk)) fun σ H Q ⟨σd, G, q, w, sr, gr, h, cl, cw⟩ => ⟨σd, G, _, w, sr, gr, h, fun v d H1 G1 t1 gr1 r1 h1 =>
    ⟨σd, G1, _, w, sr.mono t1, gr1, h1, fun l H2 G2 t2 gr2 h2 => ⟨σd, G2, _, w, sr.mono (t1.trans t2), gr2, h2, fun u H3 G3 t3 gr3 h3 =>
      ⟨d, G3, q, r1.mono (t2.trans t3), gr3, h3, cl.mono ((t1.trans t2).trans t3)⟩, cw.mono (t1.trans t2)⟩, cw.mono t1⟩, cw⟩
def setD : D → D → D → Hd → (Hd → Prop) → Prop := fun o i v G Q => match o, i with
  | .ref a, .int k => ∃ xs, G a = some (.lst xs) ∧ ∃ j, ixN xs.length k = some j ∧ Q (st G a (.lst (xs.set j v)))
  | .ref a, .tup k => ∃ kvs ep, G a = some (.dit kvs ep) ∧ keyOk (.tup k) ∧ kvs.length < sizeLine ∧ ∀ ep', Q (st G a (.dit (putT kvs (.tup k) v) ep'))
  | _, _ => False
theorem psetd (hu : X.A.units + 9 < cLine) : PSet X (lift3 (kt X) setD) := by
  intro pins s σ H o i v ov iv u Q I ro ri rv ⟨d1, d2, d3, G, q, r1, r2, r3, gr, h, cl⟩
  unfold setD at h
  split at h
  · rename_i a k
    obtain ⟨xs, e, j, hj, h⟩ := h
    cases r1; cases r2
    obtain ⟨vs, ev, ra⟩ := gr.lst e
    have t : Tm (kt X) H (upd H a (.lst (vs.set j v))) := Tm.lst ev
    exact set_list pins s σ H _ _ v ov iv u Q I ro ri rv ⟨a, vs, k, j, rfl, rfl, ev, by rw [← ra.length]; exact hj, cl _ _ t (gr.set (u := .lst (xs.set j d3)) t ⟨_, upd_same, (ra.mono t).set (r3.mono t) j⟩) h⟩
  · obtain ⟨kvs, ep, e, ko, hl, h⟩ := h
    cases r1
    cases (show ov = Value.ref _ from ro)
    exact set_dit hu I ri rv r2 r3 gr e ko hl h cl
  · exact h.elim
end
end S

set_option Elab.async false
set_option linter.all false
set_option maxRecDepth 100000
set_option maxHeartbeats 4000000
namespace S
open PySem PySem.Spec L2
open PyProof.Rows hiding St
/-! ## built-ins by values -/
abbrev RCd := List D → Hd → Qd → Prop
def liftC (K : Kt) (r : RCd) : List V → Hp → VK → Prop := fun vs H Q => ∃ ds G q, Rps K H ds vs ∧ GR K G H ∧ r ds G q ∧ CQ K H Q q
def CalB (X : Cx) (f : Value) (r : RCd) : Prop := CallR X f (liftC (kt X) r)
def dBi (r : RCd) (t : TAd) : TEd := fun w σ G Q => t w σ G fun ds G1 => r ds G1 Q
theorem bi_read {K : Kt} {W : WX} {r : RCd} {t : TAd} (σ : St) (H : Hp) (Q : VK) (h : liftE K W (dBi r t) σ H Q) : tCB (liftC K r) (liftA K W t) σ H Q := by
  obtain ⟨σd, G, q, w, sr, gr, h, cl, cw⟩ := h
  exact ⟨σd, G, _, w, sr, gr, h, fun vs ds H1 G1 t1 gr1 r1 h1 => ⟨ds, G1, q, r1, gr1, h1, cl.mono t1⟩, cw⟩
section
variable {X : Cx} {e : Expr} {es : List Expr} {tes : TAd} {x : Str} {p pos : Pos} {r : RCd} {id T : String}
theorem de_bi (hc : CalB X (.builtin id) r) (hg : Gl X x) (hm : X.mg x = none) (hv : bootBuiltins x = some (.builtin id)) (ha : DA X (e :: es) tes) (hn : x ≠ "__name__") (hd : (x == ("__debug__" : Str)) = false) (hs : (e :: es).all unstarE = true) :
    DE X (.Call (.Name x p) (e :: es) [] pos) (dBi r tes) := fun W tk => by
  simp only [List.all_cons, Bool.and_eq_true] at hs
  exact PEi (pe_callB hc hg hm hv (ha W tk) hn hd (star_ok hs.1) (plain_ok hs.2)) bi_read
theorem de_bty (hc : CalB X (.type T) r) (hg : Gl X x) (hm : X.mg x = none) (hv : bootBuiltins x = some (.type T)) (ha : DA X (e :: es) tes) (hn : x ≠ "__name__") (hd : (x == ("__debug__" : Str)) = false) (hs : (e :: es).all unstarE = true) :
    DE X (.Call (.Name x p) (e :: es) [] pos) (dBi r tes) := fun W tk => by
  simp only [List.all_cons, Bool.and_eq_true] at hs
  exact PEi (pe_callTy hc hg hm hv (ha W tk) hn hd (star_ok hs.1) (plain_ok hs.2)) bi_read
end
theorem Rps.one {K : Kt} {H : Hp} {x : D} {vs : List V} (r : Rps K H [x] vs) : ∃ v, vs = [v] ∧ Rp K H x v := by
  cases r with
  | cons h r => cases r; exact ⟨_, rfl, h⟩
theorem Rps.two {K : Kt} {H : Hp} {x y : D} {vs : List V} (r : Rps K H [x, y] vs) : ∃ v u, vs = [v, u] ∧ Rp K H x v ∧ Rp K H y u := by
  cases r with
  | cons h r => obtain ⟨u, rfl, q⟩ := r.one; exact ⟨_, u, rfl, h, q⟩
theorem Rps.bls {K : Kt} {H : Hp} : ∀ {bs : List Bool} {vs : List V}, Rps K H (bs.map D.bl) vs → vs = bs.map V.bl
  | [], _, r => by cases r; rfl
  | b :: bs, _, r => by
    cases r with
    | cons h r => rw [h.bl_inv, Rps.bls r]; rfl
theorem Rps.ints {K : Kt} {H : Hp} : ∀ {ns : List Int} {vs : List V}, Rps K H (ns.map D.int) vs → vs = ns.map V.int
  | [], _, r => by cases r; rfl
  | b :: bs, _, r => by
    cases r with
    | cons h r => rw [h.int_inv, Rps.ints r]; rfl
theorem Rps.nil_inv {K : Kt} {H : Hp} {vs : List V} (r : Rps K H [] vs) : vs = [] := by cases r; rfl
theorem KvR.length {K : Kt} {H : Hp} : ∀ {a : List (D × D)} {b : List (Key × V)}, KvR K H a b → a.length = b.length
  | _, _, .nil => rfl
  | _, _, .cons _ r => by simp [KvR.length r]
section
variable {X : Cx}
def lenG (G : Hd) (a : Addr) (n : Nat) : Prop := (∃ xs, seqG G a xs ∧ n = xs.length) ∨ ∃ kvs, G a = some (.dic kvs) ∧ n = kvs.length
def lenD : RCd := fun ds G Q => match ds with
  | [.str z] => z.length ≤ sizeLine ∧ Q (.int z.length) G
  | [.tup xs] => Q (.int xs.length) G
  | [.rl xs] => Q (.int xs.length) G
  | [.ref a] => ∃ n, lenG G a n ∧ Q (.int n) G
  | _ => False
theorem bd_len : CalB X (.builtin "len") lenD := by
  intro pins s σ H vs us Q I r ⟨ds, G, q, rs, gr, h, cl⟩
  unfold lenD at h
  split at h
  · obtain ⟨v, rfl, r1⟩ := rs.one
    cases r1
    exact call_len_str pins s σ H _ us Q I r ⟨_, rfl, h.1, cl _ _ _ _ Tm.refl gr (.int _) h.2⟩
  · obtain ⟨v, rfl, r1⟩ := rs.one
    obtain ⟨a, vs, rfl, sa, ra⟩ := r1.tup_inv
    exact call_len_seq pins s σ H _ us Q I r ⟨a, vs, rfl, .inr sa, cl _ _ _ _ Tm.refl gr (.int _) (by rw [← ra.length]; exact h)⟩
  · obtain ⟨v, rfl, r1⟩ := rs.one
    obtain ⟨a, vs, rfl, sa, ra⟩ := r1.rl_inv
    exact call_len_seq pins s σ H _ us Q I r ⟨a, vs, rfl, .inl sa.sq, cl _ _ _ _ Tm.refl gr (.int _) (by rw [← ra.length]; exact h)⟩
  · obtain ⟨v, rfl, r1⟩ := rs.one
    cases r1
    obtain ⟨n, hn, h⟩ := h
    rcases hn with ⟨xs, sq, rfl⟩ | ⟨kvs, e, rfl⟩
    · obtain ⟨vs, sa, ra⟩ := seq_of gr sq
      exact call_len_seq pins s σ H _ us Q I r ⟨_, vs, rfl, .inl sa, cl _ _ _ _ Tm.refl gr (.int _) (by rw [← ra.length]; exact h)⟩
    · obtain ⟨vs, sa, ra⟩ := gr _ _ e
      exact call_lenD pins s σ H _ us Q I r ⟨_, vs, rfl, sa, cl _ _ _ _ Tm.refl gr (.int _) (by rw [← ra.length]; exact h)⟩
  · exact h.elim
/-- a value's built-in type, where it has one -/
inductive TyG (G : Hd) : D → String → Prop
  | non : TyG G .non "NoneType"
  | bl (b : Bool) : TyG G (.bl b) "bool"
  | int (i : Int) : TyG G (.int i) "int"
  | str (x : Str) : TyG G (.str x) "str"
  | tup (xs : List D) : TyG G (.tup xs) "tuple"
  | lst {a : Addr} {xs : List D} : seqG G a xs → TyG G (.ref a) "list"
  | dic {a : Addr} {kvs : List (D × D)} : G a = some (.dic kvs) → TyG G (.ref a) "dict"
def isT (t n : String) : Bool := t == n || (t == "bool" && n == "int")
def tyNames : List String := ["NoneType", "bool", "int", "str", "tuple", "list", "dict"]
theorem kit_all : ∀ t ∈ tyNames, ∀ n ∈ tyNames, kitB t n = some (isT t n) := by decide +kernel
theorem TyG.mem {G : Hd} {x : D} {t : String} (h : TyG G x t) : t ∈ tyNames := by cases h <;> decide
theorem TyG.tyX {K : Kt} {H : Hp} {G : Hd} {x : D} {t : String} {v : V} (g : GR K G H) (h : TyG G x t) (r : Rp K H x v) : TyX K H v (.type t) := by
  cases h with
  | non => cases r; exact .base .non
  | bl b => cases r; exact .base (.bl b)
  | int i => cases r; exact .base (.int i)
  | str x => cases r; exact .base (.str x)
  | tup xs =>
    obtain ⟨a, vs, rfl, sa, ra⟩ := r.tup_inv
    rcases sa with (sa | ⟨o, sa⟩) | ⟨o, its, n, e, c, _⟩
    · exact .base (.tup sa)
    · exact .fTuple sa
    · exact .kTuple e c
  | lst sq =>
    cases r
    rcases sq with e | e
    · obtain ⟨vs, e, _⟩ := g _ _ e; exact .base (.lst e)
    · obtain ⟨o, vs, e, _⟩ := g _ _ e; exact .base (.frz e)
  | dic e =>
    cases r
    obtain ⟨vs, e, _⟩ := g _ _ e; exact .base (.dK e)
def tyS (G : Hd) : D → Option String
  | .non => some "NoneType"
  | .bl _ => some "bool"
  | .int _ => some "int"
  | .str _ => some "str"
  | .tup _ => some "tuple"
  | .ref a => match G a with
    | some (.lst _) => some "list"
    | some (.rol _) => some "list"
    | some (.dic _) => some "dict"
    | _ => none
  | _ => none
theorem tyS_ok {G : Hd} {x : D} {t : String} (h : tyS G x = some t) : TyG G x t := by
  unfold tyS at h
  split at h
  any_goals (first | (cases h; constructor) | (cases h))
  rename_i a
  split at h
  · rename_i xs e; cases h; exact .lst (.inl e)
  · rename_i xs e; cases h; exact .lst (.inr e)
  · rename_i xs e; cases h; exact .dic e
  · cases h
def Kn (G : Hd) (x : D) : Prop := (tyS G x).isSome = true
def isD (G : Hd) (x : D) (n : String) : Bool := isT ((tyS G x).getD "") n
theorem Kn.ty {G : Hd} {x : D} (h : Kn G x) : ∃ t, TyG G x t ∧ ∀ n, isD G x n = isT t n := by
  obtain ⟨t, e⟩ := Option.isSome_iff_exists.mp h
  exact ⟨t, tyS_ok e, fun n => by unfold isD; rw [e]; rfl⟩
def tyIn : D → Bool
  | .ty n => tyNames.contains n
  | _ => false
def isDc (G : Hd) (x : D) : D → Bool
  | .ty n => isD G x n
  | _ => false
def isiD : RCd := fun ds G Q => match ds with
  | [x, .ty n] => Kn G x ∧ tyNames.contains n = true ∧ Q (.bl (isD G x n)) G
  | [x, .tup cs] => Kn G x ∧ cs.all tyIn = true ∧ Q (.bl (cs.any (isDc G x))) G
  | _ => False
theorem tys_of : ∀ {cs : List D}, cs.all tyIn = true → ∃ ns : List String, cs = ns.map D.ty ∧ ∀ n ∈ ns, n ∈ tyNames
  | [], _ => ⟨[], rfl, fun _ h => by cases h⟩
  | c :: cs, h => by
    simp only [List.all_cons, Bool.and_eq_true] at h
    obtain ⟨ns, rfl, hn⟩ := tys_of h.2
    cases c with
    | ty n => exact ⟨n :: ns, rfl, fun m hm => by
        rcases List.mem_cons.mp hm with e | hm
        · rw [e]; simpa [tyIn] using h.1
        · exact hn m hm⟩
    | _ => exact absurd h.1 (by simp [tyIn])
theorem Rps.tys {K : Kt} {H : Hp} : ∀ {ns : List String} {vs : List V}, Rps K H (ns.map D.ty) vs → vs = ns.map V.ty
  | [], _, r => by cases r; rfl
  | b :: bs, _, r => by
    cases r with
    | cons h r => cases h; rw [Rps.tys r]; rfl
theorem paired_tys : ∀ ns : List String, Paired ClsV (ns.map V.ty) (ns.map Value.type)
  | [] => .nil
  | n :: ns => .cons (.ty n) (paired_tys ns)
theorem kitAny_tys {K : Kt} {t : String} (ht : t ∈ tyNames) : ∀ {ns : List String}, (∀ n ∈ ns, n ∈ tyNames) → PySem.W.kitAny K (.type t) (ns.map Value.type) = some (ns.any fun n => isT t n)
  | [], _ => rfl
  | n :: ns, h => by
    have e := kit_ty (K := K) (kit_all t ht n (h n List.mem_cons_self))
    refine kitAny_cons e (fun hb => ?_) fun hb => ?_
    · rw [kitAny_tys ht fun m hm => h m (List.mem_cons_of_mem _ hm)]; simp [List.any_cons, hb]
    · simp [List.any_cons, hb]
theorem bd_isi : CalB X (.builtin "isinstance") isiD := by
  intro pins s σ H vs us Q I r ⟨ds, G, q, rs, gr, h, cl⟩
  unfold isiD at h
  split at h
  · obtain ⟨v, u, rfl, r1, r2⟩ := rs.two
    cases r2
    obtain ⟨hk, hn, h⟩ := h
    obtain ⟨t, ht, hi⟩ := hk.ty
    rw [hi] at h
    replace hn := List.contains_iff_mem.mp hn
    exact call_isi pins s σ H _ us Q I r ⟨v, _, _, _, _, rfl, .ty _, ht.tyX gr r1, kit_ty (kit_all t ht.mem _ hn), cl _ _ _ _ Tm.refl gr (.bl _) h⟩
  · obtain ⟨v, u, rfl, r1, r2⟩ := rs.two
    obtain ⟨hk, hc, h⟩ := h
    obtain ⟨t, ht, hi⟩ := hk.ty
    obtain ⟨ns, rfl, hn⟩ := tys_of hc
    rw [List.any_map, show (isDc G _ ∘ D.ty) = fun n => isT t n from funext hi] at h
    obtain ⟨a, vs, rfl, sa, ra⟩ := r2.tup_inv
    cases ra.tys
    have hk := kitAny_tys (K := (kt X)) ht.mem hn
    obtain ⟨u1, u2, rfl, q1, q2⟩ := vals2 r
    cases (show u2 = Value.ref a from q2)
    obtain ⟨P, Z, p, hx⟩ := kit_of I q1 (ht.tyX gr r1)
    obtain ⟨its, rv, ⟨o, h1, h2, n, h3⟩, _⟩ := I.tuple sa
    have e3 := ClsV.all (paired_tys ns) rv
    subst e3
    obtain ⟨oc, od, dt, sl⟩ := o
    simp only at h2 h3
    subst h2 h3
    exact PySem.W.kia_tup Z I.kIn p h1 hk hx fun tk => ⟨.bl _, H, I.tok tk, rfl, cl _ _ _ _ Tm.refl gr (.bl _) h⟩
  · exact h.elim

def listD : RCd := fun ds G Q => match ds with
  | [.tup xs] => xs.length ≤ sizeLine ∧ ∀ p, G p = none → Q (.ref p) (st G p (.lst xs))
  | [.ref a] => ∃ xs, seqG G a xs ∧ ∀ p, G p = none → Q (.ref p) (st G p (.lst xs))
  | _ => False
theorem bd_list : CalB X (.type "list") listD := by
  intro pins s σ H vs us Q I r ⟨ds, G, q, rs, gr, h, cl⟩
  unfold listD at h
  split at h
  · obtain ⟨v, rfl, r1⟩ := rs.one
    obtain ⟨a, vs, rfl, sa, ra⟩ := r1.tup_inv
    exact call_list_of pins s σ H _ us Q I r ⟨a, vs, rfl, .inr sa, fun p hp => cl _ _ _ _ (Tm.new hp) (gr.new (u := .lst _) hp ⟨_, upd_same, ra.mono (Tm.new hp)⟩) (.ref p) (h.2 p (gr.free hp))⟩
  · obtain ⟨v, rfl, r1⟩ := rs.one
    cases r1
    obtain ⟨xs, sq, h⟩ := h
    obtain ⟨vs, sa, ra⟩ := seq_of gr sq
    exact call_list_of pins s σ H _ us Q I r ⟨_, vs, rfl, .inl sa, fun p hp => cl _ _ _ _ (Tm.new hp) (gr.new (u := .lst _) hp ⟨_, upd_same, ra.mono (Tm.new hp)⟩) (.ref p) (h p (gr.free hp))⟩
  · exact h.elim
def tupleD : RCd := fun ds G Q => match ds with
  | [.tup xs] => Q (.tup xs) G
  | [.ref a] => ∃ xs, seqG G a xs ∧ Q (.tup xs) G
  | _ => False
theorem bd_tuple : CalB X (.type "tuple") tupleD := by
  intro pins s σ H vs us Q I r ⟨ds, G, q, rs, gr, h, cl⟩
  unfold tupleD at h
  split at h
  · obtain ⟨v, rfl, r1⟩ := rs.one
    obtain ⟨a, vs, rfl, sa, ra⟩ := r1.tup_inv
    exact call_tuple_of pins s σ H _ us Q I r ⟨a, vs, rfl, .inr ⟨sa, cl _ _ _ _ Tm.refl gr (.tup sa ra) h⟩⟩
  · obtain ⟨v, rfl, r1⟩ := rs.one
    cases r1
    obtain ⟨xs, sq, h⟩ := h
    obtain ⟨vs, sa, ra⟩ := seq_of gr sq
    exact call_tuple_of pins s σ H _ us Q I r ⟨_, vs, rfl, .inl ⟨sa, fun p hp => cl _ _ _ _ (Tm.new hp) (gr.keep hp) (.tup (.inl (.inl upd_same)) (ra.mono (Tm.new hp))) h⟩⟩
  · exact h.elim
def allD : RCd := fun ds G Q => match ds with
  | [.ref a] => ∃ bs : List Bool, seqG G a (bs.map D.bl) ∧ Q (.bl (bs.all id)) G
  | _ => False
theorem bd_all (hc : X.calm = true) : CalB X (.builtin "all") allD := by
  intro pins s σ H vs us Q I r ⟨ds, G, q, rs, gr, h, cl⟩
  unfold allD at h
  split at h
  · obtain ⟨v, rfl, r1⟩ := rs.one
    cases r1
    obtain ⟨bs, sq, h⟩ := h
    obtain ⟨vs, sa, ra⟩ := seq_of gr sq
    rw [ra.bls] at sa
    exact cr_all hc pins s σ H _ us Q I r ⟨_, bs, rfl, sa, cl _ _ _ _ Tm.refl gr (.bl _) h⟩
  · exact h.elim
def anyD : RCd := fun ds G Q => match ds with
  | [.ref a] => ∃ bs : List Bool, seqG G a (bs.map D.bl) ∧ Q (.bl (bs.any id)) G
  | _ => False
theorem bd_any (hc : X.calm = true) : CalB X (.builtin "any") anyD := by
  intro pins s σ H vs us Q I r ⟨ds, G, q, rs, gr, h, cl⟩
  unfold anyD at h
  split at h
  · obtain ⟨v, rfl, r1⟩ := rs.one
    cases r1
    obtain ⟨bs, sq, h⟩ := h
    obtain ⟨vs, sa, ra⟩ := seq_of gr sq
    rw [ra.bls] at sa
    exact cr_any hc pins s σ H _ us Q I r ⟨_, bs, rfl, sa, cl _ _ _ _ Tm.refl gr (.bl _) h⟩
  · exact h.elim
def sumD : RCd := fun ds G Q => match ds with
  | [.ref a] => ∃ ns : List Int, seqG G a (ns.map D.int) ∧ Q (.int ns.sum) G
  | _ => False
theorem bd_sum (hc : X.calm = true) : CalB X (.builtin "sum") sumD := by
  intro pins s σ H vs us Q I r ⟨ds, G, q, rs, gr, h, cl⟩
  unfold sumD at h
  split at h
  · obtain ⟨v, rfl, r1⟩ := rs.one
    cases r1
    obtain ⟨bs, sq, h⟩ := h
    obtain ⟨vs, sa, ra⟩ := seq_of gr sq
    rw [ra.ints] at sa
    exact cr_sum hc pins s σ H _ us Q I r ⟨_, bs, rfl, sa, cl _ _ _ _ Tm.refl gr (.int _) h⟩
  · exact h.elim
def maxD : RCd := fun ds G Q => match ds with
  | [.int i, .int j] => Q (.int (max i j)) G
  | [.ref a] => ∃ ns : List Int, seqG G a (ns.map D.int) ∧ 0 < ns.length ∧ ∀ m, m ∈ ns → (∀ y, y ∈ ns → y ≤ m) → Q (.int m) G
  | _ => False
theorem bd_max (hc : X.calm = true) : CalB X (.builtin "max") maxD := by
  intro pins s σ H vs us Q I r ⟨ds, G, q, rs, gr, h, cl⟩
  unfold maxD at h
  split at h
  · obtain ⟨v, u, rfl, r1, r2⟩ := rs.two
    cases r1; cases r2
    refine call_max2 hc pins s σ H _ us Q I r ⟨_, _, rfl, cl _ _ _ _ Tm.refl gr (.int _) ?_⟩
    rename_i i j
    have e : (if j > i then j else i) = max i j := by rw [Int.max_def]; split <;> split <;> omega
    rw [e]; exact h
  · obtain ⟨v, rfl, r1⟩ := rs.one
    cases r1
    obtain ⟨ns, sq, hp, h⟩ := h
    obtain ⟨vs, sa, ra⟩ := seq_of gr sq
    rw [ra.ints] at sa
    exact cr_max hc pins s σ H _ us Q I r ⟨_, ns, rfl, sa, hp, fun m m1 m2 => cl _ _ _ _ Tm.refl gr (.int _) (h m m1 m2)⟩
  · exact h.elim
def minD : RCd := fun ds G Q => match ds with
  | [.int i, .int j] => Q (.int (min i j)) G
  | [.ref a] => ∃ ns : List Int, seqG G a (ns.map D.int) ∧ 0 < ns.length ∧ ∀ m, m ∈ ns → (∀ y, y ∈ ns → m ≤ y) → Q (.int m) G
  | _ => False
theorem bd_min (hc : X.calm = true) : CalB X (.builtin "min") minD := by
  intro pins s σ H vs us Q I r ⟨ds, G, q, rs, gr, h, cl⟩
  unfold minD at h
  split at h
  · obtain ⟨v, u, rfl, r1, r2⟩ := rs.two
    cases r1; cases r2
    refine call_min2 hc pins s σ H _ us Q I r ⟨_, _, rfl, cl _ _ _ _ Tm.refl gr (.int _) ?_⟩
    rename_i i j
    have e : (if j < i then j else i) = min i j := by rw [Int.min_def]; split <;> split <;> omega
    rw [e]; exact h
  · obtain ⟨v, rfl, r1⟩ := rs.one
    cases r1
    obtain ⟨ns, sq, hp, h⟩ := h
    obtain ⟨vs, sa, ra⟩ := seq_of gr sq
    rw [ra.ints] at sa
    exact cr_min hc pins s σ H _ us Q I r ⟨_, ns, rfl, sa, hp, fun m m1 m2 => cl _ _ _ _ Tm.refl gr (.int _) (h m m1 m2)⟩
  · exact h.elim
def absD : RCd := fun ds G Q => match ds with
  | [.int i] => Q (.int (i.natAbs : Int)) G
  | _ => False
theorem bd_abs : CalB X (.builtin "abs") absD := by
  intro pins s σ H vs us Q I r ⟨ds, G, q, rs, gr, h, cl⟩
  unfold absD at h
  split at h
  · obtain ⟨v, rfl, r1⟩ := rs.one
    cases r1
    refine call_abs pins s σ H _ us Q I r ⟨_, rfl, cl _ _ _ _ Tm.refl gr (.int _) ?_⟩
    rename_i i
    have e : (if i < 0 then -i else i) = (i.natAbs : Int) := by split <;> omega
    rw [e]; exact h
  · exact h.elim
def intBD : RCd := fun ds G Q => match ds with
  | [.int i] => Q (.int i) G
  | [.bl b] => Q (.int (if b then 1 else 0)) G
  | _ => False
theorem bd_int : CalB X (.type "int") intBD := by
  intro pins s σ H vs us Q I r ⟨ds, G, q, rs, gr, h, cl⟩
  unfold intBD at h
  split at h
  · obtain ⟨v, rfl, r1⟩ := rs.one
    cases r1
    exact call_int1 pins s σ H _ us Q I r (.inl ⟨_, rfl, cl _ _ _ _ Tm.refl gr (.int _) h⟩)
  · obtain ⟨v, rfl, r1⟩ := rs.one
    cases r1
    exact call_int1 pins s σ H _ us Q I r (.inr ⟨_, rfl, cl _ _ _ _ Tm.refl gr (.int _) h⟩)
  · exact h.elim
/-! sorted -/
def srt (xs : List D) : List D := xs.mergeSort (PySem.W.dataLe false toPy)
/-- told data without lists, alike at each place: it can be sorted -/
structure SrtOk (G : Hd) (xs : List D) : Prop where
  dd : Dds G xs xs
  ok : okDs xs = true
  dp : deps xs ≤ 50
  al : ∀ x ∈ xs, ∀ y ∈ xs, PySem.W.alike (toPy x) (toPy y) = true
  st : (∀ x ∈ xs, ∃ y r, x = .tup (y :: r)) ∨ ∀ x ∈ xs, ∃ i, x = .int i
  len : xs.length ≤ sizeLine
def sortedD : RCd := fun ds G Q => match ds with
  | [.ref a] => ∃ xs, seqG G a xs ∧ SrtOk G xs ∧ ∀ p, G p = none → Q (.ref p) (st G p (.lst (srt xs)))
  | _ => False
theorem okDs_mem : ∀ {xs : List D}, okDs xs = true → ∀ x ∈ xs, okD x = true
  | [], _, _, h => by cases h
  | x :: xs, h, y, hy => by
    simp only [okDs, Bool.and_eq_true] at h
    rcases List.mem_cons.mp hy with rfl | hy
    · exact h.1
    · exact okDs_mem h.2 y hy
theorem deps_mem : ∀ {xs : List D}, ∀ x ∈ xs, dep x ≤ deps xs
  | [], _, h => by cases h
  | x :: xs, y, hy => by
    simp only [deps]
    rcases List.mem_cons.mp hy with rfl | hy
    · exact Nat.le_max_left _ _
    · exact Nat.le_trans (deps_mem y hy) (Nat.le_max_right _ _)
theorem map_toPys : ∀ xs : List D, xs.map toPy = toPys xs
  | [] => rfl
  | x :: xs => by simp [toPys, map_toPys xs]
theorem each_rp {K : Kt} {H : Hp} : ∀ {xs : List D} {ws : List V} {its : List Value}, Rps K H xs ws → Vals ws its → PySem.W.EachIs (fun u x => ∃ v, Rp K H x v ∧ RelV v u) its xs
  | _, _, _, .nil, q => by cases q; exact .nil
  | _, _, _, .cons h r, q => by cases q with | cons q qs => exact .cons ⟨_, h, q⟩ (each_rp r qs)
theorem each_reads {G : Hd} {pins : List (Addr × Obj)} {s : Shared} {σ : St} {H : Hp} (I : L2.Inv X pins σ H s) (gr : GR (kt X) G H) : ∀ {xs : List D} {ws : List V} {its : List Value}, Rps (kt X) H xs ws → Vals ws its → Dds G xs xs → PySem.W.EachIs (fun u x => ∃ as, Reads s.heap u (toPy x) as) its xs
  | _, _, _, .nil, q, _ => by cases q; exact .nil
  | _, _, _, .cons h r, q, d => by
    cases q with
    | cons q qs =>
      cases d with
      | cons d ds => exact .cons (Dp.reads I _ _ _ (d.dp gr h) q) (each_reads I gr r qs ds)
theorem each_back {K : Kt} {H : Hp} : ∀ {out : List Value} {ys : List D}, PySem.W.EachIs (fun u x => ∃ v, Rp K H x v ∧ RelV v u) out ys → ∃ vs, Rps K H ys vs ∧ Vals vs out
  | _, _, .nil => ⟨[], .nil, .nil⟩
  | _, _, .cons ⟨v, h1, h2⟩ e => by
    obtain ⟨vs, h3, h4⟩ := each_back e
    exact ⟨v :: vs, .cons h1 h3, .cons h2 h4⟩
theorem bd_sorted (hu : X.A.units + 65 < cLine) : CalB X (.builtin "sorted") sortedD := by
  intro pins s σ H vs us Q I r ⟨ds, G, q, rs, gr, h, cl⟩
  unfold sortedD at h
  split at h
  · obtain ⟨v, rfl, r1⟩ := rs.one
    cases r1
    obtain ⟨xs, sq, so, h⟩ := h
    obtain ⟨ws, sa, ra⟩ := seq_of gr sq
    obtain ⟨its, rv, hl, _⟩ := I.list sa
    rw [Vals.ref1 r]
    have hal : PySem.W.AllAlike (xs.map toPy) := by
      intro d hd d' hd'
      obtain ⟨x, hx, rfl⟩ := List.mem_map.mp hd
      obtain ⟨y, hy, rfl⟩ := List.mem_map.mp hd'
      exact so.al x hx y hy
    have hk : PySem.W.Sortable (xs.map toPy) := by
      rcases so.st with h | h
      · refine .inl fun d hd => ?_
        obtain ⟨x, hx, rfl⟩ := List.mem_map.mp hd
        obtain ⟨y, r, rfl⟩ := h x hx
        exact ⟨_, _, rfl⟩
      · refine .inr fun d hd => ?_
        obtain ⟨x, hx, rfl⟩ := List.mem_map.mp hd
        obtain ⟨i, rfl⟩ := h x hx
        exact ⟨fun z => (by cases z), fun _ z => (by cases z)⟩
    have hel := ra.length
    refine PySem.W.sorted_data (bs := xs) (enc := toPy) (R := fun u x => ∃ v, Rp (kt X) H x v ∧ RelV v u) (vs := its) (by simpa using hl.isList) (each_rp ra rv) (each_reads I gr ra rv so.dd) hal hk so.len (fun b hb => ?_) fun out lo eo => ?_
    · have h1 := py_depth b
      have h2 := deps_mem b hb
      have h3 := so.dp
      omega
    · obtain ⟨ep, he'⟩ := PyProof.Rows.sortedAll_at s.heap its out.toArray
      obtain ⟨vs, h1, h2⟩ := each_back eo
      have hn := I.hok.fresh (Nat.le_succ s.heap.objs.size)
      have hlen : vs.length ≤ sizeLine := by
        rw [← h1.length, List.length_mergeSort]; exact so.len
      refine ⟨.ref _, upd H (s.heap.objs.size + 1) (.lst vs), I.laid (t' := s.toks) (fun _ _ => PyProof.Rows.sortedAll_old) (Nat.le_succ _) ⟨hlen, out, ep, h2, by simpa using he'⟩, rfl, ?_⟩
      exact cl _ _ _ _ (Tm.new hn) (gr.new (u := .lst (srt xs)) hn ⟨_, upd_same, h1.mono (Tm.new hn)⟩) (.ref _) (h _ (gr.free hn))
  · exact h.elim
/-! ## built-in methods -/
abbrev RMd := D → List D → Hd → Qd → Prop
def liftM (K : Kt) (r : RMd) : V → List V → Hp → VK → Prop := fun x vs H Q => ∃ dx ds G q, Rp K H dx x ∧ Rps K H ds vs ∧ GR K G H ∧ r dx ds G q ∧ CQ K H Q q
def tyD (T : String) (x : D) (G : Hd) : Prop := match x with
  | .ref a => (T = "list" ∧ ∃ xs, seqG G a xs) ∨ (T = "dict" ∧ ∃ kvs, G a = some (.dic kvs))
  | .str _ => T = "str"
  | _ => False
theorem tyD_v {K : Kt} {T : String} {x : D} {v : V} {G : Hd} {H : Hp} (g : GR K G H) (r : Rp K H x v) (h : tyD T x G) : tyV K T v H := by
  unfold tyD at h
  split at h
  · cases r
    rcases h with ⟨rfl, xs, sq⟩ | ⟨rfl, kvs, e⟩
    · obtain ⟨vs, sa, _⟩ := seq_of g sq; exact .inl ⟨rfl, vs, sa⟩
    · obtain ⟨vs, sa, _⟩ := g _ _ e; exact .inr (.inr (.inl ⟨rfl, .inl ⟨vs, sa⟩⟩))
  · cases r; exact h
  · exact h.elim
def dBm (T : String) (r : RMd) (te : TEd) (t : TAd) : TEd := fun w σ G Q => te w σ G fun x G1 => tyD T x G1 ∧ t w σ G1 fun ds G2 => r x ds G2 Q
def dBm0 (T : String) (r : RMd) (te : TEd) : TEd := fun w σ G Q => te w σ G fun x G1 => tyD T x G1 ∧ r x [] G1 Q
section
variable {o e : Expr} {es : List Expr} {to : TEd} {tes : TAd} {name : Str} {apos cpos : Pos} {T id : String} {r : RMd}
theorem de_bm (pa : PlainAttrs T) (slot : Slot T name id) (hty : typeOf (.builtin id) = pure (.type "method_descriptor")) (hm : MtM X id (liftM (kt X) r)) (ho : DE X o to) (ha : DA X (e :: es) tes)
    (hbase : attributeBase o name X.env (eval o X.env) = eval o X.env) (hline : (apos.endLine == cpos.line) = true) (hs : (e :: es).all unstarE = true)
    (hfew : ((backTo cpos (starEach (e :: es) X.env)).all (fun x => !x.1) && (backToKw cpos (keywordEach [] X.env)).all (fun x => x.1.isSome)
      && decide ((e :: es).length + ([] : List Keyword).length + (if ([] : List Keyword).isEmpty then 0 else 1) < 30)) = true) : DE X (.Call (.Attribute o name apos) (e :: es) [] cpos) (dBm T r to tes) := fun W tk => by
  simp only [List.all_cons, Bool.and_eq_true] at hs
  refine PEi (pe_bm pa slot hty hm (ho W tk) (ha W tk) hbase hfew hline (star_ok hs.1) (plain_ok hs.2)) fun σ H Q ⟨σd, G, q, w, sr, gr, h, cl, cw⟩ => ?_
  exact ⟨σd, G, _, w, sr, gr, h, fun v d H1 G1 t1 gr1 r1 ⟨ty, h1⟩ => ⟨tyD_v gr1 r1 ty, σd, G1, _, w, sr.mono t1, gr1, h1, fun vs ds H2 G2 t2 gr2 r2 h2 =>
    ⟨d, ds, G2, q, r1.mono t2, r2, gr2, h2, cl.mono (t1.trans t2)⟩, cw.mono t1⟩, cw⟩
theorem de_bm0 (pa : PlainAttrs T) (slot : Slot T name id) (hty : typeOf (.builtin id) = pure (.type "method_descriptor")) (hm : MtR X id (liftM (kt X) r)) (ho : DE X o to)
    (hbase : attributeBase o name X.env (eval o X.env) = eval o X.env) (hline : (apos.endLine == cpos.line) = true) : DE X (.Call (.Attribute o name apos) [] [] cpos) (dBm0 T r to) := fun W tk => by
  refine PEi (pe_bm0 pa slot hty hm (ho W tk) hbase hline) fun σ H Q ⟨σd, G, q, w, sr, gr, h, cl, cw⟩ => ?_
  exact ⟨σd, G, _, w, sr, gr, h, fun v d H1 G1 t1 gr1 r1 ⟨ty, h1⟩ => ⟨tyD_v gr1 r1 ty, d, [], G1, q, r1, .nil, gr1, h1, cl.mono t1⟩, cw⟩
end
theorem few_ok {env : Env} {cpos : Pos} {e : Expr} {es : List Expr} (hs : (e :: es).all unstarE = true) (hl : es.length < 20) : ((backTo cpos (starEach (e :: es) env)).all (fun x => !x.1) && (backToKw cpos (keywordEach [] env)).all (fun x => x.1.isSome)
      && decide ((e :: es).length + ([] : List Keyword).length + (if ([] : List Keyword).isEmpty then 0 else 1) < 30)) = true := by
  have h1 := plain_ok (pos := cpos) (env := env) hs
  rw [Bool.and_eq_true, Bool.and_eq_true]
  refine ⟨⟨?_, rfl⟩, decide_eq_true ?_⟩
  · rw [List.all_eq_true]
    intro y hy
    have := (List.any_eq_false.mp h1) y hy
    simpa using this
  · simp only [List.length_cons, List.length_nil, List.isEmpty_nil, if_true]; omega
def appendD : RMd := fun x ds G Q => match x, ds with
  | .ref a, [y] => ∃ xs, G a = some (.lst xs) ∧ xs.length < sizeLine ∧ Q .non (st G a (.lst (xs ++ [y])))
  | _, _ => False
theorem md_append : MtM X "list.append" (liftM (kt X) appendD) := by
  intro pins s σ H x vs v us Q I rx rv ⟨dx, ds, G, q, r1, rs, gr, h, cl⟩
  unfold appendD at h
  split at h
  · obtain ⟨xs, e, hl, h⟩ := h
    cases r1
    obtain ⟨y, rfl, ry⟩ := rs.one
    obtain ⟨zs, ez, rz⟩ := gr.lst e
    have t : Tm (kt X) H (upd H _ (.lst (zs ++ [y]))) := Tm.lst ez
    exact mt_append pins s σ H _ _ v us Q I rx rv ⟨_, zs, y, rfl, rfl, ez, by rw [← rz.length]; exact hl, cl _ _ _ _ t (gr.set (u := .lst _) t ⟨_, upd_same, (rz.mono t).append (.cons (ry.mono t) .nil)⟩) .non h⟩
  · exact h.elim
theorem list_extend_tup (l : Addr) (items : Array Value) (n : Nat) (b : Addr) (items2 : Array Value) (n2 : Nat) (dd : Option Addr) (sl : Array (Option Value)) (hs0 : ¬(!items.isEmpty && Builtin.List.listTooLong (items.size + items2.size)) = true) (hs1 : items.size ≤ sizeLine) (hs2 : items.size + items2.size ≤ sizeLine + 1) :
    Meets (Builtin.«list.extend» ⟨[.ref l, .ref b], []⟩) (fun _ R s => s.heap.get? l = some { cls := .type "list", dict := none, data := .seq items n, slots := #[] } ∧ s.heap.get? b = some { cls := .type "tuple", dict := dd, data := .seq items2 n2, slots := sl } ∧ R (.ok (.ret Value.none)) { s with heap := s.heap.update l (Obj.mapSeq fun x => x ++ items2), toks := s.toks }) :=
  .of_wp fun prog w A R s h => by
    obtain ⟨hp, g, d, tk, os⟩ := s; obtain ⟨hl, hb, h⟩ := h; have f1 := AutoSeq1.idx_int; have f2 := AutoSeq1.sub_tuple_tuple; have f3 := AutoSeq1.sub_list_list; have f4 := AutoSeq1.sub_tuple_list; have f5 := AutoSeq1.sub_list_tuple;
    have hz' : (items ++ items2).size ≤ sizeLine + 1 := by rw [Array.size_append]; exact hs2
    wp_walk using (wpAny_updateSeq hl rfl (hz := hs1) (_hz' := hz')), AutoSeq1.wpAny_loadPart' hl, AutoSeq1.wpAny_loadPart' hb; exact ⟨_, rfl, h⟩
def rExtendT (K : PySem.W.Frag) : V → List V → Hp → VK → Prop := fun x vs H Q => ∃ l b xs zs, x = .ref l ∧ vs = [.ref b] ∧ H l = some (.lst xs) ∧ SqT K H b zs ∧ xs.length + zs.length ≤ sizeLine ∧ Q .non (upd H l (.lst (xs ++ zs)))
theorem mt_extendT : MtM X "list.extend" (rExtendT X.K) := by
  intro pins s σ H x vs v us Q I rx rv h
  obtain ⟨l, b, xs, zs, rfl, rfl, hH, hB, hz, q⟩ := h
  cases rx
  obtain ⟨u, rfl, ru⟩ := rv.one
  cases ru
  obtain ⟨z, its, n, r, hl, e⟩ := I.lstM hH
  obtain ⟨its2, r2, ⟨o2, ho2, hc2, n2, hd2⟩, hl2⟩ := I.tuple hB
  obtain ⟨c2, dd, da, sl⟩ := o2
  cases hc2
  cases hd2
  have hl3 := r2.length
  have hsz : its.toArray.size + its2.toArray.size ≤ sizeLine := by rw [List.size_toArray, List.size_toArray]; omega
  have hlong : ¬ (!its.toArray.isEmpty && Builtin.List.listTooLong (its.toArray.size + its2.toArray.size)) = true := by
    rw [notLongL hsz, Bool.and_false]
    exact Bool.false_ne_true
  refine call_meets F.slot_list_extend ⟨_, e, rfl⟩ F.entry_list_extend (F.args_list_extend_2 _ _)
    (list_extend_tup l its.toArray n b its2.toArray n2 dd sl hlong (by rw [List.size_toArray]; omega) (by omega)) ⟨e, ho2, ?_⟩
  refine ⟨.non, _, I.lset (its' := its ++ its2) hH e (by simp) (r.append r2) ?_, rfl, q⟩
  rw [List.length_append]
  omega
def extendD : RMd := fun x ds G Q => match x, ds with
  | .ref a, [.ref b] => ∃ xs, G a = some (.lst xs) ∧ ∃ ys, G b = some (.lst ys) ∧ xs.length + ys.length ≤ sizeLine ∧ Q .non (st G a (.lst (xs ++ ys)))
  | .ref a, [.tup ys] => ∃ xs, G a = some (.lst xs) ∧ xs.length + ys.length ≤ sizeLine ∧ Q .non (st G a (.lst (xs ++ ys)))
  | _, _ => False
theorem md_extend : MtM X "list.extend" (liftM (kt X) extendD) := by
  intro pins s σ H x vs v us Q I rx rv ⟨dx, ds, G, q, r1, rs, gr, h, cl⟩
  unfold extendD at h
  split at h
  · obtain ⟨xs, e, ys, e2, hl, h⟩ := h
    cases r1
    obtain ⟨y, rfl, ry⟩ := rs.one
    cases ry
    obtain ⟨zs, ez, rz⟩ := gr.lst e
    obtain ⟨us2, eu, ru⟩ := gr.lst e2
    have t : Tm (kt X) H (upd H _ (.lst (zs ++ us2))) := Tm.lst ez
    exact mt_extend pins s σ H _ _ v us Q I rx rv ⟨_, _, zs, us2, rfl, rfl, ez, eu, by rw [← rz.length, ← ru.length]; exact hl, cl _ _ _ _ t (gr.set (u := .lst _) t ⟨_, upd_same, (rz.mono t).append (ru.mono t)⟩) .non h⟩
  · obtain ⟨xs, e, hl, h⟩ := h
    cases r1
    obtain ⟨y, rfl, ry⟩ := rs.one
    obtain ⟨b, us2, rfl, eu, ru⟩ := ry.tup_inv
    obtain ⟨zs, ez, rz⟩ := gr.lst e
    have t : Tm (kt X) H (upd H _ (.lst (zs ++ us2))) := Tm.lst ez
    exact mt_extendT pins s σ H _ _ v us Q I rx rv ⟨_, _, zs, us2, rfl, rfl, ez, eu, by rw [← rz.length, ← ru.length]; exact hl, cl _ _ _ _ t (gr.set (u := .lst _) t ⟨_, upd_same, (rz.mono t).append (ru.mono t)⟩) .non h⟩
  · exact h.elim
def clearD : RMd := fun x ds G Q => match x, ds with
  | .ref a, [] => ∃ xs, G a = some (.lst xs) ∧ Q .non (st G a (.lst []))
  | _, _ => False
theorem md_clear : MtM X "list.clear" (liftM (kt X) clearD) := by
  intro pins s σ H x vs v us Q I rx rv ⟨dx, ds, G, q, r1, rs, gr, h, cl⟩
  unfold clearD at h
  split at h
  · obtain ⟨xs, e, h⟩ := h
    cases r1
    cases rs
    obtain ⟨zs, ez, rz⟩ := gr.lst e
    have t : Tm (kt X) H (upd H _ (.lst [])) := Tm.lst ez
    exact mt_clear pins s σ H _ _ v us Q I rx rv ⟨_, zs, rfl, rfl, ez, cl _ _ _ _ t (gr.set (u := .lst _) t ⟨_, upd_same, .nil⟩) .non h⟩
  · exact h.elim
def revsD : RMd := fun x ds G Q => match x, ds with
  | .ref a, [] => ∃ xs, G a = some (.lst xs) ∧ Q .non (st G a (.lst xs.reverse))
  | _, _ => False
theorem md_reverse : MtM X "list.reverse" (liftM (kt X) revsD) := by
  intro pins s σ H x vs v us Q I rx rv ⟨dx, ds, G, q, r1, rs, gr, h, cl⟩
  unfold revsD at h
  split at h
  · obtain ⟨xs, e, h⟩ := h
    cases r1
    cases rs
    obtain ⟨zs, ez, rz⟩ := gr.lst e
    have t : Tm (kt X) H (upd H _ (.lst zs.reverse)) := Tm.lst ez
    exact mt_reverse pins s σ H _ _ v us Q I rx rv ⟨_, zs, rfl, rfl, ez, cl _ _ _ _ t (gr.set (u := .lst _) t ⟨_, upd_same, (rz.mono t).reverse⟩) .non h⟩
  · exact h.elim
end
end S

set_option Elab.async false
set_option linter.all false
set_option maxRecDepth 100000
set_option maxHeartbeats 4000000
namespace S
open PySem PySem.Spec L2
open PyProof.Rows hiding St
/-! ## what a loop walks -/
section
variable {X : Cx} {tg e e2 o i : Expr} {te to ti : TEd} {tes : TAd} {p pos tpos : Pos} {elts : List Expr} {kk : Nat}
theorem dg_sub {r : D → D → D → Hd → (Hd → Prop) → Prop} (ho : DE X o to) (hi : DE X i ti) (hs : PSet X (lift3 (kt X) r)) (hu : plainE i = true) : DG X (.Subscript o i pos) [] (dgSub to ti r) := fun W tk =>
  PGi (pg_sub (ho W tk) (hi W tk) hs (by cases i <;> first | (intro _; rfl) | cases hu)) fun v σ H Q ⟨d, σd, G, q, w, rv, sr, gr, h, cl, cw⟩ =>
    ⟨σd, G, _, w, sr, gr, h, fun v1 d1 H1 G1 t1 gr1 r1 h1 => ⟨σd, G1, _, w, sr.mono t1, gr1, h1, fun v2 d2 H2 G2 t2 gr2 r2 h2 =>
      ⟨d1, d2, d, G2, _, r1.mono t2, r2, rv.mono (t1.trans t2), gr2, h2, fun H3 G3 t3 gr3 h3 => cl _ _ _ _ ((t1.trans t2).trans t3) Ag.refl (sr.mono ((t1.trans t2).trans t3)) gr3 h3⟩, cw.mono t1⟩, cw⟩
theorem PIi {t t' : TI} (h : PI X tg e t) (i : ∀ σ H R, t' σ H R → t σ H R) : PI X tg e t' := ⟨fun pins s σ H R I q => h.run pins s σ H R I (i _ _ _ q)⟩
/-- a list or a tuple, by what it is -/
theorem pi_seq {tl : TE} (hl : PE X e tl) : PI X tg e (fun σ H R => tl σ H fun x H1 => ∃ a, x = .ref a ∧ (((∃ xs, SqL (kt X) H1 a xs) ∧ R (Itl (kt X) a) H1) ∨ ((∃ xs, SqT (kt X) H1 a xs) ∧ R (Itt (kt X) a) H1))) := by
  constructor
  intro pins s σ H R I h
  refine thn (hl.run pins s σ H _ I h) ?_
  rintro v s1 ⟨x, H1, I1, r1, a, rfl, (⟨⟨xs, hq⟩, q⟩ | ⟨⟨xs, hq⟩, q⟩)⟩
  all_goals cases r1
  · obtain ⟨its, rv, pl, _⟩ := I1.list hq
    refine wpAny_pyIter_list pl.isList ⟨s1.heap.objs.size, [s1.heap.objs.size], _, _, H1, rfl, I1.kept (t' := s1.toks) fun b o e => Heap.get?_push_of_some _ e, turn_list a _, ⟨_, Heap.get?_push_size _ rfl, rfl, rfl⟩, ?_, q⟩
    intro b hb
    cases List.mem_singleton.mp hb
    exact I1.fpOk (Nat.le_refl _) (I1.hok.fresh (Nat.le_refl _))
  · obtain ⟨its, rv, pl, _⟩ := I1.tuple hq
    refine wpAny_pyIter_tuple (show s1.heap.IsTuple a its.toArray from pl) ⟨s1.heap.objs.size, [s1.heap.objs.size], _, _, H1, rfl, I1.kept (t' := s1.toks) fun b o e => Heap.get?_push_of_some _ e, turn_tuple a _, ⟨_, Heap.get?_push_size _ rfl, rfl, rfl⟩, ?_, q⟩
    intro b hb
    cases List.mem_singleton.mp hb
    exact I1.fpOk (Nat.le_refl _) (I1.hok.fresh (Nat.le_refl _))
/-- over a value: a tuple's items, a list's items (the list stays while it is walked) -/
def dItV (te : TEd) : TId := fun w σ G R => te w σ G fun d G1 => match d with
  | .tup xs => R xs (fun _ => True) G1
  | .ref a => ∃ xs, seqG G1 a xs ∧ R xs (fun G2 => seqG G2 a xs) G1
  | _ => False
theorem SqT.inj {K : Kt} {H : Hp} {P : Program} {w : World} {a : Addr} {xs ys : List V} : True := trivial
/-- what the item of a list at a turn is -/
theorem itl_ok {K : Kt} {H1 : Hp} {a : Addr} {xs : List D} : ItOk K H1 (Itl K a) xs (fun G => seqG G a xs) := fun i H G t gr st => by
  obtain ⟨vs, sq, rs⟩ := seq_of gr st
  refine ⟨fun hi => ?_, fun hi => ⟨vs, sq, by rw [← rs.length]; omega⟩⟩
  obtain ⟨d, hd⟩ : ∃ d, xs[i]? = some d := ⟨_, List.getElem?_eq_getElem hi⟩
  obtain ⟨v, hv, rv⟩ := rs.get hd
  refine ⟨⟨vs, v, sq, hv⟩, fun x H' ⟨e, y⟩ => ?_⟩
  subst e
  have e2 := y vs sq
  rw [hv] at e2
  cases e2
  exact ⟨Tm.refl, gr, d, hd, rv⟩
theorem itt_ok {K : Kt} {H1 : Hp} {a : Addr} {xs : List D} {vs : List V} (sq : SqT K H1 a vs) (rs : Rps K H1 xs vs) : ItOk K H1 (Itt K a) xs (fun _ => True) := fun i H G t gr _ => by
  refine ⟨fun hi => ?_, fun hi => ⟨vs, t.t _ _ sq, by rw [← rs.length]; omega⟩⟩
  obtain ⟨d, hd⟩ : ∃ d, xs[i]? = some d := ⟨_, List.getElem?_eq_getElem hi⟩
  obtain ⟨v, hv, rv⟩ := rs.get hd
  refine ⟨⟨vs, v, t.t _ _ sq, hv⟩, fun x H' ⟨e, y⟩ => ?_⟩
  subst e
  have e2 := y vs (t.t _ _ sq)
  rw [hv] at e2
  cases e2
  exact ⟨Tm.refl, gr, d, hd, rv.mono t⟩
theorem di_v (he : DE X e te) : DI X tg e (dItV te) := fun W tk =>
  PIi (pi_seq (he W tk)) fun σ H R ⟨σd, G, r, w, sr, gr, h, ok, cw⟩ => ⟨σd, G, _, w, sr, gr, h, fun v d H1 G1 t1 gr1 r1 h1 => by
    cases d with
    | tup xs =>
      obtain ⟨a, vs, rfl, sa, ra⟩ := r1.tup_inv
      exact ⟨a, rfl, .inr ⟨⟨vs, sa⟩, ok _ _ _ _ _ t1 gr1 (itt_ok sa ra) h1⟩⟩
    | ref a =>
      cases r1
      obtain ⟨xs, sq, h1⟩ := h1
      obtain ⟨vs, sa, ra⟩ := seq_of gr1 sq
      exact ⟨a, rfl, .inl ⟨⟨vs, sa⟩, ok _ _ _ _ _ t1 gr1 itl_ok h1⟩⟩
    | _ => exact False.elim h1, cw⟩
def rngL (lo c : Int) (n : Nat) : List D := (List.range n).map fun (k : Nat) => D.int (lo + k * c)
theorem rngL_length {lo c : Int} {n : Nat} : (rngL lo c n).length = n := by simp [rngL]
theorem rngL_get {lo c : Int} {n i : Nat} (h : i < n) : (rngL lo c n)[i]? = some (.int (lo + i * c)) := by simp [rngL, h]
def rng1 (ds : List D) (k : List D → Prop) : Prop := match ds with
  | [.int j] => (-(2 ^ 62) ≤ j ∧ j < 2 ^ 62) ∧ k (rngL 0 1 j.toNat)
  | _ => False
def rng2 (ds : List D) (k : List D → Prop) : Prop := match ds with
  | [.int i, .int j] => (-(2 ^ 62) ≤ i ∧ i < 2 ^ 62 ∧ -(2 ^ 62) ≤ j ∧ j < 2 ^ 62) ∧ k (rngL i 1 (j - i).toNat)
  | _ => False
def rng3 (ds : List D) (k : List D → Prop) : Prop := match ds with
  | [.int i, .int j, .int c] => ∃ n, RgC i j c n ∧ k (rngL i c n)
  | _ => False
def dRng (g : List D → (List D → Prop) → Prop) (t : TAd) : TId := fun w σ G R => t w σ G fun ds G1 => g ds fun xs => R xs (fun _ => True) G1
theorem itr_ok {K : Kt} {H1 : Hp} {lo : Int} {n : Nat} : ItOk K H1 (Itr lo n) (rngL lo 1 n) (fun _ => True) := fun i H G t gr _ => by
  rw [rngL_length]
  refine ⟨fun hi => ⟨hi, fun x H' ⟨e, y⟩ => ?_⟩, fun hi => Nat.le_of_eq hi.symm⟩
  subst e y
  exact ⟨Tm.refl, gr, _, rngL_get hi, by rw [Int.mul_one]; exact .int _⟩
theorem itc_ok {K : Kt} {H1 : Hp} {lo c : Int} {n : Nat} : ItOk K H1 (Itc lo c n) (rngL lo c n) (fun _ => True) := fun i H G t gr _ => by
  rw [rngL_length]
  refine ⟨fun hi => ⟨hi, fun x H' ⟨e, y⟩ => ?_⟩, fun hi => Nat.le_of_eq hi.symm⟩
  subst e y
  exact ⟨Tm.refl, gr, _, rngL_get hi, .int _⟩
theorem Rps.three {K : Kt} {H : Hp} {x y z : D} {vs : List V} (r : Rps K H [x, y, z] vs) : ∃ v u t, vs = [v, u, t] ∧ Rp K H x v ∧ Rp K H y u ∧ Rp K H z t := by
  cases r with
  | cons h r => obtain ⟨u, t, rfl, q⟩ := r.two; exact ⟨_, u, t, rfl, h, q⟩
theorem rng_read {K : Kt} {W : WX} {g : List D → (List D → Prop) → Prop} {t : TAd} {q : List V → Hp → (It → Hp → Prop) → Prop}
    (hq : ∀ ds vs H G k (R : It → Hp → Prop), Rps K H ds vs → GR K G H → g ds k → (∀ J xs, ItOk K H J xs (fun _ => True) → k xs → R J H) → q vs H R) (σ : St) (H : Hp) (R : It → Hp → Prop) (h : liftI K W (dRng g t) σ H R) :
    liftA K W t σ H fun vs H1 => q vs H1 R := by
  obtain ⟨σd, G, r, w, sr, gr, h, ok, cw⟩ := h
  exact ⟨σd, G, _, w, sr, gr, h, fun vs ds H1 G1 t1 gr1 r1 h1 => hq _ _ _ G1 _ _ r1 gr1 h1 fun J xs o k => ok _ _ _ _ _ t1 gr1 o k, cw⟩
theorem di_rng1 (hg : Gl X "range") (hm : X.mg "range" = none) (ha : DA X [e] tes) (hs : unstarE e = true) : DI X tg (.Call (.Name "range" p) [e] [] pos) (dRng rng1 tes) := fun W tk =>
  PIi (pi_range1 hg hm (ha W tk) (star_ok hs)) (rng_read fun ds vs H G k R r1 gr1 h1 ok => by
    unfold rng1 at h1
    split at h1
    · obtain ⟨v, rfl, q⟩ := r1.one
      exact ⟨_, by rw [q.int_inv], h1.1.1, h1.1.2, ok _ _ itr_ok h1.2⟩
    · exact h1.elim)
theorem di_rng2 (hg : Gl X "range") (hm : X.mg "range" = none) (ha : DA X [e, e2] tes) (hs : [e, e2].all unstarE = true) : DI X tg (.Call (.Name "range" p) [e, e2] [] pos) (dRng rng2 tes) := fun W tk => by
  simp only [List.all_cons, List.all_nil, Bool.and_eq_true, Bool.and_true] at hs
  refine PIi (pi_range2 hg hm (ha W tk) ?_ ?_) (rng_read fun ds vs H G k R r1 gr1 h1 ok => by
    unfold rng2 at h1
    split at h1
    · obtain ⟨v, u, rfl, q1, q2⟩ := r1.two
      exact ⟨_, _, by rw [q1.int_inv, q2.int_inv], h1.1, ok _ _ itr_ok h1.2⟩
    · exact h1.elim)
  · rw [star_ok hs.1, star_ok hs.2]; rfl
  · first | exact plain_ok (es := [e2]) (by simp [hs.2]) | (rw [star_ok hs.2]; rfl)
theorem di_rng3 {e3 : Expr} (hg : Gl X "range") (hm : X.mg "range" = none) (ha : DA X [e, e2, e3] tes) (hs : [e, e2, e3].all unstarE = true) : DI X tg (.Call (.Name "range" p) [e, e2, e3] [] pos) (dRng rng3 tes) := fun W tk => by
  simp only [List.all_cons, List.all_nil, Bool.and_eq_true, Bool.and_true] at hs
  refine PIi (pi_range3 hg hm (ha W tk) (star_ok hs.1) (plain_ok (by simp [hs.2.1, hs.2.2]))) (rng_read fun ds vs H G k R r1 gr1 h1 ok => by
    unfold rng3 at h1
    split at h1
    · obtain ⟨v, u, t, rfl, q1, q2, q3⟩ := r1.three
      obtain ⟨n, hn, h1⟩ := h1
      exact ⟨_, _, _, n, by rw [q1.int_inv, q2.int_inv, q3.int_inv], hn, ok _ _ itc_ok h1⟩
    · exact h1.elim)
/-- enumerate over a list; zip of two lists -/
def enumL (xs : List D) : List D := (List.range xs.length).map fun (i : Nat) => D.tup [.int i, xs.getD i .non]
def enumR (ds : List D) (G : Hd) (R : List D → (Hd → Prop) → Hd → Prop) : Prop := match ds with
  | [.ref a] => ∃ xs, seqG G a xs ∧ R (enumL xs) (fun G2 => seqG G2 a xs) G
  | _ => False
def zipL (xs ys : List D) : List D := (xs.zip ys).map fun p => D.tup [p.1, p.2]
def zipR (ds : List D) (G : Hd) (R : List D → (Hd → Prop) → Hd → Prop) : Prop := match ds with
  | [.ref a, .ref b] => ∃ xs, seqG G a xs ∧ ∃ ys, seqG G b ys ∧ R (zipL xs ys) (fun G2 => seqG G2 a xs ∧ seqG G2 b ys) G
  | _ => False
def dWalk (g : List D → Hd → (List D → (Hd → Prop) → Hd → Prop) → Prop) (t : TAd) : TId := fun w σ G R => t w σ G fun ds G1 => g ds G1 R
theorem ite_ok {K : Kt} {H1 : Hp} {a : Addr} {xs : List D} : ItOk K H1 (Ite K a) (enumL xs) (fun G => seqG G a xs) := fun i H G t gr st => by
  obtain ⟨vs, sq, rs⟩ := seq_of gr st
  unfold enumL
  rw [List.length_map, List.length_range]
  refine ⟨fun hi => ?_, fun hi => ⟨vs, sq, by rw [← rs.length]; omega⟩⟩
  obtain ⟨v, hv, rv⟩ := rs.get (List.getElem?_eq_getElem hi)
  refine ⟨⟨vs, v, sq, hv⟩, fun x H' ⟨T, y, e, hT, eH, hy⟩ => ?_⟩
  subst e eH
  have e2 := hy vs sq
  rw [hv] at e2
  cases e2
  have tn : Tm K H (upd H T (.tup [.int i, v])) := Tm.new hT
  refine ⟨tn, gr.keep hT, D.tup [.int i, xs.getD i .non], by simp [hi], .tup (.inl (.inl upd_same)) (.cons (.int _) (.cons ?_ .nil))⟩
  have e3 : xs.getD i .non = xs[i] := by simp [List.getD_eq_getElem?_getD, hi]
  rw [e3]
  exact rv.mono tn
theorem itz_ok {K : Kt} {H1 : Hp} {a b : Addr} {xs ys : List D} : ItOk K H1 (Itz K a b) (zipL xs ys) (fun G => seqG G a xs ∧ seqG G b ys) := fun i H G t gr st => by
  obtain ⟨vs, sq, rs⟩ := seq_of gr st.1
  obtain ⟨us, sq2, rs2⟩ := seq_of gr st.2
  have hl : (zipL xs ys).length = min xs.length ys.length := by simp [zipL]
  rw [hl]
  refine ⟨fun hi => ?_, fun hi => ⟨vs, us, sq, sq2, by rw [← rs.length, ← rs2.length]; omega⟩⟩
  obtain ⟨v, hv, rv⟩ := rs.get (List.getElem?_eq_getElem (show i < xs.length by omega))
  obtain ⟨u, hu, ru⟩ := rs2.get (List.getElem?_eq_getElem (show i < ys.length by omega))
  refine ⟨⟨vs, us, v, u, sq, sq2, hv, hu⟩, fun x H' ⟨T, y, z, e, hT, eH, hy, hz⟩ => ?_⟩
  subst e eH
  have e2 := hy vs sq
  rw [hv] at e2
  cases e2
  have e3 := hz us sq2
  rw [hu] at e3
  cases e3
  have tn : Tm K H (upd H T (.tup [v, u])) := Tm.new hT
  refine ⟨tn, gr.keep hT, D.tup [xs[i], ys[i]], ?_, .tup (.inl (.inl upd_same)) (.cons (rv.mono tn) (.cons (ru.mono tn) .nil))⟩
  unfold zipL
  rw [List.getElem?_map, List.getElem?_eq_getElem (by simp; omega)]
  simp
theorem di_enum (hg : Gl X "enumerate") (hm : X.mg "enumerate" = none) (ha : DA X [e] tes) (hs : unstarE e = true) : DI X (.Tuple elts kk tpos) (.Call (.Name "enumerate" p) [e] [] pos) (dWalk enumR tes) := fun W tk =>
  PIi (pi_enum hg hm (ha W tk) (star_ok hs)) fun σ H R ⟨σd, G, r, w, sr, gr, h, ok, cw⟩ => ⟨σd, G, _, w, sr, gr, h, fun vs ds H1 G1 t1 gr1 r1 h1 => by
    simp only [enumR] at h1
    split at h1
    · obtain ⟨v, rfl, q⟩ := r1.one
      obtain ⟨xs, sq, h1⟩ := h1
      obtain ⟨vs, sa, ra⟩ := seq_of gr1 sq
      exact ⟨_, vs, by rw [q.ref_inv], sa, ok _ _ _ _ _ t1 gr1 ite_ok h1⟩
    · exact h1.elim, cw⟩
theorem di_zip (hg : Gl X "zip") (hm : X.mg "zip" = none) (ha : DA X [e, e2] tes) (hs : [e, e2].all unstarE = true) : DI X (.Tuple elts kk tpos) (.Call (.Name "zip" p) [e, e2] [] pos) (dWalk zipR tes) := fun W tk => by
  simp only [List.all_cons, List.all_nil, Bool.and_eq_true, Bool.and_true] at hs
  exact PIi (pi_zip hg hm (ha W tk) (star_ok hs.1) (plain_ok (by simp [hs.2]))) fun σ H R ⟨σd, G, r, w, sr, gr, h, ok, cw⟩ => ⟨σd, G, _, w, sr, gr, h, fun vs ds H1 G1 t1 gr1 r1 h1 => by
    simp only [zipR] at h1
    split at h1
    · obtain ⟨v, u, rfl, q, q2⟩ := r1.two
      obtain ⟨xs, sq, ys, sq2, h1⟩ := h1
      obtain ⟨vs, sa, ra⟩ := seq_of gr1 sq
      obtain ⟨us, sb, rb⟩ := seq_of gr1 sq2
      exact ⟨_, _, vs, us, by rw [q.ref_inv, q2.ref_inv], sa, sb, ok _ _ _ _ _ t1 gr1 itz_ok h1⟩
    · exact h1.elim, cw⟩
end
/-! ## a written dict of texts to numbers, asked at once -/
def litKV : List (Option Expr) → List Expr → Option (List (Str × Int))
  | [], [] => some []
  | some (.Constant (.str x) _ _) :: ks, .Constant (.int i) _ _ :: vs => match litKV ks vs with
    | some r => some ((x, i) :: r)
    | none => none
  | _, _ => none
def dLit (kvs : List (Str × Int)) : List (D × D) := kvs.map fun kv => (.str kv.1, .int kv.2)
def dDix (kvs : List (Str × Int)) (ti : TEd) : TEd := fun w σ G Q => ∀ p, G p = none → ti w σ (st G p (.dic (dLit kvs))) fun d G1 => ∃ s v, d = .str s ∧ G1 p = some (.dic (dLit kvs)) ∧ kvs.lookup s = some v ∧ Q (.int v) G1
def kLit (kvs : List (Str × Int)) : List (Key × V) := kvs.map fun kv => (.inr kv.1, .int kv.2)
def tLit (kvs : List (Str × Int)) : List (TE × TE) := kvs.map fun kv => (tC (.str kv.1), tC (.int kv.2))
section
variable {X : Cx} {pos : Pos}
theorem lit_ok : ∀ {ks : List (Option Expr)} {vs : List Expr} {kvs : List (Str × Int)}, litKV ks vs = some kvs → PPs X pos ks vs (tLit kvs) ∧ ks.all (·.isSome) = true ∧ ks.length = vs.length ∧ ks.length = kvs.length := by
  intro ks vs
  induction ks generalizing vs with
  | nil => intro kvs h; cases vs with
    | nil => cases h; exact ⟨pps_nil, rfl, rfl, rfl⟩
    | cons => cases h
  | cons k ks ih =>
    intro kvs h
    unfold litKV at h
    split at h
    · cases ‹_ :: _ = []›
    · rename_i e1 e2
      split at h
      · rename_i r hr
        cases h
        cases e2
        obtain ⟨a, b, c, d⟩ := ih hr
        exact ⟨pps_cons pe_str pe_int a, by simp [b], by simp [c], by simp [d]⟩
      · cases h
    · cases h
theorem tLit_run : ∀ {kvs : List (Str × Int)} {σ : St} {H : Hp} {Q : List (V × V) → Hp → Prop}, Q ((kLit kvs).map fun kv => (kV kv.1, kv.2)) H → tPairs (tLit kvs) σ H Q
  | [], _, _, _, h => h
  | kv :: r, σ, H, Q, h => tLit_run (kvs := r) (Q := fun ps H3 => Q ((.str kv.1, .int kv.2) :: ps) H3) h
termination_by kvs => kvs.length
theorem kvr_lit {K : Kt} {H : Hp} : ∀ kvs : List (Str × Int), KvR K H (dLit kvs) (kLit kvs)
  | [] => .nil
  | kv :: r => .cons (k := .inr kv.1) (.int _) (kvr_lit r)
theorem merge_lit : ∀ {kvs acc : List (Key × V)}, (acc.map (·.1) ++ kvs.map (·.1)).Nodup → mergeK acc kvs = acc ++ kvs
  | [], acc, _ => by simp [mergeK]
  | kv :: r, acc, h => by
    have hn : valV acc kv.1 = none := by
      cases e : valV acc kv.1 with
      | none => rfl
      | some v =>
        exfalso
        have : (acc.any fun z => decide (z.1 = kv.1)) = true := by rw [valV_any, e]; rfl
        rw [List.any_eq_true] at this
        obtain ⟨z, hz, e2⟩ := this
        have e2 := of_decide_eq_true e2
        rw [List.nodup_append] at h
        exact h.2.2 _ (List.mem_map_of_mem hz) _ (by simp) e2
    show mergeK (putK acc kv.1 kv.2) r = _
    rw [putK_new _ hn, merge_lit (by simpa using h)]
    simp
theorem val_lit {s : Str} {v : Int} : ∀ {kvs : List (Str × Int)}, kvs.lookup s = some v → valV (kLit kvs) (.inr s) = some (.int v)
  | [], h => by cases h
  | kv :: r, h => by
    rw [List.lookup_cons] at h
    by_cases e : s = kv.1
    · subst e
      rw [beq_self_eq_true] at h; cases h
      exact valV_pos rfl
    · have : (s == kv.1) = false := by simpa using e
      rw [this] at h
      show valV ((.inr kv.1, .int kv.2) :: kLit r) _ = _
      rw [valV_neg (by intro z; cases z; exact e rfl)]
      exact val_lit h
def nodupS : List (Str × Int) → Bool
  | [] => true
  | kv :: r => !(r.any fun x => x.1 == kv.1) && nodupS r
theorem nodupS_ok : ∀ {kvs : List (Str × Int)}, nodupS kvs = true → ((kLit kvs).map (·.1)).Nodup
  | [], _ => .nil
  | kv :: r, h => by
    simp only [nodupS, Bool.and_eq_true, Bool.not_eq_true'] at h
    refine List.nodup_cons.mpr ⟨fun m => ?_, nodupS_ok h.2⟩
    obtain ⟨z, hz, e⟩ := List.mem_map.mp m
    obtain ⟨y, hy, rfl⟩ := List.mem_map.mp hz
    simp only at e
    have e : y.1 = kv.1 := Sum.inr.inj e
    have := List.any_eq_false.mp h.1 y hy
    exact this (by simp [e])
theorem de_dix {ks : List (Option Expr)} {vs : List Expr} {kvs : List (Str × Int)} {i : Expr} {ti : TEd} {p2 : Pos} (hu : X.A.units + 1 < cLine) (hk : litKV ks vs = some kvs) (hn : nodupS kvs = true) (h0 : kvs ≠ []) (hl : kvs.length ≤ 15) (hi : DE X i ti) (hs : NoSl i) :
    DE X (.Subscript (.Dict ks vs pos) i p2) (dDix kvs ti) := fun W tk => by
  obtain ⟨a, b, c, d⟩ := lit_ok (X := X) (pos := pos) hk
  refine PEi (pe_dget hu (pe_disp a b c (fun e => h0 (List.eq_nil_of_length_eq_zero (by rw [← d, e]; rfl))) (by omega)) (hi W tk) hs) fun σ H Q ⟨σd, G, q, w, sr, gr, h, cl, cw⟩ => ?_
  intro p hp
  refine tLit_run ⟨upd_same, kLit kvs, rfl, by simp [kLit]; exact hl, ?_⟩
  have em : mergeK [] (kLit kvs) = kLit kvs := merge_lit (acc := []) (by simpa using nodupS_ok hn)
  rw [em, upd_upd]
  have t : Tm (kt X) H (upd H p (.dK (kLit kvs))) := Tm.new hp
  refine ⟨σd, _, _, w, sr.mono t, gr.new (u := .dic (dLit kvs)) hp ⟨_, upd_same, kvr_lit kvs⟩, h p (gr.free hp), fun v dd H2 G2 t2 gr2 r2 ⟨s, z, e, eg, el, hq⟩ => ?_, cw.mono t⟩
  subst e
  cases r2
  obtain ⟨vs', ev, rv⟩ := gr2 _ _ eg
  have ek : vs' = kLit kvs := by
    clear ev el hq em
    have : ∀ {l : List (Str × Int)} {x : List (Key × V)}, KvR (kt X) H2 (dLit l) x → x = kLit l := by
      intro l
      induction l with
      | nil => intro x r; cases r; rfl
      | cons y l ih =>
        intro x r
        have r' : KvR (kt X) H2 ((.str y.1, .int y.2) :: dLit l) x := r
        generalize hk : D.str y.1 = kd at r'
        cases r' with
        | @cons k _ v _ s' h rr =>
          cases k with
          | inl i => cases hk
          | inr x => cases hk; rw [h.int_inv, ih rr]; rfl
    exact this rv
  subst ek
  exact ⟨p, _, rfl, .inl ⟨_, .inr s, .inl ev, rfl, (val_lit el).symm⟩, cl _ _ _ _ (t.trans t2) gr2 (.int _) hq⟩
end
/-! ## the keys of a dict whose keys are tuples -/
def Itkd (P : Program) (w : World) (d : Addr) (ep n : Nat) : It :=
  ⟨fun i H => (∃ xs, H d = some (DitO P w d xs ep) ∧ xs.length = n) ∧ i < n, fun i H x H' => H' = H ∧ ∀ xs, H d = some (DitO P w d xs ep) → ∃ y, xs[i]? = some y ∧ x = .ref y.2.1, fun i H => (∃ xs, H d = some (DitO P w d xs ep) ∧ xs.length = n) ∧ n ≤ i⟩
theorem size_e {xs : List (NestedKey × Addr × Value)} {es : Array DictEntry} {f : NestedKey × Addr × Value → DictEntry} (h : es.toList = xs.map f) : es.size = xs.length := by
  have := congrArg List.length h
  simpa using this
theorem turn_keysD {P : Program} {w : World} {K : PySem.W.Frag} {tg : Expr} {d : Addr} {ep n : Nat} (it : Addr) : Turn P w K tg (Itkd P w d ep n) [it] it (fun i h => h.IsKeyIter it d i n ep) where
  mem := by simp
  obj := fun i h st b hb => by
    have e : b = it := by simpa using hb
    subst e
    obtain ⟨oi, e, c, dd⟩ := st
    exact ⟨oi, e, fun v z => by rw [dd] at z; cases z⟩
  keep := fun i h h' st k => st.at fun oi e => k it (by simp) oi e
  item := by
    intro X hP hw hK hc i pins s σ H E I hf st hg
    subst hP hw hK
    obtain ⟨⟨xs, hd, hn⟩, hi⟩ := hg
    obtain ⟨f0, f1, f2, f3, f4, f5⟩ := hf it (by simp)
    obtain ⟨⟨_, _, _, o, es, h1, h2, h3, h4⟩, _⟩ := I.hok d _ hd
    have hsz : es.size = n := by rw [size_e h4]; exact hn
    have hlt : i < es.size := by omega
    refine next_key_item st h1 h3 hsz (Array.getElem?_eq_getElem hlt) fun h' st' sb => ?_
    have I1 : L2.Inv X pins σ H { s with heap := h' } := I.turned (t' := s.toks) (fun b ob hb e => (sb.2 b hb).trans e) f0 f1 f3 f4 f5
    obtain ⟨oi, e, c, dd⟩ := id st'
    have key : ∀ ys, H d = some (DitO X.prog X.w d ys ep) → ∃ y, ys[i]? = some y ∧ es[i].key = .ref y.2.1 := fun ys hy => by
      obtain ⟨⟨_, _, _, o', es', g1, g2, g3, g4⟩, _⟩ := I.hok d _ hy
      rw [h1] at g1; cases g1
      rw [h3] at g3; cases g3
      have e1 : es.toList[i]? = (ys.map (entryOfKey (nestedKind X.prog X.w)))[i]? := by rw [g4]
      rw [List.getElem?_map, Array.getElem?_toList, Array.getElem?_eq_getElem hlt] at e1
      cases ey : ys[i]? with
      | none => rw [ey] at e1; cases e1
      | some y =>
        rw [ey] at e1
        refine ⟨y, rfl, ?_⟩
        have e2 : es[i] = entryOfKey (nestedKind X.prog X.w) y := Option.some.inj e1
        rw [e2]; rfl
    obtain ⟨y, hy, ky⟩ := key xs hd
    refine ⟨es[i].key, rfl, go_of (s := { s with heap := h' }) e c dd (by decide) ⟨.ref y.2.1, H, I1, ky, ⟨rfl, fun ys hys => ?_⟩, st', fun b hb => (hf b hb).1⟩⟩
    obtain ⟨z, hz, kz⟩ := key ys hys
    rw [ky] at kz
    have kz' : y.2.1 = z.2.1 := by injection kz
    exact ⟨z, hz, by rw [kz']⟩
  done := by
    intro X hP hw hK hc i pins s σ H E I hf st hg
    subst hP hw hK
    obtain ⟨⟨xs, hd, hn⟩, hi⟩ := hg
    obtain ⟨f0, f1, f2, f3, f4, f5⟩ := hf it (by simp)
    obtain ⟨⟨_, _, _, o, es, h1, h2, h3, h4⟩, _⟩ := I.hok d _ hd
    have hsz : es.size = n := by rw [size_e h4]; exact hn
    exact next_key_end (I.ok.hd hc) st h1 h3 hsz hi fun h' eb => ⟨rfl, I.turned (t' := s.toks) (fun b ob hb e => eb b ob hb e) f0 f1 f3 f4 f5⟩
  self := fun A i s Q E st h => by
    refine wpAny_pyIter_slot st.typeIs PySem.F.slot_dict_keyiterator_iter (wpAny_call_entry PySem.F.slot_dict_keyiterator_iter st.typeIs PySem.F.entry_dict_keyiterator_iter ?_ (PySem.F.args_dict_keyiterator_iter_1 _))
    show wpAny _ _ (ret (.ref it)) _ _ s
    exact wpAny_pure ⟨_, rfl, "dict_keyiterator", _, st.typeIs, PySem.F.slot_dict_keyiterator_next.lookup, h⟩
def itk (d : D) (G : Hd) (R : List D → (Hd → Prop) → Hd → Prop) : Prop := match d with
  | .ref a => ∃ kvs ep, G a = some (.dit kvs ep) ∧ R (kvs.map (·.1)) (fun G2 => G2 a = some (.dit kvs ep)) G
  | _ => False
def dItK (te : TEd) : TId := fun w σ G R => te w σ G fun d G1 => itk d G1 R
section
variable {X : Cx} {tg e : Expr} {te : TEd}
theorem pi_keysD {td : TE} (he : PE X e td) : PI X tg e (fun σ H R => td σ H fun x H1 => ∃ d xs ep, x = .ref d ∧ H1 d = some (DitO X.prog X.w d xs ep) ∧ R (Itkd X.prog X.w d ep xs.length) H1) := by
  refine ⟨fun pins s σ H R I h => ?_⟩
  refine thn (he.run pins s σ H _ I h) fun u s1 ⟨x, H1, I1, rx, d, xs, ep, ex, hd, q⟩ => ?_
  subst ex
  obtain rfl : u = Value.ref d := rx
  obtain ⟨⟨_, hs, _, o, es, h1, h2, h3, h4⟩, _⟩ := I1.hok d _ hd
  refine iter_keys hs h1 h2 h3 (pi_one (tk := s1.toks) I1 _ (turn_keysD _) ⟨_, Heap.get?_push_size _ rfl, rfl, ?_⟩ q)
  rw [size_e h4] <;> rfl
theorem ditR_get {K : Kt} {H : Hp} : ∀ {kvs : List (D × D)} {xs : List (NestedKey × Addr × Value)} {i : Nat} {y : NestedKey × Addr × Value}, DitR K H kvs xs → xs[i]? = some y → ∃ p, kvs[i]? = some p ∧ Rp K H p.1 (.ref y.2.1)
  | _, _, i, _, .nil, h => by simp at h
  | _, _, 0, _, .cons _ _ h3 _ _ _, h => by simp at h; subst h; exact ⟨_, rfl, h3⟩
  | _, _, i + 1, _, .cons _ _ _ _ _ q, h => by simp at h; simpa using ditR_get q h
theorem ditR_len {K : Kt} {H : Hp} : ∀ {kvs : List (D × D)} {xs : List (NestedKey × Addr × Value)}, DitR K H kvs xs → kvs.length = xs.length
  | _, _, .nil => rfl
  | _, _, .cons _ _ _ _ _ q => by simp [ditR_len q]
theorem di_keysD (he : DE X e te) : DI X tg e (dItK te) := fun W tk =>
  PIi (pi_keysD (he W tk)) fun σ H R ⟨σd, G, r, w, sr, gr, h, ok, cw⟩ => ⟨σd, G, _, w, sr, gr, h, fun v d H1 G1 t1 gr1 r1 h1 => by
    simp only [itk] at h1
    split at h1
    · rename_i a
      obtain ⟨kvs, ep, eg, h1⟩ := h1
      cases r1
      obtain ⟨xs, ha, rx⟩ := gr1 _ _ eg
      refine ⟨a, xs, ep, rfl, ha, ok _ _ _ _ _ t1 gr1 ?_ h1⟩
      intro i H2 G2 t2 gr2 st
      obtain ⟨ys, hy, ry⟩ := gr2 _ _ st
      have l1 := ditR_len rx
      have l2 := ditR_len ry
      rw [List.length_map]
      refine ⟨fun hi => ⟨⟨⟨ys, hy, by omega⟩, by omega⟩, fun x H3 ⟨e3, hx⟩ => ?_⟩, fun hi => ⟨⟨ys, hy, by omega⟩, by omega⟩⟩
      subst e3
      obtain ⟨y, ey, rfl⟩ := hx ys hy
      obtain ⟨p, ep', rp⟩ := ditR_get ry ey
      exact ⟨Tm.refl, gr2, p.1, by rw [List.getElem?_map, ep']; rfl, rp⟩
    · exact h1.elim, cw⟩
end
end S

set_option Elab.async false
set_option linter.all false
set_option maxRecDepth 100000
set_option maxHeartbeats 4000000
namespace S
open PySem PySem.Spec L2
open PyProof.Rows hiding St
/-! ## list(range(..)), xs[::-1] -/
section
variable {X : Cx} {a b e : Expr} {ta tb te : TEd} {p p1 p2 p3 pos : Pos}
def lrK (i j : Int) (G : Hd) (Q : Qd) : Prop := (-(2 ^ 62) ≤ i ∧ i < 2 ^ 62 ∧ -(2 ^ 62) ≤ j ∧ j < 2 ^ 62 ∧ (j - i).toNat ≤ 2 ^ 24) ∧ ∀ p, G p = none → Q (.ref p) (st G p (.lst (rngL i 1 (j - i).toNat)))
def lr1 (x : D) (G : Hd) (Q : Qd) : Prop := match x with
  | .int j => lrK 0 j G Q
  | _ => False
def lr2 (x y : D) (G : Hd) (Q : Qd) : Prop := match x, y with
  | .int i, .int j => lrK i j G Q
  | _, _ => False
def revD (x : D) (G : Hd) (Q : Qd) : Prop := match x with
  | .ref a => ∃ xs, seqG G a xs ∧ ∀ p, G p = none → Q (.ref p) (st G p (.lst xs.reverse))
  | _ => False
theorem rgV_ok {K : Kt} {H : Hp} {i j : Int} : Rps K H (rngL i 1 (j - i).toNat) (rgV i j) := by
  unfold rngL rgV
  generalize List.range (j - i).toNat = l
  induction l with
  | nil => exact .nil
  | cons k l ih => exact .cons (by simp only [Int.mul_one]; exact .int _) ih
theorem lrK_ok {K : Kt} {H : Hp} {G : Hd} {Q : VK} {q : Qd} {i j : Int} (gr : GR K G H) (h : lrK i j G q) (cl : CQ K H Q q) : RgOk i j ∧ ∀ p, H p = none → Q (.ref p) (upd H p (.lst (rgV i j))) :=
  ⟨h.1, fun p hp => cl _ _ _ _ (Tm.new hp) (gr.new (u := .lst _) hp ⟨_, upd_same, rgV_ok⟩) (.ref p) (h.2 p (gr.free hp))⟩
theorem de_lrg1 (hc : X.calm = true) (hl : Gl X "list") (hm : X.mg "list" = none) (hr : Gl X "range") (hn : X.mg "range" = none) (ha : DE X a ta) (hs : unstarE a = true) : DE X (.Call (.Name "list" p1) [.Call (.Name "range" p) [a] [] p2] [] pos) (dUn lr1 ta) := fun W tk =>
  PEi (pe_listRg hc hl hm (prg_1 hr hn (ha W tk) (star_ok hs)) rfl) fun σ H Q h => by
    obtain ⟨σd, G, q, w, sr, gr, h, cl, cw⟩ := h
    refine ⟨σd, G, _, w, sr, gr, h, fun v d H1 G1 t1 gr1 r1 h1 => ?_, cw⟩
    cases d with
    | int j => exact ⟨j, r1.int_inv, lrK_ok gr1 h1 (cl.mono t1)⟩
    | _ => exact False.elim h1
theorem de_lrg2 (hc : X.calm = true) (hl : Gl X "list") (hm : X.mg "list" = none) (hr : Gl X "range") (hn : X.mg "range" = none) (ha : DE X a ta) (hb : DE X b tb) (hs : unstarE a = true) (hs2 : unstarE b = true) : DE X (.Call (.Name "list" p1) [.Call (.Name "range" p) [a, b] [] p2] [] pos) (dOp lr2 ta tb) := fun W tk =>
  PEi (pe_listRg hc hl hm (prg_2 hr hn (ha W tk) (hb W tk) (star_ok hs) (star_ok hs2) (by first | exact plain_ok (es := [b]) (by simp [hs2]) | (rw [star_ok hs2]; rfl))) rfl) fun σ H Q h => by
    obtain ⟨σd, G, q, w, sr, gr, h, cl, cw⟩ := h
    refine ⟨σd, G, _, w, sr, gr, h, fun v d H1 G1 t1 gr1 r1 h1 => ?_, cw⟩
    refine ⟨σd, G1, _, w, sr.mono t1, gr1, h1, fun v2 d2 H2 G2 t2 gr2 r2 h2 => ?_, cw.mono t1⟩
    change lr2 d d2 G2 q at h2
    unfold lr2 at h2
    split at h2
    · exact ⟨_, _, r1.int_inv, r2.int_inv, lrK_ok gr2 h2 (cl.mono (t1.trans t2))⟩
    · exact h2.elim
theorem de_rev {k : Nat} (he : DE X e te) : DE X (.Subscript e (.Slice none none (some (.UnaryOp .USub (.Constant (.int 1) k p1) p2)) p3) pos) (dUn revD te) := fun W tk =>
  PEi (pe_revL (he W tk)) fun σ H Q h => by
    obtain ⟨σd, G, q, w, sr, gr, h, cl, cw⟩ := h
    refine ⟨σd, G, _, w, sr, gr, h, fun v d H1 G1 t1 gr1 r1 h1 => ?_, cw⟩
    cases d with
    | ref a =>
      cases r1
      obtain ⟨xs, sq, h1⟩ := h1
      obtain ⟨vs, sa, ra⟩ := seq_of gr1 sq
      exact ⟨a, vs, rfl, sa, fun p hp => cl _ _ _ _ (t1.trans (Tm.new hp)) (gr1.new (u := .lst _) hp ⟨_, upd_same, (ra.mono (Tm.new hp)).reverse⟩) (.ref p) (h1 p (gr1.free hp))⟩
    | _ => exact False.elim h1
end
/-! ## list(d), len(d): a dict whose keys are tuples -/
def listK : RCd := fun ds G Q => match ds with
  | [.ref a] => ∃ kvs ep, G a = some (.dit kvs ep) ∧ ∀ p, G p = none → Q (.ref p) (st G p (.lst (kvs.map (·.1))))
  | _ => False
theorem ditR_keys {K : Kt} {H : Hp} : ∀ {kvs : List (D × D)} {xs : List (NestedKey × Addr × Value)}, DitR K H kvs xs → Rps K H (kvs.map (·.1)) (xs.map fun y => V.ref y.2.1)
  | _, _, .nil => .nil
  | _, _, .cons _ _ h3 _ _ q => .cons h3 (ditR_keys q)
theorem bd_listK {X : Cx} (hc : X.calm = true) : CalB X (.type "list") listK := by
  intro pins s σ H vs us Q I r ⟨ds, G, q, rs, gr, h, cl⟩
  unfold listK at h
  split at h
  · obtain ⟨v, rfl, r1⟩ := rs.one
    cases r1
    rename_i d
    obtain ⟨kvs, ep, eg, h⟩ := h
    obtain ⟨u, rfl, rx⟩ := r.one
    cases rx
    obtain ⟨xs, ha, rx⟩ := gr _ _ eg
    obtain ⟨⟨hz, hs, _, o, es, ho, hx, hdt, he⟩, _⟩ := I.hok d _ ha
    have l1 : es.size = xs.length := size_e he
    refine PySem.W.kdl_call (kdl_raw hs hx hdt) (I.ok.hd hc) ho (by omega) fun h' tk acc' c' kp e it => ?_
    have ea : acc'.toList = xs.map fun x => Value.ref x.2.1 := by
      have hl : acc'.toList.length = xs.length := by rw [Array.length_toList, it.1]; exact l1
      apply List.ext_getElem?
      intro j
      rw [List.getElem?_map]
      cases hj : acc'.toList[j]? with
      | none =>
        have h1 := List.getElem?_eq_none_iff.mp hj
        rw [List.getElem?_eq_none (by omega)]; rfl
      | some v =>
        obtain ⟨en, hen, hv⟩ := it.2 j v (by rw [← Array.getElem?_toList]; exact hj)
        have e1 : es.toList[j]? = (xs.map (entryOfKey (nestedKind X.prog X.w)))[j]? := by rw [he]
        rw [List.getElem?_map, Array.getElem?_toList, hen] at e1
        cases ey : xs[j]? with
        | none => rw [ey] at e1; cases e1
        | some y =>
          rw [ey] at e1
          have e2 : en = entryOfKey (nestedKind X.prog X.w) y := Option.some.inj e1
          rw [hv, e2]; rfl
    have eb : acc'.toList = (xs.map fun x => x.2.1).map Value.ref := by rw [ea, List.map_map]; rfl
    have rv : Vals ((xs.map fun x => x.2.1).map V.ref) acc'.toList := by rw [eb]; exact vals_refs _
    have hz : ((xs.map fun x => x.2.1).map V.ref).length ≤ sizeLine := by rw [List.length_map, List.length_map]; omega
    have hp := I.hok.fresh (Nat.le_refl s.heap.objs.size)
    have hr : Rps (kt X) H (kvs.map (·.1)) ((xs.map fun x => x.2.1).map V.ref) := by rw [List.map_map]; exact ditR_keys rx
    refine ⟨.ref s.heap.objs.size, _, I.laid (t' := tk) (o := .lst ((xs.map fun x => x.2.1).map V.ref)) kp (Nat.le_refl _) ?_, rfl, cl _ _ _ _ (Tm.new hp) (gr.new (u := .lst _) hp ⟨_, upd_same, hr.mono (Tm.new hp)⟩) (.ref _) (h _ (gr.free hp))⟩
    exact ⟨hz, acc'.toList, c', rv, by rw [Array.toArray_toList]; exact e⟩
  · exact h.elim
end S

set_option Elab.async false
set_option linter.all false
set_option maxRecDepth 100000
set_option maxHeartbeats 4000000
namespace S
open PySem PySem.Spec L2
open PyProof.Rows hiding St
/-! ## d.items(): a dict whose keys are tuples -/
theorem relV_inj {v v' : V} {u : Value} (h : L2.RelV v u) (k : L2.RelV v' u) : v = v' := by
  cases v <;> cases v' <;> simp only [L2.RelV] at h k <;>
    first
    | rfl
    | (subst h; cases k; done)
    | (obtain ⟨t, rfl⟩ := h; cases k; done)
    | (subst h; obtain ⟨_, k⟩ := k; cases k; done)
    | (obtain ⟨t, rfl⟩ := h; obtain ⟨_, k⟩ := k; cases k; rfl)
    | (subst h; cases k; rfl)
    | (obtain ⟨t, rfl⟩ := h; obtain ⟨_, k⟩ := k; cases k; done)
def Itid (P : Program) (w : World) (d : Addr) (ep n : Nat) : It :=
  ⟨fun i H => ∃ xs, H d = some (DitO P w d xs ep) ∧ xs.length = n ∧ ∃ y v, xs[i]? = some y ∧ RelV v y.2.2,
   fun i H x H' => ∃ T v, x = .ref T ∧ H T = none ∧ ∀ ys, H d = some (DitO P w d ys ep) → ∃ y, ys[i]? = some y ∧ RelV v y.2.2 ∧ H' = upd H T (.tup [.ref y.2.1, v]),
   fun i H => (∃ xs, H d = some (DitO P w d xs ep) ∧ xs.length = n) ∧ n ≤ i⟩
theorem turn_itemsD {P : Program} {w : World} {K : PySem.W.Frag} {elts : List Expr} {kk : Nat} {tpos : Pos} {d : Addr} {ep n : Nat} (it : Addr) : Turn P w K (.Tuple elts kk tpos) (Itid P w d ep n) [it] it (fun i h => ∃ ok ov, IsItemIter h it d i n ep ok ov) where
  mem := by simp
  obj := fun i h st b hb => by
    have e : b = it := by simpa using hb
    subst e
    obtain ⟨ok, ov, e⟩ := st
    exact ⟨_, e, fun v z => nomatch z⟩
  keep := fun i h h' st k => let ⟨ok, ov, e⟩ := st; ⟨ok, ov, k it (by simp) _ e⟩
  item := by
    intro X hP hw hK hc i pins s σ H E I hf st hg
    subst hP hw hK
    obtain ⟨xs, hd, hn, y, v, hy, rv⟩ := hg
    obtain ⟨⟨_, _, _, o, es, h1, h2, h3, h4⟩, _⟩ := I.hok d _ hd
    have hsz : es.size = n := by rw [size_e h4]; exact hn
    have hlt2 : i < es.size := by
      have := (List.getElem?_eq_some_iff.mp hy).1; omega
    have key : ∀ ys, H d = some (DitO X.prog X.w d ys ep) → ∃ y, ys[i]? = some y ∧ es[i].key = .ref y.2.1 ∧ es[i].val = y.2.2 := fun ys hy => by
      obtain ⟨⟨_, _, _, o', es', g1, g2, g3, g4⟩, _⟩ := I.hok d _ hy
      rw [h1] at g1; cases g1
      rw [h3] at g3; cases g3
      have e1 : es.toList[i]? = (ys.map (entryOfKey (nestedKind X.prog X.w)))[i]? := by rw [g4]
      rw [List.getElem?_map, Array.getElem?_toList, Array.getElem?_eq_getElem hlt2] at e1
      cases ey : ys[i]? with
      | none => rw [ey] at e1; cases e1
      | some y =>
        rw [ey] at e1
        have e2 : es[i] = entryOfKey (nestedKind X.prog X.w) y := Option.some.inj e1
        exact ⟨y, rfl, by rw [e2]; rfl, by rw [e2]; rfl⟩
    obtain ⟨y', hy', ky, vy⟩ := key xs hd
    rw [hy] at hy'; cases hy'
    obtain ⟨ok, ov, he⟩ := st
    rw [← hsz] at he
    have hlt : it < s.heap.objs.size := Heap.lt_size he
    refine DT.nextI he ⟨o, h1, h2, h3⟩ hlt2 fun h' ho hT hz hk => ?_
    refine ⟨_, rfl, wpAny_letOwnedTupleGo_items (s := { s with heap := h' }) ho fun h'' he' sb => ?_⟩
    have hT2 : h''.get? s.heap.objs.size = some { cls := .type "tuple", data := .seq #[es[i].key, es[i].val] } := (sb.2 _ (Nat.ne_of_gt hlt)).trans hT
    have new : ObjOk X.prog X.w (upd H s.heap.objs.size (.tup [.ref y.2.1, v])) h'' s.heap.objs.size (.tup [.ref y.2.1, v]) :=
      ⟨by show 2 ≤ sizeLine; decide, [es[i].key, es[i].val], .cons ky (.cons (by rw [vy]; exact rv) .nil), ⟨_, hT2, rfl, _, rfl⟩⟩
    have I1 : L2.Inv X pins σ (upd H s.heap.objs.size (.tup [.ref y.2.1, v])) { s with heap := h'' } :=
      I.turnedNew (t' := s.toks) (ch := [it]) (fun b ob hb e => (sb.2 b (by simpa using hb)).trans (hk b ob (by simpa using hb) e)) hf (Nat.le_refl _) new
    refine ⟨.ref s.heap.objs.size, _, I1, rfl, ⟨s.heap.objs.size, v, rfl, I.hok.fresh (Nat.le_refl _), fun ys hys => ?_⟩, ⟨es[i].key, es[i].val, ?_⟩, fun b hb => ?_⟩
    · obtain ⟨z, hz1, kz, vz⟩ := key ys hys
      rw [ky] at kz
      have kz' : y.2.1 = z.2.1 := by injection kz
      exact ⟨z, hz1, by rw [← vz, vy]; exact rv, by rw [kz']⟩
    · rw [← hsz]; exact he'
    · have e : b = it := by simpa using hb
      rw [e, upd_ne (Nat.ne_of_lt hlt)]
      exact (hf it (by simp)).1
  done := by
    intro X hP hw hK hc i pins s σ H E I hf st hg
    subst hP hw hK
    obtain ⟨⟨xs, hd, hn⟩, hi⟩ := hg
    obtain ⟨f0, f1, f2, f3, f4, f5⟩ := hf it (by simp)
    obtain ⟨⟨_, _, _, o, es, h1, h2, h3, h4⟩, _⟩ := I.hok d _ hd
    have hsz : es.size = n := by rw [size_e h4]; exact hn
    obtain ⟨ok, ov, he⟩ := st
    rw [← hsz] at he
    exact DT.endI (I.ok.hd hc) he ⟨o, h1, h2, h3⟩ (by omega) fun h' eb => ⟨rfl, I.turned (t' := s.toks) (fun b ob hb e => eb b ob hb e) f0 f1 f3 f4 f5⟩
  self := fun A i s Q E st h => let ⟨_, _, e⟩ := st; PySem.W.kcp_self e h
def iti (d : D) (G : Hd) (R : List D → (Hd → Prop) → Hd → Prop) : Prop := match d with
  | .ref a => ∃ kvs ep, G a = some (.dit kvs ep) ∧ R (kvs.map fun p => .tup [p.1, p.2]) (fun G2 => G2 a = some (.dit kvs ep)) G
  | _ => False
def dItI (te : TEd) : TId := fun w σ G R => te w σ G fun d G1 => iti d G1 R
theorem dit_noDict {X : Cx} {pins : List (Addr × Obj)} {σ : St} {H : Hp} {s : Shared} (I : L2.Inv X pins σ H s) {a : Addr} {xs : List (NestedKey × Addr × Value)} {ep : Nat} (e : H a = some (DitO X.prog X.w a xs ep)) :
    s.TypeIs (.ref a) "dict" ∧ ∃ ob, s.heap.get? a = some ob ∧ ob.dict = none := by
  obtain ⟨⟨_, _, _, o, es, h1, h2, _⟩, _⟩ := I.hok a _ e
  exact ⟨⟨o, h1, h2.1⟩, o, h1, h2.2.1⟩
theorem noDict_rfl {o : Obj} {h : Heap} {a : Addr} (e : h.get? a = some o) (d : o.dict = none) : ∀ b, Value.ref a = .ref b → ∃ ob, h.get? b = some ob ∧ ob.dict = none := fun b z => by
  injection z with z
  subst z
  exact ⟨o, e, d⟩
section
variable {X : Cx} {e : Expr} {te : TEd} {apos cpos tpos : Pos} {elts : List Expr} {kk : Nat}
theorem pi_itemsD {td : TE} (he : PE X e td) (hbase : attributeBase e "items" X.env (eval e X.env) = eval e X.env) (hline : (apos.endLine == cpos.line) = true) :
    PI X (.Tuple elts kk tpos) (.Call (.Attribute e "items" apos) [] [] cpos) (fun σ H R => td σ H fun x H1 => ∃ d xs ep, x = .ref d ∧ H1 d = some (DitO X.prog X.w d xs ep) ∧ R (Itid X.prog X.w d ep xs.length) H1) := by
  refine ⟨fun pins s σ H R I h => ?_⟩
  refine wpAny_Call_method (T := "dict") (id := "dict.items") hbase rfl hline PySem.F.plainAttrs_dict PySem.F.slot_dict_items PySem.F.type_dict_items (thn (he.run pins s σ H _ I h) fun u s1 ⟨x, H1, I1, rx, d, xs, ep, ex, hd, q⟩ => ?_)
  subst ex
  obtain rfl : u = Value.ref d := rx
  obtain ⟨⟨_, hs, _, o, es, h1, h2, h3, h4⟩, _⟩ := I1.hok d _ hd
  have hm : DT.Raw s1.heap d es ep := ⟨o, h1, h2, h3⟩
  refine ⟨hm.typeIs, noDict_rfl h1 h2.2.1, ?_⟩
  have I2 : L2.Inv X pins σ H1 { s1 with heap := s1.heap.push { cls := .type "dict_items", data := .fields #[.ref d] } } := I1.kept (t' := s1.toks) fun b ob q => Heap.get?_push_of_some _ q
  have fin : wpAny (model X.prog X.w) X.A (pyIter (.ref s1.heap.objs.size)) (PIE X pins σ (.Tuple elts kk tpos) R) X.xe { s1 with heap := s1.heap.push { cls := .type "dict_items", data := .fields #[.ref d] } } := by
    refine DT.iterI (d := d) (es := es) (ep := ep) ⟨_, Heap.get?_push_size _ rfl, rfl, rfl⟩ (hm.push _) (pi_one (tk := s1.toks) I2 _ (turn_itemsD _) ⟨.none, .none, ?_⟩ q)
    rw [← size_e h4]
    exact Heap.get?_push_size _ rfl
  show wpAny _ _ (callWith cpos (.builtin "dict.items") [.ref d] [] []) _ X.xe s1
  exact method_meetsIn PySem.F.slot_dict_items PySem.F.entry_dict_items rfl (PySem.evalArgs_none ⟨rfl, hm.typeIs, PySem.F.args_dict_items_1 _, _, DT.meetsItems (es := es) (ep := ep) hs, hm, fin⟩)
theorem ditR_at {K : Kt} {H : Hp} : ∀ {kvs : List (D × D)} {xs : List (NestedKey × Addr × Value)} {i : Nat} {y : NestedKey × Addr × Value}, DitR K H kvs xs → xs[i]? = some y → ∃ p v, kvs[i]? = some p ∧ Rp K H p.1 (.ref y.2.1) ∧ Rp K H p.2 v ∧ RelV v y.2.2
  | _, _, i, _, .nil, h => by simp at h
  | _, _, 0, _, .cons _ _ h3 h4 h5 _, h => by simp at h; subst h; exact ⟨_, _, rfl, h3, h4, h5⟩
  | _, _, i + 1, _, .cons _ _ _ _ _ q, h => by simp at h; simpa using ditR_at q h
theorem di_itemsD (he : DE X e te) (hbase : ∀ m, attributeBase e m X.env (eval e X.env) = eval e X.env) (hline : (apos.endLine == cpos.line) = true) : DI X (.Tuple elts kk tpos) (.Call (.Attribute e "items" apos) [] [] cpos) (dItI te) := fun W tk =>
  PIi (pi_itemsD (he W tk) (hbase _) hline) fun σ H R ⟨σd, G, r, w, sr, gr, h, ok, cw⟩ => ⟨σd, G, _, w, sr, gr, h, fun v d H1 G1 t1 gr1 r1 h1 => by
    simp only [iti] at h1
    split at h1
    · rename_i a
      obtain ⟨kvs, ep, eg, h1⟩ := h1
      cases r1
      obtain ⟨xs, ha, rx⟩ := gr1 _ _ eg
      refine ⟨a, xs, ep, rfl, ha, ok _ _ _ _ _ t1 gr1 ?_ h1⟩
      intro i H2 G2 t2 gr2 st
      obtain ⟨ys, hy, ry⟩ := gr2 _ _ st
      have l1 := ditR_len rx
      have l2 := ditR_len ry
      rw [List.length_map]
      refine ⟨fun hi => ?_, fun hi => ⟨⟨ys, hy, by omega⟩, by omega⟩⟩
      obtain ⟨y, ey⟩ : ∃ y, ys[i]? = some y := ⟨_, List.getElem?_eq_getElem (by omega)⟩
      obtain ⟨p, v, ep', rp, rq, rv⟩ := ditR_at ry ey
      refine ⟨⟨ys, hy, by omega, y, v, ey, rv⟩, fun x H3 ⟨T, v', ex, hT, hx⟩ => ?_⟩
      subst ex
      obtain ⟨z, ez, rz, e3⟩ := hx ys hy
      rw [ey] at ez; cases ez
      cases relV_inj rz rv
      subst e3
      have tt : Tm (kt X) H2 (upd H2 T (.tup [.ref y.2.1, v])) := Tm.new hT
      exact ⟨tt, gr2.keep hT, .tup [p.1, p.2], by rw [List.getElem?_map, ep']; rfl, .tup (.inl (.inl upd_same)) (.cons (rp.mono tt) (.cons (rq.mono tt) .nil))⟩
    · exact h1.elim, cw⟩
end
/-! ## methods of such a dict -/
def tyW (X : Cx) (T : String) (x : V) (H : Hp) : Prop := T = "dict" ∧ ∃ p xs ep, x = .ref p ∧ H p = some (DitO X.prog X.w p xs ep)
section
variable {X : Cx} {o e : Expr} {es : List Expr} {to : TE} {t : TA} {name : Str} {apos cpos : Pos} {T id : String} {r : V → List V → Hp → VK → Prop}
theorem tyW_is {pins : List (Addr × Obj)} {σ : St} {H : Hp} {s : Shared} {x : V} {v : Value} (I : L2.Inv X pins σ H s) (q : RelV x v) (ty : tyW X T x H) : s.TypeIs v T ∧ ∀ a, v = .ref a → ∃ ob, s.heap.get? a = some ob ∧ ob.dict = none := by
  obtain ⟨rfl, p, xs, ep, rfl, h⟩ := ty
  cases (show v = Value.ref p from q)
  obtain ⟨h1, ob, h2, h3⟩ := dit_noDict I h
  exact ⟨h1, noDict_rfl h2 h3⟩
def tBMW (X : Cx) (T : String) (r : V → List V → Hp → VK → Prop) (to : TE) (t : TA) : TE := fun σ H Q => to σ H fun x H1 => tyW X T x H1 ∧ t σ H1 fun xs H2 => r x xs H2 Q
theorem pe_bmW (pa : PlainAttrs T) (slot : Slot T name id) (hty : typeOf (.builtin id) = pure (.type "method_descriptor")) (hm : MtR X id r) (ho : PE X o to) (ha : PA X (e :: es) t)
    (hbase : attributeBase o name X.env (eval o X.env) = eval o X.env)
    (hfew : ((backTo cpos (starEach (e :: es) X.env)).all (fun x => !x.1) && (backToKw cpos (keywordEach [] X.env)).all (fun x => x.1.isSome)
      && decide ((e :: es).length + ([] : List Keyword).length + (if ([] : List Keyword).isEmpty then 0 else 1) < 30)) = true)
    (hline : (apos.endLine == cpos.line) = true) (hs : starEach (e :: es) X.env = (false, eval e X.env) :: starEach es X.env) (hplain : (backTo cpos (starEach es X.env)).any (·.1) = false) :
    PE X (.Call (.Attribute o name apos) (e :: es) [] cpos) (tBMW X T r to t) := by
  refine ⟨fun pins s σ H Q I h => ?_⟩
  refine wpAny_Call_method_late hbase hfew hline rfl (thn (ho.run pins s σ H _ I h) fun v s1 ⟨x, H1, I1, r1, ty, q1⟩ => ?_)
  obtain ⟨h1, h2⟩ := tyW_is I1 r1 ty
  refine ⟨T, id, pa, slot, hty, h1, h2, ?_⟩
  have hA := ha.run cpos pins s1 σ H1 _ I1 q1
  rw [hs] at hA ⊢
  refine Calls.callWith_builtin (by show (false || (backTo cpos (starEach es X.env)).any (·.1)) = false; rw [hplain] <;> rfl) (Calls.evalArgs_plain ?_)
  exact thn hA fun us s2 ⟨vs, H2, I2, r2, q2⟩ => hm pins s2 σ H2 x vs v us Q I2 r1 r2 q2
end
/-- d.get(k, x) -/
def getD : RMd := fun x ds G Q => match x, ds with
  | .ref a, [.tup ks, y] => ∃ kvs ep, G a = some (.dit kvs ep) ∧ keyOk (.tup ks) ∧ Q ((valT kvs (.tup ks)).getD y) G
  | _, _ => False
/-- d.setdefault(k, x) -/
def setdD : RMd := fun x ds G Q => match x, ds with
  | .ref a, [.tup ks, y] => ∃ kvs ep, G a = some (.dit kvs ep) ∧ keyOk (.tup ks) ∧ kvs.length < sizeLine ∧ (∀ d, valT kvs (.tup ks) = some d → Q d G) ∧ (valT kvs (.tup ks) = none → ∀ ep', Q y (st G a (.dit (kvs ++ [(.tup ks, y)]) ep')))
  | _, _ => False
def ditD (x : D) (G : Hd) : Prop := match x with
  | .ref a => ∃ kvs ep, G a = some (.dit kvs ep)
  | _ => False
def dDm (r : RMd) (to : TEd) (t : TAd) : TEd := fun w σ G Q => to w σ G fun x G1 => ditD x G1 ∧ t w σ G1 fun ds G2 => r x ds G2 Q
section
variable {X : Cx} {o e : Expr} {es : List Expr} {to : TEd} {tes : TAd} {name : Str} {apos cpos : Pos} {id : String} {r : RMd}
theorem de_dm (slot : Slot "dict" name id) (hty : typeOf (.builtin id) = pure (.type "method_descriptor")) (hm : MtM X id (liftM (kt X) r)) (ho : DE X o to) (ha : DA X (e :: es) tes)
    (hbase : attributeBase o name X.env (eval o X.env) = eval o X.env) (hline : (apos.endLine == cpos.line) = true) (hs : (e :: es).all unstarE = true)
    (hfew : ((backTo cpos (starEach (e :: es) X.env)).all (fun x => !x.1) && (backToKw cpos (keywordEach [] X.env)).all (fun x => x.1.isSome)
      && decide ((e :: es).length + ([] : List Keyword).length + (if ([] : List Keyword).isEmpty then 0 else 1) < 30)) = true) : DE X (.Call (.Attribute o name apos) (e :: es) [] cpos) (dDm r to tes) := fun W tk => by
  simp only [List.all_cons, Bool.and_eq_true] at hs
  refine PEi (pe_bmW PySem.F.plainAttrs_dict slot hty hm (ho W tk) (ha W tk) hbase hfew hline (star_ok hs.1) (plain_ok hs.2)) fun σ H Q ⟨σd, G, q, w, sr, gr, h, cl, cw⟩ => ?_
  refine ⟨σd, G, _, w, sr, gr, h, fun v d H1 G1 t1 gr1 r1 ⟨ty, h1⟩ => ⟨?_, σd, G1, _, w, sr.mono t1, gr1, h1, fun vs ds H2 G2 t2 gr2 r2 h2 =>
    ⟨d, ds, G2, q, r1.mono t2, r2, gr2, h2, cl.mono (t1.trans t2)⟩, cw.mono t1⟩, cw⟩
  unfold ditD at ty
  split at ty
  · obtain ⟨kvs, ep, eg⟩ := ty
    cases r1
    obtain ⟨xs, ha, _⟩ := gr1 _ _ eg
    exact ⟨rfl, _, xs, ep, rfl, ha⟩
  · exact ty.elim
theorem md_get (hu : X.A.units + 10 < cLine) : MtM X "dict.get" (liftM (kt X) getD) := by
  intro pins s σ H x vs v us Q I rx rv ⟨dx, ds, G, q, r1, rs, gr, h, cl⟩
  unfold getD at h
  split at h
  · obtain ⟨kvs, ep, eg, ko, h⟩ := h
    cases r1
    obtain ⟨kv, yv, rfl, rk, ry⟩ := rs.two
    obtain ⟨xs, ha, rxs⟩ := gr _ _ eg
    obtain ⟨dd, hz, hs0⟩ := dit_of I ha rxs
    obtain ⟨nk, hk, hdp⟩ := keyOk_ok ko
    obtain ⟨b, ws, rfl, sb, rb⟩ := rk.tup_inv
    cases rv with
    | cons q1 q2 =>
      cases q2 with
      | cons q2 q3 =>
        cases q3
        cases (show v = Value.ref _ from rx)
        rw [show _ = Value.ref _ from q1]
        refine getOr_keyed (knd := nestedKind X.prog X.w) (k := nk) (by show X.A.units + 1 + 8 < cLine; omega) ⟨nest_of I hk rk rfl, hdp⟩ hs0 ⟨xs, dd, rfl⟩ ?_
        rw [valueAt_pairsH]
        obtain ⟨i1, i2⟩ := rxs.val hk
        cases e : valT kvs _ with
        | none =>
          rw [e] at h
          rw [i2 e]
          exact ⟨yv, H, I.tok _, q2, cl _ _ _ _ Tm.refl gr ry h⟩
        | some d =>
          rw [e] at h
          obtain ⟨p, v', hp, rv', rel⟩ := i1 d e
          rw [hp]
          exact ⟨v', H, I.tok _, rel, cl _ _ _ _ Tm.refl gr rv' h⟩
  · exact h.elim
end
end S

set_option Elab.async false
set_option linter.all false
set_option maxRecDepth 100000
set_option maxHeartbeats 4000000
namespace S
open PySem PySem.Spec L2
open PyProof.Rows hiding St
/-! ## dicts whose keys are whole numbers -/
def valK (kvs : List (Int × D)) (i : Int) : Option D := (kvs.find? fun kv => decide (kv.1 = i)).map (·.2)
def putK (kvs : List (Int × D)) (i : Int) (d : D) : List (Int × D) := if kvs.any (fun kv => decide (kv.1 = i)) then kvs.map (fun kv => if kv.1 = i then (kv.1, d) else kv) else kvs ++ [(i, d)]
theorem putK_len {kvs : List (Int × D)} {i : Int} {d : D} : (putK kvs i d).length ≤ kvs.length + 1 := by
  unfold putK; split
  · simp
  · simp
section
variable {K : Kt} {H : Hp}
theorem DikR.len : ∀ {kvs : List (Int × D)} {xs : List (Int × Value)}, DikR K H kvs xs → kvs.length = xs.length
  | _, _, .nil => rfl
  | _, _, .cons _ _ q => by simp [DikR.len q]
theorem DikR.val {i : Int} : ∀ {kvs : List (Int × D)} {xs : List (Int × Value)}, DikR K H kvs xs → (∀ d, valK kvs i = some d → ∃ u v, valueAt xs i = some u ∧ Rp K H d v ∧ RelV v u) ∧ (valK kvs i = none → valueAt xs i = none)
  | _, _, .nil => ⟨fun d h => (by cases h), fun _ => rfl⟩
  | _, _, @DikR.cons _ _ j d v u r s h1 h2 q => by
    obtain ⟨i1, i2⟩ := DikR.val (i := i) q
    by_cases e : j = i
    · refine ⟨fun d' hd => ?_, fun hd => ?_⟩
      · simp [valK, List.find?_cons, e] at hd
        subst hd
        exact ⟨u, v, by simp [valueAt, List.find?_cons, e], h1, h2⟩
      · simp [valK, List.find?_cons, e] at hd
    · refine ⟨fun d' hd => ?_, fun hd => ?_⟩
      · have hd : valK r i = some d' := by simpa [valK, List.find?_cons, e] using hd
        obtain ⟨u, v, e1, e2⟩ := i1 d' hd
        exact ⟨u, v, by simpa [valueAt, List.find?_cons, e] using e1, e2⟩
      · have hd : valK r i = none := by simpa [valK, List.find?_cons, e] using hd
        simpa [valueAt, List.find?_cons, e] using i2 hd
theorem DikR.isS {i : Int} {kvs : List (Int × D)} {xs : List (Int × Value)} (r : DikR K H kvs xs) : (valK kvs i).isSome = (valueAt xs i).isSome := by
  obtain ⟨i1, i2⟩ := r.val (i := i)
  cases e : valK kvs i with
  | none => rw [i2 e]; rfl
  | some d => obtain ⟨u, v, e1, _⟩ := i1 d e; rw [e1]; rfl
theorem DikR.any {i : Int} : ∀ {kvs : List (Int × D)} {xs : List (Int × Value)}, DikR K H kvs xs → (kvs.any fun kv => decide (kv.1 = i)) = xs.any fun kv => decide (kv.1 = i)
  | _, _, .nil => rfl
  | _, _, .cons _ _ q => by simp only [List.any_cons, DikR.any q]
theorem DikR.repl {i : Int} {d : D} {v : V} {u : Value} (hd : Rp K H d v) (hv : RelV v u) : ∀ {kvs : List (Int × D)} {xs : List (Int × Value)}, DikR K H kvs xs → DikR K H (kvs.map fun kv => if kv.1 = i then (kv.1, d) else kv) (xs.map fun kv => if kv.1 = i then (kv.1, u) else kv)
  | _, _, .nil => .nil
  | _, _, @DikR.cons _ _ j d' v' u' r s h1 h2 q => by
    have ih := DikR.repl (i := i) hd hv q
    rw [List.map_cons, List.map_cons]
    by_cases e : j = i
    · simp only [e, if_true]
      exact .cons hd hv ih
    · simp only [e, if_false]
      exact .cons h1 h2 ih
theorem DikR.snoc {i : Int} {d : D} {v : V} {u : Value} (hd : Rp K H d v) (hv : RelV v u) : ∀ {kvs : List (Int × D)} {xs : List (Int × Value)}, DikR K H kvs xs → DikR K H (kvs ++ [(i, d)]) (xs ++ [(i, u)])
  | _, _, .nil => .cons hd hv .nil
  | _, _, .cons h1 h2 q => .cons h1 h2 (DikR.snoc hd hv q)
theorem DikR.put {i : Int} {d : D} {v : V} {u : Value} {kvs : List (Int × D)} {xs : List (Int × Value)} (r : DikR K H kvs xs) (hd : Rp K H d v) (hv : RelV v u) : DikR K H (putK kvs i d) (stored xs i u) := by
  unfold putK stored
  rw [r.any]
  split
  · exact r.repl hd hv
  · exact r.snoc hd hv
theorem DikR.get : ∀ {kvs : List (Int × D)} {xs : List (Int × Value)} {i : Nat} {y : Int × Value}, DikR K H kvs xs → xs[i]? = some y → ∃ p v, kvs[i]? = some p ∧ p.1 = y.1 ∧ Rp K H p.2 v ∧ RelV v y.2
  | _, _, i, _, .nil, h => by simp at h
  | _, _, 0, _, .cons h1 h2 _, h => by simp at h; subst h; exact ⟨_, _, rfl, rfl, h1, h2⟩
  | _, _, i + 1, _, .cons _ _ q, h => by simp at h; simpa using DikR.get q h
end
theorem prs_get {P : Program} {w : World} : ∀ {es : List DictEntry} {xs : List (Int × Value)} {i : Nat} {e : DictEntry}, Pairs (intKind P w) es xs → es[i]? = some e → ∃ y t, xs[i]? = some y ∧ e.key = .int y.1 t ∧ e.val = y.2
  | _, _, i, _, .nil, h => by simp at h
  | _, _, 0, _, .cons h1 h2 _, h => by
    simp at h; subst h
    obtain ⟨t, ht⟩ := Value.isInt_shape h1
    exact ⟨_, t, rfl, ht, h2⟩
  | _, _, i + 1, _, .cons _ _ q, h => by simp at h; simpa using prs_get q h
section
variable {X : Cx} {pins : List (Addr × Obj)} {σ : St} {H : Hp} {s : Shared}
theorem dik_of (I : L2.Inv X pins σ H s) {a : Addr} {xs : List (Int × Value)} {ep : Nat} (e : H a = some (DikO X.prog X.w a xs ep)) :
    s.heap.DictOf (intKind X.prog X.w) a xs ∧ xs.length ≤ sizeLine ∧ (a == sysModules) = false := by
  obtain ⟨⟨l, hs, o, es, h1, h2, h3, h4, h5, h6⟩, _⟩ := I.hok a _ e
  exact ⟨⟨o, es, ep, h1, h2, h3, h4, h5, h6⟩, l, hs⟩
end
theorem dikO_ok {P : Program} {w : World} {H : Hp} {h : Heap} {a : Addr} {xs : List (Int × Value)} {ep : Nat} (p : DikP P w a xs ep h) : ObjOk P w H h a (DikO P w a xs ep) := by
  obtain ⟨l, hs, o, es, h1, r⟩ := id p
  refine ⟨p, ⟨o, h1⟩, ?_⟩
  rintro g1 g2 ⟨l, hs, o, es, e1, r⟩ k
  exact ⟨l, hs, o, es, k o e1, r⟩
def dKnew : TEd := fun _ _ G Q => ∀ p, G p = none → Q (.ref p) (st G p (.dik [] 0))
theorem dikO_new {P : Program} {w : World} {H : Hp} (h : Heap) (hb : sysModules < h.objs.size) : ObjOk P w H (h.push { cls := .type "dict", data := .dict #[] }) h.objs.size (DikO P w h.objs.size [] 0) :=
  dikO_ok ⟨Nat.zero_le _, beq_eq_false_iff_ne.mpr (Ne.symm (Nat.ne_of_lt hb)), _, #[], Heap.get?_push_size _ rfl, ⟨rfl, rfl, rfl⟩, rfl, fun _ he => by simp at he, Pairs.nil, List.nodup_nil⟩
section
variable {X : Cx} {pos : Pos}
theorem pe_knewD : PE X (.Dict [] [] pos) (fun _ H Q => ∀ p, H p = none → Q (.ref p) (upd H p (DikO X.prog X.w p [] 0))) := ⟨fun pins s σ H Q I h =>
  wpAny_Dict_empty ⟨.ref s.heap.objs.size, _, I.laid (a := s.heap.objs.size) (o := DikO X.prog X.w s.heap.objs.size [] 0) (t' := s.toks) (fun _ _ q => Heap.get?_push_of_some _ q) (Nat.le_refl _) (dikO_new s.heap I.big), rfl, h _ (I.hok.fresh (Nat.le_refl _))⟩⟩
theorem de_knew : DE X (.Dict [] [] pos) dKnew := fun W tk => PEi pe_knewD fun σ H Q ⟨σd, G, q, w, sr, gr, h, cl, cw⟩ p hp =>
  cl _ _ _ _ (Tm.new hp) (gr.new (u := .dik [] 0) hp ⟨[], upd_same, .nil⟩) (.ref p) (h p (gr.free hp))
/-! d[i] -/
def ixK : R2d := fun x y G Q => match x, y with
  | .ref a, .int i => (∃ xs, seqG G a xs ∧ ∃ d, atI xs i = some d ∧ Q d G) ∨ ∃ kvs ep, G a = some (.dik kvs ep) ∧ ∃ d, valK kvs i = some d ∧ Q d G
  | x, y => ixD x y G Q
theorem ix_dik {value slice : Expr} {pins : List (Addr × Obj)} {s : Shared} {σ : St} {H : Hp} {a : Addr} {i : Int} {u : Value} {G : Hd} {kvs : List (Int × D)} {ep : Nat} {d : D} {q : Qd} {Q : VK} (I : L2.Inv X pins σ H s) (ry : RelV (.int i) u)
    (gr : GR (kt X) G H) (e : G a = some (.dik kvs ep)) (hv : valK kvs i = some d) (h : q d G) (cl : CQ (kt X) H Q q) (hs : subscripted slice false (.ref a) u = operate [.ref a, u] (getItem (.ref a) u)) :
    wpAny (model X.prog X.w) X.A (subscriptTail value slice (.ref a) u) (EP X pins σ Q) X.xe s := by
  obtain ⟨xs, ha, r⟩ := gr _ _ e
  obtain ⟨dd, hl, hs0⟩ := dik_of I ha
  obtain ⟨t, rfl⟩ := ry
  obtain ⟨p, v, hp, rv, rel⟩ := (r.val (i := i)).1 d hv
  have hT : s.TypeIs (.ref a) "dict" := dd.typeIs
  unfold subscriptTail
  refine wpAny_bind ?_
  rw [getitemInPython_of_ne hT.not_modules]
  refine wpAny_bind (wpAny_specialOf hT PySem.F.slot_dict_getitem.lookup ?_)
  have get : wpAny (model X.prog X.w) X.A (getItem (.ref a) (.int i t)) (EP X pins σ Q) X.xe s :=
    wpAny_getItem_of (knd := intKind X.prog X.w) (k := i) (intKind_is _ _ i t) dd.mapOf hp ⟨v, H, I.tok _, rel, cl _ _ _ _ Tm.refl gr rv h⟩
  have fin : wpAny (model X.prog X.w) X.A (subscripted slice false (.ref a) (.int i t)) (fun r s₃ => wpAny (model X.prog X.w) X.A (letTemporaryGo value (.ref a) r >>= fun _ => pure r) (EP X pins σ Q) X.xe s₃) X.xe s := by
    rw [hs]
    exact wpAny_operating (wpAny_mono get (fun r s₃ h₃ => wpAny_bind (wpAny_letTemporaryGo (wpAny_pure h₃))) fun _ _ x => x)
  first
    | exact wpAny_pure (wpAny_bind fin)
    | exact wpAny_bind (wpAny_pure (wpAny_bind fin))
    | exact wpAny_bind fin
theorem ixk (hu : X.A.units + 9 < cLine) : IxR X (lift2 (kt X) ixK) := by
  intro value slice pins s σ H x y v u Q I rx ry ⟨dx, dy, G, q, r1, r2, gr, h, cl⟩ hs
  unfold ixK at h
  split at h
  · rcases h with ⟨xs, sq, d, e, h⟩ | ⟨kvs, ep, e, d, hv, h⟩
    · cases r1; cases r2
      obtain ⟨vs, sa, ra⟩ := seq_of gr sq
      obtain ⟨z, ez, rz⟩ := atI_rps ra e
      exact ix_list value slice pins s σ H _ _ v u Q I rx ry ⟨_, vs, _, z, rfl, rfl, sa, ez, cl _ _ _ _ Tm.refl gr rz h⟩ hs
    · cases r1; cases r2
      cases (show v = Value.ref _ from rx)
      exact ix_dik I ry gr e hv h cl hs
  · exact ixd hu value slice pins s σ H x y v u Q I rx ry ⟨_, _, G, q, r1, r2, gr, h, cl⟩ hs
theorem de_ixK {a b : Expr} {ta tb : TEd} {pos : Pos} (hu : X.A.units + 9 < cLine) (ha : DE X a ta) (hb : DE X b tb) (hs : PlainIx b) : DE X (.Subscript a b pos) (dOp ixK ta tb) := fun W tk =>
  PEi (pe_ix (ixk hu) (ha W tk) (hb W tk) hs) op_read
/-! d[i] = v -/
def setK : D → D → D → Hd → (Hd → Prop) → Prop := fun o i v G Q => setD o i v G Q ∨ ∃ a k, o = .ref a ∧ i = .int k ∧ ∃ kvs ep, G a = some (.dik kvs ep) ∧ kvs.length < sizeLine ∧ ∀ ep', Q (st G a (.dik (putK kvs k v) ep'))
theorem dik_put {pins : List (Addr × Obj)} {s : Shared} {σ : St} {H : Hp} {a : Addr} {i : Int} {G : Hd} {kvs : List (Int × D)} {ep : Nat} {d : D} {vv : V} {u2 : Value} {xs : List (Int × Value)} {h' : Heap} {tk : Nat} (I : L2.Inv X pins σ H s) (ha : H a = some (DikO X.prog X.w a xs ep)) (r : DikR (kt X) H kvs xs) (gr : GR (kt X) G H)
    (r3 : Rp (kt X) H d vv) (rv : RelV vv u2) (hl : kvs.length < sizeLine) (dd' : h'.DictOf (intKind X.prog X.w) a (stored xs i u2)) (hs : Heap.SameBut a s.heap h') :
    ∃ H' ep', L2.Inv X pins σ H' { s with heap := h', toks := tk } ∧ Tm (kt X) H H' ∧ GR (kt X) (st G a (.dik (putK kvs i d) ep')) H' := by
  obtain ⟨o, es, ep', h1, h2, h3, h4, h5, h6⟩ := dd'
  obtain ⟨_, _, hs0⟩ := dik_of I ha
  have rp := r.put (i := i) r3 rv
  have hl2 : (stored xs i u2).length ≤ sizeLine := by rw [← rp.len]; have := putK_len (kvs := kvs) (i := i) (d := d); omega
  have t : Tm (kt X) H (upd H a (DikO X.prog X.w a (stored xs i u2) ep')) := Tm.put fun u q => by rw [ha] at q; cases q; exact fun z => z
  exact ⟨_, ep', d_write I (by rw [ha]; exact True.intro) hs ⟨o, h1⟩ (dikO_ok ⟨hl2, hs0, o, es, h1, h2, h3, h4, h5, h6⟩), t, gr.set (u := .dik (putK kvs i d) ep') t ⟨_, upd_same, rp.mono t⟩⟩
theorem psetk (hu : X.A.units + 9 < cLine) : PSet X (lift3 (kt X) setK) := by
  intro pins s σ H o i v ov iv u Q I ro ri rv ⟨d1, d2, d3, G, q, r1, r2, r3, gr, h, cl⟩
  rcases h with h | ⟨a, k, rfl, rfl, kvs, ep, e, hl, h⟩
  · exact psetd hu pins s σ H o i v ov iv u Q I ro ri rv ⟨d1, d2, d3, G, q, r1, r2, r3, gr, h, cl⟩
  · cases r1; cases r2
    cases (show ov = Value.ref _ from ro)
    obtain ⟨t, rfl⟩ := ri
    obtain ⟨xs, ha, r⟩ := gr _ _ e
    obtain ⟨dd, hz, hs0⟩ := dik_of I ha
    refine wpAny_setItem_pairs (knd := intKind X.prog X.w) (hsz := hz) (k := k) (intKind_is _ _ k t) dd fun h' dd' hs => ?_
    obtain ⟨H', ep', I', t, gr'⟩ := dik_put (tk := s.toks + 1) I ha r gr r3 rv hl dd' hs
    exact ⟨H', I', cl _ _ t gr' (h ep')⟩
/-! in -/
def inJ (neg : Bool) : R2d := fun x y G Q => inD neg x y G Q ∨ ∃ a i, x = .int i ∧ y = .ref a ∧ ∃ kvs ep, G a = some (.dik kvs ep) ∧ Q (.bl (neg ^^ (valK kvs i).isSome)) G
theorem od_inJ (neg : Bool) (hu : X.A.units + 64 < cLine) (hu2 : X.A.units + 65 < cLine) : OpD X (compareOp (if neg then .NotIn else .In)) (inJ neg) := by
  intro pins s σ H x y v u Q I rx ry ⟨dx, dy, G, q, r1, r2, gr, h, cl⟩
  rcases h with h | ⟨a, i, rfl, rfl, kvs, ep, e, h⟩
  · exact od_inB neg hu hu2 pins s σ H x y v u Q I rx ry ⟨dx, dy, G, q, r1, r2, gr, h, cl⟩
  · cases r1; cases r2
    cases (show u = Value.ref _ from ry)
    obtain ⟨t, rfl⟩ := rx
    obtain ⟨xs, ha, r⟩ := gr _ _ e
    obtain ⟨dd, hz, hs0⟩ := dik_of I ha
    rw [r.isS] at h
    cases neg with
    | false => exact wpAny_in_of (knd := intKind X.prog X.w) (k := i) (intKind_is _ _ i t) hs0 dd.mapOf ⟨.bl _, H, I.tok _, rfl, cl _ _ _ _ Tm.refl gr (.bl _) (by simpa using h)⟩
    | true => exact wpAny_notIn_of (knd := intKind X.prog X.w) (k := i) (intKind_is _ _ i t) hs0 dd.mapOf ⟨.bl _, H, I.tok _, rfl, cl _ _ _ _ Tm.refl gr (.bl _) (by rw [xor_t] at h; exact h)⟩
end
/-! ## methods of such a dict -/
def dikD (x : D) (G : Hd) : Prop := match x with
  | .ref a => ∃ kvs ep, G a = some (.dik kvs ep)
  | _ => False
def tyJ (X : Cx) (x : V) (H : Hp) : Prop := ∃ p xs ep, x = .ref p ∧ H p = some (DikO X.prog X.w p xs ep)
def tBMJ (X : Cx) (r : V → List V → Hp → VK → Prop) (to : TE) (t : TA) : TE := fun σ H Q => to σ H fun x H1 => tyJ X x H1 ∧ t σ H1 fun xs H2 => r x xs H2 Q
def dKm (r : RMd) (to : TEd) (t : TAd) : TEd := fun w σ G Q => to w σ G fun x G1 => dikD x G1 ∧ t w σ G1 fun ds G2 => r x ds G2 Q
section
variable {X : Cx} {o e : Expr} {es : List Expr} {to : TE} {t : TA} {name : Str} {apos cpos : Pos} {id : String} {r : V → List V → Hp → VK → Prop}
theorem tyJ_is {pins : List (Addr × Obj)} {σ : St} {H : Hp} {s : Shared} {x : V} {v : Value} (I : L2.Inv X pins σ H s) (q : RelV x v) (ty : tyJ X x H) : s.TypeIs v "dict" ∧ ∀ a, v = .ref a → ∃ ob, s.heap.get? a = some ob ∧ ob.dict = none := by
  obtain ⟨p, xs, ep, rfl, h⟩ := ty
  cases (show v = Value.ref p from q)
  obtain ⟨dd, _⟩ := dik_of I h
  obtain ⟨o, es, ep, h1, h2, _⟩ := id dd
  exact ⟨dd.typeIs, noDict_rfl h1 h2.2.1⟩
theorem pe_bmJ (slot : Slot "dict" name id) (hty : typeOf (.builtin id) = pure (.type "method_descriptor")) (hm : MtR X id r) (ho : PE X o to) (ha : PA X (e :: es) t)
    (hbase : attributeBase o name X.env (eval o X.env) = eval o X.env)
    (hfew : ((backTo cpos (starEach (e :: es) X.env)).all (fun x => !x.1) && (backToKw cpos (keywordEach [] X.env)).all (fun x => x.1.isSome)
      && decide ((e :: es).length + ([] : List Keyword).length + (if ([] : List Keyword).isEmpty then 0 else 1) < 30)) = true)
    (hline : (apos.endLine == cpos.line) = true) (hs : starEach (e :: es) X.env = (false, eval e X.env) :: starEach es X.env) (hplain : (backTo cpos (starEach es X.env)).any (·.1) = false) :
    PE X (.Call (.Attribute o name apos) (e :: es) [] cpos) (tBMJ X r to t) := by
  refine ⟨fun pins s σ H Q I h => ?_⟩
  refine wpAny_Call_method_late hbase hfew hline rfl (thn (ho.run pins s σ H _ I h) fun v s1 ⟨x, H1, I1, r1, ty, q1⟩ => ?_)
  obtain ⟨h1, h2⟩ := tyJ_is I1 r1 ty
  refine ⟨"dict", id, PySem.F.plainAttrs_dict, slot, hty, h1, h2, ?_⟩
  have hA := ha.run cpos pins s1 σ H1 _ I1 q1
  rw [hs] at hA ⊢
  refine Calls.callWith_builtin (by show (false || (backTo cpos (starEach es X.env)).any (·.1)) = false; rw [hplain] <;> rfl) (Calls.evalArgs_plain ?_)
  exact thn hA fun us s2 ⟨vs, H2, I2, r2, q2⟩ => hm pins s2 σ H2 x vs v us Q I2 r1 r2 q2
end
section
variable {X : Cx} {o e : Expr} {es : List Expr} {to : TEd} {tes : TAd} {name : Str} {apos cpos : Pos} {id : String} {r : RMd}
theorem dik_ty {σ : St} {v : V} {d : D} {H1 : Hp} {G1 : Hd} (gr1 : GR (kt X) G1 H1) (r1 : Rp (kt X) H1 d v) (ty : dikD d G1) : tyJ X v H1 := by
  unfold dikD at ty
  split at ty
  · obtain ⟨kvs, ep, eg⟩ := ty
    cases r1
    obtain ⟨xs, ha, _⟩ := gr1 _ _ eg
    exact ⟨_, xs, ep, rfl, ha⟩
  · exact ty.elim
theorem de_km (slot : Slot "dict" name id) (hty : typeOf (.builtin id) = pure (.type "method_descriptor")) (hm : MtM X id (liftM (kt X) r)) (ho : DE X o to) (ha : DA X (e :: es) tes)
    (hbase : attributeBase o name X.env (eval o X.env) = eval o X.env) (hline : (apos.endLine == cpos.line) = true) (hs : (e :: es).all unstarE = true)
    (hfew : ((backTo cpos (starEach (e :: es) X.env)).all (fun x => !x.1) && (backToKw cpos (keywordEach [] X.env)).all (fun x => x.1.isSome)
      && decide ((e :: es).length + ([] : List Keyword).length + (if ([] : List Keyword).isEmpty then 0 else 1) < 30)) = true) : DE X (.Call (.Attribute o name apos) (e :: es) [] cpos) (dKm r to tes) := fun W tk => by
  simp only [List.all_cons, Bool.and_eq_true] at hs
  refine PEi (pe_bmJ slot hty hm (ho W tk) (ha W tk) hbase hfew hline (star_ok hs.1) (plain_ok hs.2)) fun σ H Q ⟨σd, G, q, w, sr, gr, h, cl, cw⟩ => ?_
  exact ⟨σd, G, _, w, sr, gr, h, fun v d H1 G1 t1 gr1 r1 ⟨ty, h1⟩ => ⟨dik_ty (σ := σ) gr1 r1 ty, σd, G1, _, w, sr.mono t1, gr1, h1, fun vs ds H2 G2 t2 gr2 r2 h2 =>
    ⟨d, ds, G2, q, r1.mono t2, r2, gr2, h2, cl.mono (t1.trans t2)⟩, cw.mono t1⟩, cw⟩
/-- d.get(i, x) -/
def getK : RMd := fun x ds G Q => match x, ds with
  | .ref a, [.int i, y] => ∃ kvs ep, G a = some (.dik kvs ep) ∧ Q ((valK kvs i).getD y) G
  | _, _ => False
/-- d.setdefault(i, x) -/
def sdfK : RMd := fun x ds G Q => match x, ds with
  | .ref a, [.int i, y] => ∃ kvs ep, G a = some (.dik kvs ep) ∧ kvs.length < sizeLine ∧ (∀ d, valK kvs i = some d → Q d G) ∧ (valK kvs i = none → ∀ ep', Q y (st G a (.dik (putK kvs i y) ep')))
  | _, _ => False
theorem mk_get : MtM X "dict.get" (liftM (kt X) getK) := by
  intro pins s σ H x vs v us Q I rx rv ⟨dx, ds, G, q, r1, rs, gr, h, cl⟩
  unfold getK at h
  split at h
  · obtain ⟨kvs, ep, eg, h⟩ := h
    cases r1
    obtain ⟨kv, yv, rfl, rk, ry⟩ := rs.two
    cases rk
    obtain ⟨xs, ha, rxs⟩ := gr _ _ eg
    obtain ⟨dd, hz, hs0⟩ := dik_of I ha
    cases rv with
    | cons q1 q2 =>
      cases q2 with
      | cons q2 q3 =>
        cases q3
        rename_i i y u1 u2
        cases (show v = Value.ref _ from rx)
        obtain ⟨t, rfl⟩ := q1
        refine call_meetsIn PySem.F.slot_dict_get dd.typeIs PySem.F.entry_dict_get (PySem.F.args_dict_get_3 _ _ _) (meets_dict_get_default (intKind X.prog X.w) _ (intKind_is _ _ _ t) hs0 _) ⟨_, dd.mapOf, ?_⟩
        obtain ⟨i1, i2⟩ := rxs.val
        cases e : valK kvs _ with
        | none =>
          rw [e] at h
          rw [i2 e]
          exact ⟨yv, H, I.tok _, q2, cl _ _ _ _ Tm.refl gr ry h⟩
        | some d =>
          rw [e] at h
          obtain ⟨p, v', hp, rv', rel⟩ := i1 d e
          rw [hp]
          exact ⟨v', H, I.tok _, rel, cl _ _ _ _ Tm.refl gr rv' h⟩
  · exact h.elim
theorem mk_setdefault : MtM X "dict.setdefault" (liftM (kt X) sdfK) := by
  intro pins s σ H x vs v us Q I rx rv ⟨dx, ds, G, q, r1, rs, gr, h, cl⟩
  unfold sdfK at h
  split at h
  · obtain ⟨kvs, ep, eg, hl, h1, h2⟩ := h
    cases r1
    obtain ⟨kv, yv, rfl, rk, ry⟩ := rs.two
    cases rk
    obtain ⟨xs, ha, rxs⟩ := gr _ _ eg
    obtain ⟨dd, hz, hs0⟩ := dik_of I ha
    cases rv with
    | cons q1 q2 =>
      cases q2 with
      | cons q2 q3 =>
        cases q3
        cases (show v = Value.ref _ from rx)
        obtain ⟨t, rfl⟩ := q1
        obtain ⟨i1, i2⟩ := rxs.val
        refine call_meetsIn PySem.F.slot_dict_setdefault dd.typeIs PySem.F.entry_dict_setdefault (PySem.F.args_dict_setdefault_3 _ _ _) (kt_meets_setdefault (intKind X.prog X.w) _ (intKind_is _ _ _ t) hs0 _) ⟨_, dd, hz, fun u hu => ?_, fun hn h' dd' hs => ?_⟩
        · cases e : valK kvs _ with
          | none => rw [i2 e] at hu; cases hu
          | some d =>
            obtain ⟨p, v', hp, rv', rel⟩ := i1 d e
            rw [hp] at hu; cases hu
            exact ⟨v', H, I.tok _, rel, cl _ _ _ _ Tm.refl gr rv' (h1 d e)⟩
        · cases e : valK kvs _ with
          | some d =>
            obtain ⟨p, v', hp, _⟩ := i1 d e
            rw [hp] at hn; cases hn
          | none =>
            obtain ⟨H', ep', I', t', gr'⟩ := dik_put (tk := s.toks + 1) I ha rxs gr ry q2 hl dd' hs
            exact ⟨yv, H', I', q2, cl _ _ _ _ t' gr' (ry.mono t') (h2 e ep')⟩
  · exact h.elim
end
/-! ## for i, x in d.items() -/
def Itik (P : Program) (w : World) (d : Addr) (ep n : Nat) : It :=
  ⟨fun i H => ∃ xs, H d = some (DikO P w d xs ep) ∧ xs.length = n ∧ ∃ y v, xs[i]? = some y ∧ RelV v y.2,
   fun i H x H' => ∃ T v, x = .ref T ∧ H T = none ∧ ∀ ys, H d = some (DikO P w d ys ep) → ∃ y, ys[i]? = some y ∧ RelV v y.2 ∧ H' = upd H T (.tup [.int y.1, v]),
   fun i H => (∃ xs, H d = some (DikO P w d xs ep) ∧ xs.length = n) ∧ n ≤ i⟩
theorem prs_size {P : Program} {w : World} {es : Array DictEntry} {xs : List (Int × Value)} (h : Pairs (intKind P w) es.toList xs) : es.size = xs.length := by
  rw [← Array.length_toList]; exact h.length
theorem turn_itemsK {P : Program} {w : World} {K : PySem.W.Frag} {elts : List Expr} {kk : Nat} {tpos : Pos} {d : Addr} {ep n : Nat} (it : Addr) : Turn P w K (.Tuple elts kk tpos) (Itik P w d ep n) [it] it (fun i h => ∃ ok ov, IsItemIter h it d i n ep ok ov) where
  mem := by simp
  obj := fun i h st b hb => by
    have e : b = it := by simpa using hb
    subst e
    obtain ⟨ok, ov, e⟩ := st
    exact ⟨_, e, fun v z => nomatch z⟩
  keep := fun i h h' st k => let ⟨ok, ov, e⟩ := st; ⟨ok, ov, k it (by simp) _ e⟩
  item := by
    intro X hP hw hK hc i pins s σ H E I hf st hg
    subst hP hw hK
    obtain ⟨xs, hd, hn, y, v, hy, rv⟩ := hg
    obtain ⟨⟨_, _, o, es, h1, h2, h3, h4, h5, h6⟩, _⟩ := I.hok d _ hd
    have hsz : es.size = n := by rw [prs_size h5]; exact hn
    have hlt2 : i < es.size := by
      have := (List.getElem?_eq_some_iff.mp hy).1; omega
    have key : ∀ ys, H d = some (DikO X.prog X.w d ys ep) → ∃ y t, ys[i]? = some y ∧ es[i].key = .int y.1 t ∧ es[i].val = y.2 := fun ys hy => by
      obtain ⟨⟨_, _, o', es', g1, g2, g3, g4, g5, g6⟩, _⟩ := I.hok d _ hy
      rw [h1] at g1; cases g1
      rw [h3] at g3; cases g3
      exact prs_get g5 (by rw [Array.getElem?_toList, Array.getElem?_eq_getElem hlt2])
    obtain ⟨y', t, hy', ky, vy⟩ := key xs hd
    rw [hy] at hy'; cases hy'
    obtain ⟨ok, ov, he⟩ := st
    rw [← hsz] at he
    have hlt : it < s.heap.objs.size := Heap.lt_size he
    refine DT.nextI he ⟨o, h1, h2, h3⟩ hlt2 fun h' ho hT hz hk => ?_
    refine ⟨_, rfl, wpAny_letOwnedTupleGo_items (s := { s with heap := h' }) ho fun h'' he' sb => ?_⟩
    have hT2 : h''.get? s.heap.objs.size = some { cls := .type "tuple", data := .seq #[es[i].key, es[i].val] } := (sb.2 _ (Nat.ne_of_gt hlt)).trans hT
    have new : ObjOk X.prog X.w (upd H s.heap.objs.size (.tup [.int y.1, v])) h'' s.heap.objs.size (.tup [.int y.1, v]) :=
      ⟨by show 2 ≤ sizeLine; decide, [es[i].key, es[i].val], .cons ⟨t, ky⟩ (.cons (by rw [vy]; exact rv) .nil), ⟨_, hT2, rfl, _, rfl⟩⟩
    have I1 : L2.Inv X pins σ (upd H s.heap.objs.size (.tup [.int y.1, v])) { s with heap := h'' } :=
      I.turnedNew (t' := s.toks) (ch := [it]) (fun b ob hb e => (sb.2 b (by simpa using hb)).trans (hk b ob (by simpa using hb) e)) hf (Nat.le_refl _) new
    refine ⟨.ref s.heap.objs.size, _, I1, rfl, ⟨s.heap.objs.size, v, rfl, I.hok.fresh (Nat.le_refl _), fun ys hys => ?_⟩, ⟨es[i].key, es[i].val, ?_⟩, fun b hb => ?_⟩
    · obtain ⟨z, t', hz1, kz, vz⟩ := key ys hys
      rw [ky] at kz
      have kz' : y.1 = z.1 := by injection kz
      exact ⟨z, hz1, by rw [← vz, vy]; exact rv, by rw [kz']⟩
    · rw [← hsz]; exact he'
    · have e : b = it := by simpa using hb
      rw [e, upd_ne (Nat.ne_of_lt hlt)]
      exact (hf it (by simp)).1
  done := by
    intro X hP hw hK hc i pins s σ H E I hf st hg
    subst hP hw hK
    obtain ⟨⟨xs, hd, hn⟩, hi⟩ := hg
    obtain ⟨f0, f1, f2, f3, f4, f5⟩ := hf it (by simp)
    obtain ⟨⟨_, _, o, es, h1, h2, h3, h4, h5, h6⟩, _⟩ := I.hok d _ hd
    have hsz : es.size = n := by rw [prs_size h5]; exact hn
    obtain ⟨ok, ov, he⟩ := st
    rw [← hsz] at he
    exact DT.endI (I.ok.hd hc) he ⟨o, h1, h2, h3⟩ (by omega) fun h' eb => ⟨rfl, I.turned (t' := s.toks) (fun b ob hb e => eb b ob hb e) f0 f1 f3 f4 f5⟩
  self := fun A i s Q E st h => let ⟨_, _, e⟩ := st; PySem.W.kcp_self e h
def pairJ (p : Int × D) : D := .tup [.int p.1, p.2]
def itj (d : D) (G : Hd) (R : List D → (Hd → Prop) → Hd → Prop) : Prop := match d with
  | .ref a => ∃ kvs ep, G a = some (.dik kvs ep) ∧ R (kvs.map pairJ) (fun G2 => G2 a = some (.dik kvs ep)) G
  | _ => False
def dItJ (te : TEd) : TId := fun w σ G R => te w σ G fun d G1 => itj d G1 R
section
variable {X : Cx} {e : Expr} {te : TEd} {apos cpos tpos : Pos} {elts : List Expr} {kk : Nat}
theorem pi_itemsJ {td : TE} (he : PE X e td) (hbase : attributeBase e "items" X.env (eval e X.env) = eval e X.env) (hline : (apos.endLine == cpos.line) = true) :
    PI X (.Tuple elts kk tpos) (.Call (.Attribute e "items" apos) [] [] cpos) (fun σ H R => td σ H fun x H1 => ∃ d xs ep, x = .ref d ∧ H1 d = some (DikO X.prog X.w d xs ep) ∧ R (Itik X.prog X.w d ep xs.length) H1) := by
  refine ⟨fun pins s σ H R I h => ?_⟩
  refine wpAny_Call_method (T := "dict") (id := "dict.items") hbase rfl hline PySem.F.plainAttrs_dict PySem.F.slot_dict_items PySem.F.type_dict_items (thn (he.run pins s σ H _ I h) fun u s1 ⟨x, H1, I1, rx, d, xs, ep, ex, hd, q⟩ => ?_)
  subst ex
  obtain rfl : u = Value.ref d := rx
  obtain ⟨⟨_, hs, o, es, h1, h2, h3, h4, h5, h6⟩, _⟩ := I1.hok d _ hd
  have hm : DT.Raw s1.heap d es ep := ⟨o, h1, h2, h3⟩
  refine ⟨hm.typeIs, noDict_rfl h1 h2.2.1, ?_⟩
  have I2 : L2.Inv X pins σ H1 { s1 with heap := s1.heap.push { cls := .type "dict_items", data := .fields #[.ref d] } } := I1.kept (t' := s1.toks) fun b ob q => Heap.get?_push_of_some _ q
  have fin : wpAny (model X.prog X.w) X.A (pyIter (.ref s1.heap.objs.size)) (PIE X pins σ (.Tuple elts kk tpos) R) X.xe { s1 with heap := s1.heap.push { cls := .type "dict_items", data := .fields #[.ref d] } } := by
    refine DT.iterI (d := d) (es := es) (ep := ep) ⟨_, Heap.get?_push_size _ rfl, rfl, rfl⟩ (hm.push _) (pi_one (tk := s1.toks) I2 _ (turn_itemsK _) ⟨.none, .none, ?_⟩ q)
    rw [← prs_size h5]
    exact Heap.get?_push_size _ rfl
  show wpAny _ _ (callWith cpos (.builtin "dict.items") [.ref d] [] []) _ X.xe s1
  exact method_meetsIn PySem.F.slot_dict_items PySem.F.entry_dict_items rfl (PySem.evalArgs_none ⟨rfl, hm.typeIs, PySem.F.args_dict_items_1 _, _, DT.meetsItems (es := es) (ep := ep) hs, hm, fin⟩)
theorem di_itemsJ (he : DE X e te) (hbase : ∀ m, attributeBase e m X.env (eval e X.env) = eval e X.env) (hline : (apos.endLine == cpos.line) = true) : DI X (.Tuple elts kk tpos) (.Call (.Attribute e "items" apos) [] [] cpos) (dItJ te) := fun W tk =>
  PIi (pi_itemsJ (he W tk) (hbase _) hline) fun σ H R ⟨σd, G, r, w, sr, gr, h, ok, cw⟩ => ⟨σd, G, _, w, sr, gr, h, fun v d H1 G1 t1 gr1 r1 h1 => by
    simp only [itj] at h1
    split at h1
    · rename_i a
      obtain ⟨kvs, ep, eg, h1⟩ := h1
      cases r1
      obtain ⟨xs, ha, rx⟩ := gr1 _ _ eg
      refine ⟨a, xs, ep, rfl, ha, ok _ _ _ _ _ t1 gr1 ?_ h1⟩
      intro i H2 G2 t2 gr2 st
      obtain ⟨ys, hy, ry⟩ := gr2 _ _ st
      have l1 := rx.len
      have l2 := ry.len
      rw [List.length_map]
      refine ⟨fun hi => ?_, fun hi => ⟨⟨ys, hy, by omega⟩, by omega⟩⟩
      obtain ⟨y, ey⟩ : ∃ y, ys[i]? = some y := ⟨_, List.getElem?_eq_getElem (by omega)⟩
      obtain ⟨p, v, ep', ek, rq, rv⟩ := ry.get ey
      refine ⟨⟨ys, hy, by omega, y, v, ey, rv⟩, fun x H3 ⟨T, v', ex, hT, hx⟩ => ?_⟩
      subst ex
      obtain ⟨z, ez, rz, e3⟩ := hx ys hy
      rw [ey] at ez; cases ez
      cases relV_inj rz rv
      subst e3
      have tt : Tm (kt X) H2 (upd H2 T (.tup [.int y.1, v])) := Tm.new hT
      exact ⟨tt, gr2.keep hT, pairJ p, by rw [List.getElem?_map, ep']; rfl, .tup (.inl (.inl upd_same)) (.cons (by rw [ek]; exact .int _) (.cons (rq.mono tt) .nil))⟩
    · exact h1.elim, cw⟩
end
/-! ## sorted(d.items()) -/
def sortedJ (x : D) (G : Hd) (Q : Qd) : Prop := match x with
  | .ref a => ∃ kvs ep, G a = some (.dik kvs ep) ∧ SrtOk G (kvs.map pairJ) ∧ ∀ p, G p = none → Q (.ref p) (st G p (.lst (srt (kvs.map pairJ))))
  | _ => False
section
variable {X : Cx} {e : Expr} {te : TEd} {p1 apos cpos pos : Pos}
theorem Tm.sub {K : Kt} {H H' : Hp} (h : ∀ b o, H b = some o → H' b = some o) : Tm K H H' where
  t := fun b vs q => by
    rcases q with (q | ⟨ob, q⟩) | q
    · exact .inl (.inl (h _ _ q))
    · exact .inl (.inr ⟨ob, h _ _ q⟩)
    · exact .inr q
  l := fun b vs q => by
    rcases q with ⟨ob, q⟩ | q
    · exact .inl ⟨ob, h _ _ q⟩
    · exact .inr q
theorem GR.sub {K : Kt} {G : Hd} {H H' : Hp} (g : GR K G H) (h : ∀ b o, H b = some o → H' b = some o) : GR K G H' := fun a o e => by
  have k := g a o e
  cases q : H a with
  | none => exact absurd q k.there
  | some u => exact k.mono (Tm.sub h) ((h a u q).trans q.symm)
def rSrtJ (X : Cx) : List V → Hp → VK → Prop := fun vs H Q => ∃ (p a : Addr) (kvs : List (Int × D)) (ep : Nat) (G : Hd) (q : Qd), vs = [.ref p] ∧ H p = some (DX.itemsO p a) ∧ GR (kt X) G H ∧ G a = some (.dik kvs ep) ∧ SrtOk G (kvs.map pairJ) ∧
  (∀ l, G l = none → q (.ref l) (st G l (.lst (srt (kvs.map pairJ))))) ∧ CQ (kt X) H Q q
theorem call_srtJ (hc : X.calm = true) (hu : X.A.units + 65 < cLine) : CallR X (.builtin "sorted") (rSrtJ X) := by
  intro pins s σ H xs us Q I r hh
  obtain ⟨p, a, kvs, ep, G, q, rfl, hp, gr, eg, so, h, cl⟩ := hh
  obtain rfl := Vals.ref1 r
  have view : s.heap.IsItemsView p a := (show ObjOk X.prog X.w H s.heap p (DX.itemsO p a) from I.hok p _ hp).1
  obtain ⟨ys, ha, ry⟩ := gr _ _ eg
  obtain ⟨⟨hz, hs0, o, es, ho, hx, hdat, hks, hps, hnd⟩, _⟩ := I.hok a _ ha
  have l2 : es.size = ys.length := prs_size hps
  have l1 := ry.len
  refine DT.sortedI (es := es) (ep := ep) (I.ok.hd hc) view ⟨o, ho, hx, hdat⟩ (by omega) fun h' tk as hk hlt hl hG => ?_
  have nd : as.Nodup := List.Pairwise.imp (fun h => Nat.ne_of_lt h) hG.rise
  -- the pairs that were made
  have pr : ∀ (j : Nat) (b : Addr), as[j]? = some b → ∃ (kv : Int × D) (v : V) (kx : Value) (u : Value), kvs[j]? = some kv ∧ Rp (kt X) H kv.2 v ∧ RelV (.int kv.1) kx ∧ RelV v u ∧ h'.get? b = some { cls := .type "tuple", data := .seq #[kx, u] } := by
    intro j b hj
    obtain ⟨en, he, hg⟩ := hG.pairs j b hj
    obtain ⟨y, t, ey, ek, ev⟩ := prs_get hps (by rw [Array.getElem?_toList]; exact he)
    obtain ⟨kv, v, e1, e2, e3, e4⟩ := ry.get ey
    exact ⟨kv, v, en.key, en.val, e1, e3, ⟨t, by rw [ek, e2]⟩, by rw [ev]; exact e4, hg⟩
  have I1 : L2.Inv X pins σ H { s with heap := h', toks := tk } := I.kept (t' := tk) hk
  obtain ⟨H1, I2, g1, qt⟩ := DX.takeT (P := fun b vs => ∃ (j : Nat) (kv : Int × D) (v : V), as[j]? = some b ∧ kvs[j]? = some kv ∧ Rp (kt X) H kv.2 v ∧ vs = [.int kv.1, v]) I as H I1 nd fun b hb => by
    obtain ⟨j, hj⟩ := List.mem_iff_getElem?.mp hb
    obtain ⟨kv, v, kx, u, e1, e2, e3, e4, e5⟩ := pr j b hj
    refine ⟨Nat.le_of_lt (hG.above b hb), I.hok.fresh (Nat.le_of_lt (hG.above b hb)), [.int kv.1, v], ⟨j, kv, v, hj, e1, e2, rfl⟩, fun H2 => ⟨by show 2 ≤ sizeLine; decide, [kx, u], .cons e3 (.cons e4 .nil), ⟨_, e5, rfl, _, rfl⟩⟩⟩
  have t1 : Tm (kt X) H H1 := Tm.sub g1
  have gr1 : GR (kt X) G H1 := gr.sub g1
  have lak : as.length = kvs.length := by omega
  have each : PySem.W.EachIs (fun u x => ∃ v, Rp (kt X) H1 x v ∧ RelV v u) (as.map Value.ref) (kvs.map pairJ) := by
    have key : ∀ (as' : List Addr) (kvs' : List (Int × D)), as'.length = kvs'.length → (∀ (j : Nat) b kv, as'[j]? = some b → kvs'[j]? = some kv → Rp (kt X) H1 (pairJ kv) (.ref b)) → PySem.W.EachIs (fun u x => ∃ v, Rp (kt X) H1 x v ∧ RelV v u) (as'.map Value.ref) (kvs'.map pairJ) := by
      intro as'
      induction as' with
      | nil => intro kvs' l _; cases kvs' with | nil => exact .nil | cons _ _ => cases l
      | cons b r ih =>
        intro kvs' l h
        cases kvs' with
        | nil => cases l
        | cons kv kr => exact .cons ⟨.ref b, h 0 b kv rfl rfl, rfl⟩ (ih kr (by simpa using l) fun j b kv e1 e2 => h (j + 1) b kv (by simpa using e1) (by simpa using e2))
    refine key as kvs lak fun j b kv e1 e2 => ?_
    obtain ⟨vs, ⟨j', kv', v, e3, e4, e5, rfl⟩, e6⟩ := qt b (List.mem_of_getElem? e1)
    have ej : j' = j := (List.getElem?_inj (List.getElem?_eq_some_iff.mp e3).1 nd).mp (e3.trans e1.symm)
    subst ej
    rw [e2] at e4; cases e4
    exact .tup (.inl (.inl e6)) (.cons (.int _) (.cons (e5.mono t1) .nil))
  -- what they read as
  have er : PySem.W.EachIs (fun u x => ∃ as, Reads h' u (toPy x) as) (as.map Value.ref) (kvs.map pairJ) := by
    have key : ∀ (us : List Value) (xs : List D), PySem.W.EachIs (fun u x => ∃ v, Rp (kt X) H1 x v ∧ RelV v u) us xs → Dds G xs xs → PySem.W.EachIs (fun u x => ∃ as, Reads h' u (toPy x) as) us xs := by
      intro us xs e
      induction e with
      | nil => exact fun _ => .nil
      | cons hh _ ih =>
        intro dd
        cases dd with
        | cons d ds =>
          obtain ⟨v, r1, r2⟩ := hh
          exact .cons (Dp.reads I2 _ v _ (d.dp gr1 r1) r2) (ih ds)
    exact key _ _ each so.dd
  have hob : (h'.push { cls := .type "list", data := .seq (as.map Value.ref).toArray }).get? h'.objs.size = some (seqObj "list" (as.map Value.ref).toArray 0) := Heap.get?_push_size _ rfl
  have kb : ∀ b o, h'.get? b = some o → (h'.push { cls := .type "list", data := .seq (as.map Value.ref).toArray }).get? b = some o := fun b o e => Heap.get?_push_of_some _ e
  have ne0 : ∀ b o, h'.get? b = some o → b ≠ h'.objs.size := fun b o e => Nat.ne_of_lt (Heap.lt_size e)
  generalize hh2 : h'.push { cls := .type "list", data := .seq (as.map Value.ref).toArray } = h2 at hob kb ⊢
  have er' : PySem.W.EachIs (fun u x => ∃ as', Reads (PySem.W.sortingHeap h2 h'.objs.size (as.map Value.ref)) u (toPy x) as') (as.map Value.ref) (kvs.map pairJ) :=
    er.mono fun u x ⟨as', r⟩ => ⟨as', PyProof.Rows.Reads.keeps (fun b o e => (PySem.W.sortingHeap_old (ne0 b o e) (kb b o e))) r⟩
  have hal : PySem.W.AllAlike ((kvs.map pairJ).map toPy) := by
    intro d hd d' hd'
    obtain ⟨x, hx, rfl⟩ := List.mem_map.mp hd
    obtain ⟨y, hy, rfl⟩ := List.mem_map.mp hd'
    exact so.al x hx y hy
  have hsk : PySem.W.Sortable ((kvs.map pairJ).map toPy) := by
    rcases so.st with h | h
    · refine .inl fun d hd => ?_
      obtain ⟨x, hx, rfl⟩ := List.mem_map.mp hd
      obtain ⟨y, r, rfl⟩ := h x hx
      exact ⟨_, _, rfl⟩
    · refine .inr fun d hd => ?_
      obtain ⟨x, hx, rfl⟩ := List.mem_map.mp hd
      obtain ⟨i, rfl⟩ := h x hx
      exact ⟨fun z => (by cases z), fun _ z => (by cases z)⟩
  have hub : ∀ b, b ∈ kvs.map pairJ → X.A.in1.units + 1 + (toPy b).depth < cLine := by
    intro b hb
    have h1 := py_depth b
    have h2 := deps_mem b hb
    have h3 := so.dp
    show X.A.units + 1 + 1 + (toPy b).depth < cLine
    omega
  refine wpAny_call_entry PyProof.Rows.slot_list_sort ⟨_, hob, rfl⟩ PyProof.Rows.entry_list_sort
    (PySem.W.list_sort_vals (s := { s with heap := h2, toks := tk }) (κ := PySem.W.dataKind (PySem.W.sortingHeap h2 h'.objs.size (as.map Value.ref)) ((kvs.map pairJ).map toPy)) hob
      (PySem.W.SortsAt.data (s := { s with heap := PySem.W.sortingHeap h2 h'.objs.size (as.map Value.ref), toks := tk }) (PySem.W.each_map (R := fun u x => ∃ as', Reads (PySem.W.sortingHeap h2 h'.objs.size (as.map Value.ref)) u x as') toPy er') hal hsk (PySem.W.bound_map hub))
      (by rw [List.length_map]; omega) ⟨.none, rfl, ?_⟩) (PyProof.Rows.args_list_sort _)
  have eo := PySem.W.sortVals_data (h' := PySem.W.sortingHeap h2 h'.objs.size (as.map Value.ref)) false each er' hal
  generalize hout : PySem.W.sortVals _ false (as.map Value.ref) (as.map Value.ref) = out at eo ⊢
  have kF : ∀ b o, h'.get? b = some o → (sortedHeap h2 h'.objs.size (as.map Value.ref) out.toArray).get? b = some o := fun b o e => (PyProof.Rows.sortedHeap_old (ne0 b o e) (Heap.lt_size (kb b o e))).trans (kb b o e)
  obtain ⟨eF, heF⟩ := PyProof.Rows.sortedHeap_at (vs := as.map Value.ref) (out := out.toArray) hob
  have I3 : L2.Inv X pins σ H1 { s with heap := sortedHeap h2 h'.objs.size (as.map Value.ref) out.toArray, toks := tk } := I2.kept (t' := tk) kF
  have hn0 : H1 h'.objs.size = none := I2.hok.fresh (Nat.le_refl _)
  obtain ⟨vs, rvs, vvs⟩ := each_back eo
  have hlen : vs.length ≤ sizeLine := by rw [← rvs.length, List.length_mergeSort]; exact so.len
  have tn : Tm (kt X) H1 (upd H1 h'.objs.size (.lst vs)) := Tm.new hn0
  have I4 : L2.Inv X pins σ (upd H1 h'.objs.size (.lst vs)) { s with heap := sortedHeap h2 h'.objs.size (as.map Value.ref) out.toArray, toks := tk } :=
    I3.take (h' := sortedHeap h2 h'.objs.size (as.map Value.ref) out.toArray) (t' := tk) (fun b ob _ e => e) (I2.fpOk (Nat.le_refl _) hn0) ⟨hlen, out, eF, vvs, heF⟩
  exact ⟨.ref h'.objs.size, _, I4, rfl, cl _ _ _ _ (t1.trans tn) (gr1.new (u := .lst (srt (kvs.map pairJ))) hn0 ⟨_, upd_same, rvs.mono tn⟩) (.ref _) (h _ (gr1.free hn0))⟩
/-- d.items() as a value -/
theorem pe_itemsJ {o : Expr} {to : TE} (ho : PE X o to) (hbase : attributeBase o "items" X.env (eval o X.env) = eval o X.env) (hline : (apos.endLine == cpos.line) = true) :
    PE X (.Call (.Attribute o "items" apos) [] [] cpos) (fun σ H Q => to σ H fun x H1 => ∃ a xs ep, x = .ref a ∧ H1 a = some (DikO X.prog X.w a xs ep) ∧ ∀ p, H1 p = none → Q (.ref p) (upd H1 p (DX.itemsO p a))) := by
  refine ⟨fun pins s σ H Q I h => ?_⟩
  refine wpAny_Call_method0_late hbase hline (thn (ho.run pins s σ H _ I h) fun v s1 ⟨x, H1, I1, r1, a, xs, ep, ex, ha, q1⟩ => ?_)
  subst ex
  obtain ⟨h1, h2⟩ := tyJ_is I1 r1 ⟨a, xs, ep, rfl, ha⟩
  refine ⟨"dict", "dict.items", PySem.F.plainAttrs_dict, PySem.F.slot_dict_items, PySem.F.type_dict_items, h1, h2, Calls.callWith_builtin rfl (PySem.evalArgs_none ?_)⟩
  cases (show v = Value.ref a from r1)
  obtain ⟨dd, hz, hs0⟩ := dik_of I1 ha
  obtain ⟨o, es, ep', g1, g2, g3, _⟩ := id dd
  refine DT.callItems (es := es) (ep := ep') hs0 ⟨o, g1, g2, g3⟩ ?_
  have hf : H1 s1.heap.objs.size = none := I1.hok.fresh (Nat.le_refl _)
  exact ⟨.ref s1.heap.objs.size, upd H1 s1.heap.objs.size (DX.itemsO s1.heap.objs.size a), I1.laid (t' := s1.toks) (fun b u e => Heap.get?_push_of_some _ e) (Nat.le_refl _) (DX.itemsO_ok (Heap.get?_push_size _ rfl)), rfl, q1 _ hf⟩
theorem de_srtJ (hc : X.calm = true) (hu : X.A.units + 65 < cLine) (he : DE X e te) (hbase : ∀ m, attributeBase e m X.env (eval e X.env) = eval e X.env) (hline : (apos.endLine == cpos.line) = true) (hg : Gl X "sorted") (hm : X.mg "sorted" = none) :
    DE X (.Call (.Name "sorted" p1) [.Call (.Attribute e "items" apos) [] [] cpos] [] pos) (dUn sortedJ te) := fun W tk =>
  PEi (pe_callB (call_srtJ hc hu) hg hm (by first | exact PyProof.Rows.boot_sorted | exact PySem.boot_sorted | decide +kernel) (pa_cons (pe_itemsJ (he W tk) (hbase _) hline) pa_nil rfl)) fun σ H Q ⟨σd, G, q, w, sr, gr, h, cl, cw⟩ => by
    refine ⟨σd, G, _, w, sr, gr, h, fun v d H1 G1 t1 gr1 r1 h1 => ?_, cw⟩
    cases d with
    | ref a =>
      obtain ⟨kvs, ep, eg, so, h1⟩ := h1
      cases r1
      obtain ⟨ys, ha, ry⟩ := gr1 _ _ eg
      exact ⟨_, ys, ep, rfl, ha, fun p hp => ⟨p, _, kvs, ep, G1, q, rfl, upd_same, gr1.keep hp, eg, so, h1, cl.mono (t1.trans (Tm.new hp))⟩⟩
    | _ => exact False.elim h1
end
/-! ## sorted(xs): told data, lists within it too -/
structure SrtOkG (ds : List D) : Prop where
  ok : okDs ds = true
  dp : deps ds ≤ 50
  al : ∀ x ∈ ds, ∀ y ∈ ds, PySem.W.alike (toPy x) (toPy y) = true
  st : (∀ x ∈ ds, ∃ y r, x = .tup (y :: r)) ∨ ∀ x ∈ ds, ∃ i, x = .int i
  len : ds.length ≤ sizeLine
def srtBy (ts : List (D × D)) : List D := (ts.mergeSort (PySem.W.dataLe false fun t => toPy t.2)).map (·.1)
def sortedG : RCd := fun ds G Q => match ds with
  | [.ref a] => ∃ ts : List (D × D), seqG G a (ts.map (·.1)) ∧ Dds G (ts.map (·.1)) (ts.map (·.2)) ∧ SrtOkG (ts.map (·.2)) ∧ ∀ p, G p = none → Q (.ref p) (st G p (.lst (srtBy ts)))
  | _ => False
section
variable {X : Cx}
theorem each_rpG {K : Kt} {H : Hp} : ∀ {ts : List (D × D)} {ws : List V} {its : List Value}, Rps K H (ts.map (·.1)) ws → Vals ws its → PySem.W.EachIs (fun u t => ∃ v, Rp K H t.1 v ∧ RelV v u) its ts
  | [], _, _, r, q => by cases r; cases q; exact .nil
  | t :: ts, _, _, r, q => by
    cases r with
    | cons h r => cases q with | cons q qs => exact .cons ⟨_, h, q⟩ (each_rpG r qs)
theorem each_readsG {G : Hd} {pins : List (Addr × Obj)} {s : Shared} {σ : St} {H : Hp} (I : L2.Inv X pins σ H s) (gr : GR (kt X) G H) : ∀ {ts : List (D × D)} {ws : List V} {its : List Value}, Rps (kt X) H (ts.map (·.1)) ws → Vals ws its → Dds G (ts.map (·.1)) (ts.map (·.2)) → PySem.W.EachIs (fun u t => ∃ as, Reads s.heap u (toPy t.2) as) its ts
  | [], _, _, r, q, _ => by cases r; cases q; exact .nil
  | t :: ts, _, _, r, q, d => by
    cases r with
    | cons h r =>
      cases q with
      | cons q qs =>
        cases d with
        | cons d ds => exact .cons (Dp.reads I _ _ _ (d.dp gr h) q) (each_readsG I gr r qs ds)
theorem each_backG {K : Kt} {H : Hp} : ∀ {out : List Value} {ys : List (D × D)}, PySem.W.EachIs (fun u t => ∃ v, Rp K H t.1 v ∧ RelV v u) out ys → ∃ vs, Rps K H (ys.map (·.1)) vs ∧ Vals vs out
  | _, _, .nil => ⟨[], .nil, .nil⟩
  | _, _, .cons ⟨v, h1, h2⟩ e => by
    obtain ⟨vs, h3, h4⟩ := each_backG e
    exact ⟨v :: vs, .cons h1 h3, .cons h2 h4⟩
theorem bd_sortedG (hu : X.A.units + 65 < cLine) : CalB X (.builtin "sorted") sortedG := by
  intro pins s σ H vs us Q I r ⟨ds, G, q, rs, gr, h, cl⟩
  unfold sortedG at h
  split at h
  · obtain ⟨v, rfl, r1⟩ := rs.one
    cases r1
    obtain ⟨ts, sq, dd, so, h⟩ := h
    obtain ⟨ws, sa, ra⟩ := seq_of gr sq
    obtain ⟨its, rv, hl, _⟩ := I.list sa
    rw [Vals.ref1 r]
    have hal : PySem.W.AllAlike (ts.map fun t => toPy t.2) := by
      intro d hd d' hd'
      obtain ⟨x, hx, rfl⟩ := List.mem_map.mp hd
      obtain ⟨y, hy, rfl⟩ := List.mem_map.mp hd'
      exact so.al _ (List.mem_map.mpr ⟨x, hx, rfl⟩) _ (List.mem_map.mpr ⟨y, hy, rfl⟩)
    have hk : PySem.W.Sortable (ts.map fun t => toPy t.2) := by
      rcases so.st with h | h
      · refine .inl fun d hd => ?_
        obtain ⟨x, hx, rfl⟩ := List.mem_map.mp hd
        obtain ⟨y, r, e⟩ := h _ (List.mem_map.mpr ⟨x, hx, rfl⟩)
        rw [e]; exact ⟨_, _, rfl⟩
      · refine .inr fun d hd => ?_
        obtain ⟨x, hx, rfl⟩ := List.mem_map.mp hd
        obtain ⟨i, e⟩ := h _ (List.mem_map.mpr ⟨x, hx, rfl⟩)
        rw [e]; exact ⟨fun z => (by cases z), fun _ z => (by cases z)⟩
    have hlt : ts.length ≤ sizeLine := by have := so.len; rwa [List.length_map] at this
    refine PySem.W.sorted_data (bs := ts) (enc := fun t => toPy t.2) (R := fun u t => ∃ v, Rp (kt X) H t.1 v ∧ RelV v u) (vs := its) (by simpa using hl.isList) (each_rpG ra rv) (each_readsG I gr ra rv dd) hal hk hlt (fun b hb => ?_) fun out lo eo => ?_
    · have h1 := py_depth b.2
      have h2 := deps_mem b.2 (List.mem_map.mpr ⟨b, hb, rfl⟩ : b.2 ∈ ts.map (·.2))
      have h3 := so.dp
      omega
    · obtain ⟨ep, he'⟩ := PyProof.Rows.sortedAll_at s.heap its out.toArray
      obtain ⟨vs, h1, h2⟩ := each_backG eo
      have hn := I.hok.fresh (Nat.le_succ s.heap.objs.size)
      have hlen : vs.length ≤ sizeLine := by
        rw [← h1.length, List.length_map, List.length_mergeSort]; exact hlt
      refine ⟨.ref _, upd H (s.heap.objs.size + 1) (.lst vs), I.laid (t' := s.toks) (fun _ _ => PyProof.Rows.sortedAll_old) (Nat.le_succ _) ⟨hlen, out, ep, h2, by simpa using he'⟩, rfl, ?_⟩
      exact cl _ _ _ _ (Tm.new hn) (gr.new (u := .lst (srtBy ts)) hn ⟨_, upd_same, h1.mono (Tm.new hn)⟩) (.ref _) (h _ (gr.free hn))
  · exact h.elim
end
/-! ## a < b < c < d, as a test -/
section
variable {X : Cx} {a b c d : Expr} {pos : Pos}
def tChain3 (r r' r'' : R2) (ta tb tc td : TE) : TT := fun σ H Q => ta σ H fun x H1 => tb σ H1 fun y H2 => r x y H2 fun z H3 => ∃ k, z = .bl k ∧
  (if k = true then tc σ H3 fun w' H4 => r' y w' H4 fun z2 H5 => ∃ k2, z2 = .bl k2 ∧ (if k2 = true then td σ H5 fun u H6 => r'' w' u H6 fun z3 H7 => ∃ k3, z3 = .bl k3 ∧ Q k3 H7 else Q false H5) else Q false H3)
theorem pt_chain3 {op op' op'' : CmpOp} {r r' r'' : R2} {ta tb tc td : TE} (ho : OpR X (compareOp op) r) (ho' : OpR X (compareOp op') r') (ho'' : OpR X (compareOp op'') r'') (ha : PE X a ta) (hb : PE X b tb) (hc : PE X c tc) (hd : PE X d td)
    (hm : lastMarks [op, op', op''] [b, c, d] = false) : PT X (.Compare a [op, op', op''] [b, c, d] pos) (tChain3 r r' r'' ta tb tc td) := by
  refine ⟨fun pins s σ H Q I h => ?_⟩
  refine isTrue_chain (thn (ha.run pins s σ H _ I h) fun v s1 ⟨x, H1, I1, r1, q1⟩ => test_link (thn (hb.run pins s1 σ H1 _ I1 q1) fun u s2 ⟨y, H2, I2, r2, q2⟩ =>
    thn (ho pins s2 σ H2 x y v u _ I2 r1 r2 q2) fun d s3 ⟨z, H3, I3, r3, k, e, q3⟩ => ?_)) hm
  subst e
  cases r3
  refine wpAny_truthy_bool ?_
  cases k with
  | false => exact ite_ff ⟨H3, I3, q3⟩
  | true =>
    refine ite_tt (test_link (thn (hc.run pins s3 σ H3 _ I3 q3) fun w' s4 ⟨z', H4, I4, r4, q4⟩ => thn (ho' pins s4 σ H4 y z' u w' _ I4 r2 r4 q4) fun d' s5 ⟨z2, H5, I5, r5, k2, e2, q5⟩ => ?_))
    subst e2
    cases r5
    refine wpAny_truthy_bool ?_
    cases k2 with
    | false => exact ite_ff ⟨H5, I5, q5⟩
    | true =>
      refine ite_tt (test_last (thn (hd.run pins s5 σ H5 _ I5 q5) fun w2 s6 ⟨z3, H6, I6, r6, q6⟩ => thn (ho'' pins s6 σ H6 z' z3 w' w2 _ I6 r4 r6 q6) fun d' s7 ⟨z4, H7, I7, r7, k3, e3, q7⟩ => ?_))
      subst e3
      cases r7
      exact wpAny_truthy_bool ⟨H7, I7, q7⟩
def dChain3 (r r' r'' : D → D → Hd → Qd → Prop) (ta tb tc td : TEd) : TTd := fun w σ G Q => ta w σ G fun x G1 => tb w σ G1 fun y G2 => r x y G2 fun z G3 => ∃ k, z = .bl k ∧
  Br k (tc w σ G3 fun u G4 => r' y u G4 fun z2 G5 => ∃ k2, z2 = .bl k2 ∧ Br k2 (td w σ G5 fun v G6 => r'' u v G6 fun z3 G7 => ∃ k3, z3 = .bl k3 ∧ Q k3 G7) (Q false G5)) (Q false G3)
theorem dt_chain3 {op op' op'' : CmpOp} {r r' r'' : D → D → Hd → Qd → Prop} {ta tb tc td : TEd} (ho : OpD X (compareOp op) r) (ho' : OpD X (compareOp op') r') (ho'' : OpD X (compareOp op'') r'') (ha : DE X a ta) (hb : DE X b tb) (hc : DE X c tc) (hd : DE X d td)
    (hm : lastMarks [op, op', op''] [b, c, d] = false) : DT X (.Compare a [op, op', op''] [b, c, d] pos) (dChain3 r r' r'' ta tb tc td) := fun W tk => PTi (pt_chain3 ho ho' ho'' (ha W tk) (hb W tk) (hc W tk) (hd W tk) hm) fun σ H Q ⟨σd, G, q, w, sr, gr, h, cl, cw⟩ => by
  refine ⟨σd, G, _, w, sr, gr, h, fun v d H1 G1 t1 gr1 r1 h1 => ?_, cw⟩
  refine ⟨σd, G1, _, w, sr.mono t1, gr1, h1, fun v2 d2 H2 G2 t2 gr2 r2 h2 => ?_, cw.mono t1⟩
  have t12 := t1.trans t2
  refine ⟨d, d2, G2, _, r1.mono t2, r2, gr2, h2, fun v3 d3 H3 G3 t3 gr3 r3 ⟨k, e, h3⟩ => ?_⟩
  subst e
  have t13 := t12.trans t3
  refine ⟨k, r3.bl_inv, h3.ite (fun h3 => ?_) fun h3 => cl _ _ _ t13 gr3 h3⟩
  refine ⟨σd, G3, _, w, sr.mono t13, gr3, h3, fun v4 d4 H4 G4 t4 gr4 r4 h4 => ?_, cw.mono t13⟩
  have t14 := t13.trans t4
  refine ⟨d2, d4, G4, _, r2.mono (t3.trans t4), r4, gr4, h4, fun v5 d5 H5 G5 t5 gr5 r5 ⟨k2, e2, h5⟩ => ?_⟩
  subst e2
  have t15 := t14.trans t5
  refine ⟨k2, r5.bl_inv, h5.ite (fun h5 => ?_) fun h5 => cl _ _ _ t15 gr5 h5⟩
  refine ⟨σd, G5, _, w, sr.mono t15, gr5, h5, fun v6 d6 H6 G6 t6 gr6 r6 h6 => ?_, cw.mono t15⟩
  have t16 := t15.trans t6
  refine ⟨d4, d6, G6, _, r4.mono (t5.trans t6), r6, gr6, h6, fun v7 d7 H7 G7 t7 gr7 r7 ⟨k3, e3, h7⟩ => ?_⟩
  subst e3
  exact ⟨k3, r7.bl_inv, cl _ _ _ (t16.trans t7) gr7 h7⟩
end
end S

set_option Elab.async false
set_option linter.all false
set_option maxRecDepth 100000
set_option maxHeartbeats 4000000
namespace S
open PySem PySem.Spec L2
open PyProof.Rows hiding St
/-! ## the facts on a law's exceptions -/
def subN (j : Nat) (c : Str) : Bool := decide (c = "BenchError") || decide (c = excN j)
structure EcJ (K : PySem.W.Frag) (et : List Str) (j : Nat) : Prop where
  q : PySem.W.excIn K (He.ga K (excN j)) He.veBase "ValueError.__new__" = true
  kp : PySem.W.keepIn K (.ref (He.ga K (excN j))) = true
  sb : PySem.W.subIn K (.ref (He.ga K (excN j))) (.type "BaseException") = some true
  ty : PySem.W.typeIn K (.ref (He.ga K (excN j))) = some (.type "type")
  ex : ExcC K (He.ga K (excN j))
  kit : ∀ c ∈ et, PySem.W.kitOne K (.ref (He.ga K (excN j))) (.ref (He.ga K c)) = some (subN j c)
  kitV : PySem.W.kitOne K (.ref (He.ga K (excN j))) (.type "ValueError") = some true
  exm : ∀ c ∈ et, PySem.W.exmOne K (.ref (He.ga K (excN j))) (.ref (He.ga K c)) = some (subN j c)
def EcK (K : PySem.W.Frag) (ec : List Nat) (et : List Str) : Prop := ∀ j ∈ ec, EcJ K et j
theorem EcK.nil {K : PySem.W.Frag} {et : List Str} : EcK K [] et := fun _ h => by cases h
def eqV (a b : Option (Option Value)) : Bool := decide (a = b)
def ecJB (K : PySem.W.Frag) (et : List Str) (j : Nat) : Bool :=
  PySem.W.excIn K (He.ga K (excN j)) He.veBase "ValueError.__new__" && (PySem.W.keepIn K (.ref (He.ga K (excN j))) && (decide (PySem.W.subIn K (.ref (He.ga K (excN j))) (.type "BaseException") = some true) && (decide (PySem.W.typeIn K (.ref (He.ga K (excN j))) = some (.type "type")) &&
  (eqV (PySem.W.findIn K (.ref (He.ga K (excN j))) "__getattribute__") (some (some (.builtin "BaseException.__getattribute__"))) && (eqV (PySem.W.findIn K (.ref (He.ga K (excN j))) "__getattr__") (some none) && (PySem.W.hasDictIn K (He.ga K (excN j)) &&
  (eqV (PySem.W.findIn K (.ref (He.ga K (excN j))) "__class__") (some (some (.builtin "object.__class__"))) && (eqV (PySem.W.specialIn K (.builtin "object.__class__") "__get__") (some (some (.builtin "getset_descriptor.__get__"))) && (decide (PySem.W.takesIn K (.builtin "object.__class__") = some true) && (decide (PySem.W.mroIn K (He.ga K (excN j)) (.type "object") = some true) &&
  ((et.all fun c => decide (PySem.W.kitOne K (.ref (He.ga K (excN j))) (.ref (He.ga K c)) = some (subN j c))) && (decide (PySem.W.kitOne K (.ref (He.ga K (excN j))) (.type "ValueError") = some true) && (et.all fun c => decide (PySem.W.exmOne K (.ref (He.ga K (excN j))) (.ref (He.ga K c)) = some (subN j c)))))))))))))))
def ecB (ec : List Nat) (et : List Str) (K : PySem.W.Frag) : Bool := ec.all (ecJB K et)
theorem ecB_ok {K : PySem.W.Frag} {ec : List Nat} {et : List Str} (h : ecB ec et K = true) : EcK K ec et := by
  intro j hj
  have h := List.all_eq_true.mp h j hj
  unfold ecJB at h
  simp only [Bool.and_eq_true, decide_eq_true_eq, List.all_eq_true, eqV] at h
  obtain ⟨h1, h2, h3, h4, h5, h6, h7, h8, h9, h10, h11, h12, h13, h14⟩ := h
  exact ⟨h1, h2, h3, h4, ⟨h5, h6, h3, h7, h8, h9, h10, h11⟩, h12, h13, h14⟩
def etF : List Str := excNames
def ecF : List Nat := [0, 1, 2, 3, 4, 5, 6, 7, 8, 9, 10, 11, 12, 13, 14, 15, 16, 17, 19, 20, 21, 22, 23]
/-- a head's facts, with a look at the exceptions -/
abbrev AlX : Type := He.AlD × Bool
def hookX (n : Nat) (fa : List He.Fa) (fn : List He.DefD) (ec : List Nat) (et : List Str) : PySem.W.Hook where
  α := AlX
  obs := fun s => (He.obsDG n fa fn s.heap.get?, ecB ec et (He.frG s.heap.get? (He.asD s.heap.get? n)))
  val := fun _ => (He.valD fn, true)
  says := fun _ h => ∃ K : PySem.W.Frag, K.In h ∧ He.SaysD fa fn K ∧ EcK K ec et
  of := fun _ _ e => ⟨_, He.frG_in, congrArg Prod.fst e, ecB_ok (congrArg Prod.snd e)⟩
  keeps := fun _ _ _ ⟨K, hK, c⟩ k => ⟨K, PySem.W.Frag.In.keeps hK k, c⟩
def obsX (n : Nat) (fa : List He.Fa) (fn : List He.DefD) (ec : List Nat) (et : List Str) (g : Addr → Option Obj) : AlX := (He.obsDG n fa fn g, ecB ec et (He.frG g (He.asD g n)))
theorem obsX_eq {n : Nat} {fa : List He.Fa} {fn : List He.DefD} {ec : List Nat} {et : List Str} {g : Addr → Option Obj} {s : Shared} (h : ∀ a, g a = s.heap.get? a) : obsX n fa fn ec et g = (hookX n fa fn ec et).obs s := by
  have e : g = s.heap.get? := funext h
  rw [e] <;> rfl
end S

set_option Elab.async false
set_option linter.all false
set_option maxRecDepth 100000
set_option maxHeartbeats 4000000
namespace S
open PySem PySem.Spec L2
open PyProof.Rows hiding St
/-! ## things of the program's classes: attributes, methods, making -/
theorem attrs_nodup : attrs.Nodup := by decide +kernel
theorem attrs_len : attrs.length = 39 := by decide +kernel
theorem nodup_sub_len {α : Type} [DecidableEq α] : ∀ {l m : List α}, l.Nodup → (∀ x ∈ l, x ∈ m) → l.length ≤ m.length
  | [], _, _, _ => Nat.zero_le _
  | a :: l, m, nd, h => by
    have ha := h a List.mem_cons_self
    have nd' := List.nodup_cons.mp nd
    have i := nodup_sub_len (m := m.erase a) nd'.2 fun x hx => (List.mem_erase_of_ne fun (e : x = a) => nd'.1 (by subst e; exact hx)).mpr (h x (List.mem_cons_of_mem _ hx))
    have := List.length_pos_of_mem ha
    rw [List.length_erase_of_mem ha] at i
    simp only [List.length_cons]
    omega
theorem putF_keys (f : Str) (v : V) : ∀ fs : List (Str × V), (putF f v fs).map (·.1) = if f ∈ fs.map (·.1) then fs.map (·.1) else fs.map (·.1) ++ [f]
  | [] => by simp [putF]
  | (g, x) :: r => by
    have ih := putF_keys f v r
    unfold putF
    by_cases e : g = f
    · subst e; simp
    · rw [if_neg e, List.map_cons, ih]
      by_cases q : f ∈ r.map (·.1)
      · have q2 : f ∈ ((g, x) :: r).map (·.1) := by rw [List.map_cons]; exact List.mem_cons_of_mem _ q
        rw [if_pos q, if_pos q2]; rfl
      · have q2 : f ∉ ((g, x) :: r).map (·.1) := by
          rw [List.map_cons]
          intro z
          rcases List.mem_cons.mp z with z | z
          · exact e z.symm
          · exact q z
        rw [if_neg q, if_neg q2]; rfl
theorem putF_nodup {f : Str} {v : V} {fs : List (Str × V)} (h : (fs.map (·.1)).Nodup) : ((putF f v fs).map (·.1)).Nodup := by
  rw [putF_keys]
  split
  · exact h
  · rename_i q
    rw [List.nodup_append]
    exact ⟨h, by simp, fun a ha b hb e => q (by simp at hb; subst hb; subst e; exact ha)⟩
def updF (fs : Nat → Option D) (i : Nat) (d : D) : Nat → Option D := fun j => if j = i then some d else fs j
@[simp] theorem updF_same {fs : Nat → Option D} {i : Nat} {d : D} : updF fs i d i = some d := by simp [updF]
theorem updF_ne {fs : Nat → Option D} {i j : Nat} {d : D} (h : j ≠ i) : updF fs i d j = fs j := by simp [updF, h]
/-- an attribute of a class's things -/
def ClF (X : Cx) (c i : Nat) (f : Str) : Prop := attrs[i]? = some f ∧ Cls X.K (He.ga X.K (clsName c)) ∧ NoAttr X.K (He.ga X.K (clsName c)) f
/-- a method of a class -/
def MetC (X : Cx) (c : Nat) (m : Str) (sp : DSp) : Prop := Cls X.K (He.ga X.K (clsName c)) ∧ m ∉ attrs ∧ ∃ f fd ps k, Meth X.K (He.ga X.K (clsName c)) m f ∧ FnOk X.prog X.w (kt X) X.mg X.base (L2N.CX X.prog X.w) k f fd ps (liftSp (kt X) sp) ∧ Room k X.A ∧ Binds (kt X) fd ps []
/-- a class to be called -/
def MkC (X : Cx) (x : Str) (c : Nat) (sp : DSp) : Prop := X.mg x = some (.ref (He.ga X.K (clsName c))) ∧ ∃ f fd ps k, Mk X.K (He.ga X.K (clsName c)) f ∧ FnOk X.prog X.w (kt X) X.mg X.base (L2N.CX X.prog X.w) k f fd ps (liftSp (kt X) sp) ∧ Room (k + 1) X.A ∧ Binds (kt X) fd ps []
def dFld (c i : Nat) (ta : TEd) : TEd := fun w σ G Q => ta w σ G fun d G1 => ∃ a fs v, d = .ref a ∧ G1 a = some (.obj c fs) ∧ fs i = some v ∧ Q v G1
def dSetF (c i : Nat) (to tv : TEd) : TSd := fun w E σ G => tv w σ G fun y G1 => to w σ G1 fun d G2 => ∃ a fs, d = .ref a ∧ G2 a = some (.obj c fs) ∧ E.nx σ (st G2 a (.obj c (updF fs i y)))
def dMeth (c : Nat) (sp : DSp) (ta : TEd) (t : TAd) : TEd := fun w σ G Q => ta w σ G fun d G1 => ∃ a fs, d = .ref a ∧ G1 a = some (.obj c fs) ∧ t w σ G1 fun ds G2 => sp (.ref a :: ds) G2 Q fun i d G3 => w i d σ G3
def dMake (c : Nat) (sp : DSp) (t : TAd) : TEd := fun w σ G Q => t w σ G fun ds G1 => ∀ p, G1 p = none → sp (.ref p :: ds) (st G1 p (.obj c fun _ => none)) (fun d G2 => d = .non ∧ Q (.ref p) G2) fun i d G2 => w i d σ G2
section
variable {X : Cx} {c i : Nat} {f m x : Str} {o e v : Expr} {es : List Expr} {ta to tv : TEd} {tes : TAd} {pos apos p : Pos} {sp : DSp}
theorem de_fld (k : ClF X c i f) (he : DE X e ta) (hb : attributeBase e f X.env (eval e X.env) = eval e X.env) : DE X (.Attribute e f pos) (dFld c i ta) := fun W tk =>
  PEi (pe_fld (he W tk) hb) fun σ H Q ⟨σd, G, q, w, sr, gr, h, cl, cw⟩ => ⟨σd, G, _, w, sr, gr, h, fun v d H1 G1 t1 gr1 r1 ⟨a, fs, y, e1, e2, e3, h1⟩ => by
    subst e1
    obtain rfl := r1.ref_inv
    obtain ⟨dx, fv, z1, z2, z3, z4⟩ := gr1 a _ e2
    have z5 := z4 i f k.1
    rw [e3] at z5
    cases e4 : fv.lookup f with
    | none => rw [e4] at z5; exact False.elim z5
    | some u =>
      rw [e4] at z5
      exact ⟨a, _, dx, fv, u, rfl, z1, k.2.1, k.2.2, e4, cl _ _ _ _ t1 gr1 z5 h1⟩, cw⟩
theorem obj_set {K : Kt} {H : Hp} {G : Hd} {a : Addr} {fs : Nat → Option D} {y : D} {u : V} (hf : attrs[i]? = some f) (gr : GR K G H) (e : G a = some (.obj c fs)) (r : Rp K H y u) :
    ∃ dx fv, H a = some (.ins (He.ga K (clsName c)) dx fv) ∧ fv.length < 1000 ∧ Tm K H (upd H a (.ins (He.ga K (clsName c)) dx (putF f u fv))) ∧ GR K (st G a (.obj c (updF fs i y))) (upd H a (.ins (He.ga K (clsName c)) dx (putF f u fv))) := by
  obtain ⟨dx, fv, z1, z2, z3, z4⟩ := gr a _ e
  have tm : Tm K H (upd H a (.ins (He.ga K (clsName c)) dx (putF f u fv))) := Tm.put fun w q => by rw [z1] at q; cases q; exact fun z => z
  have hl := nodup_sub_len z2 z3
  rw [attrs_len, List.length_map] at hl
  refine ⟨dx, fv, z1, by omega, tm, gr.set tm ⟨dx, _, upd_same, putF_nodup z2, fun g hg => ?_, fun j g hj => ?_⟩⟩
  · rw [putF_keys] at hg
    split at hg
    · exact z3 g hg
    · rcases List.mem_append.mp hg with hg | hg
      · exact z3 g hg
      · simp at hg; subst hg; exact List.mem_of_getElem? hf
  · rw [lookup_putF]
    by_cases q : g = f
    · subst q
      have ij : j = i := (List.getElem?_inj (List.getElem?_eq_some_iff.mp hj).1 attrs_nodup).mp (hj.trans hf.symm)
      subst ij
      rw [if_pos rfl, updF_same]
      exact r.mono tm
    · have ij : j ≠ i := fun e => q (by subst e; rw [hj] at hf; exact Option.some.inj hf)
      rw [if_neg q, updF_ne ij]
      exact (z4 j g hj).mono tm
theorem ds_setf (k : ClF X c i f) (ho : DE X o to) (hv : DE X v tv) (hs : plainE v = true) : DS X (.Assign [.Attribute o f apos] v pos) (dSetF c i to tv) := fun W tk =>
  PSi (ps_fld (ho W tk) (hv W tk) (swaps_ok hs)) fun E σ H ⟨σd, G, e, w, sr, gr, h, cl, cw⟩ => ⟨σd, G, _, w, sr, gr, h, fun u y H1 G1 t1 gr1 r1 h1 =>
    ⟨σd, G1, _, w, sr.mono t1, gr1, h1, fun ov d H2 G2 t2 gr2 r2 ⟨a, fs, e1, e2, h2⟩ => by
      subst e1
      obtain rfl := r2.ref_inv
      obtain ⟨dx, fv, z1, z2, tm, z3⟩ := obj_set k.1 gr2 e2 (r1.mono t2)
      exact ⟨a, _, dx, fv, rfl, z1, k.2.1, k.2.2, z2, cl.nx _ _ _ _ ((t1.trans t2).trans tm) (sr.mono ((t1.trans t2).trans tm)) z3 h2⟩, cw.mono t1⟩, cw⟩
theorem look_none {fv : List (Str × V)} {m : Str} (h : ∀ f ∈ fv.map (·.1), f ∈ attrs) (hm : m ∉ attrs) : fv.lookup m = none := by
  cases e : fv.lookup m with
  | none => rfl
  | some u =>
    refine absurd (h m ?_) hm
    clear h
    induction fv with
    | nil => cases e
    | cons p r ih =>
      obtain ⟨g, y⟩ := p
      rw [List.lookup] at e
      split at e
      · rename_i q; rw [List.map_cons]; exact List.mem_cons.mpr (.inl (eq_of_beq q))
      · rw [List.map_cons]; exact List.mem_cons_of_mem _ (ih e)
theorem mcall_of {M : Model} {A : Around} {E : Value → Shared → Prop} {s : Shared} {env : Env} {o : Expr} {m : Str} {apos pos : Pos} {args : List Expr} {Q : Value → Shared → Prop} (hbase : attributeBase o m env (eval o env) = eval o env)
    (hfew : ((backTo pos (starEach args env)).all (fun x => !x.1) && (backToKw pos (keywordEach [] env)).all (fun x => x.1.isSome)
      && decide (args.length + ([] : List Keyword).length + (if ([] : List Keyword).isEmpty then 0 else 1) < 30)) = true) (hline : (apos.endLine == pos.line) = true)
    (h : wpAny M A (eval o env) (fun ov s₁ => wpAny M A (getMethod ov m (do return (← importBound o env).getD true)) (fun fx s₂ => wpAny M A (callWith pos fx.1 fx.2 (backTo pos (starEach args env)) (backToKw pos (keywordEach [] env))) Q E s₂) E s₁) E s) :
    wpAny M A (eval (.Call (.Attribute o m apos) args [] pos) env) Q E s := by
  rw [arm_eval_Call, hbase]
  refine wpAny_bind (wpAny_mono h (fun ov s₁ h₁ => ?_) fun _ _ e => e)
  refine wpAny_bind (wpAny_standAt ?_)
  have hform : methodCallForm (args.length + ([] : List Keyword).length) (backTo pos (starEach args env)) (backToKw pos (keywordEach [] env)) = true := hfew
  have hpos : methodCallPos true o env apos pos = pure pos := by unfold methodCallPos; simp [hline]
  have hcal : ∀ ov, calleeOf true o env ov m = getMethod ov m (do return (← importBound o env).getD true) := fun _ => rfl
  unfold methodCall
  rw [hform, hcal]
  refine wpAny_bind (wpAny_holding (wpAny_mono h₁ (fun f s₂ h₂ => ?_) fun _ _ x => x))
  exact wpAny_bind (wpAny_of_eq hpos h₂)
theorem de_meth (k : MetC X c m sp) (he : DE X o to) (ha : DA X (e :: es) tes) (hb : attributeBase o m X.env (eval o X.env) = eval o X.env) (hl : (apos.endLine == pos.line) = true) (hs : (e :: es).all unstarE = true) (hn : es.length < 20) :
    DE X (.Call (.Attribute o m apos) (e :: es) [] pos) (dMeth c sp to tes) := fun W tk => ⟨fun pins s σ H Q I ⟨σd, G, q, w, sr, gr, h, cl, cw⟩ => by
  obtain ⟨kc, km, f, fd, ps, j, kM, F, hr, hbd⟩ := k
  have hs' := hs
  simp only [List.all_cons, Bool.and_eq_true] at hs
  refine mcall_of hb (few_ok hs' hn) hl (thn ((he W tk).run pins s σ H (fun v H1 => ∃ d G1, Tm (kt X) H H1 ∧ GR (kt X) G1 H1 ∧ Rp (kt X) H1 d v ∧ ∃ a fs, d = .ref a ∧ G1 a = some (.obj c fs) ∧ tes w σd G1 fun ds G2 => sp (.ref a :: ds) G2 q fun i d G3 => w i d σd G3) I ⟨σd, G, _, w, sr, gr, h, fun v d H1 G1 t1 gr1 r1 h1 => ⟨d, G1, t1, gr1, r1, h1⟩, cw⟩) fun u s1 ⟨v, H1, I1, r1, d, G1, t1, gr1, rd, a, fs, e1, e2, h1⟩ => ?_)
  subst e1
  obtain rfl := rd.ref_inv
  obtain rfl : u = Value.ref a := r1
  obtain ⟨dx, fv, z1, z2, z3, z4⟩ := gr1 a _ e2
  refine getmeth_ok I1 z1 kc kM (look_none z3 km) ?_
  refine PySem.W.callWith_K (first := [.ref a]) (h₀ := X.base) I.ok.mod.kin kM.kp (thn ((ha W tk).run pos pins s1 σ _ (fun vs H2 => liftSp (kt X) sp (.ref a :: vs) H2 Q (WE W σ)) I1 ?_) fun us s2 ⟨vs, H2, I2, r, q⟩ => ⟨I2.kIn, run_fnS F hr hbd (L2N.passAt tk σ) I2 (.cons (show L2.RelV (V.ref a) (Value.ref a) from rfl) r) q⟩) (star_ok hs.1) (plain_ok hs.2)
  exact ⟨σd, G1, _, w, sr.mono t1, gr1, h1, fun vs ds H2 G2 t2 gr2 r2 h2 => ⟨_, G2, q, _, .cons (.ref a) r2, gr2, h2, cl.mono (t1.trans t2), fun i d G' H' cls od t3 gr3 ex h3 => cw i d σd σ G' H' cls od ((t1.trans t2).trans t3) (sr.mono ((t1.trans t2).trans t3)) gr3 ex h3⟩, cw.mono t1⟩⟩
theorem de_meth0 (k : MetC X c m sp) (he : DE X o to) (hb : attributeBase o m X.env (eval o X.env) = eval o X.env) (hl : (apos.endLine == pos.line) = true) :
    DE X (.Call (.Attribute o m apos) [] [] pos) (dMeth c sp to dNil) := fun W tk => ⟨fun pins s σ H Q I ⟨σd, G, q, w, sr, gr, h, cl, cw⟩ => by
  obtain ⟨kc, km, f, fd, ps, j, kM, F, hr, hbd⟩ := k
  refine mcall_of hb (by rfl) hl (thn ((he W tk).run pins s σ H (fun v H1 => ∃ d G1, Tm (kt X) H H1 ∧ GR (kt X) G1 H1 ∧ Rp (kt X) H1 d v ∧ ∃ a fs, d = .ref a ∧ G1 a = some (.obj c fs) ∧ dNil w σd G1 fun ds G2 => sp (.ref a :: ds) G2 q fun i d G3 => w i d σd G3) I ⟨σd, G, _, w, sr, gr, h, fun v d H1 G1 t1 gr1 r1 h1 => ⟨d, G1, t1, gr1, r1, h1⟩, cw⟩) fun u s1 ⟨v, H1, I1, r1, d, G1, t1, gr1, rd, a, fs, e1, e2, h1⟩ => ?_)
  subst e1
  obtain rfl := rd.ref_inv
  obtain rfl : u = Value.ref a := r1
  obtain ⟨dx, fv, z1, z2, z3, z4⟩ := gr1 a _ e2
  refine getmeth_ok I1 z1 kc kM (look_none z3 km) ?_
  refine PySem.W.callWith_K0 (first := [.ref a]) I1.kIn kM.kp (run_fnS (us := [.ref a]) (vs := [.ref a]) (E := WE W) F hr hbd (L2N.passAt tk σ) I1 (.cons (show L2.RelV (V.ref a) (Value.ref a) from rfl) .nil) ?_)
  exact ⟨_, G1, q, _, .cons (.ref a) .nil, gr1, h1, cl.mono t1, fun i d G' H' cls od t3 gr3 ex h3 => cw i d σd σ G' H' cls od (t1.trans t3) (sr.mono (t1.trans t3)) gr3 ex h3⟩⟩
theorem run_makeS {C f : Addr} {fd : FuncData} {ps : List Str} {k : Nat} {Sp0 : Sp} {pins : List (Addr × Obj)} {σ : St} {H : Hp} {s : Shared} {Q : VK} {E : St → XK} {us : List Value} {vs : List V} (M : Mk X.K C f) (F : FnOk X.prog X.w X.K X.mg X.base (L2N.CX X.prog X.w) k f fd ps Sp0) (hr : Room (k + 1) X.A) (hb : Binds X.K fd ps [])
    (hx : PassesAt (L2N.CX X.prog X.w) X σ (E σ)) (I : Inv X pins σ H s) (r : Vals vs us)
    (h : ∀ x dx, H x = none → H dx = none → dx ≠ x → Sp0 (.ref x :: vs) (upd (upd H dx (.own x)) x (.ins C dx [])) (fun v H2 => v = .non ∧ Q (.ref x) H2) (E σ)) :
    wpAny (model X.prog X.w) X.A (call (.ref C) us) (EP X pins σ Q) X.xe s := by
  have hq := h (s.heap.objs.size + 1) s.heap.objs.size (I.hok.fresh (Nat.le_succ _)) (I.hok.fresh (Nat.le_refl _)) (Nat.ne_of_lt (Nat.lt_succ_self _))
  have I2 := Inv.made (C := C) I
  have r2 : Vals (V.ref (s.heap.objs.size + 1) :: vs) (Value.ref (s.heap.objs.size + 1) :: us) := .cons rfl r
  have hl : (Value.ref (s.heap.objs.size + 1) :: us).length = ps.length := by
    have e := r2.length
    rw [F.len _ _ _ _ hq] at e
    exact e.symm
  have b := hb _ (Value.ref (s.heap.objs.size + 1) :: us) I2.kIn (by rw [List.append_nil]; exact hl)
  rw [List.append_nil] at b
  refine wpAny_call (make_map (f := f) I.kIn M.makes M.init (beq_iff_eq.mp M.fn) (codeAny_mono (F.run _ X.stack _ _ ⟨Value.ref (s.heap.objs.size + 1) :: us, []⟩ (Value.ref (s.heap.objs.size + 1) :: us) _ _ (E σ) (hr.make C us [])
    (I2.env0.make C us []) b r2 hq) fun r s' hq' => ?_))
  cases r with
  | error e => exact hx pins _ _ e s' I2 hq'
  | ok fl =>
    cases fl with
    | ret u =>
      obtain ⟨v, H', I3, rv, ev, q3⟩ := I2.after hq'
      subst ev
      exact ⟨rv, ⟨V.ref (s.heap.objs.size + 1), H', I3, rfl, q3⟩⟩
    | next => exact False.elim hq'
    | brk => exact False.elim hq'
    | cont => exact False.elim hq'
theorem make_sp {c : Nat} {σd : Sd} {σ : St} {H : Hp} {G : Hd} {Q : VK} {q : Qd} {w : Wx} {W : WX} {ds : List D} {vs : List V} (sr : SR (kt X) H σd σ) (gr : GR (kt X) G H) (cl : CQ (kt X) H Q q) (cw : CW (kt X) W H w) (r : Rps (kt X) H ds vs)
    (h : ∀ p, G p = none → sp (.ref p :: ds) (st G p (.obj c fun _ => none)) (fun d G2 => d = .non ∧ q (.ref p) G2) fun i d G2 => w i d σd G2) (x dx : Addr) (hx : H x = none) (hdx : H dx = none) (ne : dx ≠ x) :
    liftSp (kt X) sp (.ref x :: vs) (upd (upd H dx (.own x)) x (.ins (He.ga X.K (clsName c)) dx [])) (fun v H2 => v = .non ∧ Q (.ref x) H2) (WE W σ) := by
  have t1 : Tm (kt X) H (upd H dx (.own x)) := Tm.new hdx
  have hx2 : upd H dx (.own x) x = none := by rw [upd_ne (Ne.symm ne)]; exact hx
  have t2 : Tm (kt X) (upd H dx (.own x)) (upd (upd H dx (.own x)) x (.ins (He.ga X.K (clsName c)) dx [])) := Tm.new hx2
  have g1 := gr.keep (o := .own x) hdx
  have g2 : GR (kt X) (st G x (.obj c fun _ => none)) _ := g1.new (o := .ins (He.ga X.K (clsName c)) dx []) (u := .obj c fun _ => none) hx2 ⟨dx, [], upd_same, .nil, by simp, fun i f _ => True.intro⟩
  refine ⟨_, _, _, _, .cons (.ref x) (r.mono (t1.trans t2)), g2, h x (gr.free hx), fun v d H' G' t gr' r' ⟨e, h'⟩ => ?_, fun i d G' H' cls od t gr' ex h' => cw i d σd σ G' H' cls od ((t1.trans t2).trans t) (sr.mono ((t1.trans t2).trans t)) gr' ex h'⟩
  subst e
  exact ⟨r'.non_inv, cl _ _ _ _ ((t1.trans t2).trans t) gr' (.ref x) h'⟩
theorem de_make (k : MkC X x c sp) (hg : Gl X x) (hd : (x == ("__debug__" : Str)) = false) (ha : DA X (e :: es) tes) (hs : (e :: es).all unstarE = true) : DE X (.Call (.Name x p) (e :: es) [] pos) (dMake c sp tes) := fun W tk => ⟨fun pins s σ H Q I ⟨σd, G, q, w, sr, gr, h, cl, cw⟩ => by
  obtain ⟨hm, f, fd, ps, j, M, F, hr, hb⟩ := k
  simp only [List.all_cons, Bool.and_eq_true] at hs
  refine wpAny_Call_Name_kw (ld_glob I hg hm ?_ hd)
  refine PySem.W.callWith_K (h₀ := X.base) I.ok.mod.kin M.kp (thn ((ha W tk).run pos pins s σ H (fun vs H1 => ∃ ds G1, Tm (kt X) H H1 ∧ GR (kt X) G1 H1 ∧ Rps (kt X) H1 ds vs ∧ ∀ p, G1 p = none → sp (.ref p :: ds) (st G1 p (.obj c fun _ => none)) (fun d G2 => d = .non ∧ q (.ref p) G2) fun i d G2 => w i d σd G2) I ⟨σd, G, _, w, sr, gr, h, fun vs ds H1 G1 t1 gr1 r1 h1 => ⟨ds, G1, t1, gr1, r1, h1⟩, cw⟩) fun us s1 ⟨vs, H1, I1, r, ds, G1, t1, gr1, rd, h1⟩ => ⟨I1.kIn, ?_⟩) (star_ok hs.1) (plain_ok hs.2)
  exact run_makeS (E := WE W) M F hr hb (L2N.passAt tk σ) I1 r (make_sp (sr.mono t1) gr1 (cl.mono t1) (cw.mono t1) rd h1)⟩
theorem de_make0 (k : MkC X x c sp) (hg : Gl X x) (hd : (x == ("__debug__" : Str)) = false) : DE X (.Call (.Name x p) [] [] pos) (dMake c sp dNil) := fun W tk => ⟨fun pins s σ H Q I ⟨σd, G, q, w, sr, gr, h, cl, cw⟩ => by
  obtain ⟨hm, f, fd, ps, j, M, F, hr, hb⟩ := k
  refine wpAny_Call_Name_kw (ld_glob I hg hm ?_ hd)
  exact PySem.W.callWith_K0 I.kIn M.kp (run_makeS (us := []) (E := WE W) M F hr hb (L2N.passAt tk σ) I .nil (make_sp sr gr cl cw .nil h))⟩
end
/-! ## a dict display of one entry, its key a tuple -/
def dDict1 (tk tv : TEd) : TEd := fun w σ G Q => ∀ p, G p = none → tk w σ (st G p (.dit [] 0)) fun x G1 => tv w σ G1 fun y G2 => G2 p = some (.dit [] 0) ∧ (∃ kd, x = .tup kd ∧ keyOk (.tup kd)) ∧ ∀ ep, Q (.ref p) (st G2 p (.dit [(x, y)] ep))
theorem de_dict1 {X : Cx} {k v : Expr} {pos : Pos} {tk tv : TEd} (hu : X.A.units + 9 < cLine) (hk : DE X k tk) (hv : DE X v tv) : DE X (.Dict [some k] [v] pos) (dDict1 tk tv) := fun W tw => ⟨fun pins s σ H Q I ⟨σd, G, q, w, sr, gr, h, cl, cw⟩ => by
  have hp := I.hok.fresh (Nat.le_refl s.heap.objs.size)
  have I0 := I.laid (a := s.heap.objs.size) (o := DitO X.prog X.w s.heap.objs.size [] 0) (t' := s.toks) (fun _ _ q => Heap.get?_push_of_some _ q) (Nat.le_refl _) (ditO_new s.heap I.big)
  have t0 : Tm (kt X) H (upd H s.heap.objs.size (DitO X.prog X.w s.heap.objs.size [] 0)) := Tm.new hp
  have g0 : GR (kt X) (st G s.heap.objs.size (.dit [] 0)) (upd H s.heap.objs.size (DitO X.prog X.w s.heap.objs.size [] 0)) := gr.new (u := .dit [] 0) hp ⟨[], upd_same, .nil⟩
  have h0 := h s.heap.objs.size (gr.free hp)
  rw [arm_eval_Dict, show (evalEachOpt [some k] X.env).zip ((evalEach [v] X.env).map fun v => do let x ← v; standAt pos; pure x) = [((eval k X.env : Sem Value), (do let x ← eval v X.env; standAt pos; pure x : Sem Value))].map (fun p => (some p.1, p.2)) from rfl, dictDisplay_pairs _ (by simp) (by simp)]
  refine wpAny_bind (wpAny_standAt (wpAny_bind (wpAny_subDictH (knd := nestedKind X.prog X.w) (Q := fun d s' => wpAny (model X.prog X.w) X.A (pure (Value.ref d)) (EP X pins σ Q) X.xe s') (by show X.A.units + 8 < cLine; omega) (by simp) ?_)))
  refine evalPairs_cons (thn ((hk W tw).run pins _ σ _ (fun x H1 => ∃ d G1, Tm (kt X) (upd H s.heap.objs.size (DitO X.prog X.w s.heap.objs.size [] 0)) H1 ∧ GR (kt X) G1 H1 ∧ Rp (kt X) H1 d x ∧ tv w σd G1 fun y G2 => G2 s.heap.objs.size = some (.dit [] 0) ∧ (∃ kd, d = .tup kd ∧ keyOk (.tup kd)) ∧ ∀ ep, q (.ref s.heap.objs.size) (st G2 s.heap.objs.size (.dit [(d, y)] ep))) I0
    ⟨σd, _, _, w, sr.mono t0, g0, h0, fun x d H1 G1 t1 g1 r1 h1 => ⟨d, G1, t1, g1, r1, h1⟩, cw.mono t0⟩) fun u1 s1 ⟨x, H1, I1, r1, d1, G1, t1, g1, rd1, h1⟩ => ?_)
  refine wpAny_bind (thn ((hv W tw).run pins _ σ _ (fun y H2 => ∃ d2 G2, Tm (kt X) H1 H2 ∧ GR (kt X) G2 H2 ∧ Rp (kt X) H2 d2 y ∧ G2 s.heap.objs.size = some (.dit [] 0) ∧ (∃ kd, d1 = .tup kd ∧ keyOk (.tup kd)) ∧ ∀ ep, q (.ref s.heap.objs.size) (st G2 s.heap.objs.size (.dit [(d1, d2)] ep))) I1
    ⟨σd, G1, _, w, sr.mono (t0.trans t1), g1, h1, fun x d H2 G2 t2 g2 r2 h2 => ⟨d, G2, t2, g2, r2, h2⟩, cw.mono (t0.trans t1)⟩) fun u2 s2 ⟨y, H2, I2, r2, d2, G2, t2, g2, rd2, hd, ⟨kd, ek, ko⟩, hq⟩ => wpAny_bind (wpAny_standAt (wpAny_pure ?_)))
  subst ek
  refine evalPairs_nil ?_
  obtain ⟨xs, ha, r⟩ := g2 _ _ hd
  obtain ⟨dd, hz, hs0⟩ := dit_of I2 ha r
  obtain ⟨nk, hnk, hdp⟩ := keyOk_ok ko
  have rk := rd1.mono t2
  obtain ⟨b, vs, rfl, sb, rb⟩ := rk.tup_inv
  cases (show u1 = Value.ref b from r1)
  cases r
  refine ⟨[(nk, b, u2)], ⟨rfl, rfl, ⟨nest_of I2 hnk rk rfl, hdp⟩, trivial⟩, dd, fun h' tk' dd' hs => wpAny_pure ?_⟩
  have e1 : storedAllH [] [(nk, b, u2)] = storedH ([] : List (NestedKey × Addr × Value)) nk b u2 := rfl
  rw [e1] at dd'
  obtain ⟨o, es, ep', z1, z2, z3, z4, z5, z6⟩ := dd'
  have rp := (DitR.nil (K := kt X) (H := H2)).put (ad := b) hnk hdp rk rd2 r2
  have hl2 : (storedH ([] : List (NestedKey × Addr × Value)) nk b u2).length ≤ sizeLine := by rw [← dit_len rp]; have := putT_len (kvs := []) (k := .tup kd) (v := d2); have := sizeLine_eq; simp at *; omega
  have t : Tm (kt X) H2 (upd H2 s.heap.objs.size (DitO X.prog X.w s.heap.objs.size (storedH [] nk b u2) ep')) := Tm.put fun u q => by rw [ha] at q; cases q; exact fun z => z
  refine ⟨.ref s.heap.objs.size, upd H2 s.heap.objs.size (DitO X.prog X.w s.heap.objs.size (storedH [] nk b u2) ep'), d_write I2 (by rw [ha]; exact True.intro) hs ⟨o, z1⟩ ⟨⟨hl2, hs0, z6, o, es, z1, z2, z3, z4⟩, ⟨o, z1⟩, ?_⟩, rfl, cl _ _ _ _ ((t0.trans t1).trans (t2.trans t)) (g2.set (u := .dit [(.tup kd, d2)] ep') t ⟨_, upd_same, rp.mono t⟩) (.ref _) (hq ep')⟩
  rintro q1 q2 ⟨l, hs, nd, o, es, e1, r⟩ k
  exact ⟨l, hs, nd, o, es, k o e1, r⟩⟩
end S

set_option Elab.async false
set_option linter.all false
set_option maxRecDepth 100000
set_option maxHeartbeats 4000000
namespace S
open PySem PySem.Spec L2
open PyProof.Rows hiding St
/-! ## from the text to its reading -/
inductive BI where
  | len | isi | list | tuple | all | any | sum | max | min | abs | int | sorted
  deriving DecidableEq
def BI.name : BI → Str
  | .len => "len" | .isi => "isinstance" | .list => "list" | .tuple => "tuple" | .all => "all" | .any => "any" | .sum => "sum" | .max => "max" | .min => "min" | .abs => "abs" | .int => "int" | .sorted => "sorted"
def BI.r : BI → RCd
  | .len => lenD | .isi => isiD | .list => listD | .tuple => tupleD | .all => allD | .any => anyD | .sum => sumD | .max => maxD | .min => minD | .abs => absD | .int => intBD | .sorted => sortedD
/-- what a global name stands for -/
inductive GI where
  | fn (sp : DSp) | cst (d : D) | bi (b : BI) | ty (n : String) | rng | enum | zip | exc | fv (sp : DSp) | cl (c : Nat) (sp : DSp)
def GIok (X : Cx) (x : Str) : GI → Prop
  | .fn sp => Cal X x sp
  | .cst d => ∃ v u, X.mg x = some u ∧ RelV v u ∧ ∀ H, Rp (kt X) H d v
  | .bi b => X.mg x = none ∧ x = b.name
  | .ty n => X.mg x = none ∧ bootBuiltins x = some (.type n) ∧ x ≠ "__name__"
  | .rng => X.mg x = none ∧ x = "range"
  | .enum => X.mg x = none ∧ x = "enumerate"
  | .zip => X.mg x = none ∧ x = "zip"
  | .exc => X.mg x = some (.ref (He.ga X.K x))
  | .fv sp => Cal X x sp ∧ X.mg x = some (.ref (He.ga X.K x))
  | .cl c sp => MkC X x c sp
structure CC where
  N : List Str
  sc : Scope
  fx : Str → Bool
  gl : List (Str × GI)
  dn : List Str := []
  ec : List Nat := []
  et : List Str := []
  kd : Bool := false
  fl : List (Str × Nat × Nat) := []
  mt : List (Str × Nat × DSp) := []
structure Gd (X : Cx) (cc : CC) : Prop where
  N : X.N = cc.N
  nd : X.N.Nodup
  sc : X.env.scope = cc.sc
  calm : X.calm = true
  fx : ∀ x, cc.fx x = true → X.fn x = true
  hu : X.A.units + 65 < cLine
  gl : ∀ x g, cc.gl.lookup x = some g → GIok X x g
  ec : EcK X.K cc.ec cc.et
  fl : ∀ f c i, cc.fl.lookup f = some (c, i) → ClF X c i f
  mt : ∀ m c sp, cc.mt.lookup m = some (c, sp) → MetC X c m sp
def ixOf (x : Str) : List Str → Nat → Option Nat
  | [], _ => none
  | y :: r, i => if y = x then some i else ixOf x r (i + 1)
theorem ixOf_ok {x : Str} : ∀ {l : List Str} {k i : Nat}, ixOf x l k = some i → k ≤ i ∧ l[i - k]? = some x
  | [], _, _, h => by cases h
  | y :: r, k, i, h => by
    unfold ixOf at h
    split at h
    · rename_i e
      cases h
      exact ⟨Nat.le_refl _, by simp [e]⟩
    · obtain ⟨h1, h2⟩ := ixOf_ok h
      refine ⟨by omega, ?_⟩
      have e : i - k = (i - (k + 1)) + 1 := by omega
      rw [e]
      simpa using h2
def visK : Option NameKind → Bool
  | some .local => true
  | some .cell => true
  | some .free => true
  | _ => false
def okName (x : Str) : Bool := !(x == ("__debug__" : Str)) && !(x == ("__classdict__" : Str)) && !(x == ("__name__" : Str))
/-- a name's slot, to be read -/
def slotR (cc : CC) (x : Str) : Option Nat := if visK (cc.sc.names.lookup x) && okName x then ixOf x cc.N 0 else none
/-- .. to be stored -/
def slotW (cc : CC) (x : Str) : Option Nat := match cc.sc.names.lookup x with
  | some .local => ixOf x cc.N 0
  | some .cell => if cc.fx x then ixOf x cc.N 0 else none
  | _ => none
def globG (cc : CC) (x : Str) : Option GI := match cc.sc.names.lookup x with
  | some .globalImplicit => if okName x then cc.gl.lookup x else none
  | _ => none
section
variable {X : Cx} {cc : CC} {x : Str} {i : Nat} {pos : Pos}
theorem okName_ok (h : okName x = true) : (x == ("__debug__" : Str)) = false ∧ (x == ("__classdict__" : Str)) = false ∧ x ≠ "__name__" := by
  unfold okName at h
  simp only [Bool.and_eq_true, Bool.not_eq_true'] at h
  exact ⟨h.1.1, h.1.2, fun e => by have := h.2; rw [e] at this; simp at this⟩
theorem slotR_of (gN : X.N = cc.N) (gsc : X.env.scope = cc.sc) (h : slotR cc x = some i) : DE X (.Name x pos) (dVar i) := by
  unfold slotR at h
  split at h
  · rename_i c
    rw [Bool.and_eq_true] at c
    obtain ⟨h1, h2, _⟩ := okName_ok c.2
    obtain ⟨_, h3⟩ := ixOf_ok h
    refine de_var (by rw [gN]; simpa using h3) ?_ h1 h2
    have c1 := c.1
    rw [← gsc] at c1
    unfold Vis
    unfold visK at c1
    split at c1 <;> first | (rename_i e; exact .inl e) | (rename_i e; exact .inr (.inl e)) | (rename_i e; exact .inr (.inr e)) | cases c1
  · cases h
theorem slotR_ok (g : Gd X cc) (h : slotR cc x = some i) : DE X (.Name x pos) (dVar i) := slotR_of g.N g.sc h
theorem slotW_of (gN : X.N = cc.N) (gsc : X.env.scope = cc.sc) (gfx : ∀ x, cc.fx x = true → X.fn x = true) (h : slotW cc x = some i) : X.N[i]? = some x ∧ Loc X.env.scope x ∧ (X.fn x = true ∨ X.env.scope.names.lookup x = some .local) := by
  unfold slotW at h
  split at h
  · rename_i e
    obtain ⟨_, h3⟩ := ixOf_ok h
    rw [gN, gsc]
    exact ⟨by simpa using h3, .inl e, .inr e⟩
  · rename_i e
    split at h
    · rename_i c
      obtain ⟨_, h3⟩ := ixOf_ok h
      rw [gN, gsc]
      exact ⟨by simpa using h3, .inr e, .inl (gfx x c)⟩
    · cases h
  · cases h
theorem slotW_ok (g : Gd X cc) (h : slotW cc x = some i) : X.N[i]? = some x ∧ Loc X.env.scope x ∧ (X.fn x = true ∨ X.env.scope.names.lookup x = some .local) := slotW_of g.N g.sc g.fx h
theorem globG_ok {gi : GI} (g : Gd X cc) (h : globG cc x = some gi) : Gl X x ∧ (x == ("__debug__" : Str)) = false ∧ x ≠ "__name__" ∧ GIok X x gi := by
  unfold globG at h
  split at h
  · rename_i e
    split at h
    · rename_i c
      obtain ⟨h1, h2, h3⟩ := okName_ok c
      exact ⟨by unfold Gl Env.kindOf; rw [g.sc]; exact e, h1, h3, g.gl x gi h⟩
    · cases h
  · cases h
end
def cName (cc : CC) (x : Str) : Option TEd := match slotR cc x with
  | some i => some (dVar i)
  | none => match globG cc x with
    | some (.cst d) => some (dC d)
    | some (.ty n) => some (dC (.ty n))
    | some (.bi .list) => some (dC (.ty "list"))
    | some (.bi .tuple) => some (dC (.ty "tuple"))
    | some (.bi .int) => some (dC (.ty "int"))
    | some .exc => some (dC (.fn x))
    | some (.fv _) => some (dC (.fn x))
    | _ => none
theorem de_ty {X : Cx} {x : Str} {n : String} {pos : Pos} (hg : Gl X x) (hd : (x == ("__debug__" : Str)) = false) (hn : x ≠ "__name__") (hm : X.mg x = none) (hb : bootBuiltins x = some (.type n)) : DE X (.Name x pos) (dC (.ty n)) :=
  de_c (v := .ty n) (pe_bltn hg hm hb rfl hn hd) fun _ => .ty n
theorem cName_ok {X : Cx} {cc : CC} {x : Str} {t : TEd} {pos : Pos} (g : Gd X cc) (h : cName cc x = some t) : DE X (.Name x pos) t := by
  unfold cName at h
  split at h
  · rename_i e; cases h; exact slotR_ok g e
  · split at h
    · rename_i e; cases h
      obtain ⟨h1, h2, h3, v, u, h4, h5, h6⟩ := globG_ok g e
      exact de_c (pe_glob h1 h4 h5 h2) h6
    · rename_i e; cases h
      obtain ⟨h1, h2, h3, h4, h5, h6⟩ := globG_ok g e
      exact de_ty h1 h2 h3 h4 h5
    · rename_i e; cases h
      obtain ⟨h1, h2, h3, h4, rfl⟩ := globG_ok g e
      exact de_ty h1 h2 h3 h4 (by first | exact PyProof.Rows.boot_list | exact PySem.boot_list)
    · rename_i e; cases h
      obtain ⟨h1, h2, h3, h4, rfl⟩ := globG_ok g e
      exact de_ty h1 h2 h3 h4 (by first | exact PyProof.Rows.boot_tuple | exact PySem.boot_tuple)
    · rename_i e; cases h
      obtain ⟨h1, h2, h3, h4, rfl⟩ := globG_ok g e
      exact de_ty h1 h2 h3 h4 (by first | exact PyProof.Rows.boot_int | exact PySem.boot_int)
    · rename_i e; cases h
      obtain ⟨h1, h2, h3, h4⟩ := globG_ok g e
      exact de_c (v := .ref (He.ga X.K x)) (pe_glob h1 h4 rfl h2) fun H => .fn x
    · rename_i e; cases h
      obtain ⟨h1, h2, h3, _, h4⟩ := globG_ok g e
      exact de_c (v := .ref (He.ga X.K x)) (pe_glob h1 h4 rfl h2) fun H => .fn x
    · cases h
/-! a def held in a local -/
def fvAt (gl : List (Str × GI)) (f : Str) : Option DSp := match gl.lookup f with
  | some (.fv sp) => some sp
  | _ => none
def dCallV (i : Nat) (S : Str → Option DSp) (t : TAd) : TEd := fun w σ G Q => ∃ f sp, σ[i]? = some (some (.fn f)) ∧ S f = some sp ∧ t w σ G fun ds G1 => sp ds G1 Q fun i d G2 => w i d σ G2
theorem de_callV {X : Cx} {cc : CC} {x : Str} {i : Nat} {p pos : Pos} {e : Expr} {es : List Expr} {tes : TAd} (g : Gd X cc) (h : slotR cc x = some i) (ha : DA X (e :: es) tes) (hs : (e :: es).all unstarE = true) : DE X (.Call (.Name x p) (e :: es) [] pos) (dCallV i (fvAt cc.gl) tes) := fun W tk => ⟨fun pins s σ H Q I ⟨σd, G, q, w, sr, gr, ⟨f, sp, hi, hL, h2⟩, cl, cw⟩ => by
  have hl : cc.gl.lookup f = some (.fv sp) := by
    unfold fvAt at hL
    split at hL
    · rename_i e; cases hL; exact e
    · cases hL
  obtain ⟨c, hm⟩ := g.gl f _ hl
  obtain ⟨fa, fd, ps, k, F, hr, hm', hk, hb⟩ := c.ex
  have ef : fa = He.ga X.K f := by rw [hm] at hm'; cases hm'; rfl
  subst ef
  obtain ⟨v, hv, rv⟩ := sr.at_ i _ hi
  have ev : v = .ref (He.ga X.K f) := by cases rv; rfl
  subst ev
  simp only [List.all_cons, Bool.and_eq_true] at hs
  have hvar : PE X (.Name x p) (fun σ H Q => ∃ v, σ[i]? = some (some v) ∧ Q v H) := by
    unfold slotR at h
    split at h
    · rename_i c
      rw [Bool.and_eq_true] at c
      obtain ⟨h1, h2, _⟩ := okName_ok c.2
      obtain ⟨_, h3⟩ := ixOf_ok h
      refine pe_var (by rw [g.N]; simpa using h3) ?_ h1 h2
      have c1 := c.1
      rw [← g.sc] at c1
      unfold Vis
      unfold visK at c1
      split at c1 <;> first | (rename_i e; exact .inl e) | (rename_i e; exact .inr (.inl e)) | (rename_i e; exact .inr (.inr e)) | cases c1
    · cases h
  refine wpAny_Call_Name_kw (thn (hvar.run pins s σ H (fun v H1 => v = .ref (He.ga X.K f) ∧ H1 = H) I ⟨_, hv, rfl, rfl⟩) fun u s1 ⟨v, H1, I1, r1, q1⟩ => ?_)
  obtain ⟨rfl, rfl⟩ := q1
  cases r1
  refine PySem.W.callWith_K (h₀ := X.base) I.ok.mod.kin hk (thn ((ha W tk).run pos pins s1 σ _ (fun vs H2 => liftSp (kt X) sp vs H2 Q (WE W σ)) I1 ?_) fun us s2 ⟨vs, H2, I2, r, q⟩ => ⟨I2.kIn, run_fnS F hr hb (L2N.passAt tk σ) I2 r q⟩) (star_ok hs.1) (plain_ok hs.2)
  exact ⟨σd, G, _, w, sr, gr, h2, fun vs ds H1 G1 t1 gr1 r1 h1 => ⟨ds, G1, q, _, r1, gr1, h1, cl.mono t1, fun i d G' H' cls od t2 gr2 ex h2 => cw i d σd σ G' H' cls od (t1.trans t2) (sr.mono (t1.trans t2)) gr2 ex h2⟩, cw⟩⟩
/-! operators -/
def opRd : Operator → Option R2d
  | .Add => some addD | .Sub => some subD | .Mult => some mulD | .Mod => some modD | .FloorDiv => some divD | .Pow => some powD | _ => none
theorem opRd_ok {X : Cx} : ∀ {op : Operator} {r : R2d}, opRd op = some r → OpD X (binaryOp op) r
  | .Add, _, h => by cases h; exact od_add
  | .Sub, _, h => by cases h; exact od_sub
  | .Mult, _, h => by cases h; exact od_mul
  | .Mod, _, h => by cases h; exact od_mod
  | .FloorDiv, _, h => by cases h; exact od_div
  | .Pow, _, h => by cases h; exact od_pow
def cmpRd : CmpOp → Option R2d
  | .Eq => some (eqR false) | .NotEq => some (eqR true) | .Lt => some ltD | .LtE => some leD | .Gt => some gtD | .GtE => some geD | .Is => some (isND false) | .IsNot => some (isND true) | .In => some (inD false) | .NotIn => some (inD true)
theorem cmpRd_ok {X : Cx} (hu2 : X.A.units + 65 < cLine) {op : CmpOp} {r : R2d} (h : cmpRd op = some r) : OpD X (compareOp op) r := by
  have hu : X.A.units + 64 < cLine := by omega
  cases op <;> cases h
  · exact od_eq hu
  · exact od_ne hu
  · exact od_lt hu2
  · exact od_le
  · exact od_gt
  · exact od_ge
  · exact od_is
  · exact od_isnot
  · exact od_inB false hu hu2
  · exact od_inB true hu hu2
theorem BI_ok {X : Cx} {cc : CC} (g : Gd X cc) {x : Str} {p pos : Pos} {e : Expr} {es : List Expr} {tes : TAd} {b : BI} (h : globG cc x = some (.bi b)) (ha : DA X (e :: es) tes) (hs : (e :: es).all unstarE = true) : DE X (.Call (.Name x p) (e :: es) [] pos) (dBi b.r tes) := by
  obtain ⟨h1, h2, h3, h4, rfl⟩ := globG_ok g h
  cases b with
  | len => exact de_bi bd_len h1 h4 (by first | exact PyProof.Rows.boot_len | exact PySem.boot_len) ha h3 h2 hs
  | isi => exact de_bi bd_isi h1 h4 (by first | exact PyProof.Rows.boot_isinstance | exact PySem.boot_isinstance) ha h3 h2 hs
  | list => exact de_bty bd_list h1 h4 (by first | exact PyProof.Rows.boot_list | exact PySem.boot_list) ha h3 h2 hs
  | tuple => exact de_bty bd_tuple h1 h4 (by first | exact PyProof.Rows.boot_tuple | exact PySem.boot_tuple) ha h3 h2 hs
  | all => exact de_bi (bd_all g.calm) h1 h4 (by first | exact PyProof.Rows.boot_all | exact PySem.boot_all) ha h3 h2 hs
  | any => exact de_bi (bd_any g.calm) h1 h4 (by first | exact PyProof.Rows.boot_any | exact PySem.boot_any) ha h3 h2 hs
  | sum => exact de_bi (bd_sum g.calm) h1 h4 (by first | exact PyProof.Rows.boot_sum | exact PySem.boot_sum) ha h3 h2 hs
  | max => exact de_bi (bd_max g.calm) h1 h4 (by first | exact PyProof.Rows.boot_max | exact PySem.boot_max) ha h3 h2 hs
  | min => exact de_bi (bd_min g.calm) h1 h4 (by first | exact PyProof.Rows.boot_min | exact PySem.boot_min) ha h3 h2 hs
  | abs => exact de_bi bd_abs h1 h4 (by first | exact PyProof.Rows.boot_abs | exact PySem.boot_abs) ha h3 h2 hs
  | int => exact de_bty bd_int h1 h4 (by first | exact PyProof.Rows.boot_int | exact PySem.boot_int) ha h3 h2 hs
  | sorted => exact de_bi (bd_sorted g.hu) h1 h4 (by first | exact PyProof.Rows.boot_sorted | exact PySem.boot_sorted | decide +kernel) ha h3 h2 hs
def biR : Bool → BI → RCd
  | true, .sorted => sortedG
  | _, b => b.r
theorem biR_ok {X : Cx} {cc : CC} (g : Gd X cc) {k : Bool} {x : Str} {p pos : Pos} {e : Expr} {es : List Expr} {tes : TAd} {b : BI} (h : globG cc x = some (.bi b)) (ha : DA X (e :: es) tes) (hs : (e :: es).all unstarE = true) : DE X (.Call (.Name x p) (e :: es) [] pos) (dBi (biR k b) tes) := by
  unfold biR
  split
  · obtain ⟨h1, h2, h3, h4, rfl⟩ := globG_ok g h
    exact de_bi (bd_sortedG g.hu) h1 h4 (by first | exact PyProof.Rows.boot_sorted | exact PySem.boot_sorted | decide +kernel) ha h3 h2 hs
  · exact BI_ok g h ha hs
/-! lists of parts -/
def mapA (f : Expr → Option TEd) : List Expr → Option TAd
  | [] => some dNil
  | e :: es => match f e, mapA f es with
    | some t, some u => some (dCons t u)
    | _, _ => none
def boV (f : Expr → Option TEd) (op : BoolOp) : List Expr → Option TEd
  | [] => none
  | [a] => f a
  | a :: b :: r => match f a, boV f op (b :: r) with
    | some t, some u => some (match op with
      | .And => dAndV t u
      | .Or => dOrV t u)
    | _, _ => none
def boT (f : Expr → Option TTd) (op : BoolOp) : List Expr → Option TTd
  | [] => none
  | [a] => f a
  | a :: b :: r => match f a, boT f op (b :: r) with
    | some t, some u => some (match op with
      | .And => dAnd t u
      | .Or => dOr t u)
    | _, _ => none
section
variable {X : Cx} {f : Expr → Option TEd} {fT : Expr → Option TTd}
theorem mapA_ok (hf : ∀ e t, f e = some t → DE X e t ∧ unstarE e = true) : ∀ {es : List Expr} {t : TAd}, mapA f es = some t → DA X es t ∧ es.all unstarE = true
  | [], _, h => by cases h; exact ⟨da_nil, rfl⟩
  | e :: es, _, h => by
    unfold mapA at h
    split at h
    · rename_i h1 h2; cases h
      obtain ⟨a1, a2⟩ := hf _ _ h1
      obtain ⟨b1, b2⟩ := mapA_ok hf h2
      exact ⟨da_cons a1 b1 a2, by simp [a2, b2]⟩
    · cases h
theorem boV_ok (hf : ∀ e t, f e = some t → DE X e t ∧ unstarE e = true) {op : BoolOp} {pos : Pos} : ∀ {es : List Expr} {t : TEd}, boV f op es = some t → DE X (.BoolOp op es pos) t
  | [], _, h => by cases h
  | [a], _, h => de_one (hf _ _ h).1
  | a :: b :: r, _, h => by
    unfold boV at h
    split at h
    · rename_i h1 h2; cases h
      cases op with
      | And => exact de_and (hf _ _ h1).1 (boV_ok hf h2)
      | Or => exact de_or (hf _ _ h1).1 (boV_ok hf h2)
    · cases h
theorem boT_ok (hf : ∀ e t, fT e = some t → DT X e t) {op : BoolOp} {pos : Pos} : ∀ {es : List Expr} {t : TTd}, boT fT op es = some t → DW X (.BoolOp op es pos) t
  | [], _, h => by cases h
  | [a], _, h => by
    cases op with
    | And => exact dw_and1 (hf _ _ h)
    | Or => exact dw_or1 (hf _ _ h)
  | a :: b :: r, _, h => by
    unfold boT at h
    split at h
    · rename_i h1 h2; cases h
      cases op with
      | And => exact dw_and (hf _ _ h1) (boT_ok hf h2)
      | Or => exact dw_or (hf _ _ h1) (boT_ok hf h2)
    · cases h
end
/-! targets -/
def mapG (f : Expr → Option (List Nat × TGd)) : List Expr → Option (List Nat × TGsd)
  | [] => some ([], dgNil)
  | e :: es => match f e, mapG f es with
    | some (sl, t), some (sl', u) => some (sl ++ sl', dgCons t u)
    | _, _ => none
/-- by what a def's dicts are keyed -/
def setR : Bool → D → D → D → Hd → (Hd → Prop) → Prop
  | true => setK
  | false => setD
theorem psetr {X : Cx} (hu : X.A.units + 9 < cLine) : ∀ b, PSet X (lift3 (kt X) (setR b))
  | true => psetk hu
  | false => psetd hu
def ixR : Bool → R2d
  | true => ixK
  | false => ixD
theorem de_ixR {X : Cx} {a b : Expr} {ta tb : TEd} {pos : Pos} (hu : X.A.units + 9 < cLine) (ha : DE X a ta) (hb : DE X b tb) (hs : PlainIx b) : ∀ k, DE X (.Subscript a b pos) (dOp (ixR k) ta tb)
  | true => de_ixK hu ha hb hs
  | false => de_ix hu ha hb hs
def newR : Bool → TEd
  | true => dKnew
  | false => dDnew
theorem de_newR {X : Cx} {pos : Pos} : ∀ k, DE X (.Dict [] [] pos) (newR k)
  | true => de_knew
  | false => de_dnew
def itR : Bool → TEd → TId
  | true => dItJ
  | false => dItI
def cmpRdK (k : Bool) (op : CmpOp) : Option R2d := match k, op with
  | true, .In => some (inJ false)
  | true, .NotIn => some (inJ true)
  | _, op => cmpRd op
theorem cmpRdK_ok {X : Cx} (hu2 : X.A.units + 65 < cLine) {k : Bool} {op : CmpOp} {r : R2d} (h : cmpRdK k op = some r) : OpD X (compareOp op) r := by
  unfold cmpRdK at h
  split at h
  · cases h; exact od_inJ false (by omega) hu2
  · cases h; exact od_inJ true (by omega) hu2
  · exact cmpRd_ok hu2 h
def cTg (cc : CC) (f : Expr → Option TEd) : Nat → Expr → Option (List Nat × TGd)
  | 0, _ => none
  | n + 1, e => match e with
    | .Name x _ => match slotW cc x with
      | some i => some ([i], dgName i)
      | none => none
    | .Tuple es _ _ => match mapG (cTg cc f n) es with
      | some (sl, t) => some (sl, dgTup es.length t)
      | none => none
    | .Subscript o i _ => if plainE i then (match f o, f i with
      | some to, some ti => some ([], dgSub to ti (setR cc.kd))
      | _, _ => none) else none
    | _ => none
theorem assign_ok {env : Env} : ∀ {es : List Expr}, es.all unstarE = true → (assignEach es env).length = es.length ∧ (assignEach es env).findIdx? (·.1) = none
  | [], _ => ⟨rfl, rfl⟩
  | e :: es, h => by
    simp only [List.all_cons, Bool.and_eq_true] at h
    have e1 : assignEach (e :: es) env = (false, assign e env) :: assignEach es env := by
      cases e <;> first | rfl | cases h.1
    obtain ⟨h1, h2⟩ := assign_ok (env := env) h.2
    rw [e1]
    refine ⟨by simp [h1], ?_⟩
    rw [List.findIdx?_cons]
    simp [h2]
section
variable {X : Cx} {cc : CC} {f : Expr → Option TEd}
theorem mapG_ok {f : Expr → Option (List Nat × TGd)} (hf : ∀ e sl t, f e = some (sl, t) → DG X e sl t ∧ unstarE e = true) : ∀ {es : List Expr} {sl : List Nat} {t : TGsd}, mapG f es = some (sl, t) → DGs X es sl t ∧ es.all unstarE = true
  | [], _, _, h => by cases h; exact ⟨dgs_nil, rfl⟩
  | e :: es, _, _, h => by
    unfold mapG at h
    split at h
    · rename_i h1 h2; cases h
      obtain ⟨a1, a2⟩ := hf _ _ _ h1
      obtain ⟨b1, b2⟩ := mapG_ok hf h2
      refine ⟨dgs_cons a1 b1 ?_, by simp [a2, b2]⟩
      cases e <;> first | rfl | cases a2
    · cases h
theorem cTg_ok (g : Gd X cc) (hf : ∀ e t, f e = some t → DE X e t ∧ unstarE e = true) : ∀ {n : Nat} {e : Expr} {sl : List Nat} {t : TGd}, cTg cc f n e = some (sl, t) → DG X e sl t ∧ unstarE e = true
  | 0, _, _, _, h => by cases h
  | n + 1, e, _, _, h => by
    unfold cTg at h
    split at h
    · split at h
      · rename_i hs; cases h
        obtain ⟨h1, h2, h3⟩ := slotW_ok g hs
        exact ⟨dg_name g.nd h1 h2 h3, rfl⟩
      · cases h
    · split at h
      · rename_i hs; cases h
        obtain ⟨h1, h2⟩ := mapG_ok (fun e sl t => cTg_ok g hf) hs
        obtain ⟨a1, a2⟩ := assign_ok (env := X.env) h2
        exact ⟨dg_tup g.calm h1 a1 a2, rfl⟩
      · cases h
    · split at h
      · rename_i hp
        split at h
        · rename_i h1 h2; cases h
          exact ⟨dg_sub (hf _ _ h1).1 (hf _ _ h2).1 (psetr (by have := g.hu; omega) _) hp, rfl⟩
        · cases h
      · cases h
    · cases h
end
end S

set_option Elab.async false
set_option linter.all false
set_option maxRecDepth 100000
set_option maxHeartbeats 4000000
namespace S
open PySem PySem.Spec L2
open PyProof.Rows hiding St
def ownOf (N : List Str) (scope : Scope) : List (Str × Nat) := scope.names.filterMap fun p => match p.2 with
  | .local => (ixOf p.1 N 0).map fun i => (p.1, i)
  | .cell => (ixOf p.1 N 0).map fun i => (p.1, i)
  | _ => none
def inBlk (cc : CC) (scope : Scope) : CC := ⟨cc.N, relS scope cc.sc, fun x => scope.names.lookup x == some .cell, cc.gl, cc.dn, cc.ec, cc.et, cc.kd, cc.fl, cc.mt⟩
def subB (sl : List Nat) (own : List (Str × Nat)) : Bool := sl.all fun j => (own.map (·.2)).contains j
def isSet : Expr → Bool
  | .Set .. => true
  | _ => false
def optP (f : Expr → Option TEd) : Option Expr → Option TOd
  | none => some dNoPart
  | some e => match f e with
    | some t => some (dPart t)
    | none => none
/-- a built-in type's method by its name: the type, what it does -/
def mthd (m : Str) : Option (String × RMd) := if m = "append" then some ("list", appendD) else if m = "extend" then some ("list", extendD) else none
/-- .. without arguments -/
def mth0 (m : Str) : Option (String × RMd) := if m = "clear" then some ("list", clearD) else if m = "reverse" then some ("list", revsD) else none
/-- list(range(..)): its parts -/
def lrOf (cc : CC) (x : Str) (e : Expr) (es : List Expr) : Option (Expr × Option Expr) := match globG cc x, es with
  | some (.bi .list), [] => match e with
    | .Call (.Name y _) [a] [] _ => match globG cc y with
      | some .rng => some (a, none)
      | _ => none
    | .Call (.Name y _) [a, b] [] _ => match globG cc y with
      | some .rng => some (a, some b)
      | _ => none
    | _ => none
  | _, _ => none
/-- a built-in function of a dict by its name -/
def dnB (cc : CC) (x : Str) (e : Expr) (es : List Expr) : Option RCd := match e, es with
  | .Name y _, [] => if cc.dn.contains y then (match globG cc x with
    | some (.bi .list) => some listK
    | _ => none) else none
  | _, _ => none
/-- a dict's method by its name -/
def dmth (m : Str) : Option RMd := if m = "get" then some getD else none
def dmthK (k : Bool) (m : Str) : Option (Bool × RMd) := match k with
  | true => if m = "get" then some (true, getK) else if m = "setdefault" then some (true, sdfK) else none
  | false => match dmth m with
    | some r => some (false, r)
    | none => none
def dmR : Bool → RMd → TEd → TAd → TEd
  | true => dKm
  | false => dDm
/-- sorted(d.items()): d -/
def srtOf (cc : CC) (x : Str) (e : Expr) (es : List Expr) : Option Expr := match cc.kd, globG cc x, es, e with
  | true, some (.bi .sorted), [], .Call (.Attribute o m apos) [] [] cpos => if m = "items" && apos.endLine == cpos.line then some o else none
  | _, _, _, _ => none
mutual
def compE : Nat → CC → Expr → Option TEd
  | 0, _, _ => none
  | n + 1, cc, e => match e with
    | .Constant (.int i) _ _ => some (dC (.int i))
    | .Constant (.bool b) _ _ => some (dC (.bl b))
    | .Constant .none _ _ => some (dC .non)
    | .Constant (.str x) _ _ => some (dC (.str x))
    | .Name x _ => cName cc x
    | .BinOp a op b _ => match opRd op, compE n cc a, compE n cc b with
      | some r, some ta, some tb => some (dOp r ta tb)
      | _, _, _ => none
    | .UnaryOp .Not a _ => match compE n cc a with
      | some t => some (dNotV t)
      | none => none
    | .UnaryOp .USub a _ => match compE n cc a with
      | some t => some (dUn negD t)
      | none => none
    | .BoolOp op es _ => boV (compE n cc) op es
    | .Compare a [op] [b] _ => match cmpRdK cc.kd op, compE n cc a, compE n cc b with
      | some r, some ta, some tb => some (dOp r ta tb)
      | _, _, _ => none
    | .Compare a [op, op'] [b, c] _ => match cmpRd op, cmpRd op', compE n cc a, compE n cc b, compE n cc c with
      | some r, some r', some ta, some tb, some tc => some (dChain r r' ta tb tc)
      | _, _, _, _, _ => none
    | .IfExp c a b _ => match compT n cc c, compE n cc a, compE n cc b with
      | some t, some ta, some tb => some (dIfE t ta tb)
      | _, _, _ => none
    | .Dict [] [] _ => some (newR cc.kd)
    | .Dict [some k] [v] _ => match compE n cc k, compE n cc v with
      | some t, some u => some (dDict1 t u)
      | _, _ => none
    | .Attribute o f _ => match cc.fl.lookup f, compE n cc o with
      | some (c, i), some t => some (dFld c i t)
      | _, _ => none
    | .Call (.Name x _) [] [] _ => if x = "super" then none else (match globG cc x with
      | some (.cl c sp) => some (dMake c sp dNil)
      | _ => none)
    | .Tuple es _ _ => match mapA (compE n cc) es with
      | some t => some (dTup t)
      | none => none
    | .List es _ => match mapA (compE n cc) es with
      | some t => some (dLst t)
      | none => none
    | .Subscript o (.Slice lo hi none _) _ => match compE n cc o, optP (compE n cc) lo, optP (compE n cc) hi with
      | some t, some tl, some th => some (dSl t tl th)
      | _, _, _ => none
    | .Subscript o (.Slice none none (some (.UnaryOp .USub (.Constant (.int 1) _ _) _)) _) _ => match compE n cc o with
      | some t => some (dUn revD t)
      | none => none
    | .Subscript (.Dict ks vs _) i _ => if plainE i then (match litKV ks vs, compE n cc i with
      | some kvs, some ti => if nodupS kvs && !kvs.isEmpty && decide (kvs.length ≤ 15) then some (dDix kvs ti) else none
      | _, _ => none) else none
    | .Subscript o i _ => if plainE i then (match compE n cc o, compE n cc i with
      | some to, some ti => some (dOp (ixR cc.kd) to ti)
      | _, _ => none) else none
    | .Call (.Name x _) (e :: es) [] _ => match srtOf cc x e es with
     | some o => match compE n cc o with
      | some t => some (dUn sortedJ t)
      | none => none
     | none => match dnB cc x e es with
     | some r => match mapA (compE n cc) (e :: es) with
      | some t => some (dBi r t)
      | none => none
     | none => match lrOf cc x e es with
      | some (a, none) => match compE n cc a with
        | some t => some (dUn lr1 t)
        | none => none
      | some (a, some b) => match compE n cc a, compE n cc b with
        | some t, some u => some (dOp lr2 t u)
        | _, _ => none
      | none => match slotR cc x with
       | some i => match mapA (compE n cc) (e :: es) with
        | some t => some (dCallV i (fvAt cc.gl) t)
        | none => none
       | none => match globG cc x, mapA (compE n cc) (e :: es) with
        | some (.fn sp), some t => some (dCall sp t)
        | some (.bi b), some t => some (dBi (biR cc.kd b) t)
        | some (.cl c sp), some t => some (dMake c sp t)
        | _, _ => none
    | .Call (.Attribute o m apos) [] [] cpos => if apos.endLine == cpos.line then (match cc.mt.lookup m with
      | some (c, sp) => (match compE n cc o with
        | some to => some (dMeth c sp to dNil)
        | none => none)
      | none => match compE n cc o, mth0 m with
        | some to, some (T, r) => some (dBm0 T r to)
        | _, _ => none) else none
    | .Call (.Attribute o m apos) (e :: es) [] cpos => if apos.endLine == cpos.line && decide (es.length < 20) then (match cc.mt.lookup m with
      | some (c, sp) => (match compE n cc o, mapA (compE n cc) (e :: es) with
        | some to, some t => some (dMeth c sp to t)
        | _, _ => none)
      | none => match dmthK cc.kd m with
      | some (b, r) => match compE n cc o, mapA (compE n cc) (e :: es) with
        | some to, some t => some (dmR b r to t)
        | _, _ => none
      | none => match compE n cc o, mthd m, mapA (compE n cc) (e :: es) with
        | some to, some (T, r), some t => some (dBm T r to t)
        | _, _, _ => none) else none
    | .ListComp elt [⟨tg, iter, ifs, 0⟩] scope _ => match compI n cc tg iter, cTg (inBlk cc scope) (compE n (inBlk cc scope)) n tg, compF n (inBlk cc scope) ifs, compE n (inBlk cc scope) elt with
      | some it, some (sl, g), some tt, some te => if blkC cc.N cc.sc scope (ownOf cc.N scope) && subB sl (ownOf cc.N scope) && !isSet iter then some (dLc it g tt te ((ownOf cc.N scope).map (·.2))) else none
      | _, _, _, _ => none
    | _ => none
def compT : Nat → CC → Expr → Option TTd
  | 0, _, _ => none
  | n + 1, cc, e => match e with
    | .UnaryOp .Not a _ => match compT n cc a with
      | some t => some (dNot t)
      | none => none
    | .BoolOp op es _ => boT (compT n cc) op es
    | .IfExp .. => none
    | .Compare a [op] [b] _ => match cmpRdK cc.kd op, compE n cc a, compE n cc b with
      | some r, some ta, some tb => some (dB (dOp r ta tb))
      | _, _, _ => none
    | .Compare a [op, op'] [b, c] _ => match cmpRd op, cmpRd op', compE n cc a, compE n cc b, compE n cc c with
      | some r, some r', some ta, some tb, some tc => some (dB (dChain r r' ta tb tc))
      | _, _, _, _, _ => none
    | .Compare a [op, op', op''] [b, c, d] _ => match cmpRd op, cmpRd op', cmpRd op'', compE n cc a, compE n cc b, compE n cc c, compE n cc d with
      | some r, some r', some r'', some ta, some tb, some tc, some td => some (dChain3 r r' r'' ta tb tc td)
      | _, _, _, _, _, _, _ => none
    | .Compare .. => none
    | _ => match compE n cc e with
      | some t => some (dB t)
      | none => none
def compF : Nat → CC → List Expr → Option TTd
  | 0, _, _ => none
  | n + 1, cc, ifs => match ifs with
    | [] => some dYes
    | [c] => compT n cc c
    | _ => none
def compI : Nat → CC → Expr → Expr → Option TId
  | 0, _, _, _ => none
  | n + 1, cc, tg, e => match e with
    | .Call (.Name x _) args [] _ => match globG cc x, args with
      | some .rng, [a] => match mapA (compE n cc) [a] with
        | some t => some (dRng rng1 t)
        | none => none
      | some .rng, [a, b] => match mapA (compE n cc) [a, b] with
        | some t => some (dRng rng2 t)
        | none => none
      | some .rng, [a, b, c] => match mapA (compE n cc) [a, b, c] with
        | some t => some (dRng rng3 t)
        | none => none
      | some .enum, [a] => match tg, mapA (compE n cc) [a] with
        | .Tuple .., some t => some (dWalk enumR t)
        | _, _ => none
      | some .zip, [a, b] => match tg, mapA (compE n cc) [a, b] with
        | .Tuple .., some t => some (dWalk zipR t)
        | _, _ => none
      | _, _ => match compE n cc e with
        | some t => some (dItV t)
        | none => none
    | .Call (.Attribute o m apos) [] [] cpos => if m = "items" then (match tg, compE n cc o with
      | .Tuple .., some t => if apos.endLine == cpos.line then some (itR cc.kd t) else none
      | _, _ => none) else (match compE n cc e with
      | some t => some (dItV t)
      | none => none)
    | .Attribute o f p => match compE n cc (.Attribute o f p) with
      | some t => if cc.dn.contains f then some (dItK t) else some (dItV t)
      | none => none
    | .Name x p => match compE n cc (.Name x p) with
      | some t => if cc.dn.contains x then some (dItK t) else some (dItV t)
      | none => none
    | _ => match compE n cc e with
      | some t => some (dItV t)
      | none => none
end
theorem ixOf_at {x : Str} {N : List Str} {i : Nat} (h : ixOf x N 0 = some i) : N[i]? = some x := by simpa using (ixOf_ok h).2
theorem blk_gd {X : Cx} {cc : CC} {scope : Scope} (g : Gd X cc) (s : Shared) (H : Hp) (C : Addr) (cl : List (Str × Addr)) (fp : List Addr) : Gd (Blk X scope s H C cl fp) (inBlk cc scope) where
  N := g.N
  nd := g.nd
  sc := by
    show relabel scope X.env = relS scope cc.sc
    rw [← g.sc]
    rfl
  calm := g.calm
  fx := fun x h => h
  hu := g.hu
  gl := fun x gi h => by
    have := g.gl x gi h
    cases gi with
    | fn sp => exact ⟨this.ex⟩
    | fv sp => exact ⟨⟨this.1.ex⟩, this.2⟩
    | _ => exact this
  ec := g.ec
  fl := fun f c i h => g.fl f c i h
  mt := fun m c sp h => g.mt m c sp h


theorem mthd_ok {X : Cx} {cc : CC} (g : Gd X cc) {m : Str} {T : String} {r : RMd} (h : mthd m = some (T, r)) {o e : Expr} {es : List Expr} {to : TEd} {tes : TAd} {apos cpos : Pos} (ho : DE X o to) (ha : DA X (e :: es) tes) (hs : (e :: es).all unstarE = true)
    (hb : ∀ m, attributeBase o m X.env (eval o X.env) = eval o X.env) (hl : (apos.endLine == cpos.line) = true) (hn : es.length < 20) : DE X (.Call (.Attribute o m apos) (e :: es) [] cpos) (dBm T r to tes) := by
  unfold mthd at h
  split at h
  · rename_i em; cases h; subst em
    exact de_bm PySem.F.plainAttrs_list PySem.F.slot_list_append PySem.F.type_list_append md_append ho ha (hb _) hl hs (few_ok hs hn)
  · split at h
    · rename_i em; cases h; subst em
      exact de_bm PySem.F.plainAttrs_list PySem.F.slot_list_extend PySem.F.type_list_extend md_extend ho ha (hb _) hl hs (few_ok hs hn)
    · cases h
theorem mth0_ok {X : Cx} {m : Str} {T : String} {r : RMd} (h : mth0 m = some (T, r)) {o : Expr} {to : TEd} {apos cpos : Pos} (ho : DE X o to)
    (hb : ∀ m, attributeBase o m X.env (eval o X.env) = eval o X.env) (hl : (apos.endLine == cpos.line) = true) : DE X (.Call (.Attribute o m apos) [] [] cpos) (dBm0 T r to) := by
  unfold mth0 at h
  split at h
  · rename_i em; cases h; subst em
    exact de_bm0 PySem.F.plainAttrs_list PySem.F.slot_list_clear PySem.F.type_list_clear md_clear ho (hb _) hl
  · split at h
    · rename_i em; cases h; subst em
      exact de_bm0 PySem.F.plainAttrs_list PySem.F.slot_list_reverse PySem.F.type_list_reverse md_reverse ho (hb _) hl
    · cases h
theorem dmth_ok {X : Cx} {cc : CC} (g : Gd X cc) {m : Str} {r : RMd} (h : dmth m = some r) {o e : Expr} {es : List Expr} {to : TEd} {tes : TAd} {apos cpos : Pos} (ho : DE X o to) (ha : DA X (e :: es) tes) (hs : (e :: es).all unstarE = true)
    (hb : ∀ m, attributeBase o m X.env (eval o X.env) = eval o X.env) (hl : (apos.endLine == cpos.line) = true) (hn : es.length < 20) : DE X (.Call (.Attribute o m apos) (e :: es) [] cpos) (dDm r to tes) := by
  unfold dmth at h
  split at h
  · rename_i em; cases h; subst em
    exact de_dm PySem.F.slot_dict_get PySem.F.type_dict_get (md_get (by have := g.hu; omega)) ho ha (hb _) hl hs (few_ok hs hn)
  · cases h
theorem dmthK_ok {X : Cx} {cc : CC} (g : Gd X cc) {k : Bool} {m : Str} {b : Bool} {r : RMd} (h : dmthK k m = some (b, r)) {o e : Expr} {es : List Expr} {to : TEd} {tes : TAd} {apos cpos : Pos} (ho : DE X o to) (ha : DA X (e :: es) tes) (hs : (e :: es).all unstarE = true)
    (hb : ∀ m, attributeBase o m X.env (eval o X.env) = eval o X.env) (hl : (apos.endLine == cpos.line) = true) (hn : es.length < 20) : DE X (.Call (.Attribute o m apos) (e :: es) [] cpos) (dmR b r to tes) := by
  cases k with
  | true =>
    unfold dmthK at h
    dsimp only at h
    split at h
    · rename_i em; cases h; subst em
      exact de_km PySem.F.slot_dict_get PySem.F.type_dict_get mk_get ho ha (hb _) hl hs (few_ok hs hn)
    · split at h
      · rename_i em; cases h; subst em
        exact de_km PySem.F.slot_dict_setdefault PySem.F.type_dict_setdefault mk_setdefault ho ha (hb _) hl hs (few_ok hs hn)
      · cases h
  | false =>
    unfold dmthK at h
    dsimp only at h
    split at h
    · rename_i e1; cases h
      exact dmth_ok g e1 ho ha hs hb hl hn
    · cases h
theorem srtOf_ok {cc : CC} {x : Str} {e : Expr} {es : List Expr} {o : Expr} (h : srtOf cc x e es = some o) : es = [] ∧ globG cc x = some (.bi .sorted) ∧ ∃ apos cpos, (apos.endLine == cpos.line) = true ∧ e = .Call (.Attribute o "items" apos) [] [] cpos := by
  unfold srtOf at h
  split at h
  · have h1 : globG cc x = some (.bi .sorted) := by assumption
    split at h
    · rename_i hc; cases h
      rw [Bool.and_eq_true, decide_eq_true_eq] at hc
      obtain ⟨rfl, hl⟩ := hc
      exact ⟨rfl, h1, _, _, hl, rfl⟩
    · cases h
  · cases h
theorem base_call {x m : Str} {p pos : Pos} {env : Env} {whole : Sem Value} (hx : ¬ x = "super") : attributeBase (.Call (.Name x p) [] [] pos) m env whole = whole := by
  unfold attributeBase
  have e : (x != "super") = true := by simpa using hx
  simp [e]
theorem base_ok {cc : CC} {n : Nat} {o : Expr} {t : TEd} {env : Env} (h : compE n cc o = some t) (m : Str) : attributeBase o m env (eval o env) = eval o env := by
  cases o with
  | Call f args kw pos =>
    cases f with
    | Name x p =>
      cases args with
      | nil =>
        cases kw with
        | cons k ks => rfl
        | nil =>
          cases n with
          | zero => unfold compE at h; cases h
          | succ n =>
            unfold compE at h
            dsimp only at h
            split at h
            · cases h
            · rename_i hx
              exact base_call hx
      | cons a r => rfl
    | _ => rfl
  | _ => rfl
theorem plainIx_ok {b : Expr} (h : plainE b = true) : PlainIx b := by
  cases b <;> first | (intro _ _; rfl) | cases h
theorem noSl_ok {i : Expr} (h : plainE i = true) : NoSl i := by
  cases i <;> first | (intro _ _; rfl) | cases h
theorem nomarkE {n : Nat} {cc : CC} {b : Expr} {t : TEd} {op : CmpOp} (h : compE n cc b = some t) : behindInMarks op b = false := by
  cases b with
  | Set elts k pos => cases n <;> (unfold compE at h; cases h)
  | _ => rfl
theorem folded_ok {e : Expr} {env : Env} (h : isSet e = false) (x : Value) : foldedSetIterable e env x = pure x := by
  cases e <;> first | rfl | cases h
theorem lrOf_ok {cc : CC} {x : Str} {e : Expr} {es : List Expr} {a : Expr} {ob : Option Expr} (h : lrOf cc x e es = some (a, ob)) : es = [] ∧ globG cc x = some (.bi .list) ∧ ∃ y p2 p3, globG cc y = some .rng ∧ e = .Call (.Name y p2) (a :: ob.toList) [] p3 := by
  unfold lrOf at h
  split at h
  · rename_i h1
    split at h
    · split at h
      · rename_i h2; cases h; exact ⟨rfl, h1, _, _, _, h2, rfl⟩
      · cases h
    · split at h
      · rename_i h2; cases h; exact ⟨rfl, h1, _, _, _, h2, rfl⟩
      · cases h
    · cases h
  · cases h
theorem dnB_ok {X : Cx} {cc : CC} (g : Gd X cc) {x : Str} {p pos : Pos} {e : Expr} {es : List Expr} {tes : TAd} {r : RCd} (h : dnB cc x e es = some r) (ha : DA X (e :: es) tes) (hs : (e :: es).all unstarE = true) : DE X (.Call (.Name x p) (e :: es) [] pos) (dBi r tes) := by
  unfold dnB at h
  split at h
  · split at h
    · split at h
      · rename_i hb; cases h
        obtain ⟨h1, h2, h3, h4, rfl⟩ := globG_ok g hb
        exact de_bty (bd_listK g.calm) h1 h4 (by first | exact PyProof.Rows.boot_list | exact PySem.boot_list) ha h3 h2 hs
      · cases h
    · cases h
  · cases h
def Ok1 (n : Nat) : Prop := ∀ (cc : CC) (e : Expr) (t : TEd) (X : Cx), Gd X cc → compE n cc e = some t → DE X e t ∧ unstarE e = true
def Ok2 (n : Nat) : Prop := ∀ (cc : CC) (e : Expr) (t : TTd) (X : Cx), Gd X cc → compT n cc e = some t → DT X e t
def Ok3 (n : Nat) : Prop := ∀ (cc : CC) (ifs : List Expr) (t : TTd) (X : Cx), Gd X cc → compF n cc ifs = some t → (ifs = [] ∧ t = dYes) ∨ ∃ c, ifs = [c] ∧ DT X c t
def Ok4 (n : Nat) : Prop := ∀ (cc : CC) (tg e : Expr) (t : TId) (X : Cx), Gd X cc → compI n cc tg e = some t → DI X tg e t
theorem optP_ok {X : Cx} {f : Expr → Option TEd} (hf : ∀ e t, f e = some t → DE X e t ∧ unstarE e = true) : ∀ {o : Option Expr} {t : TOd}, optP f o = some t → DO' X o t
  | none, _, h => by cases h; exact do_none
  | some e, _, h => by
    simp only [optP] at h
    split at h
    · rename_i h1; cases h; exact do_some (hf _ _ h1).1
    · cases h
theorem subB_ok {sl : List Nat} {own : List (Str × Nat)} (h : subB sl own = true) : ∀ j, j ∈ sl → j ∈ own.map (·.2) := by
  intro j hj
  have := List.all_eq_true.mp h j hj
  simpa using this
set_option maxHeartbeats 16000000 in
theorem comp_ok1 {n : Nat} (i1 : Ok1 n) (i2 : Ok2 n) (i3 : Ok3 n) (i4 : Ok4 n) : Ok1 (n + 1) := by
  intro cc e t X g h
  have k := fun e t => i1 cc e t X g
  unfold compE at h
  split at h
  · cases h; exact ⟨de_c pe_int fun _ => .int _, rfl⟩
  · cases h; exact ⟨de_c pe_bl fun _ => .bl _, rfl⟩
  · cases h; exact ⟨de_c pe_non fun _ => .non, rfl⟩
  · cases h; exact ⟨de_c pe_str fun _ => .str _, rfl⟩
  · exact ⟨cName_ok g h, rfl⟩
  · split at h
    · rename_i h1 h2 h3; cases h; exact ⟨de_op (opRd_ok h1) (k _ _ h2).1 (k _ _ h3).1, rfl⟩
    · cases h
  · split at h
    · rename_i h1; cases h; exact ⟨de_not (k _ _ h1).1, rfl⟩
    · cases h
  · split at h
    · rename_i h1; cases h; exact ⟨de_un ud_neg (k _ _ h1).1, rfl⟩
    · cases h
  · exact ⟨boV_ok k h, rfl⟩
  · split at h
    · rename_i h1 h2 h3; cases h
      exact ⟨de_cmp (cmpRdK_ok g.hu h1) (k _ _ h2).1 (k _ _ h3).1 (nomarkE h3), rfl⟩
    · cases h
  · split at h
    · rename_i h1 h2 h3 h4 h5; cases h
      exact ⟨de_chain (cmpRd_ok g.hu h1) (cmpRd_ok g.hu h2) (k _ _ h3).1 (k _ _ h4).1 (k _ _ h5).1 (nomarkE h5), rfl⟩
    · cases h
  · split at h
    · rename_i h1 h2 h3; cases h; exact ⟨de_ifExp (i2 cc _ _ X g h1) (k _ _ h2).1 (k _ _ h3).1, rfl⟩
    · cases h
  · cases h; exact ⟨de_newR _, rfl⟩
  · split at h
    · rename_i h1 h2; cases h; exact ⟨de_dict1 (by have := g.hu; omega) (k _ _ h1).1 (k _ _ h2).1, rfl⟩
    · cases h
  · split at h
    · rename_i h1 h2; cases h; exact ⟨de_fld (g.fl _ _ _ h1) (k _ _ h2).1 (base_ok h2 _), rfl⟩
    · cases h
  · split at h
    · cases h
    · split at h
      · rename_i h1; cases h
        obtain ⟨b1, b2, b3, b4⟩ := globG_ok g h1
        exact ⟨de_make0 b4 b1 b2, rfl⟩
      · cases h
  · split at h
    · rename_i h1; cases h; exact ⟨de_tup (mapA_ok k h1).1, rfl⟩
    · cases h
  · split at h
    · rename_i h1; cases h; exact ⟨de_lst (mapA_ok k h1).1, rfl⟩
    · cases h
  · split at h
    · rename_i h1 h2 h3; cases h; exact ⟨de_slice (k _ _ h1).1 (optP_ok k h2) (optP_ok k h3), rfl⟩
    · cases h
  · split at h
    · rename_i h1; cases h; exact ⟨de_rev (k _ _ h1).1, rfl⟩
    · cases h
  · split at h
    · rename_i hp
      split at h
      · rename_i h1 h2
        split at h
        · rename_i hc; cases h
          rw [Bool.and_eq_true, Bool.and_eq_true] at hc
          exact ⟨de_dix (by have := g.hu; omega) h1 hc.1.1 (fun e => by rw [e] at hc; simp at hc) (of_decide_eq_true hc.2) (k _ _ h2).1 (noSl_ok hp), rfl⟩
        · cases h
      · cases h
    · cases h
  · split at h
    · rename_i hp
      split at h
      · rename_i h1 h2; cases h; exact ⟨de_ixR (by have := g.hu; omega) (k _ _ h1).1 (k _ _ h2).1 (plainIx_ok hp) _, rfl⟩
      · cases h
    · cases h
  · split at h
    · rename_i hd
      obtain ⟨rfl, h1, apos, cpos, hl, rfl⟩ := srtOf_ok hd
      obtain ⟨b1, b2, b3, b4, rfl⟩ := globG_ok g h1
      split at h
      · rename_i h2; cases h
        exact ⟨de_srtJ g.calm g.hu (k _ _ h2).1 (base_ok h2) hl b1 b4, rfl⟩
      · cases h
    split at h
    · rename_i hd
      split at h
      · rename_i h2; cases h
        obtain ⟨a1, a2⟩ := mapA_ok k h2
        exact ⟨dnB_ok g hd a1 a2, rfl⟩
      · cases h
    split at h
    · rename_i hl
      obtain ⟨rfl, h1, y, p2, p3, h2, rfl⟩ := lrOf_ok hl
      obtain ⟨b1, b2, b3, b4, rfl⟩ := globG_ok g h1
      obtain ⟨c1, c2, c3, c4, rfl⟩ := globG_ok g h2
      split at h
      · rename_i ha; cases h
        obtain ⟨k1, k2⟩ := k _ _ ha
        exact ⟨de_lrg1 g.calm b1 b4 c1 c4 k1 k2, rfl⟩
      · cases h
    · rename_i hl
      obtain ⟨rfl, h1, y, p2, p3, h2, rfl⟩ := lrOf_ok hl
      obtain ⟨b1, b2, b3, b4, rfl⟩ := globG_ok g h1
      obtain ⟨c1, c2, c3, c4, rfl⟩ := globG_ok g h2
      split at h
      · rename_i ha hb; cases h
        obtain ⟨k1, k2⟩ := k _ _ ha
        obtain ⟨k3, k4⟩ := k _ _ hb
        exact ⟨de_lrg2 g.calm b1 b4 c1 c4 k1 k3 k2 k4, rfl⟩
      · cases h
    · split at h
      · rename_i hsl
        split at h
        · rename_i h2; cases h
          obtain ⟨a1, a2⟩ := mapA_ok k h2
          exact ⟨de_callV g hsl a1 a2, rfl⟩
        · cases h
      split at h
      · rename_i h1 h2; cases h
        obtain ⟨a1, a2⟩ := mapA_ok k h2
        obtain ⟨b1, b2, b3, b4⟩ := globG_ok g h1
        exact ⟨de_call b4 b1 b2 a1 a2, rfl⟩
      · rename_i h1 h2; cases h
        obtain ⟨a1, a2⟩ := mapA_ok k h2
        exact ⟨biR_ok g h1 a1 a2, rfl⟩
      · rename_i h1 h2; cases h
        obtain ⟨a1, a2⟩ := mapA_ok k h2
        obtain ⟨b1, b2, b3, b4⟩ := globG_ok g h1
        exact ⟨de_make b4 b1 b2 a1 a2, rfl⟩
      · cases h
  · split at h
    · rename_i hc
      split at h
      · rename_i hm
        split at h
        · rename_i h1; cases h
          exact ⟨de_meth0 (g.mt _ _ _ hm) (k _ _ h1).1 (base_ok h1 _) hc, rfl⟩
        · cases h
      split at h
      · rename_i h1 h2; cases h
        exact ⟨mth0_ok h2 (k _ _ h1).1 (base_ok h1) hc, rfl⟩
      · cases h
    · cases h
  · split at h
    · rename_i hc
      rw [Bool.and_eq_true] at hc
      split at h
      · rename_i hm
        split at h
        · rename_i h1 h3; cases h
          obtain ⟨a1, a2⟩ := mapA_ok k h3
          exact ⟨de_meth (g.mt _ _ _ hm) (k _ _ h1).1 a1 (base_ok h1 _) hc.1 a2 (of_decide_eq_true hc.2), rfl⟩
        · cases h
      split at h
      · rename_i hm
        split at h
        · rename_i h1 h3; cases h
          obtain ⟨a1, a2⟩ := mapA_ok k h3
          exact ⟨dmthK_ok g hm (k _ _ h1).1 a1 a2 (base_ok h1) hc.1 (of_decide_eq_true hc.2), rfl⟩
        · cases h
      split at h
      · rename_i h1 h2 h3; cases h
        obtain ⟨a1, a2⟩ := mapA_ok k h3
        exact ⟨mthd_ok g h2 (k _ _ h1).1 a1 a2 (base_ok h1) hc.1 (of_decide_eq_true hc.2), rfl⟩
      · cases h
    · cases h
  · split at h
    · rename_i h1 h2 h3 h4
      split at h
      · rename_i hc; cases h
        rw [Bool.and_eq_true, Bool.and_eq_true] at hc
        obtain ⟨⟨c1, c2⟩, c3⟩ := hc
        refine ⟨de_lc g.calm g.nd (i4 cc _ _ _ X g h1) (blkOk_by (by rw [g.N, g.sc]; exact c1)) (subB_ok c2) (fun s H C cl fp => ?_) (fun s H C cl fp => ?_) (fun s H C cl fp => ?_) (folded_ok (by simpa using c3)), rfl⟩
        · exact (cTg_ok (blk_gd g s H C cl fp) (fun e t => i1 _ e t _ (blk_gd g s H C cl fp)) h2).1
        · exact i3 _ _ _ _ (blk_gd g s H C cl fp) h3
        · exact (i1 _ _ _ _ (blk_gd g s H C cl fp) h4).1
      · cases h
    · cases h
  · cases h
theorem comp_ok2 {n : Nat} (i1 : Ok1 n) (i2 : Ok2 n) : Ok2 (n + 1) := by
  intro cc e t X g h
  have k := fun e t => i1 cc e t X g
  unfold compT at h
  split at h
  · split at h
    · rename_i h1; cases h; exact dt_not (i2 _ _ _ _ g h1)
    · cases h
  · exact dw_pt (boT_ok (fun e t => i2 cc e t X g) h)
  · cases h
  · split at h
    · rename_i h1 h2 h3; cases h
      exact dt_cmp (cmpRdK_ok g.hu h1) (k _ _ h2).1 (k _ _ h3).1 (nomarkE h3)
    · cases h
  · split at h
    · rename_i h1 h2 h3 h4 h5; cases h
      exact dt_chain (cmpRd_ok g.hu h1) (cmpRd_ok g.hu h2) (k _ _ h3).1 (k _ _ h4).1 (k _ _ h5).1 (nomarkE h5)
    · cases h
  · split at h
    · rename_i h1 h2 h3 h4 h5 h6 h7; cases h
      exact dt_chain3 (cmpRd_ok g.hu h1) (cmpRd_ok g.hu h2) (cmpRd_ok g.hu h3) (k _ _ h4).1 (k _ _ h5).1 (k _ _ h6).1 (k _ _ h7).1 (nomarkE h7)
    · cases h
  · cases h
  · rename_i n1 n2 n3 n4 n5 n5b n6
    split at h
    · rename_i h1; cases h
      refine dt_val (k _ _ h1).1 ?_
      cases e with
      | BoolOp op es p => exact absurd rfl (n2 op es p)
      | IfExp a b c p => exact absurd rfl (n3 a b c p)
      | Compare a ops cs p => exact absurd rfl (n6 a ops cs p)
      | UnaryOp op a p =>
        cases op with
        | Not => exact absurd rfl (n1 a p)
        | _ => intro _; rfl
      | _ => intro _; rfl
    · cases h
theorem comp_ok3 {n : Nat} (i2 : Ok2 n) : Ok3 (n + 1) := by
  intro cc ifs t X g h
  unfold compF at h
  split at h
  · cases h; exact .inl ⟨rfl, rfl⟩
  · exact .inr ⟨_, rfl, i2 _ _ _ _ g h⟩
  · cases h
theorem comp_ok4 {n : Nat} (i1 : Ok1 n) : Ok4 (n + 1) := by
  intro cc tg e t X g h
  have k := fun e t => i1 cc e t X g
  unfold compI at h
  split at h
  · split at h
    · rename_i hg
      split at h
      · rename_i h1; cases h
        obtain ⟨a1, a2⟩ := mapA_ok k h1
        obtain ⟨b1, b2, b3, b4, rfl⟩ := globG_ok g hg
        exact di_rng1 b1 b4 a1 (by simpa using a2)
      · cases h
    · rename_i hg
      split at h
      · rename_i h1; cases h
        obtain ⟨a1, a2⟩ := mapA_ok k h1
        obtain ⟨b1, b2, b3, b4, rfl⟩ := globG_ok g hg
        exact di_rng2 b1 b4 a1 a2
      · cases h
    · rename_i hg
      split at h
      · rename_i h1; cases h
        obtain ⟨a1, a2⟩ := mapA_ok k h1
        obtain ⟨b1, b2, b3, b4, rfl⟩ := globG_ok g hg
        exact di_rng3 b1 b4 a1 a2
      · cases h
    · rename_i hg
      split at h
      · rename_i h1; cases h
        obtain ⟨a1, a2⟩ := mapA_ok k h1
        obtain ⟨b1, b2, b3, b4, rfl⟩ := globG_ok g hg
        exact di_enum b1 b4 a1 (by simpa using a2)
      · cases h
    · rename_i hg
      split at h
      · rename_i h1; cases h
        obtain ⟨a1, a2⟩ := mapA_ok k h1
        obtain ⟨b1, b2, b3, b4, rfl⟩ := globG_ok g hg
        exact di_zip b1 b4 a1 a2
      · cases h
    · split at h
      · rename_i h1; cases h; exact di_v (k _ _ h1).1
      · cases h
  · split at h
    · rename_i hm; subst hm
      split at h
      · rename_i h1
        split at h
        · rename_i hl; cases h
          cases cc.kd with
          | true => exact di_itemsJ (k _ _ h1).1 (base_ok h1) hl
          | false => exact di_itemsD (k _ _ h1).1 (base_ok h1) hl
        · cases h
      · cases h
    · split at h
      · rename_i h1; cases h; exact di_v (k _ _ h1).1
      · cases h
  · split at h
    · rename_i h1
      split at h
      · cases h; exact di_keysD (k _ _ h1).1
      · cases h; exact di_v (k _ _ h1).1
    · cases h
  · split at h
    · rename_i h1
      split at h
      · cases h; exact di_keysD (k _ _ h1).1
      · cases h; exact di_v (k _ _ h1).1
    · cases h
  · split at h
    · rename_i h1; cases h; exact di_v (k _ _ h1).1
    · cases h
theorem comp_all : ∀ n, Ok1 n ∧ Ok2 n ∧ Ok3 n ∧ Ok4 n
  | 0 => by
    refine ⟨?_, ?_, ?_, ?_⟩
    · intro cc e t X g h; simp [compE] at h
    · intro cc e t X g h; simp [compT] at h
    · intro cc e t X g h; simp [compF] at h
    · intro cc tg e t X g h; simp [compI] at h
  | n + 1 => let ⟨a, b, c, d⟩ := comp_all n; ⟨comp_ok1 a b c d, comp_ok2 a b, comp_ok3 b, comp_ok4 a⟩
end S

set_option Elab.async false
set_option linter.all false
set_option maxRecDepth 100000
set_option maxHeartbeats 4000000
namespace S
open PySem PySem.Spec L2
open PyProof.Rows hiding St
/-! ## exceptions: isinstance of the one in hand -/
def isxD (et : List Str) (j : Nat) (a : Addr) : RCd := fun ds G Q => match ds with
  | [.ref b, .fn c] => b = a ∧ c ∈ et ∧ Q (.bl (subN j c)) G
  | [.ref b, .ty n] => b = a ∧ n = "ValueError" ∧ Q (.bl true) G
  | [.ref b, .tup cs] => b = a ∧ ∃ xs : List Str, cs = xs.map D.fn ∧ (∀ c ∈ xs, c ∈ et) ∧ Q (.bl (xs.any (subN j))) G
  | _ => False
theorem kit_any {K : PySem.W.Frag} {et : List Str} {j : Nat} (C : EcJ K et j) : ∀ {xs : List Str}, (∀ c ∈ xs, c ∈ et) → PySem.W.kitAny K (.ref (He.ga K (excN j))) (xs.map fun c => .ref (He.ga K c)) = some (xs.any (subN j))
  | [], _ => rfl
  | x :: xs, h => by
    have e := C.kit x (h x List.mem_cons_self)
    have ih := kit_any C (xs := xs) fun c hc => h c (List.mem_cons_of_mem _ hc)
    simp only [List.map_cons, PySem.W.kitAny, e, List.any_cons]
    cases subN j x
    · simp [ih]
    · simp
theorem fns_vals {K : Kt} {H : Hp} : ∀ {xs : List Str} {vs : List V} {us : List Value}, Rps K H (xs.map D.fn) vs → Vals vs us → us = xs.map fun c => .ref (He.ga K c)
  | [], _, _, r, q => by cases r; cases q; rfl
  | x :: xs, _, _, r, q => by
    rw [List.map_cons] at r
    cases r with
    | cons r rs =>
      cases q with
      | cons q qs =>
        cases r
        rw [fns_vals rs qs]
        rw [show _ = Value.ref _ from q]; rfl
theorem bx_isi {X : Cx} {et : List Str} {j : Nat} {a : Addr} {oe : Obj} (C : EcJ X.K et j) (hp : (a, oe) ∈ X.pn) (hz : Zc (.ref (He.ga X.K (excN j))) none oe) (hf : ∃ vs, oe.data = .fields vs) : CalB X (.builtin "isinstance") (isxD et j a) := by
  intro pins s σ H vs us Q I r ⟨ds, G, q, rs, gr, h, cl⟩
  obtain ⟨hget, _⟩ := I.pin (a, oe) (List.mem_append.mpr (.inl hp))
  obtain ⟨fs, hv⟩ := hf
  have J : PySem.W.InstAt s.heap a oe (He.ga X.K (excN j)) none := by
    obtain ⟨oc, od, oda, osl⟩ := oe
    obtain ⟨h1, h2⟩ := hz
    dsimp only at h1 h2 hv
    subst h1 h2 hv
    exact ⟨hget, rfl, rfl, trivial⟩
  have Z := PySem.W.handS_kitx_exc (x := a) (ox := oe) C.ex.hg C.ex.hk C.ex.hs C.ex.hd C.ex.ha C.ex.hn C.ex.ht C.ex.hm
  have fin : ∀ {b : Bool}, q (.bl b) G → ∀ tk, EP X pins σ Q (.bool b) { s with toks := tk } := fun {b} h tk => ⟨.bl b, H, I.kept (t' := tk) fun _ _ z => z, rfl, cl _ _ _ _ Tm.refl gr (.bl b) h⟩
  unfold isxD at h
  split at h
  · obtain ⟨rfl, hc, h⟩ := h
    obtain ⟨v1, v2, rfl, r1, r2⟩ := rs.two
    cases r1; cases r2
    cases r with
    | cons q1 q2 =>
      cases q2 with
      | cons q2 q3 =>
        cases q3
        rw [show _ = Value.ref _ from q1, show _ = Value.ref _ from q2]
        exact PySem.W.kia_one Z I.kIn J (C.kit _ hc) (fun z => nomatch z) (fin h)
  · obtain ⟨rfl, rfl, h⟩ := h
    obtain ⟨v1, v2, rfl, r1, r2⟩ := rs.two
    cases r1; cases r2
    cases r with
    | cons q1 q2 =>
      cases q2 with
      | cons q2 q3 =>
        cases q3
        rw [show _ = Value.ref _ from q1, show _ = Value.type _ from q2]
        exact PySem.W.kia_one Z I.kIn J C.kitV (fun z => nomatch z) (fin h)
  · obtain ⟨rfl, xs, rfl, hc, h⟩ := h
    obtain ⟨v1, v2, rfl, r1, r2⟩ := rs.two
    cases r1
    obtain ⟨tp, ws, rfl, sa, ra⟩ := r2.tup_inv
    cases r with
    | cons q1 q2 =>
      cases q2 with
      | cons q2 q3 =>
        cases q3
        rw [show _ = Value.ref _ from q1, show _ = Value.ref _ from q2]
        obtain ⟨its, rv, ⟨⟨oc, od, dt, sl⟩, h1, h2, n, h3⟩, _⟩ := I.tuple sa
        simp only at h2 h3
        subst h2 h3
        have e := fns_vals ra rv
        exact PySem.W.kia_tup Z I.kIn J (its := its) h1 (by rw [e]; exact kit_any C hc) (fun z => nomatch z) (fin h)
  · exact h.elim
/-! ## what an except suite may hold -/
def gnf (X : Cx) (x : Str) : GI → Prop
  | .fn _ => True
  | .fv _ => True
  | .cl _ _ => True
  | g => GIok X x g
structure Gx (X : Cx) (cc : CC) : Prop where
  N : X.N = cc.N
  nd : X.N.Nodup
  sc : X.env.scope = cc.sc
  fx : ∀ x, cc.fx x = true → X.fn x = true
  gl : ∀ x g, cc.gl.lookup x = some g → gnf X x g
theorem globX_ok {X : Cx} {cc : CC} {x : Str} {gi : GI} (g : Gx X cc) (h : globG cc x = some gi) : Gl X x ∧ (x == ("__debug__" : Str)) = false ∧ x ≠ "__name__" ∧ gnf X x gi := by
  unfold globG at h
  split at h
  · rename_i e
    split at h
    · rename_i c
      obtain ⟨h1, h2, h3⟩ := okName_ok c
      exact ⟨by unfold Gl Env.kindOf; rw [g.sc]; exact e, h1, h3, g.gl x gi h⟩
    · cases h
  · cases h
def cNameX (cc : CC) (x : Str) : Option TEd := match slotR cc x with
  | some i => some (dVar i)
  | none => match globG cc x with
    | some .exc => some (dC (.fn x))
    | some (.ty n) => some (dC (.ty n))
    | _ => none
theorem cNameX_ok {X : Cx} {cc : CC} {x : Str} {t : TEd} {pos : Pos} (g : Gx X cc) (h : cNameX cc x = some t) : DE X (.Name x pos) t := by
  unfold cNameX at h
  split at h
  · rename_i e; cases h; exact slotR_of g.N g.sc e
  · split at h
    · rename_i e; cases h
      obtain ⟨h1, h2, h3, h4⟩ := globX_ok g e
      exact de_c (v := .ref (He.ga X.K x)) (pe_glob h1 h4 rfl h2) fun H => .fn x
    · rename_i e; cases h
      obtain ⟨h1, h2, h3, h4, h5, h6⟩ := globX_ok g e
      exact de_ty h1 h2 h3 h4 h5
    · cases h
mutual
def compXE : Nat → CC → Nat → Addr → Expr → Option TEd
  | 0, _, _, _, _ => none
  | n + 1, cc, j, a, e => match e with
    | .Constant (.int i) _ _ => some (dC (.int i))
    | .Constant (.bool b) _ _ => some (dC (.bl b))
    | .Constant .none _ _ => some (dC .non)
    | .Constant (.str x) _ _ => some (dC (.str x))
    | .Name x _ => cNameX cc x
    | .UnaryOp .Not e _ => match compXE n cc j a e with
      | some t => some (dNotV t)
      | none => none
    | .BoolOp op es _ => boV (compXE n cc j a) op es
    | .IfExp c e f _ => match compXT n cc j a c, compXE n cc j a e, compXE n cc j a f with
      | some t, some ta, some tb => some (dIfE t ta tb)
      | _, _, _ => none
    | .Tuple es _ _ => match mapA (compXE n cc j a) es with
      | some t => some (dTup t)
      | none => none
    | .List es _ => match mapA (compXE n cc j a) es with
      | some t => some (dLst t)
      | none => none
    | .Call (.Name x _) (e :: es) [] _ => match globG cc x, mapA (compXE n cc j a) (e :: es) with
      | some (.bi .isi), some t => some (dBi (isxD cc.et j a) t)
      | some (.bi .int), some t => some (dBi intBD t)
      | _, _ => none
    | _ => none
def compXT : Nat → CC → Nat → Addr → Expr → Option TTd
  | 0, _, _, _, _ => none
  | n + 1, cc, j, a, e => match e with
    | .UnaryOp .Not e _ => match compXT n cc j a e with
      | some t => some (dNot t)
      | none => none
    | .BoolOp op es _ => boT (compXT n cc j a) op es
    | .IfExp .. => none
    | .Compare .. => none
    | _ => match compXE n cc j a e with
      | some t => some (dB t)
      | none => none
end
def Xk1 (n : Nat) : Prop := ∀ (cc : CC) (e : Expr) (t : TEd) (X : Cx) (j : Nat) (a : Addr), Gx X cc → CalB X (.builtin "isinstance") (isxD cc.et j a) → compXE n cc j a e = some t → DE X e t ∧ unstarE e = true
def Xk2 (n : Nat) : Prop := ∀ (cc : CC) (e : Expr) (t : TTd) (X : Cx) (j : Nat) (a : Addr), Gx X cc → CalB X (.builtin "isinstance") (isxD cc.et j a) → compXT n cc j a e = some t → DT X e t
theorem compX_ok1 {n : Nat} (i1 : Xk1 n) (i2 : Xk2 n) : Xk1 (n + 1) := by
  intro cc e t X j a g hi h
  have k := fun e t => i1 cc e t X j a g hi
  unfold compXE at h
  split at h
  · cases h; exact ⟨de_c pe_int fun _ => .int _, rfl⟩
  · cases h; exact ⟨de_c pe_bl fun _ => .bl _, rfl⟩
  · cases h; exact ⟨de_c pe_non fun _ => .non, rfl⟩
  · cases h; exact ⟨de_c pe_str fun _ => .str _, rfl⟩
  · exact ⟨cNameX_ok g h, rfl⟩
  · split at h
    · rename_i h1; cases h; exact ⟨de_not (k _ _ h1).1, rfl⟩
    · cases h
  · exact ⟨boV_ok k h, rfl⟩
  · split at h
    · rename_i h1 h2 h3; cases h; exact ⟨de_ifExp (i2 cc _ _ X j a g hi h1) (k _ _ h2).1 (k _ _ h3).1, rfl⟩
    · cases h
  · split at h
    · rename_i h1; cases h; exact ⟨de_tup (mapA_ok k h1).1, rfl⟩
    · cases h
  · split at h
    · rename_i h1; cases h; exact ⟨de_lst (mapA_ok k h1).1, rfl⟩
    · cases h
  · split at h
    · rename_i h1 h2; cases h
      obtain ⟨a1, a2⟩ := mapA_ok k h2
      obtain ⟨b1, b2, b3, b4, rfl⟩ := globX_ok g h1
      exact ⟨de_bi hi b1 b4 (by first | exact PyProof.Rows.boot_isinstance | exact PySem.boot_isinstance) a1 b3 b2 a2, rfl⟩
    · rename_i h1 h2; cases h
      obtain ⟨a1, a2⟩ := mapA_ok k h2
      obtain ⟨b1, b2, b3, b4, rfl⟩ := globX_ok g h1
      exact ⟨de_bty bd_int b1 b4 (by first | exact PyProof.Rows.boot_int | exact PySem.boot_int) a1 b3 b2 a2, rfl⟩
    · cases h
  · cases h
theorem compX_ok2 {n : Nat} (i1 : Xk1 n) (i2 : Xk2 n) : Xk2 (n + 1) := by
  intro cc e t X j a g hi h
  unfold compXT at h
  split at h
  · split at h
    · rename_i h1; cases h; exact dt_not (i2 _ _ _ _ _ _ g hi h1)
    · cases h
  · exact dw_pt (boT_ok (fun e t => i2 cc e t X j a g hi) h)
  · cases h
  · cases h
  · rename_i n1 n2 n3 n4
    split at h
    · rename_i h1; cases h
      refine dt_val (i1 cc _ _ X j a g hi h1).1 ?_
      cases e with
      | BoolOp op es p => exact absurd rfl (n2 op es p)
      | IfExp a b c p => exact absurd rfl (n3 a b c p)
      | Compare a ops cs p => exact absurd rfl (n4 a ops cs p)
      | UnaryOp op a p =>
        cases op with
        | Not => exact absurd rfl (n1 a p)
        | _ => intro _; rfl
      | _ => intro _; rfl
    · cases h
theorem compX_all : ∀ n, Xk1 n ∧ Xk2 n
  | 0 => by
    refine ⟨?_, ?_⟩
    · intro cc e t X j a g hi h; simp [compXE] at h
    · intro cc e t X j a g hi h; simp [compXT] at h
  | n + 1 => let ⟨a, b⟩ := compX_all n; ⟨compX_ok1 a b, compX_ok2 a b⟩
end S

set_option Elab.async false
set_option linter.all false
set_option maxRecDepth 100000
set_option maxHeartbeats 4000000
namespace S
open PySem PySem.Spec L2
open PyProof.Rows hiding St
/-! ## raise, try .. except -/
def dRaise (i : Nat) : TSd := fun w _ σ G => w i .non σ G
theorem ds_raise {X : Cx} {et : List Str} {i j : Nat} {x m : Str} {p p2 pos pos' : Pos} (hx : excN i = x) (hc : X.calm = true) (C : EcJ X.K et i) (hi : i ≠ 18) (gC : X.mg x = some (.ref (He.ga X.K x))) (hg : Gl X x) (hdb : (x == ("__debug__" : Str)) = false) :
    DS X (.Raise (some (.Call (.Name x p) [.Constant (.str m) j p2] [] pos)) none pos') (dRaise i) := fun W tk => by
  subst hx
  exact PSi (L2N.ps_raise hc tk (L2N.pmk_own (x := excN i) (m := m) (j := j) (p := p) (p2 := p2) (pos := pos) PySem.F.excBase_ValueError C.q gC C.kp (raises_own C.sb C.ty) hg hdb)) fun E σ H ⟨σd, G, e, w, sr, gr, h, cl, cw⟩ =>
    cw i .non σd σ G H _ none Tm.refl sr gr ⟨rfl, .inl ⟨hi, rfl, rfl⟩⟩ h
def dFail : TSd := fun _ _ _ _ => False
def ecOk (ec : List Nat) (j : Nat) : Bool := ec.contains j && j != 18
def dTryAs (ec : List Nat) (c : Str) (k : Nat) (tb : TSd) (ts : Nat → Addr → TSd) : TSd := fun w E σ G => tb (fun j d σ1 G1 => ecOk ec j = true ∧ Br (subN j c) (∀ a, G1 a = none → ts j a W0 { nx := fun σ2 G2 => E.nx (σ2.set k none) G2, rt := E.rt, bk := fun σ2 G2 => E.bk (σ2.set k none) G2, ct := fun σ2 G2 => E.ct (σ2.set k none) G2 } (σ1.set k (some (.ref a))) G1) (w j d σ1 G1)) E σ G
def dMany (j : Nat) (E : En) (σ : Sd) (G : Hd) (o : Prop) : List (Str × (Nat → Addr → TSd)) → Prop
  | [] => o
  | (c, ts) :: r => Br (subN j c) (∀ a, G a = none → ts j a W0 E σ G) (dMany j E σ G o r)
def dTryM (ec : List Nat) (l : List (Str × (Nat → Addr → TSd))) (tb : TSd) : TSd := fun w E σ G => tb (fun j d σ1 G1 => ecOk ec j = true ∧ dMany j E σ1 G1 (w j d σ1 G1) l) E σ G
theorem ecOk_ok {ec : List Nat} {j : Nat} (h : ecOk ec j = true) : j ∈ ec ∧ j ≠ 18 := by
  unfold ecOk at h
  rw [Bool.and_eq_true] at h
  exact ⟨by simpa using h.1, by simpa using h.2⟩
theorem SR.unset {K : Kt} {H : Hp} {σd : Sd} {σ : St} (s : SR K H σd σ) (i : Nat) : SR K H (σd.set i none) (σ.set i none) := by
  refine ⟨by simp [s.len], fun j e h => ?_⟩
  by_cases hj : i = j
  · subst hj
    have hl : i < σd.length := by
      have := (List.getElem?_eq_some_iff.mp h).1
      simpa using this
    rw [List.getElem?_set_self hl] at h
    cases h
  · rw [List.getElem?_set_ne hj] at h ⊢
    exact s.at_ j e h
def tsL (K : Kt) (ec : List Nat) (tsd : Nat → Addr → TSd) : Addr → Value → Option Addr → TS := fun a cls d E σ H => ∃ j, ecOk ec j = true ∧ cls = .ref (He.ga K (excN j)) ∧ d = none ∧ liftS K (fun _ _ _ _ => False) (tsd j a) E σ H
/-! the clauses' readings -/
section
variable {K : Kt} {W : WX} {ec : List Nat} {et : List Str} {tb : TSd}
theorem exr_plain {H : Hp} {j : Nat} {d : D} {cls : Value} {od : Option Addr} (h : ExR K H j d cls od) (hj : j ≠ 18) : cls = .ref (He.ga K (excN j)) ∧ od = none := by
  obtain ⟨h1, ⟨_, h2, _⟩ | ⟨h2, _⟩⟩ := h
  · exact ⟨h1, h2⟩
  · exact absurd h2 hj
theorem tryAs_read {c : Str} {k : Nat} {ts : Nat → Addr → TSd} (C : EcK K.K ec et) (hc : c ∈ et) (E : Ends) (σ : St) (H : Hp) (h : liftS K W (dTryAs ec c k tb ts) E σ H) : liftS K (wAs K.K (.ref (He.ga K c)) k (tsL K ec ts) W E) tb E σ H := by
  obtain ⟨σd, G, e, w, sr, gr, h, cl, cw⟩ := h
  refine ⟨σd, G, e, _, sr, gr, h, cl, fun j d σ1d σ1 G1 H1 cls od t1 sr1 gr1 ex ⟨hj, hb⟩ => ?_⟩
  obtain ⟨h1, h2⟩ := ecOk_ok hj
  obtain ⟨rfl, rfl⟩ := exr_plain ex h2
  refine ⟨subN j c, (C j h1).exm c hc, fun hs a ha => ?_, fun hs => cw j d σ1d σ1 G1 H1 _ _ t1 sr1 gr1 ex (hb.2 hs)⟩
  have q := hb.1 hs a (gr1.free ha)
  refine ⟨j, hj, rfl, rfl, _, G1, _, W0, sr1.set k (.ref a), gr1, q, ?_, cw0⟩
  exact ⟨fun a b H5 G5 m5 s5 g5 q => cl.nx _ _ _ _ (t1.trans m5) (s5.unset k) g5 q, fun v d H5 G5 m5 => cl.rt v d H5 G5 (t1.trans m5), fun a b H5 G5 m5 s5 g5 q => cl.bk _ _ _ _ (t1.trans m5) (s5.unset k) g5 q, fun a b H5 G5 m5 s5 g5 q => cl.ct _ _ _ _ (t1.trans m5) (s5.unset k) g5 q⟩
def lM (K : Kt) (ec : List Nat) (l : List (Str × (Nat → Addr → TSd))) : List (Value × (Addr → Value → Option Addr → TS)) := l.map fun p => (.ref (He.ga K p.1), tsL K ec p.2)
theorem tryM_read {l : List (Str × (Nat → Addr → TSd))} (C : EcK K.K ec et) (hc : ∀ p ∈ l, p.1 ∈ et) (E : Ends) (σ : St) (H : Hp) (h : liftS K W (dTryM ec l tb) E σ H) : liftS K (wMany K.K W E (lM K ec l)) tb E σ H := by
  obtain ⟨σd, G, e, w, sr, gr, h, cl, cw⟩ := h
  refine ⟨σd, G, e, _, sr, gr, h, cl, fun j d σ1d σ1 G1 H1 cls od t1 sr1 gr1 ex ⟨hj, hb⟩ => ?_⟩
  obtain ⟨h1, h2⟩ := ecOk_ok hj
  obtain ⟨rfl, rfl⟩ := exr_plain ex h2
  have key : ∀ {l : List (Str × (Nat → Addr → TSd))}, (∀ p ∈ l, p.1 ∈ et) → dMany j e σ1d G1 (w j d σ1d G1) l → wMany K.K W E (lM K ec l) (.ref (He.ga K (excN j))) none σ1 H1 := by
    intro l hc hb
    induction l with
    | nil => exact cw j d σ1d σ1 G1 H1 _ _ t1 sr1 gr1 ex hb
    | cons p r ih =>
      obtain ⟨c, ts⟩ := p
      refine ⟨subN j c, (C j h1).exm c (hc _ List.mem_cons_self), fun hs a ha => ?_, fun hs => ih (fun p hp => hc p (List.mem_cons_of_mem _ hp)) (hb.2 hs)⟩
      exact ⟨j, hj, rfl, rfl, σ1d, G1, e, W0, sr1, gr1, hb.1 hs a (gr1.free ha), cl.mono t1, cw0⟩
  exact key hc hb
end
end S

set_option Elab.async false
set_option linter.all false
set_option maxRecDepth 100000
set_option maxHeartbeats 4000000
namespace S
open PySem PySem.Spec L2
open PyProof.Rows hiding St
/-! ## statements -/
structure Gs (X : Cx) (cc : CC) : Prop extends Gd X cc where
  hp : PassesOwn (model X.prog X.w) X.A X.env X.xe
  kind : X.env.scope.kind = .function
  stk : X.stack = X.env :: X.outer
  frm : X.env.frame = some X.env.locals
def mapS (f : Stmt → Option TSd) : List Stmt → Option TSd
  | [] => some dNext
  | [s] => f s
  | s :: t :: r => match f s, mapS f (t :: r) with
    | some a, some b => some (dSeq a b)
    | _, _ => none
/-- name = [.. for ..] on one line, the name a local: stored within the comprehension's frame -/
def inLc (cc : CC) (x : Str) (p : Pos) (e : Expr) : Bool := match e with
  | .ListComp _ _ sc pos => (cc.sc.names.lookup x == some .local) && p.line == pos.line && !(sc.names.any fun (n, k) => n == x && (k == .local || k == .cell))
  | _ => false
def isTup : Expr → Bool
  | .Tuple .. => true
  | _ => false
def isName : Expr → Bool
  | .Name .. => true
  | _ => false
def parOk (cc : CC) (x y : Str) (px py : Pos) (a b : Expr) : Bool :=
  decide (cc.sc.names.lookup x = some .local) && decide (cc.sc.names.lookup y = some .local) && decide (x ≠ y) && py.line == px.line && unstarE a && unstarE b && !([a, b].all (foldedForSure 8)) && !([a, b].all (constantsAlone 8))
def compXS : Nat → CC → Nat → Addr → Stmt → Option TSd
  | 0, _, _, _, _ => none
  | n + 1, cc, j, a, s => match s with
    | .Return (some e) _ => match compXE n cc j a e with
      | some t => some (dRet t)
      | none => none
    | .Return none _ => some dRetN
    | .Pass _ => some dNext
    | .If c u v _ => match compXT n cc j a c, mapS (compXS n cc j a) u, mapS (compXS n cc j a) v with
      | some t, some u, some v => some (dIf t u v)
      | _, _, _ => none
    | .Assign [.Name x _] e _ => if plainE e then (match slotW cc x, compXE n cc j a e with
      | some i, some t => some (dAsg t (dgName i))
      | _, _ => none) else none
    | _ => none
def suiteR (n : Nat) (cc : CC) (ss : List Stmt) (j : Nat) (a : Addr) : TSd := (mapS (compXS n cc j a) ss).getD dFail
/-- a clause's class -/
def clsOf (cc : CC) (x : Str) : Bool := match globG cc x with
  | some .exc => cc.et.contains x
  | _ => false
def slotL (cc : CC) (x : Str) : Option Nat := match cc.sc.names.lookup x with
  | some .local => ixOf x cc.N 0
  | _ => none
def hdsC (n : Nat) (cc : CC) : List ExceptHandler → Option (List (Str × (Nat → Addr → TSd)))
  | [] => some []
  | .ExceptHandler (some (.Name x _)) none (b :: suite) _ :: r => if clsOf cc x then (match hdsC n cc r with
    | some l => some ((x, suiteR n cc (b :: suite)) :: l)
    | none => none) else none
  | _ => none
def compS : Nat → CC → Stmt → Option TSd
  | 0, _, _ => none
  | n + 1, cc, s => match s with
    | .Expr e _ => if plainE e then (match compE n cc e with
      | some t => some (dDrop t)
      | none => none) else none
    | .Return (some e) _ => match compE n cc e with
      | some t => some (dRet t)
      | none => none
    | .Return none _ => some dRetN
    | .Pass _ => some dNext
    | .Break _ => some dBreak
    | .Continue _ => some dCont
    | .If c a b _ => match compT n cc c, mapS (compS n cc) a, mapS (compS n cc) b with
      | some t, some u, some v => some (dIf t u v)
      | _, _, _ => none
    | .For tg iter body [] _ => if isSet iter then none else (match compI n cc tg iter, cTg cc (compE n cc) n tg, mapS (compS n cc) body with
      | some it, some (_, g), some b => some (dFor it g b)
      | _, _, _ => none)
    | .While c body [] _ => match compT n cc c, mapS (compS n cc) body with
      | some t, some b => some (dWhile t b)
      | _, _ => none
    | .Assign [.Name x p] (.ListComp elt [⟨tg, iter, ifs, 0⟩] scope pos2) pos => match slotW cc x, compI n cc tg iter, cTg (inBlk cc scope) (compE n (inBlk cc scope)) n tg, compF n (inBlk cc scope) ifs, compE n (inBlk cc scope) elt with
      | some i, some it, some (sl, g), some tt, some te => if blkC cc.N cc.sc scope (ownOf cc.N scope) && subB sl (ownOf cc.N scope) && !isSet iter then some (dAsg (dLc it g tt te ((ownOf cc.N scope).map (·.2))) (dgName i)) else none
      | _, _, _, _, _ => none
    | .Assign [.Name x _] e _ => if plainE e then (match slotW cc x, compE n cc e with
      | some i, some t => some (dAsg t (dgName i))
      | _, _ => none) else none
    | .Assign [.Tuple [.Name x px, .Name y py] _ _] (.Tuple [a, b] _ _) _ => if parOk cc x y px py a b then (match ixOf x cc.N 0, ixOf y cc.N 0, mapA (compE n cc) [a, b] with
      | some i, some j, some t => some (dPar i j t)
      | _, _, _ => none) else none
    | .Assign [.Tuple es k p] e _ => if plainE e && (!isTup e || es.any fun x => !isName x) then (match compE n cc e, cTg cc (compE n cc) n (.Tuple es k p) with
      | some t, some (_, g) => some (dAsg t g)
      | _, _ => none) else none
    | .Assign [.Subscript o i p] e _ => if plainE e then (match compE n cc e, cTg cc (compE n cc) n (.Subscript o i p) with
      | some t, some (_, g) => some (dAsg t g)
      | _, _ => none) else none
    | .Assign [.Attribute o f _] e _ => if plainE e then (match cc.fl.lookup f, compE n cc o, compE n cc e with
      | some (c, i), some to, some te => some (dSetF c i to te)
      | _, _, _ => none) else none
    | .Raise (some (.Call (.Name x _) [.Constant (.str _) _ _] [] _)) none _ => match globG cc x, ixOf x excNames 0 with
      | some .exc, some i => if ecOk cc.ec i then some (dRaise i) else none
      | _, _ => none
    | .Try body [.ExceptHandler (some (.Name x _)) (some nm) (b :: suite) _] [] [] _ => match slotL cc nm, mapS (compS n cc) body with
      | some k, some tb => if clsOf cc x then some (dTryAs cc.ec x k tb (suiteR n cc (b :: suite))) else none
      | _, _ => none
    | .Try body (h :: hds) [] [] _ => match hdsC n cc (h :: hds), mapS (compS n cc) body with
      | some l, some tb => some (dTryM cc.ec l tb)
      | _, _ => none
    | .AugAssign (.Name x _) .Add e _ => match slotW cc x, compE n cc e with
      | some i, some t => some (dAug i t (intD (fun _ _ => True) fun i j => .int (i + j)))
      | _, _ => none
    | _ => none
theorem mapS_ok {X : Cx} {f : Stmt → Option TSd} (hf : ∀ s t, f s = some t → DS X s t) : ∀ {ss : List Stmt} {t : TSd}, mapS f ss = some t → DSs X ss t
  | [], _, h => by cases h; exact ds_nil
  | [s], _, h => ds_one (hf _ _ h)
  | s :: u :: r, _, h => by
    simp only [mapS] at h
    split at h
    · rename_i h1 h2; cases h; exact ds_cons (hf _ _ h1) (mapS_ok hf h2)
    · cases h
theorem filterMap_short {α β : Type} {f : α → Option β} : ∀ {l : List α}, (l.any fun x => (f x).isNone) = true → (l.filterMap f).length < l.length
  | [], h => by cases h
  | a :: r, h => by
    rw [List.any_cons, Bool.or_eq_true] at h
    have hl := List.length_filterMap_le f r
    cases e : f a with
    | none => rw [List.filterMap_cons_none e, List.length_cons]; omega
    | some b =>
      rw [List.filterMap_cons_some e]
      rcases h with h | h
      · rw [e] at h; cases h
      · have := filterMap_short h
        rw [List.length_cons, List.length_cons]; omega
theorem swappedNone {X : Cx} {es : List Expr} {k : Nat} {p : Pos} {e : Expr} (h : (!isTup e || es.any fun x => !isName x) = true) : swappedStores [.Tuple es k p] e X.env = pure none := by
  rw [Bool.or_eq_true] at h
  cases e with
  | Tuple vs k2 p2 =>
    rcases h with h | h
    · cases h
    · unfold swappedStores
      dsimp only
      split
      · rfl
      · split
        · rfl
        · rw [if_pos]
          rw [Bool.or_eq_true]
          left
          rw [bne_iff_ne]
          refine Nat.ne_of_lt (filterMap_short ?_)
          rw [List.any_eq_true] at h ⊢
          obtain ⟨y, hy, hn⟩ := h
          refine ⟨y, hy, ?_⟩
          cases y <;> first | rfl | cases hn
  | _ => rfl
theorem swapsSole_ok {env : Env} {tg e : Expr} {n : Nat} (h : plainE e = true) : swapsWithSole [tg] e n env = pure false := by
  show swapsWith e (some tg) n env = pure false
  exact swaps_ok h
theorem par_ok {X : Cx} {cc : CC} {x y : Str} {px py pt p2 : Pos} {kt k2 : Nat} {a b : Expr} (hs : X.env.scope = cc.sc) (hk : X.env.scope.kind = .function) (h : parOk cc x y px py a b = true) : X.env.scope.names.lookup x = some .local ∧ X.env.scope.names.lookup y = some .local ∧ x ≠ y ∧
    swappedStores [.Tuple [.Name x px, .Name y py] kt pt] (.Tuple [a, b] k2 p2) X.env = pure (some [x, y]) := by
  unfold parOk at h
  simp only [Bool.and_eq_true, decide_eq_true_eq, Bool.not_eq_true'] at h
  obtain ⟨⟨⟨⟨⟨⟨⟨h1, h2⟩, h3⟩, h4⟩, h5⟩, h6⟩, h7⟩, h8⟩ := h
  rw [← hs] at h1 h2
  refine ⟨h1, h2, h3, ?_⟩
  have kx : X.env.kindOf x = some .local := h1
  have ky : X.env.kindOf y = some .local := h2
  have hb : X.env.blockKind = .function := by unfold Env.blockKind; rw [hk]; rfl
  have c1 : (X.env.kindOf x == some NameKind.local && px.line == px.line) = true := by rw [kx]; simp
  have c2 : (X.env.kindOf y == some NameKind.local && py.line == px.line) = true := by rw [ky, h4]; rfl
  have c3 : (y == x) = false := by simp [Ne.symm h3]
  have nm : ∀ l : List Str, l = [x, y] → (l.length != 2 || l.eraseDups.length != l.length) = false := by
    intro l e
    subst e
    simp [List.eraseDups_cons, c3]
  unfold swappedStores
  dsimp only
  rw [if_neg (by rw [hb]; intro z; exact absurd z (by simp))]
  rw [if_neg]
  · have fm : ∀ f : Expr → Option Str, f (.Name x px) = some x → f (.Name y py) = some y → [Expr.Name x px, Expr.Name y py].filterMap f = [x, y] := by
      intro f q1 q2
      rw [List.filterMap_cons_some q1, List.filterMap_cons_some q2]; rfl
    rw [fm _ (if_pos c1) (if_pos c2)]
    rw [if_neg (by have q := nm [x, y] rfl; intro z; exact absurd (q.symm.trans z) (by decide)), if_neg (by rw [h7]; decide), if_neg (by rw [h8]; decide)]
  · simp only [List.any_cons, List.any_nil, Bool.or_false, Bool.or_eq_true]
    rintro (z | z)
    · cases a <;> first | exact absurd (show false = true from z) (by decide) | exact absurd (show false = true from h5) (by decide)
    · cases b <;> first | exact absurd (show false = true from z) (by decide) | exact absurd (show false = true from h6) (by decide)
theorem lc_not {env : Env} {elt : Expr} {gs : List Comprehension} {sc : Scope} {p py : Pos} {x : Str} {l : Nat} {cc : CC} (hs : env.scope = cc.sc) (h : inLc cc x py (.ListComp elt gs sc p) = false) : swapsWith (.ListComp elt gs sc p) (some (.Name x py)) l env = pure false := by
  have e : (env.blockKind == .function && env.kindOf x == some .local && py.line == p.line && !(sc.names.any fun (n, k) => n == x && (k == .local || k == .cell))) = false := by
    have h' : ((cc.sc.names.lookup x == some .local) && py.line == p.line && !(sc.names.any fun (n, k) => n == x && (k == .local || k == .cell))) = false := h
    rw [← hs] at h'
    have k1 : env.kindOf x = env.scope.names.lookup x := rfl
    rw [k1, Bool.and_assoc, Bool.and_assoc]
    rw [Bool.and_assoc] at h'
    rw [h', Bool.and_false]
  unfold swapsWith
  show (pure (env.blockKind == .function && env.kindOf x == some .local && py.line == p.line && !(sc.names.any fun (n, k) => n == x && (k == .local || k == .cell))) : Sem Bool) = pure false
  rw [e]
theorem compXS_ok : ∀ (n : Nat) (cc : CC) (j : Nat) (a : Addr) (s : Stmt) (t : TSd) (X : Cx), Gx X cc → CalB X (.builtin "isinstance") (isxD cc.et j a) → compXS n cc j a s = some t → DS X s t
  | 0, _, _, _, _, _, _, _, _, h => by simp [compXS] at h
  | n + 1, cc, j, a, s, t, X, g, hi, h => by
    have ih := fun s t => compXS_ok n cc j a s t X g hi
    obtain ⟨i1, i2⟩ := compX_all n
    have k := fun e t => i1 cc e t X j a g hi
    unfold compXS at h
    split at h
    · split at h
      · rename_i h1; cases h; exact ds_ret (k _ _ h1).1
      · cases h
    · cases h; exact ds_retN
    · cases h; exact ds_pass
    · split at h
      · rename_i h1 h2 h3; cases h; exact ds_if (i2 _ _ _ _ _ _ g hi h1) (mapS_ok ih h2) (mapS_ok ih h3)
      · cases h
    · split at h
      · rename_i hp
        split at h
        · rename_i h1 h2; cases h
          obtain ⟨a1, a2, a3⟩ := slotW_of g.N g.sc g.fx h1
          exact ds_set g.nd a1 a2 a3 (k _ _ h2).1 (swaps_ok hp)
        · cases h
      · cases h
    · cases h
theorem Gs.tr {X : Cx} {cc : CC} (g : Gs X cc) {pn : List (Addr × Obj)} {xe : Value → Shared → Prop} (hp : PassesOwn (model X.prog X.w) X.A X.env xe) : Gs (X.tr pn xe) cc where
  N := g.N
  nd := g.nd
  sc := g.sc
  calm := g.calm
  fx := g.fx
  hu := g.hu
  gl := fun x gi h => by
    have := g.gl x gi h
    cases gi with
    | fn sp => exact ⟨this.ex⟩
    | fv sp => exact ⟨⟨this.1.ex⟩, this.2⟩
    | _ => exact this
  ec := g.ec
  fl := fun f c i h => g.fl f c i h
  mt := fun m c sp h => g.mt m c sp h
  hp := hp
  kind := g.kind
  stk := g.stk
  frm := g.frm
theorem Gs.gx {X : Cx} {cc : CC} (g : Gs X cc) {a : Addr} {pn : List (Addr × Obj)} : Gx (X.suite a pn) cc where
  N := g.N
  nd := g.nd
  sc := g.sc
  fx := g.fx
  gl := fun x gi h => by
    have := g.gl x gi h
    cases gi with
    | fn sp => trivial
    | fv sp => trivial
    | cl c sp => trivial
    | _ => exact this
theorem suite_ok {X : Cx} {cc : CC} (g : Gs X cc) (n : Nat) (ss : List Stmt) (a : Addr) (oe : Obj) (cls : Value) (d : Option Addr) (pn : List (Addr × Obj)) (hz : L2N.Zn cls d oe) (hf : ∃ vs, oe.data = .fields vs) :
    PSs (X.suite a ((a, oe) :: pn)) ss (tsL (kt X) cc.ec (suiteR n cc ss) a cls d) := ⟨fun pins s σ H E I ⟨j, hj, hc, hd, hl⟩ => by
  subst hc hd
  unfold suiteR at hl
  cases e : mapS (compXS n cc j a) ss with
  | none =>
    rw [e] at hl
    obtain ⟨_, _, _, _, _, _, h, _⟩ := hl
    exact h.elim
  | some t =>
    rw [e] at hl
    have hi : CalB (X.suite a ((a, oe) :: pn)) (.builtin "isinstance") (isxD cc.et j a) := bx_isi (g.ec j (ecOk_ok hj).1) List.mem_cons_self hz.zc hf
    exact (mapS_ok (fun s t => compXS_ok n cc j a s t _ g.gx hi) e _ (fun _ _ ⟨_, _, _, _, _, _, _, _, _, _, _, _, _, _, _, _, z⟩ => z.elim)).run pins s σ H E I hl⟩
theorem clsOf_ok {X : Cx} {cc : CC} {x : Str} (g : Gd X cc) (h : clsOf cc x = true) : Names X x (.ref (He.ga X.K x)) ∧ x ∈ cc.et := by
  unfold clsOf at h
  split at h
  · rename_i e
    obtain ⟨h1, h2, h3, h4⟩ := globG_ok g e
    exact ⟨⟨h1, h2, .inl h4⟩, by simpa using h⟩
  · cases h
theorem slotL_ok {X : Cx} {cc : CC} {x : Str} {k : Nat} (g : Gd X cc) (h : slotL cc x = some k) : X.N[k]? = some x ∧ X.env.kindOf x = some .local := by
  unfold slotL at h
  split at h
  · rename_i e
    refine ⟨by rw [g.N]; exact ixOf_at h, ?_⟩
    show X.env.scope.names.lookup x = _
    rw [g.sc]; exact e
  · cases h
theorem hdsC_ok {X : Cx} {cc : CC} (g : Gs X cc) {n : Nat} : ∀ {hds : List ExceptHandler} {l : List (Str × (Nat → Addr → TSd))}, hdsC n cc hds = some l → L2N.HdsOk X hds (lM (kt X) cc.ec l) ∧ ∀ p ∈ l, p.1 ∈ cc.et
  | [], _, h => by cases h; exact ⟨.nil, by simp⟩
  | hd :: r, _, h => by
    unfold hdsC at h
    split at h
    · rename_i e; cases e
    · rename_i e
      cases e
      split at h
      · rename_i hc
        split at h
        · rename_i l hl
          cases h
          obtain ⟨i1, i2⟩ := hdsC_ok g hl
          obtain ⟨c1, c2⟩ := clsOf_ok g.toGd hc
          exact ⟨.cons c1 (fun a oe cls d pn hz hf => suite_ok g n _ a oe cls d pn hz hf) i1, fun p hp => by
            rcases List.mem_cons.mp hp with rfl | hp
            · exact c2
            · exact i2 p hp⟩
        · cases h
      · cases h
    · cases h
theorem compS_ok : ∀ (n : Nat) (cc : CC) (s : Stmt) (t : TSd) (X : Cx), Gs X cc → compS n cc s = some t → DS X s t
  | 0, _, _, _, _, _, h => by simp [compS] at h
  | n + 1, cc, s, t, X, g, h => by
    have ih := fun s t => compS_ok n cc s t X g
    obtain ⟨i1, i2, i3, i4⟩ := comp_all n
    have k := fun e t => i1 cc e t X g.toGd
    unfold compS at h
    split at h
    · split at h
      · rename_i hp
        split at h
        · rename_i h1; cases h; exact ds_expr (k _ _ h1).1 hp
        · cases h
      · cases h
    · split at h
      · rename_i h1; cases h; exact ds_ret (k _ _ h1).1
      · cases h
    · cases h; exact ds_retN
    · cases h; exact ds_pass
    · cases h; exact ds_break
    · cases h; exact ds_continue
    · split at h
      · rename_i h1 h2 h3; cases h; exact ds_if (i2 _ _ _ _ g.toGd h1) (mapS_ok ih h2) (mapS_ok ih h3)
      · cases h
    · split at h
      · cases h
      · rename_i hi
        split at h
        · rename_i h1 h2 h3; cases h; exact ds_for g.hp g.calm (i4 _ _ _ _ _ g.toGd h1) (cTg_ok g.toGd k h2).1 (mapS_ok ih h3) (folded_ok (by simpa using hi))
        · cases h
    · split at h
      · rename_i h1 h2; cases h; exact ds_while g.hp (i2 _ _ _ _ g.toGd h1) (mapS_ok ih h2)
      · cases h
    · rename_i x p elt tg iter ifs scope pos2 pos
      split at h
      · rename_i h0 h1 h2 h3 h4
        split at h
        · rename_i hc; cases h
          rw [Bool.and_eq_true, Bool.and_eq_true] at hc
          obtain ⟨⟨c1, c2⟩, c3⟩ := hc
          obtain ⟨a1, a2, a3⟩ := slotW_ok g.toGd h0
          have it4 := i4 cc _ _ _ X g.toGd h1
          have bo : BlkOk X.N X.env.scope scope (ownOf cc.N scope) := blkOk_by (by rw [g.N, g.sc]; exact c1)
          have fo := fun x => folded_ok (e := iter) (env := X.env) (by simpa using c3) x
          have g1 := fun s H C cl fp => (cTg_ok (blk_gd g.toGd s H C cl fp) (fun e t => i1 _ e t _ (blk_gd g.toGd s H C cl fp)) h2).1
          have g2 := fun s H C cl fp => i3 _ _ _ _ (blk_gd g.toGd s H C cl fp) h3
          have g3 := fun s H C cl fp => (i1 _ _ _ _ (blk_gd g.toGd s H C cl fp) h4).1
          cases hb : inLc cc x p (.ListComp elt [⟨tg, iter, ifs, 0⟩] scope pos2) with
          | true =>
            have hb' : ((cc.sc.names.lookup x == some .local) && p.line == pos2.line && !(scope.names.any fun (n, k) => n == x && (k == .local || k == .cell))) = true := hb
            rw [Bool.and_eq_true, Bool.and_eq_true] at hb'
            obtain ⟨⟨b1, b2⟩, b3⟩ := hb'
            have b1 : X.env.scope.names.lookup x = some .local := by rw [g.sc]; simpa using b1
            exact ds_setLc g.calm g.nd a1 b1 (sw_true g.kind b1 b2 (by simpa using b3)) it4 bo (subB_ok c2) g1 g2 g3 fo
          | false => exact ds_set g.nd a1 a2 a3 (de_lc g.calm g.nd it4 bo (subB_ok c2) g1 g2 g3 fo) (lc_not g.sc hb)
        · cases h
      · cases h
    · split at h
      · rename_i hp
        split at h
        · rename_i h1 h2; cases h
          obtain ⟨a1, a2, a3⟩ := slotW_ok g.toGd h1
          exact ds_set g.nd a1 a2 a3 (k _ _ h2).1 (swaps_ok hp)
        · cases h
      · cases h
    · split at h
      · rename_i hp
        split at h
        · rename_i h1 h2 h3; cases h
          obtain ⟨b1, b2, b3, b4⟩ := par_ok g.sc g.kind hp
          have n1 := ixOf_at h1
          have n2 := ixOf_at h2
          rw [← g.N] at n1 n2
          exact ds_par g.calm g.nd n1 n2 (fun e => b3 (by rw [e, n2] at n1; exact (Option.some.inj n1).symm)) b1 b2 (mapA_ok k h3).1 b4
        · cases h
      · cases h
    · split at h
      · rename_i hp
        rw [Bool.and_eq_true] at hp
        split at h
        · rename_i h1 h2; cases h
          exact ds_asg (k _ _ h1).1 (cTg_ok g.toGd k h2).1 (swapsSole_ok hp.1) (swappedNone hp.2) rfl
        · cases h
      · cases h
    · split at h
      · rename_i hp
        split at h
        · rename_i h1 h2; cases h
          exact ds_asg (k _ _ h1).1 (cTg_ok g.toGd k h2).1 (swapsSole_ok hp) rfl rfl
        · cases h
      · cases h
    · split at h
      · rename_i hp
        split at h
        · rename_i h1 h2 h3; cases h
          exact ds_setf (g.fl _ _ _ h1) (k _ _ h2).1 (k _ _ h3).1 hp
        · cases h
      · cases h
    · split at h
      · rename_i h1 h2
        split at h
        · rename_i hj; cases h
          obtain ⟨e1, e2⟩ := ecOk_ok hj
          obtain ⟨b1, b2, b3, b4⟩ := globG_ok g.toGd h1
          have hx := ixOf_at h2
          exact ds_raise (by unfold excN; rw [List.getD_eq_getElem?_getD, hx]; rfl) g.calm (g.ec _ e1) e2 b4 b1 b2
        · cases h
      · cases h
    · split at h
      · rename_i kk tb h1 h2
        split at h
        · rename_i hc; cases h
          obtain ⟨c1, c2⟩ := clsOf_ok g.toGd hc
          obtain ⟨l1, l2⟩ := slotL_ok g.toGd h1
          exact fun W tk => PSi (L2N.ps_try_as (tb := fun W' => liftS (kt X) W' tb) g.stk g.frm g.nd l1 l2 c1 tk (fun W' pn xe tk' hp' => mapS_ok (fun s t => compS_ok n cc s t (X.tr pn xe) (g.tr hp')) h2 W' tk') (fun a oe cls d pn hz hf => suite_ok g n _ a oe cls d pn hz hf)) fun E σ H h => tryAs_read g.ec c2 E σ H h
        · cases h
      · cases h
    · split at h
      · rename_i ll tb h1 h2; cases h
        obtain ⟨c1, c2⟩ := hdsC_ok g h1
        exact fun W tk => PSi (L2N.ps_try_many (tb := fun W' => liftS (kt X) W' tb) g.stk g.frm tk (fun W' pn xe tk' hp' => mapS_ok (fun s t => compS_ok n cc s t (X.tr pn xe) (g.tr hp')) h2 W' tk') c1) fun E σ H h => tryM_read g.ec c2 E σ H h
      · cases h
    · split at h
      · rename_i h1 h2; cases h
        obtain ⟨a1, a2, a3⟩ := slotW_ok g.toGd h1
        exact ds_aug g.nd a1 a2 a3 (k _ _ h2).1 ipd_add
      · cases h
    · cases h
end S

set_option Elab.async false
set_option linter.all false
set_option maxRecDepth 100000
set_option maxHeartbeats 4000000
namespace S
open PySem PySem.Spec L2
open PyProof.Rows hiding St
/-! ## a def by its reading -/
structure CalG (P : Program) (w : World) (K : PySem.W.Frag) (mg : Str → Option Value) (base : Heap) (k : Nat) (x : Str) (sp : DSp) : Prop where
  ex : ∃ f fd ps, FnOk P w K mg base (L2N.CX P w) k f fd ps (liftSp ⟨K, P, w⟩ sp) ∧ mg x = some (.ref f) ∧ PySem.W.keepIn K (.ref f) = true ∧ Binds K fd ps []
def GIg (P : Program) (w : World) (K : PySem.W.Frag) (mg : Str → Option Value) (base : Heap) (k : Nat) (x : Str) : GI → Prop
  | .fn sp => ∃ j, j ≤ k ∧ CalG P w K mg base j x sp
  | .cst d => ∃ v u, mg x = some u ∧ RelV v u ∧ ∀ H, Rp ⟨K, P, w⟩ H d v
  | .bi b => mg x = none ∧ x = b.name
  | .ty n => mg x = none ∧ bootBuiltins x = some (.type n) ∧ x ≠ "__name__"
  | .rng => mg x = none ∧ x = "range"
  | .enum => mg x = none ∧ x = "enumerate"
  | .zip => mg x = none ∧ x = "zip"
  | .exc => mg x = some (.ref (He.ga K x))
  | .fv sp => (∃ j, j ≤ k ∧ CalG P w K mg base j x sp) ∧ mg x = some (.ref (He.ga K x))
  | .cl c sp => mg x = some (.ref (He.ga K (clsName c))) ∧ ∃ f fd ps j, j + 1 ≤ k ∧ Mk K (He.ga K (clsName c)) f ∧ FnOk P w K mg base (L2N.CX P w) j f fd ps (liftSp ⟨K, P, w⟩ sp) ∧ Binds K fd ps []
/-- a method by its promise -/
def MetG (P : Program) (w : World) (K : PySem.W.Frag) (mg : Str → Option Value) (base : Heap) (k : Nat) (c : Nat) (m : Str) (sp : DSp) : Prop :=
  Cls K (He.ga K (clsName c)) ∧ m ∉ attrs ∧ ∃ f fd ps, Meth K (He.ga K (clsName c)) m f ∧ FnOk P w K mg base (L2N.CX P w) k f fd ps (liftSp ⟨K, P, w⟩ sp) ∧ Binds K fd ps []
def FlOk (K : PySem.W.Frag) (fl : List (Str × Nat × Nat)) : Prop := ∀ f c i, fl.lookup f = some (c, i) → attrs[i]? = some f ∧ Cls K (He.ga K (clsName c)) ∧ NoAttr K (He.ga K (clsName c)) f
def MtOk (P : Program) (w : World) (K : PySem.W.Frag) (mg : Str → Option Value) (base : Heap) (k : Nat) (mt : List (Str × Nat × DSp)) : Prop := ∀ m c sp, mt.lookup m = some (c, sp) → ∃ j, j ≤ k ∧ MetG P w K mg base j c m sp
theorem FlOk.nil {K : PySem.W.Frag} : FlOk K [] := fun _ _ _ h => nomatch h
theorem FlOk.cons {K : PySem.W.Frag} {fl : List (Str × Nat × Nat)} {f : Str} {c i : Nat} (h1 : attrs[i]? = some f) (h2 : Cls K (He.ga K (clsName c))) (h3 : NoAttr K (He.ga K (clsName c)) f) (h : FlOk K fl) : FlOk K ((f, c, i) :: fl) := fun g d j e => by
  rw [List.lookup_cons] at e
  split at e
  · rename_i q; cases e; cases eq_of_beq q; exact ⟨h1, h2, h3⟩
  · exact h g d j e
theorem MtOk.nil {P : Program} {w : World} {K : PySem.W.Frag} {mg : Str → Option Value} {base : Heap} {k : Nat} : MtOk P w K mg base k [] := fun _ _ _ h => nomatch h
theorem MtOk.cons {P : Program} {w : World} {K : PySem.W.Frag} {mg : Str → Option Value} {base : Heap} {k j : Nat} {mt : List (Str × Nat × DSp)} {m : Str} {c : Nat} {sp : DSp} (h1 : MetG P w K mg base j c m sp) (h2 : j ≤ k) (h : MtOk P w K mg base k mt) : MtOk P w K mg base k ((m, c, sp) :: mt) := fun n d s e => by
  rw [List.lookup_cons] at e
  split at e
  · rename_i q; cases e; cases eq_of_beq q; exact ⟨j, h2, h1⟩
  · exact h n d s e
theorem GIg.ok {X : Cx} {k : Nat} {x : Str} {g : GI} (hr : Room k X.A) (h : GIg X.prog X.w X.K X.mg X.base k x g) : GIok X x g := by
  cases g with
  | fn sp =>
    obtain ⟨j, hj, ⟨f, fd, ps, F, h1, h2, h3⟩⟩ := h
    exact ⟨f, fd, ps, j, F, hr.mono hj, h1, h2, h3⟩
  | fv sp =>
    obtain ⟨⟨j, hj, ⟨f, fd, ps, F, h1, h2, h3⟩⟩, hm⟩ := h
    exact ⟨⟨f, fd, ps, j, F, hr.mono hj, h1, h2, h3⟩, hm⟩
  | cl c sp =>
    obtain ⟨hm, f, fd, ps, j, hj, M, F, h3⟩ := h
    exact ⟨hm, f, fd, ps, j, M, F, hr.mono hj, h3⟩
  | _ => exact h
def startD (N : List Str) (ds : List D) : Sd := ds.map some ++ List.replicate (N.length - ds.length) none
theorem SR.start {K : Kt} {H : Hp} {N : List Str} {ds : List D} {vs : List V} (r : Rps K H ds vs) : SR K H (startD N ds) (start N vs) := by
  unfold startD L2.start
  have hl := r.length
  refine ⟨by simp [hl], fun i d h => ?_⟩
  by_cases hi : i < ds.length
  · rw [List.getElem?_append_left (by simpa using hi), List.getElem?_map] at h
    cases e : ds[i]? with
    | none => rw [e] at h; cases h
    | some y =>
      rw [e] at h
      cases h
      obtain ⟨v, hv, rv⟩ := r.get e
      exact ⟨v, by rw [List.getElem?_append_left (by simpa [← hl] using hi), List.getElem?_map, hv]; rfl, rv⟩
  · rw [List.getElem?_append_right (by simpa using hi), List.getElem?_replicate] at h
    split at h <;> cases h
/-- what a def's body does, by its reading -/
def Body (t : TSd) (N : List Str) (sp : DSp) : Prop := ∀ ds G q x, sp ds G q x → t (fun i d _ G => x i d G) { nx := fun _ G => q .non G, rt := q } (startD N ds) G
abbrev ccOf (N : List Str) (sc : Scope) (gl : List (Str × GI)) (dn : List Str) (ec : List Nat := []) (et : List Str := []) (kd : Bool := false) (fl : List (Str × Nat × Nat) := []) (mt : List (Str × Nat × DSp) := []) : CC := ⟨N, sc, fun _ => true, gl, dn, ec, et, kd, fl, mt⟩
section
variable {P : Program} {w : World} {K : PySem.W.Frag} {mg : Str → Option Value} {base : Heap}
theorem un65 {k : Nat} {A : Around} (r : Room k A) : A.units + 65 < cLine := by have := r.un; omega
theorem def_ok {x qual : Str} {params : Arguments} {body : List Stmt} {scope : Scope} {f : Addr} {fd : FuncData} {N ps : List Str} {gl : List (Str × GI)} {t : TSd} {sp : DSp} {k n : Nat} {dn : List Str} {ec : List Nat} {et : List Str} {kd : Bool} {fl : List (Str × Nat × Nat)} {mt : List (Str × Nat × DSp)} (F : L2.FunD K x qual params body scope [] [] f fd) (fsc : FnScope N ps scope)
    (hc : mapS (compS n (ccOf N scope gl dn ec et kd fl mt)) body = some t) (hg : ∀ x g, gl.lookup x = some g → GIg P w K mg base k x g) (len : ∀ ds G q xx, sp ds G q xx → ds.length = ps.length) (hb : Body t N sp) (he : EcK K ec et) (hfl : FlOk K fl := by exact FlOk.nil) (hmt : MtOk P w K mg base k mt := by exact MtOk.nil) :
    FnOk P w K mg base (L2N.CX P w) (k + 1) f fd ps (liftSp ⟨K, P, w⟩ sp) := by
  refine F.ok fsc (fun vs H Q E ⟨ds, G, q, xx, r, _, h, _⟩ => by rw [← r.length]; exact len _ _ _ _ h) fun cdv A outer s H vs Q E hr ⟨ds, G, q, xx, r, gr, h, cl, cx⟩ => ?_
  refine ⟨liftS ⟨K, P, w⟩ (fun cls d _ H => E cls d H) t, ?_, ?_⟩
  · have tk : L2N.Takes (cxOf (L2N.CX P w) P w K mg base N qual scope f cdv A outer s H E) (fun cls d _ H => E cls d H) := L2N.takes_of rfl rfl rfl rfl
    refine mapS_ok (X := cxOf (L2N.CX P w) P w K mg base N qual scope f cdv A outer s H E) (fun s t => compS_ok n (ccOf N scope gl dn ec et kd fl mt) s t _ ?_) hc _ tk
    exact { N := rfl, nd := fsc.nd, sc := rfl, calm := rfl, fx := fun _ _ => rfl, hu := un65 hr, gl := fun x g h => (hg x g h).ok hr, ec := he, fl := hfl, mt := fun m c sp h => let ⟨j, hj, kc, km, f, fd, ps, kM, F, kb⟩ := hmt m c sp h; ⟨kc, km, f, fd, ps, j, kM, F, hr.mono hj, kb⟩, hp := passes_of rfl, kind := fsc.kind, stk := rfl, frm := rfl }
  · refine ⟨startD N ds, G, { nx := fun _ G => q .non G, rt := q }, _, SR.start r, gr, hb ds G q xx h, ?_, fun i d σd σ G' H' cls od t sr gr ex h => cx i d G' H' cls od t gr ex h⟩
    exact ⟨fun σd σ H' G' t sr gr h => cl _ _ _ _ t gr .non h, cl, fun _ _ _ _ _ _ _ h => h.elim, fun _ _ _ _ _ _ _ h => h.elim⟩
theorem call_mk {x : Str} {params : Arguments} {body : List Stmt} {scope : Scope} {f : Addr} {fd : FuncData} {N ps : List Str} {gl : List (Str × GI)} {t : TSd} {sp : DSp} {k n : Nat} {dn : List Str} {ec : List Nat} {et : List Str} {kd : Bool} {fl : List (Str × Nat × Nat)} {mt : List (Str × Nat × DSp)} (F : L2.FunD K x x params body scope [] [] f fd) (fsc : FnScope N ps scope)
    (hc : mapS (compS n (ccOf N scope gl dn ec et kd fl mt)) body = some t) (hg : ∀ x g, gl.lookup x = some g → GIg P w K mg base k x g) (len : ∀ ds G q xx, sp ds G q xx → ds.length = ps.length) (hb : Body t N sp)
    (hm : mg x = some (.ref f)) (bd : Binds K fd ps []) (he : EcK K ec et) (hfl : FlOk K fl := by exact FlOk.nil) (hmt : MtOk P w K mg base k mt := by exact MtOk.nil) : CalG P w K mg base (k + 1) x sp := ⟨f, fd, ps, def_ok F fsc hc hg len hb he hfl hmt, hm, F.kp, bd⟩
theorem meth_mk {x qual : Str} {params : Arguments} {body : List Stmt} {scope : Scope} {f : Addr} {fd : FuncData} {N ps : List Str} {gl : List (Str × GI)} {t : TSd} {sp : DSp} {k n c : Nat} {dn : List Str} {ec : List Nat} {et : List Str} {kd : Bool} {fl : List (Str × Nat × Nat)} {mt : List (Str × Nat × DSp)} (F : L2.FunD K x qual params body scope [] [] f fd) (fsc : FnScope N ps scope)
    (hc : mapS (compS n (ccOf N scope gl dn ec et kd fl mt)) body = some t) (hg : ∀ x g, gl.lookup x = some g → GIg P w K mg base k x g) (len : ∀ ds G q xx, sp ds G q xx → ds.length = ps.length) (hb : Body t N sp)
    (hC : Cls K (He.ga K (clsName c))) (hx : x ∉ attrs) (hM : Meth K (He.ga K (clsName c)) x f) (bd : Binds K fd ps []) (he : EcK K ec et) (hfl : FlOk K fl := by exact FlOk.nil) (hmt : MtOk P w K mg base k mt := by exact MtOk.nil) : MetG P w K mg base (k + 1) c x sp := ⟨hC, hx, f, fd, ps, hM, def_ok F fsc hc hg len hb he hfl hmt, bd⟩
theorem make_mk {x y qual : Str} {params : Arguments} {body : List Stmt} {scope : Scope} {f : Addr} {fd : FuncData} {N ps : List Str} {gl : List (Str × GI)} {t : TSd} {sp : DSp} {k n c : Nat} {dn : List Str} {ec : List Nat} {et : List Str} {kd : Bool} {fl : List (Str × Nat × Nat)} {mt : List (Str × Nat × DSp)} (F : L2.FunD K x qual params body scope [] [] f fd) (fsc : FnScope N ps scope)
    (hc : mapS (compS n (ccOf N scope gl dn ec et kd fl mt)) body = some t) (hg : ∀ x g, gl.lookup x = some g → GIg P w K mg base k x g) (len : ∀ ds G q xx, sp ds G q xx → ds.length = ps.length) (hb : Body t N sp)
    (hm : mg y = some (.ref (He.ga K (clsName c)))) (hM : Mk K (He.ga K (clsName c)) f) (bd : Binds K fd ps []) (he : EcK K ec et) (hfl : FlOk K fl := by exact FlOk.nil) (hmt : MtOk P w K mg base k mt := by exact MtOk.nil) : ∀ j, k + 2 ≤ j → GIg P w K mg base j y (.cl c sp) := fun j hj => ⟨hm, f, fd, ps, k + 1, hj, hM, def_ok F fsc hc hg len hb he hfl hmt, bd⟩
end
/-- the law itself: of a script of ints it hands back True and raises nothing -/
def spLaw : DSp := fun ds G q _ => ∃ ns : List Int, ds = [.rl (ns.map .int)] ∧ ns.length ≤ 63 ∧ (∀ b, G b = none) ∧ ∀ G', q (.bl true) G'
theorem rps_ints {K : Kt} {H : Hp} : ∀ ns : List Int, Rps K H (ns.map D.int) (ns.map V.int)
  | [] => .nil
  | n :: ns => .cons (.int n) (rps_ints ns)
theorem law_sp {K : Kt} {H : Hp} {a : Addr} {ns : List Int} (hl : ns.length ≤ 63) (hO : Only H) (hS : SqL K H a (ns.map V.int)) : liftSp K spLaw [.ref a] H (fun v _ => v = .bl true) (fun _ _ _ => False) := by
  have s0 : Sq0 K H a (ns.map V.int) := by
    rcases hS with (h | h) | h
    · rcases hO a with z | ⟨o, xs, z⟩
      · rw [z] at h; cases h
      · rw [z] at h; cases h
    · exact .inl h
    · exact .inr h
  exact ⟨[.rl (ns.map .int)], fun _ => none, fun d _ => d = .bl true, fun _ _ _ => False, .cons (.rl s0 (rps_ints ns)) .nil, fun a o e => (by cases e), ⟨ns, rfl, hl, fun _ => rfl, fun _ => rfl⟩,
    fun v d H' G' t gr r e => (by subst e; exact r.bl_inv), fun _ _ _ _ _ _ _ _ _ z => z⟩
end S

set_option Elab.async false
set_option linter.all false
set_option maxRecDepth 100000
set_option maxHeartbeats 4000000
namespace S
open PySem PySem.Spec L2
open PyProof.Rows hiding St
/-! ## heaps that grow -/
/-- all but these places stay -/
def Xt (bs : List Addr) (G G' : Hd) : Prop := ∀ a u, a ∉ bs → G a = some u → G' a = some u
abbrev Ext := Xt []
section
variable {bs cs : List Addr} {G G' G'' : Hd} {p a : Addr} {o u : GO}
theorem Xt.refl : Xt bs G G := fun _ _ _ h => h
theorem Xt.trans (h : Xt bs G G') (k : Xt bs G' G'') : Xt bs G G'' := fun a u n e => k a u n (h a u n e)
theorem Xt.weak (h : Xt bs G G') (s : ∀ a ∈ bs, a ∈ cs) : Xt cs G G' := fun a u n e => h a u (fun m => n (s a m)) e
theorem Xt.ext (h : Ext G G') : Xt cs G G' := h.weak (by simp)
theorem Xt.new (hp : G p = none) : Ext G (st G p o) := fun a u _ e => by
  rw [st_ne fun q => by rw [q, hp] at e; cases e]; exact e
theorem Xt.news (hp : G p = none) : Xt cs G (st G p o) := (Xt.new hp).ext
theorem Xt.put (h : a ∈ bs) : Xt bs G (st G a o) := fun x u n e => by
  rw [st_ne fun q => n (by rw [q]; exact h)]; exact e
/-- a place that was not there: what stands there now is nobody's -/
theorem Xt.put' (h : Xt bs G G') (hp : G p = none) : Xt bs G (st G' p o) := fun x u n e => by
  rw [st_ne fun q => by rw [q, hp] at e; cases e]; exact h x u n e
theorem Xt.get (h : Xt bs G G') (n : a ∉ bs) (e : G a = some u) : G' a = some u := h a u n e
theorem Xt.at (h : Ext G G') (e : G a = some u) : G' a = some u := h a u (by simp) e
theorem Xt.free (h : Xt bs G G') (n : p ∉ bs) (e : G' p = none) : G p = none := by
  cases q : G p with
  | none => rfl
  | some u => rw [h p u n q] at e; cases e
theorem Xt.none (h : Ext G G') (e : G' p = none) : G p = none := h.free (by simp) e
theorem fresh_ne (h : G p = Option.none) (e : G a = some u) : a ≠ p := fun q => by rw [q, h] at e; cases e
theorem st_old (h : G p = Option.none) (e : G a = some u) : st G p o a = some u := by rw [st_ne (fresh_ne h e)]; exact e
theorem st_new_none (h : st G p o a = Option.none) : G a = Option.none := by
  unfold st at h
  split at h
  · cases h
  · exact h
theorem st_new_ne (h : st G p o a = Option.none) : a ≠ p := fun e => by rw [e, st_same] at h; cases h
theorem Xt.seq {xs : List D} (h : Xt bs G G') (n : a ∉ bs) (e : seqG G a xs) : seqG G' a xs := e.elim (fun e => .inl (h a _ n e)) fun e => .inr (h a _ n e)
theorem tyS_ext {x : D} (h : Ext G G') (k : Kn G x) : tyS G' x = tyS G x := by
  cases x with
  | ref a =>
    unfold Kn at k
    simp only [tyS] at k ⊢
    cases e : G a with
    | none => simp [e] at k
    | some u => rw [h.at e]
  | _ => rfl
end
/-- what is hidden of a heap -/
def hide (bs : List Addr) (G : Hd) : Hd := fun a => if a ∈ bs then none else G a
theorem hide_ext {bs : List Addr} {G G' : Hd} (h : Xt bs G G') : Ext (hide bs G) (hide bs G') := fun a u _ e => by
  unfold hide at e ⊢
  split at e
  · cases e
  · rename_i n; rw [if_neg n]; exact h a u n e
theorem hide_sub {bs : List Addr} {G : Hd} : Ext (hide bs G) G := fun a u _ e => by
  unfold hide at e
  split at e
  · cases e
  · exact e
theorem hide_st {bs : List Addr} {G : Hd} {p : Addr} {o : GO} (h : p ∉ bs) : hide bs (st G p o) = st (hide bs G) p o := by
  funext a
  unfold hide st
  by_cases e : a = p
  · subst e; simp [h]
  · simp [e]
theorem hide_st_in {bs : List Addr} {G : Hd} {p : Addr} {o : GO} (h : p ∈ bs) : hide bs (st G p o) = hide bs G := by
  funext a
  unfold hide st
  by_cases e : a = p
  · subst e; simp [h]
  · simp [e]
mutual
theorem Dd.ext {G G' : Hd} (h : Ext G G') : ∀ {x d : D}, Dd G x d → Dd G' x d
  | _, _, .non => .non
  | _, _, .bl b => .bl b
  | _, _, .int i => .int i
  | _, _, .str x => .str x
  | _, _, .tup r => .tup (Dds.ext h r)
  | _, _, .lst e r => .lst (h.at e) (Dds.ext h r)
  | _, _, .rol e r => .rol (h.at e) (Dds.ext h r)
theorem Dds.ext {G G' : Hd} (h : Ext G G') : ∀ {xs ds : List D}, Dds G xs ds → Dds G' xs ds
  | _, _, .nil => .nil
  | _, _, .cons r rs => .cons (Dd.ext h r) (Dds.ext h rs)
end
/-- told data, none of it at these places -/
abbrev Dv (bs : List Addr) (G : Hd) (x d : D) : Prop := Dd (hide bs G) x d
abbrev Dvs (bs : List Addr) (G : Hd) (x d : List D) : Prop := Dds (hide bs G) x d
theorem Dv.xt {bs : List Addr} {G G' : Hd} {x d : D} (h : Xt bs G G') (k : Dv bs G x d) : Dv bs G' x d := Dd.ext (hide_ext h) k
theorem Dvs.xt {bs : List Addr} {G G' : Hd} {x d : List D} (h : Xt bs G G') (k : Dvs bs G x d) : Dvs bs G' x d := Dds.ext (hide_ext h) k
theorem Dv.dd {bs : List Addr} {G : Hd} {x d : D} (k : Dv bs G x d) : Dd G x d := Dd.ext hide_sub k
theorem Dvs.dd {bs : List Addr} {G : Hd} {x d : List D} (k : Dvs bs G x d) : Dds G x d := Dds.ext hide_sub k
section
variable {G : Hd}
theorem Dds.length : ∀ {xs ds : List D}, Dds G xs ds → xs.length = ds.length
  | _, _, .nil => rfl
  | _, _, .cons _ r => by simp [Dds.length r]
theorem Dds.get : ∀ {xs ds : List D} {i : Nat} {x : D}, Dds G xs ds → xs[i]? = some x → ∃ d, ds[i]? = some d ∧ Dd G x d
  | _, _, i, _, .nil, h => by simp at h
  | _, _, 0, _, .cons r _, h => by simp at h; exact ⟨_, rfl, h ▸ r⟩
  | _, _, i + 1, _, .cons _ r, h => by simp at h; simpa using Dds.get r h
theorem Dds.get' : ∀ {xs ds : List D} {i : Nat} {d : D}, Dds G xs ds → ds[i]? = some d → ∃ x, xs[i]? = some x ∧ Dd G x d
  | _, _, i, _, .nil, h => by simp at h
  | _, _, 0, _, .cons r _, h => by simp at h; exact ⟨_, rfl, h ▸ r⟩
  | _, _, i + 1, _, .cons _ r, h => by simp at h; simpa using Dds.get' r h
theorem Dds.of : ∀ {xs ds : List D}, xs.length = ds.length → (∀ (i : Nat) (x d : D), xs[i]? = some x → ds[i]? = some d → Dd G x d) → Dds G xs ds
  | [], [], _, _ => .nil
  | [], _ :: _, h, _ => by cases h
  | _ :: _, [], h, _ => by cases h
  | x :: xs, d :: ds, h, k => .cons (k 0 x d rfl rfl) (Dds.of (by simpa using h) fun i x d e f => k (i + 1) x d (by simpa using e) (by simpa using f))
theorem Dds.append : ∀ {xs ds ys es : List D}, Dds G xs ds → Dds G ys es → Dds G (xs ++ ys) (ds ++ es)
  | _, _, _, _, .nil, h => h
  | _, _, _, _, .cons r rs, h => .cons r (Dds.append rs h)
theorem Dds.take : ∀ {xs ds : List D} (n : Nat), Dds G xs ds → Dds G (xs.take n) (ds.take n)
  | _, _, 0, _ => by simp; exact .nil
  | _, _, _ + 1, .nil => by simp; exact .nil
  | _, _, n + 1, .cons r rs => by simp; exact .cons r (Dds.take n rs)
theorem Dds.drop : ∀ {xs ds : List D} (n : Nat), Dds G xs ds → Dds G (xs.drop n) (ds.drop n)
  | _, _, 0, h => h
  | _, _, _ + 1, .nil => by simp; exact .nil
  | _, _, n + 1, .cons r rs => by simpa using Dds.drop n rs
theorem Dds.set {x d : D} (q : Dd G x d) : ∀ {xs ds : List D} (n : Nat), Dds G xs ds → Dds G (xs.set n x) (ds.set n d)
  | _, _, _, .nil => .nil
  | _, _, 0, .cons _ rs => .cons q rs
  | _, _, n + 1, .cons r rs => .cons r (Dds.set q n rs)
theorem Dds.map_int : ∀ ns : List Int, Dds G (ns.map D.int) (ns.map D.int)
  | [] => .nil
  | n :: ns => .cons (.int n) (Dds.map_int ns)
end
/-- told data's type by the told data alone -/
def tyV : D → String
  | .non => "NoneType"
  | .bl _ => "bool"
  | .int _ => "int"
  | .str _ => "str"
  | .tup _ => "tuple"
  | .lst _ => "list"
  | _ => ""
theorem Dd.ty {G : Hd} {x d : D} (h : Dd G x d) : tyS G x = some (tyV d) := by
  cases h with
  | lst e _ => unfold tyS; simp [e, tyV]
  | rol e _ => unfold tyS; simp [e, tyV]
  | _ => rfl
theorem Dd.kn {G : Hd} {x d : D} (h : Dd G x d) : Kn G x := by unfold Kn; rw [h.ty]; rfl
def isV (d : D) (n : String) : Bool := isT (tyV d) n
theorem Dd.is {G : Hd} {x d : D} (h : Dd G x d) (n : String) : isD G x n = isV d n := by unfold isD isV; rw [h.ty]; rfl
theorem Dd.tup_inv {G : Hd} {x : D} {ds : List D} (h : Dd G x (.tup ds)) : ∃ xs, x = .tup xs ∧ Dds G xs ds := by
  cases h with
  | tup r => exact ⟨_, rfl, r⟩
theorem Dd.lst_inv {G : Hd} {x : D} {ds : List D} (h : Dd G x (.lst ds)) : ∃ a xs, x = .ref a ∧ seqG G a xs ∧ Dds G xs ds := by
  cases h with
  | lst e r => exact ⟨_, _, rfl, .inl e, r⟩
  | rol e r => exact ⟨_, _, rfl, .inr e, r⟩
theorem Dd.int_inv {G : Hd} {x : D} {i : Int} (h : Dd G x (.int i)) : x = .int i := by cases h; rfl
theorem Dd.bl_inv {G : Hd} {x : D} {i : Bool} (h : Dd G x (.bl i)) : x = .bl i := by cases h; rfl
theorem Dd.str_inv {G : Hd} {x : D} {i : Str} (h : Dd G x (.str i)) : x = .str i := by cases h; rfl
theorem Dd.non_inv {G : Hd} {x : D} (h : Dd G x .non) : x = .non := by cases h; rfl
/-! ## loops and comprehensions, by what they leave -/
def lcR (g : TGd) (tt : TTd) (te : TEd) (vs : List Nat) (σ : Sd) (Q : Qd) (xs : List D) (stay : Hd → Prop) (G1 : Hd) : Prop := ∀ p, G1 p = none → ∃ Iv : Nat → Hd → Prop, Iv 0 (st G1 p (.lst [])) ∧ (∀ i G, Iv i G → stay G) ∧
  (∀ i x G, xs[i]? = some x → Iv i G → g W0 x (wipeD σ vs) G fun σ2 G2 => tt W0 σ2 G2 fun k G3 => Br k (te W0 σ2 G3 fun y G4 => ∃ acc, G4 p = some (.lst acc) ∧ acc.length < sizeLine ∧ Iv (i + 1) (st G4 p (.lst (acc ++ [y])))) (Iv (i + 1) G3)) ∧
  ∀ G, Iv xs.length G → Q (.ref p) G
theorem dLc_eq {it : TId} {g : TGd} {tt : TTd} {te : TEd} {vs : List Nat} {w : Wx} {σ : Sd} {G : Hd} {Q : Qd} : dLc it g tt te vs w σ G Q = it w σ G (lcR g tt te vs σ Q) := rfl
def forR (g : TGd) (body : TSd) (w : Wx) (E : En) (σ : Sd) (xs : List D) (stay : Hd → Prop) (G1 : Hd) : Prop := ∃ Iv : Nat → Sd → Hd → Prop, Iv 0 σ G1 ∧ (∀ i σ G, Iv i σ G → stay G) ∧
  (∀ i x σ G, xs[i]? = some x → Iv i σ G → g w x σ G fun σ1 G2 => body w { nx := Iv (i + 1), rt := E.rt, bk := E.nx, ct := Iv (i + 1) } σ1 G2) ∧ ∀ σ G, Iv xs.length σ G → E.nx σ G
theorem dFor_eq {it : TId} {g : TGd} {b : TSd} {w : Wx} {E : En} {σ : Sd} {G : Hd} : dFor it g b w E σ G = it w σ G (forR g b w E σ) := rfl
theorem line_lt {n : Nat} (h : n ≤ 1000000) : n < sizeLine := by unfold sizeLine; omega
theorem line_le {n : Nat} (h : n ≤ 1000000) : n ≤ sizeLine := Nat.le_of_lt (line_lt h)
/-- a comprehension without a test: what holds of each item, told at its birth (without the list that grows), holds at the end -/
theorem lcR_gen {te : TEd} {vs : List Nat} {σ : Sd} {Q : Qd} {xs : List D} {stay : Hd → Prop} {G0 : Hd} {g : TGd} (bs : List Addr) (J : Hd → Prop) (R : Nat → D → Hd → Prop)
    (hJ : ∀ G G', J G → (∀ b ∈ bs, G' b = G b) → J G') (hR : ∀ i y G G', R i y G → Xt bs G G' → R i y G') (hb : ∀ b ∈ bs, G0 b ≠ none) (j0 : J G0) (hl : xs.length ≤ 1000000)
    (hs : ∀ G', Xt bs G0 G' → stay G')
    (el : ∀ i x, xs[i]? = some x → ∀ p G' Q', G0 p = none → G' p ≠ none → Xt bs G0 G' → J G' → (∀ y G'', Xt bs G' G'' → J G'' → R i y (hide [p] G'') → Q' y G'') → g W0 x (wipeD σ vs) G' fun σ2 G2 => te W0 σ2 G2 Q')
    (q : ∀ p G' ys, G0 p = none → Xt bs G0 G' → J G' → G' p = some (.lst ys) → ys.length = xs.length → (∀ i y, ys[i]? = some y → R i y (hide [p] G')) → Q (.ref p) G') : lcR g dYes te vs σ Q xs stay G0 := by
  intro p hp
  have np : p ∉ bs := fun m => hb p m hp
  have hh : ∀ (G : Hd) (o : GO), hide [p] (st G p o) = hide [p] G := fun G o => hide_st_in (by simp)
  have hx : ∀ {G G' : Hd}, Xt bs G G' → Xt bs (hide [p] G) (hide [p] G') := fun {G G'} h a u n e => by
    unfold hide at e ⊢
    split at e
    · cases e
    · rename_i m; rw [if_neg m]; exact h a u n e
  refine ⟨fun i G => i ≤ xs.length ∧ Xt bs G0 G ∧ J G ∧ ∃ ys, G p = some (.lst ys) ∧ ys.length = i ∧ ∀ k y, ys[k]? = some y → R k y (hide [p] G), ⟨Nat.zero_le _, Xt.news hp, hJ _ _ j0 fun b m => st_ne fun e => np (e ▸ m), [], st_same, rfl, fun k y h => by simp at h⟩,
    fun i G h => hs G h.2.1, ?_, fun G ⟨_, x, j, ys, e, l, r⟩ => q p G ys hp x j e l r⟩
  rintro i x G ex ⟨hi, xt, j, ys, e, l, r⟩
  have hi2 : i < xs.length := (List.getElem?_eq_some_iff.mp ex).1
  unfold dYes
  simp only [Br, true_implies, and_true, Bool.true_eq_false, false_implies]
  refine el i x ex p G _ hp (by rw [e]; simp) xt j fun y G4 x4 j4 r4 => ?_
  have e4 := x4.get np e
  refine ⟨ys, e4, line_lt (by omega), by omega, (xt.trans x4).put' hp, hJ _ _ j4 fun b m => st_ne fun z => np (z ▸ m), _, st_same, by simp [l], fun k z hz => ?_⟩
  rw [hh]
  by_cases hk : k < ys.length
  · rw [List.getElem?_append_left hk] at hz
    exact hR _ _ _ _ (r k z hz) (hx x4)
  · rw [List.getElem?_append_right (by omega)] at hz
    have e0 : k = i := by
      have := (List.getElem?_eq_some_iff.mp hz).1
      simp at this; omega
    subst e0
    simp [l] at hz
    subst hz
    exact r4
/-- .. of a value each, whatever the heap -/
theorem lcR_val {te : TEd} {vs : List Nat} {σ : Sd} {Q : Qd} {xs : List D} {stay : Hd → Prop} {G0 : Hd} {g : TGd} (f : D → D) (hl : xs.length ≤ 1000000) (hs : ∀ G', Ext G0 G' → stay G')
    (el : ∀ x ∈ xs, ∀ G' Q', Ext G0 G' → (∀ G'', Ext G' G'' → Q' (f x) G'') → g W0 x (wipeD σ vs) G' fun σ2 G2 => te W0 σ2 G2 Q')
    (q : ∀ p G', G0 p = none → Ext G0 G' → G' p = some (.lst (xs.map f)) → Q (.ref p) G') : lcR g dYes te vs σ Q xs stay G0 := by
  refine lcR_gen [] (fun _ => True) (fun i y _ => ∃ x, xs[i]? = some x ∧ y = f x) (fun _ _ h _ => h) (fun _ _ _ _ h _ => h) (fun _ h => by simp at h) trivial hl hs ?_ ?_
  · intro i x e p G' Q' _ _ xt _ k
    exact el x (List.mem_of_getElem? e) G' Q' xt fun G'' x2 => k _ _ x2 trivial ⟨x, e, rfl⟩
  · intro p G' ys hp xt _ e l r
    refine q p G' hp xt ?_
    rw [e]
    congr 2
    refine List.ext_getElem? fun i => ?_
    rw [List.getElem?_map]
    by_cases hi : i < ys.length
    · obtain ⟨x, h1, h2⟩ := r i _ (List.getElem?_eq_getElem hi)
      rw [h1, List.getElem?_eq_getElem hi, h2]; rfl
    · rw [List.getElem?_eq_none (by omega), List.getElem?_eq_none (by omega)]; rfl
/-- .. drawn from a bag, values that keep a bound -/
theorem lcR_drawn {te : TEd} {vs : List Nat} {σ : Sd} {Q : Qd} {xs : List D} {stay : Hd → Prop} {G0 : Hd} {g : TGd} (bs : List Addr) (J : Hd → Prop) (R : Nat → D → Prop)
    (hJ : ∀ G G', J G → (∀ b ∈ bs, G' b = G b) → J G') (hb : ∀ b ∈ bs, G0 b ≠ none) (j0 : J G0) (hl : xs.length ≤ 1000000) (hs : ∀ G', Xt bs G0 G' → stay G')
    (el : ∀ i x, xs[i]? = some x → ∀ G' Q', Xt bs G0 G' → J G' → (∀ y G'', Xt bs G' G'' → J G'' → R i y → Q' y G'') → g W0 x (wipeD σ vs) G' fun σ2 G2 => te W0 σ2 G2 Q')
    (q : ∀ p G' ys, G0 p = none → Xt bs G0 G' → J G' → G' p = some (.lst ys) → ys.length = xs.length → (∀ i y, ys[i]? = some y → R i y) → Q (.ref p) G') : lcR g dYes te vs σ Q xs stay G0 :=
  lcR_gen bs J (fun i y _ => R i y) hJ (fun _ _ _ _ h _ => h) hb j0 hl hs (fun i x e p G' Q' _ _ xt j k => el i x e G' Q' xt j fun y G'' x2 j2 r => k y G'' x2 j2 r) fun p G' ys hp xt j e l r => q p G' ys hp xt j e l r
/-! ## items, by value -/
theorem seqG_lst {G : Hd} {a : Addr} {l xs : List D} (h : G a = some (.lst l)) : seqG G a xs ↔ xs = l := by
  unfold seqG; rw [h]; simp [eq_comm]
theorem ixN_of {n : Nat} {i : Int} (h0 : 0 ≤ i) (h : i < n) : ixN n i = some i.toNat := by
  unfold ixN; grind
theorem atI_of {α : Type} {xs : List α} {i : Int} (h0 : 0 ≤ i) (h : i < xs.length) : atI xs i = xs[i.toNat]? := by
  unfold atI; rw [ixN_of h0 h]; rfl
theorem br_t {A B : Prop} : Br true A B = A := propext ⟨fun h => h.1 rfl, fun h => ⟨fun _ => h, fun z => by cases z⟩⟩
theorem br_f {A B : Prop} : Br false A B = B := propext ⟨fun h => h.2 rfl, fun h => ⟨(fun z => by cases z), fun _ => h⟩⟩
theorem rep_z {α : Type} {x : α} : List.replicate 0 x = [] := rfl
theorem rep_s {α : Type} {n : Nat} {x : α} : List.replicate (n + 1) x = x :: List.replicate n x := rfl
theorem seq_st {G : Hd} {a : Addr} {l xs : List D} : seqG (st G a (.lst l)) a xs = (xs = l) := propext (seqG_lst st_same)
section
variable {α : Type} {a b c d : α} {r : List α}
theorem atI_0 : atI (a :: r) 0 = some a := by
  rw [atI_of (by decide) (by simp only [List.length_cons]; omega)]; rfl
theorem atI_1 : atI (a :: b :: r) 1 = some b := by
  rw [atI_of (by decide) (by simp only [List.length_cons]; omega)]; rfl
theorem atI_2 : atI (a :: b :: c :: r) 2 = some c := by
  rw [atI_of (by decide) (by simp only [List.length_cons]; omega)]; rfl
theorem atI_3 : atI (a :: b :: c :: d :: r) 3 = some d := by
  rw [atI_of (by decide) (by simp only [List.length_cons]; omega)]; rfl
end
section
variable {n : Nat}
theorem ixN_0 : ixN (n + 1) 0 = some 0 := by rw [ixN_of (by decide) (by omega)]; rfl
theorem ixN_1 : ixN (n + 1 + 1) 1 = some 1 := by rw [ixN_of (by decide) (by omega)]; rfl
theorem ixN_2 : ixN (n + 1 + 1 + 1) 2 = some 2 := by rw [ixN_of (by decide) (by omega)]; rfl
theorem ixN_3 : ixN (n + 1 + 1 + 1 + 1) 3 = some 3 := by rw [ixN_of (by decide) (by omega)]; rfl
end
theorem tc_int : tyNames.contains "int" = true := by decide +kernel
theorem tc_bool : tyNames.contains "bool" = true := by decide +kernel
theorem tc_str : tyNames.contains "str" = true := by decide +kernel
theorem tc_tup : tyNames.contains "tuple" = true := by decide +kernel
theorem tc_lst : tyNames.contains "list" = true := by decide +kernel
theorem tc_dic : tyNames.contains "dict" = true := by decide +kernel
theorem tc_non : tyNames.contains "NoneType" = true := by decide +kernel
theorem atI_ints {ns : List Int} {i : Int} (h0 : 0 ≤ i) (h : i < ns.length) : ∃ z, atI (ns.map D.int) i = some (.int z) := by
  rw [atI_of h0 (by simpa using h), List.getElem?_map]
  exact ⟨_, by rw [List.getElem?_eq_getElem (by omega)]; rfl⟩
theorem atI_mem {α : Type} {xs : List α} {i : Int} (h0 : 0 ≤ i) (h : i < xs.length) : ∃ z, atI xs i = some z ∧ z ∈ xs ∧ xs[i.toNat]? = some z := by
  rw [atI_of h0 h]
  have : i.toNat < xs.length := by omega
  exact ⟨xs[i.toNat], List.getElem?_eq_getElem this, List.getElem_mem this, List.getElem?_eq_getElem this⟩
theorem log_le {i : Int} (h0 : 0 ≤ i) (h : i < 2 ^ 200) : i.natAbs.log2 < 200 := by
  by_cases z : i.natAbs = 0
  · rw [z]; decide
  · exact (Nat.log2_lt z).mpr (by omega)
theorem mulW {i j : Int} (h0 : 0 ≤ i) (h : i < 2 ^ 200) (k0 : 0 ≤ j) (k : j < 2 ^ 200) : CMulW i j := by
  have := log_le h0 h
  have := log_le k0 k
  unfold CMulW; omega
theorem divW {i j : Int} (k0 : 0 < j) (k : j < 2 ^ 200) : CDivW i j := ⟨k0, by have := log_le (Int.le_of_lt k0) k; omega⟩
theorem rngL_some {lo c : Int} {n i : Nat} {x : D} (h : (rngL lo c n)[i]? = some x) : i < n ∧ x = .int (lo + i * c) := by
  have hi : i < n := by
    have := (List.getElem?_eq_some_iff.mp h).1
    rwa [rngL_length] at this
  rw [rngL_get hi] at h
  cases h
  exact ⟨hi, rfl⟩
theorem rngL_some1 {lo : Int} {n i : Nat} {x : D} (h : (rngL lo 1 n)[i]? = some x) : i < n ∧ x = .int (lo + i) := by
  obtain ⟨h1, h2⟩ := rngL_some h
  exact ⟨h1, by rw [h2, Int.mul_one]⟩
theorem rngL_some0 {n i : Nat} {x : D} (h : (rngL 0 1 n)[i]? = some x) : i < n ∧ x = .int i := by
  obtain ⟨h1, h2⟩ := rngL_some1 h
  exact ⟨h1, by rw [h2, Int.zero_add]⟩
/-- a law's bag -/
def Bag (G : Hd) (b : Addr) : Prop := ∃ c m, G b = some (.lst [.int c, .int m]) ∧ 0 ≤ c ∧ 0 ≤ m ∧ m < 2147483647
theorem Bag.some {G : Hd} {b : Addr} (h : Bag G b) : G b ≠ none := by obtain ⟨c, m, e, _⟩ := h; rw [e]; simp
theorem Bag.eq {G G' : Hd} {b : Addr} (h : Bag G b) (e : G' b = G b) : Bag G' b := by obtain ⟨c, m, e1, r⟩ := h; exact ⟨c, m, by rw [e, e1], r⟩
theorem Bag.xt {G G' : Hd} {b : Addr} {bs : List Addr} (h : Bag G b) (x : Xt bs G G') (n : b ∉ bs) : Bag G' b := by obtain ⟨c, m, e1, r⟩ := h; exact ⟨c, m, x b _ n e1, r⟩
theorem Bag.ext {G G' : Hd} {b : Addr} (h : Bag G b) (x : Ext G G') : Bag G' b := h.xt x (by simp)
/-! ## good told data: how deep, how wide -/
def gd (m : Nat) : Nat → D → Prop
  | _, .non => True
  | _, .bl _ => True
  | _, .int _ => True
  | _, .str x => PySem.PyData.strOk x = true ∧ x.length ≤ m
  | n + 1, .tup xs => xs.length ≤ m ∧ ∀ x ∈ xs, gd m n x
  | n + 1, .lst xs => xs.length ≤ m ∧ ∀ x ∈ xs, gd m n x
  | _, _ => False
theorem gd_tup {m n : Nat} {xs : List D} : gd m (n + 1) (.tup xs) ↔ xs.length ≤ m ∧ ∀ x ∈ xs, gd m n x := by simp only [gd]
theorem gd_lst {m n : Nat} {xs : List D} : gd m (n + 1) (.lst xs) ↔ xs.length ≤ m ∧ ∀ x ∈ xs, gd m n x := by simp only [gd]
theorem gd.weak : ∀ {n m n' m' : Nat} {d : D}, gd m n d → n ≤ n' → m ≤ m' → gd m' n' d
  | n, m, n', m', d, h, hn, hm => by
    cases d with
    | tup xs =>
      cases n with
      | zero => simp only [gd] at h
      | succ n =>
        obtain ⟨k, rfl⟩ : ∃ k, n' = k + 1 := ⟨n' - 1, by omega⟩
        rw [gd_tup] at h ⊢
        exact ⟨by omega, fun x hx => gd.weak (h.2 x hx) (by omega) hm⟩
    | lst xs =>
      cases n with
      | zero => simp only [gd] at h
      | succ n =>
        obtain ⟨k, rfl⟩ : ∃ k, n' = k + 1 := ⟨n' - 1, by omega⟩
        rw [gd_lst] at h ⊢
        exact ⟨by omega, fun x hx => gd.weak (h.2 x hx) (by omega) hm⟩
    | str x => cases n <;> cases n' <;> (simp only [gd] at h ⊢; exact ⟨h.1, by omega⟩)
    | non => cases n' <;> simp only [gd]
    | bl => cases n' <;> simp only [gd]
    | int => cases n' <;> simp only [gd]
    | _ => cases n <;> simp only [gd] at h
theorem okDs_of : ∀ {xs : List D}, (∀ x ∈ xs, okD x = true) → okDs xs = true
  | [], _ => rfl
  | x :: xs, h => by simp only [okDs, Bool.and_eq_true]; exact ⟨h x List.mem_cons_self, okDs_of fun y hy => h y (List.mem_cons_of_mem _ hy)⟩
theorem deps_of {n : Nat} : ∀ {xs : List D}, (∀ x ∈ xs, dep x ≤ n) → deps xs ≤ n
  | [], _ => Nat.zero_le _
  | x :: xs, h => by simp only [deps]; exact Nat.max_le.mpr ⟨h x List.mem_cons_self, deps_of fun y hy => h y (List.mem_cons_of_mem _ hy)⟩
theorem gd.ok {m : Nat} : ∀ {n : Nat} {d : D}, gd m n d → okD d = true ∧ dep d ≤ n
  | n, d, h => by
    cases d with
    | tup xs =>
      cases n with
      | zero => simp only [gd] at h
      | succ n =>
        rw [gd_tup] at h
        exact ⟨okDs_of fun x hx => (gd.ok (h.2 x hx)).1, Nat.succ_le_succ (deps_of fun x hx => (gd.ok (h.2 x hx)).2)⟩
    | lst xs =>
      cases n with
      | zero => simp only [gd] at h
      | succ n =>
        rw [gd_lst] at h
        exact ⟨okDs_of fun x hx => (gd.ok (h.2 x hx)).1, Nat.succ_le_succ (deps_of fun x hx => (gd.ok (h.2 x hx)).2)⟩
    | str x => cases n <;> (simp only [gd] at h; exact ⟨h.1, Nat.zero_le _⟩)
    | non => exact ⟨rfl, Nat.zero_le _⟩
    | bl => exact ⟨rfl, Nat.zero_le _⟩
    | int => exact ⟨rfl, Nat.zero_le _⟩
    | _ => cases n <;> simp only [gd] at h
theorem gd.sh {m n : Nat} {d : D} (h : gd m n d) (hn : n ≤ 64) : sh d := ⟨h.ok.1, Nat.le_trans h.ok.2 hn⟩
mutual
theorem eqB_refl : ∀ d : D, okD d = true → eqB d d = true
  | .non, _ => rfl
  | .bl b, _ => by simp [eqB]
  | .int i, _ => by simp [eqB]
  | .str x, _ => by simp [eqB]
  | .tup xs, h => eqBs_refl xs h
  | .lst xs, h => eqBs_refl xs h
theorem eqBs_refl : ∀ ds : List D, okDs ds = true → eqBs ds ds = true
  | [], _ => rfl
  | x :: xs, h => by
    simp only [okDs, Bool.and_eq_true] at h
    simp only [eqBs, Bool.and_eq_true]
    exact ⟨eqB_refl x h.1, eqBs_refl xs h.2⟩
end
end S

set_option Elab.async false
set_option linter.all false
set_option maxRecDepth 100000
set_option maxHeartbeats 4000000
namespace S
open PySem PySem.Spec L2
open PyProof.Rows hiding St
local macro_rules | `(tactic| walk_at "e") => `(tactic| simp only [dSeq, dNext, dRet, dRetN, dIf, dAsg, dAug, dDrop, dPar, dBreak, dCont, dgName, dgSub, dgTup, dgCons, dgNil, dFor_eq, dLc_eq, dVar, dC, dOp, dUn, dBi, dCall, dCons, dNil, dTup, dLst, dSl, dPart, dNoPart, dAndV, dOrV, dNotV, dB, dAnd, dOr, dNot, dIfE, dChain, dItV, dRng, dWalk, dBm, rng1, rng2,
  BI.r, addD, subD, mulD, modD, divD, powD, intD, ltD, leD, gtD, geD, negD, ixD, slD, setD, isND, isNon, lenD, isiD, listD, tupleD, allD, anyD, sumD, maxD, minD, absD, intBD, appendD, extendD, startD, wipeD,
  List.map_cons, List.map_nil, rep_z, rep_s, List.length_cons, List.length_nil, List.cons_append, List.nil_append, List.append_nil, List.getElem?_cons_zero, List.getElem?_cons_succ, List.set_cons_zero, List.set_cons_succ, Option.some.injEq, exists_eq_left', exists_eq_left, D.bl.injEq, D.int.injEq, D.tup.injEq, D.ref.injEq, true_and, and_true, Nat.reduceAdd, Nat.reduceSub, Nat.add_sub_cancel_left, exists_const, br_t, br_f, ite_true, ite_false, Bool.true_eq_false, false_implies])
local macro_rules | `(tactic| walk_at "g") => `(tactic| simp only [st_same, st_st, GO.lst.injEq, Option.some.injEq, exists_eq_left', exists_eq_left, atI_0, atI_1, atI_2, atI_3, ixN_0, ixN_1, ixN_2, ixN_3, List.set_cons_zero, List.set_cons_succ, List.length_cons, List.length_nil, List.length_append, List.cons_append, List.nil_append, true_and, and_true, seq_st, tc_int, tc_bool, tc_str, tc_tup, tc_lst, tc_non, tc_dic])
/-! ## told data's looks -/
theorem isd_int {G : Hd} {x d : D} (h : Dd G x d) : isD G x "int" = isV d "int" := h.is _
def wholeV : D → Bool
  | .int _ => true
  | _ => false
theorem whole_eq {G : Hd} {x d : D} (h : Dd G x d) : (isD G x "int" = true → isD G x "bool" = !wholeV d) ∧ (isD G x "int" = false → wholeV d = false) := by
  rw [h.is, h.is]
  cases h <;> simp [isV, tyV, isT, wholeV]
def sp_is_whole : DSp := fun ds G q _ => ∃ x d, ds = [x] ∧ Dd G x d ∧ q (.bl (wholeV d)) G
def N_is_whole : List Str := ["thing"]
def P_is_whole : List Str := ["thing"]
def t_is_whole : TSd := dRet (dAndV (dBi (BI.r .isi) (dCons (dVar 0) (dCons (dC (.ty "int")) (dNil)))) (dNotV (dBi (BI.r .isi) (dCons (dVar 0) (dCons (dC (.ty "bool")) (dNil))))))
def gl_is_whole : List (Str × GI) := [("isinstance", .bi .isi), ("bool", .ty "bool"), ("int", .bi .int)]
theorem len_is_whole : ∀ ds G q x, sp_is_whole ds G q x → ds.length = P_is_whole.length := by
  rintro _ _ _ _ ⟨x, d, rfl, _⟩; rfl
theorem b_is_whole : Body t_is_whole N_is_whole sp_is_whole := by
  rintro ds G q x ⟨x, d, rfl, h, hq⟩
  unfold t_is_whole N_is_whole
  walk_at "e"
  walk_at "g"
  refine ⟨h.kn, fun e => ⟨h.kn, ?_⟩, fun e => ?_⟩
  · rw [(whole_eq h).1 e, Bool.not_not]; exact hq
  · rw [(whole_eq h).2 e] at hq; exact hq
def fromV (l m : Int) : D → Bool
  | .int i => decide (l ≤ i) && decide (i ≤ m)
  | _ => false
theorem from_whole {l m : Int} {d : D} (h : wholeV d = false) : fromV l m d = false := by cases d <;> first | rfl | cases h
theorem whole_int {d : D} (h : wholeV d = true) : ∃ i, d = .int i := by cases d <;> first | exact ⟨_, rfl⟩ | cases h
def sp_is_from : DSp := fun ds G q _ => ∃ x d l m, ds = [x, .int l, .int m] ∧ Dd G x d ∧ q (.bl (fromV l m d)) G
def N_is_from : List Str := ["thing", "least", "most"]
def P_is_from : List Str := ["thing", "least", "most"]
def t_is_from : TSd := dRet (dAndV (dCall sp_is_whole (dCons (dVar 0) (dNil))) (dChain leD leD (dVar 1) (dVar 0) (dVar 2)))
def gl_is_from : List (Str × GI) := [("is_whole", .fn sp_is_whole)]
theorem len_is_from : ∀ ds G q x, sp_is_from ds G q x → ds.length = P_is_from.length := by
  rintro _ _ _ _ ⟨x, d, l, m, rfl, _⟩; rfl
theorem b_is_from : Body t_is_from N_is_from sp_is_from := by
  rintro ds G q x ⟨x, d, l, m, rfl, h, hq⟩
  unfold t_is_from N_is_from
  walk_at "e"
  refine ⟨x, d, rfl, h, _, rfl, fun e => ?_, fun e => ?_⟩
  · obtain ⟨i, rfl⟩ := whole_int e
    cases h.int_inv
    simp only [fromV] at hq
    walk_at "e"
    refine ⟨fun e => ?_, fun e => ?_⟩
    · rw [e] at hq; exact hq
    · rw [e] at hq; exact hq
  · rw [from_whole e] at hq; exact hq
theorem b__law_whole_eq : True := trivial
def rowV (l m t : Int) : D → Bool
  | .tup xs => decide (l ≤ xs.length) && decide ((xs.length : Int) ≤ m) && xs.all (fromV 0 t)
  | _ => false
def sp_is_row : DSp := fun ds G q _ => ∃ x d l m t, ds = [x, .int l, .int m, .int t] ∧ Dd G x d ∧ m ≤ 1000000 ∧ ∀ G', Ext G G' → q (.bl (rowV l m t d)) G'
def t_is_row_r1 : TSd := dRet (dBi (BI.r .all) (dCons (dLc (dItV (dVar 0)) (dgName 4) dYes (dCall sp_is_from (dCons (dVar 4) (dCons (dC (.int 0)) (dCons (dVar 3) (dNil))))) [4]) (dNil)))
def N_is_row : List Str := ["thing", "least", "most", "top", "one"]
def P_is_row : List Str := ["thing", "least", "most", "top"]
def t_is_row : TSd := dSeq (dIf (dOr (dNot (dB (dBi (BI.r .isi) (dCons (dVar 0) (dCons (dC (.ty "tuple")) (dNil)))))) (dNot (dB (dChain leD leD (dVar 1) (dBi (BI.r .len) (dCons (dVar 0) (dNil))) (dVar 2))))) (dRet (dC (.bl false))) (dNext)) t_is_row_r1
def gl_is_row : List (Str × GI) := [("len", .bi .len), ("isinstance", .bi .isi), ("tuple", .bi .tuple), ("all", .bi .all), ("is_from", .fn sp_is_from)]
theorem len_is_row : ∀ ds G q x, sp_is_row ds G q x → ds.length = P_is_row.length := by
  rintro _ _ _ _ ⟨x, d, l, m, t, rfl, _⟩; rfl
theorem isV_tup {d : D} : isV d "tuple" = (match d with
  | .tup _ => true
  | _ => false) := by cases d <;> rfl
theorem not_tup {d : D} (h : isV d "tuple" = false) (xs : List D) : d ≠ .tup xs := fun e => by rw [e] at h; cases h
theorem is_tup {d : D} (h : isV d "tuple" = true) : ∃ xs, d = .tup xs := by cases d <;> first | exact ⟨_, rfl⟩ | cases h
/-- a comprehension over told data's items, of a look that makes no heap of its own kind -/
theorem all_map {xs : List D} {f : D → Bool} : ((xs.map fun x => D.bl (f x)).map id) = (xs.map f).map D.bl := by simp
theorem lcR_look {te : TEd} {vs : List Nat} {σ : Sd} {Q : Qd} {xs ds : List D} {stay : Hd → Prop} {G0 : Hd} {g : TGd} (f : D → Bool) (hd : Dds G0 xs ds) (hl : xs.length ≤ 1000000) (hs : ∀ G', Ext G0 G' → stay G')
    (el : ∀ x d, Dd G0 x d → d ∈ ds → ∀ G' Q', Ext G0 G' → (∀ G'', Ext G' G'' → Q' (.bl (f d)) G'') → g W0 x (wipeD σ vs) G' fun σ2 G2 => te W0 σ2 G2 Q')
    (q : ∀ p G', Ext G0 G' → G' p = some (.lst ((ds.map f).map D.bl)) → Q (.ref p) G') : lcR g dYes te vs σ Q xs stay G0 := by
  refine lcR_gen [] (fun _ => True) (fun i y _ => ∃ d, ds[i]? = some d ∧ y = .bl (f d)) (fun _ _ h _ => h) (fun _ _ _ _ h _ => h) (fun _ h => by simp at h) trivial hl hs ?_ ?_
  · intro i x e p G' Q' _ _ xt _ k
    obtain ⟨d, e2, r⟩ := hd.get e
    exact el x d r (List.mem_of_getElem? e2) G' Q' xt fun G'' x2 => k _ _ x2 trivial ⟨d, e2, rfl⟩
  · intro p G' ys hp xt _ e l r
    refine q p G' xt ?_
    rw [e]
    congr 2
    have hl2 := hd.length
    refine List.ext_getElem? fun i => ?_
    rw [List.getElem?_map, List.getElem?_map]
    by_cases hi : i < ys.length
    · obtain ⟨d, h1, h2⟩ := r i _ (List.getElem?_eq_getElem hi)
      rw [h1, List.getElem?_eq_getElem hi, h2]; rfl
    · rw [List.getElem?_eq_none (by omega), List.getElem?_eq_none (by omega)]; rfl
theorem all_id {f : D → Bool} {ds : List D} : (ds.map f).all id = ds.all f := by rw [List.all_map]; rfl
theorem any_id {f : D → Bool} {ds : List D} : (ds.map f).any id = ds.any f := by rw [List.any_map]; rfl
theorem seqG_at {G : Hd} {a : Addr} {l : List D} (h : G a = some (.lst l)) : seqG G a l := .inl h
theorem b_is_row : Body t_is_row N_is_row sp_is_row := by
  rintro ds G q x ⟨x, d, l, m, t, rfl, h, hm, hq⟩
  unfold t_is_row N_is_row t_is_row_r1
  walk_at "e"
  walk_at "g"
  refine ⟨h.kn, ?_⟩
  rw [h.is]
  refine ⟨fun e => ?_, fun e => ?_⟩
  · have e1 : rowV l m t d = false := by cases d <;> first | rfl | cases e
    have q1 := hq G .refl
    rw [e1] at q1
    exact q1
  · obtain ⟨ds, rfl⟩ := is_tup (d := d) (by simpa using e)
    obtain ⟨xs, rfl, hs⟩ := h.tup_inv
    have el := hs.length
    walk_at "e"
    rw [el]
    refine ⟨fun e1 => ⟨fun e2 => ?_, fun e2 => ?_⟩, fun e1 => ⟨fun _ => ?_, fun z => by cases z⟩⟩
    · have q1 := hq G .refl
      have e3 : rowV l m t (.tup ds) = false := by
        simp only [rowV, Bool.and_eq_false_iff]; simp at e2; left; right; simpa using e2
      rw [e3] at q1; exact q1
    · simp only [Bool.not_eq_false', decide_eq_true_eq] at e2
      refine lcR_look (fromV 0 t) hs (by omega) (fun _ _ => trivial) (fun y d r _ G' Q' xt k => ?_) fun p G' xt e => ?_
      · walk_at "e"
        exact ⟨y, d, 0, t, rfl, r.ext xt, k _ .refl⟩
      · walk_at "e"
        refine ⟨ds.map (fromV 0 t), .inl e, ?_⟩
        rw [all_id]
        have q1 := hq G' xt
        have e3 : rowV l m t (.tup ds) = ds.all (fromV 0 t) := by
          simp only [rowV, e1, e2, decide_true, Bool.true_and]
        rw [e3] at q1; exact q1
    · have q1 := hq G .refl
      have e3 : rowV l m t (.tup ds) = false := by
        simp only [rowV, e1, Bool.false_and]
      rw [e3] at q1; exact q1
/-! ## the laws' helpers -/
def N__law_whole : List Str := ["_law_thing"]
def P__law_whole : List Str := ["_law_thing"]
def t__law_whole : TSd := dRet (dAndV (dBi (BI.r .isi) (dCons (dVar 0) (dCons (dC (.ty "int")) (dNil)))) (dNotV (dBi (BI.r .isi) (dCons (dVar 0) (dCons (dC (.ty "bool")) (dNil))))))
def gl__law_whole : List (Str × GI) := [("isinstance", .bi .isi), ("bool", .ty "bool"), ("int", .bi .int)]
abbrev sp__law_whole : DSp := sp_is_whole
theorem len__law_whole : ∀ ds G q x, sp__law_whole ds G q x → ds.length = P__law_whole.length := len_is_whole
theorem b__law_whole : Body t__law_whole N__law_whole sp__law_whole := b_is_whole
abbrev sp__law_from : DSp := sp_is_from
def N__law_from : List Str := ["_law_thing", "_law_least", "_law_most"]
def P__law_from : List Str := ["_law_thing", "_law_least", "_law_most"]
def t__law_from : TSd := dRet (dAndV (dCall sp__law_whole (dCons (dVar 0) (dNil))) (dChain leD leD (dVar 1) (dVar 0) (dVar 2)))
def gl__law_from : List (Str × GI) := [("_law_whole", .fn sp__law_whole)]
theorem len__law_from : ∀ ds G q x, sp__law_from ds G q x → ds.length = P__law_from.length := len_is_from
theorem b__law_from : Body t__law_from N__law_from sp__law_from := b_is_from
abbrev sp__law_is_row : DSp := sp_is_row
def t__law_is_row_r1 : TSd := dRet (dBi (BI.r .all) (dCons (dLc (dItV (dVar 0)) (dgName 4) dYes (dCall sp__law_from (dCons (dVar 4) (dCons (dC (.int 0)) (dCons (dVar 3) (dNil))))) [4]) (dNil)))
def N__law_is_row : List Str := ["_law_thing", "_law_least", "_law_most", "_law_top", "_law_one"]
def P__law_is_row : List Str := ["_law_thing", "_law_least", "_law_most", "_law_top"]
def t__law_is_row : TSd := dSeq (dIf (dOr (dNot (dB (dBi (BI.r .isi) (dCons (dVar 0) (dCons (dC (.ty "tuple")) (dNil)))))) (dOr (dB (dOp ltD (dBi (BI.r .len) (dCons (dVar 0) (dNil))) (dVar 1))) (dB (dOp gtD (dBi (BI.r .len) (dCons (dVar 0) (dNil))) (dVar 2))))) (dRet (dC (.bl false))) (dNext)) t__law_is_row_r1
def gl__law_is_row : List (Str × GI) := [("len", .bi .len), ("isinstance", .bi .isi), ("tuple", .bi .tuple), ("all", .bi .all), ("_law_from", .fn sp__law_from)]
theorem len__law_is_row : ∀ ds G q x, sp__law_is_row ds G q x → ds.length = P__law_is_row.length := len_is_row
theorem b__law_is_row : Body t__law_is_row N__law_is_row sp__law_is_row := by
  rintro ds G q x ⟨x, d, l, m, t, rfl, h, hm, hq⟩
  unfold t__law_is_row N__law_is_row t__law_is_row_r1
  walk_at "e"
  walk_at "g"
  refine ⟨h.kn, ?_⟩
  rw [h.is]
  refine ⟨fun e => ?_, fun e => ?_⟩
  · have e1 : rowV l m t d = false := by cases d <;> first | rfl | cases e
    have q1 := hq G .refl
    rw [e1] at q1
    exact q1
  · obtain ⟨ds, rfl⟩ := is_tup (d := d) (by simpa using e)
    obtain ⟨xs, rfl, hs⟩ := h.tup_inv
    have el := hs.length
    walk_at "e"
    rw [el]
    refine ⟨fun e1 => ?_, fun e1 => ⟨fun e2 => ?_, fun e2 => ?_⟩⟩
    · have q1 := hq G .refl
      have e3 : rowV l m t (.tup ds) = false := by
        simp only [rowV, Bool.and_eq_false_iff]; simp at e1; left; left; simpa using e1
      rw [e3] at q1; exact q1
    · have q1 := hq G .refl
      have e3 : rowV l m t (.tup ds) = false := by
        simp only [rowV, Bool.and_eq_false_iff]; simp at e2; left; right; simpa using e2
      rw [e3] at q1; exact q1
    · simp only [decide_eq_false_iff_not, Int.not_lt] at e1 e2
      refine lcR_look (fromV 0 t) hs (by omega) (fun _ _ => trivial) (fun y d r _ G' Q' xt k => ?_) fun p G' xt e => ?_
      · walk_at "e"
        exact ⟨y, d, 0, t, rfl, r.ext xt, k _ .refl⟩
      · walk_at "e"
        refine ⟨ds.map (fromV 0 t), .inl e, ?_⟩
        rw [all_id]
        have q1 := hq G' xt
        have e3 : rowV l m t (.tup ds) = ds.all (fromV 0 t) := by
          simp only [rowV, e1, e2, decide_true, Bool.true_and]
        rw [e3] at q1; exact q1
/-! the bag -/
def sp__law_take : DSp := fun ds G q _ => ∃ b k, ds = [.ref b, .int k] ∧ Bag G b ∧ 0 < k ∧ k < 2 ^ 200 ∧ ∀ r G', 0 ≤ r → r < k → Xt [b] G G' → Bag G' b → q (.int r) G'
def t__law_take_r1 : TSd := dSeq (dAsg (dOp modD (dOp addD (dOp mulD (dOp ixD (dVar 0) (dC (.int 1))) (dC (.int 48271))) (dC (.int 7919))) (dC (.int 2147483647))) (dgSub (dVar 0) (dC (.int 1)) setD)) (dRet (dOp modD (dOp modD (dOp mulD (dOp divD (dOp modD (dOp powD (dOp ixD (dVar 0) (dC (.int 1))) (dC (.int 3))) (dC (.int 2147483587))) (dC (.int 7))) (dC (.int 69621))) (dC (.int 1073741789))) (dVar 1)))
def N__law_take : List Str := ["_law_bag_here", "_law_many", "_law_digit"]
def P__law_take : List Str := ["_law_bag_here", "_law_many"]
def t__law_take : TSd := dSeq (dIf (dB (dOp gtD (dOp ixD (dVar 0) (dC (.int 0))) (dC (.int 0)))) (dSeq (dAsg (dOp modD (dOp ixD (dVar 0) (dC (.int 0))) (dVar 1)) (dgName 2)) (dSeq (dAsg (dOp divD (dOp ixD (dVar 0) (dC (.int 0))) (dVar 1)) (dgSub (dVar 0) (dC (.int 0)) setD)) (dRet (dVar 2)))) (dNext)) t__law_take_r1
def gl__law_take : List (Str × GI) := []
theorem len__law_take : ∀ ds G q x, sp__law_take ds G q x → ds.length = P__law_take.length := by
  rintro _ _ _ _ ⟨b, k, rfl, _⟩; rfl
theorem b__law_take : Body t__law_take N__law_take sp__law_take := by
  rintro ds G q x ⟨b, k, rfl, ⟨c, m, hb, c0, m0, m1⟩, k0, k1, hq⟩
  unfold t__law_take N__law_take t__law_take_r1
  walk_at "e"
  simp only [seqG_lst hb, hb]
  walk_at "g"
  have e19 : (48271 : Int) < 2 ^ 200 := by decide
  refine ⟨fun e => ?_, fun e => ?_⟩
  · simp only [decide_eq_true_eq] at e
    refine ⟨k0, divW k0 k1, hq _ _ (Int.emod_nonneg _ (by omega)) (Int.emod_lt_of_pos _ k0) (Xt.put (by simp)) ⟨_, _, st_same, Int.ediv_nonneg c0 (by omega), m0, m1⟩⟩
  · have n0 := Int.emod_nonneg (m * 48271 + 7919) (show (2147483647 : Int) ≠ 0 by decide)
    have n1 := Int.emod_lt_of_pos (m * 48271 + 7919) (show (0 : Int) < 2147483647 by decide)
    refine ⟨mulW m0 (by omega) (by decide) e19, by decide, ⟨by decide, by decide, by omega⟩, by decide, divW (by decide) (by decide), mulW ?_ ?_ (by decide) (by decide), by decide, k0, ?_⟩
    · exact Int.ediv_nonneg (Int.emod_nonneg _ (by decide)) (by decide)
    · have := Int.emod_lt_of_pos (((m * 48271 + 7919) % 2147483647) ^ (Int.toNat 3)) (show (0 : Int) < 2147483587 by decide)
      have h2 : ((m * 48271 + 7919) % 2147483647) ^ (Int.toNat 3) % 2147483587 / 7 ≤ 2147483587 := by omega
      omega
    · exact hq _ _ (Int.emod_nonneg _ (by omega)) (Int.emod_lt_of_pos _ k0) (Xt.put (by simp)) ⟨_, _, st_same, c0, n0, n1⟩

end S

set_option Elab.async false
set_option linter.all false
set_option maxRecDepth 100000
set_option maxHeartbeats 4000000
namespace S
open PySem PySem.Spec L2
open PyProof.Rows hiding St
local macro_rules | `(tactic| walk_at "e") => `(tactic| simp only [dSeq, dNext, dRet, dRetN, dIf, dAsg, dAug, dDrop, dPar, dBreak, dCont, dgName, dgSub, dgTup, dgCons, dgNil, dFor_eq, dLc_eq, dVar, dC, dOp, dUn, dBi, dCall, dCons, dNil, dTup, dLst, dSl, dPart, dNoPart, dAndV, dOrV, dNotV, dB, dAnd, dOr, dNot, dIfE, dChain, dItV, dRng, dWalk, dBm, rng1, rng2,
  BI.r, addD, subD, mulD, modD, divD, powD, intD, ltD, leD, gtD, geD, negD, ixD, slD, setD, isND, isNon, lenD, isiD, listD, tupleD, allD, anyD, sumD, maxD, minD, absD, intBD, appendD, extendD, startD, wipeD,
  List.map_cons, List.map_nil, rep_z, rep_s, List.length_cons, List.length_nil, List.cons_append, List.nil_append, List.append_nil, List.getElem?_cons_zero, List.getElem?_cons_succ, List.set_cons_zero, List.set_cons_succ, Option.some.injEq, exists_eq_left', exists_eq_left, D.bl.injEq, D.int.injEq, D.tup.injEq, D.ref.injEq, true_and, and_true, Nat.reduceAdd, Nat.reduceSub, Nat.add_sub_cancel_left, exists_const, br_t, br_f, ite_true, ite_false, Bool.true_eq_false, false_implies])
local macro_rules | `(tactic| walk_at "g") => `(tactic| simp only [st_same, st_st, GO.lst.injEq, Option.some.injEq, exists_eq_left', exists_eq_left, atI_0, atI_1, atI_2, atI_3, ixN_0, ixN_1, ixN_2, ixN_3, List.set_cons_zero, List.set_cons_succ, List.length_cons, List.length_nil, List.length_append, List.cons_append, List.nil_append, true_and, and_true, seq_st, tc_int, tc_bool, tc_str, tc_tup, tc_lst, tc_non, tc_dic])
theorem hide_at {bs : List Addr} {G : Hd} {a : Addr} (h : a ∉ bs) : hide bs G a = G a := by unfold hide; rw [if_neg h]
theorem hide_hide {bs : List Addr} {p : Addr} {G : Hd} : hide bs (hide [p] G) = hide (p :: bs) G := by
  funext a; unfold hide
  by_cases h1 : a = p <;> by_cases h2 : a ∈ bs <;> simp [h1, h2]
theorem hide_fresh {bs : List Addr} {p : Addr} {G : Hd} (h : G p = none) : hide (p :: bs) G = hide bs G := by
  funext a; unfold hide
  by_cases h1 : a = p
  · subst h1; simp [h]
  · simp [h1]
theorem Dv.fresh {bs : List Addr} {p : Addr} {G : Hd} {x d : D} (h : G p = none) (k : Dv bs G x d) : Dv (p :: bs) G x d := by unfold Dv; rw [hide_fresh h]; exact k
theorem Dv.less {bs : List Addr} {p : Addr} {G : Hd} {x d : D} (k : Dv bs (hide [p] G) x d) : Dv bs G x d := Dd.ext (by
  rw [hide_hide]; intro a u _ e; unfold hide at e ⊢
  split at e
  · cases e
  · rename_i n; rw [if_neg fun m => n (List.mem_cons_of_mem _ m)]; exact e) k
theorem Dv.sub {bs cs : List Addr} {G : Hd} {x d : D} (k : Dv bs G x d) (s : ∀ a ∈ cs, a ∈ bs) : Dv cs G x d := Dd.ext (by
  intro a u _ e; unfold hide at e ⊢
  split at e
  · cases e
  · rename_i n; rw [if_neg fun m => n (s a m)]; exact e) k
theorem Dvs.sub {bs cs : List Addr} {G : Hd} {x d : List D} (k : Dvs bs G x d) (s : ∀ a ∈ cs, a ∈ bs) : Dvs cs G x d := Dds.ext (by
  intro a u _ e; unfold hide at e ⊢
  split at e
  · cases e
  · rename_i n; rw [if_neg fun m => n (s a m)]; exact e) k
/-- told data of fresh places is not at places that were there -/
theorem Dv.lstI {bs : List Addr} {G : Hd} {a : Addr} {xs ds : List D} (n : a ∉ bs) (e : G a = some (.lst xs)) (r : Dvs bs G xs ds) : Dv bs G (.ref a) (.lst ds) := .lst (by rw [hide_at n]; exact e) r
theorem Dvs.of {bs : List Addr} {G : Hd} {xs ds : List D} (h : xs.length = ds.length) (k : ∀ (i : Nat) (x d : D), xs[i]? = some x → ds[i]? = some d → Dv bs G x d) : Dvs bs G xs ds := Dds.of h k
theorem hide_none {bs : List Addr} {G : Hd} {p : Addr} (h : G p = none) : hide bs G p = none := by unfold hide; split <;> first | rfl | exact h
/-! ## equal, by told data -/
theorem beq_dec {i j : Int} : (i == j) = decide (i = j) := by
  by_cases h : i = j <;> simp [h]
theorem eqR_int {neg : Bool} {i j : Int} {G : Hd} {Q : Qd} : eqR neg (.int i) (.int j) G Q = Q (.bl (neg ^^ decide (i = j))) G := by
  refine propext ⟨fun ⟨d, e, h1, h2, _, _, h⟩ => ?_, fun h => ⟨.int i, .int j, .int i, .int j, ⟨rfl, Nat.zero_le _⟩, ⟨rfl, Nat.zero_le _⟩, ?_⟩⟩
  · cases h1; cases h2; simpa only [eqB, beq_dec] using h
  · simpa only [eqB, beq_dec] using h
theorem eqR_bl {neg : Bool} {i j : Bool} {G : Hd} {Q : Qd} : eqR neg (.bl i) (.bl j) G Q = Q (.bl (neg ^^ (i == j))) G := by
  refine propext ⟨fun ⟨d, e, h1, h2, _, _, h⟩ => ?_, fun h => ⟨.bl i, .bl j, .bl i, .bl j, ⟨rfl, Nat.zero_le _⟩, ⟨rfl, Nat.zero_le _⟩, ?_⟩⟩
  · cases h1; cases h2; simpa [eqB] using h
  · simpa [eqB] using h
theorem eqR_of {neg : Bool} {x y d e : D} {G : Hd} {Q : Qd} {n m : Nat} (h1 : Dd G x d) (h2 : Dd G y e) (g1 : gd m n d) (g2 : gd m n e) (hn : n ≤ 64) (h : Q (.bl (neg ^^ eqB d e)) G) : eqR neg x y G Q := ⟨d, e, h1, h2, g1.sh hn, g2.sh hn, h⟩
/-! ## cuts -/
section
variable {α : Type} {xs : List α} {i j : Int}
theorem cut_to (h : 0 ≤ i) : cut xs none (some i) = xs.take i.toNat := by
  unfold cut
  have e1 : HT.sIx xs.length 0 none = 0 := rfl
  have e2 : HT.sIx xs.length xs.length (some i) = min i.toNat xs.length := by
    show (if i < 0 then _ else _) = _
    rw [if_neg (by omega)]
  rw [e1, e2, List.drop_zero, Nat.sub_zero]
  by_cases h2 : i.toNat ≤ xs.length
  · rw [Nat.min_eq_left h2]
  · rw [Nat.min_eq_right (by omega), List.take_of_length_le (Nat.le_refl _), List.take_of_length_le (by omega)]
theorem cut_from (h : 0 ≤ i) : cut xs (some i) none = xs.drop i.toNat := by
  unfold cut
  have e1 : HT.sIx xs.length xs.length none = xs.length := rfl
  have e2 : HT.sIx xs.length 0 (some i) = min i.toNat xs.length := by
    show (if i < 0 then _ else _) = _
    rw [if_neg (by omega)]
  rw [e1, e2, List.take_of_length_le (by simp)]
  by_cases h2 : i.toNat ≤ xs.length
  · rw [Nat.min_eq_left h2]
  · rw [Nat.min_eq_right (by omega), List.drop_of_length_le (Nat.le_refl _), List.drop_of_length_le (by omega)]
theorem cut_sub {lo hi : Option Int} {x : α} (h : x ∈ cut xs lo hi) : x ∈ xs := List.mem_of_mem_drop (List.mem_of_mem_take h)
theorem cut_le {lo hi : Option Int} : (cut xs lo hi).length ≤ xs.length := by
  unfold cut; simp only [List.length_take, List.length_drop]; omega
end
theorem Dds.cut {G : Hd} {xs ds : List D} (h : Dds G xs ds) (lo hi : Option Int) : Dds G (cut xs lo hi) (cut ds lo hi) := by
  unfold S.cut
  rw [Dds.length h]
  exact (h.drop _).take _
/-! ## the bag's making -/
def sp__law_bag : DSp := fun ds G q _ => ∃ (ns : List Int) (j : Int), ds = [.rl (ns.map .int), .int j] ∧ ns.length ≤ 63 ∧ 0 ≤ j ∧ j ≤ 1000 ∧ ∀ p G', G p = none → Ext G G' → Bag G' p → q (.ref p) G'
def t__law_bag_b1 : TSd := dAsg (dOp modD (dOp addD (dOp addD (dOp mulD (dVar 3) (dC (.int 48271))) (dOp mulD (dOp modD (dOp ixD (dVar 0) (dVar 4)) (dC (.int 2147483587))) (dOp addD (dVar 4) (dC (.int 3))))) (dVar 4)) (dC (.int 2147483629))) (dgName 3)
def t__law_bag_r1 : TSd := dRet (dLst (dCons (dVar 2) (dCons (dVar 3) (dNil))))
def t__law_bag_r2 : TSd := dSeq (dIf (dB (dOp ltD (dVar 2) (dOp powD (dC (.int 10)) (dC (.int 18))))) (dAsg (dC (.int 0)) (dgName 2)) (dNext)) t__law_bag_r1
def t__law_bag_s1 : TSd := dSeq (dFor (dRng rng1 (dCons (dBi (BI.r .min) (dCons (dBi (BI.r .len) (dCons (dVar 0) (dNil))) (dCons (dC (.int 60)) (dNil)))) (dNil))) (dgName 4) t__law_bag_b1) t__law_bag_r2
def t__law_bag_r3 : TSd := dSeq (dAsg (dOp modD (dOp powD (dOp addD (dOp addD (dOp modD (dVar 2) (dC (.int 2147483629))) (dOp mulD (dC (.int 104729)) (dVar 1))) (dC (.int 17))) (dC (.int 5))) (dC (.int 2147483647))) (dgName 3)) t__law_bag_s1
def t__law_bag_s2 : TSd := dSeq (dIf (dB (dOp ltD (dVar 1) (dBi (BI.r .len) (dCons (dVar 0) (dNil))))) (dAsg (dBi (BI.r .abs) (dCons (dOp ixD (dVar 0) (dVar 1)) (dNil))) (dgName 2)) (dNext)) t__law_bag_r3
def N__law_bag : List Str := ["_law_script", "_law_at", "_law_cell", "_law_mix", "_law_k"]
def P__law_bag : List Str := ["_law_script", "_law_at"]
def t__law_bag : TSd := dSeq (dAsg (dC (.int 0)) (dgName 2)) t__law_bag_s2
def gl__law_bag : List (Str × GI) := [("len", .bi .len), ("abs", .bi .abs), ("range", .rng), ("min", .bi .min)]
theorem len__law_bag : ∀ ds G q x, sp__law_bag ds G q x → ds.length = P__law_bag.length := by
  rintro _ _ _ _ ⟨ns, j, rfl, _⟩; rfl
theorem b__law_bag_r2 {w : Wx} {E : En} {G : Hd} {a b k : Option D} {c m : Int} (c0 : 0 ≤ c) (m0 : 0 ≤ m) (m1 : m < 2147483647)
    (hq : ∀ p G', G p = none → Ext G G' → Bag G' p → E.rt (.ref p) G') : t__law_bag_r2 w E [a, b, some (.int c), some (.int m), k] G := by
  unfold t__law_bag_r2 t__law_bag_r1
  walk_at "e"
  refine ⟨⟨by decide, by decide, by decide⟩, fun e => ⟨by simp [sizeLine], fun p hp => ?_⟩, fun e => ⟨by simp [sizeLine], fun p hp => ?_⟩⟩
  · exact hq p _ hp (.new hp) ⟨_, _, st_same, by decide, m0, m1⟩
  · exact hq p _ hp (.new hp) ⟨_, _, st_same, c0, m0, m1⟩
theorem b__law_bag_b1 {w : Wx} {E : En} {G : Hd} {ns : List Int} {b c : Option D} {m : Int} {i : Nat} (hl : ns.length ≤ 63) (hi : i < ns.length) (m0 : 0 ≤ m) (m1 : m < 2147483647)
    (hq : ∀ m, 0 ≤ m → m < 2147483647 → E.nx [some (.rl (ns.map .int)), b, c, some (.int m), some (.int i)] G) : t__law_bag_b1 w E [some (.rl (ns.map .int)), b, c, some (.int m), some (.int i)] G := by
  unfold t__law_bag_b1
  obtain ⟨z, hz⟩ := atI_ints (ns := ns) (i := i) (by omega) (by omega)
  walk_at "e"
  simp only [hz, Option.some.injEq, exists_eq_left']
  have n0 := Int.emod_nonneg z (show (2147483587 : Int) ≠ 0 by decide)
  have n1 := Int.emod_lt_of_pos z (show (0 : Int) < 2147483587 by decide)
  refine ⟨mulW m0 (by omega) (by decide) (by decide), by decide, mulW n0 (by omega) (by omega) (by omega), by decide, hq _ (Int.emod_nonneg _ (by decide)) ?_⟩
  have := Int.emod_lt_of_pos (m * 48271 + z % 2147483587 * (↑i + 3) + ↑i) (show (0 : Int) < 2147483629 by decide)
  omega
theorem b__law_bag_r3 {w : Wx} {E : En} {G : Hd} {ns : List Int} {m k : Option D} {c j : Int} (hl : ns.length ≤ 63) (c0 : 0 ≤ c) (j0 : 0 ≤ j) (j1 : j ≤ 1000)
    (hq : ∀ p G', G p = none → Ext G G' → Bag G' p → E.rt (.ref p) G') : t__law_bag_r3 w E [some (.rl (ns.map .int)), some (.int j), some (.int c), m, k] G := by
  unfold t__law_bag_r3 t__law_bag_s1
  walk_at "e"
  have n0 := Int.emod_nonneg c (show (2147483629 : Int) ≠ 0 by decide)
  have n1 := Int.emod_lt_of_pos c (show (0 : Int) < 2147483629 by decide)
  rw [List.length_map]
  refine ⟨by decide, mulW (by decide) (by decide) (by omega) (by omega), ⟨by decide, by decide, by omega⟩, by decide, by omega, ?_⟩
  refine ⟨fun i σ G1 => G1 = G ∧ i ≤ min ns.length 60 ∧ ∃ m k, σ = [some (.rl (ns.map .int)), some (.int j), some (.int c), some (.int m), k] ∧ 0 ≤ m ∧ m < 2147483647, ⟨rfl, Nat.zero_le _, _, _, rfl, Int.emod_nonneg _ (by decide), Int.emod_lt_of_pos _ (by decide)⟩, fun _ _ _ _ => trivial, ?_, ?_⟩
  · rintro i x σ G1 ex ⟨rfl, hi, m, k, rfl, m0, m1⟩
    obtain ⟨h1, rfl⟩ := rngL_some0 ex
    walk_at "e"
    exact b__law_bag_b1 hl (by omega) m0 m1 fun m m0 m1 => ⟨rfl, by omega, m, _, rfl, m0, m1⟩
  · rintro σ G1 ⟨rfl, hi, m, k, rfl, m0, m1⟩
    exact b__law_bag_r2 c0 m0 m1 hq
theorem b__law_bag : Body t__law_bag N__law_bag sp__law_bag := by
  rintro ds G q x ⟨ns, j, rfl, hl, j0, j1, hq⟩
  unfold t__law_bag N__law_bag t__law_bag_s2
  walk_at "e"
  rw [List.length_map]
  refine ⟨fun e => ?_, fun e => ?_⟩
  · obtain ⟨z, hz⟩ := atI_ints (ns := ns) (i := j) j0 (by simpa using e)
    simp only [hz, Option.some.injEq, exists_eq_left']
    exact b__law_bag_r3 hl (by omega) j0 j1 hq
  · exact b__law_bag_r3 hl (by omega) j0 j1 hq
/-! ## a copy -/
def sp__law_copied : Nat → DSp
  | 0 => fun _ _ _ _ => False
  | n + 1 => fun ds G q _ => ∃ x d bs, ds = [x] ∧ Dv bs G x d ∧ (∀ b ∈ bs, G b ≠ none) ∧ gd 1000000 n d ∧ ∀ r G', Ext G G' → Dv bs G' r d → q r G'
def N__law_copied : List Str := ["_law_thing", "_law_one"]
def P__law_copied : List Str := ["_law_thing"]
def t__law_copied (sp__law_copied : DSp) : TSd := dSeq (dIf (dB (dBi (BI.r .isi) (dCons (dVar 0) (dCons (dC (.ty "list")) (dNil))))) (dRet (dLc (dItV (dVar 0)) (dgName 1) dYes (dCall sp__law_copied (dCons (dVar 1) (dNil))) [1])) (dNext)) (dRet (dVar 0))
def gl__law_copied (sp__law_copied : DSp) : List (Str × GI) := [("isinstance", .bi .isi), ("list", .bi .list), ("_law_copied", .fn sp__law_copied)]
theorem len__law_copied : ∀ n ds G q x, sp__law_copied n ds G q x → ds.length = P__law_copied.length
  | 0, _, _, _, _, h => h.elim
  | n + 1, _, _, _, _, ⟨x, d, bs, e, _⟩ => by subst e; rfl
theorem isV_lst {d : D} (h : isV d "list" = true) : ∃ ds, d = .lst ds := by cases d <;> first | exact ⟨_, rfl⟩ | cases h
theorem b__law_copied (n : Nat) : Body (t__law_copied (sp__law_copied n)) N__law_copied (sp__law_copied (n + 1)) := by
  rintro ds G q x ⟨x, d, bs, rfl, h, hb, hg, hq⟩
  unfold t__law_copied N__law_copied
  walk_at "e"
  walk_at "g"
  refine ⟨h.dd.kn, ?_⟩
  rw [h.dd.is]
  refine ⟨fun e => ?_, fun e => hq _ _ .refl h⟩
  obtain ⟨ds, rfl⟩ := isV_lst e
  cases n with
  | zero => simp only [gd] at hg
  | succ n =>
    rw [gd_lst] at hg
    obtain ⟨a, xs, rfl, sq, hs⟩ := Dd.lst_inv h
    have na : a ∉ bs := fun m => by
      rcases sq with e | e <;> (unfold hide at e; rw [if_pos m] at e; cases e)
    have sq' : seqG G a xs := sq.elim (fun e => .inl (by rwa [hide_at na] at e)) fun e => .inr (by rwa [hide_at na] at e)
    have el := Dds.length hs
    walk_at "e"
    refine ⟨xs, sq', ?_⟩
    refine lcR_gen [] (fun _ => True) (fun i y G1 => ∃ d, ds[i]? = some d ∧ Dv bs G1 y d) (fun _ _ h _ => h) (fun i y G1 G2 ⟨d, e, r⟩ xt => ⟨d, e, r.xt xt.ext⟩) (fun _ h => by simp at h) trivial (by omega) (fun G' xt => xt.seq (by simp) sq') ?_ ?_
    · intro i x e p G' Q' hp hp2 xt _ k
      obtain ⟨d, e2, r⟩ := Dds.get hs e
      walk_at "e"
      refine ⟨x, d, p :: bs, rfl, (Dv.fresh hp r).xt xt.ext, fun b m => ?_, hg.2 d (List.mem_of_getElem? e2), fun r G'' x2 r2 => k r G'' x2 trivial ⟨d, e2, ?_⟩⟩
      · rcases List.mem_cons.mp m with rfl | m
        · exact hp2
        · intro z; exact hb b m (xt.none z)
      · unfold Dv at r2 ⊢; rw [hide_hide]; exact r2
    · intro p G' ys hp xt _ e l r
      refine hq _ _ xt (Dv.lstI (fun m => hb p m hp) e (Dvs.of (by omega) fun i x d e1 e2 => ?_))
      obtain ⟨d', e3, r3⟩ := r i x e1
      rw [e2] at e3; cases e3
      exact r3.less

end S

set_option Elab.async false
set_option linter.all false
set_option maxRecDepth 100000
set_option maxHeartbeats 4000000
namespace S
open PySem PySem.Spec L2
open PyProof.Rows hiding St
local macro_rules | `(tactic| walk_at "e") => `(tactic| simp only [dSeq, dNext, dRet, dRetN, dIf, dAsg, dAug, dDrop, dPar, dBreak, dCont, dgName, dgSub, dgTup, dgCons, dgNil, dFor_eq, dLc_eq, dVar, dC, dOp, dUn, dBi, dCall, dCons, dNil, dTup, dLst, dSl, dPart, dNoPart, dAndV, dOrV, dNotV, dB, dAnd, dOr, dNot, dIfE, dChain, dItV, dRng, dWalk, dBm, rng1, rng2,
  BI.r, addD, subD, mulD, modD, divD, powD, intD, ltD, leD, gtD, geD, negD, ixD, slD, setD, isND, isNon, lenD, isiD, listD, tupleD, allD, anyD, sumD, maxD, minD, absD, intBD, appendD, extendD, startD, wipeD,
  List.map_cons, List.map_nil, rep_z, rep_s, List.length_cons, List.length_nil, List.cons_append, List.nil_append, List.append_nil, List.getElem?_cons_zero, List.getElem?_cons_succ, List.set_cons_zero, List.set_cons_succ, Option.some.injEq, exists_eq_left', exists_eq_left, D.bl.injEq, D.int.injEq, D.tup.injEq, D.ref.injEq, true_and, and_true, Nat.reduceAdd, Nat.reduceSub, Nat.add_sub_cancel_left, exists_const, br_t, br_f, eqR_int, eqR_bl, Bool.false_bne, Bool.true_bne, Bool.false_xor, Bool.true_xor, ite_true, ite_false, Bool.true_eq_false, false_implies])
local macro_rules | `(tactic| walk_at "g") => `(tactic| simp only [st_same, st_st, GO.lst.injEq, Option.some.injEq, exists_eq_left', exists_eq_left, atI_0, atI_1, atI_2, atI_3, ixN_0, ixN_1, ixN_2, ixN_3, List.set_cons_zero, List.set_cons_succ, List.length_cons, List.length_nil, List.length_append, List.cons_append, List.nil_append, true_and, and_true, seq_st, tc_int, tc_bool, tc_str, tc_tup, tc_lst, tc_non, tc_dic])
/-! ## things of any kind -/
def sp__law_odd : DSp := fun ds G q _ => ∃ b bs, ds = [.ref b] ∧ b ∈ bs ∧ (∀ c ∈ bs, G c ≠ none) ∧ Bag G b ∧ ∀ r d G', Xt [b] G G' → Bag G' b → Dv bs G' r d → gd 10 2 d → q r G'
def N__law_odd : List Str := ["_law_bag_here", "_law_some"]
def P__law_odd : List Str := ["_law_bag_here"]
def t__law_odd : TSd := dSeq (dAsg (dLst (dCons (dC .non) (dCons (dC (.bl true)) (dCons (dC (.bl false)) (dCons (dC (.str "")) (dCons (dC (.str "1")) (dCons (dUn negD (dC (.int 1))) (dCons (dC (.int 0)) (dCons (dC (.int 1)) (dCons (dOp powD (dC (.int 10)) (dC (.int 59))) (dCons (dTup (dNil)) (dCons (dLst (dNil)) (dCons (dTup (dCons (dC (.int 0)) (dNil))) (dCons (dLst (dCons (dC (.int 0)) (dNil))) (dCons (dC (.str "border")) (dCons (dC (.int 24)) (dCons (dC (.int 25)) (dCons (dC (.int 40)) (dCons (dC (.int 1040)) (dCons (dTup (dCons (dTup (dNil)) (dNil))) (dCons (dUn negD (dC (.int 7))) (dNil)))))))))))))))))))))) (dgName 1)) (dRet (dOp ixD (dVar 1) (dCall sp__law_take (dCons (dVar 0) (dCons (dC (.int 20)) (dNil))))))
def gl__law_odd : List (Str × GI) := [("_law_take", .fn sp__law_take)]
theorem len__law_odd : ∀ ds G q x, sp__law_odd ds G q x → ds.length = P__law_odd.length := by
  rintro _ _ _ _ ⟨b, bs, rfl, _⟩; rfl
theorem gd_leaf {m n : Nat} {d : D} (h : match d with
  | .non => True
  | .bl _ => True
  | .int _ => True
  | _ => False) : gd m n d := by
  cases d <;> cases n <;> first | exact h.elim | simp only [gd]
theorem gd_int {m n : Nat} {i : Int} : gd m n (.int i) := gd_leaf trivial
theorem gd_bl {m n : Nat} {i : Bool} : gd m n (.bl i) := gd_leaf trivial
theorem gd_non {m n : Nat} : gd m n .non := gd_leaf trivial
theorem gd_str {m n : Nat} {x : Str} (h : PySem.PyData.strOk x = true ∧ x.length ≤ m) : gd m n (.str x) := by cases n <;> simpa only [gd] using h
theorem b__law_odd : Body t__law_odd N__law_odd sp__law_odd := by
  rintro ds G q x ⟨b, bs, rfl, hb, ha, bag, hq⟩
  unfold t__law_odd N__law_odd
  walk_at "e"
  refine ⟨⟨by decide, by decide, by decide⟩, by simp [sizeLine], by simp [sizeLine], fun p1 h1 => ⟨by simp [sizeLine], by simp [sizeLine], fun p2 h2 => ⟨by simp [sizeLine], by simp [sizeLine], by simp [sizeLine], fun p3 h3 => ?_⟩⟩⟩
  have x1 : Ext G (st G p1 (.lst [])) := .new h1
  have x2 := x1.trans (.new (o := .lst [.int 0]) h2)
  refine ⟨b, 20, rfl, bag.ext (x2.trans (.new h3)), by decide, by decide, fun r G' r0 r1 xt bag' => ?_⟩
  have nb1 : p1 ∉ bs := fun m => ha _ m h1
  have nb2 : p2 ∉ bs := fun m => ha _ m (st_new_none h2)
  have np1 : p1 ∉ [b] := fun m => nb1 (by rw [List.mem_singleton.mp m]; exact hb)
  have np2 : p2 ∉ [b] := fun m => nb2 (by rw [List.mem_singleton.mp m]; exact hb)
  have np3 : p3 ∉ [b] := fun m => ha _ hb (by rw [← List.mem_singleton.mp m]; exact st_new_none (st_new_none h3))
  have g1 : G' p1 = some (.lst []) := xt.get np1 (st_old h3 (st_old h2 st_same))
  have g2 : G' p2 = some (.lst [.int 0]) := xt.get np2 (st_old h3 st_same)
  have x3 : Xt [b] G G' := (x2.trans (.new h3)).ext.trans xt
  have gt : ∀ xs, gd 10 1 (.tup xs) ↔ xs.length ≤ 10 ∧ ∀ x ∈ xs, gd 10 0 x := fun xs => gd_tup
  refine ⟨_, .inl (xt.get np3 st_same), ?_⟩
  have al : ∀ z ∈ [D.non, .bl true, .bl false, .str "", .str "1", .int (-1), .int 0, .int 1, .int (10 ^ Int.toNat 59), .tup [], .ref p1, .tup [.int 0], .ref p2, .str "border", .int 24, .int 25, .int 40, .int 1040, .tup [.tup []], .int (-7)], ∃ d, Dv bs G' z d ∧ gd 10 2 d := by
    simp only [List.forall_mem_cons]
    refine ⟨⟨_, .non, gd_non⟩, ⟨_, .bl _, gd_bl⟩, ⟨_, .bl _, gd_bl⟩, ⟨_, .str _, gd_str (by decide +kernel)⟩, ⟨_, .str _, gd_str (by decide +kernel)⟩, ⟨_, .int _, gd_int⟩, ⟨_, .int _, gd_int⟩, ⟨_, .int _, gd_int⟩, ⟨_, .int _, gd_int⟩,
      ⟨_, .tup .nil, gd_tup.mpr ⟨by simp, by simp⟩⟩, ⟨_, Dv.lstI nb1 g1 .nil, gd_lst.mpr ⟨by simp, by simp⟩⟩, ⟨_, .tup (.cons (.int _) .nil), gd_tup.mpr ⟨by simp, by simp [gd_int]⟩⟩, ⟨_, Dv.lstI nb2 g2 (.cons (.int _) .nil), gd_lst.mpr ⟨by simp, by simp [gd_int]⟩⟩,
      ⟨_, .str _, gd_str (by decide +kernel)⟩, ⟨_, .int _, gd_int⟩, ⟨_, .int _, gd_int⟩, ⟨_, .int _, gd_int⟩, ⟨_, .int _, gd_int⟩, ⟨_, .tup (.cons (.tup .nil) .nil), gd_tup.mpr ⟨by simp, fun y hy => by rw [List.mem_singleton.mp hy]; exact gd_tup.mpr ⟨by simp, by simp⟩⟩⟩, ⟨_, .int _, gd_int⟩, by simp⟩
  obtain ⟨z, hz, hm, _⟩ := atI_mem (i := r) (xs := [D.non, .bl true, .bl false, .str "", .str "1", .int (-1), .int 0, .int 1, .int (10 ^ Int.toNat 59), .tup [], .ref p1, .tup [.int 0], .ref p2, .str "border", .int 24, .int 25, .int 40, .int 1040, .tup [.tup []], .int (-7)]) r0 (by simp only [List.length_cons, List.length_nil]; omega)
  obtain ⟨d, h1, h2⟩ := al z hm
  exact ⟨z, hz, hq _ d _ x3 bag' h1 h2⟩
/-! ## bent -/
def sp__law_bent : Nat → DSp
  | 0 => fun _ _ _ _ => False
  | n + 1 => fun ds G q _ => ∃ b x d bs M, ds = [.ref b, x] ∧ b ∈ bs ∧ (∀ c ∈ bs, G c ≠ none) ∧ Bag G b ∧ Dv bs G x d ∧ gd M n d ∧ 10 ≤ M ∧ M ≤ 1000 ∧ ∀ r d' G', Xt [b] G G' → Bag G' b → Dv bs G' r d' → gd (M + 1) (n + 2) d' → q r G'
def t__law_bent_e1 (sp__law_bent : DSp) : TSd := dAsg (dCall sp__law_bent (dCons (dVar 0) (dCons (dOp ixD (dVar 5) (dVar 4)) (dNil)))) (dgSub (dVar 5) (dVar 4) setD)
def t__law_bent_r1 (sp__law_bent : DSp) : TSd := dRet (dBi (BI.r .tuple) (dCons (dVar 5) (dNil)))
def t__law_bent_r2 (sp__law_bent : DSp) : TSd := dSeq (dIf (dB (dBi (BI.r .isi) (dCons (dVar 1) (dCons (dC (.ty "list")) (dNil))))) (dRet (dVar 5)) (dNext)) (t__law_bent_r1 sp__law_bent)
def t__law_bent_s1 (sp__law_bent : DSp) : TSd := dSeq (dIf (dB (dOp (eqR false) (dVar 2) (dC (.int 1)))) (dAsg (dOp addD (dSl (dVar 5) dNoPart (dPart (dVar 4))) (dSl (dVar 5) (dPart (dOp addD (dVar 4) (dC (.int 1)))) dNoPart)) (dgName 5)) (dIf (dB (dOp (eqR false) (dVar 2) (dC (.int 2)))) (dAsg (dOp addD (dOp addD (dSl (dVar 5) dNoPart (dPart (dVar 4))) (dLst (dCons (dOp ixD (dVar 5) (dVar 4)) (dNil)))) (dSl (dVar 5) (dPart (dVar 4)) dNoPart)) (dgName 5)) (dIf (dB (dOp (eqR false) (dVar 2) (dC (.int 3)))) (dAsg (dTup (dCons (dOp ixD (dVar 5) (dC (.int 0))) (dCons (dOp ixD (dVar 5) (dVar 4)) (dNil)))) (dgTup 2 (dgCons (dgSub (dVar 5) (dVar 4) setD) (dgCons (dgSub (dVar 5) (dC (.int 0)) setD) (dgNil))))) (dIf (dAnd (dB (dOp (eqR false) (dVar 2) (dC (.int 4)))) (dB (dOp (eqR false) (dCall sp__law_take (dCons (dVar 0) (dCons (dC (.int 4)) (dNil)))) (dC (.int 0))))) (dRet (dOp ixD (dLst (dCons (dBi (BI.r .list) (dCons (dVar 1) (dNil))) (dCons (dBi (BI.r .tuple) (dCons (dVar 1) (dNil))) (dNil)))) (dBi (BI.r .int) (dCons (dBi (BI.r .isi) (dCons (dVar 1) (dCons (dC (.ty "list")) (dNil)))) (dNil))))) (t__law_bent_e1 sp__law_bent))))) (t__law_bent_r2 sp__law_bent)
def t__law_bent_r3 (sp__law_bent : DSp) : TSd := dSeq (dAsg (dCall sp__law_take (dCons (dVar 0) (dCons (dBi (BI.r .len) (dCons (dVar 1) (dNil))) (dNil)))) (dgName 4)) (dSeq (dAsg (dBi (BI.r .list) (dCons (dVar 1) (dNil))) (dgName 5)) (t__law_bent_s1 sp__law_bent))
def t__law_bent_r4 (sp__law_bent : DSp) : TSd := dSeq (dIf (dOr (dNot (dB (dBi (BI.r .isi) (dCons (dVar 1) (dCons (dTup (dCons (dC (.ty "tuple")) (dCons (dC (.ty "list")) (dNil)))) (dNil)))))) (dOr (dB (dOp (eqR false) (dBi (BI.r .len) (dCons (dVar 1) (dNil))) (dC (.int 0)))) (dB (dOp (eqR false) (dVar 2) (dC (.int 0)))))) (dRet (dVar 3)) (dNext)) (t__law_bent_r3 sp__law_bent)
def t__law_bent_s2 (sp__law_bent : DSp) : TSd := dSeq (dIf (dAnd (dB (dCall sp__law_whole (dCons (dVar 1) (dNil)))) (dB (dOp ltD (dVar 2) (dC (.int 4))))) (dRet (dOp addD (dVar 1) (dOp ixD (dLst (dCons (dC (.int 1)) (dCons (dUn negD (dC (.int 1))) (dCons (dC (.int 1040)) (dCons (dC (.int 100000)) (dNil)))))) (dVar 2)))) (dNext)) (t__law_bent_r4 sp__law_bent)
def N__law_bent : List Str := ["_law_bag_here", "_law_thing", "_law_way", "_law_odd_here", "_law_at", "_law_parts"]
def P__law_bent : List Str := ["_law_bag_here", "_law_thing"]
def t__law_bent (sp__law_bent : DSp) : TSd := dSeq (dAsg (dCall sp__law_take (dCons (dVar 0) (dCons (dC (.int 8)) (dNil)))) (dgName 2)) (dSeq (dAsg (dCall sp__law_odd (dCons (dVar 0) (dNil))) (dgName 3)) (t__law_bent_s2 sp__law_bent))
def gl__law_bent (sp__law_bent : DSp) : List (Str × GI) := [("_law_take", .fn sp__law_take), ("_law_odd", .fn sp__law_odd), ("_law_whole", .fn sp__law_whole), ("len", .bi .len), ("isinstance", .bi .isi), ("list", .bi .list), ("tuple", .bi .tuple), ("int", .bi .int), ("_law_bent", .fn sp__law_bent)]
theorem len__law_bent : ∀ n ds G q x, sp__law_bent n ds G q x → ds.length = P__law_bent.length
  | 0, _, _, _, _, h => h.elim
  | n + 1, _, _, _, _, ⟨b, x, d, bs, M, e, _⟩ => by subst e; rfl
section
variable {w : Wx} {E : En} {b : Addr} {bs : List Addr} {G0 G : Hd} {x d : D} {M n : Nat} {sp : DSp}
/-- the parts as they are then: the list's own, or a tuple of them -/
theorem b__law_bent_r2 {o1 o2 o3 : Option D} {p : Addr} {ys es : List D} (h : Dv bs G x d) (e : G p = some (.lst ys)) (np : p ∉ bs) (r : Dvs bs G ys es)
    (hl : E.rt (.ref p) G) (ht : E.rt (.tup ys) G) : t__law_bent_r2 sp w E [some (.ref b), some x, o1, o2, o3, some (.ref p)] G := by
  unfold t__law_bent_r2 t__law_bent_r1
  walk_at "e"
  walk_at "g"
  exact ⟨h.dd.kn, fun _ => hl, fun _ => ⟨_, .inl e, ht⟩⟩
theorem b__law_bent_e1 {o1 o2 : Option D} {p : Addr} {xs : List D} {at_ : Int} {z dz : D} (hb : b ∈ bs) (ha : ∀ c ∈ p :: bs, G c ≠ none) (bag : Bag G b) (np : p ∉ bs) (e : G p = some (.lst xs)) (a0 : 0 ≤ at_) (a1 : at_ < xs.length) (hz : atI xs at_ = some z) (rz : Dv (p :: bs) G z dz) (gz : gd M n dz) (hM : 10 ≤ M) (hM2 : M ≤ 1000)
    (hq : ∀ r d' G', Xt [b] G G' → Bag G' b → Dv (p :: bs) G' r d' → gd (M + 1) (n + 2) d' → E.nx [some (.ref b), some x, o1, o2, some (.int at_), some (.ref p)] (st G' p (.lst (xs.set at_.toNat r)))) :
    t__law_bent_e1 (sp__law_bent (n + 1)) w E [some (.ref b), some x, o1, o2, some (.int at_), some (.ref p)] G := by
  unfold t__law_bent_e1
  walk_at "e"
  refine ⟨xs, .inl e, z, hz, b, z, dz, p :: bs, M, rfl, List.mem_cons_of_mem _ hb, ha, bag, rz, gz, hM, hM2, fun r d' G' xt bag' h1 g1 => ?_⟩
  have nb : p ∉ [b] := fun m => np (by rw [List.mem_singleton.mp m]; exact hb)
  exact ⟨xs, xt.get nb e, at_.toNat, ixN_of a0 (by omega), hq r d' G' xt bag' h1 g1⟩
theorem line_of {n : Nat} (h : n ≤ 1000000) : n ≤ sizeLine := line_le h
theorem b__law_bent_s1 {w1 at_ : Int} {o : D} {p : Addr} {xs ds : List D} (hb : b ∈ bs) (ha : ∀ c ∈ bs, G0 c ≠ none) (bag : Bag G b) (xt : Xt [b] G0 G) (h' : Dv (p :: bs) G x d) (hp0 : G0 p = none)
    (e : G p = some (.lst xs)) (r' : Dvs (p :: bs) G xs ds) (gs : ds.length ≤ M ∧ ∀ y ∈ ds, gd M n y) (hM : 10 ≤ M) (hM2 : M ≤ 1000) (a0 : 0 ≤ at_) (a1 : at_ < ds.length) (hd : (x = .tup xs ∧ d = .tup ds) ∨ (∃ a, x = .ref a ∧ seqG G a xs ∧ d = .lst ds))
    (hq : ∀ r d' G', Xt [b] G0 G' → Bag G' b → Dv bs G' r d' → gd (M + 1) (n + 3) d' → E.rt r G') :
    t__law_bent_s1 (sp__law_bent (n + 1)) w E [some (.ref b), some x, some (.int w1), some o, some (.int at_), some (.ref p)] G := by
  have h : Dv bs G x d := h'.sub fun _ => List.mem_cons_of_mem _
  have r : Dvs bs G xs ds := r'.sub fun _ => List.mem_cons_of_mem _
  have np : p ∉ bs := fun m => ha p m hp0
  have nb : p ≠ b := fun z => np (z ▸ hb)
  have nb' : p ∉ [b] := fun m => nb (List.mem_singleton.mp m)
  have el := Dds.length r
  have fin : ∀ {o1 o2 o3 : Option D} {G' : Hd} {p' : Addr} {ys es : List D}, Xt [b] G0 G' → Bag G' b → Dv bs G' x d → G' p' = some (.lst ys) → p' ∉ bs → Dvs bs G' ys es → es.length ≤ M + 1 → (∀ y ∈ es, gd (M + 1) (n + 2) y) →
      t__law_bent_r2 (sp__law_bent (n + 1)) w E [some (.ref b), some x, o1, o2, o3, some (.ref p')] G' := by
    intro o1 o2 o3 G' p' ys es x1 bg h1 e1 n1 r1 l1 g1
    refine b__law_bent_r2 h1 e1 n1 r1 ?_ ?_
    · exact hq _ (.lst es) _ x1 bg (Dv.lstI n1 e1 r1) (gd_lst.mpr ⟨l1, g1⟩)
    · exact hq _ (.tup es) _ x1 bg (.tup r1) (gd_tup.mpr ⟨l1, g1⟩)
  have gw : ∀ y ∈ ds, gd (M + 1) (n + 2) y := fun y hy => (gs.2 y hy).weak (by omega) (by omega)
  have fr : ∀ {q : Addr} {H : Hd}, Xt [b] G0 H → Bag H b → H q = none → q ∉ bs := fun {q H} x1 b1 hq m => by
    by_cases z : q = b
    · exact b1.some (by rw [← z]; exact hq)
    · exact ha q m (x1.free (by simpa using z) hq)
  obtain ⟨z, hz, hzm, hz2⟩ := atI_mem (xs := xs) (i := at_) a0 (by omega)
  obtain ⟨dz, hdz, rz'⟩ := Dds.get r' hz2
  have rz : Dv bs G z dz := Dv.sub rz' fun _ => List.mem_cons_of_mem _
  have bentOne : ∀ {G1 : Hd}, Xt [b] G G1 → Bag G1 b → t__law_bent_e1 (sp__law_bent (n + 1)) w { nx := t__law_bent_r2 (sp__law_bent (n + 1)) w E, rt := E.rt, bk := E.bk, ct := E.ct } [some (.ref b), some x, some (.int w1), some o, some (.int at_), some (.ref p)] G1 := by
    intro G1 x1 bag1
    have wk : Xt (p :: bs) G G1 := x1.weak (by simpa using .inr hb)
    refine b__law_bent_e1 (dz := dz) hb (fun c m => ?_) bag1 np (x1.get nb' e) a0 (by omega) hz (Dv.xt wk rz') (gs.2 _ (List.mem_of_getElem? hdz)) hM hM2 fun r1 d1 G2 x2 bag2 h2 g2 => ?_
    · rcases List.mem_cons.mp m with rfl | m
      · rw [x1.get nb' e]; simp
      · by_cases q : c = b
        · rw [q]; exact bag1.some
        · intro z; exact ha c m ((xt.trans x1).free (by simpa using q) z)
    · have x3 : Xt [b] G0 (st G2 p (.lst (xs.set at_.toNat r1))) := ((xt.trans x1).trans x2).put' hp0
      have wk2 : Xt (p :: bs) G G2 := wk.trans (x2.weak (by simpa using .inr hb))
      have xb : Xt (p :: bs) G2 (st G2 p (.lst (xs.set at_.toNat r1))) := .put (by simp)
      refine fin (es := ds.set at_.toNat d1) x3 (bag2.xt (.put (bs := [p]) (by simp)) (fun m => nb (List.mem_singleton.mp m).symm)) ((h'.xt (wk2.trans xb)).sub fun _ => List.mem_cons_of_mem _) st_same np
        ((Dvs.xt xb (Dds.set h2 _ (Dvs.xt wk2 r'))).sub fun _ => List.mem_cons_of_mem _) ?_ fun y hy => ?_
      · rw [List.length_set]; omega
      · rcases List.mem_or_eq_of_mem_set hy with hy | rfl
        · exact gw y hy
        · exact g2
  unfold t__law_bent_s1
  walk_at "e"
  refine ⟨fun _ => ?_, fun _ => ⟨fun _ => ?_, fun _ => ⟨fun _ => ?_, fun _ => ⟨fun _ => ?_, fun _ => ?_⟩⟩⟩⟩
  · -- one out
    refine ⟨xs, .inl e, fun p1 h1 => ⟨xs, .inl (st_old h1 e), fun p2 h2 => ⟨_, st_old h2 st_same, _, st_same, ?_, fun p3 h3 => ?_⟩⟩⟩
    · have := cut_le (xs := xs) (lo := none) (hi := some at_); have := cut_le (xs := xs) (lo := some (at_ + 1)) (hi := none)
      exact line_of (by omega)
    · have x1 : Ext G (st (st (st G p1 (.lst (cut xs none (some at_)))) p2 (.lst (cut xs (some (at_ + 1)) none))) p3 (.lst (cut xs none (some at_) ++ cut xs (some (at_ + 1)) none))) := ((Xt.new h1).trans (.new h2)).trans (.new h3)
      refine fin (xt.trans x1.ext) (bag.ext x1) (h.xt x1.ext) st_same (fr xt bag (st_new_none (st_new_none h3))) (Dvs.xt x1.ext ((Dds.cut r none (some at_)).append (Dds.cut r (some (at_ + 1)) none))) ?_ fun y hy => ?_
      · rw [List.length_append, cut_to a0, cut_from (by omega), List.length_take, List.length_drop]; omega
      · rcases List.mem_append.mp hy with hy | hy <;> exact gw y (cut_sub hy)
  · -- one twice
    refine ⟨xs, .inl e, fun p1 h1 => ⟨xs, .inl (st_old h1 e), z, hz, by simp [sizeLine], fun p2 h2 => ⟨_, st_old h2 st_same, _, st_same, ?_, fun p3 h3 => ⟨xs, .inl (st_old h3 (st_old h2 (st_old h1 e))), fun p4 h4 => ⟨_, st_old h4 st_same, _, st_same, ?_, fun p5 h5 => ?_⟩⟩⟩⟩⟩
    · have := cut_le (xs := xs) (lo := none) (hi := some at_); simp only [List.length_cons, List.length_nil]
      exact line_of (by omega)
    · have := cut_le (xs := xs) (lo := none) (hi := some at_); have := cut_le (xs := xs) (lo := some at_) (hi := none); simp only [List.length_append, List.length_cons, List.length_nil]
      exact line_of (by omega)
    · have x1 := ((((Xt.new (o := .lst (cut xs none (some at_))) h1).trans (.new (o := .lst [z]) h2)).trans (.new (o := .lst (cut xs none (some at_) ++ [z])) h3)).trans (.new (o := .lst (cut xs (some at_) none)) h4)).trans (.new (o := .lst (cut xs none (some at_) ++ [z] ++ cut xs (some at_) none)) h5)
      refine fin (es := cut ds none (some at_) ++ [dz] ++ cut ds (some at_) none) (xt.trans x1.ext) (bag.ext x1) (h.xt x1.ext) st_same (fr xt bag (st_new_none (st_new_none (st_new_none (st_new_none h5))))) (Dvs.xt x1.ext (((Dds.cut r none (some at_)).append (.cons rz .nil)).append (Dds.cut r (some at_) none))) ?_ fun y hy => ?_
      · rw [List.length_append, List.length_append, cut_to a0, cut_from (by omega), List.length_take, List.length_drop, List.length_cons, List.length_nil]; omega
      · rcases List.mem_append.mp hy with hy | hy
        · rcases List.mem_append.mp hy with hy | hy
          · exact gw y (cut_sub hy)
          · rw [List.mem_singleton.mp hy]; exact gw _ (List.mem_of_getElem? hdz)
        · exact gw y (cut_sub hy)
  · -- two exchanged
    obtain ⟨y, hy, hym, hy2⟩ := atI_mem (xs := xs) (i := 0) (Int.le_refl 0) (by omega)
    obtain ⟨dy, hdy, ry'⟩ := Dds.get r' hy2
    refine ⟨xs, .inl e, y, hy, xs, .inl e, z, hz, by simp [sizeLine], xs, e, at_.toNat, ixN_of a0 (by omega), _, st_same, 0, ixN_of (Int.le_refl 0) (by rw [List.length_set]; omega), ?_⟩
    rw [st_st]
    have x1 : Xt [b] G0 (st G p (.lst ((xs.set at_.toNat y).set 0 z))) := xt.put' hp0
    have xb : Xt [p] G (st G p (.lst ((xs.set at_.toNat y).set 0 z))) := .put (by simp)
    refine fin (es := (ds.set at_.toNat dy).set 0 dz) x1 (bag.xt xb (fun m => nb (List.mem_singleton.mp m).symm)) ((h'.xt (xb.weak (by simp))).sub fun _ => List.mem_cons_of_mem _) st_same np ((Dvs.xt (xb.weak (by simp)) ((r'.set ry' _).set rz' 0)).sub fun _ => List.mem_cons_of_mem _) ?_ fun y hy => ?_
    · rw [List.length_set, List.length_set]; omega
    · rcases List.mem_or_eq_of_mem_set hy with hy | rfl
      · rcases List.mem_or_eq_of_mem_set hy with hy | rfl
        · exact gw y hy
        · exact gw _ (List.mem_of_getElem? hdy)
      · exact gw _ (List.mem_of_getElem? hdz)
  · -- the other kind, or one bent
    refine ⟨b, 4, rfl, bag, by decide, by decide, fun r0 G1 _ _ x1 bag1 => ?_⟩
    walk_at "e"
    refine ⟨fun _ => ?_, fun _ => bentOne x1 bag1⟩
    have h1 := h.xt (x1.weak (by simpa using hb))
    have r1 := Dvs.xt (x1.weak (by simpa using hb)) r
    have x2 : ∀ {p1 p2 o1 o2}, G1 p1 = none → st G1 p1 o1 p2 = none → Ext G1 (st (st G1 p1 o1) p2 o2) := fun h1 h2 => (Xt.new h1).trans (.new h2)
    have go : ∀ {p1 p2 o2}, G1 p1 = none → st G1 p1 (.lst xs) p2 = none → ∀ t ∈ [D.ref p1, .tup xs], E.rt t (st (st G1 p1 (.lst xs)) p2 o2) := fun {p1 p2 o2} k1 k2 t ht => by
      have xx := x2 (o2 := o2) k1 k2
      have n1 : p1 ∉ bs := fr (xt.trans x1) bag1 k1
      have rr := Dvs.xt xx.ext r1
      have e1 : st (st G1 p1 (.lst xs)) p2 o2 p1 = some (.lst xs) := st_old k2 st_same
      rcases List.mem_cons.mp ht with rfl | ht
      · exact hq _ (.lst ds) _ ((xt.trans x1).trans xx.ext) (bag1.ext xx) (Dv.lstI n1 e1 rr) (gd_lst.mpr ⟨by omega, gw⟩)
      · rw [List.mem_singleton.mp ht]
        exact hq _ (.tup ds) _ ((xt.trans x1).trans xx.ext) (bag1.ext xx) (.tup rr) (gd_tup.mpr ⟨by omega, gw⟩)
    rcases hd with ⟨rfl, rfl⟩ | ⟨a, rfl, sq, rfl⟩
    · walk_at "e"
      refine ⟨line_of (by omega), fun p1 k1 => ⟨by simp [sizeLine], fun p2 k2 => ⟨rfl, tc_lst, _, .inl st_same, ?_⟩⟩⟩
      obtain ⟨t, ht, hm, _⟩ := atI_mem (xs := [D.ref p1, .tup xs]) (i := 0) (by decide) (by simp only [List.length_cons, List.length_nil]; omega)
      exact ⟨t, ht, go k1 k2 t hm⟩
    · walk_at "e"
      have na : a ∉ [b] := fun m => by
        rw [List.mem_singleton.mp m] at h
        obtain ⟨a', xs', e1, sq', _⟩ := Dd.lst_inv h
        cases e1
        rcases sq' with q | q <;> (unfold hide at q; rw [if_pos hb] at q; cases q)
      have sq1 := x1.seq na sq
      refine ⟨xs, sq1, fun p1 k1 => ⟨xs, (Xt.new k1).seq (by simp) sq1, by simp [sizeLine], fun p2 k2 => ?_⟩⟩
      have h2 := (h1.xt (x2 (o2 := .lst [.ref p1, .tup xs]) (o1 := .lst xs) k1 k2).ext).dd
      refine ⟨h2.kn, tc_lst, _, .inl st_same, ?_⟩
      rw [h2.is]
      obtain ⟨t, ht, hm, _⟩ := atI_mem (xs := [D.ref p1, .tup xs]) (i := 1) (by decide) (by simp only [List.length_cons, List.length_nil]; omega)
      exact ⟨t, ht, go k1 k2 t hm⟩
  · exact bentOne .refl bag
end
section
variable {w : Wx} {E : En} {b : Addr} {bs : List Addr} {G0 G : Hd} {x d : D} {M n : Nat}
theorem Dv.not_in {bs : List Addr} {G : Hd} {a : Addr} {d : D} (h : Dv bs G (.ref a) d) : a ∉ bs := fun m => by
  cases h with
  | lst e _ => unfold hide at e; rw [if_pos m] at e; cases e
  | rol e _ => unfold hide at e; rw [if_pos m] at e; cases e
theorem isV_seq {d : D} (h : (isV d "tuple" || isV d "list") = true) : (∃ ds, d = .tup ds) ∨ ∃ ds, d = .lst ds := by cases d <;> first | exact .inl ⟨_, rfl⟩ | exact .inr ⟨_, rfl⟩ | cases h
theorem b__law_bent_r3 {w1 : Int} {o : D} {o4 o5 : Option D} {xs ds : List D} (hb : b ∈ bs) (ha : ∀ c ∈ bs, G c ≠ none) (bag : Bag G b) (h : Dv bs G x d) (r : Dvs bs G xs ds) (gs : ds.length ≤ M ∧ ∀ y ∈ ds, gd M n y) (hM : 10 ≤ M) (hM2 : M ≤ 1000) (l0 : 0 < ds.length)
    (hd : (x = .tup xs ∧ d = .tup ds) ∨ (∃ a, x = .ref a ∧ seqG G a xs ∧ d = .lst ds))
    (hq : ∀ r d' G', Xt [b] G G' → Bag G' b → Dv bs G' r d' → gd (M + 1) (n + 3) d' → E.rt r G') : t__law_bent_r3 (sp__law_bent (n + 1)) w E [some (.ref b), some x, some (.int w1), some o, o4, o5] G := by
  have el := Dds.length r
  have key : ∀ {G1 : Hd} {p : Addr} {at_ : Int}, Xt [b] G G1 → Bag G1 b → G1 p = none → 0 ≤ at_ → at_ < ds.length → (∀ a, x = .ref a → seqG G a xs → seqG G1 a xs) → t__law_bent_s1 (sp__law_bent (n + 1)) w E [some (.ref b), some x, some (.int w1), some o, some (.int at_), some (.ref p)] (st G1 p (.lst xs)) := by
    intro G1 p at_ x1 bag1 hp a0 a1 hs
    have wk : Xt bs G G1 := x1.weak (by simpa using hb)
    have np : p ∉ bs := fun m => by
      by_cases q : p = b
      · exact bag1.some (q ▸ hp)
      · exact ha p m (x1.free (by simpa using q) hp)
    have xb : Ext G1 (st G1 p (.lst xs)) := .new hp
    have nb : p ∉ [b] := fun m => np (by rw [List.mem_singleton.mp m]; exact hb)
    refine b__law_bent_s1 hb ha (bag1.ext xb) (x1.trans xb.ext) (Dv.xt xb.ext (Dv.fresh hp (h.xt wk))) (x1.free nb hp) st_same (Dvs.xt xb.ext (by unfold Dvs; rw [hide_fresh hp]; exact Dvs.xt wk r)) gs hM hM2 a0 a1 ?_ hq
    rcases hd with ⟨rfl, rfl⟩ | ⟨a, rfl, sq, rfl⟩
    · exact .inl ⟨rfl, rfl⟩
    · exact .inr ⟨a, rfl, xb.seq (by simp) (hs a rfl sq), rfl⟩
  have na : ∀ a, x = .ref a → a ∉ [b] := fun a e m => by
    rw [List.mem_singleton.mp m] at e
    subst e
    exact Dv.not_in h hb
  unfold t__law_bent_r3
  rcases hd with ⟨rfl, rfl⟩ | ⟨a, rfl, sq, rfl⟩
  · walk_at "e"
    refine ⟨b, _, rfl, bag, by omega, by omega, fun r0 G1 r0' r1' x1 bag1 => ⟨line_of (by omega), fun p hp => ?_⟩⟩
    exact key x1 bag1 hp r0' (by omega) (fun a e => by cases e)
  · walk_at "e"
    refine ⟨_, .inl ⟨xs, sq, rfl⟩, b, _, rfl, bag, by omega, by omega, fun r0 G1 r0' r1' x1 bag1 => ⟨xs, x1.seq (na a rfl) sq, fun p hp => ?_⟩⟩
    exact key x1 bag1 hp r0' (by omega) (fun a e q => by cases e; exact x1.seq (na a rfl) q)
theorem b__law_bent_r4 {w1 : Int} {o od : D} {o4 o5 : Option D} (hb : b ∈ bs) (ha : ∀ c ∈ bs, G c ≠ none) (bag : Bag G b) (h : Dv bs G x d) (g : gd M n d) (hM : 10 ≤ M) (hM2 : M ≤ 1000) (ho : Dv bs G o od) (go : gd 10 2 od)
    (hq : ∀ r d' G', Xt [b] G G' → Bag G' b → Dv bs G' r d' → gd (M + 1) (n + 2) d' → E.rt r G') : t__law_bent_r4 (sp__law_bent n) w E [some (.ref b), some x, some (.int w1), some o, o4, o5] G := by
  have odd : E.rt o G := hq _ _ _ .refl bag ho (go.weak (by omega) (by omega))
  unfold t__law_bent_r4
  walk_at "e"
  refine ⟨by simp [sizeLine], h.dd.kn, by decide +kernel, ?_⟩
  simp only [List.any_cons, List.any_nil, isDc, h.dd.is, Bool.or_false]
  refine ⟨fun _ => odd, fun e => ?_⟩
  have e' := isV_seq (d := d) (by simpa only [Bool.not_eq_false'] using e)
  cases n with
  | zero => rcases e' with ⟨ds, rfl⟩ | ⟨ds, rfl⟩ <;> simp only [gd] at g
  | succ n =>
    rcases e' with ⟨ds, rfl⟩ | ⟨ds, rfl⟩
    · rw [gd_tup] at g
      obtain ⟨xs, rfl, hs⟩ := Dd.tup_inv h
      have el := Dds.length hs
      walk_at "e"
      refine ⟨fun _ => odd, fun e1 => ⟨fun _ => odd, fun e2 => ?_⟩⟩
      exact b__law_bent_r3 hb ha bag h hs g hM hM2 (by rw [decide_eq_false_iff_not] at e1; omega) (.inl ⟨rfl, rfl⟩) hq
    · rw [gd_lst] at g
      obtain ⟨a, xs, rfl, sq, hs⟩ := Dd.lst_inv h
      have na : a ∉ bs := fun m => by
        rcases sq with e | e <;> (unfold hide at e; rw [if_pos m] at e; cases e)
      have sq' : seqG G a xs := sq.elim (fun e => .inl (by rwa [hide_at na] at e)) fun e => .inr (by rwa [hide_at na] at e)
      have el := Dds.length hs
      walk_at "e"
      refine ⟨_, .inl ⟨xs, sq', rfl⟩, fun _ => odd, fun e1 => ⟨fun _ => odd, fun e2 => ?_⟩⟩
      exact b__law_bent_r3 hb ha bag h hs g hM hM2 (by rw [decide_eq_false_iff_not] at e1; omega) (.inr ⟨a, rfl, sq', rfl⟩) hq
end
theorem b__law_bent (n : Nat) : Body (t__law_bent (sp__law_bent n)) N__law_bent (sp__law_bent (n + 1)) := by
  rintro ds G q x ⟨b, x, d, bs, M, rfl, hb, ha, bag, h, g, hM, hM2, hq⟩
  unfold t__law_bent N__law_bent t__law_bent_s2
  walk_at "e"
  refine ⟨b, 8, rfl, bag, by decide, by decide, fun w1 G1 w0 w8 x1 bag1 => ?_⟩
  have wk1 : Xt bs G G1 := x1.weak (by simpa using hb)
  have al : ∀ {G' : Hd}, Xt [b] G G' → Bag G' b → ∀ c ∈ bs, G' c ≠ none := fun {G'} x1 b1 c m z => by
    by_cases q : c = b
    · exact b1.some (q ▸ z)
    · exact ha c m (x1.free (by simpa using q) z)
  refine ⟨b, bs, rfl, hb, al x1 bag1, bag1, fun o od G2 x2 bag2 ho go => ?_⟩
  have wk2 : Xt bs G G2 := wk1.trans (x2.weak (by simpa using hb))
  have h2 := h.xt wk2
  refine ⟨x, d, rfl, h2.dd, _, rfl, fun e1 => ⟨fun e2 => ?_, fun e2 => ?_⟩, fun e1 => ?_⟩
  · obtain ⟨i, rfl⟩ := whole_int e1
    cases h2.dd.int_inv
    walk_at "e"
    refine ⟨by simp [sizeLine], fun p hp => ⟨_, .inl st_same, ?_⟩⟩
    have al4 : ∀ z ∈ [D.int 1, .int (-1), .int 1040, .int 100000], ∃ j, z = .int j := by simp
    obtain ⟨z, hz, hm, _⟩ := atI_mem (xs := [D.int 1, .int (-1), .int 1040, .int 100000]) (i := w1) w0 (by simp at e2 ⊢; omega)
    obtain ⟨j, rfl⟩ := al4 z hm
    refine ⟨_, hz, ?_⟩
    exact hq _ (.int (i + j)) _ ((x1.trans x2).trans (Xt.news hp)) (bag2.ext (.new hp)) (.int _) gd_int
  · exact b__law_bent_r4 hb (al (x1.trans x2) bag2) bag2 h2 g hM hM2 ho go fun r d' G' x3 => hq r d' G' ((x1.trans x2).trans x3)
  · exact b__law_bent_r4 hb (al (x1.trans x2) bag2) bag2 h2 g hM hM2 ho go fun r d' G' x3 => hq r d' G' ((x1.trans x2).trans x3)

end S

set_option Elab.async false
set_option linter.all false
set_option maxRecDepth 100000
set_option maxHeartbeats 4000000
namespace S
open PySem PySem.Spec L2
open PyProof.Rows hiding St
local macro_rules | `(tactic| walk_at "e") => `(tactic| simp only [dSeq, dNext, dRet, dRetN, dIf, dAsg, dAug, dDrop, dPar, dBreak, dCont, dgName, dgSub, dgTup, dgCons, dgNil, dFor_eq, dLc_eq, dVar, dC, dOp, dUn, dBi, dCall, dCons, dNil, dTup, dLst, dSl, dPart, dNoPart, dAndV, dOrV, dNotV, dB, dAnd, dOr, dNot, dIfE, dChain, dItV, dRng, dWalk, dBm, rng1, rng2,
  BI.r, addD, subD, mulD, modD, divD, powD, intD, ltD, leD, gtD, geD, negD, ixD, slD, setD, isND, isNon, lenD, isiD, listD, tupleD, allD, anyD, sumD, maxD, minD, absD, intBD, appendD, extendD, startD, wipeD,
  List.map_cons, List.map_nil, rep_z, rep_s, List.length_cons, List.length_nil, List.cons_append, List.nil_append, List.append_nil, List.getElem?_cons_zero, List.getElem?_cons_succ, List.set_cons_zero, List.set_cons_succ, Option.some.injEq, exists_eq_left', exists_eq_left, D.bl.injEq, D.int.injEq, D.tup.injEq, D.ref.injEq, true_and, and_true, Nat.reduceAdd, Nat.reduceSub, Nat.add_sub_cancel_left, exists_const, br_t, br_f, eqR_int, eqR_bl, Bool.false_bne, Bool.true_bne, Bool.false_xor, Bool.true_xor, ite_true, ite_false, Bool.true_eq_false, false_implies])
local macro_rules | `(tactic| walk_at "g") => `(tactic| simp only [st_same, st_st, GO.lst.injEq, Option.some.injEq, exists_eq_left', exists_eq_left, atI_0, atI_1, atI_2, atI_3, ixN_0, ixN_1, ixN_2, ixN_3, List.set_cons_zero, List.set_cons_succ, List.length_cons, List.length_nil, List.length_append, List.cons_append, List.nil_append, true_and, and_true, seq_st, tc_int, tc_bool, tc_str, tc_tup, tc_lst, tc_non, tc_dic])
/-! ## rates -/
def sp__law_rates : DSp := fun ds G q _ => ∃ b, ds = [.ref b] ∧ Bag G b ∧ ∀ (rs : List (List Int)) G', rs.length = 10 → (∀ r ∈ rs, r.length = 10 ∧ ∀ z ∈ r, 0 ≤ z ∧ z < 1000) → Xt [b] G G' → Bag G' b → q (.tup (rs.map fun r => .tup (r.map .int))) G'
def t__law_rates_r1 : TSd := dRet (dBi (BI.r .tuple) (dCons (dLc (dRng rng1 (dCons (dC (.int 10)) (dNil))) (dgName 6) dYes (dBi (BI.r .tuple) (dCons (dLc (dRng rng1 (dCons (dC (.int 10)) (dNil))) (dgName 5) dYes (dCall sp__law_take (dCons (dVar 0) (dCons (dVar 1) (dNil)))) [5]) (dNil))) [6]) (dNil)))
def t__law_rates_s1 : TSd := dSeq (dIf (dB (dOp (eqR false) (dCall sp__law_take (dCons (dVar 0) (dCons (dC (.int 2)) (dNil)))) (dC (.int 0)))) (dSeq (dAsg (dLc (dRng rng1 (dCons (dC (.int 10)) (dNil))) (dgName 3) dYes (dCall sp__law_take (dCons (dVar 0) (dCons (dVar 1) (dNil)))) [3]) (dgName 2)) (dSeq (dAsg (dLc (dRng rng1 (dCons (dC (.int 10)) (dNil))) (dgName 3) dYes (dCall sp__law_take (dCons (dVar 0) (dCons (dVar 1) (dNil)))) [3]) (dgName 4)) (dRet (dBi (BI.r .tuple) (dCons (dLc (dItV (dVar 2)) (dgName 6) dYes (dBi (BI.r .tuple) (dCons (dLc (dItV (dVar 4)) (dgName 5) dYes (dOp modD (dOp addD (dVar 6) (dVar 5)) (dVar 1)) [5]) (dNil))) [6]) (dNil)))))) (dNext)) t__law_rates_r1
def N__law_rates : List Str := ["_law_bag_here", "_law_most", "_law_ahead", "_law_kind", "_law_behind", "_law_b", "_law_a"]
def P__law_rates : List Str := ["_law_bag_here"]
def t__law_rates : TSd := dSeq (dAsg (dOp ixD (dLst (dCons (dC (.int 1)) (dCons (dC (.int 2)) (dCons (dC (.int 4)) (dCons (dC (.int 1000)) (dNil)))))) (dCall sp__law_take (dCons (dVar 0) (dCons (dC (.int 4)) (dNil))))) (dgName 1)) t__law_rates_s1
def gl__law_rates : List (Str × GI) := [("_law_take", .fn sp__law_take), ("range", .rng), ("tuple", .bi .tuple)]
theorem len__law_rates : ∀ ds G q x, sp__law_rates ds G q x → ds.length = P__law_rates.length := by
  rintro _ _ _ _ ⟨b, rfl, _⟩; rfl
theorem ints_of {P : Int → Prop} : ∀ {ys : List D}, (∀ (i : Nat) y, ys[i]? = some y → ∃ z, y = .int z ∧ P z) → ∃ zs : List Int, ys = zs.map D.int ∧ ∀ z ∈ zs, P z
  | [], _ => ⟨[], rfl, fun _ h => by cases h⟩
  | y :: ys, h => by
    obtain ⟨z, rfl, pz⟩ := h 0 y rfl
    obtain ⟨zs, rfl, pzs⟩ := ints_of (ys := ys) fun i y e => h (i + 1) y (by simpa using e)
    exact ⟨z :: zs, rfl, fun w hw => by
      rcases List.mem_cons.mp hw with rfl | hw
      · exact pz
      · exact pzs w hw⟩
theorem vals_of {α : Type} {f : α → D} {P : α → Prop} : ∀ {ys : List D}, (∀ (i : Nat) y, ys[i]? = some y → ∃ z, y = f z ∧ P z) → ∃ zs : List α, ys = zs.map f ∧ ∀ z ∈ zs, P z
  | [], _ => ⟨[], rfl, fun _ h => by cases h⟩
  | y :: ys, h => by
    obtain ⟨z, rfl, pz⟩ := h 0 y rfl
    obtain ⟨zs, rfl, pzs⟩ := vals_of (f := f) (P := P) (ys := ys) fun i y e => h (i + 1) y (by simpa using e)
    exact ⟨z :: zs, rfl, fun w hw => by
      rcases List.mem_cons.mp hw with rfl | hw
      · exact pz
      · exact pzs w hw⟩
/-- [take(bag, k) for _ in range(n)] -/
theorem lcR_takes {vs : List Nat} {σ : Sd} {Q : Qd} {xs : List D} {G0 : Hd} {g : TGd} {te : TEd} {b : Addr} {k : Int} (bag : Bag G0 b) (hl : xs.length ≤ 1000000)
    (el : ∀ (i : Nat) (x : D), xs[i]? = some x → ∀ G' Q', Bag G' b → (∀ r G'', 0 ≤ r → r < k → Xt [b] G' G'' → Bag G'' b → Q' (.int r) G'') → g W0 x (wipeD σ vs) G' fun σ2 G2 => te W0 σ2 G2 Q')
    (q : ∀ p G' (zs : List Int), G0 p = none → Xt [b] G0 G' → Bag G' b → G' p = some (.lst (zs.map D.int)) → zs.length = xs.length → (∀ z ∈ zs, 0 ≤ z ∧ z < k) → Q (.ref p) G') : lcR g dYes te vs σ Q xs (fun _ => True) G0 := by
  refine lcR_drawn [b] (fun G => Bag G b) (fun _ y => ∃ z, y = .int z ∧ 0 ≤ z ∧ z < k) (fun G G' h e => h.eq (e b (by simp))) (fun c m => by rw [List.mem_singleton.mp m]; exact bag.some) bag hl (fun _ _ => trivial) ?_ ?_
  · intro i x e G' Q' _ bg kk
    exact el i x e G' Q' bg fun r G'' r0 r1 x2 b2 => kk _ _ x2 b2 ⟨r, rfl, r0, r1⟩
  · intro p G' ys hp xt bg e l r
    obtain ⟨zs, rfl, hz⟩ := ints_of r
    exact q p G' zs hp xt bg e (by simpa using l) hz
theorem fresh_b {G : Hd} {b p : Addr} (h : Bag G b) (hp : G p = none) : p ∉ [b] := fun m => h.some (by rw [← List.mem_singleton.mp m]; exact hp)
theorem b__law_rates : Body t__law_rates N__law_rates sp__law_rates := by
  rintro ds G q x ⟨b, rfl, bag, hq⟩
  unfold t__law_rates N__law_rates t__law_rates_s1
  walk_at "e"
  refine ⟨by simp [sizeLine], fun p0 hp0 => ⟨b, 4, rfl, bag.ext (.new hp0), by decide, by decide, fun r0 G1 r00 r01 x1 bag1 => ⟨_, .inl (x1.get (fresh_b bag hp0) st_same), ?_⟩⟩⟩
  have al4 : ∀ z ∈ [D.int 1, .int 2, .int 4, .int 1000], ∃ j, z = .int j ∧ 0 < j ∧ j ≤ 1000 := by
    simp only [List.forall_mem_cons]
    exact ⟨⟨_, rfl, by decide, by decide⟩, ⟨_, rfl, by decide, by decide⟩, ⟨_, rfl, by decide, by decide⟩, ⟨_, rfl, by decide, by decide⟩, by simp⟩
  obtain ⟨z, hz, hm, _⟩ := atI_mem (xs := [D.int 1, .int 2, .int 4, .int 1000]) (i := r0) r00 (by simp; omega)
  obtain ⟨k, rfl, k0, k1⟩ := al4 z hm
  refine ⟨_, hz, b, 2, rfl, bag1, by decide, by decide, fun r1 G2 r10 r11 x2 bag2 => ?_⟩
  have x02 : Xt [b] G G2 := ((Xt.new hp0).ext.trans x1).trans x2
  walk_at "e"
  refine ⟨fun _ => ⟨by decide, ?_⟩, fun _ => ?_⟩
  · refine lcR_takes (k := k) bag2 (by simp [rngL]) (fun i x e G' Q' bg kk => ?_) fun pa G3 za hpa x3 bag3 ea la hza => ?_
    · walk_at "e"
      exact ⟨b, k, rfl, bg, k0, by omega, kk⟩
    walk_at "e"
    refine ⟨by decide, ?_⟩
    refine lcR_takes (k := k) bag3 (by simp [rngL]) (fun i x e G' Q' bg kk => ?_) fun pb G4 zb hpb x4 bag4 eb lb hzb => ?_
    · walk_at "e"
      exact ⟨b, k, rfl, bg, k0, by omega, kk⟩
    have na : pa ∉ [b] := fresh_b bag2 hpa
    have ea4 : G4 pa = some (.lst (za.map D.int)) := x4.get na ea
    refine ⟨_, .inl ea4, ?_⟩
    refine lcR_val (fun x => match x with
      | .int i => .tup ((zb.map fun j => (i + j) % k).map D.int)
      | _ => .non) (by rw [List.length_map, la]; simp [rngL]) (fun G' xt => xt.seq (by simp) (.inl ea4)) (fun x hx G' Q' xt kk => ?_) fun p G5 hp x5 e5 => ?_
    · obtain ⟨i, hi, rfl⟩ := List.mem_map.mp hx
      walk_at "e"
      refine ⟨_, xt.seq (by simp) (.inl eb), ?_⟩
      refine lcR_val (fun x => match x with
        | .int j => .int ((i + j) % k)
        | _ => .non) (by rw [List.length_map, lb]; simp [rngL]) (fun G' x6 => x6.seq (by simp) (xt.seq (by simp) (.inl eb))) (fun y hy G6 Q6 x6 k6 => ?_) fun p G5 hp x5 e5 => ?_
      · obtain ⟨j, hj, rfl⟩ := List.mem_map.mp hy
        walk_at "e"
        exact ⟨k0, k6 _ .refl⟩
      · walk_at "e"
        refine ⟨_, .inl e5, ?_⟩
        have := kk G5 x5
        simpa [List.map_map, Function.comp_def] using this
    · walk_at "e"
      refine ⟨_, .inl e5, ?_⟩
      have := hq (za.map fun i => zb.map fun j => (i + j) % k) G5 (by simp [la, rngL]) (fun r hr => ?_) (((x02.trans x3).trans x4).trans x5.ext) (bag4.ext x5)
      · simpa [List.map_map, Function.comp_def] using this
      · obtain ⟨i, hi, rfl⟩ := List.mem_map.mp hr
        refine ⟨by simp [lb, rngL], fun z hz => ?_⟩
        obtain ⟨j, hj, rfl⟩ := List.mem_map.mp hz
        have := Int.emod_lt_of_pos (i + j) k0
        exact ⟨Int.emod_nonneg _ (by omega), by omega⟩
  · unfold t__law_rates_r1
    walk_at "e"
    refine ⟨by decide, ?_⟩
    refine lcR_drawn [b] (fun G => Bag G b) (fun _ y => ∃ r : List Int, y = .tup (r.map D.int) ∧ r.length = 10 ∧ ∀ z ∈ r, 0 ≤ z ∧ z < 1000) (fun G G' h e => h.eq (e b (by simp))) (fun c m => by rw [List.mem_singleton.mp m]; exact bag2.some) bag2 (by simp [rngL]) (fun _ _ => trivial) ?_ ?_
    · intro i x e G' Q' x3 bg kk
      walk_at "e"
      refine ⟨by decide, ?_⟩
      refine lcR_takes (k := k) bg (by simp [rngL]) (fun i x e G' Q' bg kk => ?_) fun pa G3 za hpa x3 bag3 ea la hza => ?_
      · walk_at "e"
        exact ⟨b, k, rfl, bg, k0, by omega, kk⟩
      walk_at "e"
      exact ⟨_, .inl ea, kk _ _ x3 bag3 ⟨za, rfl, by rw [la]; simp [rngL], fun z hz => ⟨(hza z hz).1, by have := (hza z hz).2; omega⟩⟩⟩
    · intro p G' ys hp x3 bg e l r
      obtain ⟨rs, rfl, hr⟩ := vals_of (f := fun r : List Int => D.tup (r.map D.int)) r
      walk_at "e"
      exact ⟨_, .inl e, hq rs G' (by simpa [rngL] using l) hr (x02.trans x3) bg⟩
def ratesV : D → Bool
  | .tup xs => decide (xs.length = 10) && xs.all (rowV 10 10 999)
  | _ => false
def sp_is_rates : DSp := fun ds G q _ => ∃ x d, ds = [x] ∧ Dd G x d ∧ ∀ G', Ext G G' → q (.bl (ratesV d)) G'
def t_is_rates_r1 : TSd := dRet (dBi (BI.r .all) (dCons (dLc (dItV (dVar 0)) (dgName 1) dYes (dCall sp_is_row (dCons (dVar 1) (dCons (dOp addD (dC (.int 9)) (dC (.int 1))) (dCons (dOp addD (dC (.int 9)) (dC (.int 1))) (dCons (dC (.int 999)) (dNil)))))) [1]) (dNil)))
def N_is_rates : List Str := ["thing", "row"]
def P_is_rates : List Str := ["thing"]
def t_is_rates : TSd := dSeq (dIf (dOr (dNot (dB (dBi (BI.r .isi) (dCons (dVar 0) (dCons (dC (.ty "tuple")) (dNil)))))) (dB (dOp (eqR true) (dBi (BI.r .len) (dCons (dVar 0) (dNil))) (dOp addD (dC (.int 9)) (dC (.int 1)))))) (dRet (dC (.bl false))) (dNext)) t_is_rates_r1
def gl_is_rates : List (Str × GI) := [("len", .bi .len), ("EDGE", .cst (.int 9)), ("isinstance", .bi .isi), ("tuple", .bi .tuple), ("all", .bi .all), ("is_row", .fn sp_is_row), ("MOST_RATE", .cst (.int 999))]
theorem len_is_rates : ∀ ds G q x, sp_is_rates ds G q x → ds.length = P_is_rates.length := by
  rintro _ _ _ _ ⟨x, d, rfl, _⟩; rfl
abbrev sp__law_is_rates : DSp := sp_is_rates
def t__law_is_rates_r1 : TSd := dRet (dBi (BI.r .all) (dCons (dLc (dItV (dVar 0)) (dgName 1) dYes (dCall sp__law_is_row (dCons (dVar 1) (dCons (dC (.int 10)) (dCons (dC (.int 10)) (dCons (dC (.int 999)) (dNil)))))) [1]) (dNil)))
def N__law_is_rates : List Str := ["_law_thing", "_law_row"]
def P__law_is_rates : List Str := ["_law_thing"]
def t__law_is_rates : TSd := dSeq (dIf (dOr (dNot (dB (dBi (BI.r .isi) (dCons (dVar 0) (dCons (dC (.ty "tuple")) (dNil)))))) (dB (dOp (eqR true) (dBi (BI.r .len) (dCons (dVar 0) (dNil))) (dC (.int 10))))) (dRet (dC (.bl false))) (dNext)) t__law_is_rates_r1
def gl__law_is_rates : List (Str × GI) := [("len", .bi .len), ("isinstance", .bi .isi), ("tuple", .bi .tuple), ("all", .bi .all), ("_law_is_row", .fn sp__law_is_row)]
theorem len__law_is_rates : ∀ ds G q x, sp__law_is_rates ds G q x → ds.length = P__law_is_rates.length := len_is_rates
theorem b_is_rates : Body t_is_rates N_is_rates sp_is_rates := by
  rintro ds G q x ⟨x, d, rfl, h, hq⟩
  unfold t_is_rates N_is_rates t_is_rates_r1
  walk_at "e"
  walk_at "g"
  refine ⟨h.kn, ?_⟩
  rw [h.is]
  refine ⟨fun e => ?_, fun e => ?_⟩
  · have e1 : ratesV d = false := by cases d <;> first | rfl | cases e
    have q1 := hq G .refl
    rw [e1] at q1
    exact q1
  · obtain ⟨ds, rfl⟩ := is_tup (d := d) (by simpa using e)
    obtain ⟨xs, rfl, hs⟩ := h.tup_inv
    have el := hs.length
    walk_at "e"
    rw [el]
    refine ⟨fun e1 => ?_, fun e1 => ?_⟩
    · have q1 := hq G .refl
      have e3 : ratesV (.tup ds) = false := by
        have : ds.length ≠ 10 := fun z => by rw [z] at e1; simp at e1
        simp [ratesV, this]
      rw [e3] at q1; exact q1
    · have l10 : ds.length = 10 := by
        simp only [Bool.not_eq_false', decide_eq_true_eq] at e1; omega
      refine lcR_look (rowV 10 10 999) hs (by omega) (fun _ _ => trivial) (fun y d r _ G' Q' xt k => ?_) fun p G' xt e => ?_
      · walk_at "e"
        exact ⟨y, d, _, _, _, rfl, r.ext xt, by decide, fun G2 x2 => k _ x2⟩
      · walk_at "e"
        refine ⟨ds.map (rowV 10 10 999), .inl e, ?_⟩
        rw [all_id]
        have q1 := hq G' xt
        have e3 : ratesV (.tup ds) = ds.all (rowV 10 10 999) := by simp [ratesV, l10]
        rw [e3] at q1; exact q1
theorem b__law_is_rates : Body t__law_is_rates N__law_is_rates sp__law_is_rates := by
  rintro ds G q x ⟨x, d, rfl, h, hq⟩
  unfold t__law_is_rates N__law_is_rates t__law_is_rates_r1
  walk_at "e"
  walk_at "g"
  refine ⟨h.kn, ?_⟩
  rw [h.is]
  refine ⟨fun e => ?_, fun e => ?_⟩
  · have e1 : ratesV d = false := by cases d <;> first | rfl | cases e
    have q1 := hq G .refl
    rw [e1] at q1
    exact q1
  · obtain ⟨ds, rfl⟩ := is_tup (d := d) (by simpa using e)
    obtain ⟨xs, rfl, hs⟩ := h.tup_inv
    have el := hs.length
    walk_at "e"
    rw [el]
    refine ⟨fun e1 => ?_, fun e1 => ?_⟩
    · have q1 := hq G .refl
      have e3 : ratesV (.tup ds) = false := by
        have : ds.length ≠ 10 := fun z => by rw [z] at e1; simp at e1
        simp [ratesV, this]
      rw [e3] at q1; exact q1
    · have l10 : ds.length = 10 := by
        simp only [Bool.not_eq_false', decide_eq_true_eq] at e1; omega
      refine lcR_look (rowV 10 10 999) hs (by omega) (fun _ _ => trivial) (fun y d r _ G' Q' xt k => ?_) fun p G' xt e => ?_
      · walk_at "e"
        exact ⟨y, d, _, _, _, rfl, r.ext xt, by decide, fun G2 x2 => k _ x2⟩
      · walk_at "e"
        refine ⟨ds.map (rowV 10 10 999), .inl e, ?_⟩
        rw [all_id]
        have q1 := hq G' xt
        have e3 : ratesV (.tup ds) = ds.all (rowV 10 10 999) := by simp [ratesV, l10]
        rw [e3] at q1; exact q1

end S

set_option Elab.async false
set_option linter.all false
set_option maxRecDepth 100000
set_option maxHeartbeats 4000000
namespace S
open PySem PySem.Spec L2
open PyProof.Rows hiding St
local macro_rules | `(tactic| walk_at "e") => `(tactic| simp only [dSeq, dNext, dRet, dRetN, dIf, dAsg, dAug, dDrop, dPar, dBreak, dCont, dgName, dgSub, dgTup, dgCons, dgNil, dFor_eq, dLc_eq, dVar, dC, dOp, dUn, dBi, dCall, dCons, dNil, dTup, dLst, dSl, dPart, dNoPart, dAndV, dOrV, dNotV, dB, dAnd, dOr, dNot, dIfE, dChain, dItV, dRng, dWalk, dBm, rng1, rng2,
  BI.r, addD, subD, mulD, modD, divD, powD, intD, ltD, leD, gtD, geD, negD, ixD, slD, setD, isND, isNon, lenD, isiD, listD, tupleD, allD, anyD, sumD, maxD, minD, absD, intBD, appendD, extendD, startD, wipeD,
  List.map_cons, List.map_nil, rep_z, rep_s, List.length_cons, List.length_nil, List.cons_append, List.nil_append, List.append_nil, List.getElem?_cons_zero, List.getElem?_cons_succ, List.set_cons_zero, List.set_cons_succ, Option.some.injEq, exists_eq_left', exists_eq_left, D.bl.injEq, D.int.injEq, D.tup.injEq, D.ref.injEq, true_and, and_true, Nat.reduceAdd, Nat.reduceSub, Nat.add_sub_cancel_left, exists_const, br_t, br_f, eqR_int, eqR_bl, Bool.false_bne, Bool.true_bne, Bool.false_xor, Bool.true_xor, ite_true, ite_false, Bool.true_eq_false, false_implies])
local macro_rules | `(tactic| walk_at "g") => `(tactic| simp only [st_same, st_st, GO.lst.injEq, Option.some.injEq, exists_eq_left', exists_eq_left, atI_0, atI_1, atI_2, atI_3, ixN_0, ixN_1, ixN_2, ixN_3, List.set_cons_zero, List.set_cons_succ, List.length_cons, List.length_nil, List.length_append, List.cons_append, List.nil_append, true_and, and_true, seq_st, tc_int, tc_bool, tc_str, tc_tup, tc_lst, tc_non, tc_dic])
/-! ## the operators at known values -/
section
variable {G : Hd} {Q : Qd} {i j k : Int} {x y : D} {xs ys : List D} {a b : Addr} {s t : Str} {p q : Bool} {lo hi : Option Int}
theorem addD_i : addD (.int i) (.int j) G Q = Q (.int (i + j)) G := rfl
theorem addD_s : addD (.str s) (.str t) G Q = (s.length + t.length ≤ sizeLine ∧ Q (.str (s ++ t)) G) := rfl
theorem addD_t : addD (.tup xs) (.tup ys) G Q = (xs.length + ys.length ≤ sizeLine ∧ Q (.tup (xs ++ ys)) G) := rfl
theorem addD_r : addD (.ref a) (.ref b) G Q = (∃ xs, G a = some (.lst xs) ∧ ∃ ys, G b = some (.lst ys) ∧ xs.length + ys.length ≤ sizeLine ∧ ∀ p, G p = none → Q (.ref p) (st G p (.lst (xs ++ ys)))) := rfl
theorem subD_i : subD (.int i) (.int j) G Q = (True ∧ Q (.int (i - j)) G) := rfl
theorem mulD_i : mulD (.int i) (.int j) G Q = (CMulW i j ∧ Q (.int (i * j)) G) := rfl
theorem mulD_r : mulD (.ref a) (.int k) G Q = (∃ xs, G a = some (.lst xs) ∧ (-(2 ^ 63) ≤ k ∧ k < 2 ^ 63 ∧ xs.length * k.toNat ≤ sizeLine) ∧ ∀ p, G p = none → Q (.ref p) (st G p (.lst (repD xs k.toNat)))) := rfl
theorem mulD_t : mulD (.tup xs) (.int k) G Q = ((xs ≠ [] ∧ 2 ≤ k ∧ k ≤ 1000 ∧ xs.length ≤ 1000) ∧ Q (.tup (repD xs k.toNat)) G) := rfl
theorem inD_t : inD p x (.tup ys) G Q = (∃ d es, Dd G x d ∧ Dds G ys es ∧ sh d ∧ sh (.tup es) ∧ Q (.bl (p ^^ es.any fun z => eqB z d)) G) := rfl
theorem inD_r : inD p x (.ref a) G Q = ((∃ ys, seqG G a ys ∧ ∃ d es, Dd G x d ∧ Dds G ys es ∧ sh d ∧ sh (.lst es) ∧ Q (.bl (p ^^ es.any fun z => eqB z d)) G) ∨ inK p x a G Q) := rfl
theorem in_k {kvs : List (D × D)} {ep : Nat} (e : G a = some (.dit kvs ep)) (ko : keyOk (.tup xs)) (h : Q (.bl (p ^^ (valT kvs (.tup xs)).isSome)) G) : inD p (.tup xs) (.ref a) G Q := .inr ⟨kvs, ep, e, ko, h⟩
theorem getD_r {y : D} : getD (.ref a) [.tup xs, y] G Q = (∃ kvs ep, G a = some (.dit kvs ep) ∧ keyOk (.tup xs) ∧ Q ((valT kvs (.tup xs)).getD y) G) := rfl
theorem ditD_r : ditD (.ref a) G = (∃ kvs ep, G a = some (.dit kvs ep)) := rfl
theorem iti_r {R : List D → (Hd → Prop) → Hd → Prop} : iti (.ref a) G R = (∃ kvs ep, G a = some (.dit kvs ep) ∧ R (kvs.map fun p => .tup [p.1, p.2]) (fun G2 => G2 a = some (.dit kvs ep)) G) := rfl
theorem listK_r : listK [.ref a] G Q = (∃ kvs ep, G a = some (.dit kvs ep) ∧ ∀ p, G p = none → Q (.ref p) (st G p (.lst (kvs.map (·.1))))) := rfl
theorem modD_i : modD (.int i) (.int j) G Q = (0 < j ∧ Q (.int (i % j)) G) := rfl
theorem divD_i : divD (.int i) (.int j) G Q = (CDivW i j ∧ Q (.int (i / j)) G) := rfl
theorem powD_i : powD (.int i) (.int j) G Q = (CPow i j ∧ Q (.int (i ^ j.toNat)) G) := rfl
theorem ltD_i : ltD (.int i) (.int j) G Q = (True ∧ Q (.bl (decide (i < j))) G) := rfl
theorem leD_i : leD (.int i) (.int j) G Q = (True ∧ Q (.bl (decide (i ≤ j))) G) := rfl
theorem gtD_i : gtD (.int i) (.int j) G Q = (True ∧ Q (.bl (decide (j < i))) G) := rfl
theorem geD_i : geD (.int i) (.int j) G Q = (True ∧ Q (.bl (decide (j ≤ i))) G) := rfl
theorem incD_i {f : Int → Int → D} : intD (fun _ _ => True) f (.int i) (.int j) G Q = (True ∧ Q (f i j) G) := rfl
theorem lr1_i : lr1 (.int j) G Q = ((-(2 ^ 62) ≤ (0 : Int) ∧ (0 : Int) < 2 ^ 62 ∧ -(2 ^ 62) ≤ j ∧ j < 2 ^ 62 ∧ (j - 0).toNat ≤ 2 ^ 24) ∧ ∀ p, G p = none → Q (.ref p) (st G p (.lst (rngL 0 1 (j - 0).toNat)))) := rfl
theorem lr2_i : lr2 (.int i) (.int j) G Q = ((-(2 ^ 62) ≤ i ∧ i < 2 ^ 62 ∧ -(2 ^ 62) ≤ j ∧ j < 2 ^ 62 ∧ (j - i).toNat ≤ 2 ^ 24) ∧ ∀ p, G p = none → Q (.ref p) (st G p (.lst (rngL i 1 (j - i).toNat)))) := rfl
theorem revD_r : revD (.ref a) G Q = (∃ xs, seqG G a xs ∧ ∀ p, G p = none → Q (.ref p) (st G p (.lst xs.reverse))) := rfl
theorem negD_i : negD (.int i) G Q = Q (.int (-i)) G := rfl
theorem isND_n : isND p x .non G Q = Q (.bl (p ^^ isNon x)) G := rfl
theorem ixD_t : ixD (.tup xs) (.int i) G Q = (∃ d, atI xs i = some d ∧ Q d G) := rfl
theorem ixD_r : ixD (.ref a) (.int i) G Q = (∃ xs, seqG G a xs ∧ ∃ d, atI xs i = some d ∧ Q d G) := rfl
theorem ixD_d : ixD (.ref a) (.tup xs) G Q = (∃ kvs ep, G a = some (.dit kvs ep) ∧ keyOk (.tup xs) ∧ ∃ d, valT kvs (.tup xs) = some d ∧ Q d G) := rfl
theorem setD_d {v : D} {R : Hd → Prop} : setD (.ref a) (.tup xs) v G R = (∃ kvs ep, G a = some (.dit kvs ep) ∧ keyOk (.tup xs) ∧ kvs.length < sizeLine ∧ ∀ ep', R (st G a (.dit (putT kvs (.tup xs) v) ep'))) := rfl
theorem sortedD_r : sortedD [.ref a] G Q = (∃ xs, seqG G a xs ∧ SrtOk G xs ∧ ∀ p, G p = none → Q (.ref p) (st G p (.lst (srt xs)))) := rfl
theorem ixD_l : ixD (.rl xs) (.int i) G Q = (∃ d, atI xs i = some d ∧ Q d G) := rfl
theorem ixD_s : ixD (.str s) (.int i) G Q = (s.length ≤ sizeLine ∧ ∃ c, atI s.cps.toList i = some c ∧ Q (.str ⟨#[c]⟩) G) := rfl
theorem slD_t : slD (.tup xs) lo hi G Q = Q (.tup (cut xs lo hi)) G := rfl
theorem slD_r : slD (.ref a) lo hi G Q = (∃ xs, seqG G a xs ∧ ∀ p, G p = none → Q (.ref p) (st G p (.lst (cut xs lo hi)))) := rfl
theorem slD_s : slD (.str s) lo hi G Q = (s.length ≤ sizeLine ∧ Q (.str (cutS s lo hi)) G) := rfl
theorem setD_r {v : D} {R : Hd → Prop} : setD (.ref a) (.int k) v G R = (∃ xs, G a = some (.lst xs) ∧ ∃ j, ixN xs.length k = some j ∧ R (st G a (.lst (xs.set j v)))) := rfl
theorem lenD_s : lenD [.str s] G Q = (s.length ≤ sizeLine ∧ Q (.int s.length) G) := rfl
theorem lenD_t : lenD [.tup xs] G Q = Q (.int xs.length) G := rfl
theorem lenD_l : lenD [.rl xs] G Q = Q (.int xs.length) G := rfl
theorem lenD_r : lenD [.ref a] G Q = (∃ n, lenG G a n ∧ Q (.int n) G) := rfl
theorem isiD_1 {n : String} : isiD [x, .ty n] G Q = (Kn G x ∧ tyNames.contains n = true ∧ Q (.bl (isD G x n)) G) := by cases x <;> rfl
theorem isiD_n {cs : List D} : isiD [x, .tup cs] G Q = (Kn G x ∧ cs.all tyIn = true ∧ Q (.bl (cs.any (isDc G x))) G) := by cases x <;> rfl
theorem listD_t : listD [.tup xs] G Q = (xs.length ≤ sizeLine ∧ ∀ p, G p = none → Q (.ref p) (st G p (.lst xs))) := rfl
theorem listD_r : listD [.ref a] G Q = (∃ xs, seqG G a xs ∧ ∀ p, G p = none → Q (.ref p) (st G p (.lst xs))) := rfl
theorem tupleD_t : tupleD [.tup xs] G Q = Q (.tup xs) G := rfl
theorem tupleD_r : tupleD [.ref a] G Q = (∃ xs, seqG G a xs ∧ Q (.tup xs) G) := rfl
theorem allD_r : allD [.ref a] G Q = (∃ bs : List Bool, seqG G a (bs.map D.bl) ∧ Q (.bl (bs.all id)) G) := rfl
theorem anyD_r : anyD [.ref a] G Q = (∃ bs : List Bool, seqG G a (bs.map D.bl) ∧ Q (.bl (bs.any id)) G) := rfl
theorem sumD_r : sumD [.ref a] G Q = (∃ ns : List Int, seqG G a (ns.map D.int) ∧ Q (.int ns.sum) G) := rfl
theorem maxD_r : maxD [.ref a] G Q = (∃ ns : List Int, seqG G a (ns.map D.int) ∧ 0 < ns.length ∧ ∀ m, m ∈ ns → (∀ y, y ∈ ns → y ≤ m) → Q (.int m) G) := rfl
theorem maxD_2 : maxD [.int i, .int j] G Q = Q (.int (max i j)) G := rfl
theorem minD_r : minD [.ref a] G Q = (∃ ns : List Int, seqG G a (ns.map D.int) ∧ 0 < ns.length ∧ ∀ m, m ∈ ns → (∀ y, y ∈ ns → m ≤ y) → Q (.int m) G) := rfl
theorem minD_2 : minD [.int i, .int j] G Q = Q (.int (min i j)) G := rfl
theorem absD_i : absD [.int i] G Q = Q (.int (i.natAbs : Int)) G := rfl
theorem intB_i : intBD [.int i] G Q = Q (.int i) G := rfl
theorem intB_b : intBD [.bl p] G Q = Q (.int (if p then 1 else 0)) G := rfl
theorem appD_r : appendD (.ref a) [y] G Q = (∃ xs, G a = some (.lst xs) ∧ xs.length < sizeLine ∧ Q .non (st G a (.lst (xs ++ [y])))) := rfl
theorem tyD_r {T : String} : tyD T (.ref a) G = ((T = "list" ∧ ∃ xs, seqG G a xs) ∨ (T = "dict" ∧ ∃ kvs, G a = some (.dic kvs))) := rfl
theorem tyD_l {xs : List D} (h : seqG G a xs) : tyD "list" (.ref a) G := .inl ⟨rfl, xs, h⟩
/-- a slice's part -/
def prt (d : D) (k : Option Int → Prop) : Prop := match d with
  | .int i => k (some i)
  | _ => False
theorem part_eq {te : TEd} {w : Wx} {σ : Sd} {R : Option Int → Hd → Prop} : dPart te w σ G R = te w σ G fun d G1 => prt d fun o => R o G1 := rfl
theorem prt_i {R : Option Int → Prop} : prt (.int i) R = R (some i) := rfl
theorem rng1_i {R : List D → Prop} : rng1 [.int j] R = ((-(2 ^ 62) ≤ j ∧ j < 2 ^ 62) ∧ R (rngL 0 1 j.toNat)) := rfl
theorem rng2_i {R : List D → Prop} : rng2 [.int i, .int j] R = ((-(2 ^ 62) ≤ i ∧ i < 2 ^ 62 ∧ -(2 ^ 62) ≤ j ∧ j < 2 ^ 62) ∧ R (rngL i 1 (j - i).toNat)) := rfl
theorem rng3_i {R : List D → Prop} : rng3 [.int i, .int j, .int k] R = (∃ n, RgC i j k n ∧ R (rngL i k n)) := rfl
/-- a walked value -/
def itv (d : D) (G : Hd) (R : List D → (Hd → Prop) → Hd → Prop) : Prop := match d with
  | .tup xs => R xs (fun _ => True) G
  | .ref a => ∃ xs, seqG G a xs ∧ R xs (fun G2 => seqG G2 a xs) G
  | _ => False
theorem itv_eq {te : TEd} {w : Wx} {σ : Sd} {R : List D → (Hd → Prop) → Hd → Prop} : dItV te w σ G R = te w σ G fun d G1 => itv d G1 R := rfl
theorem itv_t {R : List D → (Hd → Prop) → Hd → Prop} : itv (.tup xs) G R = R xs (fun _ => True) G := rfl
theorem itv_r {R : List D → (Hd → Prop) → Hd → Prop} : itv (.ref a) G R = (∃ xs, seqG G a xs ∧ R xs (fun G2 => seqG G2 a xs) G) := rfl
theorem itk_eq {te : TEd} {w : Wx} {σ : Sd} {R : List D → (Hd → Prop) → Hd → Prop} : dItK te w σ G R = te w σ G fun d G1 => itk d G1 R := rfl
theorem itk_r {R : List D → (Hd → Prop) → Hd → Prop} : itk (.ref a) G R = (∃ kvs ep, G a = some (.dit kvs ep) ∧ R (kvs.map (·.1)) (fun G2 => G2 a = some (.dit kvs ep)) G) := rfl
theorem enumR_r {R : List D → (Hd → Prop) → Hd → Prop} : enumR [.ref a] G R = (∃ xs, seqG G a xs ∧ R (enumL xs) (fun G2 => seqG G2 a xs) G) := rfl
theorem zipR_r {R : List D → (Hd → Prop) → Hd → Prop} : zipR [.ref a, .ref b] G R = (∃ xs, seqG G a xs ∧ ∃ ys, seqG G b ys ∧ R (zipL xs ys) (fun G2 => seqG G2 a xs ∧ seqG G2 b ys) G) := rfl
/-- a pair of names stored -/
def prs (i j : Nat) (ds : List D) (σ : Sd) (k : Sd → Prop) : Prop := match ds with
  | [x, y] => k ((σ.set i (some x)).set j (some y))
  | _ => False
theorem par_eq {t : TAd} {w : Wx} {E : En} {σ : Sd} {i j : Nat} : dPar i j t w E σ G = t w σ G fun ds G1 => prs i j ds σ fun s => E.nx s G1 := rfl
theorem prs_2 {σ : Sd} {k : Sd → Prop} {i j : Nat} : prs i j [x, y] σ k = k ((σ.set i (some x)).set j (some y)) := rfl
theorem gTup_t {n : Nat} {t : TGsd} {w : Wx} {σ : Sd} {R : Sd → Hd → Prop} : dgTup n t w (.tup xs) σ G R = (xs.length = n ∧ t w xs σ G R) := rfl
theorem gCons_c {t : TGd} {u : TGsd} {w : Wx} {σ : Sd} {R : Sd → Hd → Prop} : dgCons t u w (x :: xs) σ G R = t w x σ G fun σ1 G1 => u w xs σ1 G1 R := rfl
theorem gNil_n {w : Wx} {σ : Sd} {R : Sd → Hd → Prop} : dgNil w [] σ G R = R σ G := rfl
end
theorem ln0 : (0 ≤ sizeLine) = True := eq_true (line_le (by decide))
theorem ln1 : (1 ≤ sizeLine) = True := eq_true (line_le (by decide))
theorem ln2 : (2 ≤ sizeLine) = True := eq_true (line_le (by decide))
theorem ln3 : (3 ≤ sizeLine) = True := eq_true (line_le (by decide))
theorem ln4 : (4 ≤ sizeLine) = True := eq_true (line_le (by decide))
theorem ln5 : (5 ≤ sizeLine) = True := eq_true (line_le (by decide))
theorem ln6 : (6 ≤ sizeLine) = True := eq_true (line_le (by decide))
theorem ln7 : (7 ≤ sizeLine) = True := eq_true (line_le (by decide))
theorem ln8 : (8 ≤ sizeLine) = True := eq_true (line_le (by decide))
theorem ln9 : (9 ≤ sizeLine) = True := eq_true (line_le (by decide))
theorem ln10 : (10 ≤ sizeLine) = True := eq_true (line_le (by decide))
theorem ln11 : (11 ≤ sizeLine) = True := eq_true (line_le (by decide))
theorem ln12 : (12 ≤ sizeLine) = True := eq_true (line_le (by decide))
theorem ln13 : (13 ≤ sizeLine) = True := eq_true (line_le (by decide))
theorem ln14 : (14 ≤ sizeLine) = True := eq_true (line_le (by decide))
theorem ln15 : (15 ≤ sizeLine) = True := eq_true (line_le (by decide))
theorem ln16 : (16 ≤ sizeLine) = True := eq_true (line_le (by decide))
theorem ln17 : (17 ≤ sizeLine) = True := eq_true (line_le (by decide))
theorem ln18 : (18 ≤ sizeLine) = True := eq_true (line_le (by decide))
theorem ln19 : (19 ≤ sizeLine) = True := eq_true (line_le (by decide))
theorem ln20 : (20 ≤ sizeLine) = True := eq_true (line_le (by decide))
theorem ln21 : (21 ≤ sizeLine) = True := eq_true (line_le (by decide))
theorem ln22 : (22 ≤ sizeLine) = True := eq_true (line_le (by decide))
theorem ln23 : (23 ≤ sizeLine) = True := eq_true (line_le (by decide))
theorem ln24 : (24 ≤ sizeLine) = True := eq_true (line_le (by decide))
theorem ln25 : (25 ≤ sizeLine) = True := eq_true (line_le (by decide))
theorem ln26 : (26 ≤ sizeLine) = True := eq_true (line_le (by decide))
theorem ln27 : (27 ≤ sizeLine) = True := eq_true (line_le (by decide))
theorem ln28 : (28 ≤ sizeLine) = True := eq_true (line_le (by decide))
theorem ln29 : (29 ≤ sizeLine) = True := eq_true (line_le (by decide))
theorem ln30 : (30 ≤ sizeLine) = True := eq_true (line_le (by decide))
theorem ln31 : (31 ≤ sizeLine) = True := eq_true (line_le (by decide))
theorem ln32 : (32 ≤ sizeLine) = True := eq_true (line_le (by decide))
theorem ln33 : (33 ≤ sizeLine) = True := eq_true (line_le (by decide))
theorem ln34 : (34 ≤ sizeLine) = True := eq_true (line_le (by decide))
theorem ln35 : (35 ≤ sizeLine) = True := eq_true (line_le (by decide))
theorem ln36 : (36 ≤ sizeLine) = True := eq_true (line_le (by decide))
theorem ln37 : (37 ≤ sizeLine) = True := eq_true (line_le (by decide))
theorem ln38 : (38 ≤ sizeLine) = True := eq_true (line_le (by decide))
theorem ln39 : (39 ≤ sizeLine) = True := eq_true (line_le (by decide))
theorem ln40 : (40 ≤ sizeLine) = True := eq_true (line_le (by decide))
theorem ln41 : (41 ≤ sizeLine) = True := eq_true (line_le (by decide))
theorem ln42 : (42 ≤ sizeLine) = True := eq_true (line_le (by decide))
theorem ln43 : (43 ≤ sizeLine) = True := eq_true (line_le (by decide))
theorem ln44 : (44 ≤ sizeLine) = True := eq_true (line_le (by decide))
theorem ln45 : (45 ≤ sizeLine) = True := eq_true (line_le (by decide))
theorem ln46 : (46 ≤ sizeLine) = True := eq_true (line_le (by decide))
theorem ln47 : (47 ≤ sizeLine) = True := eq_true (line_le (by decide))
theorem ln48 : (48 ≤ sizeLine) = True := eq_true (line_le (by decide))
theorem ln49 : (49 ≤ sizeLine) = True := eq_true (line_le (by decide))
theorem ln50 : (50 ≤ sizeLine) = True := eq_true (line_le (by decide))
theorem ln51 : (51 ≤ sizeLine) = True := eq_true (line_le (by decide))
theorem ln52 : (52 ≤ sizeLine) = True := eq_true (line_le (by decide))
theorem ln53 : (53 ≤ sizeLine) = True := eq_true (line_le (by decide))
theorem ln54 : (54 ≤ sizeLine) = True := eq_true (line_le (by decide))
theorem ln55 : (55 ≤ sizeLine) = True := eq_true (line_le (by decide))
theorem ln56 : (56 ≤ sizeLine) = True := eq_true (line_le (by decide))
theorem ln57 : (57 ≤ sizeLine) = True := eq_true (line_le (by decide))
theorem ln58 : (58 ≤ sizeLine) = True := eq_true (line_le (by decide))
theorem ln59 : (59 ≤ sizeLine) = True := eq_true (line_le (by decide))
theorem ln60 : (60 ≤ sizeLine) = True := eq_true (line_le (by decide))
theorem ext_same {α : Type} {a : α} {P : α → Prop} {o : Option α} (h : o = some a) : (∃ d, o = some d ∧ P d) = P a := by rw [h]; simp

end S

set_option Elab.async false
set_option linter.all false
set_option maxRecDepth 100000
set_option maxHeartbeats 4000000
namespace S
open PySem PySem.Spec L2
open PyProof.Rows hiding St
local macro_rules | `(tactic| walk_at "e") => `(tactic| try simp only [dSeq, dNext, dRet, dRetN, dIf, dAsg, dAug, dDrop, par_eq, prs_2, dBreak, dCont, dgName, dgSub, gTup_t, gCons_c, gNil_n, dFor_eq, dLc_eq, dVar, dC, dOp, dUn, dBi, dCall, dCons, dNil, dTup, dLst, dSl, part_eq, prt_i, dNoPart, dAndV, dOrV, dNotV, dB, dAnd, dOr, dNot, dIfE, dChain, itv_eq, itv_t, itv_r, dRng, dWalk, dBm, rng1_i, rng2_i, rng3_i, enumR_r, zipR_r,
  BI.r, addD_i, addD_s, addD_t, addD_r, subD_i, mulD_i, mulD_r, mulD_t, modD_i, divD_i, powD_i, ltD_i, leD_i, gtD_i, geD_i, incD_i, negD_i, lr1_i, lr2_i, revD_r, isND_n, isNon, ixD_t, ixD_r, ixD_d, setD_d, dDnew, itk_eq, itk_r, dDm, getD_r, ditD_r, dItI, iti_r, listK_r, sortedD_r, ixD_l, ixD_s, slD_t, slD_r, slD_s, setD_r, lenD_s, lenD_t, lenD_l, lenD_r, isiD_1, isiD_n, listD_t, listD_r, tupleD_t, tupleD_r, allD_r, anyD_r, sumD_r, maxD_r, maxD_2, minD_r, minD_2, absD_i, intB_i, intB_b, appD_r, startD, wipeD,
  List.map_cons, List.map_nil, rep_z, rep_s, List.length_cons, List.length_nil, List.cons_append, List.nil_append, List.append_nil, List.getElem?_cons_zero, List.getElem?_cons_succ, List.set_cons_zero, List.set_cons_succ, Option.some.injEq, exists_eq_left', exists_eq_left, D.bl.injEq, D.int.injEq, D.tup.injEq, D.ref.injEq, true_and, and_true, Nat.reduceAdd, Nat.reduceSub, Nat.add_sub_cancel_left, exists_const, br_t, br_f, eqR_int, eqR_bl, Bool.false_bne, Bool.true_bne, Bool.false_xor, Bool.true_xor, Bool.not_true, Bool.not_false, Bool.not_not, ite_true, ite_false, Bool.true_eq_false, false_implies, decide_true, decide_false, tc_int, tc_bool, tc_str, tc_tup, tc_lst, tc_non, tc_dic, ln0, ln1, ln2, ln3, ln4, ln5, ln6, ln7, ln8, ln9, ln10, ln11, ln12, ln13, ln14, ln15, ln16, ln17, ln18, ln19, ln20, ln21, ln22, ln23, ln24, ln25, ln26, ln27, ln28, ln29, ln30, ln31, ln32, ln33, ln34, ln35, ln36, ln37, ln38, ln39, ln40, ln41, ln42, ln43, ln44, ln45, ln46, ln47, ln48, ln49, ln50, ln51, ln52, ln53, ln54, ln55, ln56, ln57, ln58, ln59, ln60])
local macro_rules | `(tactic| walk_at "g") => `(tactic| try simp only [st_same, st_st, GO.lst.injEq, Option.some.injEq, exists_eq_left', exists_eq_left, atI_0, atI_1, atI_2, atI_3, ixN_0, ixN_1, ixN_2, ixN_3, List.set_cons_zero, List.set_cons_succ, List.length_cons, List.length_nil, List.length_append, List.cons_append, List.nil_append, true_and, and_true, seq_st])
/-! ## the law's end -/
theorem GIg.int {P : Program} {w : World} {K : PySem.W.Frag} {mg : Str → Option Value} {base : Heap} {k : Nat} {x : Str} {i : Int} (h : ∃ t, mg x = some (.int i t)) : GIg P w K mg base k x (.cst (.int i)) := by
  obtain ⟨t, e⟩ := h
  exact ⟨.int i, _, e, ⟨t, rfl⟩, fun _ => .int i⟩
def AllG (P : Program) (w : World) (K : PySem.W.Frag) (mg : Str → Option Value) (base : Heap) (k : Nat) : List (Str × GI) → Prop
  | [] => True
  | p :: r => GIg P w K mg base k p.1 p.2 ∧ AllG P w K mg base k r
theorem AllG.ok {P : Program} {w : World} {K : PySem.W.Frag} {mg : Str → Option Value} {base : Heap} {k : Nat} : ∀ {l : List (Str × GI)}, AllG P w K mg base k l → ∀ x g, l.lookup x = some g → GIg P w K mg base k x g
  | [], _, _, _, h => by cases h
  | p :: r, h, x, g, e => by
    rw [List.lookup_cons] at e
    split at e
    · rename_i q
      cases e
      rw [beq_iff_eq] at q
      rw [q]; exact h.1
    · exact AllG.ok h.2 x g e
theorem CalG.mono {P : Program} {w : World} {K : PySem.W.Frag} {mg : Str → Option Value} {base : Heap} {j k : Nat} {x : Str} {sp : DSp} (h : CalG P w K mg base j x sp) (l : j ≤ k) : CalG P w K mg base k x sp := by
  obtain ⟨f, fd, ps, F, h1, h2, h3⟩ := h.ex
  exact ⟨f, fd, ps, F.mono l, h1, h2, h3⟩
theorem CalG.never {P : Program} {w : World} {K : PySem.W.Frag} {mg : Str → Option Value} {base : Heap} {k : Nat} {x : Str} {f : Addr} {fd : FuncData} {ps : List Str} (hm : mg x = some (.ref f)) (hk : PySem.W.keepIn K (.ref f) = true) (bd : Binds K fd ps []) :
    CalG P w K mg base k x fun _ _ _ _ => False :=
  ⟨f, fd, ps, ⟨fun _ _ _ _ ⟨_, _, _, _, _, _, h, _⟩ => h.elim, fun _ _ _ _ _ _ _ _ _ _ _ _ _ ⟨_, _, _, _, _, _, h, _⟩ => h.elim⟩, hm, hk, bd⟩
theorem GIg.fn {P : Program} {w : World} {K : PySem.W.Frag} {mg : Str → Option Value} {base : Heap} {j k : Nat} {x : Str} {sp : DSp} (h : CalG P w K mg base j x sp) (l : j ≤ k) : GIg P w K mg base k x (.fn sp) := ⟨j, l, h⟩
theorem walk_mine {l : PySem.W.OpenLaw} {n k : Nat} {q : Program} {loose : List Str} {XP : (Str → Option Value) → Heap → Prop} {YP : World → Heap → Prop} {d : DefRec} {x : Str}
    (hn : l.most = some n) (hn2 : n ≤ sizeLine) (hdf : d.params.defaults = []) (hr : Room k callerA)
    (F : ∀ (w : World) (mg : Str → Option Value) (fa : Addr) (h : Heap), YP w h → h.Ns mainGlobals mg → mg d.name = some (.ref fa) →
      ∃ (K : PySem.W.Frag) (fd : FuncData) (sp : Sp), K.In h ∧ (∀ (s : Shared) (u : Value), BindsTo s fd ⟨[u], []⟩ [(x, u)]) ∧
        (∀ (H : Hp) (a : Addr) (ns : List Int), ns.length ≤ n → Only H → SqL K H a (ns.map V.int) → sp [.ref a] H (fun v _ => v = .bl true) fun _ _ _ => False) ∧
        ∀ base : Heap, K.In base → base.Ns mainGlobals mg → FnOk l.prog w K mg base (L2N.CX l.prog w) k fa fd [x] sp) :
    PySem.W.WalkO q loose XP YP l.row.toRowW d [] (fun f vs => PySem.call f vs) := by
  refine Att.attach_call hn hdf fun w s₀ s₁ mg mb fa o pm cd doc a vs ns G Y ho hd hcd hmg hobj hints hlen hg => ?_
  obtain ⟨K, fd, sp, KX, hb, hsp, hF⟩ := F w mg fa _ Y G.T.g hmg
  exact law_call KX G.T.g G.T.b G.T.builtins G.T.nolimit hg hobj hints (Nat.le_trans hlen hn2) hr hF hb (fun H hO hS => hsp H a ns hlen hO hS) fun H e s' ⟨_, _, _, _, _, _, _, _, _, _, _, _, z⟩ => z

end S

set_option Elab.async false
set_option linter.all false
set_option maxRecDepth 100000
set_option maxHeartbeats 4000000
namespace S
open PySem PySem.Spec L2
open PyProof.Rows hiding St
local macro_rules | `(tactic| walk_at "e") => `(tactic| try simp only [dSeq, dNext, dRet, dRetN, dIf, dAsg, dAug, dDrop, par_eq, prs_2, dBreak, dCont, dgName, dgSub, gTup_t, gCons_c, gNil_n, dFor_eq, dLc_eq, dVar, dC, dOp, dUn, dBi, dCall, dCons, dNil, dTup, dLst, dSl, part_eq, prt_i, dNoPart, dAndV, dOrV, dNotV, dB, dAnd, dOr, dNot, dIfE, dChain, itv_eq, itv_t, itv_r, dRng, dWalk, dBm, rng1_i, rng2_i, rng3_i, enumR_r, zipR_r,
  BI.r, addD_i, addD_s, addD_t, addD_r, subD_i, mulD_i, mulD_r, mulD_t, modD_i, divD_i, powD_i, ltD_i, leD_i, gtD_i, geD_i, incD_i, negD_i, lr1_i, lr2_i, revD_r, isND_n, isNon, ixD_t, ixD_r, ixD_d, setD_d, dDnew, itk_eq, itk_r, dDm, getD_r, ditD_r, dItI, iti_r, listK_r, sortedD_r, ixD_l, ixD_s, slD_t, slD_r, slD_s, setD_r, lenD_s, lenD_t, lenD_l, lenD_r, isiD_1, isiD_n, listD_t, listD_r, tupleD_t, tupleD_r, allD_r, anyD_r, sumD_r, maxD_r, maxD_2, minD_r, minD_2, absD_i, intB_i, intB_b, appD_r, startD, wipeD,
  List.map_cons, List.map_nil, rep_z, rep_s, List.length_cons, List.length_nil, List.cons_append, List.nil_append, List.append_nil, List.getElem?_cons_zero, List.getElem?_cons_succ, List.set_cons_zero, List.set_cons_succ, Option.some.injEq, exists_eq_left', exists_eq_left, D.bl.injEq, D.int.injEq, D.tup.injEq, D.ref.injEq, true_and, and_true, Nat.reduceAdd, Nat.reduceSub, Nat.add_sub_cancel_left, exists_const, br_t, br_f, eqR_int, eqR_bl, Bool.false_bne, Bool.true_bne, Bool.false_xor, Bool.true_xor, Bool.not_true, Bool.not_false, Bool.not_not, ite_true, ite_false, Bool.true_eq_false, false_implies, decide_true, decide_false, tc_int, tc_bool, tc_str, tc_tup, tc_lst, tc_non, tc_dic, ln0, ln1, ln2, ln3, ln4, ln5, ln6, ln7, ln8, ln9, ln10, ln11, ln12, ln13, ln14, ln15, ln16, ln17, ln18, ln19, ln20, ln21, ln22, ln23, ln24, ln25, ln26, ln27, ln28, ln29, ln30, ln31, ln32, ln33, ln34, ln35, ln36, ln37, ln38, ln39, ln40, ln41, ln42, ln43, ln44, ln45, ln46, ln47, ln48, ln49, ln50, ln51, ln52, ln53, ln54, ln55, ln56, ln57, ln58, ln59, ln60])
local macro_rules | `(tactic| walk_at "g") => `(tactic| try simp only [st_same, st_st, GO.lst.injEq, Option.some.injEq, exists_eq_left', exists_eq_left, atI_0, atI_1, atI_2, atI_3, ixN_0, ixN_1, ixN_2, ixN_3, List.set_cons_zero, List.set_cons_succ, List.length_cons, List.length_nil, List.length_append, List.cons_append, List.nil_append, true_and, and_true, seq_st])
/-! ## pieces and commits -/
def pieceV (b m : Int) : D → Bool
  | .tup [a, s, k, c] => fromV (b + 1) m a && rowV 1 24 1039 s && fromV 0 8 k && fromV 0 99999 c
  | _ => false
def sp_is_piece : DSp := fun ds G q _ => ∃ x d b m, ds = [x, .int b, .int m] ∧ Dd G x d ∧ ∀ G', Ext G G' → q (.bl (pieceV b m d)) G'
def t_is_piece_r1 : TSd := dRet (dAndV (dCall sp_is_from (dCons (dOp ixD (dVar 0) (dC (.int 2))) (dCons (dC (.int 0)) (dCons (dC (.int 8)) (dNil))))) (dCall sp_is_from (dCons (dOp ixD (dVar 0) (dC (.int 3))) (dCons (dC (.int 0)) (dCons (dC (.int 99999)) (dNil))))))
def t_is_piece_r2 : TSd := dSeq (dIf (dOr (dNot (dB (dCall sp_is_from (dCons (dOp ixD (dVar 0) (dC (.int 0))) (dCons (dOp addD (dVar 1) (dC (.int 1))) (dCons (dVar 2) (dNil))))))) (dNot (dB (dCall sp_is_row (dCons (dOp ixD (dVar 0) (dC (.int 1))) (dCons (dC (.int 1)) (dCons (dC (.int 24)) (dCons (dC (.int 1039)) (dNil))))))))) (dRet (dC (.bl false))) (dNext)) t_is_piece_r1
def N_is_piece : List Str := ["thing", "begin", "many"]
def P_is_piece : List Str := ["thing", "begin", "many"]
def t_is_piece : TSd := dSeq (dIf (dOr (dNot (dB (dBi (BI.r .isi) (dCons (dVar 0) (dCons (dC (.ty "tuple")) (dNil)))))) (dB (dOp (eqR true) (dBi (BI.r .len) (dCons (dVar 0) (dNil))) (dC (.int 4))))) (dRet (dC (.bl false))) (dNext)) t_is_piece_r2
def gl_is_piece : List (Str × GI) := [("len", .bi .len), ("isinstance", .bi .isi), ("tuple", .bi .tuple), ("is_row", .fn sp_is_row), ("MOST_SIGN", .cst (.int 1039)), ("MOST_SIGNS", .cst (.int 24)), ("is_from", .fn sp_is_from), ("MOST_COST", .cst (.int 99999)), ("PLAIN", .cst (.int 8))]
theorem len_is_piece : ∀ ds G q x, sp_is_piece ds G q x → ds.length = P_is_piece.length := by
  rintro _ _ _ _ ⟨x, d, b, m, rfl, _⟩; rfl
abbrev sp__law_is_piece : DSp := sp_is_piece
def t__law_is_piece_r1 : TSd := dRet (dAndV (dCall sp__law_is_row (dCons (dOp ixD (dVar 0) (dC (.int 1))) (dCons (dC (.int 1)) (dCons (dC (.int 24)) (dCons (dC (.int 1039)) (dNil)))))) (dAndV (dCall sp__law_from (dCons (dOp ixD (dVar 0) (dC (.int 2))) (dCons (dC (.int 0)) (dCons (dC (.int 8)) (dNil))))) (dCall sp__law_from (dCons (dOp ixD (dVar 0) (dC (.int 3))) (dCons (dC (.int 0)) (dCons (dC (.int 99999)) (dNil)))))))
def N__law_is_piece : List Str := ["_law_thing", "_law_begin", "_law_many"]
def P__law_is_piece : List Str := ["_law_thing", "_law_begin", "_law_many"]
def t__law_is_piece : TSd := dSeq (dIf (dOr (dNot (dB (dBi (BI.r .isi) (dCons (dVar 0) (dCons (dC (.ty "tuple")) (dNil)))))) (dOr (dB (dOp (eqR true) (dBi (BI.r .len) (dCons (dVar 0) (dNil))) (dC (.int 4)))) (dNot (dB (dCall sp__law_from (dCons (dOp ixD (dVar 0) (dC (.int 0))) (dCons (dOp addD (dVar 1) (dC (.int 1))) (dCons (dVar 2) (dNil))))))))) (dRet (dC (.bl false))) (dNext)) t__law_is_piece_r1
def gl__law_is_piece : List (Str × GI) := [("_law_from", .fn sp__law_from), ("len", .bi .len), ("isinstance", .bi .isi), ("tuple", .bi .tuple), ("_law_is_row", .fn sp__law_is_row)]
theorem len__law_is_piece : ∀ ds G q x, sp__law_is_piece ds G q x → ds.length = P__law_is_piece.length := len_is_piece
theorem four_of {ds : List D} (h : ds.length = 4) : ∃ a b c d, ds = [a, b, c, d] := by
  match ds, h with
  | [a, b, c, d], _ => exact ⟨a, b, c, d, rfl⟩
theorem three_of {ds : List D} (h : ds.length = 3) : ∃ a b c, ds = [a, b, c] := by
  match ds, h with
  | [a, b, c], _ => exact ⟨a, b, c, rfl⟩
theorem two_of {ds : List D} (h : ds.length = 2) : ∃ a b, ds = [a, b] := by
  match ds, h with
  | [a, b], _ => exact ⟨a, b, rfl⟩
theorem dds4 {G : Hd} {xs : List D} {a b c d : D} (h : Dds G xs [a, b, c, d]) : ∃ x y z u, xs = [x, y, z, u] ∧ Dd G x a ∧ Dd G y b ∧ Dd G z c ∧ Dd G u d := by
  cases h with | cons h1 h => cases h with | cons h2 h => cases h with | cons h3 h => cases h with | cons h4 h => cases h; exact ⟨_, _, _, _, rfl, h1, h2, h3, h4⟩
theorem dds3 {G : Hd} {xs : List D} {a b c : D} (h : Dds G xs [a, b, c]) : ∃ x y z, xs = [x, y, z] ∧ Dd G x a ∧ Dd G y b ∧ Dd G z c := by
  cases h with | cons h1 h => cases h with | cons h2 h => cases h with | cons h3 h => cases h; exact ⟨_, _, _, rfl, h1, h2, h3⟩
theorem dds2 {G : Hd} {xs : List D} {a b : D} (h : Dds G xs [a, b]) : ∃ x y, xs = [x, y] ∧ Dd G x a ∧ Dd G y b := by
  cases h with | cons h1 h => cases h with | cons h2 h => cases h; exact ⟨_, _, rfl, h1, h2⟩
theorem pieceV_len {b m : Int} {ds : List D} (h : ds.length ≠ 4) : pieceV b m (.tup ds) = false := by
  unfold pieceV; split
  · rename_i e; cases e; exact absurd rfl h
  · rfl
theorem b_is_piece : Body t_is_piece N_is_piece sp_is_piece := by
  rintro ds G q x ⟨x, d, b, m, rfl, h, hq⟩
  unfold t_is_piece N_is_piece t_is_piece_r2 t_is_piece_r1
  walk_at "e"
  refine ⟨h.kn, ?_⟩
  rw [h.is]
  have no : pieceV b m d = false → ∀ G', Ext G G' → q (.bl false) G' := fun e G' x => by have := hq G' x; rwa [e] at this
  refine ⟨fun e => no (by cases d <;> first | rfl | cases e) _ .refl, fun e => ?_⟩
  obtain ⟨ds, rfl⟩ := is_tup (d := d) (by simpa using e)
  obtain ⟨xs, rfl, hs⟩ := h.tup_inv
  have el := hs.length
  walk_at "e"
  rw [el]
  refine ⟨fun e1 => no (pieceV_len fun z => by rw [z] at e1; simp at e1) _ .refl, fun e1 => ?_⟩
  obtain ⟨a, s, k, c, rfl⟩ := four_of (ds := ds) (by simp only [Bool.not_eq_false', decide_eq_true_eq] at e1; omega)
  obtain ⟨x0, x1, x2, x3, rfl, h0, h1, h2, h3⟩ := dds4 hs
  simp only [atI_0, atI_1, atI_2, atI_3, Option.some.injEq, exists_eq_left']
  refine ⟨x0, a, b + 1, m, rfl, h0, ?_⟩
  walk_at "e"
  refine ⟨fun e2 => no (by simp only [Bool.not_eq_true'] at e2; simp [pieceV, e2]) _ .refl, fun e2 => ⟨x1, s, 1, 24, 1039, rfl, h1, by decide, fun G1 x1' => ?_⟩⟩
  walk_at "e"
  refine ⟨fun e3 => no (by simp only [Bool.not_eq_true'] at e3; simp [pieceV, e3]) _ x1', fun e3 => ⟨x2, k, 0, 8, rfl, h2.ext x1', ?_⟩⟩
  walk_at "e"
  refine ⟨fun e4 => ⟨x3, c, 0, 99999, rfl, h3.ext x1', ?_⟩, fun e4 => no (by simp [pieceV, e4]) _ x1'⟩
  have := hq G1 x1'
  simp only [Bool.not_eq_false'] at e2 e3
  simpa [pieceV, e2, e3, e4] using this
theorem b__law_is_piece : Body t__law_is_piece N__law_is_piece sp__law_is_piece := by
  rintro ds G q x ⟨x, d, b, m, rfl, h, hq⟩
  unfold t__law_is_piece N__law_is_piece t__law_is_piece_r1
  walk_at "e"
  refine ⟨h.kn, ?_⟩
  rw [h.is]
  have no : pieceV b m d = false → ∀ G', Ext G G' → q (.bl false) G' := fun e G' x => by have := hq G' x; rwa [e] at this
  refine ⟨fun e => no (by cases d <;> first | rfl | cases e) _ .refl, fun e => ?_⟩
  obtain ⟨ds, rfl⟩ := is_tup (d := d) (by simpa using e)
  obtain ⟨xs, rfl, hs⟩ := h.tup_inv
  have el := hs.length
  walk_at "e"
  rw [el]
  refine ⟨fun e1 => no (pieceV_len fun z => by rw [z] at e1; simp at e1) _ .refl, fun e1 => ?_⟩
  obtain ⟨a, s, k, c, rfl⟩ := four_of (ds := ds) (by simp only [Bool.not_eq_false', decide_eq_true_eq] at e1; omega)
  obtain ⟨x0, x1, x2, x3, rfl, h0, h1, h2, h3⟩ := dds4 hs
  simp only [atI_0, atI_1, atI_2, atI_3, Option.some.injEq, exists_eq_left']
  refine ⟨x0, a, b + 1, m, rfl, h0, ?_⟩
  walk_at "e"
  refine ⟨fun e2 => no (by simp only [Bool.not_eq_true'] at e2; simp [pieceV, e2]) _ .refl, fun e2 => ⟨x1, s, 1, 24, 1039, rfl, h1, by decide, fun G1 x1' => ?_⟩⟩
  walk_at "e"
  refine ⟨fun e3 => ⟨x2, k, 0, 8, rfl, h2.ext x1', ?_⟩, fun e3 => no (by simp [pieceV, e3]) _ x1'⟩
  walk_at "e"
  refine ⟨fun e4 => ⟨x3, c, 0, 99999, rfl, h3.ext x1', ?_⟩, fun e4 => no (by simp [pieceV, e4]) _ x1'⟩
  have := hq G1 x1'
  simp only [Bool.not_eq_false'] at e2
  simpa [pieceV, e2, e3, e4] using this
def pieceAt : D → Int
  | .tup (.int a :: _) => a
  | _ => 0
def piecesV (m : Int) : Int → List D → Bool
  | p, [] => decide (p = m)
  | p, d :: r => pieceV p m d && piecesV m (pieceAt d) r
def commitV : D → Bool
  | .tup [s, c, w] => isV w "bool" && rowV 1 24 39 s && (match s, c with
    | .tup ss, .tup ps => piecesV ss.length 0 ps
    | _, _ => false)
  | _ => false
theorem commitV_len {ds : List D} (h : ds.length ≠ 3) : commitV (.tup ds) = false := by
  unfold commitV; split
  · rename_i e; cases e; exact absurd rfl h
  · rfl
def sp_is_commit : DSp := fun ds G q _ => ∃ x d, ds = [x] ∧ Dd G x d ∧ gd 1000000 9 d ∧ ∀ G', Ext G G' → q (.bl (commitV d)) G'
def t_is_commit_r1 : TSd := dAsg (dOp ixD (dVar 2) (dC (.int 0))) (dgName 1)
def t_is_commit_b1 : TSd := dSeq (dIf (dNot (dB (dCall sp_is_piece (dCons (dVar 2) (dCons (dVar 1) (dCons (dBi (BI.r .len) (dCons (dOp ixD (dVar 0) (dC (.int 0))) (dNil))) (dNil))))))) (dRet (dC (.bl false))) (dNext)) t_is_commit_r1
def t_is_commit_r2 : TSd := dRet (dOp (eqR false) (dVar 1) (dBi (BI.r .len) (dCons (dOp ixD (dVar 0) (dC (.int 0))) (dNil))))
def t_is_commit_s1 : TSd := dSeq (dFor (dItV (dOp ixD (dVar 0) (dC (.int 1)))) (dgName 2) t_is_commit_b1) t_is_commit_r2
def t_is_commit_r3 : TSd := dSeq (dAsg (dC (.int 0)) (dgName 1)) t_is_commit_s1
def t_is_commit_r4 : TSd := dSeq (dIf (dOr (dNot (dB (dCall sp_is_row (dCons (dOp ixD (dVar 0) (dC (.int 0))) (dCons (dC (.int 1)) (dCons (dC (.int 24)) (dCons (dC (.int 39)) (dNil)))))))) (dNot (dB (dBi (BI.r .isi) (dCons (dOp ixD (dVar 0) (dC (.int 1))) (dCons (dC (.ty "tuple")) (dNil))))))) (dRet (dC (.bl false))) (dNext)) t_is_commit_r3
def N_is_commit : List Str := ["thing", "place", "piece"]
def P_is_commit : List Str := ["thing"]
def t_is_commit : TSd := dSeq (dIf (dOr (dNot (dB (dBi (BI.r .isi) (dCons (dVar 0) (dCons (dC (.ty "tuple")) (dNil)))))) (dOr (dB (dOp (eqR true) (dBi (BI.r .len) (dCons (dVar 0) (dNil))) (dC (.int 3)))) (dNot (dB (dBi (BI.r .isi) (dCons (dOp ixD (dVar 0) (dC (.int 2))) (dCons (dC (.ty "bool")) (dNil)))))))) (dRet (dC (.bl false))) (dNext)) t_is_commit_r4
def gl_is_commit : List (Str × GI) := [("isinstance", .bi .isi), ("bool", .ty "bool"), ("len", .bi .len), ("tuple", .bi .tuple), ("is_row", .fn sp_is_row), ("MOST_SOUND", .cst (.int 39)), ("MOST_PLACES", .cst (.int 24)), ("is_piece", .fn sp_is_piece)]
theorem len_is_commit : ∀ ds G q x, sp_is_commit ds G q x → ds.length = P_is_commit.length := by
  rintro _ _ _ _ ⟨x, d, rfl, _⟩; rfl
abbrev sp__law_is_commit : DSp := sp_is_commit
def t__law_is_commit_r1 : TSd := dAsg (dOp ixD (dVar 2) (dC (.int 0))) (dgName 1)
def t__law_is_commit_b1 : TSd := dSeq (dIf (dNot (dB (dCall sp__law_is_piece (dCons (dVar 2) (dCons (dVar 1) (dCons (dBi (BI.r .len) (dCons (dOp ixD (dVar 0) (dC (.int 0))) (dNil))) (dNil))))))) (dRet (dC (.bl false))) (dNext)) t__law_is_commit_r1
def t__law_is_commit_r2 : TSd := dRet (dOp (eqR false) (dVar 1) (dBi (BI.r .len) (dCons (dOp ixD (dVar 0) (dC (.int 0))) (dNil))))
def t__law_is_commit_s1 : TSd := dSeq (dFor (dItV (dOp ixD (dVar 0) (dC (.int 1)))) (dgName 2) t__law_is_commit_b1) t__law_is_commit_r2
def t__law_is_commit_r3 : TSd := dSeq (dAsg (dC (.int 0)) (dgName 1)) t__law_is_commit_s1
def t__law_is_commit_r4 : TSd := dSeq (dIf (dOr (dNot (dB (dCall sp__law_is_row (dCons (dOp ixD (dVar 0) (dC (.int 0))) (dCons (dC (.int 1)) (dCons (dC (.int 24)) (dCons (dC (.int 39)) (dNil)))))))) (dNot (dB (dBi (BI.r .isi) (dCons (dOp ixD (dVar 0) (dC (.int 1))) (dCons (dC (.ty "tuple")) (dNil))))))) (dRet (dC (.bl false))) (dNext)) t__law_is_commit_r3
def N__law_is_commit : List Str := ["_law_thing", "_law_place", "_law_piece"]
def P__law_is_commit : List Str := ["_law_thing"]
def t__law_is_commit : TSd := dSeq (dIf (dOr (dNot (dB (dBi (BI.r .isi) (dCons (dVar 0) (dCons (dC (.ty "tuple")) (dNil)))))) (dOr (dB (dOp (eqR true) (dBi (BI.r .len) (dCons (dVar 0) (dNil))) (dC (.int 3)))) (dNot (dB (dBi (BI.r .isi) (dCons (dOp ixD (dVar 0) (dC (.int 2))) (dCons (dC (.ty "bool")) (dNil)))))))) (dRet (dC (.bl false))) (dNext)) t__law_is_commit_r4
def gl__law_is_commit : List (Str × GI) := [("isinstance", .bi .isi), ("bool", .ty "bool"), ("len", .bi .len), ("tuple", .bi .tuple), ("_law_is_row", .fn sp__law_is_row), ("_law_is_piece", .fn sp__law_is_piece)]
theorem len__law_is_commit : ∀ ds G q x, sp__law_is_commit ds G q x → ds.length = P__law_is_commit.length := len_is_commit
theorem pieceV_tup {b m : Int} {d : D} (h : pieceV b m d = true) : ∃ a s k c, d = .tup [.int a, s, k, c] := by
  unfold pieceV at h
  split at h
  · rename_i a s k c
    simp only [Bool.and_eq_true] at h
    cases a with
    | int a => exact ⟨a, s, k, c, rfl⟩
    | _ => exact absurd h.1.1.1 (by simp [fromV])
  · cases h
theorem rowV_tup {l m t : Int} {d : D} (h : rowV l m t d = true) : ∃ ss, d = .tup ss := by cases d <;> first | exact ⟨_, rfl⟩ | cases h
theorem b1_is_commit {w : Wx} {E : En} {G : Hd} {x y s : D} {xs ss ys : List D} {p : Int} {d : D} (hx : x = .tup (.tup xs :: ys)) (el : xs.length = ss.length) (h : Dd G y d)
    (hf : ∀ G', Ext G G' → pieceV p ss.length d = false → E.rt (.bl false) G')
    (hq : ∀ G', Ext G G' → pieceV p ss.length d = true → E.nx [some x, some (.int (pieceAt d)), some y] G') : t_is_commit_b1 w E [some x, some (.int p), some y] G := by
  unfold t_is_commit_b1 t_is_commit_r1
  subst hx
  walk_at "e"
  simp only [atI_0, Option.some.injEq, exists_eq_left']
  walk_at "e"
  refine ⟨y, d, p, xs.length, rfl, h, fun G1 x1 => ?_⟩
  walk_at "e"
  rw [el]
  refine ⟨fun e => hf G1 x1 (by simpa using e), fun e => ?_⟩
  simp only [Bool.not_eq_false'] at e
  obtain ⟨a, s, k, c, rfl⟩ := pieceV_tup e
  obtain ⟨zs, rfl, hz⟩ := h.tup_inv
  obtain ⟨x0, x1', x2, x3, rfl, h0, h1, h2, h3⟩ := dds4 hz
  cases h0.int_inv
  walk_at "e"
  simp only [atI_0, Option.some.injEq, exists_eq_left']
  exact hq G1 x1 e
theorem b_is_commit : Body t_is_commit N_is_commit sp_is_commit := by
  rintro ds G q x ⟨x, d, rfl, h, g, hq⟩
  unfold t_is_commit N_is_commit t_is_commit_r4 t_is_commit_r3 t_is_commit_s1
  walk_at "e"
  refine ⟨h.kn, ?_⟩
  rw [h.is]
  have no : commitV d = false → ∀ G', Ext G G' → q (.bl false) G' := fun e G' x => by have := hq G' x; rwa [e] at this
  refine ⟨fun e => no (by cases d <;> first | rfl | cases e) _ .refl, fun e => ?_⟩
  obtain ⟨ds, rfl⟩ := is_tup (d := d) (by simpa using e)
  obtain ⟨xs, rfl, hs⟩ := h.tup_inv
  have el := hs.length
  walk_at "e"
  rw [el]
  refine ⟨fun e1 => no (commitV_len fun z => by rw [z] at e1; simp at e1) _ .refl, fun e1 => ?_⟩
  obtain ⟨s, c, u, rfl⟩ := three_of (ds := ds) (by simp only [Bool.not_eq_false', decide_eq_true_eq] at e1; omega)
  obtain ⟨x0, x1, x2, rfl, h0, h1, h2⟩ := dds3 hs
  simp only [atI_0, atI_1, atI_2, atI_3, Option.some.injEq, exists_eq_left']
  refine ⟨h2.kn, ?_⟩
  rw [h2.is]
  refine ⟨fun e2 => no (by simp only [Bool.not_eq_true'] at e2; simp [commitV, e2]) _ .refl, fun e2 => ⟨x0, s, 1, 24, 39, rfl, h0, by decide, fun G1 x1' => ?_⟩⟩
  simp only [Bool.not_eq_false'] at e2
  walk_at "e"
  refine ⟨fun e3 => no (by simp only [Bool.not_eq_true'] at e3; simp [commitV, e3]) _ x1', fun e3 => ⟨(h1.ext x1').kn, ?_⟩⟩
  simp only [Bool.not_eq_false'] at e3
  rw [(h1.ext x1').is]
  obtain ⟨ss, rfl⟩ := rowV_tup e3
  obtain ⟨xs, rfl, hss⟩ := h0.tup_inv
  have els := hss.length
  refine ⟨fun e4 => no (by cases c <;> first | (simp [commitV]; done) | cases e4) _ x1', fun e4 => ?_⟩
  obtain ⟨ps, rfl⟩ := is_tup (d := c) (by simpa using e4)
  obtain ⟨zs, rfl, hz⟩ := h1.tup_inv
  have elz := hz.length
  have cv : commitV (.tup [.tup ss, .tup ps, u]) = piecesV ss.length 0 ps := by simp [commitV, e2, e3]
  walk_at "e"
  refine ⟨fun i σ G2 => i ≤ zs.length ∧ Ext G1 G2 ∧ ∃ (p : Int) (o : Option D), σ = [some (.tup [.tup xs, .tup zs, x2]), some (.int p), o] ∧ piecesV ss.length 0 ps = piecesV ss.length p (ps.drop i), ⟨by omega, .refl, 0, _, rfl, rfl⟩, fun _ _ _ _ => trivial, ?_, ?_⟩
  · rintro i y σ G2 ey ⟨hi, xt, p, o, rfl, hp⟩
    obtain ⟨d, ed, hd⟩ := hz.get ey
    have hi2 : i < ps.length := (List.getElem?_eq_some_iff.mp ed).1
    have dr : ps.drop i = d :: ps.drop (i + 1) := by
      rw [List.drop_eq_getElem_cons hi2]; congr 1; exact (List.getElem?_eq_some_iff.mp ed).2
    walk_at "e"
    refine b1_is_commit (s := .non) rfl els (hd.ext (x1'.trans xt)) (fun G' x' e => no (by rw [cv, hp, dr]; simp [piecesV, e]) _ ((x1'.trans xt).trans x')) fun G' x' e => ⟨by omega, xt.trans x', pieceAt d, _, rfl, ?_⟩
    rw [hp, dr]; simp [piecesV, e]
  · rintro σ G2 ⟨hi, xt, p, o, rfl, hp⟩
    unfold t_is_commit_r2
    walk_at "e"
    simp only [atI_0, Option.some.injEq, exists_eq_left']
    walk_at "e"
    have := hq G2 (x1'.trans xt)
    rw [cv, hp, elz, List.drop_length] at this
    rw [els]
    exact this
theorem b1__law_is_commit {w : Wx} {E : En} {G : Hd} {x y s : D} {xs ss ys : List D} {p : Int} {d : D} (hx : x = .tup (.tup xs :: ys)) (el : xs.length = ss.length) (h : Dd G y d)
    (hf : ∀ G', Ext G G' → pieceV p ss.length d = false → E.rt (.bl false) G')
    (hq : ∀ G', Ext G G' → pieceV p ss.length d = true → E.nx [some x, some (.int (pieceAt d)), some y] G') : t__law_is_commit_b1 w E [some x, some (.int p), some y] G := by
  unfold t__law_is_commit_b1 t__law_is_commit_r1
  subst hx
  walk_at "e"
  simp only [atI_0, Option.some.injEq, exists_eq_left']
  walk_at "e"
  refine ⟨y, d, p, xs.length, rfl, h, fun G1 x1 => ?_⟩
  walk_at "e"
  rw [el]
  refine ⟨fun e => hf G1 x1 (by simpa using e), fun e => ?_⟩
  simp only [Bool.not_eq_false'] at e
  obtain ⟨a, s, k, c, rfl⟩ := pieceV_tup e
  obtain ⟨zs, rfl, hz⟩ := h.tup_inv
  obtain ⟨x0, x1', x2, x3, rfl, h0, h1, h2, h3⟩ := dds4 hz
  cases h0.int_inv
  walk_at "e"
  simp only [atI_0, Option.some.injEq, exists_eq_left']
  exact hq G1 x1 e
theorem b__law_is_commit : Body t__law_is_commit N__law_is_commit sp__law_is_commit := by
  rintro ds G q x ⟨x, d, rfl, h, g, hq⟩
  unfold t__law_is_commit N__law_is_commit t__law_is_commit_r4 t__law_is_commit_r3 t__law_is_commit_s1
  walk_at "e"
  refine ⟨h.kn, ?_⟩
  rw [h.is]
  have no : commitV d = false → ∀ G', Ext G G' → q (.bl false) G' := fun e G' x => by have := hq G' x; rwa [e] at this
  refine ⟨fun e => no (by cases d <;> first | rfl | cases e) _ .refl, fun e => ?_⟩
  obtain ⟨ds, rfl⟩ := is_tup (d := d) (by simpa using e)
  obtain ⟨xs, rfl, hs⟩ := h.tup_inv
  have el := hs.length
  walk_at "e"
  rw [el]
  refine ⟨fun e1 => no (commitV_len fun z => by rw [z] at e1; simp at e1) _ .refl, fun e1 => ?_⟩
  obtain ⟨s, c, u, rfl⟩ := three_of (ds := ds) (by simp only [Bool.not_eq_false', decide_eq_true_eq] at e1; omega)
  obtain ⟨x0, x1, x2, rfl, h0, h1, h2⟩ := dds3 hs
  simp only [atI_0, atI_1, atI_2, atI_3, Option.some.injEq, exists_eq_left']
  refine ⟨h2.kn, ?_⟩
  rw [h2.is]
  refine ⟨fun e2 => no (by simp only [Bool.not_eq_true'] at e2; simp [commitV, e2]) _ .refl, fun e2 => ⟨x0, s, 1, 24, 39, rfl, h0, by decide, fun G1 x1' => ?_⟩⟩
  simp only [Bool.not_eq_false'] at e2
  walk_at "e"
  refine ⟨fun e3 => no (by simp only [Bool.not_eq_true'] at e3; simp [commitV, e3]) _ x1', fun e3 => ⟨(h1.ext x1').kn, ?_⟩⟩
  simp only [Bool.not_eq_false'] at e3
  rw [(h1.ext x1').is]
  obtain ⟨ss, rfl⟩ := rowV_tup e3
  obtain ⟨xs, rfl, hss⟩ := h0.tup_inv
  have els := hss.length
  refine ⟨fun e4 => no (by cases c <;> first | (simp [commitV]; done) | cases e4) _ x1', fun e4 => ?_⟩
  obtain ⟨ps, rfl⟩ := is_tup (d := c) (by simpa using e4)
  obtain ⟨zs, rfl, hz⟩ := h1.tup_inv
  have elz := hz.length
  have cv : commitV (.tup [.tup ss, .tup ps, u]) = piecesV ss.length 0 ps := by simp [commitV, e2, e3]
  walk_at "e"
  refine ⟨fun i σ G2 => i ≤ zs.length ∧ Ext G1 G2 ∧ ∃ (p : Int) (o : Option D), σ = [some (.tup [.tup xs, .tup zs, x2]), some (.int p), o] ∧ piecesV ss.length 0 ps = piecesV ss.length p (ps.drop i), ⟨by omega, .refl, 0, _, rfl, rfl⟩, fun _ _ _ _ => trivial, ?_, ?_⟩
  · rintro i y σ G2 ey ⟨hi, xt, p, o, rfl, hp⟩
    obtain ⟨d, ed, hd⟩ := hz.get ey
    have hi2 : i < ps.length := (List.getElem?_eq_some_iff.mp ed).1
    have dr : ps.drop i = d :: ps.drop (i + 1) := by
      rw [List.drop_eq_getElem_cons hi2]; congr 1; exact (List.getElem?_eq_some_iff.mp ed).2
    walk_at "e"
    refine b1__law_is_commit (s := .non) rfl els (hd.ext (x1'.trans xt)) (fun G' x' e => no (by rw [cv, hp, dr]; simp [piecesV, e]) _ ((x1'.trans xt).trans x')) fun G' x' e => ⟨by omega, xt.trans x', pieceAt d, _, rfl, ?_⟩
    rw [hp, dr]; simp [piecesV, e]
  · rintro σ G2 ⟨hi, xt, p, o, rfl, hp⟩
    unfold t__law_is_commit_r2
    walk_at "e"
    simp only [atI_0, Option.some.injEq, exists_eq_left']
    walk_at "e"
    have := hq G2 (x1'.trans xt)
    rw [cv, hp, elz, List.drop_length] at this
    rw [els]
    exact this

end S

set_option Elab.async false
set_option linter.all false
set_option maxRecDepth 100000
set_option maxHeartbeats 4000000
namespace S
open PySem PySem.Spec L2
open PyProof.Rows hiding St
local macro_rules | `(tactic| walk_at "e") => `(tactic| try simp only [dSeq, dNext, dRet, dRetN, dIf, dAsg, dAug, dDrop, par_eq, prs_2, dBreak, dCont, dgName, dgSub, gTup_t, gCons_c, gNil_n, dFor_eq, dLc_eq, dVar, dC, dOp, dUn, dBi, dCall, dCons, dNil, dTup, dLst, dSl, part_eq, prt_i, dNoPart, dAndV, dOrV, dNotV, dB, dAnd, dOr, dNot, dIfE, dChain, itv_eq, itv_t, itv_r, dRng, dWalk, dBm, rng1_i, rng2_i, rng3_i, enumR_r, zipR_r,
  BI.r, addD_i, addD_s, addD_t, addD_r, subD_i, mulD_i, mulD_r, mulD_t, modD_i, divD_i, powD_i, ltD_i, leD_i, gtD_i, geD_i, incD_i, negD_i, lr1_i, lr2_i, revD_r, isND_n, isNon, ixD_t, ixD_r, ixD_d, setD_d, dDnew, itk_eq, itk_r, dDm, getD_r, ditD_r, dItI, iti_r, listK_r, sortedD_r, ixD_l, ixD_s, slD_t, slD_r, slD_s, setD_r, lenD_s, lenD_t, lenD_l, lenD_r, isiD_1, isiD_n, listD_t, listD_r, tupleD_t, tupleD_r, allD_r, anyD_r, sumD_r, maxD_r, maxD_2, minD_r, minD_2, absD_i, intB_i, intB_b, appD_r, startD, wipeD,
  List.map_cons, List.map_nil, rep_z, rep_s, List.length_cons, List.length_nil, List.cons_append, List.nil_append, List.append_nil, List.getElem?_cons_zero, List.getElem?_cons_succ, List.set_cons_zero, List.set_cons_succ, Option.some.injEq, exists_eq_left', exists_eq_left, D.bl.injEq, D.int.injEq, D.tup.injEq, D.ref.injEq, true_and, and_true, Nat.reduceAdd, Nat.reduceSub, Nat.add_sub_cancel_left, exists_const, br_t, br_f, eqR_int, eqR_bl, Bool.false_bne, Bool.true_bne, Bool.false_xor, Bool.true_xor, Bool.not_true, Bool.not_false, Bool.not_not, ite_true, ite_false, Bool.true_eq_false, false_implies, decide_true, decide_false, tc_int, tc_bool, tc_str, tc_tup, tc_lst, tc_non, tc_dic, ln0, ln1, ln2, ln3, ln4, ln5, ln6, ln7, ln8, ln9, ln10, ln11, ln12, ln13, ln14, ln15, ln16, ln17, ln18, ln19, ln20, ln21, ln22, ln23, ln24, ln25, ln26, ln27, ln28, ln29, ln30, ln31, ln32, ln33, ln34, ln35, ln36, ln37, ln38, ln39, ln40, ln41, ln42, ln43, ln44, ln45, ln46, ln47, ln48, ln49, ln50, ln51, ln52, ln53, ln54, ln55, ln56, ln57, ln58, ln59, ln60])
local macro_rules | `(tactic| walk_at "g") => `(tactic| try simp only [st_same, st_st, GO.lst.injEq, Option.some.injEq, exists_eq_left', exists_eq_left, atI_0, atI_1, atI_2, atI_3, ixN_0, ixN_1, ixN_2, ixN_3, List.set_cons_zero, List.set_cons_succ, List.length_cons, List.length_nil, List.length_append, List.cons_append, List.nil_append, true_and, and_true, seq_st])
/-! ## drawn commits -/
theorem nu {G G' : Hd} {p : Addr} {o : GO} (hp : G p = none) (e : st G p o = G') : Ext G G' ∧ G' p = some o := by
  subst e; exact ⟨.new hp, st_same⟩
theorem put {G G' : Hd} {p : Addr} {o : GO} (e : st G p o = G') : Xt [p] G G' ∧ G' p = some o := by
  subst e; exact ⟨.put (by simp), st_same⟩
/-- [..][take(bag, n)] -/
theorem pick {G : Hd} {b : Addr} {L : List D} {k : Int} {K : Qd} {X : Nat → D → Hd → Prop} (bag : Bag G b) (hk : k = L.length) (k0 : 0 < L.length) (kl : L.length < 1000) (h : ∀ z ∈ L, ∀ G', Xt [b] G G' → Bag G' b → K z G') :
    ∀ p0, G p0 = none → sp__law_take [.ref b, .int k] (st G p0 (.lst L)) (fun y G2 => ixD (.ref p0) y G2 K) X := by
  intro p0 hp0
  refine ⟨b, k, rfl, bag.ext (.new hp0), by omega, by rw [hk]; exact Int.lt_of_lt_of_le (show ((L.length : Int)) < 1000 by omega) (by decide), fun r G1 r0 r1 x1 bag1 => ?_⟩
  obtain ⟨z, hz, hm, _⟩ := atI_mem (xs := L) (i := r) r0 (by omega)
  exact ⟨_, .inl (x1.get (fresh_b bag hp0) st_same), z, hz, h z hm G1 ((Xt.news hp0).trans x1) bag1⟩
/-- made of what no heap holds -/
def Pu (n : Nat) (y : D) : Prop := (∀ G, Dd G y y) ∧ gd 100 n y
theorem dds_pu {n : Nat} {G : Hd} : ∀ {xs : List D}, (∀ y ∈ xs, Pu n y) → Dds G xs xs
  | [], _ => .nil
  | x :: xs, h => .cons ((h x List.mem_cons_self).1 G) (dds_pu fun y hy => h y (List.mem_cons_of_mem _ hy))
theorem pu_tup {n : Nat} {xs : List D} (l : xs.length ≤ 100) (h : ∀ y ∈ xs, Pu n y) : Pu (n + 1) (.tup xs) := ⟨fun G => .tup (dds_pu h), gd_tup.mpr ⟨l, fun x hx => (h x hx).2⟩⟩
theorem pu_int {n : Nat} {i : Int} : Pu n (.int i) := ⟨fun _ => .int i, gd_int⟩
theorem pu_bl {n : Nat} {i : Bool} : Pu n (.bl i) := ⟨fun _ => .bl i, gd_bl⟩
theorem pu_non {n : Nat} : Pu n .non := ⟨fun _ => .non, gd_non⟩
theorem Pu.weak {n m : Nat} {y : D} (h : Pu n y) (l : n ≤ m) : Pu m y := ⟨h.1, h.2.weak l (Nat.le_refl _)⟩
theorem pu_ints {n : Nat} {zs : List Int} (l : zs.length ≤ 100) : Pu (n + 1) (.tup (zs.map D.int)) := pu_tup (by simpa using l) fun y hy => by
  obtain ⟨i, _, rfl⟩ := List.mem_map.mp hy
  exact pu_int
def sp__law_sounds : DSp := fun ds G q _ => ∃ (b : Addr) (n : Nat), ds = [.ref b, .int n] ∧ Bag G b ∧ n ≤ 1000 ∧ ∀ (S : List Int) G', S.length = n → (∀ z ∈ S, 0 ≤ z ∧ z < 40) → Xt [b] G G' → Bag G' b → q (.tup (S.map .int)) G'
def N__law_sounds : List Str := ["_law_bag_here", "_law_n", "_law_top", "_law_k"]
def P__law_sounds : List Str := ["_law_bag_here", "_law_n"]
def t__law_sounds : TSd := dSeq (dAsg (dOp ixD (dLst (dCons (dC (.int 2)) (dCons (dC (.int 3)) (dCons (dC (.int 40)) (dNil))))) (dCall sp__law_take (dCons (dVar 0) (dCons (dC (.int 3)) (dNil))))) (dgName 2)) (dRet (dBi (BI.r .tuple) (dCons (dLc (dRng rng1 (dCons (dVar 1) (dNil))) (dgName 3) dYes (dCall sp__law_take (dCons (dVar 0) (dCons (dVar 2) (dNil)))) [3]) (dNil))))
def gl__law_sounds : List (Str × GI) := [("_law_take", .fn sp__law_take), ("tuple", .bi .tuple), ("range", .rng)]
theorem len__law_sounds : ∀ ds G q x, sp__law_sounds ds G q x → ds.length = P__law_sounds.length := by
  rintro _ _ _ _ ⟨b, n, rfl, _⟩; rfl
theorem b__law_sounds : Body t__law_sounds N__law_sounds sp__law_sounds := by
  rintro ds G q x ⟨b, n, rfl, bag, hn, hq⟩
  unfold t__law_sounds N__law_sounds
  walk_at "e"
  refine pick bag rfl (by decide) (by decide) fun z hz G1 x1 bag1 => ?_
  have hz2 : ∃ k : Int, z = .int k ∧ 0 < k ∧ k ≤ 40 := by
    revert hz; revert z; simp only [List.forall_mem_cons]
    exact ⟨⟨_, rfl, by decide, by decide⟩, ⟨_, rfl, by decide, by decide⟩, ⟨_, rfl, by decide, by decide⟩, by simp⟩
  obtain ⟨k, rfl, k0, k1⟩ := hz2
  refine ⟨by omega, ?_⟩
  refine lcR_takes (k := k) bag1 (by simp [rngL]; omega) (fun i x e G' Q' bg kk => ?_) fun pa G3 za hpa x3 bag3 ea la hza => ?_
  · walk_at "e"
    exact ⟨b, k, rfl, bg, k0, by omega, kk⟩
  walk_at "e"
  exact ⟨_, .inl ea, hq za G3 (by rw [la]; simp [rngL]) (fun z hz => ⟨(hza z hz).1, by have := (hza z hz).2; omega⟩) (x1.trans x3) bag3⟩
def sp__law_some_signs : DSp := fun ds G q _ => ∃ b, ds = [.ref b] ∧ Bag G b ∧ ∀ (S : List Int) G', 1 ≤ S.length → S.length ≤ 4 → (∀ z ∈ S, 0 ≤ z ∧ z < 1040) → Xt [b] G G' → Bag G' b → q (.tup (S.map .int)) G'
def N__law_some_signs : List Str := ["_law_bag_here", "_law_top", "_law_k"]
def P__law_some_signs : List Str := ["_law_bag_here"]
def t__law_some_signs : TSd := dSeq (dAsg (dOp ixD (dLst (dCons (dC (.int 2)) (dCons (dC (.int 3)) (dCons (dC (.int 1000)) (dCons (dC (.int 1040)) (dNil)))))) (dCall sp__law_take (dCons (dVar 0) (dCons (dC (.int 4)) (dNil))))) (dgName 1)) (dRet (dBi (BI.r .tuple) (dCons (dLc (dRng rng1 (dCons (dOp addD (dC (.int 1)) (dCall sp__law_take (dCons (dVar 0) (dCons (dC (.int 4)) (dNil))))) (dNil))) (dgName 2) dYes (dCall sp__law_take (dCons (dVar 0) (dCons (dVar 1) (dNil)))) [2]) (dNil))))
def gl__law_some_signs : List (Str × GI) := [("_law_take", .fn sp__law_take), ("tuple", .bi .tuple), ("range", .rng)]
theorem len__law_some_signs : ∀ ds G q x, sp__law_some_signs ds G q x → ds.length = P__law_some_signs.length := by
  rintro _ _ _ _ ⟨b, rfl, _⟩; rfl
theorem b__law_some_signs : Body t__law_some_signs N__law_some_signs sp__law_some_signs := by
  rintro ds G q x ⟨b, rfl, bag, hq⟩
  unfold t__law_some_signs N__law_some_signs
  walk_at "e"
  refine pick bag rfl (by decide) (by decide) fun z hz G1 x1 bag1 => ?_
  have hz2 : ∃ k : Int, z = .int k ∧ 0 < k ∧ k ≤ 1040 := by
    revert hz; revert z; simp only [List.forall_mem_cons]
    exact ⟨⟨_, rfl, by decide, by decide⟩, ⟨_, rfl, by decide, by decide⟩, ⟨_, rfl, by decide, by decide⟩, ⟨_, rfl, by decide, by decide⟩, by simp⟩
  obtain ⟨k, rfl, k0, k1⟩ := hz2
  refine ⟨b, 4, rfl, bag1, by decide, by decide, fun r G2 r0 r1 x2 bag2 => ?_⟩
  walk_at "e"
  refine ⟨by omega, ?_⟩
  refine lcR_takes (k := k) bag2 (by simp [rngL]; omega) (fun i x e G' Q' bg kk => ?_) fun pa G3 za hpa x3 bag3 ea la hza => ?_
  · walk_at "e"
    exact ⟨b, k, rfl, bg, k0, by omega, kk⟩
  walk_at "e"
  have la2 : za.length = (1 + r).toNat := by rw [la]; simp [rngL]
  exact ⟨_, .inl ea, hq za G3 (by omega) (by omega) (fun z hz => ⟨(hza z hz).1, by have := (hza z hz).2; omega⟩) ((x1.trans x2).trans x3) bag3⟩
/-- a piece of a commit -/
structure Pc where
  at_ : Int
  signs : List Int
  kind : Int
  cost : Int
def Pc.d (p : Pc) : D := .tup [.int p.at_, .tup (p.signs.map .int), .int p.kind, .int p.cost]
structure Pc.Ok (p : Pc) : Prop where
  l1 : 1 ≤ p.signs.length
  l4 : p.signs.length ≤ 4
  sg : ∀ z ∈ p.signs, 0 ≤ z ∧ z < 1040
  kd : 0 ≤ p.kind ∧ p.kind < 9
  co : 0 ≤ p.cost ∧ p.cost < 100000
/-- pieces one behind another -/
def chn : Int → List Pc → Int → Prop
  | p, [], e => p = e
  | p, c :: r, e => p < c.at_ ∧ c.Ok ∧ chn c.at_ r e
theorem chn_add {c : Pc} (hc : c.Ok) : ∀ {ps : List Pc} {p e : Int}, chn p ps e → e < c.at_ → chn p (ps ++ [c]) c.at_
  | [], p, e, h, l => ⟨by rw [show p = e from h]; exact l, hc, rfl⟩
  | x :: ps, p, e, ⟨h1, h2, h3⟩, l => ⟨h1, h2, chn_add hc h3 l⟩
theorem chn_ok : ∀ {ps : List Pc} {p e : Int}, chn p ps e → ∀ c ∈ ps, c.Ok
  | [], _, _, _, _, h => by cases h
  | x :: ps, p, e, ⟨h1, h2, h3⟩, c, h => by
    rcases List.mem_cons.mp h with rfl | h
    · exact h2
    · exact chn_ok h3 c h
theorem Pc.pu {c : Pc} (h : c.Ok) : Pu 2 c.d := pu_tup (by simp) fun y hy => by
  simp only [List.mem_cons, List.not_mem_nil, or_false] at hy
  rcases hy with rfl | rfl | rfl | rfl
  · exact pu_int
  · exact pu_ints (by have := h.l4; omega)
  · exact pu_int
  · exact pu_int
def sp__law_commit : DSp := fun ds G q _ => ∃ (b : Addr) (n : Nat), ds = [.ref b, .int n] ∧ Bag G b ∧ 1 ≤ n ∧ n ≤ 24 ∧
  ∀ (S : List Int) (ps : List Pc) (w : Bool) G', S.length = n → (∀ z ∈ S, 0 ≤ z ∧ z < 40) → chn 0 ps n → ps.length ≤ n → Xt [b] G G' → Bag G' b → q (.tup [.tup (S.map .int), .tup (ps.map Pc.d), .bl w]) G'
def t__law_commit_b1 : TSd := dIf (dB (dOp ltD (dVar 5) (dVar 1))) (dSeq (dAsg (dOp addD (dOp addD (dVar 5) (dC (.int 1))) (dCall sp__law_take (dCons (dVar 0) (dCons (dBi (BI.r .min) (dCons (dVar 3) (dCons (dOp subD (dVar 1) (dVar 5)) (dNil)))) (dNil))))) (dgName 5)) (dDrop (dBm "list" appendD (dVar 4) (dCons (dTup (dCons (dVar 5) (dCons (dCall sp__law_some_signs (dCons (dVar 0) (dNil))) (dCons (dCall sp__law_take (dCons (dVar 0) (dCons (dC (.int 9)) (dNil)))) (dCons (dCall sp__law_take (dCons (dVar 0) (dCons (dC (.int 100000)) (dNil)))) (dNil)))))) (dNil))))) (dNext)
def t__law_commit_r1 : TSd := dRet (dTup (dCons (dVar 2) (dCons (dBi (BI.r .tuple) (dCons (dVar 4) (dNil))) (dCons (dOp (eqR false) (dCall sp__law_take (dCons (dVar 0) (dCons (dC (.int 2)) (dNil)))) (dC (.int 1))) (dNil)))))
def t__law_commit_s1 : TSd := dSeq (dFor (dRng rng1 (dCons (dVar 1) (dNil))) (dgName 6) t__law_commit_b1) t__law_commit_r1
def N__law_commit : List Str := ["_law_bag_here", "_law_n", "_law_sounds_here", "_law_far", "_law_cutting", "_law_place", "_law_turn"]
def P__law_commit : List Str := ["_law_bag_here", "_law_n"]
def t__law_commit : TSd := dSeq (dAsg (dCall sp__law_sounds (dCons (dVar 0) (dCons (dVar 1) (dNil)))) (dgName 2)) (dSeq (dAsg (dOp ixD (dLst (dCons (dVar 1) (dCons (dC (.int 2)) (dNil)))) (dCall sp__law_take (dCons (dVar 0) (dCons (dC (.int 2)) (dNil))))) (dgName 3)) (dSeq (dAsg (dLst (dNil)) (dgName 4)) (dSeq (dAsg (dC (.int 0)) (dgName 5)) t__law_commit_s1)))
def gl__law_commit : List (Str × GI) := [("_law_sounds", .fn sp__law_sounds), ("_law_take", .fn sp__law_take), ("range", .rng), ("min", .bi .min), ("_law_some_signs", .fn sp__law_some_signs), ("tuple", .bi .tuple)]
theorem len__law_commit : ∀ ds G q x, sp__law_commit ds G q x → ds.length = P__law_commit.length := by
  rintro _ _ _ _ ⟨b, n, rfl, _⟩; rfl
theorem b1__law_commit {w : Wx} {E : En} {G : Hd} {b : Addr} {n : Nat} {s o : Option D} {far p : Int} {pc : Addr} {ps : List Pc} (bag : Bag G b) (hn : n ≤ 24) (hf : 1 ≤ far) (hf2 : far ≤ 24) (hp0 : 0 ≤ p) (hpn : p ≤ n) (e : G pc = some (.lst (ps.map Pc.d))) (nb : pc ∉ [b]) (hc : chn 0 ps p) (hl : ps.length ≤ 100)
    (h0 : p = n → E.nx [some (.ref b), some (.int n), s, some (.int far), some (.ref pc), some (.int p), o] G)
    (h1 : ∀ G' (c : Pc), p < c.at_ → c.at_ ≤ n → c.Ok → chn 0 (ps ++ [c]) c.at_ → Bag G' b → Xt [b, pc] G G' → G' pc = some (.lst ((ps ++ [c]).map Pc.d)) → E.nx [some (.ref b), some (.int n), s, some (.int far), some (.ref pc), some (.int c.at_), o] G') :
    t__law_commit_b1 w E [some (.ref b), some (.int n), s, some (.int far), some (.ref pc), some (.int p), o] G := by
  unfold t__law_commit_b1
  walk_at "e"
  refine ⟨fun e1 => ?_, fun e1 => h0 (by simp at e1; omega)⟩
  have hlt : p < n := by simpa using e1
  refine ⟨b, _, rfl, bag, by omega, by omega, fun r G1 r0 r1 x1 bag1 => ?_⟩
  walk_at "e"
  have e1 := x1.get nb e
  refine ⟨tyD_l (.inl e1), b, rfl, bag1, fun S G2 l1 l4 sg x2 bag2 => ⟨b, 9, rfl, bag2, by decide, by decide, fun k G3 k0 k1 x3 bag3 => ⟨b, 100000, rfl, bag3, by decide, by decide, fun c G4 c0 c1 x4 bag4 => ?_⟩⟩⟩
  walk_at "e"
  have e4 : G4 pc = some (.lst (ps.map Pc.d)) := x4.get nb (x3.get nb (x2.get nb e1))
  refine ⟨_, e4, line_lt (by simp; omega), ?_⟩
  have ok : (Pc.mk (p + 1 + r) S k c).Ok := ⟨l1, l4, sg, ⟨k0, k1⟩, ⟨c0, c1⟩⟩
  refine h1 _ ⟨p + 1 + r, S, k, c⟩ (show p < p + 1 + r by omega) (show p + 1 + r ≤ n by omega) ok (chn_add ok hc (show p < p + 1 + r by omega)) (bag4.xt (.put (bs := [pc]) (by simp)) (fun m => nb (by simp at m ⊢; exact m.symm))) ((((x1.trans x2).trans x3).trans x4).weak (by simp) |>.trans (.put (by simp))) ?_
  rw [st_same, List.map_append]; rfl
theorem b__law_commit : Body t__law_commit N__law_commit sp__law_commit := by
  rintro ds G q x ⟨b, n, rfl, bag, n1, n24, hq⟩
  unfold t__law_commit N__law_commit t__law_commit_s1
  walk_at "e"
  refine ⟨b, n, rfl, bag, by omega, fun S G1 lS hS x1 bag1 => ?_⟩
  refine pick bag1 rfl (by simp) (by simp) fun z hz G2 x2 bag2 => ?_
  have hz2 : ∃ k : Int, z = .int k ∧ 1 ≤ k ∧ k ≤ 24 := by
    simp only [List.mem_cons, List.not_mem_nil, or_false] at hz
    rcases hz with rfl | rfl
    · exact ⟨_, rfl, by omega, by omega⟩
    · exact ⟨_, rfl, by decide, by decide⟩
  obtain ⟨far, rfl, f1, f2⟩ := hz2
  intro pc hpc
  have nb : pc ∉ [b] := fresh_b bag2 hpc
  refine ⟨by omega, ?_⟩
  refine ⟨fun i σ G3 => i ≤ n ∧ Xt [b, pc] (st G2 pc (.lst [])) G3 ∧ Bag G3 b ∧ ∃ (p : Int) (ps : List Pc) (o : Option D), σ = [some (.ref b), some (.int n), some (.tup (S.map .int)), some (.int far), some (.ref pc), some (.int p), o] ∧ 0 ≤ p ∧ p ≤ n ∧ (i : Int) ≤ p ∧ G3 pc = some (.lst (ps.map Pc.d)) ∧ chn 0 ps p ∧ ps.length ≤ i,
    ⟨by omega, .refl, bag2.ext (.new hpc), 0, [], _, rfl, by decide, by omega, by omega, st_same, rfl, by simp⟩, fun _ _ _ _ => trivial, ?_, ?_⟩
  · rintro i y σ G3 ey ⟨hi, x3, bag3, p, ps, o, rfl, p0, pn, pi, e3, c3, l3⟩
    obtain ⟨h1, rfl⟩ := rngL_some0 ey
    walk_at "e"
    refine b1__law_commit bag3 n24 f1 f2 p0 pn e3 nb c3 (by omega) (fun e => ⟨by omega, x3, bag3, p, ps, _, rfl, p0, pn, by omega, e3, c3, by omega⟩) fun G' c h1' h2' ok hc bg x4 e4 => ⟨by omega, x3.trans x4, bg, c.at_, _, _, rfl, by omega, h2', by omega, e4, hc, by simp; omega⟩
  · rintro σ G3 ⟨hi, x3, bag3, p, ps, o, rfl, p0, pn, pi, e3, c3, l3⟩
    unfold t__law_commit_r1
    walk_at "e"
    refine ⟨_, .inl e3, b, 2, rfl, bag3, by decide, by decide, fun r G4 _ _ x4 bag4 => ?_⟩
    walk_at "e"
    have hpn : p = n := by simp [rngL] at pi; omega
    subst hpn
    have x5 : Xt [b] G2 G3 := fun a u na ea => x3 a u (fun m => by
      rcases List.mem_cons.mp m with rfl | m
      · exact na (by simp)
      · rw [List.mem_singleton.mp m] at ea; rw [hpc] at ea; cases ea) (st_old hpc ea)
    have := hq S ps (decide (r = 1)) G4 lS hS c3 (by simp [rngL] at l3; omega) (((x1.trans x2).trans x5).trans x4) bag4
    exact this

end S

set_option Elab.async false
set_option linter.all false
set_option maxRecDepth 100000
set_option maxHeartbeats 4000000
namespace S
open PySem PySem.Spec L2
open PyProof.Rows hiding St
local macro_rules | `(tactic| walk_at "e") => `(tactic| try simp only [dSeq, dNext, dRet, dRetN, dIf, dAsg, dAug, dDrop, par_eq, prs_2, dBreak, dCont, dgName, dgSub, gTup_t, gCons_c, gNil_n, dFor_eq, dLc_eq, dVar, dC, dOp, dUn, dBi, dCall, dCons, dNil, dTup, dLst, dSl, part_eq, prt_i, dNoPart, dAndV, dOrV, dNotV, dB, dAnd, dOr, dNot, dIfE, dChain, itv_eq, itv_t, itv_r, dRng, dWalk, dBm, rng1_i, rng2_i, rng3_i, enumR_r, zipR_r,
  BI.r, addD_i, addD_s, addD_t, addD_r, subD_i, mulD_i, mulD_r, mulD_t, modD_i, divD_i, powD_i, ltD_i, leD_i, gtD_i, geD_i, incD_i, negD_i, lr1_i, lr2_i, revD_r, isND_n, isNon, ixD_t, ixD_r, ixD_d, setD_d, dDnew, itk_eq, itk_r, dDm, getD_r, ditD_r, dItI, iti_r, listK_r, sortedD_r, ixD_l, ixD_s, slD_t, slD_r, slD_s, setD_r, lenD_s, lenD_t, lenD_l, lenD_r, isiD_1, isiD_n, listD_t, listD_r, tupleD_t, tupleD_r, allD_r, anyD_r, sumD_r, maxD_r, maxD_2, minD_r, minD_2, absD_i, intB_i, intB_b, appD_r, startD, wipeD,
  List.map_cons, List.map_nil, rep_z, rep_s, List.length_cons, List.length_nil, List.cons_append, List.nil_append, List.append_nil, List.getElem?_cons_zero, List.getElem?_cons_succ, List.set_cons_zero, List.set_cons_succ, Option.some.injEq, exists_eq_left', exists_eq_left, D.bl.injEq, D.int.injEq, D.tup.injEq, D.ref.injEq, true_and, and_true, Nat.reduceAdd, Nat.reduceSub, Nat.add_sub_cancel_left, exists_const, br_t, br_f, eqR_int, eqR_bl, Bool.false_bne, Bool.true_bne, Bool.false_xor, Bool.true_xor, Bool.not_true, Bool.not_false, Bool.not_not, ite_true, ite_false, Bool.true_eq_false, false_implies, decide_true, decide_false, tc_int, tc_bool, tc_str, tc_tup, tc_lst, tc_non, tc_dic, ln0, ln1, ln2, ln3, ln4, ln5, ln6, ln7, ln8, ln9, ln10, ln11, ln12, ln13, ln14, ln15, ln16, ln17, ln18, ln19, ln20, ln21, ln22, ln23, ln24, ln25, ln26, ln27, ln28, ln29, ln30, ln31, ln32, ln33, ln34, ln35, ln36, ln37, ln38, ln39, ln40, ln41, ln42, ln43, ln44, ln45, ln46, ln47, ln48, ln49, ln50, ln51, ln52, ln53, ln54, ln55, ln56, ln57, ln58, ln59, ln60])
local macro_rules | `(tactic| walk_at "g") => `(tactic| try simp only [st_same, st_st, GO.lst.injEq, Option.some.injEq, exists_eq_left', exists_eq_left, atI_0, atI_1, atI_2, atI_3, ixN_0, ixN_1, ixN_2, ixN_3, List.set_cons_zero, List.set_cons_succ, List.length_cons, List.length_nil, List.length_append, List.cons_append, List.nil_append, true_and, and_true, seq_st])
/-! ## wishes -/
def bjS (s : Str) : Bool := ("border" : Str) == s || ("joined" : Str) == s
def intOf : D → Int
  | .int i => i
  | _ => 0
def wishV (n : Int) : D → Bool
  | .tup (.str s :: r) => if bjS s then (match r with
      | [a] => fromV 1 (n - 1) a
      | _ => false) else (match r with
      | [a, b] => ("span" : Str) == s && fromV 0 n a && fromV (intOf a + 1) n b
      | [a, b, c] => ("held" : Str) == s && fromV 0 n a && fromV (intOf a + 1) n b && rowV 1 24 1039 c
      | _ => false)
  | _ => false
theorem lnS {x : Str} (h : PySem.PyData.strOk x = true) : sh (.str x) := ⟨h, Nat.zero_le _⟩
theorem eqR_s {neg : Bool} {s t : Str} {G : Hd} {Q : Qd} (h1 : PySem.PyData.strOk s = true) (h2 : PySem.PyData.strOk t = true) : eqR neg (.str s) (.str t) G Q = Q (.bl (neg ^^ (s == t))) G := by
  refine propext ⟨fun ⟨d, e, h1, h2, _, _, h⟩ => ?_, fun h => ⟨.str s, .str t, .str s, .str t, lnS h1, lnS h2, ?_⟩⟩
  · cases h1; cases h2; simpa only [eqB] using h
  · simpa only [eqB] using h
/-- a told thing in a written tuple -/
theorem in_t {p : Bool} {x d : D} {ys es : List D} {G : Hd} {Q : Qd} (h1 : Dd G x d) (h2 : Dds G ys es) (s1 : sh d) (s2 : sh (.tup es)) (h : Q (.bl (p ^^ es.any fun z => eqB z d)) G) : inD p x (.tup ys) G Q := ⟨d, es, h1, h2, s1, s2, h⟩
theorem in_r {p : Bool} {x d : D} {a : Addr} {ys es : List D} {G : Hd} {Q : Qd} (e : seqG G a ys) (h1 : Dd G x d) (h2 : Dds G ys es) (s1 : sh d) (s2 : sh (.lst es)) (h : Q (.bl (p ^^ es.any fun z => eqB z d)) G) : inD p x (.ref a) G Q := .inl ⟨ys, e, d, es, h1, h2, s1, s2, h⟩
def sp_is_wish : DSp := fun ds G q _ => ∃ x d n, ds = [.int n, x] ∧ Dd G x d ∧ gd 1000000 9 d ∧ ∀ G', Ext G G' → q (.bl (wishV n d)) G'
def t_is_wish_r1 : TSd := dRet (dOrV (dOp (eqR false) (dBi (BI.r .len) (dCons (dVar 1) (dNil))) (dC (.int 3))) (dCall sp_is_row (dCons (dOp ixD (dVar 1) (dC (.int 3))) (dCons (dC (.int 1)) (dCons (dC (.int 24)) (dCons (dC (.int 1039)) (dNil)))))))
def t_is_wish_r2 : TSd := dSeq (dIf (dOr (dNot (dB (dCall sp_is_from (dCons (dOp ixD (dVar 1) (dC (.int 1))) (dCons (dC (.int 0)) (dCons (dVar 0) (dNil))))))) (dNot (dB (dCall sp_is_from (dCons (dOp ixD (dVar 1) (dC (.int 2))) (dCons (dOp addD (dOp ixD (dVar 1) (dC (.int 1))) (dC (.int 1))) (dCons (dVar 0) (dNil)))))))) (dRet (dC (.bl false))) (dNext)) t_is_wish_r1
def t_is_wish_r3 : TSd := dSeq (dIf (dOr (dB (dOp (inD true) (dOp ixD (dVar 1) (dC (.int 0))) (dTup (dCons (dC (.str "span")) (dCons (dC (.str "held")) (dNil)))))) (dB (dOp (eqR true) (dBi (BI.r .len) (dCons (dVar 1) (dNil))) (dDix [("span", 3), ("held", 4)] (dOp ixD (dVar 1) (dC (.int 0))))))) (dRet (dC (.bl false))) (dNext)) t_is_wish_r2
def t_is_wish_r4 : TSd := dSeq (dIf (dB (dOp (inD false) (dOp ixD (dVar 1) (dC (.int 0))) (dTup (dCons (dC (.str "border")) (dCons (dC (.str "joined")) (dNil)))))) (dRet (dAndV (dOp (eqR false) (dBi (BI.r .len) (dCons (dVar 1) (dNil))) (dC (.int 2))) (dCall sp_is_from (dCons (dOp ixD (dVar 1) (dC (.int 1))) (dCons (dC (.int 1)) (dCons (dOp subD (dVar 0) (dC (.int 1))) (dNil))))))) (dNext)) t_is_wish_r3
def N_is_wish : List Str := ["n", "thing"]
def P_is_wish : List Str := ["n", "thing"]
def t_is_wish : TSd := dSeq (dIf (dOr (dNot (dB (dBi (BI.r .isi) (dCons (dVar 1) (dCons (dC (.ty "tuple")) (dNil)))))) (dOr (dB (dOp ltD (dBi (BI.r .len) (dCons (dVar 1) (dNil))) (dC (.int 2)))) (dNot (dB (dBi (BI.r .isi) (dCons (dOp ixD (dVar 1) (dC (.int 0))) (dCons (dC (.ty "str")) (dNil)))))))) (dRet (dC (.bl false))) (dNext)) t_is_wish_r4
def gl_is_wish : List (Str × GI) := [("isinstance", .bi .isi), ("str", .ty "str"), ("len", .bi .len), ("tuple", .bi .tuple), ("is_from", .fn sp_is_from), ("is_row", .fn sp_is_row), ("MOST_SIGN", .cst (.int 1039)), ("MOST_SIGNS", .cst (.int 24))]
theorem len_is_wish : ∀ ds G q x, sp_is_wish ds G q x → ds.length = P_is_wish.length := by
  rintro _ _ _ _ ⟨x, d, n, rfl, _⟩; rfl
abbrev sp__law_is_wish : DSp := sp_is_wish
def t__law_is_wish_r1 : TSd := dRet (dOrV (dOp (eqR false) (dOp ixD (dVar 1) (dC (.int 0))) (dC (.str "span"))) (dCall sp__law_is_row (dCons (dOp ixD (dVar 1) (dC (.int 3))) (dCons (dC (.int 1)) (dCons (dC (.int 24)) (dCons (dC (.int 1039)) (dNil)))))))
def t__law_is_wish_r2 : TSd := dSeq (dIf (dOr (dNot (dB (dCall sp__law_from (dCons (dOp ixD (dVar 1) (dC (.int 1))) (dCons (dC (.int 0)) (dCons (dOp subD (dVar 0) (dC (.int 1))) (dNil))))))) (dNot (dB (dCall sp__law_from (dCons (dOp ixD (dVar 1) (dC (.int 2))) (dCons (dOp addD (dOp ixD (dVar 1) (dC (.int 1))) (dC (.int 1))) (dCons (dVar 0) (dNil)))))))) (dRet (dC (.bl false))) (dNext)) t__law_is_wish_r1
def t__law_is_wish_r3 : TSd := dSeq (dIf (dOr (dB (dOp (eqR false) (dBi (BI.r .len) (dCons (dVar 1) (dNil))) (dC (.int 2)))) (dB (dOp (inD true) (dTup (dCons (dOp ixD (dVar 1) (dC (.int 0))) (dCons (dBi (BI.r .len) (dCons (dVar 1) (dNil))) (dNil)))) (dLst (dCons (dTup (dCons (dC (.str "span")) (dCons (dC (.int 3)) (dNil)))) (dCons (dTup (dCons (dC (.str "held")) (dCons (dC (.int 4)) (dNil)))) (dNil))))))) (dRet (dC (.bl false))) (dNext)) t__law_is_wish_r2
def t__law_is_wish_r4 : TSd := dSeq (dIf (dOr (dB (dOp (eqR false) (dOp ixD (dVar 1) (dC (.int 0))) (dC (.str "border")))) (dB (dOp (eqR false) (dOp ixD (dVar 1) (dC (.int 0))) (dC (.str "joined"))))) (dRet (dAndV (dOp (eqR false) (dBi (BI.r .len) (dCons (dVar 1) (dNil))) (dC (.int 2))) (dCall sp__law_from (dCons (dOp ixD (dVar 1) (dC (.int 1))) (dCons (dC (.int 1)) (dCons (dOp subD (dVar 0) (dC (.int 1))) (dNil))))))) (dNext)) t__law_is_wish_r3
def N__law_is_wish : List Str := ["_law_n", "_law_thing"]
def P__law_is_wish : List Str := ["_law_n", "_law_thing"]
def t__law_is_wish : TSd := dSeq (dIf (dOr (dNot (dB (dBi (BI.r .isi) (dCons (dVar 1) (dCons (dC (.ty "tuple")) (dNil)))))) (dOr (dB (dOp (inD true) (dBi (BI.r .len) (dCons (dVar 1) (dNil))) (dTup (dCons (dC (.int 2)) (dCons (dC (.int 3)) (dCons (dC (.int 4)) (dNil))))))) (dNot (dB (dBi (BI.r .isi) (dCons (dOp ixD (dVar 1) (dC (.int 0))) (dCons (dC (.ty "str")) (dNil)))))))) (dRet (dC (.bl false))) (dNext)) t__law_is_wish_r4
def gl__law_is_wish : List (Str × GI) := [("isinstance", .bi .isi), ("str", .ty "str"), ("len", .bi .len), ("tuple", .bi .tuple), ("_law_from", .fn sp__law_from), ("_law_is_row", .fn sp__law_is_row)]
theorem len__law_is_wish : ∀ ds G q x, sp__law_is_wish ds G q x → ds.length = P__law_is_wish.length := len_is_wish
theorem isV_str {d : D} (h : isV d "str" = true) : ∃ s, d = .str s := by cases d <;> first | exact ⟨_, rfl⟩ | cases h
theorem from_int {l m : Int} {d : D} (h : fromV l m d = true) : ∃ i, d = .int i := by cases d <;> first | exact ⟨_, rfl⟩ | cases h
theorem wishV_nt {n : Int} {d : D} (h : isV d "tuple" = false) : wishV n d = false := by cases d <;> first | rfl | cases h
theorem wishV_ns {n : Int} {d : D} {r : List D} (h : isV d "str" = false) : wishV n (.tup (d :: r)) = false := by cases d <;> first | rfl | cases h
section
variable {w : Wx} {E : En} {G : Hd} {n : Int} {s : Str} {x1 x2 x3 a b c : D}
theorem nat3 {k : Nat} (h : k ≠ 3) : ((k : Int) = 3) = False := by simp; omega
/-- the tail of the look at a longer wish -/
theorem is_wish_r2 {xs : List D} {ds : List D} (hs : Dds G xs ds) (hok : PySem.PyData.strOk s = true) (hl : (ds.length = 2 ∧ (("span" : Str) == s) = true) ∨ (ds.length = 3 ∧ (("held" : Str) == s) = true)) (hb : bjS s = false)
    (hq : ∀ G', Ext G G' → E.rt (.bl (wishV n (.tup (.str s :: ds)))) G') : t_is_wish_r2 w E [some (.int n), some (.tup (.str s :: xs))] G := by
  have no : wishV n (.tup (.str s :: ds)) = false → ∀ G', Ext G G' → E.rt (.bl false) G' := fun e G' x => by have := hq G' x; rwa [e] at this
  unfold t_is_wish_r2 t_is_wish_r1
  walk_at "e"
  rcases hl with ⟨l, e⟩ | ⟨l, e⟩
  · obtain ⟨a, b, rfl⟩ := two_of l
    obtain ⟨x1, x2, rfl, h1, h2⟩ := dds2 hs
    simp only [atI_1, atI_2, Option.some.injEq, exists_eq_left']
    refine ⟨x1, a, 0, n, rfl, h1, ?_⟩
    walk_at "e"
    refine ⟨fun e1 => no (by simp only [Bool.not_eq_true'] at e1; simp [wishV, hb, e1]) _ .refl, fun e1 => ?_⟩
    simp only [Bool.not_eq_false'] at e1
    obtain ⟨i, rfl⟩ := from_int e1
    cases h1.int_inv
    walk_at "e"
    refine ⟨x2, b, i + 1, n, rfl, h2, ?_⟩
    walk_at "e"
    refine ⟨fun e2 => no (by simp only [Bool.not_eq_true'] at e2; simp [wishV, hb, intOf, e2]) _ .refl, fun e2 => ?_⟩
    simp only [Bool.not_eq_false'] at e2
    have := hq G .refl
    simpa [wishV, hb, intOf, e, e1, e2] using this
  · obtain ⟨a, b, c, rfl⟩ := three_of l
    obtain ⟨x1, x2, x3, rfl, h1, h2, h3⟩ := dds3 hs
    simp only [atI_1, atI_2, atI_3, Option.some.injEq, exists_eq_left']
    refine ⟨x1, a, 0, n, rfl, h1, ?_⟩
    walk_at "e"
    refine ⟨fun e1 => no (by simp only [Bool.not_eq_true'] at e1; simp [wishV, hb, e1]) _ .refl, fun e1 => ?_⟩
    simp only [Bool.not_eq_false'] at e1
    obtain ⟨i, rfl⟩ := from_int e1
    cases h1.int_inv
    walk_at "e"
    refine ⟨x2, b, i + 1, n, rfl, h2, ?_⟩
    walk_at "e"
    refine ⟨fun e2 => no (by simp only [Bool.not_eq_true'] at e2; simp [wishV, hb, intOf, e2]) _ .refl, fun e2 => ?_⟩
    simp only [Bool.not_eq_false'] at e2
    refine ⟨fun z => by simp at z, fun _ => ⟨x3, c, 1, 24, 1039, rfl, h3, by decide, fun G' x' => ?_⟩⟩
    have := hq G' x'
    simpa [wishV, hb, intOf, e, e1, e2] using this
end
theorem strs_ok {s : Str} (h : s = "border" ∨ s = "joined" ∨ s = "span" ∨ s = "held") : PySem.PyData.strOk s = true := by rcases h with rfl | rfl | rfl | rfl <;> decide +kernel
theorem two_strs {s t : Str} (h1 : PySem.PyData.strOk s = true) (h2 : PySem.PyData.strOk t = true) : sh (.tup [.str s, .str t]) := ⟨by simp [okD, okDs, h1, h2], by simp [dep, deps]⟩
theorem not_both {s : Str} (h : (("span" : Str) == s) = true) : (("held" : Str) == s) = false := by
  have : ("span" : Str) = s := by simpa using h
  subst this; decide +kernel
theorem wishV_long {n : Int} {s : Str} {ds : List D} (hb : bjS s = false) (h : ¬ (ds.length = 2 ∧ (("span" : Str) == s) = true) ∧ ¬ (ds.length = 3 ∧ (("held" : Str) == s) = true)) : wishV n (.tup (.str s :: ds)) = false := by
  simp only [wishV, hb, Bool.false_eq_true, ite_false]
  split
  · have : (("span" : Str) == s) = false := by
      cases e : (("span" : Str) == s) with
      | false => rfl
      | true => exact absurd ⟨rfl, e⟩ h.1
    simp [this]
  · have : (("held" : Str) == s) = false := by
      cases e : (("held" : Str) == s) with
      | false => rfl
      | true => exact absurd ⟨rfl, e⟩ h.2
    simp [this]
  · rfl
theorem b_is_wish : Body t_is_wish N_is_wish sp_is_wish := by
  rintro ds G q x ⟨x, d, n, rfl, h, g, hq⟩
  unfold t_is_wish N_is_wish t_is_wish_r4
  walk_at "e"
  refine ⟨h.kn, ?_⟩
  rw [h.is]
  have no : wishV n d = false → ∀ G', Ext G G' → q (.bl false) G' := fun e G' x => by have := hq G' x; rwa [e] at this
  refine ⟨fun e => no (wishV_nt (by simpa using e)) _ .refl, fun e => ?_⟩
  obtain ⟨ds, rfl⟩ := is_tup (d := d) (by simpa using e)
  obtain ⟨xs, rfl, hs⟩ := h.tup_inv
  have el := hs.length
  walk_at "e"
  rw [el]
  refine ⟨fun e1 => no ?_ _ .refl, fun e1 => ?_⟩
  · cases ds with
    | nil => rfl
    | cons c r => cases r with
      | nil => cases c <;> simp [wishV]
      | cons => simp at e1; omega
  have l2 : 2 ≤ ds.length := by simp only [decide_eq_false_iff_not, Int.not_lt] at e1; omega
  cases hs with
  | nil => simp at l2
  | @cons x0 d0 xs ds h0 hs =>
  rw [gd_tup] at g
  simp only [atI_0, Option.some.injEq, exists_eq_left']
  refine ⟨h0.kn, ?_⟩
  rw [h0.is]
  refine ⟨fun e2 => no (wishV_ns (by simpa using e2)) _ .refl, fun e2 => ?_⟩
  obtain ⟨s, rfl⟩ := isV_str (d := d0) (by simpa using e2)
  cases h0.str_inv
  have hok : PySem.PyData.strOk s = true := (g.2 _ List.mem_cons_self).ok.1
  have kb : PySem.PyData.strOk "border" = true := by decide +kernel
  have kj : PySem.PyData.strOk "joined" = true := by decide +kernel
  have ks : PySem.PyData.strOk "span" = true := by decide +kernel
  have kh : PySem.PyData.strOk "held" = true := by decide +kernel
  walk_at "e"
  refine in_t (.str s) (.cons (.str _) (.cons (.str _) .nil)) (lnS hok) (two_strs kb kj) ?_
  simp only [List.any_cons, List.any_nil, eqB, Bool.or_false, Bool.false_xor]
  walk_at "e"
  have els := hs.length
  have bj : (("border" : Str) == s || ("joined" : Str) == s) = bjS s := rfl
  rw [bj]
  refine ⟨fun e3 => ⟨fun e4 => ?_, fun e4 => ?_⟩, fun e3 => ?_⟩
  · have l1 : ds.length = 1 := by simp at e4; omega
    obtain ⟨a, rfl⟩ : ∃ a, ds = [a] := by match ds, l1 with | [a], _ => exact ⟨a, rfl⟩
    obtain ⟨y, rfl, h1⟩ : ∃ y, xs = [y] ∧ Dd G y a := by
      cases hs with | cons h1 hs => (cases hs; exact ⟨_, rfl, h1⟩)
    simp only [atI_1, Option.some.injEq, exists_eq_left']
    refine ⟨_, a, 1, n - 1, rfl, h1, ?_⟩
    have := hq G .refl
    simpa [wishV, e3] using this
  · refine no ?_ _ .refl
    simp only [wishV, e3, ite_true]
    split
    · simp at els; simp [els] at e4
    · rfl
  · have e3' : bjS s = false := e3
    unfold t_is_wish_r3
    walk_at "e"
    simp only [atI_0, Option.some.injEq, exists_eq_left']
    refine in_t (.str s) (.cons (.str _) (.cons (.str _) .nil)) (lnS hok) (two_strs ks kh) ?_
    simp only [List.any_cons, List.any_nil, eqB, Bool.or_false, Bool.true_xor]
    walk_at "e"
    refine ⟨fun e4 => no (wishV_long e3' (by
      simp only [Bool.not_eq_true', Bool.or_eq_false_iff] at e4
      exact ⟨fun z => (by rw [e4.1] at z; cases z.2), fun z => (by rw [e4.2] at z; cases z.2)⟩)) _ .refl, fun e4 => ?_⟩
    unfold dDix
    intro p hp
    walk_at "e"
    simp only [atI_0, Option.some.injEq, exists_eq_left']
    have xp : Ext G (st G p (.dic (dLit [("span", 3), ("held", 4)]))) := .new hp
    have e4' : (("span" : Str) == s) = true ∨ (("held" : Str) == s) = true := by
      simp only [Bool.not_eq_false', Bool.or_eq_true] at e4; exact e4
    cases hB : ("span" : Str) == s with
    | true =>
      have hC := not_both hB
      have hB' : s = "span" := by simp at hB; exact hB.symm
      refine ⟨s, 3, rfl, st_same, by rw [hB']; rfl, ?_⟩
      refine ⟨fun e5 => no (wishV_long e3' ⟨fun z => ?_, fun z => (by rw [hC] at z; cases z.2)⟩) _ xp, fun e5 => ?_⟩
      · simp [els, z.1] at e5
      · exact is_wish_r2 (hs.ext xp) hok (.inl ⟨by simp at e5; omega, hB⟩) e3' fun G' x' => hq G' (xp.trans x')
    | false =>
      have hC : (("held" : Str) == s) = true := by simpa [hB] using e4'
      have hC' : s = "held" := by simp at hC; exact hC.symm
      refine ⟨s, 4, rfl, st_same, by rw [hC']; rfl, ?_⟩
      refine ⟨fun e5 => no (wishV_long e3' ⟨fun z => (by rw [hB] at z; cases z.2), fun z => ?_⟩) _ xp, fun e5 => ?_⟩
      · simp [els, z.1] at e5
      · exact is_wish_r2 (hs.ext xp) hok (.inr ⟨by simp at e5; omega, hC⟩) e3' fun G' x' => hq G' (xp.trans x')
section
variable {w : Wx} {E : En} {G : Hd} {n : Int} {s : Str} {x1 x2 x3 a b c : D}
theorem law_is_wish_r2 {xs : List D} {ds : List D} (hs : Dds G xs ds) (hok : PySem.PyData.strOk s = true) (hl : (ds.length = 2 ∧ (("span" : Str) == s) = true) ∨ (ds.length = 3 ∧ (("held" : Str) == s) = true)) (hb : bjS s = false)
    (hq : ∀ G', Ext G G' → E.rt (.bl (wishV n (.tup (.str s :: ds)))) G') : t__law_is_wish_r2 w E [some (.int n), some (.tup (.str s :: xs))] G := by
  have no : wishV n (.tup (.str s :: ds)) = false → ∀ G', Ext G G' → E.rt (.bl false) G' := fun e G' x => by have := hq G' x; rwa [e] at this
  have ks : PySem.PyData.strOk "span" = true := by decide +kernel
  have fr : ∀ {a b : D}, fromV 0 (n - 1) a = false → (fromV 0 n a && fromV (intOf a + 1) n b) = false := by
    intro a b h
    cases hh : (fromV 0 n a && fromV (intOf a + 1) n b) with
    | false => rfl
    | true =>
      exfalso
      rw [Bool.and_eq_true] at hh
      obtain ⟨i, rfl⟩ := from_int hh.1
      obtain ⟨j, rfl⟩ := from_int hh.2
      have h1 := hh.1
      have h2 := hh.2
      simp only [fromV, intOf, Bool.and_eq_true, decide_eq_true_eq] at h1 h2
      have : fromV 0 (n - 1) (.int i) = true := by
        have h3 : i + 1 ≤ j := of_decide_eq_true h2.1
        simp only [fromV, Bool.and_eq_true, decide_eq_true_eq]; omega
      rw [this] at h; cases h
  have fr2 : ∀ {i : Int}, fromV 0 (n - 1) (.int i) = true → fromV 0 n (.int i) = true := by
    intro i h; simp [fromV] at h ⊢; omega
  unfold t__law_is_wish_r2 t__law_is_wish_r1
  walk_at "e"
  rcases hl with ⟨l, e⟩ | ⟨l, e⟩
  · obtain ⟨a, b, rfl⟩ := two_of l
    obtain ⟨x1, x2, rfl, h1, h2⟩ := dds2 hs
    simp only [atI_0, atI_1, atI_2, Option.some.injEq, exists_eq_left']
    refine ⟨x1, a, 0, n - 1, rfl, h1, ?_⟩
    walk_at "e"
    refine ⟨fun e1 => no (by simp only [Bool.not_eq_true'] at e1; have := fr (b := b) e1; simp only [wishV, hb, e, Bool.false_eq_true, ite_false, Bool.true_and, this]) _ .refl, fun e1 => ?_⟩
    simp only [Bool.not_eq_false'] at e1
    obtain ⟨i, rfl⟩ := from_int e1
    cases h1.int_inv
    walk_at "e"
    refine ⟨x2, b, i + 1, n, rfl, h2, ?_⟩
    walk_at "e"
    refine ⟨fun e2 => no (by simp only [Bool.not_eq_true'] at e2; simp [wishV, hb, intOf, e2]) _ .refl, fun e2 => ?_⟩
    simp only [Bool.not_eq_false'] at e2
    rw [eqR_s hok ks]
    have e' : (s == ("span" : Str)) = true := by have : ("span" : Str) = s := by simpa using e
                                                 rw [← this]; exact beq_self_eq_true _
    walk_at "e"
    rw [e']
    walk_at "e"
    have := hq G .refl
    simpa [wishV, hb, intOf, e, fr2 e1, e2] using this
  · obtain ⟨a, b, c, rfl⟩ := three_of l
    obtain ⟨x1, x2, x3, rfl, h1, h2, h3⟩ := dds3 hs
    simp only [atI_0, atI_1, atI_2, atI_3, Option.some.injEq, exists_eq_left']
    refine ⟨x1, a, 0, n - 1, rfl, h1, ?_⟩
    walk_at "e"
    refine ⟨fun e1 => no (by simp only [Bool.not_eq_true'] at e1; have := fr (b := b) e1; simp only [wishV, hb, e, Bool.false_eq_true, ite_false, Bool.true_and, this, Bool.false_and]) _ .refl, fun e1 => ?_⟩
    simp only [Bool.not_eq_false'] at e1
    obtain ⟨i, rfl⟩ := from_int e1
    cases h1.int_inv
    walk_at "e"
    refine ⟨x2, b, i + 1, n, rfl, h2, ?_⟩
    walk_at "e"
    refine ⟨fun e2 => no (by simp only [Bool.not_eq_true'] at e2; simp [wishV, hb, intOf, e2]) _ .refl, fun e2 => ?_⟩
    simp only [Bool.not_eq_false'] at e2
    rw [eqR_s hok ks]
    have e' : (s == ("span" : Str)) = false := by
      have : ("held" : Str) = s := by simpa using e
      rw [← this]; decide +kernel
    walk_at "e"
    rw [e']
    walk_at "e"
    refine ⟨x3, c, 1, 24, 1039, rfl, h3, by decide, fun G' x' => ?_⟩
    have := hq G' x'
    simpa [wishV, hb, intOf, e, fr2 e1, e2] using this
end
theorem b__law_is_wish : Body t__law_is_wish N__law_is_wish sp__law_is_wish := by
  rintro ds G q x ⟨x, d, n, rfl, h, g, hq⟩
  unfold t__law_is_wish N__law_is_wish t__law_is_wish_r4
  walk_at "e"
  refine ⟨h.kn, ?_⟩
  rw [h.is]
  have no : wishV n d = false → ∀ G', Ext G G' → q (.bl false) G' := fun e G' x => by have := hq G' x; rwa [e] at this
  refine ⟨fun e => no (wishV_nt (by simpa using e)) _ .refl, fun e => ?_⟩
  obtain ⟨ds, rfl⟩ := is_tup (d := d) (by simpa using e)
  obtain ⟨xs, rfl, hs⟩ := h.tup_inv
  have el := hs.length
  walk_at "e"
  refine in_t (.int _) (.cons (.int _) (.cons (.int _) (.cons (.int _) .nil))) ⟨rfl, Nat.zero_le _⟩ ⟨by decide +kernel, by decide +kernel⟩ ?_
  simp only [List.any_cons, List.any_nil, eqB, Bool.or_false, Bool.true_xor, beq_dec]
  walk_at "e"
  rw [el]
  refine ⟨fun e1 => no ?_ _ .refl, fun e1 => ?_⟩
  · match ds with
    | [] => rfl
    | [c] => cases c <;> simp [wishV]
    | [_, _] => simp at e1
    | [_, _, _] => simp at e1
    | [_, _, _, _] => simp at e1
    | c :: _ :: _ :: _ :: _ :: _ => cases c <;> simp [wishV]
  have l2 : ds.length = 2 ∨ ds.length = 3 ∨ ds.length = 4 := by simp at e1; omega
  cases hs with
  | nil => simp at l2
  | @cons x0 d0 xs ds h0 hs =>
  rw [gd_tup] at g
  simp only [atI_0, Option.some.injEq, exists_eq_left']
  refine ⟨h0.kn, ?_⟩
  rw [h0.is]
  refine ⟨fun e2 => no (wishV_ns (by simpa using e2)) _ .refl, fun e2 => ?_⟩
  obtain ⟨s, rfl⟩ := isV_str (d := d0) (by simpa using e2)
  cases h0.str_inv
  have hok : PySem.PyData.strOk s = true := (g.2 _ List.mem_cons_self).ok.1
  have kb : PySem.PyData.strOk "border" = true := by decide +kernel
  have kj : PySem.PyData.strOk "joined" = true := by decide +kernel
  have ks : PySem.PyData.strOk "span" = true := by decide +kernel
  have kh : PySem.PyData.strOk "held" = true := by decide +kernel
  rw [eqR_s hok kb]
  walk_at "e"
  have els := hs.length
  have bd : bjS s = true → Br (decide (↑(ds.length + 1) = (2 : Int))) (∃ d, atI (D.str s :: xs) 1 = some d ∧ sp__law_from [d, D.int 1, D.int (n - 1)] G q fun i d G2 => x i d G2) (q (D.bl false) G) := by
    intro e3
    refine ⟨fun e4 => ?_, fun e4 => ?_⟩
    · have l1 : ds.length = 1 := by simp at e4; omega
      obtain ⟨a, rfl⟩ : ∃ a, ds = [a] := by match ds, l1 with | [a], _ => exact ⟨a, rfl⟩
      obtain ⟨y, rfl, h1⟩ : ∃ y, xs = [y] ∧ Dd G y a := by
        cases hs with | cons h1 hs => (cases hs; exact ⟨_, rfl, h1⟩)
      simp only [atI_1, Option.some.injEq, exists_eq_left']
      refine ⟨_, a, 1, n - 1, rfl, h1, ?_⟩
      have := hq G .refl
      simpa [wishV, e3] using this
    · refine no ?_ _ .refl
      simp only [wishV, e3, ite_true]
      split
      · simp at els; simp [els] at e4
      · rfl
  have eqc : ∀ {t : Str}, (s == t) = true → (t == s) = true := fun {t} h => by
    have : s = t := by simpa using h
    rw [this]; exact beq_self_eq_true _
  have eqc' : ∀ {t : Str}, (s == t) = false → (t == s) = false := fun {t} h => by
    cases e : t == s with
    | false => rfl
    | true =>
      have : t = s := by simpa using e
      rw [this, beq_self_eq_true] at h; cases h
  refine ⟨fun e3 => bd (by simp only [bjS, eqc e3, Bool.true_or]), fun e3 => ?_⟩
  rw [eqR_s hok kj]
  walk_at "e"
  refine ⟨fun e4 => bd (by simp only [bjS, eqc e4, Bool.or_true]), fun e4 => ?_⟩
  have e3' : bjS s = false := by simp only [bjS, eqc' e3, eqc' e4, Bool.or_false]
  unfold t__law_is_wish_r3
  walk_at "e"
  refine ⟨fun e5 => no (wishV_long e3' ⟨fun z => ?_, fun z => ?_⟩) _ .refl, fun e5 => ?_⟩
  · simp [els, z.1] at e5
  · simp [els, z.1] at e5
  simp only [atI_0, Option.some.injEq, exists_eq_left']
  intro p hp
  have dt : ∀ {t : Str} {i : Int}, Dd (st G p (.lst [.tup [.str "span", .int 3], .tup [.str "held", .int 4]])) (.tup [.str t, .int i]) (.tup [.str t, .int i]) := .tup (.cons (.str _) (.cons (.int _) .nil))
  have xp : Ext G (st G p (.lst [.tup [.str "span", .int 3], .tup [.str "held", .int 4]])) := .new hp
  refine in_r (.inl st_same) dt (.cons dt (.cons dt .nil)) ⟨by simp [okD, okDs, hok], by simp [dep, deps]⟩ ⟨by decide +kernel, by decide +kernel⟩ ?_
  simp only [List.any_cons, List.any_nil, eqB, eqBs, Bool.or_false, Bool.and_true, Bool.true_xor, beq_dec]
  walk_at "e"
  rw [els] at e5 ⊢
  refine ⟨fun e6 => no (wishV_long e3' ⟨fun z => ?_, fun z => ?_⟩) _ xp, fun e6 => ?_⟩
  · rw [z.2, z.1] at e6; simp at e6
  · rw [z.2, z.1] at e6; simp at e6
  refine law_is_wish_r2 (hs.ext xp) hok ?_ e3' fun G' x' => hq G' (xp.trans x')
  simp only [Bool.not_eq_false', Bool.or_eq_true, Bool.and_eq_true, decide_eq_true_eq] at e6
  rcases e6 with ⟨h1, h2⟩ | ⟨h1, h2⟩
  · exact .inl ⟨by omega, h1⟩
  · exact .inr ⟨by omega, h1⟩

end S

set_option Elab.async false
set_option linter.all false
set_option maxRecDepth 100000
set_option maxHeartbeats 4000000
namespace S
open PySem PySem.Spec L2
open PyProof.Rows hiding St
local macro_rules | `(tactic| walk_at "e") => `(tactic| try simp only [dSeq, dNext, dRet, dRetN, dIf, dAsg, dAug, dDrop, par_eq, prs_2, dBreak, dCont, dgName, dgSub, gTup_t, gCons_c, gNil_n, dFor_eq, dLc_eq, dVar, dC, dOp, dUn, dBi, dCall, dCons, dNil, dTup, dLst, dSl, part_eq, prt_i, dNoPart, dAndV, dOrV, dNotV, dB, dAnd, dOr, dNot, dIfE, dChain, itv_eq, itv_t, itv_r, dRng, dWalk, dBm, rng1_i, rng2_i, rng3_i, enumR_r, zipR_r,
  BI.r, addD_i, addD_s, addD_t, addD_r, subD_i, mulD_i, mulD_r, mulD_t, modD_i, divD_i, powD_i, ltD_i, leD_i, gtD_i, geD_i, incD_i, negD_i, lr1_i, lr2_i, revD_r, isND_n, isNon, ixD_t, ixD_r, ixD_d, setD_d, dDnew, itk_eq, itk_r, dDm, getD_r, ditD_r, dItI, iti_r, listK_r, sortedD_r, ixD_l, ixD_s, slD_t, slD_r, slD_s, setD_r, lenD_s, lenD_t, lenD_l, lenD_r, isiD_1, isiD_n, listD_t, listD_r, tupleD_t, tupleD_r, allD_r, anyD_r, sumD_r, maxD_r, maxD_2, minD_r, minD_2, absD_i, intB_i, intB_b, appD_r, startD, wipeD,
  List.map_cons, List.map_nil, rep_z, rep_s, List.length_cons, List.length_nil, List.cons_append, List.nil_append, List.append_nil, List.getElem?_cons_zero, List.getElem?_cons_succ, List.set_cons_zero, List.set_cons_succ, Option.some.injEq, exists_eq_left', exists_eq_left, D.bl.injEq, D.int.injEq, D.tup.injEq, D.ref.injEq, true_and, and_true, Nat.reduceAdd, Nat.reduceSub, Nat.add_sub_cancel_left, exists_const, br_t, br_f, eqR_int, eqR_bl, Bool.false_bne, Bool.true_bne, Bool.false_xor, Bool.true_xor, Bool.not_true, Bool.not_false, Bool.not_not, ite_true, ite_false, Bool.true_eq_false, false_implies, decide_true, decide_false, tc_int, tc_bool, tc_str, tc_tup, tc_lst, tc_non, tc_dic, ln0, ln1, ln2, ln3, ln4, ln5, ln6, ln7, ln8, ln9, ln10, ln11, ln12, ln13, ln14, ln15, ln16, ln17, ln18, ln19, ln20, ln21, ln22, ln23, ln24, ln25, ln26, ln27, ln28, ln29, ln30, ln31, ln32, ln33, ln34, ln35, ln36, ln37, ln38, ln39, ln40, ln41, ln42, ln43, ln44, ln45, ln46, ln47, ln48, ln49, ln50, ln51, ln52, ln53, ln54, ln55, ln56, ln57, ln58, ln59, ln60])
local macro_rules | `(tactic| walk_at "g") => `(tactic| try simp only [st_same, st_st, GO.lst.injEq, Option.some.injEq, exists_eq_left', exists_eq_left, atI_0, atI_1, atI_2, atI_3, ixN_0, ixN_1, ixN_2, ixN_3, List.set_cons_zero, List.set_cons_succ, List.length_cons, List.length_nil, List.length_append, List.cons_append, List.nil_append, true_and, and_true, seq_st])
/-! ## drawn wishes -/
def sp__law_wish_signs : DSp := fun ds G q _ => ∃ b, ds = [.ref b] ∧ Bag G b ∧ ∀ (S : List Int) G', 1 ≤ S.length → S.length ≤ 4 → (∀ z ∈ S, 0 ≤ z ∧ z < 1040) → Xt [b] G G' → Bag G' b → q (.tup (S.map .int)) G'
def t__law_wish_signs_r1 : TSd := dRet (dBi (BI.r .tuple) (dCons (dLc (dRng rng1 (dCons (dOp addD (dC (.int 1)) (dCall sp__law_take (dCons (dVar 0) (dCons (dC (.int 4)) (dNil))))) (dNil))) (dgName 1) dYes (dCall sp__law_take (dCons (dVar 0) (dCons (dC (.int 1040)) (dNil)))) [1]) (dNil)))
def N__law_wish_signs : List Str := ["_law_bag_here", "_law_k"]
def P__law_wish_signs : List Str := ["_law_bag_here"]
def t__law_wish_signs : TSd := dSeq (dIf (dB (dOp gtD (dCall sp__law_take (dCons (dVar 0) (dCons (dC (.int 4)) (dNil)))) (dC (.int 0)))) (dRet (dTup (dCons (dCall sp__law_take (dCons (dVar 0) (dCons (dC (.int 3)) (dNil)))) (dNil)))) (dNext)) t__law_wish_signs_r1
def gl__law_wish_signs : List (Str × GI) := [("_law_take", .fn sp__law_take), ("tuple", .bi .tuple), ("range", .rng)]
theorem len__law_wish_signs : ∀ ds G q x, sp__law_wish_signs ds G q x → ds.length = P__law_wish_signs.length := by
  rintro _ _ _ _ ⟨b, rfl, _⟩; rfl
theorem b__law_wish_signs : Body t__law_wish_signs N__law_wish_signs sp__law_wish_signs := by
  rintro ds G q x ⟨b, rfl, bag, hq⟩
  unfold t__law_wish_signs N__law_wish_signs
  walk_at "e"
  refine ⟨b, 4, rfl, bag, by decide, by decide, fun r G1 r0 r1 x1 bag1 => ?_⟩
  walk_at "e"
  refine ⟨fun _ => ⟨b, 3, rfl, bag1, by decide, by decide, fun r2 G2 r20 r21 x2 bag2 => ?_⟩, fun _ => ?_⟩
  · exact hq [r2] G2 (by simp) (by simp) (fun z hz => by rw [List.mem_singleton.mp hz]; exact ⟨r20, by omega⟩) (x1.trans x2) bag2
  · unfold t__law_wish_signs_r1
    walk_at "e"
    refine ⟨b, 4, rfl, bag1, by decide, by decide, fun r G2 r0 r1 x2 bag2 => ?_⟩
    walk_at "e"
    refine ⟨by omega, ?_⟩
    refine lcR_takes (k := 1040) bag2 (by simp [rngL]; omega) (fun i x e G' Q' bg kk => ?_) fun pa G3 za hpa x3 bag3 ea la hza => ?_
    · walk_at "e"
      exact ⟨b, 1040, rfl, bg, by decide, by decide, kk⟩
    walk_at "e"
    have la2 : za.length = (1 + r).toNat := by rw [la]; simp [rngL]
    exact ⟨_, .inl ea, hq za G3 (by omega) (by omega) hza ((x1.trans x2).trans x3) bag3⟩
inductive Wi where
  | border (i : Int) | joined (i : Int) | held (i j : Int) (S : List Int) | span (i j : Int)
def Wi.d : Wi → D
  | .border i => .tup [.str "border", .int i]
  | .joined i => .tup [.str "joined", .int i]
  | .held i j S => .tup [.str "held", .int i, .int j, .tup (S.map .int)]
  | .span i j => .tup [.str "span", .int i, .int j]
def Wi.Ok (n : Int) : Wi → Prop
  | .border i => 1 ≤ i ∧ i ≤ n - 1
  | .joined i => 1 ≤ i ∧ i ≤ n - 1
  | .held i j S => 0 ≤ i ∧ i < j ∧ j ≤ n ∧ 1 ≤ S.length ∧ S.length ≤ 4 ∧ ∀ z ∈ S, 0 ≤ z ∧ z < 1040
  | .span i j => 0 ≤ i ∧ i < j ∧ j ≤ n
theorem pu_str {n : Nat} {s : Str} (h : PySem.PyData.strOk s = true ∧ s.length ≤ 100) : Pu n (.str s) := ⟨fun _ => .str s, gd_str h⟩
theorem pu_l {n : Nat} {xs : List D} (h : Pu n (.tup xs)) : xs.length ≤ 100 := by
  have := h.2; cases n with
  | zero => simp only [gd] at this
  | succ n => exact (gd_tup.mp this).1
theorem pu_i {n : Nat} {xs : List D} (h : Pu (n + 1) (.tup xs)) : ∀ y ∈ xs, Pu n y := fun y hy => ⟨fun G => by
    obtain ⟨zs, e, r⟩ := (h.1 G).tup_inv
    cases e
    obtain ⟨i, hi⟩ := List.mem_iff_getElem?.mp hy
    obtain ⟨d, e, q⟩ := r.get hi
    rw [hi] at e; cases e; exact q, (gd_tup.mp h.2).2 y hy⟩
theorem Wi.pu {n : Int} {w : Wi} (h : w.Ok n) : Pu 2 w.d := by
  cases w with
  | border i =>
    refine pu_tup (by simp) fun y hy => ?_
    simp only [List.mem_cons, List.not_mem_nil, or_false] at hy
    rcases hy with rfl | rfl
    · exact pu_str (by decide +kernel)
    · exact pu_int
  | joined i =>
    refine pu_tup (by simp) fun y hy => ?_
    simp only [List.mem_cons, List.not_mem_nil, or_false] at hy
    rcases hy with rfl | rfl
    · exact pu_str (by decide +kernel)
    · exact pu_int
  | held i j S =>
    refine pu_tup (by simp) fun y hy => ?_
    simp only [List.mem_cons, List.not_mem_nil, or_false] at hy
    rcases hy with rfl | rfl | rfl | rfl
    · exact pu_str (by decide +kernel)
    · exact pu_int
    · exact pu_int
    · exact pu_ints (by have := h.2.2.2.2.1; omega)
  | span i j =>
    refine pu_tup (by simp) fun y hy => ?_
    simp only [List.mem_cons, List.not_mem_nil, or_false] at hy
    rcases hy with rfl | rfl | rfl
    · exact pu_str (by decide +kernel)
    · exact pu_int
    · exact pu_int
theorem Wi.parts (w : Wi) : ∃ s r, w.d = .tup (.str s :: r) ∧ r ≠ [] ∧ r.length ≤ 3 := by
  cases w <;> exact ⟨_, _, rfl, by simp, by simp⟩
def sp__law_wish : DSp := fun ds G q _ => ∃ (b : Addr) (n : Int), ds = [.ref b, .int n] ∧ Bag G b ∧ 1 ≤ n ∧ n ≤ 1000 ∧ ∀ (w : Wi) G', w.Ok n → Xt [b] G G' → Bag G' b → q w.d G'
def t__law_wish_r1 : TSd := dRet (dTup (dCons (dC (.str "span")) (dCons (dVar 3) (dCons (dVar 4) (dNil)))))
def t__law_wish_r2 : TSd := dSeq (dIf (dB (dOp (eqR false) (dVar 2) (dC (.int 2)))) (dRet (dTup (dCons (dC (.str "held")) (dCons (dVar 3) (dCons (dVar 4) (dCons (dCall sp__law_wish_signs (dCons (dVar 0) (dNil))) (dNil))))))) (dNext)) t__law_wish_r1
def t__law_wish_s1 : TSd := dSeq (dIf (dAnd (dB (dOp ltD (dVar 2) (dC (.int 2)))) (dB (dOp gtD (dVar 1) (dC (.int 1))))) (dRet (dTup (dCons (dOp ixD (dLst (dCons (dC (.str "border")) (dCons (dC (.str "joined")) (dNil)))) (dVar 2)) (dCons (dOp addD (dC (.int 1)) (dCall sp__law_take (dCons (dVar 0) (dCons (dOp subD (dVar 1) (dC (.int 1))) (dNil))))) (dNil))))) (dNext)) t__law_wish_r2
def N__law_wish : List Str := ["_law_bag_here", "_law_n", "_law_way", "_law_i", "_law_j"]
def P__law_wish : List Str := ["_law_bag_here", "_law_n"]
def t__law_wish : TSd := dSeq (dAsg (dCall sp__law_take (dCons (dVar 0) (dCons (dC (.int 4)) (dNil)))) (dgName 2)) (dSeq (dAsg (dCall sp__law_take (dCons (dVar 0) (dCons (dVar 1) (dNil)))) (dgName 3)) (dSeq (dAsg (dOp addD (dOp addD (dVar 3) (dC (.int 1))) (dCall sp__law_take (dCons (dVar 0) (dCons (dOp ixD (dLst (dCons (dOp subD (dVar 1) (dVar 3)) (dCons (dBi (BI.r .min) (dCons (dC (.int 3)) (dCons (dOp subD (dVar 1) (dVar 3)) (dNil)))) (dNil)))) (dCall sp__law_take (dCons (dVar 0) (dCons (dC (.int 2)) (dNil))))) (dNil))))) (dgName 4)) t__law_wish_s1))
def gl__law_wish : List (Str × GI) := [("_law_take", .fn sp__law_take), ("min", .bi .min), ("_law_wish_signs", .fn sp__law_wish_signs)]
theorem len__law_wish : ∀ ds G q x, sp__law_wish ds G q x → ds.length = P__law_wish.length := by
  rintro _ _ _ _ ⟨b, n, rfl, _⟩; rfl
theorem b__law_wish : Body t__law_wish N__law_wish sp__law_wish := by
  rintro ds G q x ⟨b, n, rfl, bag, n1, n2, hq⟩
  unfold t__law_wish N__law_wish
  walk_at "e"
  have big : (1000 : Int) < 2 ^ 200 := by decide
  refine ⟨b, 4, rfl, bag, by decide, by decide, fun way G1 w0 w4 x1 bag1 => ⟨b, n, rfl, bag1, by omega, by omega, fun i G2 i0 i1 x2 bag2 => ?_⟩⟩
  walk_at "e"
  refine pick bag2 rfl (by simp) (by simp) fun z hz G3 x3 bag3 => ?_
  have hz2 : ∃ k : Int, z = .int k ∧ 0 < k ∧ k ≤ n - i := by
    simp only [List.mem_cons, List.not_mem_nil, or_false] at hz
    rcases hz with rfl | rfl
    · exact ⟨_, rfl, by omega, by omega⟩
    · exact ⟨_, rfl, by omega, by omega⟩
  obtain ⟨k, rfl, k0, kn⟩ := hz2
  refine ⟨b, k, rfl, bag3, k0, by omega, fun r G4 r0 r1 x4 bag4 => ?_⟩
  unfold t__law_wish_s1
  walk_at "e"
  have x04 := ((x1.trans x2).trans x3).trans x4
  have rest : t__law_wish_r2 (fun i d _ G => x i d G) { nx := fun _ G => q .non G, rt := q } [some (.ref b), some (.int n), some (.int way), some (.int i), some (.int (i + 1 + r))] G4 := by
    unfold t__law_wish_r2
    walk_at "e"
    refine ⟨fun _ => ⟨b, rfl, bag4, fun S G5 l1 l4 sg x5 bag5 => ?_⟩, fun _ => ?_⟩
    · exact hq (.held i (i + 1 + r) S) G5 ⟨i0, by omega, by omega, l1, l4, sg⟩ (x04.trans x5) bag5
    · unfold t__law_wish_r1
      walk_at "e"
      exact hq (.span i (i + 1 + r)) G4 ⟨i0, by omega, by omega⟩ x04 bag4
  refine ⟨fun e1 => ⟨fun e2 => ?_, fun _ => rest⟩, fun _ => rest⟩
  intro p hp
  have hw : way = 0 ∨ way = 1 := by simp at e1; omega
  have n1' : 1 < n := by simpa using e2
  have xp : Ext G4 (st G4 p (.lst [.str "border", .str "joined"])) := .new hp
  refine ⟨_, .inl st_same, ?_⟩
  rcases hw with rfl | rfl
  · refine ⟨_, atI_0, b, n - 1, rfl, bag4.ext xp, by omega, by omega, fun r2 G5 r20 r21 x5 bag5 => ?_⟩
    walk_at "e"
    exact hq (.border (1 + r2)) G5 ⟨by omega, by omega⟩ ((x04.trans xp.ext).trans x5) bag5
  · refine ⟨_, atI_1, b, n - 1, rfl, bag4.ext xp, by omega, by omega, fun r2 G5 r20 r21 x5 bag5 => ?_⟩
    walk_at "e"
    exact hq (.joined (1 + r2)) G5 ⟨by omega, by omega⟩ ((x04.trans xp.ext).trans x5) bag5

end S

set_option Elab.async false
set_option linter.all false
set_option maxRecDepth 100000
set_option maxHeartbeats 4000000
namespace S
open PySem PySem.Spec L2
open PyProof.Rows hiding St
local macro_rules | `(tactic| walk_at "e") => `(tactic| try simp only [dSeq, dNext, dRet, dRetN, dIf, dAsg, dAug, dDrop, par_eq, prs_2, dBreak, dCont, dgName, dgSub, gTup_t, gCons_c, gNil_n, dFor_eq, dLc_eq, dVar, dC, dOp, dUn, dBi, dCall, dCons, dNil, dTup, dLst, dSl, part_eq, prt_i, dNoPart, dAndV, dOrV, dNotV, dB, dAnd, dOr, dNot, dIfE, dChain, itv_eq, itv_t, itv_r, dRng, dWalk, dBm, rng1_i, rng2_i, rng3_i, enumR_r, zipR_r,
  BI.r, addD_i, addD_s, addD_t, addD_r, subD_i, mulD_i, mulD_r, mulD_t, modD_i, divD_i, powD_i, ltD_i, leD_i, gtD_i, geD_i, incD_i, negD_i, lr1_i, lr2_i, revD_r, isND_n, isNon, ixD_t, ixD_r, ixD_d, setD_d, dDnew, itk_eq, itk_r, dDm, getD_r, ditD_r, dItI, iti_r, listK_r, sortedD_r, ixD_l, ixD_s, slD_t, slD_r, slD_s, setD_r, lenD_s, lenD_t, lenD_l, lenD_r, isiD_1, isiD_n, listD_t, listD_r, tupleD_t, tupleD_r, allD_r, anyD_r, sumD_r, maxD_r, maxD_2, minD_r, minD_2, absD_i, intB_i, intB_b, appD_r, startD, wipeD,
  List.map_cons, List.map_nil, rep_z, rep_s, List.length_cons, List.length_nil, List.cons_append, List.nil_append, List.append_nil, List.getElem?_cons_zero, List.getElem?_cons_succ, List.set_cons_zero, List.set_cons_succ, Option.some.injEq, exists_eq_left', exists_eq_left, D.bl.injEq, D.int.injEq, D.tup.injEq, D.ref.injEq, true_and, and_true, Nat.reduceAdd, Nat.reduceSub, Nat.add_sub_cancel_left, exists_const, br_t, br_f, eqR_int, eqR_bl, Bool.false_bne, Bool.true_bne, Bool.false_xor, Bool.true_xor, Bool.not_true, Bool.not_false, Bool.not_not, ite_true, ite_false, Bool.true_eq_false, false_implies, decide_true, decide_false, tc_int, tc_bool, tc_str, tc_tup, tc_lst, tc_non, tc_dic, ln0, ln1, ln2, ln3, ln4, ln5, ln6, ln7, ln8, ln9, ln10, ln11, ln12, ln13, ln14, ln15, ln16, ln17, ln18, ln19, ln20, ln21, ln22, ln23, ln24, ln25, ln26, ln27, ln28, ln29, ln30, ln31, ln32, ln33, ln34, ln35, ln36, ln37, ln38, ln39, ln40, ln41, ln42, ln43, ln44, ln45, ln46, ln47, ln48, ln49, ln50, ln51, ln52, ln53, ln54, ln55, ln56, ln57, ln58, ln59, ln60])
local macro_rules | `(tactic| walk_at "g") => `(tactic| try simp only [st_same, st_st, GO.lst.injEq, Option.some.injEq, exists_eq_left', exists_eq_left, atI_0, atI_1, atI_2, atI_3, ixN_0, ixN_1, ixN_2, ixN_3, List.set_cons_zero, List.set_cons_succ, List.length_cons, List.length_nil, List.length_append, List.cons_append, List.nil_append, true_and, and_true, seq_st])
/-! ## nets -/
theorem takes_here {G : Hd} {b : Addr} (bag : Bag G b) {k : Int} (k0 : 0 < k) (k1 : k ≤ 1000000000) {Q : Qd} {X : Nat → D → Hd → Prop} (h : ∀ r G', 0 ≤ r → r < k → Xt [b] G G' → Bag G' b → Q (.int r) G') : sp__law_take [.ref b, .int k] G Q X :=
  ⟨b, k, rfl, bag, k0, Int.lt_of_le_of_lt k1 (by decide), h⟩
def sp__law_signs : DSp := fun ds G q _ => ∃ b, ds = [.ref b] ∧ Bag G b ∧ ∀ (S : List Int) G', 1 ≤ S.length → S.length ≤ 24 → (∀ z ∈ S, 0 ≤ z ∧ z < 1040) → Xt [b] G G' → Bag G' b → q (.tup (S.map .int)) G'
def t__law_signs_r1 : TSd := dRet (dBi (BI.r .tuple) (dCons (dLc (dRng rng1 (dCons (dOp addD (dC (.int 1)) (dCall sp__law_take (dCons (dVar 0) (dCons (dC (.int 2)) (dNil))))) (dNil))) (dgName 2) dYes (dCall sp__law_take (dCons (dVar 0) (dCons (dC (.int 3)) (dNil)))) [2]) (dNil)))
def t__law_signs_r2 : TSd := dSeq (dIf (dB (dOp gtD (dVar 1) (dC (.int 4)))) (dRet (dBi (BI.r .tuple) (dCons (dLc (dRng rng1 (dCons (dOp addD (dC (.int 1)) (dCall sp__law_take (dCons (dVar 0) (dCons (dC (.int 4)) (dNil))))) (dNil))) (dgName 2) dYes (dCall sp__law_take (dCons (dVar 0) (dCons (dC (.int 1040)) (dNil)))) [2]) (dNil)))) (dNext)) t__law_signs_r1
def t__law_signs_s1 : TSd := dSeq (dIf (dB (dOp (eqR false) (dVar 1) (dC (.int 7)))) (dRet (dBi (BI.r .tuple) (dCons (dOp addD (dOp mulD (dLst (dCons (dCall sp__law_take (dCons (dVar 0) (dCons (dC (.int 1040)) (dNil)))) (dNil))) (dC (.int 23))) (dLst (dCons (dCall sp__law_take (dCons (dVar 0) (dCons (dC (.int 1040)) (dNil)))) (dNil)))) (dNil)))) (dNext)) t__law_signs_r2
def N__law_signs : List Str := ["_law_bag_here", "_law_way", "_law_k"]
def P__law_signs : List Str := ["_law_bag_here"]
def t__law_signs : TSd := dSeq (dAsg (dCall sp__law_take (dCons (dVar 0) (dCons (dC (.int 8)) (dNil)))) (dgName 1)) t__law_signs_s1
def gl__law_signs : List (Str × GI) := [("_law_take", .fn sp__law_take), ("tuple", .bi .tuple), ("range", .rng)]
theorem len__law_signs : ∀ ds G q x, sp__law_signs ds G q x → ds.length = P__law_signs.length := by
  rintro _ _ _ _ ⟨b, rfl, _⟩; rfl
theorem rep_mem {x y : D} {k : Nat} (h : y ∈ repD [x] k) : y = x := by
  unfold repD at h
  simp only [List.mem_flatten, List.mem_replicate] at h
  obtain ⟨l, ⟨_, rfl⟩, hy⟩ := h
  exact List.mem_singleton.mp hy
theorem rep_one {x : D} {k : Nat} : repD [x] k = List.replicate k x := by
  induction k with
  | zero => rfl
  | succ k ih => unfold repD at ih ⊢; rw [List.replicate_succ, List.flatten_cons, ih]; rfl
theorem b__law_signs : Body t__law_signs N__law_signs sp__law_signs := by
  rintro ds G q x ⟨b, rfl, bag, hq⟩
  unfold t__law_signs N__law_signs t__law_signs_s1
  walk_at "e"
  refine takes_here bag (by decide) (by decide) fun way G1 w0 w8 x1 bag1 => ?_
  walk_at "e"
  refine ⟨fun _ => ?_, fun _ => ?_⟩
  · refine takes_here bag1 (by decide) (by decide) fun r G2 r0 r1 x2 bag2 => ?_
    intro p1 hp1
    generalize ep1 : st G2 p1 _ = G3
    obtain ⟨xp1, kp1⟩ := nu hp1 ep1
    walk_at "e"
    refine ⟨_, kp1, ⟨by decide, by decide, line_of (by simp)⟩, ?_⟩
    intro p2 hp2
    generalize ep2 : st G3 p2 _ = G4
    obtain ⟨xp2, kp2⟩ := nu hp2 ep2
    have bag4 := bag2.ext (xp1.trans xp2)
    refine takes_here bag4 (by decide) (by decide) fun r3 G5 r30 r31 x5 bag5 => ?_
    intro p3 hp3
    generalize ep3 : st G5 p3 _ = G6
    obtain ⟨xp3, kp3⟩ := nu hp3 ep3
    have nb2 : p2 ∉ [b] := fresh_b (bag2.ext xp1) hp2
    refine ⟨_, xp3.at (x5.get nb2 kp2), _, kp3, line_of (by rw [rep_one]; simp), ?_⟩
    intro p4 hp4
    generalize ep4 : st G6 p4 _ = G7
    obtain ⟨xp4, kp4⟩ := nu hp4 ep4
    refine ⟨_, .inl kp4, ?_⟩
    have := hq (List.replicate 23 r ++ [r3]) G7 (by simp) (by simp) (fun z hz => ?_) (((x1.trans x2).trans (xp1.trans xp2).ext).trans (x5.trans (xp3.trans xp4).ext)) (bag5.ext (xp3.trans xp4))
    · rw [rep_one]; simpa using this
    · rcases List.mem_append.mp hz with hz | hz
      · rw [List.eq_of_mem_replicate hz]; exact ⟨r0, r1⟩
      · rw [List.mem_singleton.mp hz]; exact ⟨r30, r31⟩
  · unfold t__law_signs_r2
    walk_at "e"
    refine ⟨fun _ => ?_, fun _ => ?_⟩
    · refine takes_here bag1 (by decide) (by decide) fun r G2 r0 r1 x2 bag2 => ?_
      walk_at "e"
      refine ⟨by omega, ?_⟩
      refine lcR_takes (k := 1040) bag2 (by simp [rngL]; omega) (fun i x e G' Q' bg kk => ?_) fun pa G3 za hpa x3 bag3 ea la hza => ?_
      · walk_at "e"
        exact takes_here bg (by decide) (by decide) kk
      walk_at "e"
      have la2 : za.length = (1 + r).toNat := by rw [la]; simp [rngL]
      exact ⟨_, .inl ea, hq za G3 (by omega) (by omega) hza ((x1.trans x2).trans x3) bag3⟩
    · unfold t__law_signs_r1
      walk_at "e"
      refine takes_here bag1 (by decide) (by decide) fun r G2 r0 r1 x2 bag2 => ?_
      walk_at "e"
      refine ⟨by omega, ?_⟩
      refine lcR_takes (k := 3) bag2 (by simp [rngL]; omega) (fun i x e G' Q' bg kk => ?_) fun pa G3 za hpa x3 bag3 ea la hza => ?_
      · walk_at "e"
        exact takes_here bg (by decide) (by decide) kk
      walk_at "e"
      have la2 : za.length = (1 + r).toNat := by rw [la]; simp [rngL]
      exact ⟨_, .inl ea, hq za G3 (by omega) (by omega) (fun z hz => ⟨(hza z hz).1, by have := (hza z hz).2; omega⟩) ((x1.trans x2).trans x3) bag3⟩
def sp__law_cost : DSp := fun ds G q _ => ∃ b, ds = [.ref b] ∧ Bag G b ∧ ∀ (c : Int) G', 0 ≤ c → c < 100000 → Xt [b] G G' → Bag G' b → q (.int c) G'
def t__law_cost_r1 : TSd := dRet (dCall sp__law_take (dCons (dVar 0) (dCons (dC (.int 100000)) (dNil))))
def N__law_cost : List Str := ["_law_bag_here"]
def P__law_cost : List Str := ["_law_bag_here"]
def t__law_cost : TSd := dSeq (dIf (dB (dOp gtD (dCall sp__law_take (dCons (dVar 0) (dCons (dC (.int 3)) (dNil)))) (dC (.int 0)))) (dRet (dCall sp__law_take (dCons (dVar 0) (dCons (dC (.int 4)) (dNil))))) (dNext)) t__law_cost_r1
def gl__law_cost : List (Str × GI) := [("_law_take", .fn sp__law_take)]
theorem len__law_cost : ∀ ds G q x, sp__law_cost ds G q x → ds.length = P__law_cost.length := by
  rintro _ _ _ _ ⟨b, rfl, _⟩; rfl
theorem b__law_cost : Body t__law_cost N__law_cost sp__law_cost := by
  rintro ds G q x ⟨b, rfl, bag, hq⟩
  unfold t__law_cost N__law_cost t__law_cost_r1
  walk_at "e"
  refine takes_here bag (by decide) (by decide) fun r G1 r0 r1 x1 bag1 => ?_
  walk_at "e"
  refine ⟨fun _ => ?_, fun _ => ?_⟩
  · exact takes_here bag1 (by decide) (by decide) fun r G2 r0 r1 x2 bag2 => hq r G2 r0 (by omega) (x1.trans x2) bag2
  · exact takes_here bag1 (by decide) (by decide) fun r G2 r0 r1 x2 bag2 => hq r G2 r0 r1 (x1.trans x2) bag2
def sp__law_places : DSp := fun ds G q _ => ∃ (b : Addr) (m : Nat), ds = [.ref b, .int m] ∧ Bag G b ∧ m ≤ 24 ∧ ∀ (n : Nat) G', n ≤ 24 → Xt [b] G G' → Bag G' b → q (.int n) G'
def t__law_places_r1 : TSd := dRet (dCall sp__law_take (dCons (dVar 0) (dCons (dOp addD (dVar 1) (dC (.int 1))) (dNil))))
def N__law_places : List Str := ["_law_bag_here", "_law_most"]
def P__law_places : List Str := ["_law_bag_here", "_law_most"]
def t__law_places : TSd := dSeq (dIf (dB (dOp (eqR false) (dCall sp__law_take (dCons (dVar 0) (dCons (dC (.int 8)) (dNil)))) (dC (.int 5)))) (dRet (dC (.int 24))) (dNext)) t__law_places_r1
def gl__law_places : List (Str × GI) := [("_law_take", .fn sp__law_take)]
theorem len__law_places : ∀ ds G q x, sp__law_places ds G q x → ds.length = P__law_places.length := by
  rintro _ _ _ _ ⟨b, m, rfl, _⟩; rfl
theorem b__law_places : Body t__law_places N__law_places sp__law_places := by
  rintro ds G q x ⟨b, m, rfl, bag, hm, hq⟩
  unfold t__law_places N__law_places t__law_places_r1
  walk_at "e"
  refine takes_here bag (by decide) (by decide) fun r G1 r0 r1 x1 bag1 => ?_
  walk_at "e"
  refine ⟨fun _ => hq 24 G1 (by decide) x1 bag1, fun _ => takes_here bag1 (by omega) (by omega) fun r G2 r0 r1 x2 bag2 => ?_⟩
  have e : r = ((r.toNat : Nat) : Int) := by omega
  rw [e]
  exact hq r.toNat G2 (by omega) (x1.trans x2) bag2
/-- a piece of a net of n places that begins at i -/
structure Pc.In (i n : Int) (p : Pc) : Prop where
  lo : i < p.at_
  hi : p.at_ ≤ n
  l1 : 1 ≤ p.signs.length
  l24 : p.signs.length ≤ 24
  sg : ∀ z ∈ p.signs, 0 ≤ z ∧ z < 1040
  kd : 0 ≤ p.kind ∧ p.kind < 9
  co : 0 ≤ p.cost ∧ p.cost < 100000
theorem Pc.pu' {p : Pc} {i n : Int} (h : p.In i n) : Pu 2 p.d := pu_tup (by simp) fun y hy => by
  simp only [List.mem_cons, List.not_mem_nil, or_false] at hy
  rcases hy with rfl | rfl | rfl | rfl
  · exact pu_int
  · exact pu_ints (by have := h.l24; omega)
  · exact pu_int
  · exact pu_int
def Pc.k (p : Pc) : D := .tup [.int p.at_, .tup (p.signs.map .int), .int p.kind]
theorem keysN_ints : ∀ S : List Int, keysN (S.map D.int) = some (S.map NestedKey.num)
  | [] => rfl
  | z :: S => by simp only [List.map_cons, keysN, keyN, keysN_ints S]
theorem depth_nums : ∀ S : List Int, NestedKey.depthAll (S.map NestedKey.num) = 0
  | [] => rfl
  | z :: S => by simp only [List.map_cons, NestedKey.depthAll, NestedKey.depth, depth_nums S]; rfl
theorem Pc.keyOk (p : Pc) : S.keyOk p.k := by
  unfold S.keyOk kdep Pc.k
  simp only [keyN, keysN, keysN_ints, NestedKey.depth, NestedKey.depthAll, depth_nums]
  decide
/-- the dict while a place's pieces come -/
def FdOk (i n : Int) (kvs : List (D × D)) : Prop := ∀ kv ∈ kvs, ∃ p : Pc, p.In i n ∧ kv = (p.k, .int p.cost)
theorem FdOk.put {i n : Int} {kvs : List (D × D)} {p : Pc} (h : FdOk i n kvs) (hp : p.In i n) : FdOk i n (putT kvs p.k (.int p.cost)) := by
  intro kv hkv
  unfold putT at hkv
  split at hkv
  · obtain ⟨x, hx, rfl⟩ := List.mem_map.mp hkv
    split
    · obtain ⟨q, hq, rfl⟩ := h x hx
      exact ⟨⟨q.at_, q.signs, q.kind, p.cost⟩, ⟨hq.lo, hq.hi, hq.l1, hq.l24, hq.sg, hq.kd, hp.co⟩, rfl⟩
    · exact h x hx
  · rcases List.mem_append.mp hkv with hx | hx
    · exact h kv hx
    · rw [List.mem_singleton.mp hx]; exact ⟨p, hp, rfl⟩
theorem val_mem {kvs : List (D × D)} {k d : D} (h : valT kvs k = some d) : ∃ kv ∈ kvs, sameK kv.1 k = true ∧ kv.2 = d := by
  unfold valT at h
  obtain ⟨kv, h1, h2⟩ := Option.map_eq_some_iff.mp h
  exact ⟨kv, List.mem_of_find?_eq_some h1, List.find?_some (p := fun kv : D × D => sameK kv.1 k) h1, h2⟩
theorem val_some {kvs : List (D × D)} {kv : D × D} (h : kv ∈ kvs) : ∃ d, valT kvs kv.1 = some d := by
  unfold valT
  cases e : kvs.find? (fun x => sameK x.1 kv.1) with
  | some x => exact ⟨_, rfl⟩
  | none =>
    have := List.find?_eq_none.mp e kv h
    exact absurd (by simp [sameK]) this
def netD (N : List (List Pc)) : D := .lst (N.map fun ps => .lst (ps.map Pc.d))
def NetOk (n : Int) (i : Nat) (N : List (List Pc)) : Prop := ∀ (j : Nat) (ps : List Pc), N[j]? = some ps → ps.length ≤ 150 ∧ ∀ p ∈ ps, p.In (i + j) n
theorem NetOk.add {n : Int} {N : List (List Pc)} {ps : List Pc} (h : NetOk n 0 N) (l : ps.length ≤ 150) (hp : ∀ p ∈ ps, p.In N.length n) : NetOk n 0 (N ++ [ps]) := by
  intro j qs e
  by_cases hj : j < N.length
  · rw [List.getElem?_append_left hj] at e; exact h j qs e
  · rw [List.getElem?_append_right (by omega)] at e
    have e0 : j - N.length = 0 := by have := (List.getElem?_eq_some_iff.mp e).1; simp at this; omega
    rw [e0] at e; cases e
    have : j = N.length := by omega
    subst this
    exact ⟨l, by simpa using hp⟩
def sp__law_net : DSp := fun ds G q _ => ∃ (b : Addr) (n : Nat) (bs : List Addr), ds = [.ref b, .int n] ∧ b ∈ bs ∧ (∀ c ∈ bs, G c ≠ none) ∧ Bag G b ∧ n ≤ 24 ∧
  ∀ r (N : List (List Pc)) G', N.length = n → NetOk n 0 N → Xt [b] G G' → Bag G' b → Dv bs G' r (netD N) → q r G'
def t__law_net_b1 : TSd := dSeq (dAsg (dOp ixD (dLst (dCons (dOp subD (dVar 1) (dVar 5)) (dCons (dBi (BI.r .min) (dCons (dC (.int 2)) (dCons (dOp subD (dVar 1) (dVar 5)) (dNil)))) (dNil)))) (dCall sp__law_take (dCons (dVar 0) (dCons (dC (.int 2)) (dNil))))) (dgName 8)) (dSeq (dAsg (dOp addD (dOp addD (dVar 5) (dC (.int 1))) (dCall sp__law_take (dCons (dVar 0) (dCons (dVar 8) (dNil))))) (dgName 9)) (dAsg (dCall sp__law_cost (dCons (dVar 0) (dNil))) (dgSub (dVar 6) (dTup (dCons (dVar 9) (dCons (dCall sp__law_signs (dCons (dVar 0) (dNil))) (dCons (dCall sp__law_take (dCons (dVar 0) (dCons (dC (.int 9)) (dNil)))) (dNil))))) setD)))
def t__law_net_r1 : TSd := dDrop (dBm "list" appendD (dVar 4) (dCons (dSl (dBi (BI.r .sorted) (dCons (dLc (dItK (dVar 6)) (dgName 10) dYes (dOp addD (dVar 10) (dTup (dCons (dOp ixD (dVar 6) (dVar 10)) (dNil)))) [10]) (dNil))) dNoPart (dPart (dC (.int 150)))) (dNil)))
def t__law_net_r2 : TSd := dSeq (dIf (dB (dOp gtD (dVar 2) (dC (.int 0)))) (dAsg (dCall sp__law_cost (dCons (dVar 0) (dNil))) (dgSub (dVar 6) (dTup (dCons (dOp addD (dVar 5) (dC (.int 1))) (dCons (dTup (dCons (dOp addD (dC (.int 1000)) (dCall sp__law_take (dCons (dVar 0) (dCons (dC (.int 40)) (dNil))))) (dNil))) (dCons (dC (.int 8)) (dNil))))) setD)) (dNext)) t__law_net_r1
def t__law_net_s1 : TSd := dSeq (dFor (dRng rng1 (dCons (dOp addD (dCall sp__law_take (dCons (dVar 0) (dCons (dC (.int 4)) (dNil)))) (dOp mulD (dC (.int 147)) (dBi (BI.r .int) (dCons (dOp (eqR false) (dVar 5) (dVar 3)) (dNil))))) (dNil))) (dgName 7) t__law_net_b1) t__law_net_r2
def t__law_net_b2 : TSd := dSeq (dAsg (dDnew) (dgName 6)) t__law_net_s1
def t__law_net_s2 : TSd := dSeq (dFor (dRng rng1 (dCons (dVar 1) (dNil))) (dgName 5) t__law_net_b2) (dRet (dVar 4))
def t__law_net_r3 : TSd := dSeq (dAsg (dLst (dNil)) (dgName 4)) t__law_net_s2
def t__law_net_s3 : TSd := dSeq (dIf (dAnd (dB (dOp gtD (dVar 1) (dC (.int 0)))) (dB (dOp (eqR false) (dCall sp__law_take (dCons (dVar 0) (dCons (dC (.int 8)) (dNil)))) (dC (.int 5))))) (dAsg (dCall sp__law_take (dCons (dVar 0) (dCons (dVar 1) (dNil)))) (dgName 3)) (dNext)) t__law_net_r3
def N__law_net : List Str := ["_law_bag_here", "_law_many", "_law_chain", "_law_wide", "_law_net_here", "_law_begin", "_law_found", "_law_turn", "_law_far", "_law_end", "_law_piece"]
def P__law_net : List Str := ["_law_bag_here", "_law_many"]
def t__law_net : TSd := dSeq (dAsg (dCall sp__law_take (dCons (dVar 0) (dCons (dC (.int 3)) (dNil)))) (dgName 2)) (dSeq (dAsg (dUn negD (dC (.int 1))) (dgName 3)) t__law_net_s3)
def gl__law_net : List (Str × GI) := [("_law_take", .fn sp__law_take), ("range", .rng), ("int", .bi .int), ("min", .bi .min), ("_law_cost", .fn sp__law_cost), ("_law_signs", .fn sp__law_signs), ("sorted", .bi .sorted)]
theorem len__law_net : ∀ ds G q x, sp__law_net ds G q x → ds.length = P__law_net.length := by
  rintro _ _ _ _ ⟨b, n, bs, rfl, _⟩; rfl
theorem mul147 {b : Bool} : CMulW 147 (if b = true then 1 else 0) := by cases b <;> (unfold CMulW; decide)
section
variable {w : Wx} {E : En} {b : Addr} {n : Nat}
theorem net_b1 {G : Hd} {i : Nat} {ch wd : Int} {pn pf : Addr} {kvs : List (D × D)} {ep : Nat} {o7 o8 o9 o10 : Option D} (bag : Bag G b) (hn : n ≤ 24) (hi : i < n) (nf : pf ∉ [b]) (ef : G pf = some (.dit kvs ep)) (lf : kvs.length ≤ 200) (fo : FdOk i n kvs)
    (hq : ∀ G' o8 o9 kvs' ep', Xt [b, pf] G G' → Bag G' b → G' pf = some (.dit kvs' ep') → kvs'.length ≤ kvs.length + 1 → FdOk i n kvs' → E.nx [some (.ref b), some (.int n), some (.int ch), some (.int wd), some (.ref pn), some (.int i), some (.ref pf), o7, o8, o9, o10] G') :
    t__law_net_b1 w E [some (.ref b), some (.int n), some (.int ch), some (.int wd), some (.ref pn), some (.int i), some (.ref pf), o7, o8, o9, o10] G := by
  unfold t__law_net_b1
  walk_at "e"
  refine pick bag rfl (by simp) (by simp) fun z hz G1 x1 bag1 => ?_
  have hz2 : ∃ k : Int, z = .int k ∧ 1 ≤ k ∧ k ≤ n - i := by
    simp only [List.mem_cons, List.not_mem_nil, or_false] at hz
    rcases hz with rfl | rfl
    · exact ⟨_, rfl, by omega, by omega⟩
    · exact ⟨_, rfl, by omega, by omega⟩
  obtain ⟨k, rfl, k1, k2⟩ := hz2
  refine takes_here bag1 (by omega) (by omega) fun r G2 r0 r1 x2 bag2 => ?_
  walk_at "e"
  refine ⟨b, rfl, bag2, fun c G3 c0 c1 x3 bag3 => ?_⟩
  walk_at "e"
  refine ⟨b, rfl, bag3, fun S G4 l1 l24 sg x4 bag4 => takes_here bag4 (by decide) (by decide) fun kd G5 kd0 kd9 x5 bag5 => ?_⟩
  walk_at "e"
  have x05 := (((x1.trans x2).trans x3).trans x4).trans x5
  have pin : (Pc.mk (i + 1 + r) S kd c).In i n := ⟨by show (i : Int) < i + 1 + r; omega, by show (i : Int) + 1 + r ≤ n; omega, l1, l24, sg, ⟨kd0, kd9⟩, ⟨c0, c1⟩⟩
  refine ⟨kvs, ep, x05.get nf ef, (Pc.mk (i + 1 + r) S kd c).keyOk, line_lt (by omega), fun ep' => ?_⟩
  refine hq _ _ _ (putT kvs (Pc.mk (i + 1 + r) S kd c).k (.int c)) ep' ((x05.weak (by simp)).trans (.put (by simp))) (bag5.xt (.put (bs := [pf]) (by simp)) (fun m => nf (by simp at m ⊢; exact m.symm))) st_same putT_len (fo.put pin)
end
theorem toPys_ints : ∀ S : List Int, toPys (S.map D.int) = S.map PyData.int
  | [] => rfl
  | z :: S => by simp only [List.map_cons, toPys, toPy, toPys_ints S]
theorem pc_alike (p q : Pc) : PySem.W.alike (toPy p.d) (toPy q.d) = true := by
  simp only [Pc.d, toPy, toPys, toPys_ints, PySem.W.alike, PySem.W.alikeAll, PySem.W.alike_ints, Bool.and_self]
theorem okDs_ints : ∀ S : List Int, okDs (S.map D.int) = true
  | [] => rfl
  | z :: S => by simp only [List.map_cons, okDs, okD, okDs_ints S, Bool.and_self]
theorem deps_ints : ∀ S : List Int, deps (S.map D.int) = 0
  | [] => rfl
  | z :: S => by simp only [List.map_cons, deps, dep, deps_ints S]; rfl
theorem Pc.okd (p : Pc) : okD p.d = true := by simp only [Pc.d, okD, okDs, okDs_ints, Bool.and_self]
theorem Pc.depd (p : Pc) : dep p.d = 2 := by simp only [Pc.d, dep, deps, deps_ints]; rfl
theorem Pc.dd (p : Pc) (G : Hd) : Dd G p.d p.d := .tup (.cons (.int _) (.cons (.tup (Dds.map_int _)) (.cons (.int _) (.cons (.int _) .nil))))
theorem pcs_dds {G : Hd} : ∀ ps : List Pc, Dds G (ps.map Pc.d) (ps.map Pc.d)
  | [] => .nil
  | p :: ps => .cons (p.dd G) (pcs_dds ps)
theorem deps_le {n : Nat} : ∀ {xs : List D}, (∀ x ∈ xs, dep x ≤ n) → deps xs ≤ n := deps_of
theorem pcs_srt {G : Hd} {ps : List Pc} (l : ps.length ≤ 1000000) : SrtOk G (ps.map Pc.d) where
  dd := pcs_dds ps
  ok := okDs_of fun x hx => by obtain ⟨p, _, rfl⟩ := List.mem_map.mp hx; exact p.okd
  dp := deps_of fun x hx => by obtain ⟨p, _, rfl⟩ := List.mem_map.mp hx; rw [p.depd]; decide
  al := fun x hx y hy => by
    obtain ⟨p, _, rfl⟩ := List.mem_map.mp hx
    obtain ⟨q, _, rfl⟩ := List.mem_map.mp hy
    exact pc_alike p q
  st := .inl fun x hx => by obtain ⟨p, _, rfl⟩ := List.mem_map.mp hx; exact ⟨_, _, rfl⟩
  len := by rw [List.length_map]; exact line_le l
theorem srt_mem {xs : List D} {x : D} : x ∈ srt xs ↔ x ∈ xs := by unfold srt; exact List.mem_mergeSort
theorem srt_len {xs : List D} : (srt xs).length = xs.length := by unfold srt; exact List.length_mergeSort ..
def pieceOf (kvs : List (D × D)) (k : D) : D := match k with
  | .tup xs => .tup (xs ++ [(valT kvs k).getD .non])
  | _ => .non
theorem pieceOf_ok {i n : Int} {kvs : List (D × D)} (fo : FdOk i n kvs) {kv : D × D} (h : kv ∈ kvs) : ∃ q : Pc, q.In i n ∧ pieceOf kvs kv.1 = q.d ∧ (∃ p : Pc, kv.1 = p.k) ∧ ∃ c, valT kvs kv.1 = some (.int c) := by
  obtain ⟨p, hp, e⟩ := fo kv h
  obtain ⟨d, hd⟩ := val_some h
  obtain ⟨kv2, h2, _, e2⟩ := val_mem hd
  obtain ⟨q, hq, eq⟩ := fo kv2 h2
  rw [eq] at e2
  simp only at e2
  refine ⟨⟨p.at_, p.signs, p.kind, q.cost⟩, ⟨hp.lo, hp.hi, hp.l1, hp.l24, hp.sg, hp.kd, hq.co⟩, ?_, ⟨p, by rw [e]⟩, q.cost, by rw [hd, e2]⟩
  have e3 : kv.1 = p.k := by rw [e]
  unfold pieceOf
  rw [hd, e3, ← e2]
  rfl
section
variable {w : Wx} {E : En} {b : Addr} {n : Nat}
theorem net_r1 {G : Hd} {i : Nat} {ch wd : Int} {pn pf : Addr} {kvs : List (D × D)} {ep : Nat} {rs : List D} {o7 o8 o9 o10 : Option D} (ef : G pf = some (.dit kvs ep)) (en : G pn = some (.lst rs)) (lf : kvs.length ≤ 1000) (fo : FdOk i n kvs) (lr : rs.length ≤ 100)
    (hq : ∀ G' p5 (ps : List Pc), Ext G G' → G p5 = none → G' p5 = some (.lst (ps.map Pc.d)) → ps.length ≤ 150 → (∀ p ∈ ps, p.In i n) →
      E.nx [some (.ref b), some (.int n), some (.int ch), some (.int wd), some (.ref pn), some (.int i), some (.ref pf), o7, o8, o9, o10] (st G' pn (.lst (rs ++ [.ref p5])))) :
    t__law_net_r1 w E [some (.ref b), some (.int n), some (.int ch), some (.int wd), some (.ref pn), some (.int i), some (.ref pf), o7, o8, o9, o10] G := by
  unfold t__law_net_r1
  walk_at "e"
  refine ⟨tyD_l (.inl en), kvs, ep, ef, ?_⟩
  refine lcR_val (pieceOf kvs) (by simp; omega) (fun G' xt => xt.at ef) (fun x hx G' Q' xt kk => ?_) fun p G1 hp x1 e1 => ?_
  · obtain ⟨kv, hkv, rfl⟩ := List.mem_map.mp hx
    obtain ⟨q, hq, e1, ⟨p, e2⟩, c, e3⟩ := pieceOf_ok fo hkv
    have kk := kk G' .refl
    unfold pieceOf at kk
    rw [e3] at kk
    rw [e2] at kk e3 ⊢
    unfold Pc.k at kk e3 ⊢
    walk_at "e"
    exact ⟨kvs, ep, xt.at ef, p.keyOk, _, e3, kk⟩
  · walk_at "e"
    obtain ⟨qs, eqs, hqs⟩ : ∃ qs : List Pc, (kvs.map (·.1)).map (pieceOf kvs) = qs.map Pc.d ∧ ∀ q ∈ qs, q.In i n := by
      refine vals_of (f := Pc.d) (P := fun q => q.In i n) fun j y e => ?_
      have := List.mem_of_getElem? e
      obtain ⟨k, hk, rfl⟩ := List.mem_map.mp this
      obtain ⟨kv, hkv, rfl⟩ := List.mem_map.mp hk
      obtain ⟨q, hq, e1, _⟩ := pieceOf_ok fo hkv
      exact ⟨q, e1, hq⟩
    have lqs : qs.length = kvs.length := by have := congrArg List.length eqs; simpa using this.symm
    rw [eqs] at e1
    refine ⟨_, .inl e1, pcs_srt (by omega), ?_⟩
    intro p2 hp2
    generalize ep2 : st G1 p2 _ = G2
    obtain ⟨xp2, kp2⟩ := nu hp2 ep2
    refine ⟨_, .inl kp2, ?_⟩
    intro p5 hp5
    generalize ep5 : st G2 p5 _ = G3
    obtain ⟨xp5, kp5⟩ := nu hp5 ep5
    have x3 : Ext G G3 := (x1.trans xp2).trans xp5
    refine ⟨rs, x3.at en, line_lt (by omega), ?_⟩
    obtain ⟨ps, eps, hps⟩ : ∃ ps : List Pc, cut (srt (qs.map Pc.d)) none (some 150) = ps.map Pc.d ∧ ∀ q ∈ ps, q.In i n := by
      refine vals_of (f := Pc.d) (P := fun q => q.In i n) fun j y e => ?_
      have := srt_mem.mp (cut_sub (List.mem_of_getElem? e))
      obtain ⟨q, hq, rfl⟩ := List.mem_map.mp this
      exact ⟨q, rfl, hqs q hq⟩
    have l150 : ps.length ≤ 150 := by
      have := congrArg List.length eps
      rw [cut_to (by decide), List.length_take, List.length_map] at this
      have h150 : Int.toNat 150 = 150 := rfl
      omega
    rw [eps] at kp5
    exact hq G3 p5 ps x3 (x1.none (xp2.none hp5)) kp5 l150 hps
end
section
variable {w : Wx} {E : En} {b : Addr} {n : Nat}
theorem hide_two {p b : Addr} {bs : List Addr} : ∀ a ∈ bs, a ∈ p :: bs := fun _ => List.mem_cons_of_mem _
/-- one place's pieces -/
theorem net_b2 {G : Hd} {i : Nat} {ch wd : Int} {pn : Addr} {rs : List D} {N : List (List Pc)} {bs : List Addr} {o6 o7 o8 o9 o10 : Option D} (hb : b ∈ bs) (ha : ∀ c ∈ pn :: bs, G c ≠ none) (bag : Bag G b) (hn : n ≤ 24) (hi : i < n) (np : pn ∉ bs) (en : G pn = some (.lst rs)) (dn : Dvs (pn :: bs) G rs (N.map fun ps => .lst (ps.map Pc.d)))
    (lN : N.length = i) (no : NetOk n 0 N)
    (hq : ∀ G' o6 o7 o8 o9 o10 rs' (ps : List Pc), Xt [b, pn] G G' → Bag G' b → G' pn = some (.lst rs') → Dvs (pn :: bs) G' rs' ((N ++ [ps]).map fun ps => .lst (ps.map Pc.d)) → ps.length ≤ 150 → (∀ p ∈ ps, p.In i n) →
      E.nx [some (.ref b), some (.int n), some (.int ch), some (.int wd), some (.ref pn), some (.int i), o6, o7, o8, o9, o10] G') :
    t__law_net_b2 w E [some (.ref b), some (.int n), some (.int ch), some (.int wd), some (.ref pn), some (.int i), o6, o7, o8, o9, o10] G := by
  have nb : pn ∉ [b] := fun m => np (by rw [List.mem_singleton.mp m]; exact hb)
  have lr : rs.length = i := by have := Dds.length dn; simp at this; omega
  unfold t__law_net_b2 t__law_net_s1
  walk_at "e"
  intro pf hpf
  generalize epf : st G pf _ = G1
  obtain ⟨xpf, kpf⟩ := nu hpf epf
  have nf : pf ∉ [b] := fresh_b bag hpf
  have bag1 := bag.ext xpf
  refine takes_here bag1 (by decide) (by decide) fun r G2 r0 r4 x2 bag2 => ?_
  walk_at "e"
  refine ⟨mul147, by split <;> omega, ?_⟩
  have fin : ∀ {G3 : Hd} {kvs : List (D × D)} {ep : Nat} {o7 o8 o9 o10 : Option D}, Xt [b] G G3 → Bag G3 b → G3 pf = some (.dit kvs ep) → kvs.length ≤ 200 → FdOk i n kvs → t__law_net_r1 w E [some (.ref b), some (.int n), some (.int ch), some (.int wd), some (.ref pn), some (.int i), some (.ref pf), o7, o8, o9, o10] G3 := by
    intro G3 kvs ep o7 o8 o9 o10 x3 bag3 e3 l3 fo
    refine net_r1 e3 (x3.get nb en) (by omega) fo (by omega) fun G4 p5 ps x4 h5 e5 l5 hps => ?_
    have e4 : G4 pn = some (.lst rs) := x4.at (x3.get nb en)
    have x34 : Xt [b] G G4 := x3.trans x4.ext
    have xput : Xt (pn :: bs) G4 (st G4 pn (.lst (rs ++ [.ref p5]))) := .put (by simp)
    have n5 : p5 ∉ pn :: bs := fun m => by
      by_cases q : p5 = b
      · exact bag3.some (q ▸ h5)
      · exact ha p5 m (x3.free (by simpa using q) h5)
    refine hq _ _ _ _ _ _ (rs ++ [.ref p5]) ps ((x34.weak (by simp)).trans (.put (by simp))) (bag3.ext x4 |>.xt (.put (bs := [pn]) (by simp)) (fun m => nb (by simp at m ⊢; exact m.symm))) st_same ?_ l5 hps
    rw [List.map_append]
    refine Dds.append (Dvs.xt ((x34.weak (by simpa using .inr hb)).trans xput) dn) (.cons (Dv.lstI n5 (xput.get n5 e5) (pcs_dds ps)) .nil)
  refine ⟨fun j σ G3 => j ≤ 160 ∧ Xt [b] G G3 ∧ Bag G3 b ∧ ∃ kvs ep o7 o8 o9, σ = [some (.ref b), some (.int n), some (.int ch), some (.int wd), some (.ref pn), some (.int i), some (.ref pf), o7, o8, o9, o10] ∧ G3 pf = some (.dit kvs ep) ∧ kvs.length ≤ j ∧ FdOk i n kvs,
    ⟨by omega, xpf.ext.trans x2, bag2, [], 0, _, _, _, rfl, x2.get nf kpf, by simp, fun kv h => by cases h⟩, fun _ _ _ _ => trivial, ?_, ?_⟩
  · rintro j y σ G3 ey ⟨hj, x3, bag3, kvs, ep, o7, o8, o9, rfl, e3, l3, fo⟩
    obtain ⟨h1, rfl⟩ := rngL_some0 ey
    have hj2 : j < 151 := by
      revert h1; split <;> intro h1 <;> omega
    walk_at "e"
    refine net_b1 bag3 hn hi nf e3 (by omega) fo fun G' o8 o9 kvs' ep' x' bg e' l' f' => ⟨by omega, ?_, bg, kvs', ep', _, o8, o9, rfl, e', by omega, f'⟩
    intro a u na ea
    refine x' a u (fun m => ?_) (x3 a u na ea)
    rcases List.mem_cons.mp m with rfl | m
    · exact na (by simp)
    · rw [List.mem_singleton.mp m, hpf] at ea; cases ea
  · rintro σ G3 ⟨hj, x3, bag3, kvs, ep, o7, o8, o9, rfl, e3, l3, fo⟩
    unfold t__law_net_r2
    have l3' : kvs.length ≤ 160 := by omega
    walk_at "e"
    refine ⟨fun _ => ⟨b, rfl, bag3, fun c G4 c0 c1 x4 bag4 => ?_⟩, fun _ => fin x3 bag3 e3 (by omega) fo⟩
    walk_at "e"
    refine takes_here bag4 (by decide) (by decide) fun r G5 r0 r1 x5 bag5 => ?_
    walk_at "e"
    have pin : (Pc.mk (i + 1) [1000 + r] 8 c).In i n := ⟨by show (i : Int) < i + 1; omega, by show (i : Int) + 1 ≤ n; omega, by simp, by simp, fun z hz => by rw [List.mem_singleton.mp hz]; exact ⟨by omega, by omega⟩, ⟨show (0 : Int) ≤ 8 by decide, show (8 : Int) < 9 by decide⟩, ⟨c0, c1⟩⟩
    refine ⟨kvs, ep, x5.get nf (x4.get nf e3), (Pc.mk (i + 1) [1000 + r] 8 c).keyOk, line_lt (by omega), fun ep' => ?_⟩
    refine fin (kvs := putT kvs (Pc.mk (i + 1) [1000 + r] 8 c).k (.int c)) ((((x3.trans x4).trans x5)).put' hpf) (bag5.xt (.put (bs := [pf]) (by simp)) (fun m => nf (by simp at m ⊢; exact m.symm))) st_same (by have := putT_len (kvs := kvs) (k := (Pc.mk (i + 1) [1000 + r] 8 c).k) (v := .int c); omega) (fo.put pin)
end
theorem b__law_net : Body t__law_net N__law_net sp__law_net := by
  rintro ds G q x ⟨b, n, bs, rfl, hb, ha, bag, hn, hq⟩
  have key : ∀ {G1 : Hd} {ch wd : Int} {o4 : Option D}, Xt [b] G G1 → Bag G1 b → t__law_net_r3 (fun i d _ G => x i d G) { nx := fun _ G => q .non G, rt := q } [some (.ref b), some (.int n), some (.int ch), some (.int wd), o4, none, none, none, none, none, none] G1 := by
    intro G1 ch wd o4 x1 bag1
    unfold t__law_net_r3 t__law_net_s2
    walk_at "e"
    intro pn hpn
    generalize epn : st G1 pn _ = G2
    obtain ⟨xpn, kpn⟩ := nu hpn epn
    have np : pn ∉ bs := fun m => by
      by_cases q : pn = b
      · exact bag1.some (q ▸ hpn)
      · exact ha pn m (x1.free (by simpa using q) hpn)
    refine ⟨by omega, ?_⟩
    refine ⟨fun i σ G3 => i ≤ n ∧ Xt [b] G G3 ∧ Bag G3 b ∧ ∃ rs N o5 o6 o7 o8 o9 o10, σ = [some (.ref b), some (.int n), some (.int ch), some (.int wd), some (.ref pn), o5, o6, o7, o8, o9, o10] ∧ G3 pn = some (.lst rs) ∧ Dvs (pn :: bs) G3 rs (N.map fun ps => .lst (ps.map Pc.d)) ∧ N.length = i ∧ NetOk n 0 N,
      ⟨by omega, x1.trans xpn.ext, bag1.ext xpn, [], [], _, _, _, _, _, _, rfl, kpn, .nil, rfl, fun j ps e => by simp at e⟩, fun _ _ _ _ => trivial, ?_, ?_⟩
    · rintro i y σ G3 ey ⟨hi, x3, bag3, rs, N, o5, o6, o7, o8, o9, o10, rfl, e3, d3, l3, no⟩
      obtain ⟨h1, rfl⟩ := rngL_some0 ey
      walk_at "e"
      refine net_b2 hb (fun c m => ?_) bag3 hn (by omega) np e3 d3 l3 no fun G' o6 o7 o8 o9 o10 rs' ps x' bg e' d' lp hp => ⟨by omega, ?_, bg, rs', N ++ [ps], _, o6, o7, o8, o9, o10, rfl, e', d', by simp [l3], ?_⟩
      · rcases List.mem_cons.mp m with rfl | m
        · rw [e3]; simp
        · by_cases q : c = b
          · rw [q]; exact bag3.some
          · intro z; exact ha c m (x3.free (by simpa using q) z)
      · intro a u na ea
        refine x' a u (fun m => ?_) (x3 a u na ea)
        rcases List.mem_cons.mp m with rfl | m
        · exact na (by simp)
        · rw [List.mem_singleton.mp m] at ea
          have := (x1.trans (Xt.refl (G := G1))).get (a := pn) (fun z => np (by rw [List.mem_singleton.mp z]; exact hb)) ea
          rw [hpn] at this; cases this
      · exact no.add lp (by rw [l3]; exact hp)
    · rintro σ G3 ⟨hi, x3, bag3, rs, N, o5, o6, o7, o8, o9, o10, rfl, e3, d3, l3, no⟩
      walk_at "e"
      have l3' : N.length = n := by rw [l3]; simp [rngL]
      exact hq _ N G3 l3' no x3 bag3 (Dv.lstI np e3 (Dvs.sub d3 fun _ => List.mem_cons_of_mem _))
  unfold t__law_net N__law_net t__law_net_s3
  walk_at "e"
  refine takes_here bag (by decide) (by decide) fun ch G1 _ _ x1 bag1 => ?_
  walk_at "e"
  refine ⟨fun e1 => ?_, fun _ => key x1 bag1⟩
  refine takes_here bag1 (by decide) (by decide) fun r G2 _ _ x2 bag2 => ?_
  walk_at "e"
  have hn0 : (0 : Int) < n := by simpa using e1
  refine ⟨fun _ => takes_here bag2 (by omega) (by omega) fun wd G3 _ _ x3 bag3 => ?_, fun _ => key (x1.trans x2) bag2⟩
  walk_at "e"
  exact key ((x1.trans x2).trans x3) bag3

end S

set_option Elab.async false
set_option linter.all false
set_option maxRecDepth 100000
set_option maxHeartbeats 4000000
namespace S
open PySem PySem.Spec L2
open PyProof.Rows hiding St
local macro_rules | `(tactic| walk_at "e") => `(tactic| try simp only [dSeq, dNext, dRet, dRetN, dIf, dAsg, dAug, dDrop, par_eq, prs_2, dBreak, dCont, dgName, dgSub, gTup_t, gCons_c, gNil_n, dFor_eq, dLc_eq, dVar, dC, dOp, dUn, dBi, dCall, dCons, dNil, dTup, dLst, dSl, part_eq, prt_i, dNoPart, dAndV, dOrV, dNotV, dB, dAnd, dOr, dNot, dIfE, dChain, itv_eq, itv_t, itv_r, dRng, dWalk, dBm, rng1_i, rng2_i, rng3_i, enumR_r, zipR_r,
  BI.r, addD_i, addD_s, addD_t, addD_r, subD_i, mulD_i, mulD_r, mulD_t, modD_i, divD_i, powD_i, ltD_i, leD_i, gtD_i, geD_i, incD_i, negD_i, lr1_i, lr2_i, revD_r, isND_n, isNon, ixD_t, ixD_r, ixD_d, setD_d, dDnew, itk_eq, itk_r, dDm, getD_r, ditD_r, dItI, iti_r, listK_r, sortedD_r, ixD_l, ixD_s, slD_t, slD_r, slD_s, setD_r, lenD_s, lenD_t, lenD_l, lenD_r, isiD_1, isiD_n, listD_t, listD_r, tupleD_t, tupleD_r, allD_r, anyD_r, sumD_r, maxD_r, maxD_2, minD_r, minD_2, absD_i, intB_i, intB_b, appD_r, startD, wipeD,
  List.map_cons, List.map_nil, rep_z, rep_s, List.length_cons, List.length_nil, List.cons_append, List.nil_append, List.append_nil, List.getElem?_cons_zero, List.getElem?_cons_succ, List.set_cons_zero, List.set_cons_succ, Option.some.injEq, exists_eq_left', exists_eq_left, D.bl.injEq, D.int.injEq, D.tup.injEq, D.ref.injEq, true_and, and_true, Nat.reduceAdd, Nat.reduceSub, Nat.add_sub_cancel_left, exists_const, br_t, br_f, eqR_int, eqR_bl, Bool.false_bne, Bool.true_bne, Bool.false_xor, Bool.true_xor, Bool.not_true, Bool.not_false, Bool.not_not, ite_true, ite_false, Bool.true_eq_false, false_implies, decide_true, decide_false, tc_int, tc_bool, tc_str, tc_tup, tc_lst, tc_non, tc_dic, ln0, ln1, ln2, ln3, ln4, ln5, ln6, ln7, ln8, ln9, ln10, ln11, ln12, ln13, ln14, ln15, ln16, ln17, ln18, ln19, ln20, ln21, ln22, ln23, ln24, ln25, ln26, ln27, ln28, ln29, ln30, ln31, ln32, ln33, ln34, ln35, ln36, ln37, ln38, ln39, ln40, ln41, ln42, ln43, ln44, ln45, ln46, ln47, ln48, ln49, ln50, ln51, ln52, ln53, ln54, ln55, ln56, ln57, ln58, ln59, ln60])
local macro_rules | `(tactic| walk_at "g") => `(tactic| try simp only [st_same, st_st, GO.lst.injEq, Option.some.injEq, exists_eq_left', exists_eq_left, atI_0, atI_1, atI_2, atI_3, ixN_0, ixN_1, ixN_2, ixN_3, List.set_cons_zero, List.set_cons_succ, List.length_cons, List.length_nil, List.length_append, List.cons_append, List.nil_append, true_and, and_true, seq_st])
/-! ## how many cuttings -/
def at0 (l : List Int) (j : Int) : Int := l.getD j.toNat 0
def sumP (cs : List Int) (ps : List Pc) : Int := (ps.map fun p => at0 cs p.at_).sum
/-- how many ways lead on from each place -/
structure CS (N : List (List Pc)) (cs : List Int) : Prop where
  len : cs.length = N.length + 1
  last : at0 cs N.length = 1
  eq : ∀ (i : Nat) ps, N[i]? = some ps → at0 cs i = sumP cs ps
def cw (N : List (List Pc)) : Nat → Nat → Int
  | 0, j => if j = N.length then 1 else 0
  | k + 1, j => if j + (k + 1) = N.length then ((N.getD j []).map fun p => cw N k p.at_.toNat).sum else cw N k j
theorem cw_stay {N : List (List Pc)} : ∀ {m k j : Nat}, k ≤ m → N.length ≤ j + k → cw N m j = cw N k j
  | 0, k, j, h, _ => by have : k = 0 := by omega
                        rw [this]
  | m + 1, k, j, h, hj => by
    by_cases e : k = m + 1
    · rw [e]
    · rw [← cw_stay (m := m) (k := k) (by omega) hj]
      show (if j + (m + 1) = N.length then _ else _) = _
      rw [if_neg (by omega)]
theorem at_map {f : Nat → Int} {n j : Nat} (h : j < n) : at0 ((List.range n).map f) j = f j := by
  unfold at0
  rw [List.getD_eq_getElem?_getD, List.getElem?_map]
  simp [h]
theorem exists_cs {N : List (List Pc)} (ok : NetOk N.length 0 N) : ∃ cs, CS N cs := by
  refine ⟨(List.range (N.length + 1)).map (cw N N.length), by simp, ?_, fun i ps e => ?_⟩
  · rw [at_map (by omega), cw_stay (k := 0) (by omega) (by omega)]
    simp [cw]
  · have hi : i < N.length := (List.getElem?_eq_some_iff.mp e).1
    rw [at_map (by omega), cw_stay (k := N.length - i) (by omega) (by omega)]
    obtain ⟨k, hk⟩ : ∃ k, N.length - i = k + 1 := ⟨N.length - i - 1, by omega⟩
    rw [hk]
    show (if i + (k + 1) = N.length then _ else _) = _
    rw [if_pos (by omega), List.getD_eq_getElem?_getD, e]
    unfold sumP
    congr 1
    refine List.map_congr_left fun p hp => ?_
    have hp := (ok i ps e).2 p hp
    have h1 := hp.lo
    have h2 := hp.hi
    have e1 : at0 ((List.range (N.length + 1)).map (cw N N.length)) p.at_ = cw N N.length p.at_.toNat := by
      have := at_map (f := cw N N.length) (n := N.length + 1) (j := p.at_.toNat) (by omega)
      rw [← this]; unfold at0; rw [Int.toNat_natCast]
    rw [e1, cw_stay (m := N.length) (k := k) (by omega) (by omega)]
/-! forward: what waits at the places from i on, times the ways on, is the whole -/
def dot : List Int → List Int → Int
  | x :: xs, y :: ys => x * y + dot xs ys
  | _, _ => 0
theorem dot_set {x : Int} : ∀ {xs ys : List Int} {j : Nat}, j < xs.length → xs.length = ys.length → dot (xs.set j (xs.getD j 0 + x)) ys = dot xs ys + x * ys.getD j 0
  | [], _, _, h, _ => by simp at h
  | a :: xs, [], _, _, e => by simp at e
  | a :: xs, b :: ys, 0, _, _ => by simp [dot, Int.add_mul]; omega
  | a :: xs, b :: ys, j + 1, h, e => by
    have := dot_set (x := x) (xs := xs) (ys := ys) (j := j) (by simpa using h) (by simpa using e)
    simp [dot] at this ⊢
    omega
def pot (ws cs : List Int) (i : Nat) : Int := dot (ws.drop i) (cs.drop i)
theorem pot_step {ws cs : List Int} {i : Nat} (h : i < ws.length) (e : ws.length = cs.length) : pot ws cs i = at0 ws i * at0 cs i + pot ws cs (i + 1) := by
  unfold pot at0
  have h2 : i < cs.length := by omega
  rw [List.drop_eq_getElem_cons h, List.drop_eq_getElem_cons h2]
  simp only [dot, Int.toNat_natCast]
  rw [List.getD_eq_getElem?_getD, List.getD_eq_getElem?_getD, List.getElem?_eq_getElem h, List.getElem?_eq_getElem h2]
  rfl
theorem pot_set {ws cs : List Int} {i j : Nat} {x : Int} (hi : i ≤ j) (h : j < ws.length) (e : ws.length = cs.length) : pot (ws.set j (at0 ws j + x)) cs i = pot ws cs i + x * at0 cs j := by
  unfold pot
  rw [List.drop_set, if_neg (show ¬ j < i by omega)]
  have e1 : at0 ws j = (ws.drop i).getD (j - i) 0 := by
    unfold at0; rw [List.getD_eq_getElem?_getD, List.getD_eq_getElem?_getD, List.getElem?_drop]
    congr 2; rw [Int.toNat_natCast]; omega
  have e2 : at0 cs j = (cs.drop i).getD (j - i) 0 := by
    unfold at0; rw [List.getD_eq_getElem?_getD, List.getD_eq_getElem?_getD, List.getElem?_drop]
    congr 2; rw [Int.toNat_natCast]; omega
  have l1 : (ws.drop i).length = ws.length - i := List.length_drop
  have l2 : (cs.drop i).length = cs.length - i := List.length_drop
  rw [e1, dot_set (xs := ws.drop i) (ys := cs.drop i) (j := j - i) (by omega) (by omega), e2]
theorem at_set_ne {ws : List Int} {i j : Nat} {x : Int} (h : i ≠ j) : at0 (ws.set j x) i = at0 ws i := by
  unfold at0
  rw [List.getD_eq_getElem?_getD, List.getD_eq_getElem?_getD, Int.toNat_natCast, List.getElem?_set_ne (by omega)]
theorem dot_zero {ys : List Int} : ∀ {k : Nat}, dot (List.replicate k 0) ys = 0
  | 0 => by cases ys <;> rfl
  | k + 1 => by
    cases ys with
    | nil => rfl
    | cons y ys => simp [List.replicate_succ, dot, dot_zero (ys := ys) (k := k)]
/-! told data without lists -/
mutual
def noL : D → Bool
  | .non => true
  | .bl _ => true
  | .int _ => true
  | .str _ => true
  | .tup xs => noLs xs
  | _ => false
def noLs : List D → Bool
  | [] => true
  | x :: xs => noL x && noLs xs
end
mutual
theorem dd_pure {G : Hd} : ∀ {x d : D}, Dd G x d → noL d = true → x = d
  | _, _, .non, _ => rfl
  | _, _, .bl b, _ => rfl
  | _, _, .int i, _ => rfl
  | _, _, .str x, _ => rfl
  | _, _, .tup r, h => by rw [dds_pure r h]
  | _, _, .lst _ _, h => by cases h
  | _, _, .rol _ _, h => by cases h
theorem dds_pure {G : Hd} : ∀ {xs ds : List D}, Dds G xs ds → noLs ds = true → xs = ds
  | _, _, .nil, _ => rfl
  | _, _, .cons r rs, h => by
    simp only [noLs, Bool.and_eq_true] at h
    rw [dd_pure r h.1, dds_pure rs h.2]
end
theorem noLs_ints : ∀ S : List Int, noLs (S.map D.int) = true
  | [] => rfl
  | z :: S => by simp only [List.map_cons, noLs, noL, noLs_ints S, Bool.and_self]
theorem Pc.nol (p : Pc) : noL p.d = true := by simp only [Pc.d, noL, noLs, noLs_ints, Bool.and_self]
theorem noLs_pcs : ∀ ps : List Pc, noLs (ps.map Pc.d) = true
  | [] => rfl
  | p :: ps => by simp only [List.map_cons, noLs, p.nol, noLs_pcs ps, Bool.and_self]
/-- a net's list of places, its list of pieces -/
theorem net_at {G : Hd} {x : D} {N : List (List Pc)} (h : Dd G x (netD N)) : ∃ a rs, x = .ref a ∧ seqG G a rs ∧ rs.length = N.length ∧ ∀ (i : Nat) ps, N[i]? = some ps → ∃ ai, rs[i]? = some (.ref ai) ∧ seqG G ai (ps.map Pc.d) := by
  obtain ⟨a, rs, rfl, sq, hs⟩ := h.lst_inv
  have hl := hs.length
  refine ⟨a, rs, rfl, sq, by simpa using hl, fun i ps e => ?_⟩
  obtain ⟨y, ey, hy⟩ := hs.get' (i := i) (d := .lst (ps.map Pc.d)) (by rw [List.getElem?_map, e]; rfl)
  obtain ⟨ai, zs, rfl, sq2, hz⟩ := hy.lst_inv
  rw [dds_pure hz (noLs_pcs ps)] at sq2
  exact ⟨ai, ey, sq2⟩
theorem atI_at0 {ws : List Int} {e : Int} (h0 : 0 ≤ e) (h : e < ws.length) : atI (ws.map D.int) e = some (.int (at0 ws e)) := by
  rw [atI_of h0 (by simpa using h), List.getElem?_map]
  unfold at0
  rw [List.getD_eq_getElem?_getD, List.getElem?_eq_getElem (by omega)]
  rfl
theorem set_at0 {ws : List Int} {j : Nat} {v : Int} : (ws.map D.int).set j (.int v) = (ws.set j v).map D.int := by rw [List.map_set]
def sp_how_many : DSp := fun ds G q _ => ∃ x N cs, ds = [x] ∧ Dd G x (netD N) ∧ N.length ≤ 30 ∧ NetOk N.length 0 N ∧ CS N cs ∧ ∀ G', Ext G G' → q (.int (at0 cs 0)) G'
def t_how_many_b1 : TSd := dAsg (dOp addD (dOp ixD (dVar 1) (dOp ixD (dVar 4) (dC (.int 0)))) (dOp ixD (dVar 1) (dVar 2))) (dgSub (dVar 1) (dOp ixD (dVar 4) (dC (.int 0))) setD)
def t_how_many_b2 : TSd := dFor (dItV (dVar 3)) (dgName 4) t_how_many_b1
def t_how_many_r1 : TSd := dRet (dOp ixD (dVar 1) (dBi (BI.r .len) (dCons (dVar 0) (dNil))))
def t_how_many_s1 : TSd := dSeq (dFor (dWalk enumR (dCons (dVar 0) (dNil))) (dgTup 2 (dgCons (dgName 2) (dgCons (dgName 3) (dgNil)))) t_how_many_b2) t_how_many_r1
def N_how_many : List Str := ["net", "ways", "place", "pieces", "piece"]
def P_how_many : List Str := ["net"]
def t_how_many : TSd := dSeq (dAsg (dOp addD (dLst (dCons (dC (.int 1)) (dNil))) (dOp mulD (dLst (dCons (dC (.int 0)) (dNil))) (dBi (BI.r .len) (dCons (dVar 0) (dNil))))) (dgName 1)) t_how_many_s1
def gl_how_many : List (Str × GI) := [("len", .bi .len), ("enumerate", .enum)]
theorem len_how_many : ∀ ds G q x, sp_how_many ds G q x → ds.length = P_how_many.length := by
  rintro _ _ _ _ ⟨x, N, cs, rfl, _⟩; rfl
theorem enumL_get {xs : List D} {i : Nat} {y : D} (h : (enumL xs)[i]? = some y) : ∃ x, xs[i]? = some x ∧ y = .tup [.int i, x] := by
  unfold enumL at h
  rw [List.getElem?_map] at h
  by_cases hi : i < xs.length
  · simp [hi] at h
    exact ⟨xs[i], List.getElem?_eq_getElem hi, by rw [← h]⟩
  · simp [hi] at h
section
variable {w : Wx} {E : En} {G : Hd} {x : D} {a pw : Addr} {cs ws : List Int} {n i : Nat}
theorem how_b1 {p : Pc} {o3 : Option D} (h1 : (i : Int) < p.at_) (h2 : p.at_ ≤ n) (lw : ws.length = n + 1) (lc : cs.length = n + 1) (ew : G pw = some (.lst (ws.map .int)))
    (hq : ∀ ws' : List Int, ws'.length = n + 1 → at0 ws' i = at0 ws i → pot ws' cs (i + 1) = pot ws cs (i + 1) + at0 ws i * at0 cs p.at_ → E.nx [some x, some (.ref pw), some (.int i), o3, some p.d] (st G pw (.lst (ws'.map .int)))) :
    t_how_many_b1 w E [some x, some (.ref pw), some (.int i), o3, some p.d] G := by
  unfold t_how_many_b1 Pc.d
  walk_at "e"
  simp only [atI_0, Option.some.injEq, exists_eq_left']
  have hi : (i : Int) < ws.length := by omega
  refine ⟨_, .inl ew, _, atI_at0 (by omega) (by omega), _, .inl ew, _, atI_at0 (by omega) hi, ?_⟩
  walk_at "e"
  refine ⟨_, ew, p.at_.toNat, ixN_of (by omega) (by rw [List.length_map]; omega), ?_⟩
  rw [set_at0]
  have ep : p.at_ = ((p.at_.toNat : Nat) : Int) := by omega
  refine hq (ws.set p.at_.toNat (at0 ws p.at_ + at0 ws i)) (by simpa using lw) (at_set_ne (by omega)) ?_
  rw [show at0 ws p.at_ = at0 ws (p.at_.toNat : Nat) by rw [← ep], pot_set (by omega) (by omega) (by omega), ← ep]
end
theorem b_how_many : Body t_how_many N_how_many sp_how_many := by
  rintro ds G q x ⟨x, N, cs, rfl, h, l30, ok, C, hq⟩
  obtain ⟨a, rs, rfl, sq, lr, hps⟩ := net_at h
  unfold t_how_many N_how_many t_how_many_s1
  walk_at "e"
  intro p1 hp1
  generalize ep1 : st G p1 _ = G1
  obtain ⟨xp1, kp1⟩ := nu hp1 ep1
  intro p2 hp2
  generalize ep2 : st G1 p2 _ = G2
  obtain ⟨xp2, kp2⟩ := nu hp2 ep2
  refine ⟨_, .inl ⟨rs, (xp1.trans xp2).seq (by simp) sq, rfl⟩, ?_⟩
  walk_at "e"
  refine ⟨_, kp2, ⟨by omega, by omega, line_of (by simp; omega)⟩, ?_⟩
  intro p3 hp3
  generalize ep3 : st G2 p3 _ = G3
  obtain ⟨xp3, kp3⟩ := nu hp3 ep3
  refine ⟨_, xp3.at (xp2.at kp1), _, kp3, line_of (by rw [rep_one]; simp; omega), ?_⟩
  intro pw hpw
  generalize epw : st G3 pw _ = G4
  obtain ⟨xpw, kpw⟩ := nu hpw epw
  have x4 : Ext G G4 := ((xp1.trans xp2).trans xp3).trans xpw
  have hpG : G pw = none := xp1.none (xp2.none (xp3.none hpw))
  have n0 : (0 : Int) ≤ rs.length := by omega
  refine ⟨rs, x4.seq (by simp) sq, ?_⟩
  have e4 : G4 pw = some (.lst ((1 :: List.replicate N.length 0 : List Int).map .int)) := by
    rw [kpw, rep_one, lr]; simp
  have pot0 : pot (1 :: List.replicate N.length 0) cs 0 = at0 cs 0 := by
    unfold pot
    rw [List.drop_zero, List.drop_zero]
    have := C.len
    cases cs with
    | nil => simp at this
    | cons c r => simp [dot, dot_zero, at0]
  refine ⟨fun i σ G5 => i ≤ N.length ∧ Ext G G5 ∧ ∃ ws o2 o3 o4, σ = [some (.ref a), some (.ref pw), o2, o3, o4] ∧ G5 pw = some (.lst (List.map D.int ws)) ∧ ws.length = N.length + 1 ∧ pot ws cs i = at0 cs 0, ⟨by omega, x4, _, _, _, _, rfl, e4, by simp, pot0⟩, fun i σ G5 hh => hh.2.1.seq (by simp) sq, ?_, ?_⟩
  · rintro i y σ G5 ey ⟨hi, x5, ws, o2, o3, o4, rfl, e5, l5, p5⟩
    obtain ⟨z, ez, rfl⟩ := enumL_get ey
    have hi2 : i < N.length := by have := (List.getElem?_eq_some_iff.mp ez).1; omega
    obtain ⟨ps, eps⟩ : ∃ ps, N[i]? = some ps := ⟨N[i], List.getElem?_eq_getElem hi2⟩
    obtain ⟨ai, eai, sai⟩ := hps i ps eps
    rw [ez] at eai
    cases eai
    have okp := (ok i ps eps).2
    unfold t_how_many_b2
    walk_at "e"
    refine ⟨_, x5.seq (by simp) sai, ?_⟩
    refine ⟨fun k σ G6 => k ≤ ps.length ∧ Ext G G6 ∧ ∃ ws' o4, σ = [some (.ref a), some (.ref pw), some (.int i), some (.ref ai), o4] ∧ G6 pw = some (.lst (List.map D.int ws')) ∧ ws'.length = N.length + 1 ∧ at0 ws' i = at0 ws i ∧ pot ws' cs (i + 1) = pot ws cs (i + 1) + at0 ws i * sumP cs (ps.take k), ⟨by omega, x5, ws, _, rfl, e5, l5, rfl, by simp [sumP]⟩, fun k σ G6 hh => hh.2.1.seq (by simp) sai, ?_, ?_⟩
    · rintro k y σ G6 ek ⟨hk, x6, ws', o4, rfl, e6, l6, a6, p6⟩
      rw [List.getElem?_map] at ek
      obtain ⟨p, ep, rfl⟩ := Option.map_eq_some_iff.mp ek
      have hp := okp p (List.mem_of_getElem? ep)
      have hk2 : k < ps.length := (List.getElem?_eq_some_iff.mp ep).1
      walk_at "e"
      refine how_b1 (n := N.length) (by simpa using hp.lo) hp.hi l6 C.len e6 fun ws2 l2 a2 p2 => ⟨by omega, x6.put' hpG, ws2, _, rfl, st_same, l2, by rw [a2, a6], ?_⟩
      rw [p2, p6, a6]
      have et : ps.take (k + 1) = ps.take k ++ [p] := by
        rw [List.take_succ, ep]; rfl
      rw [et]
      unfold sumP
      rw [List.map_append, List.sum_append]
      simp [Int.mul_add, Int.add_assoc]
    · rintro σ G6 ⟨hk, x6, ws', o4, rfl, e6, l6, a6, p6⟩
      refine ⟨by omega, x6, ws', _, _, _, rfl, e6, l6, ?_⟩
      have st0 := pot_step (ws := ws) (cs := cs) (i := i) (by omega) (by rw [l5, C.len])
      rw [p6, List.length_map, List.take_length, ← C.eq i ps eps, ← p5, st0, Int.add_comm]
  · rintro σ G5 ⟨hi, x5, ws, o2, o3, o4, rfl, e5, l5, p5⟩
    have len : (enumL rs).length = N.length := by simp [enumL, lr]
    rw [len] at p5
    unfold t_how_many_r1
    walk_at "e"
    refine ⟨_, .inl ⟨rs, x5.seq (by simp) sq, rfl⟩, ?_⟩
    walk_at "e"
    refine ⟨_, .inl e5, _, atI_at0 (by omega) (by omega), ?_⟩
    rw [lr]
    have e1 : pot ws cs N.length = at0 ws N.length := by
      rw [pot_step (by omega) (by rw [l5, C.len]), C.last]
      have : pot ws cs (N.length + 1) = 0 := by
        unfold pot; rw [List.drop_of_length_le (by omega)]; rfl
      rw [this]; omega
    rw [← e1, p5]
    exact hq G5 x5
def sp__law_count : DSp := fun ds G q _ => ∃ x N cs, ds = [x] ∧ Dd G x (netD N) ∧ N.length ≤ 30 ∧ NetOk N.length 0 N ∧ CS N cs ∧ ∀ G', Ext G G' → q (.int (at0 cs 0)) G'
def t__law_count_b1 : TSd := dAsg (dBi (BI.r .sum) (dCons (dLc (dItV (dOp ixD (dVar 0) (dVar 2))) (dgName 3) dYes (dOp ixD (dVar 1) (dOp ixD (dVar 3) (dC (.int 0)))) [3]) (dNil))) (dgSub (dVar 1) (dVar 2) setD)
def t__law_count_s1 : TSd := dSeq (dFor (dRng rng3 (dCons (dOp subD (dBi (BI.r .len) (dCons (dVar 0) (dNil))) (dC (.int 1))) (dCons (dUn negD (dC (.int 1))) (dCons (dUn negD (dC (.int 1))) (dNil))))) (dgName 2) t__law_count_b1) (dRet (dOp ixD (dVar 1) (dC (.int 0))))
def N__law_count : List Str := ["_law_net_here", "_law_ways", "_law_begin", "_law_piece"]
def P__law_count : List Str := ["_law_net_here"]
def t__law_count : TSd := dSeq (dAsg (dOp addD (dOp mulD (dLst (dCons (dC (.int 0)) (dNil))) (dBi (BI.r .len) (dCons (dVar 0) (dNil)))) (dLst (dCons (dC (.int 1)) (dNil)))) (dgName 1)) t__law_count_s1
def gl__law_count : List (Str × GI) := [("len", .bi .len), ("range", .rng), ("sum", .bi .sum)]
theorem len__law_count : ∀ ds G q x, sp__law_count ds G q x → ds.length = P__law_count.length := by
  rintro _ _ _ _ ⟨x, N, cs, rfl, _⟩; rfl
def back (cs : List Int) (n k : Nat) : List Int := List.replicate (n - k) 0 ++ cs.drop (n - k)
theorem back_at {cs : List Int} {n k j : Nat} (h : n - k ≤ j) : at0 (back cs n k) j = at0 cs j := by
  unfold at0 back
  rw [List.getD_eq_getElem?_getD, List.getD_eq_getElem?_getD, Int.toNat_natCast, List.getElem?_append_right (by simp; omega), List.getElem?_drop]
  congr 2
  simp; omega
theorem back_len {cs : List Int} {n k : Nat} (h : cs.length = n + 1) : (back cs n k).length = n + 1 := by
  unfold back; simp; omega
theorem back_set {cs : List Int} {n k : Nat} (h : cs.length = n + 1) (hk : k < n) : (back cs n k).set (n - 1 - k) (at0 cs (n - 1 - k : Nat)) = back cs n (k + 1) := by
  refine List.ext_getElem? fun j => ?_
  unfold back at0
  rw [List.getElem?_set]
  by_cases e : n - 1 - k = j
  · subst e
    rw [if_pos rfl, if_pos (by simp; omega), List.getElem?_append_right (by simp; omega), List.getElem?_drop, List.getD_eq_getElem?_getD]
    have e2 : n - (k + 1) + (n - 1 - k - (List.replicate (n - (k + 1)) (0 : Int)).length) = n - 1 - k := by simp; omega
    rw [e2, Int.toNat_natCast, List.getElem?_eq_getElem (by omega)]; rfl
  · rw [if_neg e]
    by_cases h1 : j < n - (k + 1)
    · rw [List.getElem?_append_left (by simp; omega), List.getElem?_append_left (by simp; omega), List.getElem?_replicate, List.getElem?_replicate, if_pos (by omega), if_pos (by omega)]
    · rw [List.getElem?_append_right (by simp; omega), List.getElem?_append_right (by simp; omega), List.getElem?_drop, List.getElem?_drop]
      congr 1; simp; omega
theorem b__law_count : Body t__law_count N__law_count sp__law_count := by
  rintro ds G q x ⟨x, N, cs, rfl, h, l30, ok, C, hq⟩
  obtain ⟨a, rs, rfl, sq, lr, hps⟩ := net_at h
  unfold t__law_count N__law_count t__law_count_s1
  walk_at "e"
  intro p1 hp1
  generalize ep1 : st G p1 _ = G1
  obtain ⟨xp1, kp1⟩ := nu hp1 ep1
  refine ⟨_, .inl ⟨rs, xp1.seq (by simp) sq, rfl⟩, ?_⟩
  walk_at "e"
  refine ⟨_, kp1, ⟨by omega, by omega, line_of (by simp; omega)⟩, ?_⟩
  intro p2 hp2
  generalize ep2 : st G1 p2 _ = G2
  obtain ⟨xp2, kp2⟩ := nu hp2 ep2
  intro p3 hp3
  generalize ep3 : st G2 p3 _ = G3
  obtain ⟨xp3, kp3⟩ := nu hp3 ep3
  refine ⟨_, xp3.at kp2, _, kp3, line_of (by rw [rep_one]; simp; omega), ?_⟩
  intro pw hpw
  generalize epw : st G3 pw _ = G4
  obtain ⟨xpw, kpw⟩ := nu hpw epw
  have x4 : Ext G G4 := ((xp1.trans xp2).trans xp3).trans xpw
  have hpG : G pw = none := xp1.none (xp2.none (xp3.none hpw))
  refine ⟨_, .inl ⟨rs, x4.seq (by simp) sq, rfl⟩, ?_⟩
  walk_at "e"
  refine ⟨_, RgC.neg (i := rs.length - 1) (j := -1) (by omega) (by omega) (by decide) (by decide), ?_⟩
  have en : ((rs.length : Int) - 1 - -1).toNat = N.length := by omega
  rw [en]
  have e4 : G4 pw = some (.lst ((back cs N.length 0).map .int)) := by
    rw [kpw, rep_one, lr]
    unfold back
    have e1 : cs.drop (N.length - 0) = [1] := by
      rw [Nat.sub_zero, List.drop_eq_getElem_cons (by rw [C.len]; omega), List.drop_of_length_le (by rw [C.len]; omega)]
      have := C.last
      unfold at0 at this
      rw [List.getD_eq_getElem?_getD, Int.toNat_natCast, List.getElem?_eq_getElem (by rw [C.len]; omega)] at this
      simp at this; rw [this]
    rw [e1]; simp
  refine ⟨fun k σ G5 => k ≤ N.length ∧ Ext G G5 ∧ ∃ o2 o3, σ = [some (.ref a), some (.ref pw), o2, o3] ∧ G5 pw = some (.lst (List.map D.int (back cs N.length k))), ⟨by omega, x4, _, _, rfl, e4⟩, fun _ _ _ _ => trivial, ?_, ?_⟩
  · rintro k y σ G5 ey ⟨hk, x5, o2, o3, rfl, e5⟩
    obtain ⟨h1, rfl⟩ := rngL_some ey
    have eb : (rs.length : Int) - 1 + (k : Int) * -1 = ((N.length - 1 - k : Nat) : Int) := by omega
    rw [eb]
    obtain ⟨ps, eps⟩ : ∃ ps, N[N.length - 1 - k]? = some ps := ⟨N[N.length - 1 - k]'(by omega), List.getElem?_eq_getElem (by omega)⟩
    obtain ⟨ai, eai, sai⟩ := hps _ ps eps
    have okp := (ok _ ps eps).2
    unfold t__law_count_b1
    walk_at "e"
    refine ⟨rs, x5.seq (by simp) sq, .ref ai, by rw [atI_of (by omega) (by omega), Int.toNat_natCast]; exact eai, ?_⟩
    walk_at "e"
    refine ⟨_, x5.seq (by simp) sai, ?_⟩
    have lb := back_len (k := k) C.len
    have epc : ∀ p ∈ ps, at0 (back cs N.length k) p.at_ = at0 cs p.at_ ∧ 0 ≤ p.at_ ∧ p.at_ ≤ N.length := fun p hp => by
      have hp := okp p hp
      have h1 := hp.lo
      have h2 := hp.hi
      have ep : p.at_ = ((p.at_.toNat : Nat) : Int) := by omega
      refine ⟨?_, by omega, h2⟩
      rw [ep]; exact back_at (by omega)
    refine lcR_val (fun x => match x with
      | .tup (.int e :: _) => .int (at0 (back cs N.length k) e)
      | _ => .non) (by rw [List.length_map]; have := (ok _ ps eps).1; omega) (fun G' xt => (x5.trans xt).seq (by simp) sai) (fun y hy G' Q' xt kk => ?_) fun p6 G6 hp6 x6 e6 => ?_
    · obtain ⟨p, hp, rfl⟩ := List.mem_map.mp hy
      obtain ⟨_, h2, h3⟩ := epc p hp
      have kk := kk G' .refl
      unfold Pc.d at kk ⊢
      walk_at "e"
      simp only [atI_0, Option.some.injEq, exists_eq_left']
      exact ⟨_, .inl (xt.at e5), _, atI_at0 h2 (by omega), kk⟩
    · have el : (ps.map Pc.d).map (fun x => match x with
        | .tup (.int e :: _) => D.int (at0 (back cs N.length k) e)
        | _ => .non) = (ps.map fun p => at0 cs p.at_).map D.int := by
        rw [List.map_map, List.map_map]
        refine List.map_congr_left fun p hp => ?_
        show D.int (at0 (back cs N.length k) p.at_) = _
        rw [(epc p hp).1]; rfl
      rw [el] at e6
      walk_at "e"
      refine ⟨_, .inl e6, ?_⟩
      refine ⟨_, x6.at e5, N.length - 1 - k, by rw [ixN_of (by omega) (by rw [List.length_map]; omega), Int.toNat_natCast], ?_⟩
      rw [set_at0]
      have es : (ps.map fun p => at0 cs p.at_).sum = at0 cs (N.length - 1 - k : Nat) := (C.eq _ ps eps).symm
      rw [es, back_set C.len h1]
      exact ⟨by omega, (x5.trans x6).put' hpG, _, _, rfl, st_same⟩
  · rintro σ G5 ⟨hk, x5, o2, o3, rfl, e5⟩
    rw [rngL_length] at e5
    walk_at "e"
    have lb := back_len (k := N.length) C.len
    refine ⟨_, .inl e5, _, atI_at0 (by omega) (by omega), ?_⟩
    have := back_at (cs := cs) (n := N.length) (k := N.length) (j := 0) (by omega)
    simp only [Int.ofNat_zero] at this
    rw [this]
    exact hq G5 x5

end S

set_option Elab.async false
set_option linter.all false
set_option maxRecDepth 100000
set_option maxHeartbeats 4000000
namespace S
open PySem PySem.Spec L2
open PyProof.Rows hiding St
local macro_rules | `(tactic| walk_at "e") => `(tactic| try simp only [dSeq, dNext, dRet, dRetN, dIf, dAsg, dAug, dDrop, par_eq, prs_2, dBreak, dCont, dgName, dgSub, gTup_t, gCons_c, gNil_n, dFor_eq, dLc_eq, dVar, dC, dOp, dUn, dBi, dCall, dCons, dNil, dTup, dLst, dSl, part_eq, prt_i, dNoPart, dAndV, dOrV, dNotV, dB, dAnd, dOr, dNot, dIfE, dChain, itv_eq, itv_t, itv_r, dRng, dWalk, dBm, rng1_i, rng2_i, rng3_i, enumR_r, zipR_r,
  BI.r, addD_i, addD_s, addD_t, addD_r, subD_i, mulD_i, mulD_r, mulD_t, modD_i, divD_i, powD_i, ltD_i, leD_i, gtD_i, geD_i, incD_i, negD_i, lr1_i, lr2_i, revD_r, isND_n, isNon, ixD_t, ixD_r, ixD_d, setD_d, dDnew, itk_eq, itk_r, dDm, getD_r, ditD_r, dItI, iti_r, listK_r, sortedD_r, ixD_l, ixD_s, slD_t, slD_r, slD_s, setD_r, lenD_s, lenD_t, lenD_l, lenD_r, isiD_1, isiD_n, listD_t, listD_r, tupleD_t, tupleD_r, allD_r, anyD_r, sumD_r, maxD_r, maxD_2, minD_r, minD_2, absD_i, intB_i, intB_b, appD_r, startD, wipeD,
  List.map_cons, List.map_nil, rep_z, rep_s, List.length_cons, List.length_nil, List.cons_append, List.nil_append, List.append_nil, List.getElem?_cons_zero, List.getElem?_cons_succ, List.set_cons_zero, List.set_cons_succ, Option.some.injEq, exists_eq_left', exists_eq_left, D.bl.injEq, D.int.injEq, D.tup.injEq, D.ref.injEq, true_and, and_true, Nat.reduceAdd, Nat.reduceSub, Nat.add_sub_cancel_left, exists_const, br_t, br_f, eqR_int, eqR_bl, Bool.false_bne, Bool.true_bne, Bool.false_xor, Bool.true_xor, Bool.not_true, Bool.not_false, Bool.not_not, ite_true, ite_false, Bool.true_eq_false, false_implies, decide_true, decide_false, tc_int, tc_bool, tc_str, tc_tup, tc_lst, tc_non, tc_dic, ln0, ln1, ln2, ln3, ln4, ln5, ln6, ln7, ln8, ln9, ln10, ln11, ln12, ln13, ln14, ln15, ln16, ln17, ln18, ln19, ln20, ln21, ln22, ln23, ln24, ln25, ln26, ln27, ln28, ln29, ln30, ln31, ln32, ln33, ln34, ln35, ln36, ln37, ln38, ln39, ln40, ln41, ln42, ln43, ln44, ln45, ln46, ln47, ln48, ln49, ln50, ln51, ln52, ln53, ln54, ln55, ln56, ln57, ln58, ln59, ln60])
local macro_rules | `(tactic| walk_at "g") => `(tactic| try simp only [st_same, st_st, GO.lst.injEq, Option.some.injEq, exists_eq_left', exists_eq_left, atI_0, atI_1, atI_2, atI_3, ixN_0, ixN_1, ixN_2, ixN_3, List.set_cons_zero, List.set_cons_succ, List.length_cons, List.length_nil, List.length_append, List.cons_append, List.nil_append, true_and, and_true, seq_st])
/-! ## a piece left out -/
/-- a comprehension with a test, that changes nothing that was there -/
theorem lcR_flt {te : TEd} {tt : TTd} {vs : List Nat} {σ : Sd} {Q : Qd} {xs : List D} {stay : Hd → Prop} {G0 : Hd} {g : TGd} (R : D → Prop) (hl : xs.length ≤ 1000000) (hs : ∀ G', Ext G0 G' → stay G')
    (el : ∀ (i : Nat) x, xs[i]? = some x → ∀ G' (Q' : Qd) (Z : Hd → Prop), Ext G0 G' → (∀ y G'', Ext G' G'' → R y → Q' y G'') → (∀ G'', Ext G' G'' → Z G'') → g W0 x (wipeD σ vs) G' fun σ2 G2 => tt W0 σ2 G2 fun k G3 => Br k (te W0 σ2 G3 Q') (Z G3))
    (q : ∀ p G' ys, G0 p = none → Ext G0 G' → G' p = some (.lst ys) → ys.length ≤ xs.length → (∀ y ∈ ys, R y) → Q (.ref p) G') : lcR g tt te vs σ Q xs stay G0 := by
  intro p hp
  refine ⟨fun i G => i ≤ xs.length ∧ Ext G0 G ∧ ∃ ys, G p = some (.lst ys) ∧ ys.length ≤ i ∧ ∀ y ∈ ys, R y, ⟨Nat.zero_le _, Xt.new hp, [], st_same, Nat.le_refl _, fun y h => by cases h⟩,
    fun i G h => hs G h.2.1, ?_, fun G ⟨_, x, ys, e, l, r⟩ => q p G ys hp x e l r⟩
  rintro i x G ex ⟨hi, xt, ys, e, l, r⟩
  have hi2 : i < xs.length := (List.getElem?_eq_some_iff.mp ex).1
  refine el i x ex G _ _ xt (fun y G4 x4 r4 => ?_) fun G4 x4 => ⟨by omega, xt.trans x4, ys, x4.at e, by omega, r⟩
  refine ⟨ys, x4.at e, line_lt (by omega), by omega, (xt.trans x4).put' hp, _, st_same, by simp; omega, fun z hz => ?_⟩
  rcases List.mem_append.mp hz with hz | hz
  · exact r z hz
  · rw [List.mem_singleton.mp hz]; exact r4
theorem eqB_nil {ps : List D} : eqB (.lst ps) (.lst []) = ps.isEmpty := by cases ps <;> rfl
theorem gd_pcs {ps : List Pc} (l : ps.length ≤ 1000) (h : ∀ p ∈ ps, p.signs.length ≤ 100) : gd 1000 3 (.lst (ps.map Pc.d)) := gd_lst.mpr ⟨by simpa using l, fun y hy => by
  obtain ⟨p, hp, rfl⟩ := List.mem_map.mp hy
  refine gd_tup.mpr ⟨by simp, fun y hy => ?_⟩
  simp only [List.mem_cons, List.not_mem_nil, or_false] at hy
  rcases hy with rfl | rfl | rfl | rfl
  · exact gd_int
  · exact gd_tup.mpr ⟨by simp; have := h p hp; omega, fun y hy => by obtain ⟨i, _, rfl⟩ := List.mem_map.mp hy; exact gd_int⟩
  · exact gd_int
  · exact gd_int⟩
theorem gd_nil {m n : Nat} : gd m (n + 1) (.lst []) := gd_lst.mpr ⟨by simp, by simp⟩
theorem gd_net {N : List (List Pc)} (l : N.length ≤ 1000) (ok : NetOk N.length 0 N) : gd 1000 4 (netD N) := gd_lst.mpr ⟨by simpa using l, fun y hy => by
  obtain ⟨ps, hp, rfl⟩ := List.mem_map.mp hy
  obtain ⟨i, hi⟩ := List.mem_iff_getElem?.mp hp
  obtain ⟨h1, h2⟩ := ok i ps hi
  exact gd_pcs (by omega) fun p hp => by have := (h2 p hp).l24; omega⟩
def sp__law_less : DSp := fun ds G q _ => ∃ b bs x N, ds = [.ref b, x] ∧ b ∈ bs ∧ (∀ c ∈ bs, G c ≠ none) ∧ Bag G b ∧ Dv bs G x (netD N) ∧ N.length ≤ 30 ∧ NetOk N.length 0 N ∧
  ∀ r N' G', N'.length = N.length → NetOk N'.length 0 N' → Xt [b] G G' → Bag G' b → Dv bs G' r (netD N') → q r G'
def t__law_less_r1 : TSd := dSeq (dAsg (dOp ixD (dVar 2) (dCall sp__law_take (dCons (dVar 0) (dCons (dBi (BI.r .len) (dCons (dVar 2) (dNil))) (dNil))))) (dgName 3)) (dSeq (dAsg (dOp ixD (dVar 1) (dVar 3)) (dgName 5)) (dSeq (dAsg (dCall sp__law_take (dCons (dVar 0) (dCons (dBi (BI.r .len) (dCons (dVar 5) (dNil))) (dNil)))) (dgName 6)) (dRet (dOp addD (dOp addD (dSl (dVar 1) dNoPart (dPart (dVar 3))) (dLst (dCons (dOp addD (dSl (dVar 5) dNoPart (dPart (dVar 6))) (dSl (dVar 5) (dPart (dOp addD (dVar 6) (dC (.int 1)))) dNoPart)) (dNil)))) (dSl (dVar 1) (dPart (dOp addD (dVar 3) (dC (.int 1)))) dNoPart)))))
def t__law_less_s1 : TSd := dSeq (dIf (dB (dOp (eqR false) (dVar 2) (dLst (dNil)))) (dRet (dVar 1)) (dNext)) t__law_less_r1
def N__law_less : List Str := ["_law_bag_here", "_law_net_here", "_law_places_here", "_law_place", "_law_pieces", "_law_some", "_law_at"]
def P__law_less : List Str := ["_law_bag_here", "_law_net_here"]
def t__law_less : TSd := dSeq (dAsg (dLc (dWalk enumR (dCons (dVar 1) (dNil))) (dgTup 2 (dgCons (dgName 3) (dgCons (dgName 4) (dgNil)))) (dB (dOp (eqR true) (dVar 4) (dLst (dNil)))) (dVar 3) [3, 4]) (dgName 2)) t__law_less_s1
def gl__law_less : List (Str × GI) := [("enumerate", .enum), ("_law_take", .fn sp__law_take), ("len", .bi .len)]
theorem len__law_less : ∀ ds G q x, sp__law_less ds G q x → ds.length = P__law_less.length := by
  rintro _ _ _ _ ⟨b, bs, x, N, rfl, _⟩; rfl
theorem gd_intl {ys : List D} (l : ys.length ≤ 1000) (h : ∀ y ∈ ys, ∃ i : Nat, y = .int i ∧ True) : gd 1000 1 (.lst ys) := gd_lst.mpr ⟨l, fun y hy => by obtain ⟨i, rfl, _⟩ := h y hy; exact gd_int⟩
theorem netD_at {bs : List Addr} {G : Hd} {x : D} {N : List (List Pc)} (h : Dv bs G x (netD N)) : ∃ a rs, x = .ref a ∧ a ∉ bs ∧ seqG G a rs ∧ rs.length = N.length ∧ Dvs bs G rs (N.map fun ps => .lst (ps.map Pc.d)) ∧ ∀ (i : Nat) ps, N[i]? = some ps → ∃ ai, rs[i]? = some (.ref ai) ∧ ai ∉ bs ∧ seqG G ai (ps.map Pc.d) := by
  obtain ⟨a, rs, rfl, sq, hs⟩ := Dd.lst_inv h
  have na := Dv.not_in h
  have hl := Dds.length hs
  refine ⟨a, rs, rfl, na, ?_, by simpa using hl, hs, fun i ps e => ?_⟩
  · exact sq.elim (fun e => .inl (by rwa [hide_at na] at e)) fun e => .inr (by rwa [hide_at na] at e)
  · obtain ⟨y, ey, hy⟩ := Dds.get' hs (i := i) (d := .lst (ps.map Pc.d)) (by rw [List.getElem?_map, e]; rfl)
    obtain ⟨ai, zs, rfl, sq2, hz⟩ := Dd.lst_inv hy
    have nai := Dv.not_in hy
    rw [dds_pure hz (noLs_pcs ps)] at sq2
    exact ⟨ai, ey, nai, sq2.elim (fun e => .inl (by rwa [hide_at nai] at e)) fun e => .inr (by rwa [hide_at nai] at e)⟩
theorem NetOk.set {n : Int} {N : List (List Pc)} {j : Nat} {ps qs : List Pc} (h : NetOk n 0 N) (e : N[j]? = some ps) (l : qs.length ≤ ps.length) (s : ∀ p ∈ qs, p ∈ ps) : NetOk n 0 (N.set j qs) := by
  intro k rs ek
  by_cases hj : j = k
  · subst hj
    have hl := (List.getElem?_eq_some_iff.mp e).1
    rw [List.getElem?_set_self hl] at ek; cases ek
    obtain ⟨h1, h2⟩ := h j ps e
    exact ⟨by omega, fun p hp => h2 p (s p hp)⟩
  · rw [List.getElem?_set_ne hj] at ek; exact h k rs ek
theorem b__law_less : Body t__law_less N__law_less sp__law_less := by
  rintro ds G q x ⟨b, bs, x, N, rfl, hb, ha, bag, h, l30, ok, hq⟩
  obtain ⟨a, rs, rfl, na, sq, lr, hd, hps⟩ := netD_at h
  unfold t__law_less N__law_less t__law_less_s1
  walk_at "e"
  refine ⟨rs, sq, ?_⟩
  refine lcR_flt (fun y => ∃ i : Nat, y = .int i ∧ ∃ ps, N[i]? = some ps ∧ ps ≠ []) (by simp [enumL]; omega) (fun G' xt => xt.seq (by simp) sq) (fun i y ey G' Q' Z xt k1 k2 => ?_) fun pl G1 ys hpl x1 e1 ly hys => ?_
  · obtain ⟨z, ez, rfl⟩ := enumL_get ey
    have hi2 : i < N.length := by have := (List.getElem?_eq_some_iff.mp ez).1; omega
    obtain ⟨ps, eps⟩ : ∃ ps, N[i]? = some ps := ⟨N[i], List.getElem?_eq_getElem hi2⟩
    obtain ⟨ai, eai, nai, sai⟩ := hps i ps eps
    rw [ez] at eai
    cases eai
    walk_at "e"
    intro p1 hp1
    generalize ep1 : st G' p1 _ = G2
    obtain ⟨xp1, kp1⟩ := nu hp1 ep1
    have sai2 := xp1.seq (by simp) (xt.seq (by simp) sai)
    obtain ⟨l150, inn⟩ := ok i ps eps
    refine eqR_of (d := .lst (ps.map Pc.d)) (e := .lst []) (sai2.elim (fun e => .lst e (pcs_dds ps)) fun e => .rol e (pcs_dds ps)) (.lst kp1 .nil) (gd_pcs (by omega) fun p hp => by have := (inn p hp).l24; omega) gd_nil (by decide) ?_
    rw [eqB_nil]
    walk_at "e"
    refine ⟨fun e => k1 _ _ xp1 ⟨i, rfl, ps, eps, fun z => ?_⟩, fun _ => k2 _ xp1⟩
    subst z; cases e
  have lys : ys.length ≤ 30 := by simp [enumL] at ly; omega
  walk_at "e"
  intro p2 hp2
  generalize ep2 : st G1 p2 _ = G2
  obtain ⟨xp2, kp2⟩ := nu hp2 ep2
  have gys : gd 1000 1 (.lst ys) := gd_lst.mpr ⟨by omega, fun y hy => by obtain ⟨i, rfl, _⟩ := hys y hy; exact gd_int⟩
  have dys : Dds G2 ys ys := by
    refine dds_pu (n := 0) fun y hy => ?_
    obtain ⟨i, rfl, _⟩ := hys y hy
    exact pu_int
  refine eqR_of (d := .lst ys) (e := .lst []) (.lst (xp2.at e1) dys) (.lst kp2 .nil) gys gd_nil (by decide) ?_
  rw [eqB_nil]
  walk_at "e"
  refine ⟨fun _ => hq _ N _ rfl ok (x1.trans xp2).ext (bag.ext (x1.trans xp2)) (h.xt (x1.trans xp2).ext), fun en => ?_⟩
  have hy0 : 0 < ys.length := by cases ys with | nil => cases en | cons => simp
  unfold t__law_less_r1
  walk_at "e"
  have x2 := x1.trans xp2
  have alive2 : ∀ {G' : Hd}, Xt [b] G G' → Bag G' b → ∀ c ∈ bs, G' c ≠ none := fun {G'} x b1 c m z => by
    by_cases q : c = b
    · exact b1.some (q ▸ z)
    · exact ha c m (x.free (by simpa using q) z)
  have nbl : pl ∉ [b] := fresh_b bag hpl
  refine ⟨_, .inl ⟨ys, .inl (xp2.at e1), rfl⟩, takes_here (bag.ext x2) (by omega) (by omega) fun r G3 r0 r1 x3 bag3 => ?_⟩
  walk_at "e"
  obtain ⟨z, hz, hzm, _⟩ := atI_mem (xs := ys) (i := r) r0 (by omega)
  obtain ⟨j, rfl, ps, eps, pne⟩ := hys z hzm
  obtain ⟨ai, eai, nai, sai⟩ := hps j ps eps
  have hj : j < N.length := (List.getElem?_eq_some_iff.mp eps).1
  obtain ⟨l150, inn⟩ := ok j ps eps
  have x03 : Xt [b] G G3 := x2.ext.trans x3
  have nab : a ∉ [b] := fun m => na (by rw [List.mem_singleton.mp m]; exact hb)
  have naib : ai ∉ [b] := fun m => nai (by rw [List.mem_singleton.mp m]; exact hb)
  refine ⟨ys, .inl (x3.get nbl (xp2.at e1)), _, hz, rs, x03.seq nab sq, .ref ai, by rw [atI_of (by omega) (by omega), Int.toNat_natCast]; exact eai, ?_⟩
  walk_at "e"
  have hps0 : 0 < ps.length := by cases ps with | nil => exact absurd rfl pne | cons => simp
  refine ⟨_, .inl ⟨_, x03.seq naib sai, rfl⟩, takes_here bag3 (by simp; omega) (by simp; omega) fun at_ G4 a0 a1 x4 bag4 => ?_⟩
  rw [List.length_map] at a1
  walk_at "e"
  have x04 := x03.trans x4
  refine ⟨rs, x04.seq nab sq, ?_⟩
  intro p5 hp5
  generalize ep5 : st G4 p5 _ = G5
  obtain ⟨xp5, kp5⟩ := nu hp5 ep5
  refine ⟨_, xp5.seq (by simp) (x04.seq naib sai), ?_⟩
  intro p6 hp6
  generalize ep6 : st G5 p6 _ = G6
  obtain ⟨xp6, kp6⟩ := nu hp6 ep6
  refine ⟨_, xp6.seq (by simp) (xp5.seq (by simp) (x04.seq naib sai)), ?_⟩
  intro p7 hp7
  generalize ep7 : st G6 p7 _ = G7
  obtain ⟨xp7, kp7⟩ := nu hp7 ep7
  have lc : ∀ lo hi, (cut (ps.map Pc.d) lo hi).length ≤ 150 := fun lo hi => Nat.le_trans cut_le (by simpa using l150)
  have lcr : ∀ lo hi, (cut rs lo hi).length ≤ 30 := fun lo hi => Nat.le_trans cut_le (by omega)
  refine ⟨_, xp7.at kp6, _, kp7, line_of (by have := lc none (some at_); have := lc (some (at_ + 1)) none; omega), ?_⟩
  intro p8 hp8
  generalize ep8 : st G7 p8 _ = G8
  obtain ⟨xp8, kp8⟩ := nu hp8 ep8
  intro p9 hp9
  generalize ep9 : st G8 p9 _ = G9
  obtain ⟨xp9, kp9⟩ := nu hp9 ep9
  have x59 := (((xp5.trans xp6).trans xp7).trans xp8).trans xp9
  refine ⟨_, xp9.at (xp8.at (xp7.at (xp6.at kp5))), _, kp9, line_of (by have := lcr none (some (j : Int)); simp only [List.length_cons, List.length_nil]; omega), ?_⟩
  intro p10 hp10
  generalize ep10 : st G9 p10 _ = G10
  obtain ⟨xp10, kp10⟩ := nu hp10 ep10
  refine ⟨rs, (x59.trans xp10).seq (by simp) (x04.seq nab sq), ?_⟩
  intro p11 hp11
  generalize ep11 : st G10 p11 _ = G11
  obtain ⟨xp11, kp11⟩ := nu hp11 ep11
  refine ⟨_, xp11.at kp10, _, kp11, line_of (by have := lcr none (some (j : Int)); have := lcr (some ((j : Int) + 1)) none; simp only [List.length_append, List.length_cons, List.length_nil]; omega), ?_⟩
  intro p12 hp12
  generalize ep12 : st G11 p12 _ = G12
  obtain ⟨xp12, kp12⟩ := nu hp12 ep12
  have xall : Xt [b] G G12 := x04.trans (((x59.trans xp10).trans xp11).trans xp12).ext
  have bag12 := bag4.ext (((x59.trans xp10).trans xp11).trans xp12)
  have bag47 := bag4.ext ((xp5.trans xp6).trans xp7)
  have n8 : p8 ∉ bs := fun m => by
    by_cases q : p8 = b
    · exact bag47.some (q ▸ hp8)
    · exact ha p8 m (x04.free (by simpa using q) (xp5.none (xp6.none (xp7.none hp8))))
  have bag411 := bag4.ext ((x59.trans xp10).trans xp11)
  have n12 : p12 ∉ bs := fun m => by
    by_cases q : p12 = b
    · exact bag411.some (q ▸ hp12)
    · exact ha p12 m (x04.free (by simpa using q) (((x59.trans xp10).trans xp11).none hp12))
  have k8 : G12 p8 = some (.lst (cut (ps.map Pc.d) none (some at_) ++ cut (ps.map Pc.d) (some (at_ + 1)) none)) := xp12.at (xp11.at (xp10.at (xp9.at kp8)))
  obtain ⟨qs, eqs⟩ : ∃ qs, qs = ps.take at_.toNat ++ ps.drop (at_ + 1).toNat := ⟨_, rfl⟩
  have ek : cut (ps.map Pc.d) none (some at_) ++ cut (ps.map Pc.d) (some (at_ + 1)) none = qs.map Pc.d := by
    rw [eqs, cut_to a0, cut_from (by omega), List.map_append, List.map_take, List.map_drop]
  rw [ek] at k8
  have lqs : qs.length ≤ ps.length := by rw [eqs, List.length_append, List.length_take, List.length_drop]; omega
  have sqs : ∀ p ∈ qs, p ∈ ps := fun p hp => by
    rw [eqs] at hp
    rcases List.mem_append.mp hp with hp | hp
    · exact List.mem_of_mem_take hp
    · exact List.mem_of_mem_drop hp
  have ew : cut rs none (some (j : Int)) ++ [.ref p8] ++ cut rs (some ((j : Int) + 1)) none = rs.set j (.ref p8) := by
    rw [cut_to (by omega), cut_from (by omega), Int.toNat_natCast, List.set_eq_take_append_cons_drop, if_pos (by omega), List.append_assoc]
    have : ((j : Int) + 1).toNat = j + 1 := by omega
    rw [this]; rfl
  rw [ew] at kp12
  refine hq _ (N.set j qs) G12 (by simp) (by rw [List.length_set]; exact ok.set eps lqs sqs) xall bag12 (Dv.lstI n12 kp12 ?_)
  have e3 : (N.set j qs).map (fun ps => D.lst (ps.map Pc.d)) = (N.map fun ps => D.lst (ps.map Pc.d)).set j (.lst (qs.map Pc.d)) := by rw [List.map_set]
  rw [e3]
  exact Dds.set (Dv.lstI n8 k8 (pcs_dds qs)) j (Dvs.xt (xall.weak (by simpa using hb)) hd)

end S

set_option Elab.async false
set_option linter.all false
set_option maxRecDepth 100000
set_option maxHeartbeats 4000000
namespace S
open PySem PySem.Spec L2
open PyProof.Rows hiding St
local macro_rules | `(tactic| walk_at "e") => `(tactic| try simp only [dSeq, dNext, dRet, dRetN, dIf, dAsg, dAug, dDrop, par_eq, prs_2, dBreak, dCont, dgName, dgSub, gTup_t, gCons_c, gNil_n, dFor_eq, dLc_eq, dVar, dC, dOp, dUn, dBi, dCall, dCons, dNil, dTup, dLst, dSl, part_eq, prt_i, dNoPart, dAndV, dOrV, dNotV, dB, dAnd, dOr, dNot, dIfE, dChain, itv_eq, itv_t, itv_r, dRng, dWalk, dBm, rng1_i, rng2_i, rng3_i, enumR_r, zipR_r,
  BI.r, addD_i, addD_s, addD_t, addD_r, subD_i, mulD_i, mulD_r, mulD_t, modD_i, divD_i, powD_i, ltD_i, leD_i, gtD_i, geD_i, incD_i, negD_i, lr1_i, lr2_i, revD_r, isND_n, isNon, ixD_t, ixD_r, ixD_d, setD_d, dDnew, itk_eq, itk_r, dDm, getD_r, ditD_r, dItI, iti_r, listK_r, sortedD_r, ixD_l, ixD_s, slD_t, slD_r, slD_s, setD_r, lenD_s, lenD_t, lenD_l, lenD_r, isiD_1, isiD_n, listD_t, listD_r, tupleD_t, tupleD_r, allD_r, anyD_r, sumD_r, maxD_r, maxD_2, minD_r, minD_2, absD_i, intB_i, intB_b, appD_r, startD, wipeD,
  List.map_cons, List.map_nil, rep_z, rep_s, List.length_cons, List.length_nil, List.cons_append, List.nil_append, List.append_nil, List.getElem?_cons_zero, List.getElem?_cons_succ, List.set_cons_zero, List.set_cons_succ, Option.some.injEq, exists_eq_left', exists_eq_left, D.bl.injEq, D.int.injEq, D.tup.injEq, D.ref.injEq, true_and, and_true, Nat.reduceAdd, Nat.reduceSub, Nat.add_sub_cancel_left, exists_const, br_t, br_f, eqR_int, eqR_bl, Bool.false_bne, Bool.true_bne, Bool.false_xor, Bool.true_xor, Bool.not_true, Bool.not_false, Bool.not_not, ite_true, ite_false, Bool.true_eq_false, false_implies, decide_true, decide_false, tc_int, tc_bool, tc_str, tc_tup, tc_lst, tc_non, tc_dic, ln0, ln1, ln2, ln3, ln4, ln5, ln6, ln7, ln8, ln9, ln10, ln11, ln12, ln13, ln14, ln15, ln16, ln17, ln18, ln19, ln20, ln21, ln22, ln23, ln24, ln25, ln26, ln27, ln28, ln29, ln30, ln31, ln32, ln33, ln34, ln35, ln36, ln37, ln38, ln39, ln40, ln41, ln42, ln43, ln44, ln45, ln46, ln47, ln48, ln49, ln50, ln51, ln52, ln53, ln54, ln55, ln56, ln57, ln58, ln59, ln60])
local macro_rules | `(tactic| walk_at "g") => `(tactic| try simp only [st_same, st_st, GO.lst.injEq, Option.some.injEq, exists_eq_left', exists_eq_left, atI_0, atI_1, atI_2, atI_3, ixN_0, ixN_1, ixN_2, ixN_3, List.set_cons_zero, List.set_cons_succ, List.length_cons, List.length_nil, List.length_append, List.cons_append, List.nil_append, true_and, and_true, seq_st])
/-! ## cuttings -/
def amongV (ps : List Pc) : D → Bool
  | .tup [a, .tup s, k, c] => wholeV a && wholeV k && wholeV c && s.all wholeV && (ps.map Pc.d).any fun z => eqB z (.tup [a, .tup s, k, c])
  | _ => false
theorem eqB_int {i : Int} {d : D} (h : eqB (.int i) d = true) (w : wholeV d = true) : d = .int i := by
  obtain ⟨j, rfl⟩ := whole_int w
  have : i = j := by simpa [eqB] using h
  rw [this]
theorem eqBs_cons {x y : D} {xs ys : List D} : eqBs (x :: xs) (y :: ys) = (eqB x y && eqBs xs ys) := rfl
theorem eqBs_ints : ∀ {S : List Int} {ds : List D}, eqBs (S.map D.int) ds = true → ds.all wholeV = true → ds = S.map D.int
  | [], [], _, _ => rfl
  | [], _ :: _, h, _ => by simp [eqBs] at h
  | _ :: _, [], h, _ => by simp [eqBs] at h
  | z :: S, d :: ds, h, w => by
    rw [List.map_cons, eqBs_cons] at h
    simp only [Bool.and_eq_true, List.all_cons] at h w
    rw [eqB_int h.1 w.1, eqBs_ints h.2 w.2]; rfl
theorem eqB_pc {p : Pc} {a k c : D} {s : List D} (h : eqB p.d (.tup [a, .tup s, k, c]) = true) (w : (wholeV a && wholeV k && wholeV c && s.all wholeV) = true) : D.tup [a, .tup s, k, c] = p.d := by
  have h : eqBs [.int p.at_, .tup (p.signs.map .int), .int p.kind, .int p.cost] [a, .tup s, k, c] = true := h
  rw [eqBs_cons, eqBs_cons, eqBs_cons, eqBs_cons] at h
  simp only [Bool.and_eq_true] at h w
  obtain ⟨h1, h2, h3, h4, _⟩ := h
  have h2 : eqBs (p.signs.map .int) s = true := h2
  obtain ⟨⟨⟨w1, w2⟩, w3⟩, w4⟩ := w
  rw [eqB_int h1 w1, eqB_int h3 w2, eqB_int h4 w3, eqBs_ints h2 w4]; rfl
theorem amongV_of {ps : List Pc} {d : D} (h : amongV ps d = true) : ∃ p ∈ ps, d = p.d := by
  unfold amongV at h
  split at h
  · rename_i a s k c
    rw [Bool.and_eq_true] at h
    obtain ⟨w, h⟩ := h
    obtain ⟨z, hz, e⟩ := List.any_eq_true.mp h
    obtain ⟨p, hp, rfl⟩ := List.mem_map.mp hz
    exact ⟨p, hp, eqB_pc e w⟩
  · cases h
theorem all_ints : ∀ S : List Int, (S.map D.int).all wholeV = true
  | [] => rfl
  | z :: S => by simp only [List.map_cons, List.all_cons, all_ints S, wholeV, Bool.and_self]
theorem amongV_pc {ps : List Pc} {p : Pc} (h : p ∈ ps) : amongV ps p.d = true := by
  have e : eqB p.d p.d = true := eqB_refl p.d p.okd
  unfold Pc.d at e ⊢
  unfold amongV
  simp only [wholeV, all_ints, Bool.and_self, Bool.true_and]
  refine List.any_eq_true.mpr ⟨p.d, List.mem_map_of_mem h, e⟩
theorem fromV_i {l m i : Int} (h1 : l ≤ i) (h2 : i ≤ m) : fromV l m (.int i) = true := by simp [fromV, h1, h2]
theorem rowV_ints {S : List Int} (l1 : 1 ≤ S.length) (l24 : S.length ≤ 24) (h : ∀ z ∈ S, 0 ≤ z ∧ z < 1040) : rowV 1 24 1039 (.tup (S.map .int)) = true := by
  simp only [rowV, List.length_map, Bool.and_eq_true, decide_eq_true_eq]
  refine ⟨⟨by omega, by omega⟩, List.all_eq_true.mpr fun d hd => ?_⟩
  obtain ⟨z, hz, rfl⟩ := List.mem_map.mp hd
  exact fromV_i (h z hz).1 (by have := (h z hz).2; omega)
theorem pieceV_in {i n : Int} {p : Pc} (h : p.In i n) : pieceV i n p.d = true := by
  unfold Pc.d pieceV
  simp only [Bool.and_eq_true]
  have := h.lo; have := h.hi; have := h.kd; have := h.co
  exact ⟨⟨⟨fromV_i (by omega) (by omega), rowV_ints h.l1 h.l24 h.sg⟩, fromV_i (by omega) (by omega)⟩, fromV_i (by omega) (by omega)⟩
theorem row_ints {l m t : Int} {d : D} (h : rowV l m t d = true) : ∃ S : List Int, d = .tup (S.map .int) := by
  obtain ⟨ss, rfl⟩ := rowV_tup h
  simp only [rowV, Bool.and_eq_true] at h
  obtain ⟨zs, e, _⟩ := ints_of (P := fun _ => True) (ys := ss) fun i y ey => by
    have := List.all_eq_true.mp h.2 y (List.mem_of_getElem? ey)
    obtain ⟨z, rfl⟩ := from_int this
    exact ⟨z, rfl, trivial⟩
  exact ⟨zs, by rw [e]⟩
theorem pieceV_pc {b m : Int} {d : D} (h : pieceV b m d = true) : ∃ p : Pc, d = p.d := by
  unfold pieceV at h
  split at h
  · rename_i a s k c
    simp only [Bool.and_eq_true] at h
    obtain ⟨i, rfl⟩ := from_int h.1.1.1
    obtain ⟨S, rfl⟩ := row_ints h.1.1.2
    obtain ⟨j, rfl⟩ := from_int h.1.2
    obtain ⟨l, rfl⟩ := from_int h.2
    exact ⟨⟨i, S, j, l⟩, rfl⟩
  · cases h
/-- both looks at a piece are alike -/
theorem among_alike {ps : List Pc} {i n : Int} (ok : ∀ p ∈ ps, p.In i n) (d : D) : amongV ps d = (pieceV i n d && (ps.map Pc.d).any fun z => eqB z d) := by
  cases e : amongV ps d with
  | true =>
    obtain ⟨p, hp, rfl⟩ := amongV_of e
    rw [pieceV_in (ok p hp), Bool.true_and]
    exact (List.any_eq_true (p := fun z => eqB z p.d).mpr ⟨p.d, List.mem_map_of_mem hp, eqB_refl p.d p.okd⟩).symm
  | false =>
    cases e2 : pieceV i n d with
    | false => rfl
    | true =>
      obtain ⟨p, rfl⟩ := pieceV_pc e2
      cases e3 : (ps.map Pc.d).any fun z => eqB z p.d with
      | false => rfl
      | true =>
        obtain ⟨z, hz, e4⟩ := List.any_eq_true.mp e3
        obtain ⟨q, hq, rfl⟩ := List.mem_map.mp hz
        have : p.d = q.d := by
          have := eqB_pc (p := q) (a := .int p.at_) (s := p.signs.map .int) (k := .int p.kind) (c := .int p.cost) e4 (by simp only [wholeV, all_ints, Bool.and_self])
          exact this
        rw [this, amongV_pc hq] at e; cases e
def leadsV (N : List (List Pc)) : Int → List D → Bool
  | p, [] => decide (p = N.length)
  | p, d :: r => decide (p < N.length) && amongV (N.getD p.toNat []) d && leadsV N (pieceAt d) r
def cutV (N : List (List Pc)) : D → Bool
  | .lst ds => leadsV N 0 ds
  | _ => false
def sp_is_among : DSp := fun ds G q _ => ∃ x d y ps, ds = [x, y] ∧ Dd G x d ∧ gd 100000 9 d ∧ Dd G y (.lst (ps.map Pc.d)) ∧ ∀ G', Ext G G' → q (.bl (amongV ps d)) G'
def t_is_among_r1 : TSd := dRet (dOp (inD false) (dVar 0) (dVar 1))
def t_is_among_s1 : TSd := dSeq (dIf (dB (dBi (BI.r .any) (dCons (dLc (dItV (dVar 2)) (dgName 3) dYes (dOrV (dBi (BI.r .isi) (dCons (dVar 3) (dCons (dC (.ty "bool")) (dNil)))) (dNotV (dBi (BI.r .isi) (dCons (dVar 3) (dCons (dC (.ty "int")) (dNil)))))) [3]) (dNil)))) (dRet (dC (.bl false))) (dNext)) t_is_among_r1
def t_is_among_r2 : TSd := dSeq (dAsg (dOp addD (dLst (dCons (dOp ixD (dVar 0) (dC (.int 0))) (dCons (dOp ixD (dVar 0) (dC (.int 2))) (dCons (dOp ixD (dVar 0) (dC (.int 3))) (dNil))))) (dBi (BI.r .list) (dCons (dOp ixD (dVar 0) (dC (.int 1))) (dNil)))) (dgName 2)) t_is_among_s1
def N_is_among : List Str := ["thing", "pieces", "numbers", "one"]
def P_is_among : List Str := ["thing", "pieces"]
def t_is_among : TSd := dSeq (dIf (dOr (dNot (dB (dBi (BI.r .isi) (dCons (dVar 0) (dCons (dC (.ty "tuple")) (dNil)))))) (dOr (dB (dOp (eqR true) (dBi (BI.r .len) (dCons (dVar 0) (dNil))) (dC (.int 4)))) (dNot (dB (dBi (BI.r .isi) (dCons (dOp ixD (dVar 0) (dC (.int 1))) (dCons (dC (.ty "tuple")) (dNil)))))))) (dRet (dC (.bl false))) (dNext)) t_is_among_r2
def gl_is_among : List (Str × GI) := [("isinstance", .bi .isi), ("tuple", .bi .tuple), ("len", .bi .len), ("list", .bi .list), ("any", .bi .any), ("int", .bi .int), ("bool", .ty "bool")]
theorem len_is_among : ∀ ds G q x, sp_is_among ds G q x → ds.length = P_is_among.length := by
  rintro _ _ _ _ ⟨x, d, y, ps, rfl, _⟩; rfl
theorem among_nt {ps : List Pc} {ds : List D} (h : ds.length ≠ 4) : amongV ps (.tup ds) = false := by
  unfold amongV; split
  · rename_i e; cases e; exact absurd rfl h
  · rfl
theorem dep_pcs {ps : List Pc} : sh (.lst (ps.map Pc.d)) := ⟨okDs_of fun x hx => by obtain ⟨p, _, rfl⟩ := List.mem_map.mp hx; exact p.okd, by
  have : deps (ps.map Pc.d) ≤ 2 := deps_of fun x hx => by obtain ⟨p, _, rfl⟩ := List.mem_map.mp hx; rw [p.depd]; exact Nat.le_refl _
  show deps (ps.map Pc.d) + 1 ≤ 64; omega⟩
theorem whole_not {G : Hd} {x d : D} (h : Dd G x d) : (isD G x "bool" = true → wholeV d = false) ∧ (isD G x "bool" = false → isD G x "int" = wholeV d) := by
  rw [h.is, h.is]
  cases h <;> simp [isV, tyV, isT, wholeV]
theorem any_not {ds : List D} : (ds.any fun d => !wholeV d) = !ds.all wholeV := by
  induction ds with
  | nil => rfl
  | cons d ds ih => simp only [List.any_cons, List.all_cons, ih, Bool.not_and]
theorem b_is_among : Body t_is_among N_is_among sp_is_among := by
  rintro ds G q x ⟨x, d, y, ps, rfl, h, g, hy, hq⟩
  unfold t_is_among N_is_among t_is_among_r2 t_is_among_s1
  walk_at "e"
  refine ⟨h.kn, ?_⟩
  rw [h.is]
  have no : amongV ps d = false → ∀ G', Ext G G' → q (.bl false) G' := fun e G' x => by have := hq G' x; rwa [e] at this
  refine ⟨fun e => no (by cases d <;> first | rfl | cases e) _ .refl, fun e => ?_⟩
  obtain ⟨ds, rfl⟩ := is_tup (d := d) (by simpa using e)
  obtain ⟨xs, rfl, hs⟩ := h.tup_inv
  have el := hs.length
  walk_at "e"
  rw [el]
  refine ⟨fun e1 => no (among_nt fun z => by rw [z] at e1; simp at e1) _ .refl, fun e1 => ?_⟩
  obtain ⟨a, s, k, c, rfl⟩ := four_of (ds := ds) (by simp only [Bool.not_eq_false', decide_eq_true_eq] at e1; omega)
  obtain ⟨x0, x1, x2, x3, rfl, h0, h1, h2, h3⟩ := dds4 hs
  simp only [atI_0, atI_1, atI_2, atI_3, Option.some.injEq, exists_eq_left']
  refine ⟨h1.kn, ?_⟩
  rw [h1.is]
  refine ⟨fun e2 => no (by cases s <;> first | (simp [amongV]; done) | cases e2) _ .refl, fun e2 => ?_⟩
  obtain ⟨ss, rfl⟩ := is_tup (d := s) (by simpa using e2)
  obtain ⟨xs, rfl, hss⟩ := h1.tup_inv
  have lss := hss.length
  have g4 := (gd_tup.mp g).2 _ (List.mem_cons_of_mem _ List.mem_cons_self)
  have lg := (gd_tup.mp g4).1
  intro p1 hp1
  generalize ep1 : st G p1 _ = G1
  obtain ⟨xp1, kp1⟩ := nu hp1 ep1
  walk_at "e"
  refine ⟨line_of (by omega), ?_⟩
  intro p2 hp2
  generalize ep2 : st G1 p2 _ = G2
  obtain ⟨xp2, kp2⟩ := nu hp2 ep2
  refine ⟨_, xp2.at kp1, _, kp2, line_of (by simp; omega), ?_⟩
  intro p3 hp3
  generalize ep3 : st G2 p3 _ = G3
  obtain ⟨xp3, kp3⟩ := nu hp3 ep3
  have x03 : Ext G G3 := (xp1.trans xp2).trans xp3
  refine ⟨_, .inl kp3, ?_⟩
  refine lcR_look (fun d => !wholeV d) (ds := [a, k, c] ++ ss) (((Dds.cons h0 (.cons h2 (.cons h3 .nil))).append hss).ext x03) (by simp; omega) (fun G' xt => .inl (xt.at kp3)) (fun y d r _ G' Q' xt kk => ?_) fun p G' xt e => ?_
  · walk_at "e"
    have r' := r.ext xt
    refine ⟨r'.kn, fun e => ?_, fun e => ⟨r'.kn, ?_⟩⟩
    · have := kk _ .refl; rw [(whole_not r').1 e] at this; exact this
    · have := kk _ .refl; rw [(whole_not r').2 e]; exact this
  · walk_at "e"
    refine ⟨([a, k, c] ++ ss).map (fun d => !wholeV d), .inl e, ?_⟩
    rw [any_id, any_not]
    have al : ([a, k, c] ++ ss).all wholeV = (wholeV a && wholeV k && wholeV c && ss.all wholeV) := by
      simp [Bool.and_assoc]
    rw [al]
    have x04 := x03.trans xt
    refine ⟨fun e3 => no (by simp only [Bool.not_eq_true'] at e3; simp only [amongV, e3, Bool.false_and]) _ x04, fun e3 => ?_⟩
    simp only [Bool.not_eq_false'] at e3
    unfold t_is_among_r1
    walk_at "e"
    have hh := h.ext x04
    obtain ⟨ay, ys, rfl, sqy, hys⟩ := (hy.ext x04).lst_inv
    refine in_r sqy hh hys (g.sh (by decide)) dep_pcs ?_
    have := hq G' x04
    simp only [amongV, e3, Bool.true_and] at this
    simpa using this
def sp_is_cutting : DSp := fun ds G q _ => ∃ x N y d, ds = [x, y] ∧ Dd G x (netD N) ∧ N.length ≤ 30 ∧ NetOk N.length 0 N ∧ Dd G y d ∧ gd 100000 10 d ∧ ∀ G', Ext G G' → q (.bl (cutV N d)) G'
def t_is_cutting_r1 : TSd := dAsg (dOp ixD (dVar 3) (dC (.int 0))) (dgName 2)
def t_is_cutting_b1 : TSd := dSeq (dIf (dOr (dB (dOp geD (dVar 2) (dBi (BI.r .len) (dCons (dVar 0) (dNil))))) (dNot (dB (dCall sp_is_among (dCons (dVar 3) (dCons (dOp ixD (dVar 0) (dVar 2)) (dNil))))))) (dRet (dC (.bl false))) (dNext)) t_is_cutting_r1
def t_is_cutting_r2 : TSd := dRet (dOp (eqR false) (dVar 2) (dBi (BI.r .len) (dCons (dVar 0) (dNil))))
def t_is_cutting_s1 : TSd := dSeq (dFor (dItV (dVar 1)) (dgName 3) t_is_cutting_b1) t_is_cutting_r2
def t_is_cutting_r3 : TSd := dSeq (dAsg (dC (.int 0)) (dgName 2)) t_is_cutting_s1
def N_is_cutting : List Str := ["net", "thing", "place", "piece"]
def P_is_cutting : List Str := ["net", "thing"]
def t_is_cutting : TSd := dSeq (dIf (dNot (dB (dBi (BI.r .isi) (dCons (dVar 1) (dCons (dC (.ty "list")) (dNil)))))) (dRet (dC (.bl false))) (dNext)) t_is_cutting_r3
def gl_is_cutting : List (Str × GI) := [("isinstance", .bi .isi), ("list", .bi .list), ("is_among", .fn sp_is_among), ("len", .bi .len)]
theorem len_is_cutting : ∀ ds G q x, sp_is_cutting ds G q x → ds.length = P_is_cutting.length := by
  rintro _ _ _ _ ⟨x, N, y, d, rfl, _⟩; rfl
abbrev sp__law_leads : DSp := sp_is_cutting
def t__law_leads_r1 : TSd := dAsg (dOp ixD (dVar 3) (dC (.int 0))) (dgName 2)
def t__law_leads_r2 : TSd := dSeq (dIf (dB (dOp (inD true) (dVar 3) (dOp ixD (dVar 0) (dVar 2)))) (dRet (dC (.bl false))) (dNext)) t__law_leads_r1
def t__law_leads_b1 : TSd := dSeq (dIf (dOr (dB (dOp geD (dVar 2) (dBi (BI.r .len) (dCons (dVar 0) (dNil))))) (dNot (dB (dCall sp__law_is_piece (dCons (dVar 3) (dCons (dVar 2) (dCons (dBi (BI.r .len) (dCons (dVar 0) (dNil))) (dNil)))))))) (dRet (dC (.bl false))) (dNext)) t__law_leads_r2
def t__law_leads_r3 : TSd := dRet (dOp (eqR false) (dVar 2) (dBi (BI.r .len) (dCons (dVar 0) (dNil))))
def t__law_leads_s1 : TSd := dSeq (dFor (dItV (dVar 1)) (dgName 3) t__law_leads_b1) t__law_leads_r3
def t__law_leads_r4 : TSd := dSeq (dAsg (dC (.int 0)) (dgName 2)) t__law_leads_s1
def N__law_leads : List Str := ["_law_net_here", "_law_thing", "_law_place", "_law_piece"]
def P__law_leads : List Str := ["_law_net_here", "_law_thing"]
def t__law_leads : TSd := dSeq (dIf (dNot (dB (dBi (BI.r .isi) (dCons (dVar 1) (dCons (dC (.ty "list")) (dNil)))))) (dRet (dC (.bl false))) (dNext)) t__law_leads_r4
def gl__law_leads : List (Str × GI) := [("isinstance", .bi .isi), ("list", .bi .list), ("_law_is_piece", .fn sp__law_is_piece), ("len", .bi .len)]
theorem len__law_leads : ∀ ds G q x, sp__law_leads ds G q x → ds.length = P__law_leads.length := len_is_cutting
theorem net_get {N : List (List Pc)} {i : Int} (h0 : 0 ≤ i) (h : i < N.length) : N[i.toNat]? = some (N.getD i.toNat []) := by
  have hl : i.toNat < N.length := by omega
  rw [List.getElem?_eq_getElem hl, List.getD_eq_getElem?_getD, List.getElem?_eq_getElem hl]; rfl
theorem among_at {N : List (List Pc)} {i : Int} {d : D} (ok : NetOk N.length 0 N) (h0 : 0 ≤ i) (h : i < N.length) (e : amongV (N.getD i.toNat []) d = true) : ∃ p : Pc, d = p.d ∧ p ∈ N.getD i.toNat [] ∧ p.In i N.length := by
  obtain ⟨p, hp, rfl⟩ := amongV_of e
  have := (ok i.toNat _ (net_get h0 h)).2 p hp
  have e2 : ((0 : Nat) : Int) + (i.toNat : Nat) = i := by omega
  rw [show ((0 : Nat) : Int) = 0 from rfl] at e2
  exact ⟨p, rfl, hp, by rw [← e2]; exact this⟩
theorem row_at {G : Hd} {x : D} {N : List (List Pc)} (h : Dd G x (netD N)) : ∃ a rs, x = .ref a ∧ seqG G a rs ∧ rs.length = N.length ∧ ∀ (i : Nat) ps, N[i]? = some ps → ∃ y, rs[i]? = some y ∧ Dd G y (.lst (ps.map Pc.d)) := by
  obtain ⟨a, rs, rfl, sq, hs⟩ := h.lst_inv
  refine ⟨a, rs, rfl, sq, by simpa using hs.length, fun i ps e => ?_⟩
  exact hs.get' (i := i) (d := .lst (ps.map Pc.d)) (by rw [List.getElem?_map, e]; rfl)
section
variable {w : Wx} {E : En} {G : Hd} {x yt y d : D} {N : List (List Pc)} {p : Int}
theorem is_cutting_b1 (h : Dd G x (netD N)) (l30 : N.length ≤ 30) (ok : NetOk N.length 0 N) (hy : Dd G y d) (g : gd 100000 9 d) (p0 : 0 ≤ p)
    (hf : ∀ G', Ext G G' → (decide (p < N.length) && amongV (N.getD p.toNat []) d) = false → E.rt (.bl false) G')
    (hq : ∀ G', Ext G G' → p < N.length → amongV (N.getD p.toNat []) d = true → 0 ≤ pieceAt d → E.nx [some x, some yt, some (.int (pieceAt d)), some y] G') : t_is_cutting_b1 w E [some x, some yt, some (.int p), some y] G := by
  obtain ⟨a, rs, rfl, sq, lr, hps⟩ := row_at h
  unfold t_is_cutting_b1 t_is_cutting_r1
  walk_at "e"
  refine ⟨_, .inl ⟨rs, sq, rfl⟩, ?_⟩
  walk_at "e"
  rw [lr]
  refine ⟨fun e1 => hf G .refl (by have : ¬ p < N.length := by simpa using e1
                                   simp [this]), fun e1 => ?_⟩
  have hlt : p < N.length := by simpa using e1
  obtain ⟨z, ez, hz⟩ := hps _ _ (net_get p0 hlt)
  refine ⟨rs, sq, z, by rw [atI_of p0 (by omega)]; exact ez, y, d, z, _, rfl, hy, g, hz, fun G1 x1 => ?_⟩
  walk_at "e"
  refine ⟨fun e2 => hf G1 x1 (by simp only [Bool.not_eq_true'] at e2; simp only [e2, Bool.and_false]), fun e2 => ?_⟩
  simp only [Bool.not_eq_false'] at e2
  obtain ⟨pc, rfl, hp, inn⟩ := among_at ok p0 hlt e2
  cases dd_pure hy pc.nol
  have nx := hq G1 x1 hlt e2 (by show (0 : Int) ≤ pc.at_; have := inn.lo; omega)
  unfold Pc.d at nx ⊢
  walk_at "e"
  simp only [atI_0, Option.some.injEq, exists_eq_left']
  exact nx
theorem law_leads_b1 (h : Dd G x (netD N)) (l30 : N.length ≤ 30) (ok : NetOk N.length 0 N) (hy : Dd G y d) (g : gd 100000 9 d) (p0 : 0 ≤ p)
    (hf : ∀ G', Ext G G' → (decide (p < N.length) && amongV (N.getD p.toNat []) d) = false → E.rt (.bl false) G')
    (hq : ∀ G', Ext G G' → p < N.length → amongV (N.getD p.toNat []) d = true → 0 ≤ pieceAt d → E.nx [some x, some yt, some (.int (pieceAt d)), some y] G') : t__law_leads_b1 w E [some x, some yt, some (.int p), some y] G := by
  obtain ⟨a, rs, rfl, sq, lr, hps⟩ := row_at h
  unfold t__law_leads_b1
  walk_at "e"
  refine ⟨_, .inl ⟨rs, sq, rfl⟩, ?_⟩
  walk_at "e"
  rw [lr]
  refine ⟨fun e1 => hf G .refl (by have : ¬ p < N.length := by simpa using e1
                                   simp [this]), fun e1 => ?_⟩
  have hlt : p < N.length := by simpa using e1
  obtain ⟨z, ez, hz⟩ := hps _ _ (net_get p0 hlt)
  have okp : ∀ q ∈ N.getD p.toNat [], q.In p N.length := fun q hq => by
    have := (ok p.toNat _ (net_get p0 hlt)).2 q hq
    have e2 : (0 : Int) + (p.toNat : Nat) = p := by omega
    rw [← e2]; exact this
  have al := among_alike okp d
  refine ⟨_, .inl ⟨rs, sq, rfl⟩, ?_⟩
  walk_at "e"
  rw [lr]
  refine ⟨y, d, p, N.length, rfl, hy, fun G1 x1 => ?_⟩
  walk_at "e"
  refine ⟨fun e2 => hf G1 x1 (by simp only [Bool.not_eq_true'] at e2; simp only [al, e2, Bool.false_and, Bool.and_false]), fun e2 => ?_⟩
  simp only [Bool.not_eq_false'] at e2
  unfold t__law_leads_r2
  walk_at "e"
  refine ⟨rs, x1.seq (by simp) sq, z, by rw [atI_of p0 (by omega)]; exact ez, ?_⟩
  obtain ⟨az, zs, rfl, sqz, hzs⟩ := (hz.ext x1).lst_inv
  refine in_r sqz (hy.ext x1) hzs (g.sh (by decide)) dep_pcs ?_
  walk_at "e"
  refine ⟨fun e3 => hf G1 x1 (by simp only [Bool.not_eq_true'] at e3; simp only [al, e3, Bool.and_false]), fun e3 => ?_⟩
  simp only [Bool.not_eq_false'] at e3
  have e4 : amongV (N.getD p.toNat []) d = true := by rw [al, e2, e3]; rfl
  obtain ⟨pc, rfl, hp, inn⟩ := among_at ok p0 hlt e4
  cases dd_pure hy pc.nol
  have nx := hq G1 x1 hlt e4 (by show (0 : Int) ≤ pc.at_; have := inn.lo; omega)
  unfold t__law_leads_r1
  unfold Pc.d at nx ⊢
  walk_at "e"
  simp only [atI_0, Option.some.injEq, exists_eq_left']
  exact nx
end
theorem b_is_cutting : Body t_is_cutting N_is_cutting sp_is_cutting := by
  rintro ds G q x ⟨x, N, y, d, rfl, h, l30, ok, hy, g, hq⟩
  unfold t_is_cutting N_is_cutting t_is_cutting_r3 t_is_cutting_s1
  walk_at "e"
  refine ⟨hy.kn, ?_⟩
  rw [hy.is]
  have no : cutV N d = false → ∀ G', Ext G G' → q (.bl false) G' := fun e G' x => by have := hq G' x; rwa [e] at this
  refine ⟨fun e => no (by cases d <;> first | rfl | cases e) _ .refl, fun e => ?_⟩
  obtain ⟨ds, rfl⟩ := isV_lst (d := d) (by simpa using e)
  obtain ⟨ay, ys, rfl, sqy, hys⟩ := hy.lst_inv
  have ly := hys.length
  rw [gd_lst] at g
  walk_at "e"
  refine ⟨ys, sqy, ?_⟩
  refine ⟨fun i σ G2 => i ≤ ys.length ∧ Ext G G2 ∧ ∃ (p : Int) (o : Option D), σ = [some x, some (.ref ay), some (.int p), o] ∧ 0 ≤ p ∧ leadsV N 0 ds = leadsV N p (ds.drop i), ⟨by omega, .refl, 0, _, rfl, by decide, rfl⟩, fun i σ G2 hh => hh.2.1.seq (by simp) sqy, ?_, ?_⟩
  · rintro i z σ G2 ez ⟨hi, xt, p, o, rfl, p0, hp⟩
    obtain ⟨d, ed, hd⟩ := hys.get ez
    have hi2 : i < ds.length := (List.getElem?_eq_some_iff.mp ed).1
    have dr : ds.drop i = d :: ds.drop (i + 1) := by
      rw [List.drop_eq_getElem_cons hi2]; congr 1; exact (List.getElem?_eq_some_iff.mp ed).2
    walk_at "e"
    refine is_cutting_b1 (h.ext xt) l30 ok (hd.ext xt) (g.2 d (List.mem_of_getElem? ed)) p0 (fun G' x' e => no (by show leadsV N 0 ds = false; rw [hp, dr]; simp only [leadsV, e, Bool.false_and]) _ (xt.trans x')) fun G' x' e1 e2 e3 => ⟨by have := (List.getElem?_eq_some_iff.mp ez).1; omega, xt.trans x', pieceAt d, _, rfl, e3, ?_⟩
    rw [hp, dr]; simp only [leadsV, e1, e2, decide_true, Bool.true_and]
  · rintro σ G2 ⟨hi, xt, p, o, rfl, p0, hp⟩
    unfold t_is_cutting_r2
    obtain ⟨a, rs, rfl, sq, lr, hps⟩ := row_at h
    walk_at "e"
    refine ⟨_, .inl ⟨rs, xt.seq (by simp) sq, rfl⟩, ?_⟩
    walk_at "e"
    have := hq G2 xt
    have e1 : cutV N (.lst ds) = leadsV N p (ds.drop ys.length) := hp
    rw [e1, ly, List.drop_length] at this
    rw [lr]
    exact this
theorem b__law_leads : Body t__law_leads N__law_leads sp__law_leads := by
  rintro ds G q x ⟨x, N, y, d, rfl, h, l30, ok, hy, g, hq⟩
  unfold t__law_leads N__law_leads t__law_leads_r4 t__law_leads_s1
  walk_at "e"
  refine ⟨hy.kn, ?_⟩
  rw [hy.is]
  have no : cutV N d = false → ∀ G', Ext G G' → q (.bl false) G' := fun e G' x => by have := hq G' x; rwa [e] at this
  refine ⟨fun e => no (by cases d <;> first | rfl | cases e) _ .refl, fun e => ?_⟩
  obtain ⟨ds, rfl⟩ := isV_lst (d := d) (by simpa using e)
  obtain ⟨ay, ys, rfl, sqy, hys⟩ := hy.lst_inv
  have ly := hys.length
  rw [gd_lst] at g
  walk_at "e"
  refine ⟨ys, sqy, ?_⟩
  refine ⟨fun i σ G2 => i ≤ ys.length ∧ Ext G G2 ∧ ∃ (p : Int) (o : Option D), σ = [some x, some (.ref ay), some (.int p), o] ∧ 0 ≤ p ∧ leadsV N 0 ds = leadsV N p (ds.drop i), ⟨by omega, .refl, 0, _, rfl, by decide, rfl⟩, fun i σ G2 hh => hh.2.1.seq (by simp) sqy, ?_, ?_⟩
  · rintro i z σ G2 ez ⟨hi, xt, p, o, rfl, p0, hp⟩
    obtain ⟨d, ed, hd⟩ := hys.get ez
    have hi2 : i < ds.length := (List.getElem?_eq_some_iff.mp ed).1
    have dr : ds.drop i = d :: ds.drop (i + 1) := by
      rw [List.drop_eq_getElem_cons hi2]; congr 1; exact (List.getElem?_eq_some_iff.mp ed).2
    walk_at "e"
    refine law_leads_b1 (h.ext xt) l30 ok (hd.ext xt) (g.2 d (List.mem_of_getElem? ed)) p0 (fun G' x' e => no (by show leadsV N 0 ds = false; rw [hp, dr]; simp only [leadsV, e, Bool.false_and]) _ (xt.trans x')) fun G' x' e1 e2 e3 => ⟨by have := (List.getElem?_eq_some_iff.mp ez).1; omega, xt.trans x', pieceAt d, _, rfl, e3, ?_⟩
    rw [hp, dr]; simp only [leadsV, e1, e2, decide_true, Bool.true_and]
  · rintro σ G2 ⟨hi, xt, p, o, rfl, p0, hp⟩
    unfold t__law_leads_r3
    obtain ⟨a, rs, rfl, sq, lr, hps⟩ := row_at h
    walk_at "e"
    refine ⟨_, .inl ⟨rs, xt.seq (by simp) sq, rfl⟩, ?_⟩
    walk_at "e"
    have := hq G2 xt
    have e1 : cutV N (.lst ds) = leadsV N p (ds.drop ys.length) := hp
    rw [e1, ly, List.drop_length] at this
    rw [lr]
    exact this

end S

set_option Elab.async false
set_option linter.all false
set_option maxRecDepth 100000
set_option maxHeartbeats 4000000
namespace S
open PySem PySem.Spec L2
open PyProof.Rows hiding St
local macro_rules | `(tactic| walk_at "e") => `(tactic| try simp only [dSeq, dNext, dRet, dRetN, dIf, dAsg, dAug, dDrop, par_eq, prs_2, dBreak, dCont, dgName, dgSub, gTup_t, gCons_c, gNil_n, dFor_eq, dLc_eq, dVar, dC, dOp, dUn, dBi, dCall, dCons, dNil, dTup, dLst, dSl, part_eq, prt_i, dNoPart, dAndV, dOrV, dNotV, dB, dAnd, dOr, dNot, dIfE, dChain, itv_eq, itv_t, itv_r, dRng, dWalk, dBm, rng1_i, rng2_i, rng3_i, enumR_r, zipR_r,
  BI.r, addD_i, addD_s, addD_t, addD_r, subD_i, mulD_i, mulD_r, mulD_t, modD_i, divD_i, powD_i, ltD_i, leD_i, gtD_i, geD_i, incD_i, negD_i, lr1_i, lr2_i, revD_r, isND_n, isNon, ixD_t, ixD_r, ixD_d, setD_d, dDnew, itk_eq, itk_r, dDm, getD_r, ditD_r, dItI, iti_r, listK_r, sortedD_r, ixD_l, ixD_s, slD_t, slD_r, slD_s, setD_r, lenD_s, lenD_t, lenD_l, lenD_r, isiD_1, isiD_n, listD_t, listD_r, tupleD_t, tupleD_r, allD_r, anyD_r, sumD_r, maxD_r, maxD_2, minD_r, minD_2, absD_i, intB_i, intB_b, appD_r, startD, wipeD,
  List.map_cons, List.map_nil, rep_z, rep_s, List.length_cons, List.length_nil, List.cons_append, List.nil_append, List.append_nil, List.getElem?_cons_zero, List.getElem?_cons_succ, List.set_cons_zero, List.set_cons_succ, Option.some.injEq, exists_eq_left', exists_eq_left, D.bl.injEq, D.int.injEq, D.tup.injEq, D.ref.injEq, true_and, and_true, Nat.reduceAdd, Nat.reduceSub, Nat.add_sub_cancel_left, exists_const, br_t, br_f, eqR_int, eqR_bl, Bool.false_bne, Bool.true_bne, Bool.false_xor, Bool.true_xor, Bool.not_true, Bool.not_false, Bool.not_not, ite_true, ite_false, Bool.true_eq_false, false_implies, decide_true, decide_false, tc_int, tc_bool, tc_str, tc_tup, tc_lst, tc_non, tc_dic, ln0, ln1, ln2, ln3, ln4, ln5, ln6, ln7, ln8, ln9, ln10, ln11, ln12, ln13, ln14, ln15, ln16, ln17, ln18, ln19, ln20, ln21, ln22, ln23, ln24, ln25, ln26, ln27, ln28, ln29, ln30, ln31, ln32, ln33, ln34, ln35, ln36, ln37, ln38, ln39, ln40, ln41, ln42, ln43, ln44, ln45, ln46, ln47, ln48, ln49, ln50, ln51, ln52, ln53, ln54, ln55, ln56, ln57, ln58, ln59, ln60])
local macro_rules | `(tactic| walk_at "g") => `(tactic| try simp only [st_same, st_st, GO.lst.injEq, Option.some.injEq, exists_eq_left', exists_eq_left, atI_0, atI_1, atI_2, atI_3, ixN_0, ixN_1, ixN_2, ixN_3, List.set_cons_zero, List.set_cons_succ, List.length_cons, List.length_nil, List.length_append, List.cons_append, List.nil_append, true_and, and_true, seq_st])
/-! ## a cutting's cost -/
def rateR (rs : List (List Int)) (a b : Int) : Int := (rs.getD a.toNat []).getD b.toNat 0
def ratesD (rs : List (List Int)) : D := .tup (rs.map fun r => .tup (r.map .int))
structure RatesOk (rs : List (List Int)) : Prop where
  l : rs.length = 10
  r : ∀ r ∈ rs, r.length = 10 ∧ ∀ z ∈ r, 0 ≤ z ∧ z < 1000
def costFrom (rs : List (List Int)) (k : Int) : List Pc → Int
  | [] => rateR rs k 9
  | p :: r => rateR rs k p.kind + p.cost + costFrom rs p.kind r
theorem rates_at {rs : List (List Int)} (ok : RatesOk rs) {a : Int} (h0 : 0 ≤ a) (h9 : a ≤ 9) : atI (rs.map fun r => D.tup (r.map .int)) a = some (.tup ((rs.getD a.toNat []).map .int)) := by
  have hl : a.toNat < rs.length := by rw [ok.l]; omega
  rw [atI_of h0 (by rw [List.length_map, ok.l]; omega), List.getElem?_map, List.getD_eq_getElem?_getD, List.getElem?_eq_getElem hl]; rfl
theorem rate_at {rs : List (List Int)} (ok : RatesOk rs) {a b : Int} (h0 : 0 ≤ a) (h9 : a ≤ 9) (k0 : 0 ≤ b) (k9 : b ≤ 9) : atI ((rs.getD a.toNat []).map D.int) b = some (.int (rateR rs a b)) := by
  have hl : a.toNat < rs.length := by rw [ok.l]; omega
  have hm : rs.getD a.toNat [] ∈ rs := by rw [List.getD_eq_getElem?_getD, List.getElem?_eq_getElem hl]; exact List.getElem_mem hl
  have h10 := (ok.r _ hm).1
  have hb : b.toNat < (rs.getD a.toNat []).length := by omega
  rw [atI_of k0 (by rw [List.length_map]; omega), List.getElem?_map, rateR, List.getD_eq_getElem?_getD (l := rs.getD a.toNat []), List.getElem?_eq_getElem hb]; rfl
def sp_cutting_cost : DSp := fun ds G q _ => ∃ x y ps rs, ds = [x, ratesD rs, y] ∧ RatesOk rs ∧ Dd G y (.lst (ps.map Pc.d)) ∧ (∀ p ∈ ps, 0 ≤ p.kind ∧ p.kind < 9) ∧ q (.int (costFrom rs 9 ps)) G
def t_cutting_cost_b1 : TSd := dSeq (dAsg (dOp addD (dOp addD (dVar 3) (dOp ixD (dOp ixD (dVar 1) (dVar 4)) (dOp ixD (dVar 5) (dC (.int 2))))) (dOp ixD (dVar 5) (dC (.int 3)))) (dgName 3)) (dAsg (dOp ixD (dVar 5) (dC (.int 2))) (dgName 4))
def t_cutting_cost_r1 : TSd := dRet (dOp addD (dVar 3) (dOp ixD (dOp ixD (dVar 1) (dVar 4)) (dC (.int 9))))
def t_cutting_cost_s1 : TSd := dSeq (dFor (dItV (dVar 2)) (dgName 5) t_cutting_cost_b1) t_cutting_cost_r1
def N_cutting_cost : List Str := ["net", "rates", "cutting", "cost", "kind", "piece"]
def P_cutting_cost : List Str := ["net", "rates", "cutting"]
def t_cutting_cost : TSd := dSeq (dAsg (dC (.int 0)) (dgName 3)) (dSeq (dAsg (dC (.int 9)) (dgName 4)) t_cutting_cost_s1)
def gl_cutting_cost : List (Str × GI) := [("EDGE", .cst (.int 9))]
theorem len_cutting_cost : ∀ ds G q x, sp_cutting_cost ds G q x → ds.length = P_cutting_cost.length := by
  rintro _ _ _ _ ⟨x, y, ps, rs, rfl, _⟩; rfl
theorem b_cutting_cost : Body t_cutting_cost N_cutting_cost sp_cutting_cost := by
  rintro ds G q x ⟨x, y, ps, rs, rfl, ok, h, hk, hq⟩
  obtain ⟨a, xs, rfl, sq, hs⟩ := h.lst_inv
  rw [dds_pure hs (noLs_pcs ps)] at sq
  unfold t_cutting_cost N_cutting_cost t_cutting_cost_s1 ratesD
  walk_at "e"
  refine ⟨_, sq, ?_⟩
  refine ⟨fun i σ G2 => G2 = G ∧ ∃ (c k : Int) (o : Option D), σ = [some x, some (.tup (rs.map fun r => .tup (r.map .int))), some (.ref a), some (.int c), some (.int k), o] ∧ 0 ≤ k ∧ k ≤ 9 ∧ c + costFrom rs k (ps.drop i) = costFrom rs 9 ps, ⟨rfl, 0, 9, _, rfl, by decide, by decide, by simp⟩, fun i σ G2 hh => hh.1 ▸ sq, ?_, ?_⟩
  · rintro i z σ G2 ez ⟨rfl, c, k, o, rfl, k0, k9, hc⟩
    rw [List.getElem?_map] at ez
    obtain ⟨p, ep, rfl⟩ := Option.map_eq_some_iff.mp ez
    have hi2 : i < ps.length := (List.getElem?_eq_some_iff.mp ep).1
    have dr : ps.drop i = p :: ps.drop (i + 1) := by
      rw [List.drop_eq_getElem_cons hi2]; congr 1; exact (List.getElem?_eq_some_iff.mp ep).2
    have := hk p (List.mem_of_getElem? ep)
    unfold t_cutting_cost_b1 Pc.d
    walk_at "e"
    simp only [rates_at ok k0 k9, atI_2, atI_3, Option.some.injEq, exists_eq_left']
    walk_at "e"
    refine ⟨_, rate_at ok k0 k9 this.1 (by omega), ?_⟩
    walk_at "e"
    refine ⟨_, _, _, rfl, this.1, by omega, ?_⟩
    rw [dr] at hc; simp only [costFrom] at hc; omega
  · rintro σ G2 ⟨rfl, c, k, o, rfl, k0, k9, hc⟩
    unfold t_cutting_cost_r1
    rw [List.length_map, List.drop_length] at hc
    simp only [costFrom] at hc
    walk_at "e"
    simp only [rates_at ok k0 k9, Option.some.injEq, exists_eq_left']
    walk_at "e"
    refine ⟨_, rate_at ok k0 k9 (by decide) (by decide), ?_⟩
    walk_at "e"
    rw [hc]; exact hq
def sp__law_cutting_cost : DSp := fun ds G q _ => ∃ y ps rs, ds = [ratesD rs, y] ∧ RatesOk rs ∧ Dd G y (.lst (ps.map Pc.d)) ∧ ps.length ≤ 1000 ∧ (∀ p ∈ ps, 0 ≤ p.kind ∧ p.kind < 9) ∧ ∀ G', Ext G G' → q (.int (costFrom rs 9 ps)) G'
def N__law_cutting_cost : List Str := ["_law_rates_here", "_law_cutting_here", "_law_kinds", "_law_piece", "_law_a", "_law_b"]
def P__law_cutting_cost : List Str := ["_law_rates_here", "_law_cutting_here"]
def t__law_cutting_cost : TSd := dSeq (dAsg (dOp addD (dOp addD (dLst (dCons (dC (.int 9)) (dNil))) (dLc (dItV (dVar 1)) (dgName 3) dYes (dOp ixD (dVar 3) (dC (.int 2))) [3])) (dLst (dCons (dC (.int 9)) (dNil)))) (dgName 2)) (dRet (dOp addD (dBi (BI.r .sum) (dCons (dLc (dItV (dVar 1)) (dgName 3) dYes (dOp ixD (dVar 3) (dC (.int 3))) [3]) (dNil))) (dBi (BI.r .sum) (dCons (dLc (dWalk zipR (dCons (dVar 2) (dCons (dSl (dVar 2) (dPart (dC (.int 1))) dNoPart) (dNil)))) (dgTup 2 (dgCons (dgName 4) (dgCons (dgName 5) (dgNil)))) dYes (dOp ixD (dOp ixD (dVar 0) (dVar 4)) (dVar 5)) [4, 5]) (dNil)))))
def gl__law_cutting_cost : List (Str × GI) := [("sum", .bi .sum), ("zip", .zip)]
theorem len__law_cutting_cost : ∀ ds G q x, sp__law_cutting_cost ds G q x → ds.length = P__law_cutting_cost.length := by
  rintro _ _ _ _ ⟨y, ps, rs, rfl, _⟩; rfl
theorem zip_ints : ∀ (xs ys : List Int), zipL (xs.map D.int) (ys.map D.int) = (xs.zip ys).map fun p : Int × Int => D.tup [.int p.1, .int p.2]
  | [], _ => rfl
  | x :: xs, [] => rfl
  | x :: xs, y :: ys => by
    have := zip_ints xs ys
    unfold zipL at this ⊢
    simp only [List.map_cons, List.zip_cons_cons, this]
theorem cost_sum {rs : List (List Int)} : ∀ (ps : List Pc) (k : Int), (ps.map Pc.cost).sum + (((k :: ps.map Pc.kind ++ [9]).zip (ps.map Pc.kind ++ [9])).map fun p : Int × Int => rateR rs p.1 p.2).sum = costFrom rs k ps
  | [], k => by simp [costFrom]
  | p :: ps, k => by
    have := cost_sum (rs := rs) ps p.kind
    simp only [List.map_cons, List.cons_append, List.zip_cons_cons, List.sum_cons, costFrom] at this ⊢
    omega
def pcKind : D → D
  | .tup [_, _, k, _] => k
  | _ => .non
def pcCost : D → D
  | .tup [_, _, _, k] => k
  | _ => .non
def pairRate (rs : List (List Int)) : D → D
  | .tup [.int a, .int b] => .int (rateR rs a b)
  | _ => .non
theorem b__law_cutting_cost : Body t__law_cutting_cost N__law_cutting_cost sp__law_cutting_cost := by
  rintro ds G q x ⟨y, ps, rs, rfl, ok, h, hl, hk, hq⟩
  obtain ⟨a, xs, rfl, sq, hs⟩ := h.lst_inv
  rw [dds_pure hs (noLs_pcs ps)] at sq
  unfold t__law_cutting_cost N__law_cutting_cost ratesD
  walk_at "e"
  intro p1 hp1
  generalize ep1 : st G p1 _ = G1
  obtain ⟨xp1, kp1⟩ := nu hp1 ep1
  refine ⟨_, xp1.seq (by simp) sq, ?_⟩
  refine lcR_val pcKind (by simp; omega) (fun G' xt => (xp1.trans xt).seq (by simp) sq) (fun x hx G' Q' xt kk => ?_) fun p2 G2 hp2 x2 e2 => ?_
  · obtain ⟨p, hp, rfl⟩ := List.mem_map.mp hx
    have kk := kk _ .refl
    unfold Pc.d pcKind at kk
    unfold Pc.d
    walk_at "e"
    simp only [atI_2, Option.some.injEq, exists_eq_left']
    exact kk
  have ek : (ps.map Pc.d).map pcKind = (ps.map Pc.kind).map D.int := by rw [List.map_map, List.map_map]; rfl
  rw [ek] at e2
  refine ⟨_, x2.at kp1, _, e2, line_of (by simp; omega), ?_⟩
  intro p3 hp3
  generalize ep3 : st G2 p3 _ = G3
  obtain ⟨xp3, kp3⟩ := nu hp3 ep3
  intro p4 hp4
  generalize ep4 : st G3 p4 _ = G4
  obtain ⟨xp4, kp4⟩ := nu hp4 ep4
  refine ⟨_, xp4.at kp3, _, kp4, line_of (by simp; omega), ?_⟩
  intro p5 hp5
  generalize ep5 : st G4 p5 _ = G5
  obtain ⟨xp5, kp5⟩ := nu hp5 ep5
  have x15 : Ext G G5 := (((xp1.trans x2).trans xp3).trans xp4).trans xp5
  refine ⟨_, x15.seq (by simp) sq, ?_⟩
  refine lcR_val pcCost (by simp; omega) (fun G' xt => (x15.trans xt).seq (by simp) sq) (fun x hx G' Q' xt kk => ?_) fun p6 G6 hp6 x6 e6 => ?_
  · obtain ⟨p, hp, rfl⟩ := List.mem_map.mp hx
    have kk := kk _ .refl
    unfold Pc.d pcCost at kk
    unfold Pc.d
    walk_at "e"
    simp only [atI_3, Option.some.injEq, exists_eq_left']
    exact kk
  have ec : (ps.map Pc.d).map pcCost = (ps.map Pc.cost).map D.int := by rw [List.map_map, List.map_map]; rfl
  rw [ec] at e6
  walk_at "e"
  refine ⟨_, .inl e6, ?_⟩
  have k5 : G6 p5 = some (.lst ((9 :: ps.map Pc.kind ++ [9]).map D.int)) := by
    have := x6.at kp5
    simpa using this
  refine ⟨_, .inl k5, ?_⟩
  intro p7 hp7
  generalize ep7 : st G6 p7 _ = G7
  obtain ⟨xp7, kp7⟩ := nu hp7 ep7
  have k7 : G7 p7 = some (.lst ((ps.map Pc.kind ++ [9]).map D.int)) := by
    rw [kp7, cut_from (by decide)]; rfl
  refine ⟨_, .inl (xp7.at k5), _, .inl k7, ?_⟩
  rw [zip_ints]
  refine lcR_val (pairRate rs) (by simp; omega) (fun G' xt => ⟨.inl (xt.at (xp7.at k5)), .inl (xt.at k7)⟩) (fun x hx G' Q' xt kk => ?_) fun p8 G8 hp8 x8 e8 => ?_
  · obtain ⟨p, hp, rfl⟩ := List.mem_map.mp hx
    have kk := kk _ .refl
    unfold pairRate at kk
    have al : ∀ z ∈ 9 :: ps.map Pc.kind ++ [9], 0 ≤ z ∧ z ≤ 9 := fun z hz => by
      simp only [List.cons_append, List.mem_cons, List.mem_append, List.mem_map, List.not_mem_nil, or_false] at hz
      rcases hz with rfl | ⟨p, hp, rfl⟩ | rfl
      · omega
      · have := hk p hp; omega
      · omega
    have m1 := al _ (List.of_mem_zip hp).1
    have m2 := al _ (List.mem_cons_of_mem _ (List.of_mem_zip hp).2)
    walk_at "e"
    simp only [rates_at ok m1.1 m1.2, Option.some.injEq, exists_eq_left']
    walk_at "e"
    exact ⟨_, rate_at ok m1.1 m1.2 m2.1 m2.2, kk⟩
  have er : (((9 :: ps.map Pc.kind ++ [9]).zip (ps.map Pc.kind ++ [9])).map fun p : Int × Int => D.tup [.int p.1, .int p.2]).map (pairRate rs) = (((9 :: ps.map Pc.kind ++ [9]).zip (ps.map Pc.kind ++ [9])).map fun p : Int × Int => rateR rs p.1 p.2).map D.int := by
    rw [List.map_map, List.map_map]; rfl
  rw [er] at e8
  walk_at "e"
  refine ⟨_, .inl e8, ?_⟩
  walk_at "e"
  have cs := cost_sum (rs := rs) ps 9
  rw [List.cons_append] at cs
  rw [cs]
  exact hq G8 (((x15.trans x6).trans xp7).trans x8)
/-! ## a drawn cutting -/
theorem atI_end {xs : List D} {y : D} : atI (xs ++ [y]) (-1) = some y := by
  unfold atI ixN
  rw [if_neg (by decide), if_pos (by rw [List.length_append, List.length_cons, List.length_nil]; omega)]
  have : ((-1 : Int) + (xs ++ [y]).length).toNat = xs.length := by rw [List.length_append, List.length_cons, List.length_nil]; omega
  rw [Option.bind_some, this]; simp
def sp__law_cutting : DSp := fun ds G q _ => ∃ b x N, ds = [.ref b, x] ∧ Bag G b ∧ Dv [b] G x (netD N) ∧ N.length ≤ 30 ∧ NetOk N.length 0 N ∧ (∀ ps ∈ N, ps ≠ []) ∧
  ∀ p (ps : List Pc) G', G p = none → Xt [b] G G' → Bag G' b → G' p = some (.lst (ps.map Pc.d)) → ps.length ≤ N.length → (∀ c ∈ ps, ∃ i : Int, 0 ≤ i ∧ c.In i N.length) → q (.ref p) G'
def t__law_cutting_b1 : TSd := dIf (dB (dOp ltD (dVar 3) (dBi (BI.r .len) (dCons (dVar 1) (dNil))))) (dSeq (dDrop (dBm "list" appendD (dVar 2) (dCons (dOp ixD (dOp ixD (dVar 1) (dVar 3)) (dCall sp__law_take (dCons (dVar 0) (dCons (dBi (BI.r .len) (dCons (dOp ixD (dVar 1) (dVar 3)) (dNil))) (dNil))))) (dNil)))) (dAsg (dOp ixD (dOp ixD (dVar 2) (dUn negD (dC (.int 1)))) (dC (.int 0))) (dgName 3))) (dNext)
def t__law_cutting_s1 : TSd := dSeq (dFor (dRng rng1 (dCons (dBi (BI.r .len) (dCons (dVar 1) (dNil))) (dNil))) (dgName 4) t__law_cutting_b1) (dRet (dVar 2))
def N__law_cutting : List Str := ["_law_bag_here", "_law_net_here", "_law_cutting_here", "_law_place", "_law_turn"]
def P__law_cutting : List Str := ["_law_bag_here", "_law_net_here"]
def t__law_cutting : TSd := dSeq (dAsg (dLst (dNil)) (dgName 2)) (dSeq (dAsg (dC (.int 0)) (dgName 3)) t__law_cutting_s1)
def gl__law_cutting : List (Str × GI) := [("range", .rng), ("len", .bi .len), ("_law_take", .fn sp__law_take)]
theorem len__law_cutting : ∀ ds G q x, sp__law_cutting ds G q x → ds.length = P__law_cutting.length := by
  rintro _ _ _ _ ⟨b, x, N, rfl, _⟩; rfl
section
variable {w : Wx} {E : En} {G : Hd} {b pc : Addr} {x : D} {N : List (List Pc)} {ps : List Pc} {p : Int} {o : Option D}
theorem law_cutting_b1 (bag : Bag G b) (h : Dv [b] G x (netD N)) (l30 : N.length ≤ 30) (ok : NetOk N.length 0 N) (ne : ∀ ps ∈ N, ps ≠ []) (nb : pc ∉ [b]) (e : G pc = some (.lst (ps.map Pc.d))) (p0 : 0 ≤ p) (lp : ps.length ≤ 1000) (nx : ∀ a, x = .ref a → a ≠ pc)
    (h0 : E.nx [some (.ref b), some x, some (.ref pc), some (.int p), o] G)
    (h1 : ∀ G' (c : Pc), Xt [b, pc] G G' → Bag G' b → G' pc = some (.lst ((ps ++ [c]).map Pc.d)) → c.In p N.length → E.nx [some (.ref b), some x, some (.ref pc), some (.int c.at_), o] G') :
    t__law_cutting_b1 w E [some (.ref b), some x, some (.ref pc), some (.int p), o] G := by
  obtain ⟨a, rs, rfl, na, sq, lr, hd, hps⟩ := netD_at h
  unfold t__law_cutting_b1
  walk_at "e"
  refine ⟨_, .inl ⟨rs, sq, rfl⟩, ?_⟩
  walk_at "e"
  rw [lr]
  refine ⟨fun e1 => ?_, fun _ => h0⟩
  have hlt : p < N.length := by simpa using e1
  have eps := net_get p0 hlt
  obtain ⟨ai, eai, nai, sai⟩ := hps _ _ eps
  have hps0 : 0 < (N.getD p.toNat []).length := by
    have := ne _ (List.mem_of_getElem? eps)
    cases h : N.getD p.toNat [] with
    | nil => exact absurd h this
    | cons => simp
  obtain ⟨l150, inn⟩ := ok _ _ eps
  have eat : atI rs p = some (.ref ai) := by rw [atI_of p0 (by omega)]; exact eai
  refine ⟨tyD_l (.inl e), rs, sq, _, eat, rs, sq, _, eat, ?_⟩
  walk_at "e"
  refine ⟨_, .inl ⟨_, sai, rfl⟩, takes_here bag (by simpa using hps0) (by rw [List.length_map]; omega) fun r G1 r0 r1 x1 bag1 => ?_⟩
  rw [List.length_map] at r1
  walk_at "e"
  obtain ⟨c, ec⟩ : ∃ c, (N.getD p.toNat [])[r.toNat]? = some c := ⟨_, List.getElem?_eq_getElem (by omega)⟩
  refine ⟨_, x1.seq nai sai, c.d, by rw [atI_of r0 (by simpa using r1), List.getElem?_map, ec]; rfl, ?_⟩
  walk_at "e"
  refine ⟨_, x1.get nb e, line_lt (by simp; omega), ?_⟩
  generalize ep2 : st G1 pc _ = G2
  obtain ⟨xp2, kp2⟩ := put ep2
  refine ⟨_, .inl kp2, _, atI_end, ?_⟩
  have cin : c.In p N.length := by
    have := inn c (List.mem_of_getElem? ec)
    have e2 : (0 : Int) + (p.toNat : Nat) = p := by omega
    rw [← e2]; exact this
  have nx := h1 G2 c ((x1.weak (by simp)).trans (xp2.weak (by simp))) (bag1.xt xp2 (fun m => nb (by simp at m ⊢; exact m.symm))) (by rw [kp2, List.map_append]; rfl) cin
  unfold Pc.d at nx ⊢
  walk_at "e"
  simp only [atI_0, Option.some.injEq, exists_eq_left']
  exact nx
end
theorem b__law_cutting : Body t__law_cutting N__law_cutting sp__law_cutting := by
  rintro ds G q x ⟨b, x, N, rfl, bag, h, l30, ok, ne, hq⟩
  obtain ⟨a, rs, rfl, na, sq, lr, hd, hps⟩ := netD_at h
  unfold t__law_cutting N__law_cutting t__law_cutting_s1
  walk_at "e"
  intro pc hpc
  generalize epc : st G pc _ = G1
  obtain ⟨xpc, kpc⟩ := nu hpc epc
  have nb : pc ∉ [b] := fresh_b bag hpc
  refine ⟨_, .inl ⟨rs, xpc.seq (by simp) sq, rfl⟩, ?_⟩
  walk_at "e"
  refine ⟨by omega, ?_⟩
  have nac : a ≠ pc := fun z => by
    subst z
    rcases sq with e | e <;> (rw [hpc] at e; cases e)
  rw [lr]
  refine ⟨fun i σ G3 => i ≤ N.length ∧ Xt [b] G G3 ∧ Bag G3 b ∧ ∃ (p : Int) (ps : List Pc) (o : Option D), σ = [some (.ref b), some (.ref a), some (.ref pc), some (.int p), o] ∧ 0 ≤ p ∧ G3 pc = some (.lst (ps.map Pc.d)) ∧ ps.length ≤ i ∧ ∀ c ∈ ps, ∃ i : Int, 0 ≤ i ∧ c.In i N.length,
    ⟨by omega, xpc.ext, bag.ext xpc, 0, [], _, rfl, by decide, kpc, by simp, by simp⟩, fun _ _ _ _ => trivial, ?_, ?_⟩
  · rintro i y σ G3 ey ⟨hi, x3, bag3, p, ps, o, rfl, p0, e3, l3, al⟩
    obtain ⟨h1, rfl⟩ := rngL_some0 ey
    walk_at "e"
    refine law_cutting_b1 bag3 (h.xt x3) l30 ok ne nb e3 p0 (by omega) (fun a' e => by cases e; exact nac) ⟨by omega, x3, bag3, p, ps, _, rfl, p0, e3, by omega, al⟩ fun G' c x4 bg e4 cin => ⟨by omega, ?_, bg, c.at_, _, _, rfl, by have := cin.lo; omega, e4, by simp; omega, fun d hd => ?_⟩
    · intro a' u na' ea
      refine x4 a' u (fun m => ?_) (x3 a' u na' ea)
      rcases List.mem_cons.mp m with rfl | m
      · exact na' (by simp)
      · rw [List.mem_singleton.mp m, hpc] at ea; cases ea
    · rcases List.mem_append.mp hd with hd | hd
      · exact al d hd
      · rw [List.mem_singleton.mp hd]; exact ⟨p, p0, cin⟩
  · rintro σ G3 ⟨hi, x3, bag3, p, ps, o, rfl, p0, e3, l3, al⟩
    walk_at "e"
    exact hq pc ps G3 hpc x3 bag3 e3 (by simp [rngL] at l3; omega) al

end S

set_option Elab.async false
set_option linter.all false
set_option maxRecDepth 100000
set_option maxHeartbeats 4000000
namespace S
open PySem PySem.Spec L2
open PyProof.Rows hiding St
local macro_rules | `(tactic| walk_at "e") => `(tactic| try simp only [dSeq, dNext, dRet, dRetN, dIf, dAsg, dAug, dDrop, par_eq, prs_2, dBreak, dCont, dgName, dgSub, gTup_t, gCons_c, gNil_n, dFor_eq, dLc_eq, dVar, dC, dOp, dUn, dBi, dCall, dCons, dNil, dTup, dLst, dSl, part_eq, prt_i, dNoPart, dAndV, dOrV, dNotV, dB, dAnd, dOr, dNot, dIfE, dChain, itv_eq, itv_t, itv_r, dRng, dWalk, dBm, rng1_i, rng2_i, rng3_i, enumR_r, zipR_r,
  BI.r, addD_i, addD_s, addD_t, addD_r, subD_i, mulD_i, mulD_r, mulD_t, modD_i, divD_i, powD_i, ltD_i, leD_i, gtD_i, geD_i, incD_i, negD_i, lr1_i, lr2_i, revD_r, isND_n, isNon, ixD_t, ixD_r, ixD_d, setD_d, dDnew, itk_eq, itk_r, dDm, getD_r, ditD_r, dItI, iti_r, listK_r, sortedD_r, ixD_l, ixD_s, slD_t, slD_r, slD_s, setD_r, lenD_s, lenD_t, lenD_l, lenD_r, isiD_1, isiD_n, listD_t, listD_r, tupleD_t, tupleD_r, allD_r, anyD_r, sumD_r, maxD_r, maxD_2, minD_r, minD_2, absD_i, intB_i, intB_b, appD_r, startD, wipeD,
  List.map_cons, List.map_nil, rep_z, rep_s, List.length_cons, List.length_nil, List.cons_append, List.nil_append, List.append_nil, List.getElem?_cons_zero, List.getElem?_cons_succ, List.set_cons_zero, List.set_cons_succ, Option.some.injEq, exists_eq_left', exists_eq_left, D.bl.injEq, D.int.injEq, D.tup.injEq, D.ref.injEq, true_and, and_true, Nat.reduceAdd, Nat.reduceSub, Nat.add_sub_cancel_left, exists_const, br_t, br_f, eqR_int, eqR_bl, Bool.false_bne, Bool.true_bne, Bool.false_xor, Bool.true_xor, Bool.not_true, Bool.not_false, Bool.not_not, ite_true, ite_false, Bool.true_eq_false, false_implies, decide_true, decide_false, tc_int, tc_bool, tc_str, tc_tup, tc_lst, tc_non, tc_dic, ln0, ln1, ln2, ln3, ln4, ln5, ln6, ln7, ln8, ln9, ln10, ln11, ln12, ln13, ln14, ln15, ln16, ln17, ln18, ln19, ln20, ln21, ln22, ln23, ln24, ln25, ln26, ln27, ln28, ln29, ln30, ln31, ln32, ln33, ln34, ln35, ln36, ln37, ln38, ln39, ln40, ln41, ln42, ln43, ln44, ln45, ln46, ln47, ln48, ln49, ln50, ln51, ln52, ln53, ln54, ln55, ln56, ln57, ln58, ln59, ln60])
local macro_rules | `(tactic| walk_at "g") => `(tactic| try simp only [st_same, st_st, GO.lst.injEq, Option.some.injEq, exists_eq_left', exists_eq_left, atI_0, atI_1, atI_2, atI_3, ixN_0, ixN_1, ixN_2, ixN_3, List.set_cons_zero, List.set_cons_succ, List.length_cons, List.length_nil, List.length_append, List.cons_append, List.nil_append, true_and, and_true, seq_st])
/-! ## a chained net -/
def sp__law_chained : DSp := fun ds G q _ => ∃ x N bs, ds = [x] ∧ Dv bs G x (netD N) ∧ (∀ c ∈ bs, G c ≠ none) ∧ N.length ≤ 24 ∧ NetOk N.length 0 N ∧
  ∀ r N' G', N'.length = N.length → NetOk N'.length 0 N' → (∀ ps ∈ N', ps ≠ []) → Ext G G' → Dv bs G' r (netD N') → q r G'
def t__law_chained_b1 : TSd := dSeq (dAsg (dLc (dItV (dSl (dVar 3) dNoPart (dPart (dC (.int 149))))) (dgName 5) (dB (dOp (eqR true) (dSl (dVar 5) dNoPart (dPart (dC (.int 3)))) (dTup (dCons (dOp addD (dVar 2) (dC (.int 1))) (dCons (dTup (dCons (dC (.int 1039)) (dNil))) (dCons (dC (.int 8)) (dNil))))))) (dVar 5) [5]) (dgName 4)) (dDrop (dBm "list" appendD (dVar 1) (dCons (dBi (BI.r .sorted) (dCons (dOp addD (dVar 4) (dLst (dCons (dTup (dCons (dOp addD (dVar 2) (dC (.int 1))) (dCons (dTup (dCons (dC (.int 1039)) (dNil))) (dCons (dC (.int 8)) (dCons (dVar 2) (dNil)))))) (dNil)))) (dNil))) (dNil))))
def t__law_chained_s1 : TSd := dSeq (dFor (dWalk enumR (dCons (dVar 0) (dNil))) (dgTup 2 (dgCons (dgName 2) (dgCons (dgName 3) (dgNil)))) t__law_chained_b1) (dRet (dVar 1))
def N__law_chained : List Str := ["_law_net_here", "_law_found", "_law_k", "_law_pieces", "_law_some", "_law_piece"]
def P__law_chained : List Str := ["_law_net_here"]
def t__law_chained : TSd := dSeq (dAsg (dLst (dNil)) (dgName 1)) t__law_chained_s1
def gl__law_chained : List (Str × GI) := [("enumerate", .enum), ("sorted", .bi .sorted)]
theorem len__law_chained : ∀ ds G q x, sp__law_chained ds G q x → ds.length = P__law_chained.length := by
  rintro _ _ _ _ ⟨x, N, bs, rfl, _⟩; rfl
section
variable {w : Wx} {E : En} {G : Hd} {x : D} {pf ai : Addr} {rs : List D} {ps : List Pc} {i n : Nat} {o4 o5 : Option D}
theorem chained_b1 (nf : ai ≠ pf) (hi : i < n) (hn : n ≤ 24) (l150 : ps.length ≤ 150) (inn : ∀ p ∈ ps, p.In i n) (sai : seqG G ai (ps.map Pc.d)) (ef : G pf = some (.lst rs)) (lr : rs.length ≤ 1000)
    (hq : ∀ G' o4 o5 p' (qs : List Pc), Xt [pf] G G' → G p' = none → G' p' = some (.lst (qs.map Pc.d)) → qs ≠ [] → qs.length ≤ 150 → (∀ p ∈ qs, p.In i n) → G' pf = some (.lst (rs ++ [.ref p'])) → E.nx [some x, some (.ref pf), some (.int i), some (.ref ai), o4, o5] G') :
    t__law_chained_b1 w E [some x, some (.ref pf), some (.int i), some (.ref ai), o4, o5] G := by
  unfold t__law_chained_b1
  walk_at "e"
  refine ⟨_, sai, ?_⟩
  intro p1 hp1
  generalize ep1 : st G p1 _ = G1
  obtain ⟨xp1, kp1⟩ := nu hp1 ep1
  refine ⟨_, .inl kp1, ?_⟩
  have lc : (cut (ps.map Pc.d) none (some 149)).length ≤ 149 := by
    rw [cut_to (by decide), List.length_take]
    have h149 : Int.toNat 149 = 149 := rfl
    omega
  refine lcR_flt (fun y => ∃ p ∈ ps, y = p.d) (by omega) (fun G' xt => .inl (xt.at kp1)) (fun j y ey G' Q' Z xt k1 k2 => ?_) fun p2 G2 ys hp2 x2 e2 ly hys => ?_
  · obtain ⟨p, hp, rfl⟩ := List.mem_map.mp (cut_sub (List.mem_of_getElem? ey))
    have k1 := k1 p.d G' .refl ⟨p, hp, rfl⟩
    have k2 := k2 G' .refl
    have pu : Pu 1 (.tup (p.signs.map .int)) := pu_ints (by have := (inn p hp).l24; omega)
    have pk : Pu 2 (.tup [.int p.at_, .tup (p.signs.map .int), .int p.kind]) := pu_tup (by simp) fun y hy => by
      simp only [List.mem_cons, List.not_mem_nil, or_false] at hy
      rcases hy with rfl | rfl | rfl
      · exact pu_int
      · exact pu
      · exact pu_int
    have pm : Pu 2 (.tup [.int ((i : Int) + 1), .tup [.int 1039], .int 8]) := pu_tup (by simp) fun y hy => by
      simp only [List.mem_cons, List.not_mem_nil, or_false] at hy
      rcases hy with rfl | rfl | rfl
      · exact pu_int
      · exact pu_tup (by simp) fun y hy => by rw [List.mem_singleton.mp hy]; exact pu_int
      · exact pu_int
    have e3 : cut [D.int p.at_, .tup (p.signs.map .int), .int p.kind, .int p.cost] none (some 3) = [.int p.at_, .tup (p.signs.map .int), .int p.kind] := rfl
    unfold Pc.d at k1 ⊢
    walk_at "e"
    rw [e3]
    refine eqR_of (pk.1 _) (pm.1 _) pk.2 pm.2 (by decide) ?_
    walk_at "e"
    exact ⟨fun _ => k1, fun _ => k2⟩
  walk_at "e"
  obtain ⟨qs, rfl, hqs⟩ : ∃ qs : List Pc, ys = qs.map Pc.d ∧ ∀ q ∈ qs, q.In i n := by
    refine vals_of (f := Pc.d) (P := fun q => q.In i n) fun j y e => ?_
    obtain ⟨p, hp, rfl⟩ := hys y (List.mem_of_getElem? e)
    exact ⟨p, rfl, inn p hp⟩
  rw [List.length_map] at ly
  have ef2 : G2 pf = some (.lst rs) := x2.at (xp1.at ef)
  refine ⟨tyD_l (.inl ef2), ?_⟩
  intro p3 hp3
  generalize ep3 : st G2 p3 _ = G3
  obtain ⟨xp3, kp3⟩ := nu hp3 ep3
  refine ⟨_, xp3.at e2, _, kp3, line_of (by simp; omega), ?_⟩
  intro p4 hp4
  generalize ep4 : st G3 p4 _ = G4
  obtain ⟨xp4, kp4⟩ := nu hp4 ep4
  have new : (Pc.mk (i + 1) [1039] 8 i).In i n := ⟨by show (i : Int) < i + 1; omega, by show (i : Int) + 1 ≤ n; omega, by simp, by simp, fun z hz => by rw [List.mem_singleton.mp hz]; decide, ⟨show (0 : Int) ≤ 8 by decide, show (8 : Int) < 9 by decide⟩, ⟨by show (0 : Int) ≤ i; omega, by show (i : Int) < 100000; omega⟩⟩
  have e4 : qs.map Pc.d ++ [D.tup [.int ((i : Int) + 1), .tup [.int 1039], .int 8, .int i]] = (qs ++ [Pc.mk (i + 1) [1039] 8 i]).map Pc.d := by rw [List.map_append]; rfl
  rw [e4] at kp4
  refine ⟨_, .inl kp4, pcs_srt (by simp; omega), ?_⟩
  intro p5 hp5
  generalize ep5 : st G4 p5 _ = G5
  obtain ⟨xp5, kp5⟩ := nu hp5 ep5
  have x05 : Ext G G5 := (((xp1.trans x2).trans xp3).trans xp4).trans xp5
  refine ⟨rs, x05.at ef, line_lt (by omega), ?_⟩
  generalize ep6 : st G5 pf _ = G6
  obtain ⟨xp6, kp6⟩ := put ep6
  obtain ⟨us, eus, hus⟩ : ∃ us : List Pc, srt ((qs ++ [Pc.mk (i + 1) [1039] 8 i]).map Pc.d) = us.map Pc.d ∧ ∀ q ∈ us, q.In i n := by
    refine vals_of (f := Pc.d) (P := fun q => q.In i n) fun j y e => ?_
    have := srt_mem.mp (List.mem_of_getElem? e)
    obtain ⟨q, hq, rfl⟩ := List.mem_map.mp this
    refine ⟨q, rfl, ?_⟩
    rcases List.mem_append.mp hq with hq | hq
    · exact hqs q hq
    · rw [List.mem_singleton.mp hq]; exact new
  have lus : us.length = qs.length + 1 := by
    have := congrArg List.length eus
    rw [srt_len] at this; simpa using this.symm
  rw [eus] at kp5
  have n5 : p5 ≠ pf := fun z => by
    rw [z] at hp5
    have := (((xp1.trans x2).trans xp3).trans xp4).at ef
    rw [hp5] at this; cases this
  exact hq G6 _ _ p5 us (x05.ext.trans xp6) ((((xp1.trans x2).trans xp3).trans xp4).none hp5) (xp6.get (by simpa using n5) kp5) (by rintro rfl; simp at lus) (by omega) hus kp6
end
theorem b__law_chained : Body t__law_chained N__law_chained sp__law_chained := by
  rintro ds G q x ⟨x, N, bs, rfl, h, ha, l24, ok, hq⟩
  obtain ⟨a, rs, rfl, na, sq, lr, hd, hps⟩ := netD_at h
  unfold t__law_chained N__law_chained t__law_chained_s1
  walk_at "e"
  intro pf hpf
  generalize epf : st G pf _ = G1
  obtain ⟨xpf, kpf⟩ := nu hpf epf
  have nf : pf ∉ bs := fun m => ha pf m hpf
  have nac : ∀ {a xs}, seqG G a xs → a ≠ pf := fun sq z => by
    subst z
    rcases sq with e | e <;> (rw [hpf] at e; cases e)
  refine ⟨rs, xpf.seq (by simp) sq, ?_⟩
  refine ⟨fun i σ G3 => i ≤ rs.length ∧ Ext G G3 ∧ ∃ (fs : List D) (M : List (List Pc)) (o2 o3 o4 o5 : Option D), σ = [some (.ref a), some (.ref pf), o2, o3, o4, o5] ∧ G3 pf = some (.lst fs) ∧ Dvs (pf :: bs) G3 fs (M.map fun ps => .lst (ps.map Pc.d)) ∧ M.length = i ∧ NetOk N.length 0 M ∧ ∀ ps ∈ M, ps ≠ [],
    ⟨by omega, xpf, [], [], _, _, _, _, rfl, kpf, .nil, rfl, fun j ps e => by simp at e, by simp⟩, fun i σ G3 hh => hh.2.1.seq (by simp) sq, ?_, ?_⟩
  · rintro i y σ G3 ey ⟨hi, x3, fs, M, o2, o3, o4, o5, rfl, e3, d3, lM, okM, ne⟩
    obtain ⟨z, ez, rfl⟩ := enumL_get ey
    have hi2 : i < N.length := by have := (List.getElem?_eq_some_iff.mp ez).1; omega
    obtain ⟨ps, eps⟩ : ∃ ps, N[i]? = some ps := ⟨N[i], List.getElem?_eq_getElem hi2⟩
    obtain ⟨ai, eai, nai, sai⟩ := hps i ps eps
    rw [ez] at eai
    cases eai
    obtain ⟨l150, inn⟩ := ok i ps eps
    have lf : fs.length = i := by have := Dds.length d3; rw [List.length_map] at this; omega
    walk_at "e"
    refine chained_b1 (n := N.length) (nac sai) hi2 l24 l150 (fun p hp => by simpa using inn p hp) (x3.seq (by simp) sai) e3 (by omega) fun G' o4 o5 p' qs x4 hp' ep' nq lq inq ef' => ⟨by omega, ?_, fs ++ [.ref p'], M ++ [qs], _, _, o4, o5, rfl, ef', ?_, by simp [lM], ?_, ?_⟩
    · intro a' u na' ea
      refine x4 a' u (fun m => ?_) (x3 a' u na' ea)
      rw [List.mem_singleton.mp m, hpf] at ea; cases ea
    · rw [List.map_append]
      refine (Dvs.xt (x4.weak (by simp)) d3).append (.cons (Dv.lstI (fun m => ?_) ep' (pcs_dds qs)) .nil)
      rcases List.mem_cons.mp m with rfl | m
      · rw [e3] at hp'; cases hp'
      · exact ha p' m (x3.none hp')
    · exact okM.add lq (by rw [lM]; exact inq)
    · intro ps hps
      rcases List.mem_append.mp hps with h | h
      · exact ne ps h
      · rw [List.mem_singleton.mp h]; exact nq
  · rintro σ G3 ⟨hi, x3, fs, M, o2, o3, o4, o5, rfl, e3, d3, lM, okM, ne⟩
    walk_at "e"
    have lM' : M.length = N.length := by rw [lM, ← lr]; simp [enumL]
    exact hq _ M G3 lM' (by rw [lM']; exact okM) ne x3 (Dv.lstI nf e3 (Dvs.sub d3 fun _ => List.mem_cons_of_mem _))
/-! ## with a truth -/
def sp__law_true : DSp := fun ds G q _ => ∃ (b ac : Addr) (ps : List Pc), ds = [.ref b, .ref ac] ∧ Bag G b ∧ ac ≠ b ∧ G ac = some (.lst (ps.map Pc.d)) ∧ ps.length ≤ 100 ∧ (∀ p ∈ ps, p.signs.length ≤ 24) ∧
  ∀ r (ys : List D) G', G r = none → G' r = some (.lst ys) → Xt [b] G G' → Bag G' b → ys.length ≤ 300 → (∀ y ∈ ys, Pu 2 y) → q (.ref r) G'
def t__law_true_r1 : TSd := dSeq (dAsg (dCall sp__law_take (dCons (dVar 0) (dCons (dBi (BI.r .len) (dCons (dVar 1) (dNil))) (dNil)))) (dgName 2)) (dSeq (dAsg (dOp ixD (dLst (dCons (dC (.int 0)) (dCons (dC (.int 2)) (dCons (dC (.int 3)) (dNil))))) (dCall sp__law_take (dCons (dVar 0) (dCons (dC (.int 3)) (dNil))))) (dgName 3)) (dSeq (dAsg (dOp ixD (dVar 1) (dVar 2)) (dgName 4)) (dRet (dOp addD (dOp addD (dSl (dVar 1) dNoPart (dPart (dVar 2))) (dLst (dCons (dOp addD (dOp addD (dSl (dVar 4) dNoPart (dPart (dVar 3))) (dTup (dCons (dOp (eqR false) (dOp ixD (dVar 4) (dVar 3)) (dC (.int 1))) (dNil)))) (dSl (dVar 4) (dPart (dOp addD (dVar 3) (dC (.int 1)))) dNoPart)) (dNil)))) (dSl (dVar 1) (dPart (dOp addD (dVar 2) (dC (.int 1)))) dNoPart)))))
def N__law_true : List Str := ["_law_bag_here", "_law_cutting_here", "_law_at", "_law_place", "_law_piece"]
def P__law_true : List Str := ["_law_bag_here", "_law_cutting_here"]
def t__law_true : TSd := dSeq (dIf (dB (dOp (eqR false) (dVar 1) (dLst (dNil)))) (dRet (dLst (dCons (dTup (dNil)) (dNil)))) (dNext)) t__law_true_r1
def gl__law_true : List (Str × GI) := [("_law_take", .fn sp__law_take), ("len", .bi .len)]
theorem len__law_true : ∀ ds G q x, sp__law_true ds G q x → ds.length = P__law_true.length := by
  rintro _ _ _ _ ⟨b, x, ps, rfl, _⟩; rfl
theorem pu_pc {p : Pc} (h : p.signs.length ≤ 24) : Pu 2 p.d := pu_tup (by simp) fun y hy => by
  simp only [List.mem_cons, List.not_mem_nil, or_false] at hy
  rcases hy with rfl | rfl | rfl | rfl
  · exact pu_int
  · exact pu_ints (by omega)
  · exact pu_int
  · exact pu_int
theorem b__law_true : Body t__law_true N__law_true sp__law_true := by
  rintro ds G q x ⟨b, ac, ps, rfl, bag, nac, e, l100, l24, hq⟩
  unfold t__law_true N__law_true
  walk_at "e"
  intro p1 hp1
  generalize ep1 : st G p1 _ = G1
  obtain ⟨xp1, kp1⟩ := nu hp1 ep1
  have gp : gd 1000 3 (.lst (ps.map Pc.d)) := gd_pcs (by omega) fun p hp => by have := l24 p hp; omega
  refine eqR_of (d := .lst (ps.map Pc.d)) (e := .lst []) (.lst (xp1.at e) (pcs_dds ps)) (.lst kp1 .nil) gp gd_nil (by decide) ?_
  rw [eqB_nil]
  walk_at "e"
  refine ⟨fun _ => ?_, fun en => ?_⟩
  · skip
    intro p2 hp2
    generalize ep2 : st G1 p2 _ = G2
    obtain ⟨xp2, kp2⟩ := nu hp2 ep2
    exact hq p2 _ G2 (xp1.none hp2) kp2 (xp1.trans xp2).ext (bag.ext (xp1.trans xp2)) (by simp) fun y hy => by rw [List.mem_singleton.mp hy]; exact pu_tup (by simp) (by simp)
  have h0 : 0 < ps.length := by cases ps with | nil => cases en | cons => simp
  unfold t__law_true_r1
  walk_at "e"
  refine ⟨_, .inl ⟨_, .inl (xp1.at e), rfl⟩, takes_here (bag.ext xp1) (by rw [List.length_map]; omega) (by rw [List.length_map]; omega) fun r G2 r0 r1 x2 bag2 => ?_⟩
  rw [List.length_map] at r1
  walk_at "e"
  refine pick bag2 rfl (by decide) (by decide) fun z hz G3 x3 bag3 => ?_
  have hz2 : ∃ k : Int, z = .int k ∧ (k = 0 ∨ k = 2 ∨ k = 3) := by
    simp only [List.mem_cons, List.not_mem_nil, or_false] at hz
    rcases hz with rfl | rfl | rfl
    · exact ⟨_, rfl, by simp⟩
    · exact ⟨_, rfl, by simp⟩
    · exact ⟨_, rfl, by simp⟩
  obtain ⟨k, rfl, hk⟩ := hz2
  have x03 : Xt [b] G G3 := (xp1.ext.trans x2).trans x3
  have nb : ac ∉ [b] := by simpa using nac
  have e3 := x03.get nb e
  obtain ⟨c, ec⟩ : ∃ c, ps[r.toNat]? = some c := ⟨_, List.getElem?_eq_getElem (by omega)⟩
  have hc := List.mem_of_getElem? ec
  refine ⟨_, .inl e3, c.d, by rw [atI_of r0 (by simpa using r1), List.getElem?_map, ec]; rfl, ?_⟩
  walk_at "e"
  refine ⟨_, .inl e3, ?_⟩
  intro p4 hp4
  generalize ep4 : st G3 p4 _ = G4
  obtain ⟨xp4, kp4⟩ := nu hp4 ep4
  have fin : ∀ y, Pu 2 y → (∀ p, G4 p = none → addD (D.ref p4) (D.ref p) (st G4 p (GO.lst [y])) fun x G1 => slD (D.ref ac) (some (r + 1)) none G1 fun y G => addD x y G q) := by
    intro y hy
    intro p5 hp5
    generalize ep5 : st G4 p5 _ = G5
    obtain ⟨xp5, kp5⟩ := nu hp5 ep5
    refine ⟨_, xp5.at kp4, _, kp5, line_of (by have := cut_le (xs := ps.map Pc.d) (lo := none) (hi := some r); rw [List.length_map] at this; simp only [List.length_cons, List.length_nil]; omega), ?_⟩
    intro p6 hp6
    generalize ep6 : st G5 p6 _ = G6
    obtain ⟨xp6, kp6⟩ := nu hp6 ep6
    refine ⟨_, .inl (((xp4.trans xp5).trans xp6).at e3), ?_⟩
    intro p7 hp7
    generalize ep7 : st G6 p7 _ = G7
    obtain ⟨xp7, kp7⟩ := nu hp7 ep7
    have l1 := cut_le (xs := ps.map Pc.d) (lo := none) (hi := some r)
    have l2 := cut_le (xs := ps.map Pc.d) (lo := some (r + 1)) (hi := none)
    rw [List.length_map] at l1 l2
    refine ⟨_, xp7.at kp6, _, kp7, line_of (by simp only [List.length_append, List.length_cons, List.length_nil]; omega), ?_⟩
    intro p8 hp8
    generalize ep8 : st G7 p8 _ = G8
    obtain ⟨xp8, kp8⟩ := nu hp8 ep8
    have x38 := (((xp4.trans xp5).trans xp6).trans xp7).trans xp8
    refine hq p8 _ G8 (x03.free (fun m => ?_) ((((xp4.trans xp5).trans xp6).trans xp7).none hp8)) kp8 (x03.trans x38.ext) (bag3.ext x38) (by simp only [List.length_append, List.length_cons, List.length_nil]; omega) fun z hz => ?_
    · rw [List.mem_singleton.mp m] at hp8
      exact (bag3.ext (((xp4.trans xp5).trans xp6).trans xp7)).some hp8
    · have pc : ∀ {lo hi}, ∀ y ∈ cut (ps.map Pc.d) lo hi, Pu 2 y := fun y hy => by
        obtain ⟨p, hp, rfl⟩ := List.mem_map.mp (cut_sub hy)
        exact pu_pc (l24 p hp)
      rcases List.mem_append.mp hz with hz | hz
      · rcases List.mem_append.mp hz with hz | hz
        · exact pc z hz
        · rw [List.mem_singleton.mp hz]; exact hy
      · exact pc z hz
  have puP : ∀ y ∈ [D.int c.at_, .tup (c.signs.map .int), .int c.kind, .int c.cost], Pu 1 y := fun y hy => by
    simp only [List.mem_cons, List.not_mem_nil, or_false] at hy
    rcases hy with rfl | rfl | rfl | rfl
    · exact pu_int
    · exact pu_ints (by have := l24 c hc; omega)
    · exact pu_int
    · exact pu_int
  unfold Pc.d
  have hat : ∃ z : Int, atI [D.int c.at_, .tup (c.signs.map .int), .int c.kind, .int c.cost] k = some (.int z) := by
    rcases hk with rfl | rfl | rfl
    · exact ⟨_, atI_0⟩
    · exact ⟨_, atI_2⟩
    · exact ⟨_, atI_3⟩
  obtain ⟨z, hat⟩ := hat
  have lk : ∀ {lo hi}, (cut [D.int c.at_, .tup (c.signs.map .int), .int c.kind, .int c.cost] lo hi).length ≤ 4 := fun {lo hi} => cut_le
  walk_at "e"
  refine ⟨_, hat, ?_⟩
  walk_at "e"
  refine ⟨line_of (by have := lk (lo := none) (hi := some k); omega), line_of (by have := lk (lo := none) (hi := some k); have := lk (lo := some (k + 1)) (hi := none); simp only [List.length_append, List.length_cons, List.length_nil]; omega), fin _ ?_⟩
  refine pu_tup (by have := lk (lo := none) (hi := some k); have := lk (lo := some (k + 1)) (hi := none); simp only [List.length_append, List.length_cons, List.length_nil]; omega) fun y hy => ?_
  rcases List.mem_append.mp hy with hy | hy
  · rcases List.mem_append.mp hy with hy | hy
    · exact puP y (cut_sub hy)
    · rw [List.mem_singleton.mp hy]; exact pu_bl
  · exact puP y (cut_sub hy)

end S

set_option Elab.async false
set_option linter.all false
set_option maxRecDepth 100000
set_option maxHeartbeats 4000000
namespace S
open PySem PySem.Spec L2
open PyProof.Rows hiding St
local macro_rules | `(tactic| walk_at "e") => `(tactic| try simp only [dSeq, dNext, dRet, dRetN, dIf, dAsg, dAug, dDrop, par_eq, prs_2, dBreak, dCont, dgName, dgSub, gTup_t, gCons_c, gNil_n, dFor_eq, dLc_eq, dVar, dC, dOp, dUn, dBi, dCall, dCons, dNil, dTup, dLst, dSl, part_eq, prt_i, dNoPart, dAndV, dOrV, dNotV, dB, dAnd, dOr, dNot, dIfE, dChain, itv_eq, itv_t, itv_r, dRng, dWalk, dBm, rng1_i, rng2_i, rng3_i, enumR_r, zipR_r,
  BI.r, addD_i, addD_s, addD_t, addD_r, subD_i, mulD_i, mulD_r, mulD_t, modD_i, divD_i, powD_i, ltD_i, leD_i, gtD_i, geD_i, incD_i, negD_i, lr1_i, lr2_i, revD_r, isND_n, isNon, ixD_t, ixD_r, ixD_d, setD_d, dDnew, itk_eq, itk_r, dDm, getD_r, ditD_r, dItI, iti_r, listK_r, sortedD_r, ixD_l, ixD_s, slD_t, slD_r, slD_s, setD_r, lenD_s, lenD_t, lenD_l, lenD_r, isiD_1, isiD_n, listD_t, listD_r, tupleD_t, tupleD_r, allD_r, anyD_r, sumD_r, maxD_r, maxD_2, minD_r, minD_2, absD_i, intB_i, intB_b, appD_r, startD, wipeD,
  List.map_cons, List.map_nil, rep_z, rep_s, List.length_cons, List.length_nil, List.cons_append, List.nil_append, List.append_nil, List.getElem?_cons_zero, List.getElem?_cons_succ, List.set_cons_zero, List.set_cons_succ, Option.some.injEq, exists_eq_left', exists_eq_left, D.bl.injEq, D.int.injEq, D.tup.injEq, D.ref.injEq, true_and, and_true, Nat.reduceAdd, Nat.reduceSub, Nat.add_sub_cancel_left, exists_const, br_t, br_f, eqR_int, eqR_bl, Bool.false_bne, Bool.true_bne, Bool.false_xor, Bool.true_xor, Bool.not_true, Bool.not_false, Bool.not_not, ite_true, ite_false, Bool.true_eq_false, false_implies, decide_true, decide_false, tc_int, tc_bool, tc_str, tc_tup, tc_lst, tc_non, tc_dic, ln0, ln1, ln2, ln3, ln4, ln5, ln6, ln7, ln8, ln9, ln10, ln11, ln12, ln13, ln14, ln15, ln16, ln17, ln18, ln19, ln20, ln21, ln22, ln23, ln24, ln25, ln26, ln27, ln28, ln29, ln30, ln31, ln32, ln33, ln34, ln35, ln36, ln37, ln38, ln39, ln40, ln41, ln42, ln43, ln44, ln45, ln46, ln47, ln48, ln49, ln50, ln51, ln52, ln53, ln54, ln55, ln56, ln57, ln58, ln59, ln60])
local macro_rules | `(tactic| walk_at "g") => `(tactic| try simp only [st_same, st_st, GO.lst.injEq, Option.some.injEq, exists_eq_left', exists_eq_left, atI_0, atI_1, atI_2, atI_3, ixN_0, ixN_1, ixN_2, ixN_3, List.set_cons_zero, List.set_cons_succ, List.length_cons, List.length_nil, List.length_append, List.cons_append, List.nil_append, true_and, and_true, seq_st])
/-! ## what a wish wants and bars -/
def Wi.Bd : Wi → Prop
  | .border i => 0 ≤ i ∧ i ≤ 1000
  | .joined i => 0 ≤ i ∧ i ≤ 1000
  | .held i j S => 0 ≤ i ∧ i ≤ 1000 ∧ 0 ≤ j ∧ j ≤ 1000 ∧ S.length ≤ 24
  | .span i j => 0 ≤ i ∧ i ≤ 1000 ∧ 0 ≤ j ∧ j ≤ 1000
theorem Wi.Ok.bd {n : Int} {w : Wi} (hn : n ≤ 1000) (h : w.Ok n) : w.Bd := by
  cases w with
  | border i => exact ⟨by have := h.1; omega, by have := h.2; omega⟩
  | joined i => exact ⟨by have := h.1; omega, by have := h.2; omega⟩
  | held i j S => obtain ⟨h1, h2, h3, _, h5, _⟩ := h; exact ⟨by omega, by omega, by omega, by omega, by omega⟩
  | span i j => obtain ⟨h1, h2, h3⟩ := h; exact ⟨by omega, by omega, by omega, by omega⟩
theorem Wi.Bd.pu {w : Wi} (h : w.Bd) : Pu 2 w.d := by
  cases w with
  | held i j S =>
    refine pu_tup (by simp) fun y hy => ?_
    simp only [List.mem_cons, List.not_mem_nil, or_false] at hy
    rcases hy with rfl | rfl | rfl | rfl
    · exact pu_str (by decide +kernel)
    · exact pu_int
    · exact pu_int
    · exact pu_ints (by have := h.2.2.2.2; omega)
  | border i =>
    refine pu_tup (by simp) fun y hy => ?_
    simp only [List.mem_cons, List.not_mem_nil, or_false] at hy
    rcases hy with rfl | rfl
    · exact pu_str (by decide +kernel)
    · exact pu_int
  | joined i =>
    refine pu_tup (by simp) fun y hy => ?_
    simp only [List.mem_cons, List.not_mem_nil, or_false] at hy
    rcases hy with rfl | rfl
    · exact pu_str (by decide +kernel)
    · exact pu_int
  | span i j =>
    refine pu_tup (by simp) fun y hy => ?_
    simp only [List.mem_cons, List.not_mem_nil, or_false] at hy
    rcases hy with rfl | rfl | rfl
    · exact pu_str (by decide +kernel)
    · exact pu_int
    · exact pu_int
def wantsW : Wi → List Int
  | .border i => [i]
  | .joined _ => []
  | .held i j _ => [i, j]
  | .span i j => [i, j]
def rngI (i j : Int) : List Int := (List.range (j - i).toNat).map fun (k : Nat) => i + k
def barsW : Wi → List Int
  | .border _ => []
  | .joined i => [i]
  | .held i j _ => rngI (i + 1) j
  | .span i j => rngI (i + 1) j
theorem rngL_I {i j : Int} : rngL i 1 (j - i).toNat = (rngI i j).map D.int := by
  unfold rngL rngI
  rw [List.map_map]
  refine List.map_congr_left fun k _ => ?_
  simp
theorem rngI_len {i j : Int} : (rngI i j).length = (j - i).toNat := by simp [rngI]
theorem wants_len {w : Wi} : (wantsW w).length ≤ 2 := by cases w <;> simp [wantsW]
theorem bars_len {w : Wi} (h : w.Bd) : (barsW w).length ≤ 1000 := by
  cases w with
  | held i j S => simp only [barsW, rngI_len]; obtain ⟨h1, h2, h3, h4, h5⟩ := h; omega
  | span i j => simp only [barsW, rngI_len]; obtain ⟨h1, h2, h3, h4⟩ := h; omega
  | _ => simp [barsW]
def sp_wants : DSp := fun ds G q _ => ∃ w : Wi, ds = [w.d] ∧ w.Bd ∧ ∀ p G', G p = none → Ext G G' → G' p = some (.lst ((wantsW w).map .int)) → q (.ref p) G'
def sp_bars : DSp := fun ds G q _ => ∃ w : Wi, ds = [w.d] ∧ w.Bd ∧ ∀ p G', G p = none → Ext G G' → G' p = some (.lst ((barsW w).map .int)) → q (.ref p) G'
def t_wants_r1 : TSd := dRet (dLst (dCons (dOp ixD (dVar 0) (dC (.int 1))) (dCons (dOp ixD (dVar 0) (dC (.int 2))) (dNil))))
def t_wants_r2 : TSd := dSeq (dIf (dB (dOp (eqR false) (dOp ixD (dVar 0) (dC (.int 0))) (dC (.str "joined")))) (dRet (dLst (dNil))) (dNext)) t_wants_r1
def N_wants : List Str := ["wish"]
def P_wants : List Str := ["wish"]
def t_wants : TSd := dSeq (dIf (dB (dOp (eqR false) (dOp ixD (dVar 0) (dC (.int 0))) (dC (.str "border")))) (dRet (dLst (dCons (dOp ixD (dVar 0) (dC (.int 1))) (dNil)))) (dNext)) t_wants_r2
def gl_wants : List (Str × GI) := []
def t_bars_r1 : TSd := dRet (dOp lr2 (dOp addD (dOp ixD (dVar 0) (dC (.int 1))) (dC (.int 1))) (dOp ixD (dVar 0) (dC (.int 2))))
def t_bars_r2 : TSd := dSeq (dIf (dB (dOp (eqR false) (dOp ixD (dVar 0) (dC (.int 0))) (dC (.str "joined")))) (dRet (dLst (dCons (dOp ixD (dVar 0) (dC (.int 1))) (dNil)))) (dNext)) t_bars_r1
def N_bars : List Str := ["wish"]
def P_bars : List Str := ["wish"]
def t_bars : TSd := dSeq (dIf (dB (dOp (eqR false) (dOp ixD (dVar 0) (dC (.int 0))) (dC (.str "border")))) (dRet (dLst (dNil))) (dNext)) t_bars_r2
def gl_bars : List (Str × GI) := [("list", .bi .list), ("range", .rng)]
theorem len_wants : ∀ ds G q x, sp_wants ds G q x → ds.length = P_wants.length := by
  rintro _ _ _ _ ⟨w, rfl, _⟩; rfl
theorem len_bars : ∀ ds G q x, sp_bars ds G q x → ds.length = P_bars.length := by
  rintro _ _ _ _ ⟨w, rfl, _⟩; rfl
theorem ok_border : PySem.PyData.strOk "border" = true := by decide +kernel
theorem ok_joined : PySem.PyData.strOk "joined" = true := by decide +kernel
theorem ok_held : PySem.PyData.strOk "held" = true := by decide +kernel
theorem ok_span : PySem.PyData.strOk "span" = true := by decide +kernel
theorem bb : (("border" : Str) == "border") = true := by decide +kernel
theorem bj : (("border" : Str) == "joined") = false := by decide +kernel
theorem bh : (("border" : Str) == "held") = false := by decide +kernel
theorem bs : (("border" : Str) == "span") = false := by decide +kernel
theorem jb : (("joined" : Str) == "border") = false := by decide +kernel
theorem jj : (("joined" : Str) == "joined") = true := by decide +kernel
theorem jh : (("joined" : Str) == "held") = false := by decide +kernel
theorem js : (("joined" : Str) == "span") = false := by decide +kernel
theorem hb : (("held" : Str) == "border") = false := by decide +kernel
theorem hj : (("held" : Str) == "joined") = false := by decide +kernel
theorem hh : (("held" : Str) == "held") = true := by decide +kernel
theorem hs : (("held" : Str) == "span") = false := by decide +kernel
theorem sb : (("span" : Str) == "border") = false := by decide +kernel
theorem sj : (("span" : Str) == "joined") = false := by decide +kernel
theorem shh : (("span" : Str) == "held") = false := by decide +kernel
theorem ss : (("span" : Str) == "span") = true := by decide +kernel
local macro_rules | `(tactic| walk_at "w") => `(tactic| (try simp only [Wi.d] at *; walk_at "e"; try simp only [atI_0, atI_1, atI_2, atI_3, Option.some.injEq, exists_eq_left', eqR_s ok_border ok_border, eqR_s ok_border ok_joined, eqR_s ok_border ok_held, eqR_s ok_border ok_span, eqR_s ok_joined ok_border, eqR_s ok_joined ok_joined, eqR_s ok_joined ok_held, eqR_s ok_joined ok_span, eqR_s ok_held ok_border, eqR_s ok_held ok_joined, eqR_s ok_held ok_held, eqR_s ok_held ok_span, eqR_s ok_span ok_border, eqR_s ok_span ok_joined, eqR_s ok_span ok_held, eqR_s ok_span ok_span, bb, bj, bh, bs, jb, jj, jh, js, hb, hj, hh, hs, sb, sj, shh, ss]; walk_at "e"))
theorem b_wants : Body t_wants N_wants sp_wants := by
  rintro ds G q x ⟨w, rfl, bd, hq⟩
  unfold t_wants N_wants t_wants_r2 t_wants_r1
  cases w with
  | border i =>
    walk_at "w"
    intro p hp
    generalize ep : st G p _ = G1
    obtain ⟨xp, kp⟩ := nu hp ep
    exact hq p G1 hp xp kp
  | joined i =>
    walk_at "w"
    intro p hp
    generalize ep : st G p _ = G1
    obtain ⟨xp, kp⟩ := nu hp ep
    exact hq p G1 hp xp kp
  | held i j S =>
    walk_at "w"
    intro p hp
    generalize ep : st G p _ = G1
    obtain ⟨xp, kp⟩ := nu hp ep
    exact hq p G1 hp xp kp
  | span i j =>
    walk_at "w"
    intro p hp
    generalize ep : st G p _ = G1
    obtain ⟨xp, kp⟩ := nu hp ep
    exact hq p G1 hp xp kp
theorem b_bars : Body t_bars N_bars sp_bars := by
  rintro ds G q x ⟨w, rfl, bd, hq⟩
  unfold t_bars N_bars t_bars_r2 t_bars_r1
  cases w with
  | border i =>
    walk_at "w"
    intro p hp
    generalize ep : st G p _ = G1
    obtain ⟨xp, kp⟩ := nu hp ep
    exact hq p G1 hp xp kp
  | joined i =>
    walk_at "w"
    intro p hp
    generalize ep : st G p _ = G1
    obtain ⟨xp, kp⟩ := nu hp ep
    exact hq p G1 hp xp kp
  | held i j S =>
    obtain ⟨h1, h2, h3, h4, h5⟩ := bd
    walk_at "w"
    rw [rngL_I]
    refine ⟨by omega, ?_⟩
    intro p hp
    generalize ep : st G p _ = G1
    obtain ⟨xp, kp⟩ := nu hp ep
    exact hq p G1 hp xp kp
  | span i j =>
    obtain ⟨h1, h2, h3, h4⟩ := bd
    walk_at "w"
    rw [rngL_I]
    refine ⟨by omega, ?_⟩
    intro p hp
    generalize ep : st G p _ = G1
    obtain ⟨xp, kp⟩ := nu hp ep
    exact hq p G1 hp xp kp

end S

set_option Elab.async false
set_option linter.all false
set_option maxRecDepth 100000
set_option maxHeartbeats 4000000
namespace S
open PySem PySem.Spec L2
open PyProof.Rows hiding St
local macro_rules | `(tactic| walk_at "e") => `(tactic| try simp only [dSeq, dNext, dRet, dRetN, dIf, dAsg, dAug, dDrop, par_eq, prs_2, dBreak, dCont, dgName, dgSub, gTup_t, gCons_c, gNil_n, dFor_eq, dLc_eq, dVar, dC, dOp, dUn, dBi, dCall, dCons, dNil, dTup, dLst, dSl, part_eq, prt_i, dNoPart, dAndV, dOrV, dNotV, dB, dAnd, dOr, dNot, dIfE, dChain, itv_eq, itv_t, itv_r, dRng, dWalk, dBm, rng1_i, rng2_i, rng3_i, enumR_r, zipR_r,
  BI.r, addD_i, addD_s, addD_t, addD_r, subD_i, mulD_i, mulD_r, mulD_t, modD_i, divD_i, powD_i, ltD_i, leD_i, gtD_i, geD_i, incD_i, negD_i, lr1_i, lr2_i, revD_r, isND_n, isNon, ixD_t, ixD_r, ixD_d, setD_d, dDnew, itk_eq, itk_r, dDm, getD_r, ditD_r, dItI, iti_r, listK_r, sortedD_r, ixD_l, ixD_s, slD_t, slD_r, slD_s, setD_r, lenD_s, lenD_t, lenD_l, lenD_r, isiD_1, isiD_n, listD_t, listD_r, tupleD_t, tupleD_r, allD_r, anyD_r, sumD_r, maxD_r, maxD_2, minD_r, minD_2, absD_i, intB_i, intB_b, appD_r, startD, wipeD,
  List.map_cons, List.map_nil, rep_z, rep_s, List.length_cons, List.length_nil, List.cons_append, List.nil_append, List.append_nil, List.getElem?_cons_zero, List.getElem?_cons_succ, List.set_cons_zero, List.set_cons_succ, Option.some.injEq, exists_eq_left', exists_eq_left, D.bl.injEq, D.int.injEq, D.tup.injEq, D.ref.injEq, true_and, and_true, Nat.reduceAdd, Nat.reduceSub, Nat.add_sub_cancel_left, exists_const, br_t, br_f, eqR_int, eqR_bl, Bool.false_bne, Bool.true_bne, Bool.false_xor, Bool.true_xor, Bool.not_true, Bool.not_false, Bool.not_not, ite_true, ite_false, Bool.true_eq_false, false_implies, decide_true, decide_false, tc_int, tc_bool, tc_str, tc_tup, tc_lst, tc_non, tc_dic, ln0, ln1, ln2, ln3, ln4, ln5, ln6, ln7, ln8, ln9, ln10, ln11, ln12, ln13, ln14, ln15, ln16, ln17, ln18, ln19, ln20, ln21, ln22, ln23, ln24, ln25, ln26, ln27, ln28, ln29, ln30, ln31, ln32, ln33, ln34, ln35, ln36, ln37, ln38, ln39, ln40, ln41, ln42, ln43, ln44, ln45, ln46, ln47, ln48, ln49, ln50, ln51, ln52, ln53, ln54, ln55, ln56, ln57, ln58, ln59, ln60])
local macro_rules | `(tactic| walk_at "g") => `(tactic| try simp only [st_same, st_st, GO.lst.injEq, Option.some.injEq, exists_eq_left', exists_eq_left, atI_0, atI_1, atI_2, atI_3, ixN_0, ixN_1, ixN_2, ixN_3, List.set_cons_zero, List.set_cons_succ, List.length_cons, List.length_nil, List.length_append, List.cons_append, List.nil_append, true_and, and_true, seq_st])
local macro_rules | `(tactic| walk_at "w") => `(tactic| (try simp only [Wi.d] at *; walk_at "e"; try simp only [atI_0, atI_1, atI_2, atI_3, Option.some.injEq, exists_eq_left', eqR_s ok_border ok_border, eqR_s ok_border ok_joined, eqR_s ok_border ok_held, eqR_s ok_border ok_span, eqR_s ok_joined ok_border, eqR_s ok_joined ok_joined, eqR_s ok_joined ok_held, eqR_s ok_joined ok_span, eqR_s ok_held ok_border, eqR_s ok_held ok_joined, eqR_s ok_held ok_held, eqR_s ok_held ok_span, eqR_s ok_span ok_border, eqR_s ok_span ok_joined, eqR_s ok_span ok_held, eqR_s ok_span ok_span, bb, bj, bh, bs, jb, jj, jh, js, hb, hj, hh, hs, sb, sj, shh, ss]; walk_at "e"))
abbrev sp__law_wants : DSp := sp_wants
abbrev sp__law_bars : DSp := sp_bars
def t__law_wants_r1 : TSd := dRet (dLc (dItV (dSl (dVar 0) (dPart (dC (.int 1))) (dPart (dC (.int 3))))) (dgName 1) (dB (dCall sp__law_whole (dCons (dVar 1) (dNil)))) (dVar 1) [1])
def N__law_wants : List Str := ["_law_wish_here", "_law_place"]
def P__law_wants : List Str := ["_law_wish_here"]
def t__law_wants : TSd := dSeq (dIf (dB (dOp (eqR false) (dOp ixD (dVar 0) (dC (.int 0))) (dC (.str "joined")))) (dRet (dLst (dNil))) (dNext)) t__law_wants_r1
def gl__law_wants : List (Str × GI) := [("_law_whole", .fn sp__law_whole)]
def t__law_bars_r1 : TSd := dRet (dOp lr2 (dOp addD (dOp ixD (dVar 0) (dC (.int 1))) (dC (.int 1))) (dOp ixD (dOp addD (dLst (dCons (dOp ixD (dVar 0) (dC (.int 1))) (dNil))) (dBi (BI.r .list) (dCons (dSl (dVar 0) (dPart (dC (.int 1))) (dPart (dC (.int 3)))) (dNil)))) (dUn negD (dC (.int 1)))))
def N__law_bars : List Str := ["_law_wish_here"]
def P__law_bars : List Str := ["_law_wish_here"]
def t__law_bars : TSd := dSeq (dIf (dB (dOp (eqR false) (dOp ixD (dVar 0) (dC (.int 0))) (dC (.str "joined")))) (dRet (dLst (dCons (dOp ixD (dVar 0) (dC (.int 1))) (dNil)))) (dNext)) t__law_bars_r1
def gl__law_bars : List (Str × GI) := [("list", .bi .list), ("range", .rng)]
theorem len__law_wants : ∀ ds G q x, sp__law_wants ds G q x → ds.length = P__law_wants.length := len_wants
theorem len__law_bars : ∀ ds G q x, sp__law_bars ds G q x → ds.length = P__law_bars.length := len_bars
/-- a comprehension with a test by value -/
theorem lcR_sel {te : TEd} {tt : TTd} {vs : List Nat} {σ : Sd} {Q : Qd} {xs : List D} {stay : Hd → Prop} {G0 : Hd} {g : TGd} (t : Nat → D → Bool) (f : D → D) (hl : xs.length ≤ 1000000) (hs : ∀ G', Ext G0 G' → stay G')
    (el : ∀ (i : Nat) x, xs[i]? = some x → ∀ G' (Q' : Qd) (Z : Hd → Prop), Ext G0 G' → (t i x = true → ∀ G'', Ext G' G'' → Q' (f x) G'') → (t i x = false → ∀ G'', Ext G' G'' → Z G'') → g W0 x (wipeD σ vs) G' fun σ2 G2 => tt W0 σ2 G2 fun k G3 => Br k (te W0 σ2 G3 Q') (Z G3))
    (q : ∀ p G', G0 p = none → Ext G0 G' → G' p = some (.lst ((xs.zipIdx.filter fun p => t p.2 p.1).map fun p => f p.1)) → Q (.ref p) G') : lcR g tt te vs σ Q xs stay G0 := by
  intro p hp
  refine ⟨fun i G => i ≤ xs.length ∧ Ext G0 G ∧ G p = some (.lst (((xs.take i).zipIdx.filter fun p => t p.2 p.1).map fun p => f p.1)), ⟨Nat.zero_le _, Xt.new hp, by simp⟩,
    fun i G h => hs G h.2.1, ?_, fun G ⟨_, x, e⟩ => q p G hp x (by rw [e, List.take_length])⟩
  rintro i x G ex ⟨hi, xt, e⟩
  have hi2 : i < xs.length := (List.getElem?_eq_some_iff.mp ex).1
  have tk : xs.take (i + 1) = xs.take i ++ [x] := by rw [List.take_add_one, ex]; rfl
  have li : (xs.take i).length = i := by rw [List.length_take]; omega
  have ez : (xs.take (i + 1)).zipIdx = (xs.take i).zipIdx ++ [(x, i)] := by rw [tk, List.zipIdx_append, li]; simp
  refine el i x ex G _ _ xt (fun ht G4 x4 => ?_) fun hf G4 x4 => ?_
  · refine ⟨_, x4.at e, line_lt ?_, by omega, (xt.trans x4).put' hp, ?_⟩
    · rw [List.length_map]
      have := List.length_filter_le (fun p : D × Nat => t p.2 p.1) (xs.take i).zipIdx
      rw [List.length_zipIdx, li] at this; omega
    · rw [st_same, ez, List.filter_append, List.map_append]
      simp [List.filter_cons, ht]
  · refine ⟨by omega, xt.trans x4, ?_⟩
    rw [x4.at e, ez, List.filter_append, List.map_append]
    simp [List.filter_cons, hf]
theorem filt_none {α : Type} {t : Nat → α → Bool} : ∀ {xs : List α} {k : Nat}, (∀ i x, xs[i]? = some x → t (k + i) x = false) → (xs.zipIdx k).filter (fun p => t p.2 p.1) = []
  | [], _, _ => rfl
  | x :: xs, k, h => by
    rw [List.zipIdx_cons, List.filter_cons, show t k x = false from h 0 x rfl]
    simp only [Bool.false_eq_true, if_false]
    exact filt_none fun i y e => by have := h (i + 1) y (by simpa using e); rwa [show k + (i + 1) = k + 1 + i by omega] at this
theorem b__law_wants : Body t__law_wants N__law_wants sp__law_wants := by
  rintro ds G q x ⟨w, rfl, bd, hq⟩
  unfold t__law_wants N__law_wants t__law_wants_r1
  cases w with
  | border i =>
    walk_at "w"
    refine lcR_sel (fun _ _ => true) id (Nat.le_trans cut_le (by simp)) (fun _ _ => trivial) (fun j x ex G' Q' Z xt k1 k2 => ?_) fun p G1 hp x1 e1 => hq p G1 hp x1 (by rw [e1]; rfl)
    have ex : [D.int i][j]? = some x := ex
    cases j with
    | succ j => simp at ex
    | zero =>
      cases ex
      walk_at "e"
      refine ⟨_, .int i, rfl, .int _, ?_⟩
      have ew : wholeV (.int i) = true := rfl
      rw [ew]
      walk_at "e"
      exact k1 rfl _ .refl
  | joined i =>
    walk_at "w"
    intro p hp
    generalize ep : st G p _ = G1
    obtain ⟨xp, kp⟩ := nu hp ep
    exact hq p G1 hp xp kp
  | held i j S =>
    walk_at "w"
    refine lcR_sel (fun _ _ => true) id (Nat.le_trans cut_le (by simp)) (fun _ _ => trivial) (fun k x ex G' Q' Z xt k1 k2 => ?_) fun p G1 hp x1 e1 => hq p G1 hp x1 (by rw [e1]; rfl)
    have ex : [D.int i, .int j][k]? = some x := ex
    obtain ⟨z, rfl⟩ : ∃ z, x = .int z := by
      have := List.mem_of_getElem? ex
      simp only [List.mem_cons, List.not_mem_nil, or_false] at this
      rcases this with rfl | rfl <;> exact ⟨_, rfl⟩
    walk_at "e"
    refine ⟨_, .int z, rfl, .int _, ?_⟩
    have ew : wholeV (.int z) = true := rfl
    rw [ew]
    walk_at "e"
    exact k1 rfl _ .refl
  | span i j =>
    walk_at "w"
    refine lcR_sel (fun _ _ => true) id (Nat.le_trans cut_le (by simp)) (fun _ _ => trivial) (fun k x ex G' Q' Z xt k1 k2 => ?_) fun p G1 hp x1 e1 => hq p G1 hp x1 (by rw [e1]; rfl)
    have ex : [D.int i, .int j][k]? = some x := ex
    obtain ⟨z, rfl⟩ : ∃ z, x = .int z := by
      have := List.mem_of_getElem? ex
      simp only [List.mem_cons, List.not_mem_nil, or_false] at this
      rcases this with rfl | rfl <;> exact ⟨_, rfl⟩
    walk_at "e"
    refine ⟨_, .int z, rfl, .int _, ?_⟩
    have ew : wholeV (.int z) = true := rfl
    rw [ew]
    walk_at "e"
    exact k1 rfl _ .refl
theorem rngI_nil {i : Int} : rngI (i + 1) i = [] := by
  unfold rngI; rw [show (i - (i + 1)).toNat = 0 by omega]; rfl
theorem b__law_bars : Body t__law_bars N__law_bars sp__law_bars := by
  rintro ds G q x ⟨w, rfl, bd, hq⟩
  unfold t__law_bars N__law_bars t__law_bars_r1
  cases w with
  | border i =>
    obtain ⟨h1, h2⟩ := bd
    walk_at "w"
    intro p1 hp1
    generalize ep1 : st G p1 _ = G1
    obtain ⟨xp1, kp1⟩ := nu hp1 ep1
    have ec : cut [D.str "border", .int i] (some 1) (some 3) = [.int i] := rfl
    rw [ec]
    walk_at "e"
    intro p2 hp2
    generalize ep2 : st G1 p2 _ = G2
    obtain ⟨xp2, kp2⟩ := nu hp2 ep2
    refine ⟨_, xp2.at kp1, _, kp2, line_of (by simp), ?_⟩
    intro p3 hp3
    generalize ep3 : st G2 p3 _ = G3
    obtain ⟨xp3, kp3⟩ := nu hp3 ep3
    refine ⟨_, .inl kp3, _, atI_end (xs := [.int i]), ?_⟩
    walk_at "e"
    rw [rngL_I]
    refine ⟨by omega, ?_⟩
    intro p4 hp4
    generalize ep4 : st G3 p4 _ = G4
    obtain ⟨xp4, kp4⟩ := nu hp4 ep4
    rw [rngI_nil] at kp4
    exact hq p4 G4 (xp1.none (xp2.none (xp3.none hp4))) (((xp1.trans xp2).trans xp3).trans xp4) kp4
  | joined i =>
    walk_at "w"
    intro p hp
    generalize ep : st G p _ = G1
    obtain ⟨xp, kp⟩ := nu hp ep
    exact hq p G1 hp xp kp
  | held i j S =>
    obtain ⟨h1, h2, h3, h4, h5⟩ := bd
    walk_at "w"
    intro p1 hp1
    generalize ep1 : st G p1 _ = G1
    obtain ⟨xp1, kp1⟩ := nu hp1 ep1
    have ec : cut [D.str "held", .int i, .int j, .tup (S.map .int)] (some 1) (some 3) = [.int i, .int j] := rfl
    rw [ec]
    walk_at "e"
    intro p2 hp2
    generalize ep2 : st G1 p2 _ = G2
    obtain ⟨xp2, kp2⟩ := nu hp2 ep2
    refine ⟨_, xp2.at kp1, _, kp2, line_of (by simp), ?_⟩
    intro p3 hp3
    generalize ep3 : st G2 p3 _ = G3
    obtain ⟨xp3, kp3⟩ := nu hp3 ep3
    refine ⟨_, .inl kp3, _, atI_end (xs := [.int i, .int i]), ?_⟩
    walk_at "e"
    rw [rngL_I]
    refine ⟨by omega, ?_⟩
    intro p4 hp4
    generalize ep4 : st G3 p4 _ = G4
    obtain ⟨xp4, kp4⟩ := nu hp4 ep4
    exact hq p4 G4 (xp1.none (xp2.none (xp3.none hp4))) (((xp1.trans xp2).trans xp3).trans xp4) kp4
  | span i j =>
    obtain ⟨h1, h2, h3, h4⟩ := bd
    walk_at "w"
    intro p1 hp1
    generalize ep1 : st G p1 _ = G1
    obtain ⟨xp1, kp1⟩ := nu hp1 ep1
    have ec : cut [D.str "span", .int i, .int j] (some 1) (some 3) = [.int i, .int j] := rfl
    rw [ec]
    walk_at "e"
    intro p2 hp2
    generalize ep2 : st G1 p2 _ = G2
    obtain ⟨xp2, kp2⟩ := nu hp2 ep2
    refine ⟨_, xp2.at kp1, _, kp2, line_of (by simp), ?_⟩
    intro p3 hp3
    generalize ep3 : st G2 p3 _ = G3
    obtain ⟨xp3, kp3⟩ := nu hp3 ep3
    refine ⟨_, .inl kp3, _, atI_end (xs := [.int i, .int i]), ?_⟩
    walk_at "e"
    rw [rngL_I]
    refine ⟨by omega, ?_⟩
    intro p4 hp4
    generalize ep4 : st G3 p4 _ = G4
    obtain ⟨xp4, kp4⟩ := nu hp4 ep4
    exact hq p4 G4 (xp1.none (xp2.none (xp3.none hp4))) (((xp1.trans xp2).trans xp3).trans xp4) kp4
/-! ## fights -/
def heldPart : Wi → Wi → Bool
  | .held i j S, .held i' j' S' => decide (i = i' ∧ j = j') && !decide (S = S')
  | _, _ => false
def hitW (w v : Wi) : Bool := (wantsW w).any fun p => (barsW v).any fun z => decide (z = p)
def fightV (w v : Wi) : Bool := hitW w v || hitW v w || heldPart w v
theorem any_ints {S : List Int} {p : Int} : ((S.map D.int).any fun z => eqB z (.int p)) = S.any fun z => decide (z = p) := by
  rw [List.any_map]; rfl
theorem eqBs_int2 : ∀ {S T : List Int}, eqBs (S.map .int) (T.map .int) = decide (S = T)
  | [], [] => rfl
  | [], _ :: _ => by simp [eqBs]
  | _ :: _, [] => by simp [eqBs]
  | x :: S, y :: T => by
    have := eqBs_int2 (S := S) (T := T)
    simp only [List.map_cons, eqBs_cons, this, eqB, beq_dec, List.cons.injEq, Bool.decide_and]
def sp_do_fight : DSp := fun ds G q _ => ∃ w v : Wi, ds = [w.d, v.d] ∧ w.Bd ∧ v.Bd ∧ ∀ G', Ext G G' → q (.bl (fightV w v)) G'
def t_do_fight_r1 : TSd := dRet (dAndV (dOp (eqR false) (dSl (dVar 0) (dPart (dC (.int 1))) (dPart (dC (.int 3)))) (dSl (dVar 1) (dPart (dC (.int 1))) (dPart (dC (.int 3))))) (dOp (eqR true) (dOp ixD (dVar 0) (dC (.int 3))) (dOp ixD (dVar 1) (dC (.int 3)))))
def t_do_fight_r2 : TSd := dSeq (dIf (dOr (dB (dOp (eqR true) (dOp ixD (dVar 0) (dC (.int 0))) (dC (.str "held")))) (dB (dOp (eqR true) (dOp ixD (dVar 1) (dC (.int 0))) (dC (.str "held"))))) (dRet (dC (.bl false))) (dNext)) t_do_fight_r1
def t_do_fight_r3 : TSd := dSeq (dIf (dB (dBi (BI.r .any) (dCons (dLc (dItV (dCall sp_wants (dCons (dVar 1) (dNil)))) (dgName 2) dYes (dOp (inD false) (dVar 2) (dCall sp_bars (dCons (dVar 0) (dNil)))) [2]) (dNil)))) (dRet (dC (.bl true))) (dNext)) t_do_fight_r2
def N_do_fight : List Str := ["one", "other", "place"]
def P_do_fight : List Str := ["one", "other"]
def t_do_fight : TSd := dSeq (dIf (dB (dBi (BI.r .any) (dCons (dLc (dItV (dCall sp_wants (dCons (dVar 0) (dNil)))) (dgName 2) dYes (dOp (inD false) (dVar 2) (dCall sp_bars (dCons (dVar 1) (dNil)))) [2]) (dNil)))) (dRet (dC (.bl true))) (dNext)) t_do_fight_r3
def gl_do_fight : List (Str × GI) := [("any", .bi .any), ("wants", .fn sp_wants), ("bars", .fn sp_bars)]
abbrev sp__law_do_fight : DSp := sp_do_fight
def t__law_do_fight_r1 : TSd := dRet (dAndV (dOp (eqR false) (dOp ixD (dVar 0) (dC (.int 0))) (dC (.str "held"))) (dAndV (dOp (eqR false) (dOp ixD (dVar 1) (dC (.int 0))) (dC (.str "held"))) (dAndV (dOp (eqR false) (dSl (dVar 0) (dPart (dC (.int 1))) (dPart (dC (.int 3)))) (dSl (dVar 1) (dPart (dC (.int 1))) (dPart (dC (.int 3))))) (dOp (eqR true) (dOp ixD (dVar 0) (dC (.int 3))) (dOp ixD (dVar 1) (dC (.int 3)))))))
def t__law_do_fight_r2 : TSd := dSeq (dIf (dB (dBi (BI.r .any) (dCons (dLc (dItV (dCall sp__law_wants (dCons (dVar 1) (dNil)))) (dgName 2) dYes (dOp (inD false) (dVar 2) (dCall sp__law_bars (dCons (dVar 0) (dNil)))) [2]) (dNil)))) (dRet (dC (.bl true))) (dNext)) t__law_do_fight_r1
def N__law_do_fight : List Str := ["_law_one", "_law_other", "_law_place"]
def P__law_do_fight : List Str := ["_law_one", "_law_other"]
def t__law_do_fight : TSd := dSeq (dIf (dB (dBi (BI.r .any) (dCons (dLc (dItV (dCall sp__law_wants (dCons (dVar 0) (dNil)))) (dgName 2) dYes (dOp (inD false) (dVar 2) (dCall sp__law_bars (dCons (dVar 1) (dNil)))) [2]) (dNil)))) (dRet (dC (.bl true))) (dNext)) t__law_do_fight_r2
def gl__law_do_fight : List (Str × GI) := [("any", .bi .any), ("_law_wants", .fn sp__law_wants), ("_law_bars", .fn sp__law_bars)]
theorem len_do_fight : ∀ ds G q x, sp_do_fight ds G q x → ds.length = P_do_fight.length := by
  rintro _ _ _ _ ⟨w, v, rfl, _⟩; rfl
theorem len__law_do_fight : ∀ ds G q x, sp__law_do_fight ds G q x → ds.length = P__law_do_fight.length := len_do_fight
theorem sh_int {i : Int} : sh (.int i) := ⟨rfl, Nat.zero_le _⟩
theorem sh_ints {S : List Int} : sh (.lst (S.map .int)) := ⟨okDs_ints S, by show deps (S.map .int) + 1 ≤ 64; rw [deps_ints]; decide⟩
/-- any([place in bars(v) for place in wants(w)]) -/
theorem hit_ok {w v : Wi} {vs : List Nat} {σ : Sd} {Q : Qd} {G : Hd} {te : TEd} {g : TGd} {stay : Hd → Prop} (bd : v.Bd) (hs : ∀ G', Ext G G' → stay G') (e : ∀ (z : Int) G' Q', (∀ p G'', Ext G' G'' → G'' p = some (.lst ((barsW v).map .int)) → inD false (.int z) (.ref p) G'' Q') → g W0 (.int z) (wipeD σ vs) G' fun σ2 G2 => te W0 σ2 G2 Q')
    (q : ∀ p G', Ext G G' → G' p = some (.lst (((wantsW w).map fun z => (barsW v).any fun y => decide (y = z)).map .bl)) → Q (.ref p) G') : lcR g dYes te vs σ Q ((wantsW w).map D.int) stay G := by
  refine lcR_val (fun x => match x with
    | .int z => .bl ((barsW v).any fun y => decide (y = z))
    | _ => .non) (by have := wants_len (w := w); simp; omega) hs (fun x hx G' Q' xt kk => ?_) fun p G' hp xt e1 => q p G' xt (by rw [e1, List.map_map, List.map_map]; rfl)
  obtain ⟨z, hz, rfl⟩ := List.mem_map.mp hx
  refine e z G' Q' fun p G'' x2 ep => ?_
  refine in_r (.inl ep) (.int z) (Dds.map_int _) sh_int sh_ints ?_
  rw [any_ints, Bool.false_xor]
  exact kk _ x2
theorem hit_any {w v : Wi} : ((wantsW w).map fun z => (barsW v).any fun y => decide (y = z)).any id = hitW w v := by
  rw [List.any_map]; rfl
theorem b_do_fight : Body t_do_fight N_do_fight sp_do_fight := by
  rintro ds G q x ⟨w, v, rfl, bw, bv, hq⟩
  unfold t_do_fight N_do_fight
  walk_at "e"
  refine ⟨w, rfl, bw, fun p1 G1 hp1 x1 e1 => ?_⟩
  walk_at "e"
  refine ⟨_, .inl e1, ?_⟩
  refine hit_ok bv (fun G' xt => .inl (xt.at e1)) (fun z G' Q' kk => ?_) fun p2 G2 x2 e2 => ?_
  · walk_at "e"
    exact ⟨v, rfl, bv, fun p G'' _ x2 ep => kk p G'' x2 ep⟩
  walk_at "e"
  refine ⟨_, .inl e2, ?_⟩
  rw [hit_any]
  have x02 := x1.trans x2
  refine ⟨fun h => ?_, fun h1 => ?_⟩
  · have := hq G2 x02
    unfold fightV at this
    rw [h] at this; exact this
  unfold t_do_fight_r3
  walk_at "e"
  refine ⟨v, rfl, bv, fun p1 G3 hp1 x3 e1 => ?_⟩
  walk_at "e"
  refine ⟨_, .inl e1, ?_⟩
  refine hit_ok bw (fun G' xt => .inl (xt.at e1)) (fun z G' Q' kk => ?_) fun p2 G4 x4 e2 => ?_
  · walk_at "e"
    exact ⟨w, rfl, bw, fun p G'' _ x2 ep => kk p G'' x2 ep⟩
  walk_at "e"
  refine ⟨_, .inl e2, ?_⟩
  rw [hit_any]
  have x04 := (x02.trans x3).trans x4
  refine ⟨fun h => ?_, fun h2 => ?_⟩
  · have := hq G4 x04
    unfold fightV at this
    rw [h1, h] at this; exact this
  have fin := hq G4 x04
  unfold fightV at fin
  rw [h1, h2] at fin
  simp only [Bool.false_or] at fin
  unfold t_do_fight_r2 t_do_fight_r1
  cases w with
  | held i j S =>
    cases v with
    | held i' j' S' =>
      obtain ⟨b1, b2, b3, b4, b5⟩ := bw
      obtain ⟨c1, c2, c3, c4, c5⟩ := bv
      have pS : Pu 1 (.tup (S.map .int)) := pu_ints (by omega)
      have pS' : Pu 1 (.tup (S'.map .int)) := pu_ints (by omega)
      have pi : ∀ a b : Int, Pu 1 (.tup [.int a, .int b]) := fun a b => pu_ints (zs := [a, b]) (by simp)
      walk_at "w"
      have ec : ∀ (a : D) (_ : Nat), cut [D.str "held", .int i, .int j, a] (some 1) (some 3) = [.int i, .int j] := fun _ _ => rfl
      have ec' : ∀ (a : D) (_ : Nat), cut [D.str "held", .int i', .int j', a] (some 1) (some 3) = [.int i', .int j'] := fun _ _ => rfl
      rw [ec _ 0, ec' _ 0]
      refine eqR_of ((pi i j).1 _) ((pi i' j').1 _) (pi i j).2 (pi i' j').2 (by decide) ?_
      walk_at "e"
      have e3 : eqB (.tup [.int i, .int j]) (.tup [.int i', .int j']) = decide (i = i' ∧ j = j') := by
        show eqBs ([i, j].map .int) ([i', j'].map .int) = _
        rw [eqBs_int2]; simp
      rw [e3]
      simp only [heldPart] at fin
      refine ⟨fun e4 => ?_, fun e4 => ?_⟩
      · refine eqR_of (pS.1 _) (pS'.1 _) pS.2 pS'.2 (by decide) ?_
        have e5 : eqB (.tup (S.map .int)) (.tup (S'.map .int)) = decide (S = S') := eqBs_int2
        rw [e5]
        rw [e4] at fin
        simpa using fin
      · rw [e4] at fin
        simpa using fin
    | _ => walk_at "w"; exact fin
  | _ => walk_at "w"; exact fin
theorem b__law_do_fight : Body t__law_do_fight N__law_do_fight sp__law_do_fight := by
  rintro ds G q x ⟨w, v, rfl, bw, bv, hq⟩
  unfold t__law_do_fight N__law_do_fight
  walk_at "e"
  refine ⟨w, rfl, bw, fun p1 G1 hp1 x1 e1 => ?_⟩
  walk_at "e"
  refine ⟨_, .inl e1, ?_⟩
  refine hit_ok bv (fun G' xt => .inl (xt.at e1)) (fun z G' Q' kk => ?_) fun p2 G2 x2 e2 => ?_
  · walk_at "e"
    exact ⟨v, rfl, bv, fun p G'' _ x2 ep => kk p G'' x2 ep⟩
  walk_at "e"
  refine ⟨_, .inl e2, ?_⟩
  rw [hit_any]
  have x02 := x1.trans x2
  refine ⟨fun h => ?_, fun h1 => ?_⟩
  · have := hq G2 x02
    unfold fightV at this
    rw [h] at this; exact this
  unfold t__law_do_fight_r2
  walk_at "e"
  refine ⟨v, rfl, bv, fun p1 G3 hp1 x3 e1 => ?_⟩
  walk_at "e"
  refine ⟨_, .inl e1, ?_⟩
  refine hit_ok bw (fun G' xt => .inl (xt.at e1)) (fun z G' Q' kk => ?_) fun p2 G4 x4 e2 => ?_
  · walk_at "e"
    exact ⟨w, rfl, bw, fun p G'' _ x2 ep => kk p G'' x2 ep⟩
  walk_at "e"
  refine ⟨_, .inl e2, ?_⟩
  rw [hit_any]
  have x04 := (x02.trans x3).trans x4
  refine ⟨fun h => ?_, fun h2 => ?_⟩
  · have := hq G4 x04
    unfold fightV at this
    rw [h1, h] at this; exact this
  have fin := hq G4 x04
  unfold fightV at fin
  rw [h1, h2] at fin
  simp only [Bool.false_or] at fin
  unfold t__law_do_fight_r1
  cases w with
  | held i j S =>
    cases v with
    | held i' j' S' =>
      obtain ⟨b1, b2, b3, b4, b5⟩ := bw
      obtain ⟨c1, c2, c3, c4, c5⟩ := bv
      have pS : Pu 1 (.tup (S.map .int)) := pu_ints (by omega)
      have pS' : Pu 1 (.tup (S'.map .int)) := pu_ints (by omega)
      have pi : ∀ a b : Int, Pu 1 (.tup [.int a, .int b]) := fun a b => pu_ints (zs := [a, b]) (by simp)
      walk_at "w"
      have ec : ∀ (a : D) (_ : Nat), cut [D.str "held", .int i, .int j, a] (some 1) (some 3) = [.int i, .int j] := fun _ _ => rfl
      have ec' : ∀ (a : D) (_ : Nat), cut [D.str "held", .int i', .int j', a] (some 1) (some 3) = [.int i', .int j'] := fun _ _ => rfl
      rw [ec _ 0, ec' _ 0]
      refine eqR_of ((pi i j).1 _) ((pi i' j').1 _) (pi i j).2 (pi i' j').2 (by decide) ?_
      walk_at "e"
      have e3 : eqB (.tup [.int i, .int j]) (.tup [.int i', .int j']) = decide (i = i' ∧ j = j') := by
        show eqBs ([i, j].map .int) ([i', j'].map .int) = _
        rw [eqBs_int2]; simp
      rw [e3]
      simp only [heldPart] at fin
      refine ⟨fun e4 => ?_, fun e4 => ?_⟩
      · refine eqR_of (pS.1 _) (pS'.1 _) pS.2 pS'.2 (by decide) ?_
        have e5 : eqB (.tup (S.map .int)) (.tup (S'.map .int)) = decide (S = S') := eqBs_int2
        rw [e5]
        rw [e4] at fin
        simpa using fin
      · rw [e4] at fin
        simpa using fin
    | _ => walk_at "w"; exact fin
  | _ => walk_at "w"; exact fin

end S

set_option Elab.async false
set_option linter.all false
set_option maxRecDepth 100000
set_option maxHeartbeats 4000000
namespace S
open PySem PySem.Spec L2
open PyProof.Rows hiding St
local macro_rules | `(tactic| walk_at "e") => `(tactic| try simp only [dSeq, dNext, dRet, dRetN, dIf, dAsg, dAug, dDrop, par_eq, prs_2, dBreak, dCont, dgName, dgSub, gTup_t, gCons_c, gNil_n, dFor_eq, dLc_eq, dVar, dC, dOp, dUn, dBi, dCall, dCons, dNil, dTup, dLst, dSl, part_eq, prt_i, dNoPart, dAndV, dOrV, dNotV, dB, dAnd, dOr, dNot, dIfE, dChain, itv_eq, itv_t, itv_r, dRng, dWalk, dBm, rng1_i, rng2_i, rng3_i, enumR_r, zipR_r,
  BI.r, addD_i, addD_s, addD_t, addD_r, subD_i, mulD_i, mulD_r, mulD_t, modD_i, divD_i, powD_i, ltD_i, leD_i, gtD_i, geD_i, incD_i, negD_i, lr1_i, lr2_i, revD_r, isND_n, isNon, ixD_t, ixD_r, ixD_d, setD_d, dDnew, itk_eq, itk_r, dDm, getD_r, ditD_r, dItI, iti_r, listK_r, sortedD_r, ixD_l, ixD_s, slD_t, slD_r, slD_s, setD_r, lenD_s, lenD_t, lenD_l, lenD_r, isiD_1, isiD_n, listD_t, listD_r, tupleD_t, tupleD_r, allD_r, anyD_r, sumD_r, maxD_r, maxD_2, minD_r, minD_2, absD_i, intB_i, intB_b, appD_r, startD, wipeD,
  List.map_cons, List.map_nil, rep_z, rep_s, List.length_cons, List.length_nil, List.cons_append, List.nil_append, List.append_nil, List.getElem?_cons_zero, List.getElem?_cons_succ, List.set_cons_zero, List.set_cons_succ, Option.some.injEq, exists_eq_left', exists_eq_left, D.bl.injEq, D.int.injEq, D.tup.injEq, D.ref.injEq, true_and, and_true, Nat.reduceAdd, Nat.reduceSub, Nat.add_sub_cancel_left, exists_const, br_t, br_f, eqR_int, eqR_bl, Bool.false_bne, Bool.true_bne, Bool.false_xor, Bool.true_xor, Bool.not_true, Bool.not_false, Bool.not_not, ite_true, ite_false, Bool.true_eq_false, false_implies, decide_true, decide_false, tc_int, tc_bool, tc_str, tc_tup, tc_lst, tc_non, tc_dic, ln0, ln1, ln2, ln3, ln4, ln5, ln6, ln7, ln8, ln9, ln10, ln11, ln12, ln13, ln14, ln15, ln16, ln17, ln18, ln19, ln20, ln21, ln22, ln23, ln24, ln25, ln26, ln27, ln28, ln29, ln30, ln31, ln32, ln33, ln34, ln35, ln36, ln37, ln38, ln39, ln40, ln41, ln42, ln43, ln44, ln45, ln46, ln47, ln48, ln49, ln50, ln51, ln52, ln53, ln54, ln55, ln56, ln57, ln58, ln59, ln60])
local macro_rules | `(tactic| walk_at "g") => `(tactic| try simp only [st_same, st_st, GO.lst.injEq, Option.some.injEq, exists_eq_left', exists_eq_left, atI_0, atI_1, atI_2, atI_3, ixN_0, ixN_1, ixN_2, ixN_3, List.set_cons_zero, List.set_cons_succ, List.length_cons, List.length_nil, List.length_append, List.cons_append, List.nil_append, true_and, and_true, seq_st])
/-! ## wishes that fight -/
def fAt (ws : List Wi) (p l : Nat) : Bool := match ws[p]?, ws[l]? with
  | some a, some b => fightV a b
  | _, _ => false
def NoF (ws : List Wi) (l : Nat) : Prop := ∀ l' < l, ∀ p < l', fAt ws p l' = false
def Res (ws : List Wi) (r : D) : Prop := (r = .non ∧ NoF ws ws.length) ∨ ∃ p l : Nat, r = .tup [.int p, .int l] ∧ l < ws.length ∧ p < l ∧ NoF ws l ∧ fAt ws p l = true ∧ ∀ p' < p, fAt ws p' l = false
theorem Res.uniq {ws : List Wi} {r s : D} (h : Res ws r) (k : Res ws s) : r = s := by
  rcases h with ⟨rfl, h⟩ | ⟨p, l, rfl, h1, h2, h3, h4, h5⟩ <;> rcases k with ⟨rfl, k⟩ | ⟨p', l', rfl, k1, k2, k3, k4, k5⟩
  · rfl
  · rw [h l' k1 p' k2] at k4; cases k4
  · rw [k l h1 p h2] at h4; cases h4
  · have el : l = l' := by
      rcases Nat.lt_trichotomy l l' with z | z | z
      · rw [k3 l z p h2] at h4; cases h4
      · exact z
      · rw [h3 l' z p' k2] at k4; cases k4
    subst el
    have ep : p = p' := by
      rcases Nat.lt_trichotomy p p' with z | z | z
      · rw [k5 p z] at h4; cases h4
      · exact z
      · rw [h5 p' z] at k4; cases k4
    rw [ep]
theorem Res.pu {ws : List Wi} {r : D} (h : Res ws r) : Pu 1 r := by
  rcases h with ⟨rfl, _⟩ | ⟨p, l, rfl, _⟩
  · exact pu_non
  · refine pu_tup (by simp) fun y hy => ?_
    simp only [List.mem_cons, List.not_mem_nil, or_false] at hy
    rcases hy with rfl | rfl <;> exact pu_int
def sp_fighting : DSp := fun ds G q _ => ∃ a ws, ds = [.ref a] ∧ seqG G a (ws.map Wi.d) ∧ ws.length ≤ 1000 ∧ (∀ w ∈ ws, w.Bd) ∧ ∀ r G', Res ws r → Ext G G' → q r G'
def t_fighting_b1 : TSd := dIf (dB (dCall sp_do_fight (dCons (dVar 4) (dCons (dVar 2) (dNil))))) (dRet (dTup (dCons (dVar 3) (dCons (dVar 1) (dNil))))) (dNext)
def t_fighting_b2 : TSd := dFor (dWalk enumR (dCons (dSl (dVar 0) dNoPart (dPart (dVar 1))) (dNil))) (dgTup 2 (dgCons (dgName 3) (dgCons (dgName 4) (dgNil)))) t_fighting_b1
def N_fighting : List Str := ["wishes", "later", "other", "place", "one"]
def P_fighting : List Str := ["wishes"]
def t_fighting : TSd := dSeq (dFor (dWalk enumR (dCons (dVar 0) (dNil))) (dgTup 2 (dgCons (dgName 1) (dgCons (dgName 2) (dgNil)))) t_fighting_b2) (dRet (dC .non))
def gl_fighting : List (Str × GI) := [("enumerate", .enum), ("do_fight", .fn sp_do_fight)]
theorem len_fighting : ∀ ds G q x, sp_fighting ds G q x → ds.length = P_fighting.length := by
  rintro _ _ _ _ ⟨w, v, rfl, _⟩; rfl
theorem b_fighting : Body t_fighting N_fighting sp_fighting := by
  rintro ds G q x ⟨a, ws, rfl, sq, hl, bd, hq⟩
  unfold t_fighting N_fighting
  walk_at "e"
  refine ⟨_, sq, ?_⟩
  refine ⟨fun i σ G1 => Ext G G1 ∧ NoF ws i ∧ ∃ o1 o2 o3 o4, σ = [some (.ref a), o1, o2, o3, o4], ⟨.refl, fun l h => by omega, _, _, _, _, rfl⟩, fun i σ G1 h => h.1.seq (by simp) sq, ?_, ?_⟩
  · rintro i x σ G1 ex ⟨x1, nf, o1, o2, o3, o4, rfl⟩
    obtain ⟨z, ez, rfl⟩ := enumL_get ex
    rw [List.getElem?_map] at ez
    obtain ⟨w, ew, rfl⟩ := Option.map_eq_some_iff.mp ez
    unfold t_fighting_b2
    walk_at "e"
    refine ⟨_, x1.seq (by simp) sq, ?_⟩
    intro p hp
    generalize ep : st G1 p _ = G2
    obtain ⟨xp, kp⟩ := nu hp ep
    rw [cut_to (by omega), Int.toNat_natCast, ← List.map_take] at kp
    refine ⟨_, .inl kp, ?_⟩
    refine ⟨fun j σ G3 => Ext G2 G3 ∧ (∀ p < j, fAt ws p i = false) ∧ ∃ o3 o4, σ = [some (.ref a), some (.int i), some w.d, o3, o4], ⟨.refl, fun l h => by omega, _, _, rfl⟩, fun j σ G3 h => .inl (h.1.at kp), ?_, ?_⟩
    · rintro j y σ G3 ey ⟨x3, nj, o3, o4, rfl⟩
      obtain ⟨u, eu, rfl⟩ := enumL_get ey
      rw [List.getElem?_map] at eu
      obtain ⟨v, ev, rfl⟩ := Option.map_eq_some_iff.mp eu
      have hj : j < i := by
        have := (List.getElem?_eq_some_iff.mp ev).1
        rw [List.length_take] at this; omega
      rw [List.getElem?_take_of_lt hj] at ev
      have ef : fAt ws j i = fightV v w := by unfold fAt; rw [ev, ew]
      unfold t_fighting_b1
      walk_at "e"
      refine ⟨v, w, rfl, bd v (List.mem_of_getElem? ev), bd w (List.mem_of_getElem? ew), fun G4 x4 => ?_⟩
      walk_at "e"
      have x04 := ((x1.trans xp).trans x3).trans x4
      refine ⟨fun h => hq _ G4 (.inr ⟨j, i, rfl, (List.getElem?_eq_some_iff.mp ew).1, hj, nf, by rw [ef]; exact h, nj⟩) x04, fun h => ⟨x3.trans x4, fun p hp => ?_, _, _, rfl⟩⟩
      by_cases e : p = j
      · rw [e, ef]; exact h
      · exact nj p (by omega)
    · rintro σ G3 ⟨x3, nj, o3, o4, rfl⟩
      refine ⟨(x1.trans xp).trans x3, fun l hl p hp => ?_, _, _, _, _, rfl⟩
      by_cases e : l = i
      · subst e
        refine nj p ?_
        have := (List.getElem?_eq_some_iff.mp ew).1
        simp [enumL]; omega
      · exact nf l (by omega) p hp
  · rintro σ G1 ⟨x1, nf, o1, o2, o3, o4, rfl⟩
    have e : (enumL (ws.map Wi.d)).length = ws.length := by simp [enumL]
    rw [e] at nf
    exact hq _ G1 (.inl ⟨rfl, nf⟩) x1
theorem sel_head {t : Nat → D → Bool} : ∀ {xs : List D} {k : Nat}, ((((xs.zipIdx k).filter fun p => t p.2 p.1).map fun p => p.1) = [] ∧ ∀ (i : Nat) x, xs[i]? = some x → t (k + i) x = false) ∨
    ∃ (i : Nat) (x : D) (r : List D), (((xs.zipIdx k).filter fun p => t p.2 p.1).map fun p => p.1) = x :: r ∧ xs[i]? = some x ∧ t (k + i) x = true ∧ ∀ j < i, ∀ y, xs[j]? = some y → t (k + j) y = false
  | [], k => .inl ⟨rfl, by simp⟩
  | x :: xs, k => by
    rw [List.zipIdx_cons, List.filter_cons]
    cases e : t k x with
    | true => exact .inr ⟨0, x, _, by simp only [e, if_true, List.map_cons]; rfl, rfl, e, fun j hj => by omega⟩
    | false =>
      simp only [e, Bool.false_eq_true, if_false]
      rcases sel_head (t := t) (xs := xs) (k := k + 1) with ⟨h1, h2⟩ | ⟨i, y, r, h1, h2, h3, h4⟩
      · refine .inl ⟨h1, fun i y ey => ?_⟩
        cases i with
        | zero => cases ey; exact e
        | succ i => have := h2 i y (by simpa using ey); rwa [show k + (i + 1) = k + 1 + i by omega]
      · refine .inr ⟨i + 1, y, r, h1, by simpa using h2, by rwa [show k + (i + 1) = k + 1 + i by omega], fun j hj z ez => ?_⟩
        cases j with
        | zero => cases ez; exact e
        | succ j => have := h4 j (by omega) z (by simpa using ez); rwa [show k + (j + 1) = k + 1 + j by omega]
theorem sel_sub {t : Nat → D → Bool} {xs : List D} {k : Nat} {y : D} (h : y ∈ (((xs.zipIdx k).filter fun p => t p.2 p.1).map fun p => p.1)) : y ∈ xs := by
  obtain ⟨p, hp, rfl⟩ := List.mem_map.mp h
  obtain ⟨a, b⟩ := p
  have := (List.mem_filter.mp hp).1
  exact (List.mem_zipIdx this).2.2 ▸ List.getElem_mem _

end S

set_option Elab.async false
set_option linter.all false
set_option maxRecDepth 100000
set_option maxHeartbeats 4000000
namespace S
open PySem PySem.Spec L2
open PyProof.Rows hiding St
local macro_rules | `(tactic| walk_at "e") => `(tactic| try simp only [dSeq, dNext, dRet, dRetN, dIf, dAsg, dAug, dDrop, par_eq, prs_2, dBreak, dCont, dgName, dgSub, gTup_t, gCons_c, gNil_n, dFor_eq, dLc_eq, dVar, dC, dOp, dUn, dBi, dCall, dCons, dNil, dTup, dLst, dSl, part_eq, prt_i, dNoPart, dAndV, dOrV, dNotV, dB, dAnd, dOr, dNot, dIfE, dChain, itv_eq, itv_t, itv_r, dRng, dWalk, dBm, rng1_i, rng2_i, rng3_i, enumR_r, zipR_r,
  BI.r, addD_i, addD_s, addD_t, addD_r, subD_i, mulD_i, mulD_r, mulD_t, modD_i, divD_i, powD_i, ltD_i, leD_i, gtD_i, geD_i, incD_i, negD_i, lr1_i, lr2_i, revD_r, isND_n, isNon, ixD_t, ixD_r, ixD_d, setD_d, dDnew, itk_eq, itk_r, dDm, getD_r, ditD_r, dItI, iti_r, listK_r, sortedD_r, ixD_l, ixD_s, slD_t, slD_r, slD_s, setD_r, lenD_s, lenD_t, lenD_l, lenD_r, isiD_1, isiD_n, listD_t, listD_r, tupleD_t, tupleD_r, allD_r, anyD_r, sumD_r, maxD_r, maxD_2, minD_r, minD_2, absD_i, intB_i, intB_b, appD_r, startD, wipeD,
  List.map_cons, List.map_nil, rep_z, rep_s, List.length_cons, List.length_nil, List.cons_append, List.nil_append, List.append_nil, List.getElem?_cons_zero, List.getElem?_cons_succ, List.set_cons_zero, List.set_cons_succ, Option.some.injEq, exists_eq_left', exists_eq_left, D.bl.injEq, D.int.injEq, D.tup.injEq, D.ref.injEq, true_and, and_true, Nat.reduceAdd, Nat.reduceSub, Nat.add_sub_cancel_left, exists_const, br_t, br_f, eqR_int, eqR_bl, Bool.false_bne, Bool.true_bne, Bool.false_xor, Bool.true_xor, Bool.not_true, Bool.not_false, Bool.not_not, ite_true, ite_false, Bool.true_eq_false, false_implies, decide_true, decide_false, tc_int, tc_bool, tc_str, tc_tup, tc_lst, tc_non, tc_dic, ln0, ln1, ln2, ln3, ln4, ln5, ln6, ln7, ln8, ln9, ln10, ln11, ln12, ln13, ln14, ln15, ln16, ln17, ln18, ln19, ln20, ln21, ln22, ln23, ln24, ln25, ln26, ln27, ln28, ln29, ln30, ln31, ln32, ln33, ln34, ln35, ln36, ln37, ln38, ln39, ln40, ln41, ln42, ln43, ln44, ln45, ln46, ln47, ln48, ln49, ln50, ln51, ln52, ln53, ln54, ln55, ln56, ln57, ln58, ln59, ln60])
local macro_rules | `(tactic| walk_at "g") => `(tactic| try simp only [st_same, st_st, GO.lst.injEq, Option.some.injEq, exists_eq_left', exists_eq_left, atI_0, atI_1, atI_2, atI_3, ixN_0, ixN_1, ixN_2, ixN_3, List.set_cons_zero, List.set_cons_succ, List.length_cons, List.length_nil, List.length_append, List.cons_append, List.nil_append, true_and, and_true, seq_st])
local macro_rules | `(tactic| walk_at "w") => `(tactic| (try simp only [Wi.d] at *; walk_at "e"; try simp only [atI_0, atI_1, atI_2, atI_3, Option.some.injEq, exists_eq_left', eqR_s ok_border ok_border, eqR_s ok_border ok_joined, eqR_s ok_border ok_held, eqR_s ok_border ok_span, eqR_s ok_joined ok_border, eqR_s ok_joined ok_joined, eqR_s ok_joined ok_held, eqR_s ok_joined ok_span, eqR_s ok_held ok_border, eqR_s ok_held ok_joined, eqR_s ok_held ok_held, eqR_s ok_held ok_span, eqR_s ok_span ok_border, eqR_s ok_span ok_joined, eqR_s ok_span ok_held, eqR_s ok_span ok_span, bb, bj, bh, bs, jb, jj, jh, js, hb, hj, hh, hs, sb, sj, shh, ss]; walk_at "e"))
/-! ## comprehensions over values -/
theorem lcR_filM {α : Type} {te : TEd} {tt : TTd} {vs : List Nat} {σ : Sd} {Q : Qd} {stay : Hd → Prop} {G0 : Hd} {g : TGd} (ps : List α) (g0 : α → D) (t : α → Bool) (f : α → D) (hl : ps.length ≤ 1000000) (hs : ∀ G', Ext G0 G' → stay G')
    (el : ∀ c ∈ ps, ∀ G' (Q' : Qd) (Z : Hd → Prop), Ext G0 G' → (t c = true → ∀ G'', Ext G' G'' → Q' (f c) G'') → (t c = false → ∀ G'', Ext G' G'' → Z G'') → g W0 (g0 c) (wipeD σ vs) G' fun σ2 G2 => tt W0 σ2 G2 fun k G3 => Br k (te W0 σ2 G3 Q') (Z G3))
    (q : ∀ p G', G0 p = none → Ext G0 G' → G' p = some (.lst ((ps.filter t).map f)) → Q (.ref p) G') : lcR g tt te vs σ Q (ps.map g0) stay G0 := by
  intro p hp
  refine ⟨fun i G => i ≤ ps.length ∧ Ext G0 G ∧ G p = some (.lst (((ps.take i).filter t).map f)), ⟨Nat.zero_le _, Xt.new hp, by simp⟩,
    fun i G h => hs G h.2.1, ?_, fun G ⟨_, x, e⟩ => q p G hp x (by rw [e, List.length_map, List.take_length])⟩
  rintro i x G ex ⟨hi, xt, e⟩
  rw [List.getElem?_map] at ex
  obtain ⟨c, ec, rfl⟩ := Option.map_eq_some_iff.mp ex
  have hi2 : i < ps.length := (List.getElem?_eq_some_iff.mp ec).1
  have tk : ps.take (i + 1) = ps.take i ++ [c] := by rw [List.take_add_one, ec]; rfl
  refine el c (List.mem_of_getElem? ec) G _ _ xt (fun ht G4 x4 => ?_) fun hf G4 x4 => ?_
  · refine ⟨_, x4.at e, line_lt ?_, by omega, (xt.trans x4).put' hp, ?_⟩
    · rw [List.length_map]
      have := List.length_filter_le t (ps.take i)
      rw [List.length_take] at this; omega
    · rw [st_same, tk, List.filter_append, List.map_append]
      simp [List.filter_cons, ht]
  · refine ⟨by omega, xt.trans x4, ?_⟩
    rw [x4.at e, tk, List.filter_append, List.map_append]
    simp [List.filter_cons, hf]
theorem lcR_valM {α : Type} {te : TEd} {vs : List Nat} {σ : Sd} {Q : Qd} {stay : Hd → Prop} {G0 : Hd} {g : TGd} (ps : List α) (g0 f : α → D) (hl : ps.length ≤ 1000000) (hs : ∀ G', Ext G0 G' → stay G')
    (el : ∀ c ∈ ps, ∀ G' (Q' : Qd), Ext G0 G' → (∀ G'', Ext G' G'' → Q' (f c) G'') → g W0 (g0 c) (wipeD σ vs) G' fun σ2 G2 => te W0 σ2 G2 Q')
    (q : ∀ p G', G0 p = none → Ext G0 G' → G' p = some (.lst (ps.map f)) → Q (.ref p) G') : lcR g dYes te vs σ Q (ps.map g0) stay G0 := by
  refine lcR_filM ps g0 (fun _ => true) f hl hs (fun c hc G' Q' Z xt k1 k2 => ?_) fun p G' hp xt e => q p G' hp xt (by rw [e, List.filter_eq_self.mpr (fun _ _ => rfl)])
  unfold dYes
  simp only [br_t]
  exact el c hc G' Q' xt (k1 rfl)
/-! ## what fits a wish -/
def overV (b e p : Int) : Bool := decide (b < p) && decide (p < e)
def sp_goes_over : DSp := fun ds G q _ => ∃ b e p : Int, ds = [.int b, .int e, .int p] ∧ q (.bl (overV b e p)) G
def N_goes_over : List Str := ["begin", "end", "place"]
def P_goes_over : List Str := ["begin", "end", "place"]
def t_goes_over : TSd := dRet (dChain ltD ltD (dVar 0) (dVar 2) (dVar 1))
def gl_goes_over : List (Str × GI) := []
theorem len_goes_over : ∀ ds G q x, sp_goes_over ds G q x → ds.length = P_goes_over.length := by
  rintro _ _ _ _ ⟨b, e, p, rfl, _⟩; rfl
theorem b_goes_over : Body t_goes_over N_goes_over sp_goes_over := by
  rintro ds G q x ⟨b, e, p, rfl, hq⟩
  unfold t_goes_over N_goes_over
  walk_at "e"
  unfold overV at hq
  refine ⟨fun h => ?_, fun h => ?_⟩
  · rw [h, Bool.true_and] at hq; exact hq
  · rw [h, Bool.false_and] at hq; exact hq
def stretchV (b e i j : Int) (k : Bool) : Bool := !(overV b e i || overV b e j) && (decide (b < i) || decide (j < e) || (decide (b = i) && decide (e = j) && k))
def fitV (b : Int) (p : Pc) : Wi → Bool
  | .border i => !overV b p.at_ i
  | .joined i => !decide (b = i) && !decide (p.at_ = i)
  | .held i j S => stretchV b p.at_ i j (decide (p.signs = S))
  | .span i j => stretchV b p.at_ i j true
def sp_fits : DSp := fun ds G q _ => ∃ (b : Int) (p : Pc) (w : Wi), ds = [.int b, p.d, w.d] ∧ p.signs.length ≤ 24 ∧ w.Bd ∧ q (.bl (fitV b p w)) G
def t_fits_r1 : TSd := dRet (dOrV (dOp (eqR false) (dOp ixD (dVar 2) (dC (.int 0))) (dC (.str "span"))) (dOp (eqR false) (dOp ixD (dVar 1) (dC (.int 1))) (dOp ixD (dVar 2) (dC (.int 3)))))
def t_fits_r2 : TSd := dSeq (dIf (dOr (dB (dOp (eqR true) (dVar 0) (dOp ixD (dVar 2) (dC (.int 1))))) (dB (dOp (eqR true) (dVar 3) (dOp ixD (dVar 2) (dC (.int 2)))))) (dRet (dC (.bl false))) (dNext)) t_fits_r1
def t_fits_r3 : TSd := dSeq (dIf (dOr (dB (dOp ltD (dVar 0) (dOp ixD (dVar 2) (dC (.int 1))))) (dB (dOp gtD (dVar 3) (dOp ixD (dVar 2) (dC (.int 2)))))) (dRet (dC (.bl true))) (dNext)) t_fits_r2
def t_fits_r4 : TSd := dSeq (dIf (dOr (dB (dCall sp_goes_over (dCons (dVar 0) (dCons (dVar 3) (dCons (dOp ixD (dVar 2) (dC (.int 1))) (dNil)))))) (dB (dCall sp_goes_over (dCons (dVar 0) (dCons (dVar 3) (dCons (dOp ixD (dVar 2) (dC (.int 2))) (dNil))))))) (dRet (dC (.bl false))) (dNext)) t_fits_r3
def t_fits_r5 : TSd := dSeq (dIf (dB (dOp (eqR false) (dOp ixD (dVar 2) (dC (.int 0))) (dC (.str "joined")))) (dRet (dAndV (dOp (eqR true) (dVar 0) (dOp ixD (dVar 2) (dC (.int 1)))) (dOp (eqR true) (dVar 3) (dOp ixD (dVar 2) (dC (.int 1)))))) (dNext)) t_fits_r4
def t_fits_s1 : TSd := dSeq (dIf (dB (dOp (eqR false) (dOp ixD (dVar 2) (dC (.int 0))) (dC (.str "border")))) (dRet (dNotV (dCall sp_goes_over (dCons (dVar 0) (dCons (dVar 3) (dCons (dOp ixD (dVar 2) (dC (.int 1))) (dNil))))))) (dNext)) t_fits_r5
def N_fits : List Str := ["begin", "piece", "wish", "end"]
def P_fits : List Str := ["begin", "piece", "wish"]
def t_fits : TSd := dSeq (dAsg (dOp ixD (dVar 1) (dC (.int 0))) (dgName 3)) t_fits_s1
def gl_fits : List (Str × GI) := [("goes_over", .fn sp_goes_over)]
theorem len_fits : ∀ ds G q x, sp_fits ds G q x → ds.length = P_fits.length := by
  rintro _ _ _ _ ⟨b, e, p, rfl, _⟩; rfl
theorem stretch_ok {b e i j : Int} {k : Bool} {A : Bool → Prop} (h : A (stretchV b e i j k)) : (overV b e i = true → A false) ∧ (overV b e i = false → (overV b e j = true → A false) ∧ (overV b e j = false → (decide (b < i) = true → A true) ∧ (decide (b < i) = false → (decide (j < e) = true → A true) ∧ (decide (j < e) = false → ((!decide (b = i)) = true → A false) ∧ ((!decide (b = i)) = false → ((!decide (e = j)) = true → A false) ∧ ((!decide (e = j)) = false → A k)))))) := by
  unfold stretchV at h
  refine ⟨fun h1 => by simpa [h1] using h, fun h1 => ⟨fun h2 => by simpa [h1, h2] using h, fun h2 => ⟨fun h3 => by rw [h1, h2, h3] at h; simpa using h, fun h3 => ⟨fun h4 => by rw [h1, h2, h3, h4] at h; simpa using h, fun h4 => ⟨fun h5 => by rw [Bool.not_eq_true'] at h5; rw [h1, h2, h3, h4, h5] at h; simpa using h, fun h5 => ⟨fun h6 => by rw [Bool.not_eq_false'] at h5; rw [Bool.not_eq_true'] at h6; rw [h1, h2, h3, h4, h5, h6] at h; simpa using h, fun h6 => by rw [Bool.not_eq_false'] at h5 h6; rw [h1, h2, h3, h4, h5, h6] at h; simpa using h⟩⟩⟩⟩⟩⟩
theorem pc_at0 {p : Pc} : atI [D.int p.at_, .tup (p.signs.map .int), .int p.kind, .int p.cost] 0 = some (.int p.at_) := atI_0
theorem b_fits : Body t_fits N_fits sp_fits := by
  rintro ds G q x ⟨b, p, w, rfl, hl, bd, hq⟩
  have pS : Pu 1 (.tup (p.signs.map .int)) := pu_ints (by omega)
  unfold t_fits N_fits t_fits_s1 Pc.d
  walk_at "e"
  simp only [atI_0, atI_1, Option.some.injEq, exists_eq_left']
  cases w with
  | border i =>
    walk_at "w"
    exact ⟨b, p.at_, i, rfl, by walk_at "e"; exact hq⟩
  | joined i =>
    unfold t_fits_r5
    walk_at "w"
    simp only [fitV] at hq
    refine ⟨fun h => ?_, fun h => ?_⟩
    · rw [h, Bool.true_and] at hq; exact hq
    · rw [h, Bool.false_and] at hq; exact hq
  | span i j =>
    unfold t_fits_r5 t_fits_r4 t_fits_r3 t_fits_r2 t_fits_r1
    walk_at "w"
    obtain ⟨h1, h2⟩ := stretch_ok (A := fun k => q (.bl k) G) hq
    refine ⟨b, p.at_, i, rfl, ?_⟩
    walk_at "e"
    refine ⟨h1, fun e1 => ⟨b, p.at_, j, rfl, ?_⟩⟩
    walk_at "e"
    obtain ⟨h3, h4⟩ := h2 e1
    refine ⟨h3, fun e2 => ?_⟩
    obtain ⟨h5, h6⟩ := h4 e2
    refine ⟨h5, fun e3 => ?_⟩
    obtain ⟨h7, h8⟩ := h6 e3
    refine ⟨h7, fun e4 => ?_⟩
    obtain ⟨h9, h10⟩ := h8 e4
    refine ⟨h9, fun e5 => ?_⟩
    obtain ⟨h11, h12⟩ := h10 e5
    exact ⟨h11, fun e6 => h12 e6⟩
  | held i j S =>
    obtain ⟨b1, b2, b3, b4, b5⟩ := bd
    have pS' : Pu 1 (.tup (S.map .int)) := pu_ints (by omega)
    unfold t_fits_r5 t_fits_r4 t_fits_r3 t_fits_r2 t_fits_r1
    walk_at "w"
    obtain ⟨h1, h2⟩ := stretch_ok (A := fun k => q (.bl k) G) hq
    refine ⟨b, p.at_, i, rfl, ?_⟩
    walk_at "e"
    refine ⟨h1, fun e1 => ⟨b, p.at_, j, rfl, ?_⟩⟩
    walk_at "e"
    obtain ⟨h3, h4⟩ := h2 e1
    refine ⟨h3, fun e2 => ?_⟩
    obtain ⟨h5, h6⟩ := h4 e2
    refine ⟨h5, fun e3 => ?_⟩
    obtain ⟨h7, h8⟩ := h6 e3
    refine ⟨h7, fun e4 => ?_⟩
    obtain ⟨h9, h10⟩ := h8 e4
    refine ⟨h9, fun e5 => ?_⟩
    obtain ⟨h11, h12⟩ := h10 e5
    refine ⟨h11, fun e6 => ?_⟩
    refine eqR_of (pS.1 _) (pS'.1 _) pS.2 pS'.2 (by decide) ?_
    have e7 : eqB (.tup (p.signs.map .int)) (.tup (S.map .int)) = decide (p.signs = S) := eqBs_int2
    rw [e7, Bool.false_xor]
    exact h12 e6
/-! ## thinned nets -/
def thinV (ws : List Wi) (N : List (List Pc)) : List (List Pc) := N.mapIdx fun i ps => ps.filter fun p => ws.all (fitV i p)
/-- a net of new lists -/
def NewNet (G G' : Hd) (a : Addr) (N : List (List Pc)) : Prop := G a = none ∧ ∃ as : List Addr, G' a = some (.lst (as.map .ref)) ∧ as.length = N.length ∧ ∀ (i : Nat) ps, N[i]? = some ps → ∃ ai, as[i]? = some ai ∧ G ai = none ∧ G' ai = some (.lst (ps.map Pc.d))
def sp_thinned : DSp := fun ds G q _ => ∃ (x : D) (y : Addr) (N : List (List Pc)) (ws : List Wi), ds = [x, .ref y] ∧ Dd G x (netD N) ∧ N.length ≤ 30 ∧ NetOk N.length 0 N ∧ seqG G y (ws.map Wi.d) ∧ ws.length ≤ 1000 ∧ (∀ w ∈ ws, w.Bd) ∧ ∀ a G', Ext G G' → NewNet G G' a (thinV ws N) → q (.ref a) G'
def t_thinned_b1 : TSd := dDrop (dBm "list" appendD (dVar 2) (dCons (dLc (dItV (dVar 4)) (dgName 5) (dB (dBi (BI.r .all) (dCons (dLc (dItV (dVar 1)) (dgName 6) dYes (dCall sp_fits (dCons (dVar 3) (dCons (dVar 5) (dCons (dVar 6) (dNil))))) [6]) (dNil)))) (dVar 5) [5]) (dNil)))
def t_thinned_s1 : TSd := dSeq (dFor (dWalk enumR (dCons (dVar 0) (dNil))) (dgTup 2 (dgCons (dgName 3) (dgCons (dgName 4) (dgNil)))) t_thinned_b1) (dRet (dVar 2))
def N_thinned : List Str := ["net", "wishes", "found", "begin", "pieces", "piece", "wish"]
def P_thinned : List Str := ["net", "wishes"]
def t_thinned : TSd := dSeq (dAsg (dLst (dNil)) (dgName 2)) t_thinned_s1
def gl_thinned : List (Str × GI) := [("enumerate", .enum), ("all", .bi .all), ("fits", .fn sp_fits)]
theorem len_thinned : ∀ ds G q x, sp_thinned ds G q x → ds.length = P_thinned.length := by
  rintro _ _ _ _ ⟨b, e, p, ws, rfl, _⟩; rfl
theorem thin_len {ws : List Wi} {N : List (List Pc)} : (thinV ws N).length = N.length := by simp [thinV]
theorem thin_at {ws : List Wi} {N : List (List Pc)} {i : Nat} : (thinV ws N)[i]? = N[i]?.map fun ps => ps.filter fun p => ws.all (fitV i p) := by simp [thinV, List.getElem?_mapIdx]
/-- all([f(begin, piece, wish) for wish in wishes]) -/
theorem all_ok {ws : List Wi} {te : TEd} {vs : List Nat} {σ : Sd} {Q : Qd} {stay : Hd → Prop} {G0 : Hd} {g : TGd} (f : Wi → Bool) (hl : ws.length ≤ 1000) (hs : ∀ G', Ext G0 G' → stay G')
    (el : ∀ w ∈ ws, ∀ G' (Q' : Qd), Ext G0 G' → (∀ G'', Ext G' G'' → Q' (.bl (f w)) G'') → g W0 w.d (wipeD σ vs) G' fun σ2 G2 => te W0 σ2 G2 Q')
    (q : ∀ p G', Ext G0 G' → (∃ bs : List Bool, seqG G' p (bs.map D.bl) ∧ bs.all id = ws.all f) → Q (.ref p) G') : lcR g dYes te vs σ Q (ws.map Wi.d) stay G0 := by
  refine lcR_valM ws Wi.d (fun w => .bl (f w)) (by omega) hs el fun p G' hp xt e => q p G' xt ⟨ws.map f, .inl (by rw [e, List.map_map]; rfl), ?_⟩
  rw [List.all_map]; rfl
theorem thinned_b1 {w : Wx} {E : En} {G : Hd} {x : D} {y pf ai : Addr} {i : Nat} {ps : List Pc} {ws : List Wi} {rs : List D} {o5 o6 : Option D} {n : Int} (l150 : ps.length ≤ 150) (inn : ∀ p ∈ ps, p.In i n) (sai : seqG G ai (ps.map Pc.d)) (sy : seqG G y (ws.map Wi.d)) (lw : ws.length ≤ 1000) (bw : ∀ w ∈ ws, w.Bd) (ef : G pf = some (.lst rs)) (lr : rs.length ≤ 1000)
    (hq : ∀ G' p', Xt [pf] G G' → G p' = none → G' p' = some (.lst ((ps.filter fun p => ws.all (fitV i p)).map Pc.d)) → G' pf = some (.lst (rs ++ [.ref p'])) → E.nx [some x, some (.ref y), some (.ref pf), some (.int i), some (.ref ai), o5, o6] G') :
    t_thinned_b1 w E [some x, some (.ref y), some (.ref pf), some (.int i), some (.ref ai), o5, o6] G := by
  unfold t_thinned_b1
  walk_at "e"
  refine ⟨tyD_l (.inl ef), _, sai, ?_⟩
  refine lcR_filM ps Pc.d (fun p => ws.all (fitV i p)) Pc.d (by omega) (fun G' xt => xt.seq (by simp) sai) (fun p hp G' Q' Z xt k1 k2 => ?_) fun p2 G2 hp2 x2 e2 => ?_
  · walk_at "e"
    refine ⟨_, xt.seq (by simp) sy, ?_⟩
    refine all_ok (fun w => fitV i p w) lw (fun G3 x3 => (xt.trans x3).seq (by simp) sy) (fun w hw G3 Q3 x3 kk => ?_) fun p4 G4 x4 ⟨bs, e4, eb⟩ => ?_
    · walk_at "e"
      exact ⟨i, p, w, rfl, (inn p hp).l24, bw w hw, kk _ .refl⟩
    · walk_at "e"
      refine ⟨bs, e4, ?_⟩
      rw [eb]
      exact ⟨fun h => k1 h _ x4, fun h => k2 h _ x4⟩
  · walk_at "e"
    refine ⟨rs, x2.at ef, line_lt (by omega), ?_⟩
    have n2 : p2 ≠ pf := fun z => by rw [z] at hp2; rw [ef] at hp2; cases hp2
    exact hq _ p2 (x2.ext.trans (.put (by simp))) hp2 (by rw [st_ne n2]; exact e2) st_same
theorem b_thinned : Body t_thinned N_thinned sp_thinned := by
  rintro ds G q x ⟨x, y, N, ws, rfl, h, l30, ok, sy, lw, bw, hq⟩
  obtain ⟨a, rs, rfl, sq, lr, hps⟩ := net_at h
  unfold t_thinned N_thinned t_thinned_s1
  walk_at "e"
  intro pf hpf
  generalize epf : st G pf _ = G1
  obtain ⟨xpf, kpf⟩ := nu hpf epf
  refine ⟨rs, xpf.seq (by simp) sq, ?_⟩
  refine ⟨fun i σ G3 => i ≤ rs.length ∧ Ext G G3 ∧ ∃ (as : List Addr) (o3 o4 o5 o6 : Option D), σ = [some (.ref a), some (.ref y), some (.ref pf), o3, o4, o5, o6] ∧ G3 pf = some (.lst (as.map .ref)) ∧ as.length = i ∧ ∀ (j : Nat) ps, j < i → N[j]? = some ps → ∃ aj, as[j]? = some aj ∧ aj ≠ pf ∧ G aj = none ∧ G3 aj = some (.lst ((ps.filter fun p => ws.all (fitV j p)).map Pc.d)),
    ⟨by omega, xpf, [], _, _, _, _, rfl, kpf, rfl, fun j ps h => by omega⟩, fun i σ G3 hh => hh.2.1.seq (by simp) sq, ?_, ?_⟩
  · rintro i z σ G3 ez ⟨hi, x3, as, o3, o4, o5, o6, rfl, e3, l3, al⟩
    obtain ⟨z, ez2, rfl⟩ := enumL_get ez
    have hi2 : i < N.length := by have := (List.getElem?_eq_some_iff.mp ez2).1; omega
    obtain ⟨ps, eps⟩ : ∃ ps, N[i]? = some ps := ⟨N[i], List.getElem?_eq_getElem hi2⟩
    obtain ⟨ai, eai, sai⟩ := hps i ps eps
    rw [ez2] at eai
    cases eai
    obtain ⟨l150, inn⟩ := ok i ps eps
    walk_at "e"
    refine thinned_b1 (n := N.length) l150 (fun p hp => by simpa using inn p hp) (x3.seq (by simp) sai) (x3.seq (by simp) sy) lw bw e3 (by rw [List.length_map]; omega) fun G' p' x4 hp' ep' ef' => ⟨by omega, ?_, as ++ [p'], _, _, _, _, rfl, by rw [ef', List.map_append]; rfl, by simp [l3], fun j qs hj ej => ?_⟩
    · intro a' u na' ea
      refine x4 a' u (fun m => ?_) (x3 a' u na' ea)
      rw [List.mem_singleton.mp m, hpf] at ea; cases ea
    · have np' : p' ≠ pf := fun z => by rw [z, e3] at hp'; cases hp'
      by_cases e : j = i
      · subst e
        rw [eps] at ej; cases ej
        exact ⟨p', by rw [List.getElem?_append_right (by omega), l3]; simp, np', x3.none hp', ep'⟩
      · obtain ⟨aj, h1, h2, h3, h4⟩ := al j qs (by omega) ej
        exact ⟨aj, by rw [List.getElem?_append_left (by omega)]; exact h1, h2, h3, x4.get (by simpa using h2) h4⟩
  · rintro σ G3 ⟨hi, x3, as, o3, o4, o5, o6, rfl, e3, l3, al⟩
    walk_at "e"
    have l3' : as.length = N.length := by rw [l3, ← lr]; simp [enumL]
    refine hq pf G3 x3 ⟨hpf, as, e3, by rw [thin_len]; exact l3', fun i ps e => ?_⟩
    rw [thin_at] at e
    obtain ⟨qs, e1, rfl⟩ := Option.map_eq_some_iff.mp e
    obtain ⟨aj, h1, h2, h3, h4⟩ := al i qs (by have := (List.getElem?_eq_some_iff.mp e1).1; simp [enumL]; omega) e1
    exact ⟨aj, h1, h3, h4⟩

end S

set_option Elab.async false
set_option linter.all false
set_option maxRecDepth 100000
set_option maxHeartbeats 4000000
namespace S
open PySem PySem.Spec L2
open PyProof.Rows hiding St
local macro_rules | `(tactic| walk_at "e") => `(tactic| try simp only [dSeq, dNext, dRet, dRetN, dIf, dAsg, dAug, dDrop, par_eq, prs_2, dBreak, dCont, dgName, dgSub, gTup_t, gCons_c, gNil_n, dFor_eq, dLc_eq, dVar, dC, dOp, dUn, dBi, dCall, dCons, dNil, dTup, dLst, dSl, part_eq, prt_i, dNoPart, dAndV, dOrV, dNotV, dB, dAnd, dOr, dNot, dIfE, dChain, itv_eq, itv_t, itv_r, dRng, dWalk, dBm, rng1_i, rng2_i, rng3_i, enumR_r, zipR_r,
  BI.r, addD_i, addD_s, addD_t, addD_r, subD_i, mulD_i, mulD_r, mulD_t, modD_i, divD_i, powD_i, ltD_i, leD_i, gtD_i, geD_i, incD_i, negD_i, lr1_i, lr2_i, revD_r, isND_n, isNon, ixD_t, ixD_r, ixD_d, setD_d, dDnew, itk_eq, itk_r, dDm, getD_r, ditD_r, dItI, iti_r, listK_r, sortedD_r, ixD_l, ixD_s, slD_t, slD_r, slD_s, setD_r, lenD_s, lenD_t, lenD_l, lenD_r, isiD_1, isiD_n, listD_t, listD_r, tupleD_t, tupleD_r, allD_r, anyD_r, sumD_r, maxD_r, maxD_2, minD_r, minD_2, absD_i, intB_i, intB_b, appD_r, startD, wipeD,
  List.map_cons, List.map_nil, rep_z, rep_s, List.length_cons, List.length_nil, List.cons_append, List.nil_append, List.append_nil, List.getElem?_cons_zero, List.getElem?_cons_succ, List.set_cons_zero, List.set_cons_succ, Option.some.injEq, exists_eq_left', exists_eq_left, D.bl.injEq, D.int.injEq, D.tup.injEq, D.ref.injEq, true_and, and_true, Nat.reduceAdd, Nat.reduceSub, Nat.add_sub_cancel_left, exists_const, br_t, br_f, eqR_int, eqR_bl, Bool.false_bne, Bool.true_bne, Bool.false_xor, Bool.true_xor, Bool.not_true, Bool.not_false, Bool.not_not, ite_true, ite_false, Bool.true_eq_false, false_implies, decide_true, decide_false, tc_int, tc_bool, tc_str, tc_tup, tc_lst, tc_non, tc_dic, ln0, ln1, ln2, ln3, ln4, ln5, ln6, ln7, ln8, ln9, ln10, ln11, ln12, ln13, ln14, ln15, ln16, ln17, ln18, ln19, ln20, ln21, ln22, ln23, ln24, ln25, ln26, ln27, ln28, ln29, ln30, ln31, ln32, ln33, ln34, ln35, ln36, ln37, ln38, ln39, ln40, ln41, ln42, ln43, ln44, ln45, ln46, ln47, ln48, ln49, ln50, ln51, ln52, ln53, ln54, ln55, ln56, ln57, ln58, ln59, ln60])
local macro_rules | `(tactic| walk_at "g") => `(tactic| try simp only [st_same, st_st, GO.lst.injEq, Option.some.injEq, exists_eq_left', exists_eq_left, atI_0, atI_1, atI_2, atI_3, ixN_0, ixN_1, ixN_2, ixN_3, List.set_cons_zero, List.set_cons_succ, List.length_cons, List.length_nil, List.length_append, List.cons_append, List.nil_append, true_and, and_true, seq_st])
local macro_rules | `(tactic| walk_at "w") => `(tactic| (try simp only [Wi.d] at *; walk_at "e"; try simp only [atI_0, atI_1, atI_2, atI_3, Option.some.injEq, exists_eq_left', eqR_s ok_border ok_border, eqR_s ok_border ok_joined, eqR_s ok_border ok_held, eqR_s ok_border ok_span, eqR_s ok_joined ok_border, eqR_s ok_joined ok_joined, eqR_s ok_joined ok_held, eqR_s ok_joined ok_span, eqR_s ok_held ok_border, eqR_s ok_held ok_joined, eqR_s ok_held ok_held, eqR_s ok_held ok_span, eqR_s ok_span ok_border, eqR_s ok_span ok_joined, eqR_s ok_span ok_held, eqR_s ok_span ok_span, bb, bj, bh, bs, jb, jj, jh, js, hb, hj, hh, hs, sb, sj, shh, ss]; walk_at "e"))
/-! ## what bears a wish -/
def Wi.Lt : Wi → Prop
  | .held i j _ => i < j
  | .span i j => i < j
  | _ => True
theorem Wi.Ok.lt {n : Int} {w : Wi} (h : w.Ok n) : w.Lt := by
  cases w with
  | held i j S => exact h.2.1
  | span i j => exact h.2.1
  | _ => trivial
def lastV (b : Int) (p : Pc) : Wi → Bool
  | .held i j S => !decide (b = i ∧ p.at_ = j) || decide (p.signs = S)
  | _ => true
def bearV (b : Int) (p : Pc) (w : Wi) : Bool := !((barsW w).any (fun z => decide (z = b)) || (barsW w).any fun z => decide (z = p.at_)) && (!((wantsW w).any fun z => overV b p.at_ z) && lastV b p w)
theorem rngI_any {i j p : Int} : ((rngI i j).any fun z => decide (z = p)) = (decide (i ≤ p) && decide (p < j)) := by
  rw [Bool.eq_iff_iff, List.any_eq_true]
  simp only [rngI, List.mem_map, List.mem_range, decide_eq_true_eq, Bool.and_eq_true]
  constructor
  · rintro ⟨z, ⟨k, hk, rfl⟩, rfl⟩
    omega
  · rintro ⟨h1, h2⟩
    exact ⟨p, ⟨(p - i).toNat, by omega, by omega⟩, rfl⟩
theorem bear_fit {b : Int} {p : Pc} {w : Wi} (hw : w.Lt) (h : b < p.at_) : bearV b p w = fitV b p w := by
  unfold bearV
  cases w with
  | border i => simp [barsW, wantsW, lastV, fitV]
  | joined i =>
    simp only [barsW, wantsW, lastV, fitV, List.any_cons, List.any_nil, Bool.or_false, Bool.not_false, Bool.and_true, Bool.not_or]
    rw [Bool.eq_iff_iff]; simp only [Bool.and_eq_true, Bool.not_eq_true', decide_eq_false_iff_not]; omega
  | span i j =>
    have hw : i < j := hw
    simp only [barsW, wantsW, lastV, fitV, rngI_any, List.any_cons, List.any_nil, Bool.or_false, Bool.and_true, stretchV, overV]
    rw [Bool.eq_iff_iff]
    simp only [Bool.and_eq_true, Bool.or_eq_true, Bool.not_eq_true', Bool.or_eq_false_iff, Bool.and_eq_false_iff, decide_eq_true_eq, decide_eq_false_iff_not]
    omega
  | held i j S =>
    have hw : i < j := hw
    simp only [barsW, wantsW, lastV, fitV, rngI_any, List.any_cons, List.any_nil, Bool.or_false, stretchV, overV]
    cases e : decide (p.signs = S)
    · rw [Bool.eq_iff_iff]
      simp only [Bool.and_eq_true, Bool.or_eq_true, Bool.not_eq_true', Bool.or_eq_false_iff, Bool.and_eq_false_iff, decide_eq_true_eq, decide_eq_false_iff_not, Bool.or_false, Bool.false_eq_true, and_false, or_false]
      omega
    · rw [Bool.eq_iff_iff]
      simp only [Bool.and_eq_true, Bool.or_eq_true, Bool.not_eq_true', Bool.or_eq_false_iff, Bool.and_eq_false_iff, decide_eq_true_eq, decide_eq_false_iff_not, Bool.or_true, and_true]
      omega
def sp__law_bears : DSp := fun ds G q _ => ∃ (b : Int) (p : Pc) (w : Wi), ds = [.int b, p.d, w.d] ∧ p.signs.length ≤ 24 ∧ w.Bd ∧ w.Lt ∧ b < p.at_ ∧ ∀ G', Ext G G' → q (.bl (fitV b p w)) G'
def t__law_bears_r1 : TSd := dRet (dOrV (dOp (eqR true) (dOp ixD (dVar 2) (dC (.int 0))) (dC (.str "held"))) (dOrV (dOp (eqR true) (dTup (dCons (dVar 0) (dCons (dOp ixD (dVar 1) (dC (.int 0))) (dNil)))) (dSl (dVar 2) (dPart (dC (.int 1))) (dPart (dC (.int 3))))) (dOp (eqR false) (dOp ixD (dVar 1) (dC (.int 1))) (dOp ixD (dVar 2) (dC (.int 3))))))
def t__law_bears_r2 : TSd := dSeq (dIf (dB (dBi (BI.r .any) (dCons (dLc (dItV (dCall sp__law_wants (dCons (dVar 2) (dNil)))) (dgName 3) dYes (dChain ltD ltD (dVar 0) (dVar 3) (dOp ixD (dVar 1) (dC (.int 0)))) [3]) (dNil)))) (dRet (dC (.bl false))) (dNext)) t__law_bears_r1
def N__law_bears : List Str := ["_law_begin", "_law_piece", "_law_wish_here", "_law_place"]
def P__law_bears : List Str := ["_law_begin", "_law_piece", "_law_wish_here"]
def t__law_bears : TSd := dSeq (dIf (dOr (dB (dOp (inD false) (dVar 0) (dCall sp__law_bars (dCons (dVar 2) (dNil))))) (dB (dOp (inD false) (dOp ixD (dVar 1) (dC (.int 0))) (dCall sp__law_bars (dCons (dVar 2) (dNil)))))) (dRet (dC (.bl false))) (dNext)) t__law_bears_r2
def gl__law_bears : List (Str × GI) := [("_law_bars", .fn sp__law_bars), ("any", .bi .any), ("_law_wants", .fn sp__law_wants)]
theorem len__law_bears : ∀ ds G q x, sp__law_bears ds G q x → ds.length = P__law_bears.length := by
  rintro _ _ _ _ ⟨b, e, p, rfl, _⟩; rfl
theorem b__law_bears : Body t__law_bears N__law_bears sp__law_bears := by
  rintro ds G q x ⟨b, p, w, rfl, hl, bd, lt, hb, hq⟩
  have pS : Pu 1 (.tup (p.signs.map .int)) := pu_ints (by omega)
  have fin : ∀ G', Ext G G' → q (.bl (bearV b p w)) G' := fun G' x => by rw [bear_fit lt hb]; exact hq G' x
  unfold bearV at fin
  unfold t__law_bears N__law_bears Pc.d
  walk_at "e"
  refine ⟨w, rfl, bd, fun p1 G1 hp1 x1 e1 => ?_⟩
  refine in_r (.inl e1) (.int b) (Dds.map_int _) sh_int sh_ints ?_
  rw [any_ints]
  walk_at "e"
  refine ⟨fun h => by have := fin G1 x1; rw [h] at this; exact this, fun h1 => ?_⟩
  simp only [atI_0, Option.some.injEq, exists_eq_left']
  refine ⟨w, rfl, bd, fun p2 G2 hp2 x2 e2 => ?_⟩
  refine in_r (.inl e2) (.int p.at_) (Dds.map_int _) sh_int sh_ints ?_
  rw [any_ints]
  walk_at "e"
  have x02 := x1.trans x2
  refine ⟨fun h => by have := fin G2 x02; rw [h1, h] at this; exact this, fun h2 => ?_⟩
  unfold t__law_bears_r2
  walk_at "e"
  refine ⟨w, rfl, bd, fun p3 G3 hp3 x3 e3 => ?_⟩
  walk_at "e"
  refine ⟨_, .inl e3, ?_⟩
  refine lcR_valM (wantsW w) D.int (fun z => .bl (overV b p.at_ z)) (by have := wants_len (w := w); omega) (fun G' xt => .inl (xt.at e3)) (fun z hz G' Q' xt kk => ?_) fun p4 G4 hp4 x4 e4 => ?_
  · have kk := kk G' .refl
    unfold overV at kk
    walk_at "e"
    simp only [atI_0, Option.some.injEq, exists_eq_left']
    refine ⟨fun h => ?_, fun h => ?_⟩
    · rw [h, Bool.true_and] at kk; walk_at "e"; exact kk
    · rw [h, Bool.false_and] at kk; exact kk
  walk_at "e"
  refine ⟨(wantsW w).map fun z => overV b p.at_ z, .inl (by rw [e4, List.map_map]; rfl), ?_⟩
  have ea : ((wantsW w).map fun z => overV b p.at_ z).any id = (wantsW w).any fun z => overV b p.at_ z := by rw [List.any_map]; rfl
  rw [ea]
  have x04 := (x02.trans x3).trans x4
  refine ⟨fun h => by have := fin G4 x04; rw [h1, h2, h] at this; exact this, fun h3 => ?_⟩
  have fin := fin G4 x04
  rw [h1, h2, h3] at fin
  simp only [Bool.false_or, Bool.not_false, Bool.true_and] at fin
  unfold t__law_bears_r1
  cases w with
  | held i j S =>
    obtain ⟨b1, b2, b3, b4, b5⟩ := bd
    have pS' : Pu 1 (.tup (S.map .int)) := pu_ints (by omega)
    have pi : ∀ a b : Int, Pu 1 (.tup [.int a, .int b]) := fun a b => pu_ints (zs := [a, b]) (by simp)
    simp only [lastV] at fin
    walk_at "w"
    have ec : ∀ (a : D) (_ : Nat), cut [D.str "held", .int i, .int j, a] (some 1) (some 3) = [.int i, .int j] := fun _ _ => rfl
    rw [ec _ 0]
    refine eqR_of ((pi b p.at_).1 _) ((pi i j).1 _) (pi b p.at_).2 (pi i j).2 (by decide) ?_
    have e3 : eqB (.tup [.int b, .int p.at_]) (.tup [.int i, .int j]) = decide (b = i ∧ p.at_ = j) := by
      show eqBs ([b, p.at_].map .int) ([i, j].map .int) = _
      rw [eqBs_int2]; simp
    rw [e3]
    walk_at "e"
    refine ⟨fun e4 => ?_, fun e4 => ?_⟩
    · rw [e4, Bool.true_or] at fin; exact fin
    · refine eqR_of (pS.1 _) (pS'.1 _) pS.2 pS'.2 (by decide) ?_
      have e5 : eqB (.tup (p.signs.map .int)) (.tup (S.map .int)) = decide (p.signs = S) := eqBs_int2
      rw [e5, Bool.false_xor]
      rw [e4, Bool.false_or] at fin
      exact fin
  | _ => walk_at "w"; exact fin
/-! ## some wish -/
def sp__law_some_wish : DSp := fun ds G q _ => ∃ (b : Addr) (x : D) (N : List (List Pc)), ds = [.ref b, x] ∧ Bag G b ∧ Dv [b] G x (netD N) ∧ N.length ≤ 30 ∧ NetOk N.length 0 N ∧ N ≠ [] ∧ ∀ (w : Wi) G', w.Bd → w.Lt → Xt [b] G G' → Bag G' b → q w.d G'
def t__law_some_wish_r1 : TSd := dSeq (dAsg (dOp ixD (dVar 2) (dCall sp__law_take (dCons (dVar 0) (dCons (dBi (BI.r .len) (dCons (dVar 2) (dNil))) (dNil))))) (dgName 5)) (dSeq (dAsg (dOp ixD (dOp ixD (dVar 1) (dVar 5)) (dCall sp__law_take (dCons (dVar 0) (dCons (dBi (BI.r .len) (dCons (dOp ixD (dVar 1) (dVar 5)) (dNil))) (dNil))))) (dgName 6)) (dRet (dTup (dCons (dC (.str "held")) (dCons (dVar 5) (dCons (dOp ixD (dVar 6) (dC (.int 0))) (dCons (dOp ixD (dVar 6) (dC (.int 1))) (dNil))))))))
def t__law_some_wish_s1 : TSd := dSeq (dIf (dOr (dB (dOp (eqR false) (dVar 2) (dLst (dNil)))) (dB (dOp (eqR false) (dCall sp__law_take (dCons (dVar 0) (dCons (dC (.int 2)) (dNil)))) (dC (.int 0))))) (dRet (dCall sp__law_wish (dCons (dVar 0) (dCons (dBi (BI.r .len) (dCons (dVar 1) (dNil))) (dNil))))) (dNext)) t__law_some_wish_r1
def N__law_some_wish : List Str := ["_law_bag_here", "_law_net_here", "_law_places_here", "_law_place", "_law_pieces", "_law_begin", "_law_piece"]
def P__law_some_wish : List Str := ["_law_bag_here", "_law_net_here"]
def t__law_some_wish : TSd := dSeq (dAsg (dLc (dWalk enumR (dCons (dVar 1) (dNil))) (dgTup 2 (dgCons (dgName 3) (dgCons (dgName 4) (dgNil)))) (dB (dOp (eqR true) (dVar 4) (dLst (dNil)))) (dVar 3) [3, 4]) (dgName 2)) t__law_some_wish_s1
def gl__law_some_wish : List (Str × GI) := [("enumerate", .enum), ("_law_take", .fn sp__law_take), ("_law_wish", .fn sp__law_wish), ("len", .bi .len)]
theorem len__law_some_wish : ∀ ds G q x, sp__law_some_wish ds G q x → ds.length = P__law_some_wish.length := by
  rintro _ _ _ _ ⟨b, e, p, rfl, _⟩; rfl
theorem b__law_some_wish : Body t__law_some_wish N__law_some_wish sp__law_some_wish := by
  rintro ds G q x ⟨b, x, N, rfl, bag, h, l30, ok, ne, hq⟩
  obtain ⟨a, rs, rfl, na, sq, lr, hd, hps⟩ := netD_at h
  have n0 : 0 < N.length := by cases N with | nil => exact absurd rfl ne | cons => simp
  unfold t__law_some_wish N__law_some_wish t__law_some_wish_s1
  walk_at "e"
  refine ⟨rs, sq, ?_⟩
  refine lcR_flt (fun y => ∃ i : Nat, y = .int i ∧ ∃ ps, N[i]? = some ps ∧ ps ≠ []) (by simp [enumL]; omega) (fun G' xt => xt.seq (by simp) sq) (fun i y ey G' Q' Z xt k1 k2 => ?_) fun pl G1 ys hpl x1 e1 ly hys => ?_
  · obtain ⟨z, ez, rfl⟩ := enumL_get ey
    have hi2 : i < N.length := by have := (List.getElem?_eq_some_iff.mp ez).1; omega
    obtain ⟨ps, eps⟩ : ∃ ps, N[i]? = some ps := ⟨N[i], List.getElem?_eq_getElem hi2⟩
    obtain ⟨ai, eai, nai, sai⟩ := hps i ps eps
    rw [ez] at eai
    cases eai
    walk_at "e"
    intro p1 hp1
    generalize ep1 : st G' p1 _ = G2
    obtain ⟨xp1, kp1⟩ := nu hp1 ep1
    have sai2 := xp1.seq (by simp) (xt.seq (by simp) sai)
    obtain ⟨l150, inn⟩ := ok i ps eps
    refine eqR_of (d := .lst (ps.map Pc.d)) (e := .lst []) (sai2.elim (fun e => .lst e (pcs_dds ps)) fun e => .rol e (pcs_dds ps)) (.lst kp1 .nil) (gd_pcs (by omega) fun p hp => by have := (inn p hp).l24; omega) gd_nil (by decide) ?_
    rw [eqB_nil]
    walk_at "e"
    refine ⟨fun e => k1 _ _ xp1 ⟨i, rfl, ps, eps, fun z => ?_⟩, fun _ => k2 _ xp1⟩
    subst z; cases e
  have lys : ys.length ≤ 30 := by simp [enumL] at ly; omega
  walk_at "e"
  intro p2 hp2
  generalize ep2 : st G1 p2 _ = G2
  obtain ⟨xp2, kp2⟩ := nu hp2 ep2
  have gys : gd 1000 1 (.lst ys) := gd_lst.mpr ⟨by omega, fun y hy => by obtain ⟨i, rfl, _⟩ := hys y hy; exact gd_int⟩
  have dys : Dds G2 ys ys := by
    refine dds_pu (n := 0) fun y hy => ?_
    obtain ⟨i, rfl, _⟩ := hys y hy
    exact pu_int
  refine eqR_of (d := .lst ys) (e := .lst []) (.lst (xp2.at e1) dys) (.lst kp2 .nil) gys gd_nil (by decide) ?_
  rw [eqB_nil]
  walk_at "e"
  have x02 := x1.trans xp2
  have wish : ∀ {G3 : Hd}, Xt [b] G G3 → Bag G3 b → ∀ Q X, (∀ (w : Wi) G', w.Bd → w.Lt → Xt [b] G3 G' → Bag G' b → Q w.d G') → sp__law_wish [.ref b, .int rs.length] G3 Q X := fun {G3} x3 bag3 Q X k => ⟨b, rs.length, rfl, bag3, by omega, by omega, fun w G' ok' x4 b4 => k w G' (ok'.bd (by omega)) ok'.lt x4 b4⟩
  have nab : a ∉ [b] := na
  refine ⟨fun _ => ⟨_, .inl ⟨rs, x02.seq (by simp) sq, rfl⟩, wish x02.ext (bag.ext x02) _ _ fun w G' h1 h2 x3 b3 => hq w G' h1 h2 (x02.ext.trans x3) b3⟩, fun en => ?_⟩
  refine takes_here (bag.ext x02) (by decide) (by decide) fun r G3 _ _ x3 bag3 => ?_
  walk_at "e"
  refine ⟨fun _ => ⟨_, .inl ⟨rs, (x02.ext.trans x3).seq nab sq, rfl⟩, wish (x02.ext.trans x3) bag3 _ _ fun w G' h1 h2 x4 b4 => hq w G' h1 h2 ((x02.ext.trans x3).trans x4) b4⟩, fun _ => ?_⟩
  have hy0 : 0 < ys.length := by cases ys with | nil => cases en | cons => simp
  unfold t__law_some_wish_r1
  walk_at "e"
  have nbl : pl ∉ [b] := fresh_b bag hpl
  have e3 := x3.get nbl (xp2.at e1)
  refine ⟨_, .inl ⟨ys, .inl e3, rfl⟩, takes_here bag3 (by omega) (by omega) fun r G4 r0 r1 x4 bag4 => ?_⟩
  walk_at "e"
  obtain ⟨z, hz, hzm, _⟩ := atI_mem (xs := ys) (i := r) r0 (by omega)
  obtain ⟨j, rfl, ps, eps, pne⟩ := hys z hzm
  obtain ⟨ai, eai, nai, sai⟩ := hps j ps eps
  have hj : j < N.length := (List.getElem?_eq_some_iff.mp eps).1
  obtain ⟨l150, inn⟩ := ok j ps eps
  have x04 := (x02.ext.trans x3).trans x4
  have eat : atI rs (j : Int) = some (.ref ai) := by rw [atI_of (by omega) (by omega), Int.toNat_natCast]; exact eai
  refine ⟨ys, .inl (x4.get nbl e3), _, hz, rs, x04.seq nab sq, .ref ai, eat, rs, x04.seq nab sq, .ref ai, eat, ?_⟩
  walk_at "e"
  have hps0 : 0 < ps.length := by cases ps with | nil => exact absurd rfl pne | cons => simp
  refine ⟨_, .inl ⟨_, x04.seq nai sai, rfl⟩, takes_here bag4 (by simp; omega) (by simp; omega) fun at_ G5 a0 a1 x5 bag5 => ?_⟩
  rw [List.length_map] at a1
  walk_at "e"
  obtain ⟨c, ec⟩ : ∃ c, ps[at_.toNat]? = some c := ⟨_, List.getElem?_eq_getElem (by omega)⟩
  have cin := inn c (List.mem_of_getElem? ec)
  refine ⟨_, (x04.trans x5).seq nai sai, c.d, by rw [atI_of a0 (by simpa using a1), List.getElem?_map, ec]; rfl, ?_⟩
  have fin := hq (.held j c.at_ c.signs) G5 ⟨by omega, by omega, by have := cin.lo; omega, by have := cin.hi; omega, cin.l24⟩ (by show (j : Int) < c.at_; have := cin.lo; omega) (x04.trans x5) bag5
  unfold Pc.d
  walk_at "e"
  simp only [atI_0, atI_1, Option.some.injEq, exists_eq_left']
  exact fin

end S

set_option Elab.async false
set_option linter.all false
set_option maxRecDepth 100000
set_option maxHeartbeats 4000000
namespace S
open PySem PySem.Spec L2
open PyProof.Rows hiding St
local macro_rules | `(tactic| walk_at "e") => `(tactic| try simp only [dSeq, dNext, dRet, dRetN, dIf, dAsg, dAug, dDrop, par_eq, prs_2, dBreak, dCont, dgName, dgSub, gTup_t, gCons_c, gNil_n, dFor_eq, dLc_eq, dVar, dC, dOp, dUn, dBi, dCall, dCons, dNil, dTup, dLst, dSl, part_eq, prt_i, dNoPart, dAndV, dOrV, dNotV, dB, dAnd, dOr, dNot, dIfE, dChain, itv_eq, itv_t, itv_r, dRng, dWalk, dBm, rng1_i, rng2_i, rng3_i, enumR_r, zipR_r,
  BI.r, addD_i, addD_s, addD_t, addD_r, subD_i, mulD_i, mulD_r, mulD_t, modD_i, divD_i, powD_i, ltD_i, leD_i, gtD_i, geD_i, incD_i, negD_i, lr1_i, lr2_i, revD_r, isND_n, isNon, ixD_t, ixD_r, ixD_d, setD_d, dDnew, itk_eq, itk_r, dDm, getD_r, ditD_r, dItI, iti_r, listK_r, sortedD_r, ixD_l, ixD_s, slD_t, slD_r, slD_s, setD_r, lenD_s, lenD_t, lenD_l, lenD_r, isiD_1, isiD_n, listD_t, listD_r, tupleD_t, tupleD_r, allD_r, anyD_r, sumD_r, maxD_r, maxD_2, minD_r, minD_2, absD_i, intB_i, intB_b, appD_r, startD, wipeD,
  List.map_cons, List.map_nil, rep_z, rep_s, List.length_cons, List.length_nil, List.cons_append, List.nil_append, List.append_nil, List.getElem?_cons_zero, List.getElem?_cons_succ, List.set_cons_zero, List.set_cons_succ, Option.some.injEq, exists_eq_left', exists_eq_left, D.bl.injEq, D.int.injEq, D.tup.injEq, D.ref.injEq, true_and, and_true, Nat.reduceAdd, Nat.reduceSub, Nat.add_sub_cancel_left, exists_const, br_t, br_f, eqR_int, eqR_bl, Bool.false_bne, Bool.true_bne, Bool.false_xor, Bool.true_xor, Bool.not_true, Bool.not_false, Bool.not_not, ite_true, ite_false, Bool.true_eq_false, false_implies, decide_true, decide_false, tc_int, tc_bool, tc_str, tc_tup, tc_lst, tc_non, tc_dic, ln0, ln1, ln2, ln3, ln4, ln5, ln6, ln7, ln8, ln9, ln10, ln11, ln12, ln13, ln14, ln15, ln16, ln17, ln18, ln19, ln20, ln21, ln22, ln23, ln24, ln25, ln26, ln27, ln28, ln29, ln30, ln31, ln32, ln33, ln34, ln35, ln36, ln37, ln38, ln39, ln40, ln41, ln42, ln43, ln44, ln45, ln46, ln47, ln48, ln49, ln50, ln51, ln52, ln53, ln54, ln55, ln56, ln57, ln58, ln59, ln60])
local macro_rules | `(tactic| walk_at "g") => `(tactic| try simp only [st_same, st_st, GO.lst.injEq, Option.some.injEq, exists_eq_left', exists_eq_left, atI_0, atI_1, atI_2, atI_3, ixN_0, ixN_1, ixN_2, ixN_3, List.set_cons_zero, List.set_cons_succ, List.length_cons, List.length_nil, List.length_append, List.cons_append, List.nil_append, true_and, and_true, seq_st])
local macro_rules | `(tactic| walk_at "w") => `(tactic| (try simp only [Wi.d] at *; walk_at "e"; try simp only [atI_0, atI_1, atI_2, atI_3, Option.some.injEq, exists_eq_left', eqR_s ok_border ok_border, eqR_s ok_border ok_joined, eqR_s ok_border ok_held, eqR_s ok_border ok_span, eqR_s ok_joined ok_border, eqR_s ok_joined ok_joined, eqR_s ok_joined ok_held, eqR_s ok_joined ok_span, eqR_s ok_held ok_border, eqR_s ok_held ok_joined, eqR_s ok_held ok_held, eqR_s ok_held ok_span, eqR_s ok_span ok_border, eqR_s ok_span ok_joined, eqR_s ok_span ok_held, eqR_s ok_span ok_span, bb, bj, bh, bs, jb, jj, jh, js, hb, hj, hh, hs, sb, sj, shh, ss]; walk_at "e"))
/-! ## lists of new lists -/
def NewLs (G G' : Hd) (p : Addr) (n : Nat) (L : Nat → List D) : Prop := G p = none ∧ ∃ as : List Addr, G' p = some (.lst (as.map .ref)) ∧ as.length = n ∧ as.Nodup ∧ p ∉ as ∧ ∀ (i : Nat) ai, as[i]? = some ai → G ai = none ∧ G' ai = some (.lst (L i))
theorem lcR_news {te : TEd} {vs : List Nat} {σ : Sd} {Q : Qd} {xs : List D} {stay : Hd → Prop} {G0 : Hd} {g : TGd} (L : Nat → List D) (hl : xs.length ≤ 1000000) (hs : ∀ G', Ext G0 G' → stay G')
    (el : ∀ (i : Nat) x, xs[i]? = some x → ∀ G' (Q' : Qd), Ext G0 G' → (∀ a G'', G' a = none → Ext G' G'' → G'' a = some (.lst (L i)) → Q' (.ref a) G'') → g W0 x (wipeD σ vs) G' fun σ2 G2 => te W0 σ2 G2 Q')
    (q : ∀ p G', Ext G0 G' → NewLs G0 G' p xs.length L → Q (.ref p) G') : lcR g dYes te vs σ Q xs stay G0 := by
  intro p hp
  refine ⟨fun i G => i ≤ xs.length ∧ Ext G0 G ∧ ∃ as : List Addr, G p = some (.lst (as.map .ref)) ∧ as.length = i ∧ as.Nodup ∧ p ∉ as ∧ ∀ (j : Nat) aj, as[j]? = some aj → G0 aj = none ∧ G aj = some (.lst (L j)),
    ⟨Nat.zero_le _, Xt.new hp, [], st_same, rfl, List.nodup_nil, by simp, fun j aj h => by simp at h⟩, fun i G h => hs G h.2.1, ?_, fun G ⟨_, x, as, h1, h2, h3, h4, h5⟩ => q p G x ⟨hp, as, h1, h2, h3, h4, h5⟩⟩
  rintro i x G ex ⟨hi, xt, as, h1, h2, h3, h4, h5⟩
  have hi2 : i < xs.length := (List.getElem?_eq_some_iff.mp ex).1
  unfold dYes
  simp only [br_t]
  refine el i x ex G _ xt fun a G4 ha x4 e4 => ?_
  have nap : a ≠ p := fun z => by rw [z, h1] at ha; cases ha
  have nas : a ∉ as := fun m => by
    obtain ⟨j, hj⟩ := List.mem_iff_getElem?.mp m
    rw [(h5 j a hj).2] at ha; cases ha
  refine ⟨_, x4.at h1, line_lt (by rw [List.length_map]; omega), by omega, (xt.trans x4).put' hp, as ++ [a], by rw [st_same, List.map_append]; rfl, by simp [h2], ?_, ?_, fun j aj hj => ?_⟩
  · rw [List.nodup_append]
    refine ⟨h3, by simp, fun b hb c hc e => ?_⟩
    rw [List.mem_singleton.mp hc] at e
    exact nas (e ▸ hb)
  · intro m
    rcases List.mem_append.mp m with m | m
    · exact h4 m
    · exact nap (List.mem_singleton.mp m).symm
  · by_cases hk : j < as.length
    · rw [List.getElem?_append_left hk] at hj
      obtain ⟨k1, k2⟩ := h5 j aj hj
      have naj : aj ≠ p := fun z => h4 (z ▸ List.mem_of_getElem? hj)
      exact ⟨k1, by rw [st_ne naj]; exact x4.at k2⟩
    · rw [List.getElem?_append_right (by omega)] at hj
      have e0 : j - as.length = 0 := by
        have := (List.getElem?_eq_some_iff.mp hj).1
        simp at this; omega
      rw [e0] at hj; cases hj
      have : j = i := by omega
      subst this
      exact ⟨xt.none ha, by rw [st_ne nap]; exact e4⟩
theorem small_pos {L c : Int} (h0 : 0 ≤ L) (h1 : L ≤ 1000000) (c1 : 1 ≤ c) (c2 : c ≤ 1000) : Builtin.Range.small 0 L c = true := by
  unfold Builtin.Range.small
  rw [rangeSize_pos c1 h0]
  have hd : 0 ≤ (L + c - 1) / c := Int.ediv_nonneg (by omega) (by omega)
  have hd2 : (L + c - 1) / c ≤ L + c - 1 := Int.ediv_le_self _ (by omega)
  simp only [Builtin.Range.rangeFitsLong, Bool.and_eq_true, Bool.or_eq_true, decide_eq_true_eq, beq_iff_eq, show (c > 0) by omega, if_true]
  revert hd hd2
  generalize (L + c - 1) / c = z
  intro hd hd2
  omega
def pagesN (n : Nat) (s : Int) : Int := ((n : Int) + s - 1) / s
theorem rgc_pages {n : Nat} {s : Int} (hn : n ≤ 1000) (h1 : 1 ≤ s) (h2 : s ≤ 1000) : RgC 0 n s (pagesN n s).toNat := by
  have hd : 0 ≤ pagesN n s := Int.ediv_nonneg (by omega) (by omega)
  exact ⟨by omega, by omega, small_pos (by omega) (by omega) h1 h2, by rw [rangeSize_pos h1 (by omega)]; unfold pagesN at hd ⊢; omega⟩
/-! ## pages -/
def pageL (xs : List D) (s : Int) (i : Int) : List D := cut xs (some (i * s)) (some (i * s + s))
def sp_pages : DSp := fun ds G q _ => ∃ (a : Addr) (xs : List D) (s : Int), ds = [.ref a, .int s] ∧ seqG G a xs ∧ xs.length ≤ 100 ∧ 1 ≤ s ∧ s ≤ 10 ∧ ∀ p G', Ext G G' → NewLs G G' p (pagesN xs.length s).toNat (fun i => pageL xs s i) → q (.ref p) G'
def N_pages : List Str := ["signs", "size", "place"]
def P_pages : List Str := ["signs", "size"]
def t_pages : TSd := dRet (dLc (dRng rng3 (dCons (dC (.int 0)) (dCons (dBi (BI.r .len) (dCons (dVar 0) (dNil))) (dCons (dVar 1) (dNil))))) (dgName 2) dYes (dSl (dVar 0) (dPart (dVar 2)) (dPart (dOp addD (dVar 2) (dVar 1)))) [2])
def gl_pages : List (Str × GI) := [("range", .rng), ("len", .bi .len)]
theorem len_pages : ∀ ds G q x, sp_pages ds G q x → ds.length = P_pages.length := by
  rintro _ _ _ _ ⟨a, xs, s, rfl, _⟩; rfl
theorem pagesN_le {n : Nat} {s : Int} (h1 : 1 ≤ s) : pagesN n s ≤ n + s - 1 := by
  by_cases h : (0 : Int) ≤ n + s - 1
  · exact Int.ediv_le_self _ h
  · omega
theorem b_pages : Body t_pages N_pages sp_pages := by
  rintro ds G q x ⟨a, xs, s, rfl, sq, hl, s1, s2, hq⟩
  unfold t_pages N_pages
  walk_at "e"
  refine ⟨_, .inl ⟨_, sq, rfl⟩, ?_⟩
  walk_at "e"
  refine ⟨_, rgc_pages (by omega) s1 (by omega), ?_⟩
  have hN := pagesN_le (n := xs.length) s1
  refine lcR_news (fun i => pageL xs s i) (by rw [rngL_length]; omega) (fun _ _ => trivial) (fun i y ey G' Q' xt kk => ?_) fun p G1 x1 nn => hq p G1 x1 (by rwa [rngL_length] at nn)
  obtain ⟨h1, rfl⟩ := rngL_some ey
  walk_at "e"
  refine ⟨_, xt.seq (by simp) sq, ?_⟩
  intro p1 hp1
  generalize ep1 : st G' p1 _ = G2
  obtain ⟨xp1, kp1⟩ := nu hp1 ep1
  rw [Int.zero_add] at kp1
  exact kk p1 G2 hp1 xp1 kp1
/-! ## picked -/
def pkV (xs : List D) (s page fig : Int) : Option D := if 0 ≤ page ∧ page < pagesN xs.length s ∧ 1 ≤ fig ∧ fig ≤ ((pageL xs s page).length : Int) then (pageL xs s page)[(fig - 1).toNat]? else none
theorem pk_some {xs : List D} {s page fig : Int} (h : 0 ≤ page ∧ page < pagesN xs.length s ∧ 1 ≤ fig ∧ fig ≤ ((pageL xs s page).length : Int)) : ∃ d, pkV xs s page fig = some d ∧ (pageL xs s page)[(fig - 1).toNat]? = some d := by
  unfold pkV
  rw [if_pos h]
  have : (fig - 1).toNat < (pageL xs s page).length := by omega
  exact ⟨_, List.getElem?_eq_getElem this, List.getElem?_eq_getElem this⟩
def sp_picked : DSp := fun ds G q x => ∃ (a : Addr) (xs : List D) (s page fig : Int), ds = [.ref a, .int s, .int page, .int fig] ∧ seqG G a xs ∧ xs.length ≤ 100 ∧ 1 ≤ s ∧ s ≤ 10 ∧ (∀ d, pkV xs s page fig = some d → ∀ G', Ext G G' → q d G') ∧ (pkV xs s page fig = none → ∀ G', Ext G G' → x 6 .non G')
def t_picked_r1 : TSd := dRet (dOp ixD (dOp ixD (dVar 4) (dVar 2)) (dOp subD (dVar 3) (dC (.int 1))))
def t_picked_s1 : TSd := dSeq (dIf (dOr (dNot (dB (dChain leD ltD (dC (.int 0)) (dVar 2) (dBi (BI.r .len) (dCons (dVar 4) (dNil)))))) (dNot (dB (dChain leD leD (dC (.int 1)) (dVar 3) (dBi (BI.r .len) (dCons (dOp ixD (dVar 4) (dVar 2)) (dNil))))))) (dRaise 6) (dNext)) t_picked_r1
def N_picked : List Str := ["signs", "size", "page", "figure", "some"]
def P_picked : List Str := ["signs", "size", "page", "figure"]
def t_picked : TSd := dSeq (dAsg (dCall sp_pages (dCons (dVar 0) (dCons (dVar 1) (dNil)))) (dgName 4)) t_picked_s1
def gl_picked : List (Str × GI) := [("pages", .fn sp_pages), ("len", .bi .len), ("NoChoice", .exc)]
theorem len_picked : ∀ ds G q x, sp_picked ds G q x → ds.length = P_picked.length := by
  rintro _ _ _ _ ⟨a, xs, s, page, fig, rfl, _⟩; rfl
theorem b_picked : Body t_picked N_picked sp_picked := by
  rintro ds G q x ⟨a, xs, s, page, fig, rfl, sq, hl, s1, s2, hq, hx⟩
  unfold t_picked N_picked t_picked_s1
  walk_at "e"
  refine ⟨a, xs, s, rfl, sq, hl, s1, s2, fun p G1 x1 ⟨hp, as, e1, l1, nd, np, al⟩ => ?_⟩
  have hN : 0 ≤ pagesN xs.length s := Int.ediv_nonneg (by omega) (by omega)
  have la : ((as.map D.ref).length : Int) = pagesN xs.length s := by rw [List.length_map]; omega
  have no : ¬ (0 ≤ page ∧ page < pagesN xs.length s ∧ 1 ≤ fig ∧ fig ≤ ((pageL xs s page).length : Int)) → x 6 .non G1 := fun h => hx (by unfold pkV; rw [if_neg h]) G1 x1
  unfold dRaise
  walk_at "e"
  refine ⟨fun h1 => ⟨_, .inl ⟨_, .inl e1, rfl⟩, ?_⟩, fun h1 => no fun h => by simp at h1; omega⟩
  have h1 : 0 ≤ page := by simpa using h1
  walk_at "e"
  rw [la]
  refine ⟨fun h2 => no fun h => by simp at h2; omega, fun h2 => ?_⟩
  have h2 : page < pagesN xs.length s := by simpa using h2
  refine ⟨fun h3 => ?_, fun h3 => no fun h => by simp at h3; omega⟩
  have h3 : 1 ≤ fig := by simpa using h3
  have hi : page.toNat < as.length := by omega
  obtain ⟨ai, eai⟩ : ∃ ai, as[page.toNat]? = some ai := ⟨_, List.getElem?_eq_getElem hi⟩
  obtain ⟨nai, gai⟩ := al _ ai eai
  have ep : ((page.toNat : Nat) : Int) = page := by omega
  simp only [ep] at gai
  have eat : atI (as.map D.ref) page = some (.ref ai) := by rw [atI_of h1 (by rw [List.length_map]; omega), List.getElem?_map, eai]; rfl
  refine ⟨_, .inl e1, _, eat, _, .inl ⟨_, .inl gai, rfl⟩, ?_⟩
  walk_at "e"
  refine ⟨fun h4 => no fun h => by simp at h4; omega, fun h4 => ?_⟩
  have h4 : fig ≤ ((pageL xs s page).length : Int) := by simpa using h4
  unfold t_picked_r1
  walk_at "e"
  obtain ⟨d, hd1, hd2⟩ := pk_some ⟨h1, h2, h3, h4⟩
  refine ⟨_, .inl e1, _, eat, _, .inl gai, d, by rw [atI_of (by omega) (by omega)]; exact hd2, hq d hd1 G1 x1⟩

end S

set_option Elab.async false
set_option linter.all false
set_option maxRecDepth 100000
set_option maxHeartbeats 4000000
namespace S
open PySem PySem.Spec L2
open PyProof.Rows hiding St
local macro_rules | `(tactic| walk_at "e") => `(tactic| try simp only [dSeq, dNext, dRet, dRetN, dIf, dAsg, dAug, dDrop, par_eq, prs_2, dBreak, dCont, dgName, dgSub, gTup_t, gCons_c, gNil_n, dFor_eq, dLc_eq, dVar, dC, dOp, dUn, dBi, dCall, dCons, dNil, dTup, dLst, dSl, part_eq, prt_i, dNoPart, dAndV, dOrV, dNotV, dB, dAnd, dOr, dNot, dIfE, dChain, itv_eq, itv_t, itv_r, dRng, dWalk, dBm, rng1_i, rng2_i, rng3_i, enumR_r, zipR_r,
  BI.r, addD_i, addD_s, addD_t, addD_r, subD_i, mulD_i, mulD_r, mulD_t, modD_i, divD_i, powD_i, ltD_i, leD_i, gtD_i, geD_i, incD_i, negD_i, lr1_i, lr2_i, revD_r, isND_n, isNon, ixD_t, ixD_r, ixD_d, setD_d, dDnew, itk_eq, itk_r, dDm, getD_r, ditD_r, dItI, iti_r, listK_r, sortedD_r, ixD_l, ixD_s, slD_t, slD_r, slD_s, setD_r, lenD_s, lenD_t, lenD_l, lenD_r, isiD_1, isiD_n, listD_t, listD_r, tupleD_t, tupleD_r, allD_r, anyD_r, sumD_r, maxD_r, maxD_2, minD_r, minD_2, absD_i, intB_i, intB_b, appD_r, startD, wipeD,
  List.map_cons, List.map_nil, rep_z, rep_s, List.length_cons, List.length_nil, List.cons_append, List.nil_append, List.append_nil, List.getElem?_cons_zero, List.getElem?_cons_succ, List.set_cons_zero, List.set_cons_succ, Option.some.injEq, exists_eq_left', exists_eq_left, D.bl.injEq, D.int.injEq, D.tup.injEq, D.ref.injEq, true_and, and_true, Nat.reduceAdd, Nat.reduceSub, Nat.add_sub_cancel_left, exists_const, br_t, br_f, eqR_int, eqR_bl, Bool.false_bne, Bool.true_bne, Bool.false_xor, Bool.true_xor, Bool.not_true, Bool.not_false, Bool.not_not, ite_true, ite_false, Bool.true_eq_false, false_implies, decide_true, decide_false, tc_int, tc_bool, tc_str, tc_tup, tc_lst, tc_non, tc_dic, ln0, ln1, ln2, ln3, ln4, ln5, ln6, ln7, ln8, ln9, ln10, ln11, ln12, ln13, ln14, ln15, ln16, ln17, ln18, ln19, ln20, ln21, ln22, ln23, ln24, ln25, ln26, ln27, ln28, ln29, ln30, ln31, ln32, ln33, ln34, ln35, ln36, ln37, ln38, ln39, ln40, ln41, ln42, ln43, ln44, ln45, ln46, ln47, ln48, ln49, ln50, ln51, ln52, ln53, ln54, ln55, ln56, ln57, ln58, ln59, ln60])
local macro_rules | `(tactic| walk_at "g") => `(tactic| try simp only [st_same, st_st, GO.lst.injEq, Option.some.injEq, exists_eq_left', exists_eq_left, atI_0, atI_1, atI_2, atI_3, ixN_0, ixN_1, ixN_2, ixN_3, List.set_cons_zero, List.set_cons_succ, List.length_cons, List.length_nil, List.length_append, List.cons_append, List.nil_append, true_and, and_true, seq_st])
/-! ## commits, their parts, and how often they came -/
structure Cm where
  S : List Int
  ps : List Pc
  w : Bool
def Cm.d (c : Cm) : D := .tup [.tup (c.S.map .int), .tup (c.ps.map Pc.d), .bl c.w]
structure Cm.Ok (c : Cm) : Prop where
  lS : c.S.length ≤ 24
  lp : c.ps.length ≤ 24
  sg : ∀ p ∈ c.ps, p.signs.length ≤ 24
theorem cut_map {α β : Type} {f : α → β} {xs : List α} {lo hi : Option Int} : cut (xs.map f) lo hi = (cut xs lo hi).map f := by unfold cut; rw [List.length_map, List.map_take, List.map_drop]
abbrev LK := List Int × List Int
def kD (k : LK) : D := .tup [.tup (k.1.map .int), .tup (k.2.map .int)]
def pkD (p : LK × Int) : D := .tup [.tup (p.1.1.map .int), .tup (p.1.2.map .int), .int p.2]
def piecesFrom (S : List Int) : Int → List Pc → List (LK × Int)
  | _, [] => []
  | b, p :: r => ((cut S (some b) (some p.at_), p.signs), p.kind) :: piecesFrom S p.at_ r
def Cm.pieces (c : Cm) : List (LK × Int) := piecesFrom c.S 0 c.ps
def Cm.parts (c : Cm) : List LK := c.pieces.map (·.1)
def GoodK (k : LK) : Prop := k.1.length ≤ 24 ∧ k.2.length ≤ 24
theorem pieces_len {S : List Int} : ∀ {ps : List Pc} {b : Int}, (piecesFrom S b ps).length = ps.length
  | [], _ => rfl
  | p :: r, _ => by simp only [piecesFrom, List.length_cons, pieces_len (S := S) (ps := r)]
theorem pieces_good {S : List Int} (lS : S.length ≤ 24) : ∀ {ps : List Pc} {b : Int}, (∀ p ∈ ps, p.signs.length ≤ 24) → ∀ k ∈ piecesFrom S b ps, GoodK k.1
  | [], _, _, _, h => by cases h
  | p :: r, b, hs, k, h => by
    rcases List.mem_cons.mp h with rfl | h
    · exact ⟨Nat.le_trans cut_le lS, hs p List.mem_cons_self⟩
    · exact pieces_good lS (fun q hq => hs q (List.mem_cons_of_mem _ hq)) k h
theorem Cm.Ok.good {c : Cm} (h : c.Ok) : ∀ k ∈ c.pieces, GoodK k.1 := pieces_good h.lS h.sg
theorem Cm.Ok.len {c : Cm} (h : c.Ok) : c.pieces.length ≤ 24 := by unfold Cm.pieces; rw [pieces_len]; exact h.lp
theorem pu_k {k : LK} (h : GoodK k) : Pu 2 (kD k) := pu_tup (by simp) fun y hy => by
  simp only [List.mem_cons, List.not_mem_nil, or_false] at hy
  rcases hy with rfl | rfl
  · exact pu_ints (by have := h.1; omega)
  · exact pu_ints (by have := h.2; omega)
theorem keyOk_kD (k : LK) : keyOk (kD k) := by
  unfold keyOk kdep kD
  simp only [keyN, keysN, keysN_ints, NestedKey.depth, NestedKey.depthAll, depth_nums]
  decide
def sp_pieces_of : DSp := fun ds G q _ => ∃ c : Cm, ds = [c.d] ∧ c.Ok ∧ ∀ p G', G p = none → Ext G G' → G' p = some (.lst (c.pieces.map pkD)) → q (.ref p) G'
def t_pieces_of_b1 : TSd := dSeq (dDrop (dBm "list" appendD (dVar 1) (dCons (dTup (dCons (dSl (dOp ixD (dVar 0) (dC (.int 0))) (dPart (dVar 2)) (dPart (dVar 3))) (dCons (dVar 4) (dCons (dVar 5) (dNil))))) (dNil)))) (dAsg (dVar 3) (dgName 2))
def t_pieces_of_s1 : TSd := dSeq (dFor (dItV (dOp ixD (dVar 0) (dC (.int 1)))) (dgTup 4 (dgCons (dgName 3) (dgCons (dgName 4) (dgCons (dgName 5) (dgCons (dgName 6) (dgNil)))))) t_pieces_of_b1) (dRet (dVar 1))
def N_pieces_of : List Str := ["commit", "found", "begin", "end", "signs", "kind", "cost"]
def P_pieces_of : List Str := ["commit"]
def t_pieces_of : TSd := dSeq (dAsg (dLst (dNil)) (dgName 1)) (dSeq (dAsg (dC (.int 0)) (dgName 2)) t_pieces_of_s1)
def gl_pieces_of : List (Str × GI) := []
theorem len_pieces_of : ∀ ds G q x, sp_pieces_of ds G q x → ds.length = P_pieces_of.length := by
  rintro _ _ _ _ ⟨c, rfl, _⟩; rfl
theorem b_pieces_of : Body t_pieces_of N_pieces_of sp_pieces_of := by
  rintro ds G q x ⟨c, rfl, ok, hq⟩
  unfold t_pieces_of N_pieces_of t_pieces_of_s1 Cm.d
  walk_at "e"
  intro pf hpf
  generalize epf : st G pf _ = G1
  obtain ⟨xpf, kpf⟩ := nu hpf epf
  simp only [atI_1, Option.some.injEq, exists_eq_left']
  walk_at "e"
  refine ⟨fun i σ G3 => Ext G G3 ∧ ∃ (done : List (LK × Int)) (b : Int) (o3 o4 o5 o6 : Option D), σ = [some (.tup [.tup (c.S.map .int), .tup (c.ps.map Pc.d), .bl c.w]), some (.ref pf), some (.int b), o3, o4, o5, o6] ∧ G3 pf = some (.lst (done.map pkD)) ∧ done.length ≤ 1000 ∧ i ≤ c.ps.length ∧ c.pieces = done ++ piecesFrom c.S b (c.ps.drop i) ∧ done.length = i,
    ⟨xpf, [], 0, _, _, _, _, rfl, kpf, by simp, by omega, rfl, rfl⟩, fun _ _ _ _ => trivial, ?_, ?_⟩
  · rintro i z σ G3 ez ⟨x3, done, b, o3, o4, o5, o6, rfl, e3, l3, hi, hp, ld⟩
    rw [List.getElem?_map] at ez
    obtain ⟨p, ep, rfl⟩ := Option.map_eq_some_iff.mp ez
    have hi2 : i < c.ps.length := (List.getElem?_eq_some_iff.mp ep).1
    have dr : c.ps.drop i = p :: c.ps.drop (i + 1) := by
      rw [List.drop_eq_getElem_cons hi2]; congr 1; exact (List.getElem?_eq_some_iff.mp ep).2
    have lp := ok.lp
    unfold t_pieces_of_b1 Pc.d
    walk_at "e"
    refine ⟨tyD_l (.inl e3), ?_⟩
    simp only [atI_0, Option.some.injEq, exists_eq_left']
    walk_at "e"
    rw [cut_map]
    refine ⟨_, e3, line_lt (by rw [List.length_map]; omega), ?_⟩
    generalize ep2 : st G3 pf _ = G4
    obtain ⟨xp2, kp2⟩ := put ep2
    refine ⟨?_, done ++ [((cut c.S (some b) (some p.at_), p.signs), p.kind)], p.at_, _, _, _, _, rfl, by rw [kp2, List.map_append]; rfl, by simp; omega, by omega, by rw [hp, dr]; simp [piecesFrom], by simp [ld]⟩
    intro a u na ea
    refine xp2 a u (fun m => ?_) (x3 a u na ea)
    rw [List.mem_singleton.mp m, hpf] at ea; cases ea
  · rintro σ G3 ⟨x3, done, b, o3, o4, o5, o6, rfl, e3, l3, hi, hp, ld⟩
    walk_at "e"
    rw [List.length_map] at ld hp
    have e : c.pieces = done := by rw [hp, List.drop_length]; simp [piecesFrom]
    rw [← e] at e3
    exact hq pf G3 hpf x3 e3
def sp__law_parts : DSp := fun ds G q _ => ∃ c : Cm, ds = [c.d] ∧ c.Ok ∧ ∀ p G', G p = none → Ext G G' → G' p = some (.lst (c.parts.map kD)) → q (.ref p) G'
def t__law_parts_b1 : TSd := dSeq (dDrop (dBm "list" appendD (dVar 1) (dCons (dTup (dCons (dSl (dOp ixD (dVar 0) (dC (.int 0))) (dPart (dVar 2)) (dPart (dVar 3))) (dCons (dVar 4) (dNil)))) (dNil)))) (dAsg (dVar 3) (dgName 2))
def t__law_parts_s1 : TSd := dSeq (dFor (dItV (dOp ixD (dVar 0) (dC (.int 1)))) (dgTup 4 (dgCons (dgName 3) (dgCons (dgName 4) (dgCons (dgName 5) (dgCons (dgName 6) (dgNil)))))) t__law_parts_b1) (dRet (dVar 1))
def N__law_parts : List Str := ["_law_commit_here", "_law_found", "_law_begin", "_law_end", "_law_signs", "_law_kind", "_law_cost"]
def P__law_parts : List Str := ["_law_commit_here"]
def t__law_parts : TSd := dSeq (dAsg (dLst (dNil)) (dgName 1)) (dSeq (dAsg (dC (.int 0)) (dgName 2)) t__law_parts_s1)
def gl__law_parts : List (Str × GI) := []
theorem len__law_parts : ∀ ds G q x, sp__law_parts ds G q x → ds.length = P__law_parts.length := by
  rintro _ _ _ _ ⟨c, rfl, _⟩; rfl
theorem b__law_parts : Body t__law_parts N__law_parts sp__law_parts := by
  rintro ds G q x ⟨c, rfl, ok, hq⟩
  unfold t__law_parts N__law_parts t__law_parts_s1 Cm.d
  walk_at "e"
  intro pf hpf
  generalize epf : st G pf _ = G1
  obtain ⟨xpf, kpf⟩ := nu hpf epf
  simp only [atI_1, Option.some.injEq, exists_eq_left']
  walk_at "e"
  refine ⟨fun i σ G3 => Ext G G3 ∧ ∃ (done : List (LK × Int)) (b : Int) (o3 o4 o5 o6 : Option D), σ = [some (.tup [.tup (c.S.map .int), .tup (c.ps.map Pc.d), .bl c.w]), some (.ref pf), some (.int b), o3, o4, o5, o6] ∧ G3 pf = some (.lst ((done.map (·.1)).map kD)) ∧ done.length ≤ 1000 ∧ i ≤ c.ps.length ∧ c.pieces = done ++ piecesFrom c.S b (c.ps.drop i) ∧ done.length = i,
    ⟨xpf, [], 0, _, _, _, _, rfl, kpf, by simp, by omega, rfl, rfl⟩, fun _ _ _ _ => trivial, ?_, ?_⟩
  · rintro i z σ G3 ez ⟨x3, done, b, o3, o4, o5, o6, rfl, e3, l3, hi, hp, ld⟩
    rw [List.getElem?_map] at ez
    obtain ⟨p, ep, rfl⟩ := Option.map_eq_some_iff.mp ez
    have hi2 : i < c.ps.length := (List.getElem?_eq_some_iff.mp ep).1
    have dr : c.ps.drop i = p :: c.ps.drop (i + 1) := by
      rw [List.drop_eq_getElem_cons hi2]; congr 1; exact (List.getElem?_eq_some_iff.mp ep).2
    have lp := ok.lp
    unfold t__law_parts_b1 Pc.d
    walk_at "e"
    refine ⟨tyD_l (.inl e3), ?_⟩
    simp only [atI_0, Option.some.injEq, exists_eq_left']
    walk_at "e"
    rw [cut_map]
    refine ⟨_, e3, line_lt (by rw [List.length_map, List.length_map]; omega), ?_⟩
    generalize ep2 : st G3 pf _ = G4
    obtain ⟨xp2, kp2⟩ := put ep2
    refine ⟨?_, done ++ [((cut c.S (some b) (some p.at_), p.signs), p.kind)], p.at_, _, _, _, _, rfl, by rw [kp2, List.map_append, List.map_append]; rfl, by simp; omega, by omega, by rw [hp, dr]; simp [piecesFrom], by simp [ld]⟩
    intro a u na ea
    refine xp2 a u (fun m => ?_) (x3 a u na ea)
    rw [List.mem_singleton.mp m, hpf] at ea; cases ea
  · rintro σ G3 ⟨x3, done, b, o3, o4, o5, o6, rfl, e3, l3, hi, hp, ld⟩
    walk_at "e"
    rw [List.length_map] at ld hp
    have e : c.pieces = done := by rw [hp, List.drop_length]; simp [piecesFrom]
    rw [← e] at e3
    exact hq pf G3 hpf x3 e3
/-! the tables, by one table of both numbers -/
abbrev TT := List (LK × Int × Int)
def findT (T : TT) (k : LK) : Option (LK × Int × Int) := T.find? fun t => sameK (kD t.1) (kD k)
def putG (T : TT) (k : LK) (v : Int × Int) : TT := if (findT T k).isSome then T.map (fun t => if sameK (kD t.1) (kD k) then (t.1, v) else t) else T ++ [(k, v)]
def manyT (T : TT) (k : LK) : Int := ((findT T k).map (·.2.1)).getD 0
def stepT (T : TT) (k : LK) (i : Int) : TT := putG T k (manyT T k + 1, i + 1)
def dmap (h : Int × Int → D) (T : TT) : List (D × D) := T.map fun t => (kD t.1, h t.2)
theorem val_dmap {h : Int × Int → D} {T : TT} {k : LK} : valT (dmap h T) (kD k) = (findT T k).map fun t => h t.2 := by
  unfold valT dmap findT
  induction T with
  | nil => rfl
  | cons t T ih =>
    rw [List.map_cons, List.find?_cons, List.find?_cons]
    cases e : sameK (kD t.1) (kD k)
    · simpa only using ih
    · rfl
theorem put_dmap {h : Int × Int → D} {T : TT} {k : LK} {v : Int × Int} : putT (dmap h T) (kD k) (h v) = dmap h (putG T k v) := by
  unfold putT putG
  rw [val_dmap, Option.isSome_map]
  split
  · unfold dmap
    rw [List.map_map, List.map_map]
    refine List.map_congr_left fun t _ => ?_
    simp only [Function.comp]
    split <;> rfl
  · unfold dmap; rw [List.map_append]; rfl
def runC (i : Int) (T : TT) (ks : List LK) : TT := ks.foldl (fun T k => stepT T k i) T
def runAll (cs : List Cm) : TT := cs.zipIdx.foldl (fun T p => runC p.2 T p.1.parts) []
theorem runC_snoc {i : Int} {T : TT} {ks : List LK} {j : Nat} {k : LK} (e : ks[j]? = some k) : runC i T (ks.take (j + 1)) = stepT (runC i T (ks.take j)) k i := by
  unfold runC
  rw [List.take_add_one, e, List.foldl_append]; rfl
theorem runAll_snoc {cs : List Cm} {i : Nat} {c : Cm} (e : cs[i]? = some c) : runAll (cs.take (i + 1)) = runC i (runAll (cs.take i)) c.parts := by
  have hi : i < cs.length := (List.getElem?_eq_some_iff.mp e).1
  unfold runAll
  rw [List.take_add_one, e]
  have li : (cs.take i).length = i := by rw [List.length_take]; omega
  rw [show (some c).toList = [c] from rfl, List.zipIdx_append, li, List.foldl_append]
  simp
theorem put_len {T : TT} {k : LK} {v : Int × Int} : (putG T k v).length ≤ T.length + 1 := by
  unfold putG; split <;> simp
theorem runC_len {i : Int} : ∀ {ks : List LK} {T : TT}, (runC i T ks).length ≤ T.length + ks.length
  | [], _ => Nat.le_refl _
  | k :: ks, T => by
    have h := runC_len (i := i) (ks := ks) (T := stepT T k i)
    have h2 := put_len (T := T) (k := k) (v := (manyT T k + 1, i + 1))
    show (runC i (stepT T k i) ks).length ≤ _
    unfold stepT at h ⊢
    rw [List.length_cons]; omega
def Nod (T : TT) : Prop := (T.map fun t => keyN (kD t.1)).Nodup
theorem same_iff {a b : D} : sameK a b = true ↔ keyN a = keyN b := by unfold sameK; simp
theorem Nod.put {T : TT} {k : LK} {v : Int × Int} (h : Nod T) : Nod (putG T k v) := by
  unfold Nod putG at *
  split
  · rw [List.map_map]
    have : (T.map ((fun t : LK × Int × Int => keyN (kD t.1)) ∘ fun t => if sameK (kD t.1) (kD k) = true then (t.1, v) else t)) = T.map fun t => keyN (kD t.1) := by
      refine List.map_congr_left fun t _ => ?_
      simp only [Function.comp]
      split <;> rfl
    rw [this]; exact h
  · rename_i hn
    rw [List.map_append, List.nodup_append]
    refine ⟨h, by simp, fun a ha b hb e => ?_⟩
    obtain ⟨t, ht, rfl⟩ := List.mem_map.mp ha
    rw [List.map_singleton, List.mem_singleton] at hb
    rw [hb] at e
    have : findT T k = none := by simpa using hn
    exact List.find?_eq_none.mp this t ht (same_iff.mpr e)
theorem Nod.find : ∀ {T : TT}, Nod T → ∀ {t : LK × Int × Int}, t ∈ T → findT T t.1 = some t
  | [], _, _, h => by cases h
  | u :: T, hn, t, h => by
    unfold Nod at hn
    rw [List.map_cons, List.nodup_cons] at hn
    unfold findT
    rw [List.find?_cons]
    rcases List.mem_cons.mp h with rfl | h
    · rw [same_iff.mpr rfl]
    · have : sameK (kD u.1) (kD t.1) = false := by
        rw [Bool.eq_false_iff]
        intro e
        refine hn.1 ?_
        rw [same_iff.mp e]
        exact List.mem_map_of_mem (f := fun t : LK × Int × Int => keyN (kD t.1)) h
      rw [this]
      exact Nod.find hn.2 h
def GoodT (T : TT) : Prop := ∀ t ∈ T, GoodK t.1
theorem GoodT.put {T : TT} {k : LK} {v : Int × Int} (h : GoodT T) (hk : GoodK k) : GoodT (putG T k v) := by
  unfold putG
  split
  · intro t ht
    obtain ⟨u, hu, rfl⟩ := List.mem_map.mp ht
    split <;> exact h u hu
  · intro t ht
    rcases List.mem_append.mp ht with ht | ht
    · exact h t ht
    · rw [List.mem_singleton.mp ht]; exact hk
theorem runC_ok {i : Int} : ∀ {ks : List LK} {T : TT}, Nod T → GoodT T → (∀ k ∈ ks, GoodK k) → Nod (runC i T ks) ∧ GoodT (runC i T ks)
  | [], _, h, g, _ => ⟨h, g⟩
  | k :: ks, T, h, g, hk => runC_ok (ks := ks) h.put (g.put (hk k List.mem_cons_self)) fun l hl => hk l (List.mem_cons_of_mem _ hl)
theorem Cm.Ok.goodP {c : Cm} (h : c.Ok) : ∀ k ∈ c.parts, GoodK k := fun k hk => by
  obtain ⟨p, hp, rfl⟩ := List.mem_map.mp hk
  exact h.good p hp
theorem Cm.Ok.lenP {c : Cm} (h : c.Ok) : c.parts.length ≤ 24 := by unfold Cm.parts; rw [List.length_map]; exact h.len
theorem runAll_ok {cs : List Cm} (ok : ∀ c ∈ cs, c.Ok) : ∀ i : Nat, i ≤ cs.length → Nod (runAll (cs.take i)) ∧ GoodT (runAll (cs.take i)) ∧ (runAll (cs.take i)).length ≤ 24 * i
  | 0, _ => ⟨List.nodup_nil, (fun _ h => by simp [runAll] at h), by simp [runAll]⟩
  | i + 1, hi => by
    obtain ⟨h1, h2, h3⟩ := runAll_ok ok i (by omega)
    obtain ⟨c, ec⟩ : ∃ c, cs[i]? = some c := ⟨_, List.getElem?_eq_getElem (by omega)⟩
    have oc := ok c (List.mem_of_getElem? ec)
    rw [runAll_snoc ec]
    obtain ⟨k1, k2⟩ := runC_ok (i := i) h1 h2 oc.goodP
    have := runC_len (i := i) (ks := c.parts) (T := runAll (cs.take i))
    have := oc.lenP
    exact ⟨k1, k2, by omega⟩
def rowD (t : LK × Int × Int) : D := .tup [.tup (t.1.1.map .int), .tup (t.1.2.map .int), .int t.2.1, .int t.2.2]
theorem pu_row {t : LK × Int × Int} (h : GoodK t.1) : Pu 2 (rowD t) := pu_tup (by simp) fun y hy => by
  simp only [List.mem_cons, List.not_mem_nil, or_false] at hy
  rcases hy with rfl | rfl | rfl | rfl
  · exact pu_ints (by have := h.1; omega)
  · exact pu_ints (by have := h.2; omega)
  · exact pu_int
  · exact pu_int
theorem row_alike (p q : LK × Int × Int) : PySem.W.alike (toPy (rowD p)) (toPy (rowD q)) = true := by
  simp only [rowD, toPy, toPys, toPys_ints, PySem.W.alike, PySem.W.alikeAll, PySem.W.alike_ints, Bool.and_self]
theorem row_okd (p : LK × Int × Int) : okD (rowD p) = true := by simp only [rowD, okD, okDs, okDs_ints, Bool.and_self]
theorem row_depd (p : LK × Int × Int) : dep (rowD p) = 2 := by simp only [rowD, dep, deps, deps_ints]; rfl
theorem row_dd (p : LK × Int × Int) (G : Hd) : Dd G (rowD p) (rowD p) := .tup (.cons (.tup (Dds.map_int _)) (.cons (.tup (Dds.map_int _)) (.cons (.int _) (.cons (.int _) .nil))))
theorem rows_dds {G : Hd} : ∀ T : TT, Dds G (T.map rowD) (T.map rowD)
  | [] => .nil
  | p :: ps => .cons (row_dd p G) (rows_dds ps)
theorem rows_srt {G : Hd} {T : TT} (l : T.length ≤ 1000000) : SrtOk G (T.map rowD) where
  dd := rows_dds T
  ok := okDs_of fun x hx => by obtain ⟨p, _, rfl⟩ := List.mem_map.mp hx; exact row_okd p
  dp := deps_of fun x hx => by obtain ⟨p, _, rfl⟩ := List.mem_map.mp hx; rw [row_depd]; decide
  al := fun x hx y hy => by
    obtain ⟨p, _, rfl⟩ := List.mem_map.mp hx
    obtain ⟨q, _, rfl⟩ := List.mem_map.mp hy
    exact row_alike p q
  st := .inl fun x hx => by obtain ⟨p, _, rfl⟩ := List.mem_map.mp hx; exact ⟨_, _, rfl⟩
  len := by rw [List.length_map]; exact line_le l
def learntL (cs : List Cm) : List D := srt ((runAll cs).map rowD)
theorem learnt_rows (cs : List Cm) : ∃ T : TT, learntL cs = T.map rowD ∧ T.length = (runAll cs).length ∧ ∀ t ∈ T, t ∈ runAll cs := by
  obtain ⟨T, e, h⟩ : ∃ T : TT, learntL cs = T.map rowD ∧ ∀ t ∈ T, t ∈ runAll cs := by
    refine vals_of (f := rowD) (P := fun t => t ∈ runAll cs) fun j y e => ?_
    have := srt_mem.mp (List.mem_of_getElem? e)
    obtain ⟨t, ht, rfl⟩ := List.mem_map.mp this
    exact ⟨t, rfl, ht⟩
  refine ⟨T, e, ?_, h⟩
  have := congrArg List.length e
  unfold learntL at this
  rw [srt_len, List.length_map, List.length_map] at this
  exact this.symm

end S

set_option Elab.async false
set_option linter.all false
set_option maxRecDepth 100000
set_option maxHeartbeats 4000000
namespace S
open PySem PySem.Spec L2
open PyProof.Rows hiding St
local macro_rules | `(tactic| walk_at "e") => `(tactic| try simp only [dSeq, dNext, dRet, dRetN, dIf, dAsg, dAug, dDrop, par_eq, prs_2, dBreak, dCont, dgName, dgSub, gTup_t, gCons_c, gNil_n, dFor_eq, dLc_eq, dVar, dC, dOp, dUn, dBi, dCall, dCons, dNil, dTup, dLst, dSl, part_eq, prt_i, dNoPart, dAndV, dOrV, dNotV, dB, dAnd, dOr, dNot, dIfE, dChain, itv_eq, itv_t, itv_r, dRng, dWalk, dBm, rng1_i, rng2_i, rng3_i, enumR_r, zipR_r,
  BI.r, addD_i, addD_s, addD_t, addD_r, subD_i, mulD_i, mulD_r, mulD_t, modD_i, divD_i, powD_i, ltD_i, leD_i, gtD_i, geD_i, incD_i, negD_i, lr1_i, lr2_i, revD_r, isND_n, isNon, ixD_t, ixD_r, ixD_d, setD_d, dDnew, itk_eq, itk_r, dDm, getD_r, ditD_r, dItI, iti_r, listK_r, sortedD_r, ixD_l, ixD_s, slD_t, slD_r, slD_s, setD_r, lenD_s, lenD_t, lenD_l, lenD_r, isiD_1, isiD_n, listD_t, listD_r, tupleD_t, tupleD_r, allD_r, anyD_r, sumD_r, maxD_r, maxD_2, minD_r, minD_2, absD_i, intB_i, intB_b, appD_r, startD, wipeD,
  List.map_cons, List.map_nil, rep_z, rep_s, List.length_cons, List.length_nil, List.cons_append, List.nil_append, List.append_nil, List.getElem?_cons_zero, List.getElem?_cons_succ, List.set_cons_zero, List.set_cons_succ, Option.some.injEq, exists_eq_left', exists_eq_left, D.bl.injEq, D.int.injEq, D.tup.injEq, D.ref.injEq, true_and, and_true, Nat.reduceAdd, Nat.reduceSub, Nat.add_sub_cancel_left, exists_const, br_t, br_f, eqR_int, eqR_bl, Bool.false_bne, Bool.true_bne, Bool.false_xor, Bool.true_xor, Bool.not_true, Bool.not_false, Bool.not_not, ite_true, ite_false, Bool.true_eq_false, false_implies, decide_true, decide_false, tc_int, tc_bool, tc_str, tc_tup, tc_lst, tc_non, tc_dic, ln0, ln1, ln2, ln3, ln4, ln5, ln6, ln7, ln8, ln9, ln10, ln11, ln12, ln13, ln14, ln15, ln16, ln17, ln18, ln19, ln20, ln21, ln22, ln23, ln24, ln25, ln26, ln27, ln28, ln29, ln30, ln31, ln32, ln33, ln34, ln35, ln36, ln37, ln38, ln39, ln40, ln41, ln42, ln43, ln44, ln45, ln46, ln47, ln48, ln49, ln50, ln51, ln52, ln53, ln54, ln55, ln56, ln57, ln58, ln59, ln60])
local macro_rules | `(tactic| walk_at "g") => `(tactic| try simp only [st_same, st_st, GO.lst.injEq, Option.some.injEq, exists_eq_left', exists_eq_left, atI_0, atI_1, atI_2, atI_3, ixN_0, ixN_1, ixN_2, ixN_3, List.set_cons_zero, List.set_cons_succ, List.length_cons, List.length_nil, List.length_append, List.cons_append, List.nil_append, true_and, and_true, seq_st])
/-! ## what is learnt -/
def hkD (v : Int × Int) : D := .tup [.int v.1, .int v.2]
def sp_learnt : DSp := fun ds G q _ => ∃ (a : Addr) (cs : List Cm), ds = [.ref a] ∧ seqG G a (cs.map Cm.d) ∧ cs.length ≤ 1000 ∧ (∀ c ∈ cs, c.Ok) ∧ ∀ p G', G p = none → Ext G G' → G' p = some (.lst (learntL cs)) → q (.ref p) G'
def t_learnt_b1 : TSd := dSeq (dAsg (dOp ixD (dDm getD (dVar 1) (dCons (dTup (dCons (dVar 4) (dCons (dVar 5) (dNil)))) (dCons (dTup (dCons (dC (.int 0)) (dCons (dC (.int 0)) (dNil)))) (dNil)))) (dC (.int 0))) (dgName 7)) (dAsg (dTup (dCons (dOp addD (dVar 7) (dC (.int 1))) (dCons (dOp addD (dVar 2) (dC (.int 1))) (dNil)))) (dgSub (dVar 1) (dTup (dCons (dVar 4) (dCons (dVar 5) (dNil)))) setD))
def t_learnt_b2 : TSd := dFor (dItV (dCall sp_pieces_of (dCons (dVar 3) (dNil)))) (dgTup 3 (dgCons (dgName 4) (dgCons (dgName 5) (dgCons (dgName 6) (dgNil))))) t_learnt_b1
def t_learnt_r1 : TSd := dRet (dBi (BI.r .sorted) (dCons (dLc (dItI (dVar 1)) (dgTup 2 (dgCons (dgName 8) (dgCons (dgName 9) (dgNil)))) dYes (dOp addD (dVar 8) (dVar 9)) [8, 9]) (dNil)))
def t_learnt_s1 : TSd := dSeq (dFor (dWalk enumR (dCons (dVar 0) (dNil))) (dgTup 2 (dgCons (dgName 2) (dgCons (dgName 3) (dgNil)))) t_learnt_b2) t_learnt_r1
def N_learnt : List Str := ["commits", "known", "place", "commit", "sounds", "signs", "kind", "many", "pair", "told"]
def P_learnt : List Str := ["commits"]
def t_learnt : TSd := dSeq (dAsg (dDnew) (dgName 1)) t_learnt_s1
def gl_learnt : List (Str × GI) := [("enumerate", .enum), ("pieces_of", .fn sp_pieces_of), ("sorted", .bi .sorted)]
theorem len_learnt : ∀ ds G q x, sp_learnt ds G q x → ds.length = P_learnt.length := by
  rintro _ _ _ _ ⟨a, cs, rfl, _⟩; rfl
theorem xput {G G3 G4 : Hd} {p : Addr} (hp : G p = none) (x3 : Ext G G3) (x4 : Xt [p] G3 G4) : Ext G G4 := fun a u na ea => by
  refine x4 a u (fun m => ?_) (x3 a u na ea)
  rw [List.mem_singleton.mp m, hp] at ea; cases ea
theorem learnt_b1 {w : Wx} {E : En} {G : Hd} {pk : Addr} {T : TT} {ep : Nat} {i : Nat} {p : LK × Int} {a0 a3 a7 a8 a9 : Option D} (ek : G pk = some (.dit (dmap hkD T) ep)) (hl : T.length ≤ 900000)
    (hq : ∀ G' ep' o7, Xt [pk] G G' → G' pk = some (.dit (dmap hkD (stepT T p.1 i)) ep') → E.nx [a0, some (.ref pk), some (.int i), a3, some (.tup (p.1.1.map .int)), some (.tup (p.1.2.map .int)), some (.int p.2), o7, a8, a9] G') :
    t_learnt_b1 w E [a0, some (.ref pk), some (.int i), a3, some (.tup (p.1.1.map .int)), some (.tup (p.1.2.map .int)), some (.int p.2), a7, a8, a9] G := by
  unfold t_learnt_b1
  walk_at "e"
  refine ⟨⟨_, _, ek⟩, _, _, ek, keyOk_kD p.1, ?_⟩
  have ev : valT (dmap hkD T) (.tup [.tup (p.1.1.map .int), .tup (p.1.2.map .int)]) = (findT T p.1).map fun t => hkD t.2 := val_dmap (k := p.1)
  rw [ev]
  have em : ((findT T p.1).map fun t => hkD t.2).getD (.tup [.int 0, .int 0]) = .tup [.int (manyT T p.1), .int (((findT T p.1).map (·.2.2)).getD 0)] := by
    unfold manyT
    cases findT T p.1 <;> rfl
  rw [em]
  walk_at "e"
  simp only [atI_0, Option.some.injEq, exists_eq_left']
  walk_at "e"
  refine ⟨_, _, ek, keyOk_kD p.1, line_lt (by unfold dmap; rw [List.length_map]; omega), fun ep' => ?_⟩
  refine hq _ ep' _ (.put (by simp)) ?_
  rw [st_same]
  have := put_dmap (h := hkD) (T := T) (k := p.1) (v := (manyT T p.1 + 1, (i : Int) + 1))
  exact congrArg (fun z => some (GO.dit z ep')) this
theorem b_learnt : Body t_learnt N_learnt sp_learnt := by
  rintro ds G q x ⟨a, cs, rfl, sq, hl, ok, hq⟩
  unfold t_learnt N_learnt t_learnt_s1
  walk_at "e"
  intro pk hpk
  generalize epk : st G pk _ = G1
  obtain ⟨xpk, kpk⟩ := nu hpk epk
  refine ⟨_, xpk.seq (by simp) sq, ?_⟩
  refine ⟨fun i σ G3 => i ≤ cs.length ∧ Ext G G3 ∧ ∃ (ep : Nat) (o2 o3 o4 o5 o6 o7 o8 o9 : Option D), σ = [some (.ref a), some (.ref pk), o2, o3, o4, o5, o6, o7, o8, o9] ∧ G3 pk = some (.dit (dmap hkD (runAll (cs.take i))) ep),
    ⟨by omega, xpk, 0, _, _, _, _, _, _, _, _, rfl, kpk⟩, fun i σ G3 hh => hh.2.1.seq (by simp) sq, ?_, ?_⟩
  · rintro i y σ G3 ey ⟨hi, x3, ep, o2, o3, o4, o5, o6, o7, o8, o9, rfl, e3⟩
    obtain ⟨z, ez, rfl⟩ := enumL_get ey
    rw [List.getElem?_map] at ez
    obtain ⟨c, ec, rfl⟩ := Option.map_eq_some_iff.mp ez
    have hi2 := (List.getElem?_eq_some_iff.mp ec).1
    have oc := ok c (List.mem_of_getElem? ec)
    obtain ⟨_, _, hT⟩ := runAll_ok ok i (by omega)
    unfold t_learnt_b2
    walk_at "e"
    refine ⟨c, rfl, oc, fun pl G4 hpl x4 e4 => ?_⟩
    walk_at "e"
    refine ⟨_, .inl e4, ?_⟩
    have npl : pl ∉ [pk] := fun m => by rw [List.mem_singleton.mp m, e3] at hpl; cases hpl
    refine ⟨fun j σ G5 => j ≤ c.pieces.length ∧ Xt [pk] G4 G5 ∧ ∃ (ep : Nat) (o4 o5 o6 o7 : Option D), σ = [some (.ref a), some (.ref pk), some (.int i), some c.d, o4, o5, o6, o7, o8, o9] ∧ G5 pk = some (.dit (dmap hkD (runC i (runAll (cs.take i)) (c.parts.take j))) ep),
      ⟨by omega, .refl, ep, _, _, _, _, rfl, x4.at e3⟩, fun j σ G5 hh => .inl (hh.2.1.get npl e4), ?_, ?_⟩
    · rintro j z σ G5 ez ⟨hj, x5, ep, o4, o5, o6, o7, rfl, e5⟩
      rw [List.getElem?_map] at ez
      obtain ⟨p, ep', rfl⟩ := Option.map_eq_some_iff.mp ez
      have hj2 := (List.getElem?_eq_some_iff.mp ep').1
      have epp : c.parts[j]? = some p.1 := by unfold Cm.parts; rw [List.getElem?_map, ep']; rfl
      have lr := runC_len (i := i) (ks := c.parts.take j) (T := runAll (cs.take i))
      have := oc.lenP
      have : (c.parts.take j).length ≤ 24 := by rw [List.length_take]; omega
      unfold pkD
      walk_at "e"
      refine learnt_b1 e5 (by omega) fun G' ep2 o7 x6 e6 => ⟨by omega, x5.trans x6, ep2, _, _, _, o7, rfl, ?_⟩
      rw [runC_snoc epp]; exact e6
    · rintro σ G5 ⟨hj, x5, ep, o4, o5, o6, o7, rfl, e5⟩
      refine ⟨by omega, xput hpk (x3.trans x4) x5, ep, _, _, _, _, _, _, _, _, rfl, ?_⟩
      rw [runAll_snoc ec]
      have lp : (c.pieces.map pkD).length = c.parts.length := by rw [List.length_map]; unfold Cm.parts; rw [List.length_map]
      rw [lp, List.take_length] at e5
      exact e5
  · rintro σ G3 ⟨hi, x3, ep, o2, o3, o4, o5, o6, o7, o8, o9, rfl, e3⟩
    have le : (enumL (cs.map Cm.d)).length = cs.length := by simp [enumL]
    rw [le, List.take_length] at e3
    obtain ⟨_, _, hT⟩ := runAll_ok ok cs.length (Nat.le_refl _)
    rw [List.take_length] at hT
    unfold t_learnt_r1
    walk_at "e"
    refine ⟨_, _, e3, ?_⟩
    have ex : (dmap hkD (runAll cs)).map (fun p => D.tup [p.1, p.2]) = (runAll cs).map fun t => D.tup [kD t.1, hkD t.2] := by unfold dmap; rw [List.map_map]; rfl
    rw [ex]
    refine lcR_valM (runAll cs) (fun t => D.tup [kD t.1, hkD t.2]) rowD (by omega) (fun G' xt => xt.at e3) (fun t ht G' Q' xt kk => ?_) fun p4 G4 hp4 x4 e4 => ?_
    · have kk := kk _ .refl
      unfold kD hkD
      walk_at "e"
      exact kk
    walk_at "e"
    refine ⟨_, .inl e4, rows_srt (by omega), ?_⟩
    intro p5 hp5
    generalize ep5 : st G4 p5 _ = G5
    obtain ⟨xp5, kp5⟩ := nu hp5 ep5
    exact hq p5 G5 (x3.none (x4.none hp5)) ((x3.trans x4).trans xp5) kp5

end S

set_option Elab.async false
set_option linter.all false
set_option maxRecDepth 100000
set_option maxHeartbeats 4000000
namespace S
open PySem PySem.Spec L2
open PyProof.Rows hiding St
local macro_rules | `(tactic| walk_at "e") => `(tactic| try simp only [dSeq, dNext, dRet, dRetN, dIf, dAsg, dAug, dDrop, par_eq, prs_2, dBreak, dCont, dgName, dgSub, gTup_t, gCons_c, gNil_n, dFor_eq, dLc_eq, dVar, dC, dOp, dUn, dBi, dCall, dCons, dNil, dTup, dLst, dSl, part_eq, prt_i, dNoPart, dAndV, dOrV, dNotV, dB, dAnd, dOr, dNot, dIfE, dChain, itv_eq, itv_t, itv_r, dRng, dWalk, dBm, rng1_i, rng2_i, rng3_i, enumR_r, zipR_r,
  BI.r, addD_i, addD_s, addD_t, addD_r, subD_i, mulD_i, mulD_r, mulD_t, modD_i, divD_i, powD_i, ltD_i, leD_i, gtD_i, geD_i, incD_i, negD_i, lr1_i, lr2_i, revD_r, isND_n, isNon, ixD_t, ixD_r, ixD_d, setD_d, dDnew, itk_eq, itk_r, dDm, getD_r, ditD_r, dItI, iti_r, listK_r, sortedD_r, ixD_l, ixD_s, slD_t, slD_r, slD_s, setD_r, lenD_s, lenD_t, lenD_l, lenD_r, isiD_1, isiD_n, listD_t, listD_r, tupleD_t, tupleD_r, allD_r, anyD_r, sumD_r, maxD_r, maxD_2, minD_r, minD_2, absD_i, intB_i, intB_b, appD_r, startD, wipeD,
  List.map_cons, List.map_nil, rep_z, rep_s, List.length_cons, List.length_nil, List.cons_append, List.nil_append, List.append_nil, List.getElem?_cons_zero, List.getElem?_cons_succ, List.set_cons_zero, List.set_cons_succ, Option.some.injEq, exists_eq_left', exists_eq_left, D.bl.injEq, D.int.injEq, D.tup.injEq, D.ref.injEq, true_and, and_true, Nat.reduceAdd, Nat.reduceSub, Nat.add_sub_cancel_left, exists_const, br_t, br_f, eqR_int, eqR_bl, Bool.false_bne, Bool.true_bne, Bool.false_xor, Bool.true_xor, Bool.not_true, Bool.not_false, Bool.not_not, ite_true, ite_false, Bool.true_eq_false, false_implies, decide_true, decide_false, tc_int, tc_bool, tc_str, tc_tup, tc_lst, tc_non, tc_dic, ln0, ln1, ln2, ln3, ln4, ln5, ln6, ln7, ln8, ln9, ln10, ln11, ln12, ln13, ln14, ln15, ln16, ln17, ln18, ln19, ln20, ln21, ln22, ln23, ln24, ln25, ln26, ln27, ln28, ln29, ln30, ln31, ln32, ln33, ln34, ln35, ln36, ln37, ln38, ln39, ln40, ln41, ln42, ln43, ln44, ln45, ln46, ln47, ln48, ln49, ln50, ln51, ln52, ln53, ln54, ln55, ln56, ln57, ln58, ln59, ln60])
local macro_rules | `(tactic| walk_at "g") => `(tactic| try simp only [st_same, st_st, GO.lst.injEq, Option.some.injEq, exists_eq_left', exists_eq_left, atI_0, atI_1, atI_2, atI_3, ixN_0, ixN_1, ixN_2, ixN_3, List.set_cons_zero, List.set_cons_succ, List.length_cons, List.length_nil, List.length_append, List.cons_append, List.nil_append, true_and, and_true, seq_st])
/-! ## simp rules for dicts keyed by whole numbers -/
section
variable {a : Addr} {xs : List D} {i : Int} {y : D} {G : Hd} {Q : Qd}
theorem ixK_t : ixK (.tup xs) y G Q = ixD (.tup xs) y G Q := by cases y <;> rfl
theorem ixK_l : ixK (.rl xs) y G Q = ixD (.rl xs) y G Q := by cases y <;> rfl
theorem ixK_r : ixK (.ref a) (.int i) G Q = ((∃ xs, seqG G a xs ∧ ∃ d, atI xs i = some d ∧ Q d G) ∨ ∃ kvs ep, G a = some (.dik kvs ep) ∧ ∃ d, valK kvs i = some d ∧ Q d G) := rfl
theorem setK_d {kvs : List (Int × D)} {ep : Nat} {v : D} {R : Hd → Prop} (e : G a = some (.dik kvs ep)) (l : kvs.length < sizeLine) (h : ∀ ep', R (st G a (.dik (putK kvs i v) ep'))) : setK (.ref a) (.int i) v G R := .inr ⟨a, i, rfl, rfl, kvs, ep, e, l, h⟩
theorem inJ_d {p : Bool} {kvs : List (Int × D)} {ep : Nat} (e : G a = some (.dik kvs ep)) (h : Q (.bl (p ^^ (valK kvs i).isSome)) G) : inJ p (.int i) (.ref a) G Q := .inr ⟨a, i, rfl, rfl, kvs, ep, e, h⟩
theorem getK_r : getK (.ref a) [.int i, y] G Q = (∃ kvs ep, G a = some (.dik kvs ep) ∧ Q ((valK kvs i).getD y) G) := rfl
theorem sdfK_r : sdfK (.ref a) [.int i, y] G Q = (∃ kvs ep, G a = some (.dik kvs ep) ∧ kvs.length < sizeLine ∧ (∀ d, valK kvs i = some d → Q d G) ∧ (valK kvs i = none → ∀ ep', Q y (st G a (.dik (putK kvs i y) ep')))) := rfl
theorem dikD_r : dikD (.ref a) G = (∃ kvs ep, G a = some (.dik kvs ep)) := rfl
theorem itj_r {R : List D → (Hd → Prop) → Hd → Prop} : itj (.ref a) G R = (∃ kvs ep, G a = some (.dik kvs ep) ∧ R (kvs.map pairJ) (fun G2 => G2 a = some (.dik kvs ep)) G) := rfl
theorem sortedJ_r : sortedJ (.ref a) G Q = (∃ kvs ep, G a = some (.dik kvs ep) ∧ SrtOk G (kvs.map pairJ) ∧ ∀ p, G p = none → Q (.ref p) (st G p (.lst (srt (kvs.map pairJ))))) := rfl
theorem sortedG_r : sortedG [.ref a] G Q = (∃ ts : List (D × D), seqG G a (ts.map (·.1)) ∧ Dds G (ts.map (·.1)) (ts.map (·.2)) ∧ SrtOkG (ts.map (·.2)) ∧ ∀ p, G p = none → Q (.ref p) (st G p (.lst (srtBy ts)))) := rfl
theorem clearD_r : clearD (.ref a) [] G Q = (∃ xs, G a = some (.lst xs) ∧ Q .non (st G a (.lst []))) := rfl
theorem revsD_r : revsD (.ref a) [] G Q = (∃ xs, G a = some (.lst xs) ∧ Q .non (st G a (.lst xs.reverse))) := rfl
end
local macro_rules | `(tactic| walk_at "e") => `(tactic| try simp only [dSeq, dNext, dRet, dRetN, dIf, dAsg, dAug, dDrop, par_eq, prs_2, dBreak, dCont, dgName, dgSub, gTup_t, gCons_c, gNil_n, dFor_eq, dLc_eq, dVar, dC, dOp, dUn, dBi, dCall, dCons, dNil, dTup, dLst, dSl, part_eq, prt_i, dNoPart, dAndV, dOrV, dNotV, dB, dAnd, dOr, dNot, dIfE, dChain, itv_eq, itv_t, itv_r, dRng, dWalk, dBm, rng1_i, rng2_i, rng3_i, enumR_r, zipR_r,
  BI.r, addD_i, addD_s, addD_t, addD_r, subD_i, mulD_i, mulD_r, mulD_t, modD_i, divD_i, powD_i, ltD_i, leD_i, gtD_i, geD_i, incD_i, negD_i, lr1_i, lr2_i, revD_r, isND_n, isNon, ixD_t, ixD_r, ixD_d, setD_d, dDnew, itk_eq, itk_r, dDm, getD_r, ditD_r, dItI, iti_r, listK_r, sortedD_r, ixK_t, ixK_r, ixK_l, dKnew, dItJ, itj_r, dKm, getK_r, sdfK_r, dikD_r, sortedJ_r, sortedG_r, dBm0, clearD_r, revsD_r, dChain3, ixD_l, ixD_s, slD_t, slD_r, slD_s, setD_r, lenD_s, lenD_t, lenD_l, lenD_r, isiD_1, isiD_n, listD_t, listD_r, tupleD_t, tupleD_r, allD_r, anyD_r, sumD_r, maxD_r, maxD_2, minD_r, minD_2, absD_i, intB_i, intB_b, appD_r, startD, wipeD,
  List.map_cons, List.map_nil, rep_z, rep_s, List.length_cons, List.length_nil, List.cons_append, List.nil_append, List.append_nil, List.getElem?_cons_zero, List.getElem?_cons_succ, List.set_cons_zero, List.set_cons_succ, Option.some.injEq, exists_eq_left', exists_eq_left, D.bl.injEq, D.int.injEq, D.tup.injEq, D.ref.injEq, true_and, and_true, Nat.reduceAdd, Nat.reduceSub, Nat.add_sub_cancel_left, exists_const, br_t, br_f, eqR_int, eqR_bl, Bool.false_bne, Bool.true_bne, Bool.false_xor, Bool.true_xor, Bool.not_true, Bool.not_false, Bool.not_not, ite_true, ite_false, Bool.true_eq_false, false_implies, decide_true, decide_false, tc_int, tc_bool, tc_str, tc_tup, tc_lst, tc_non, tc_dic, ln0, ln1, ln2, ln3, ln4, ln5, ln6, ln7, ln8, ln9, ln10, ln11, ln12, ln13, ln14, ln15, ln16, ln17, ln18, ln19, ln20, ln21, ln22, ln23, ln24, ln25, ln26, ln27, ln28, ln29, ln30, ln31, ln32, ln33, ln34, ln35, ln36, ln37, ln38, ln39, ln40, ln41, ln42, ln43, ln44, ln45, ln46, ln47, ln48, ln49, ln50, ln51, ln52, ln53, ln54, ln55, ln56, ln57, ln58, ln59, ln60])
local macro_rules | `(tactic| walk_at "g") => `(tactic| try simp only [st_same, st_st, GO.lst.injEq, Option.some.injEq, exists_eq_left', exists_eq_left, atI_0, atI_1, atI_2, atI_3, ixN_0, ixN_1, ixN_2, ixN_3, List.set_cons_zero, List.set_cons_succ, List.length_cons, List.length_nil, List.length_append, List.cons_append, List.nil_append, true_and, and_true, seq_st])

/-! ## plain dicts -/
section
variable {α : Type} {kvs : List (Int × α)} {i j : Int} {d : α}
def valA (kvs : List (Int × α)) (i : Int) : Option α := (kvs.find? fun kv => decide (kv.1 = i)).map (·.2)
def putA (kvs : List (Int × α)) (i : Int) (d : α) : List (Int × α) := if kvs.any (fun kv => decide (kv.1 = i)) then kvs.map (fun kv => if kv.1 = i then (kv.1, d) else kv) else kvs ++ [(i, d)]
abbrev KN (kvs : List (Int × α)) : Prop := (kvs.map (·.1)).Nodup
theorem valA_cons {kv : Int × α} {r : List (Int × α)} : valA (kv :: r) i = if kv.1 = i then some kv.2 else valA r i := by
  unfold valA
  rw [List.find?_cons]
  by_cases h : kv.1 = i <;> simp [h]
theorem valA_none : valA kvs i = none ↔ (kvs.any fun kv => decide (kv.1 = i)) = false := by
  induction kvs with
  | nil => simp [valA]
  | cons kv r ih =>
    rw [valA_cons, List.any_cons]
    by_cases h : kv.1 = i
    · simp [h]
    · simp only [h, if_false, decide_false, Bool.false_or, ih]
theorem valA_map : valA (kvs.map fun kv => if kv.1 = i then (kv.1, d) else kv) j = if j = i then (valA kvs j).map fun _ => d else valA kvs j := by
  induction kvs with
  | nil => simp [valA]
  | cons kv r ih =>
    rw [List.map_cons, valA_cons, valA_cons, ih]
    by_cases h : kv.1 = i
    · by_cases h2 : j = i
      · simp [h, h2]
      · have h3 : ¬ i = j := fun z => h2 z.symm
        simp [h, h2, h3]
    · by_cases h2 : j = i
      · subst h2; simp [h]
      · simp [h, h2]
theorem valA_app {kv : Int × α} : valA (kvs ++ [kv]) j = (valA kvs j).or (if kv.1 = j then some kv.2 else none) := by
  induction kvs with
  | nil => rw [List.nil_append, valA_cons]; simp [valA]
  | cons x r ih =>
    rw [List.cons_append, valA_cons, valA_cons, ih]
    by_cases h : x.1 = j <;> simp [h]
theorem valA_put : valA (putA kvs i d) j = if j = i then some d else valA kvs j := by
  unfold putA
  split
  · rename_i h
    rw [valA_map]
    split
    · rename_i e; subst e
      cases hv : valA kvs j with
      | none => rw [valA_none] at hv; rw [hv] at h; cases h
      | some x => rfl
    · rfl
  · rename_i h
    rw [valA_app]
    have h : valA kvs i = none := valA_none.mpr (Bool.eq_false_iff.mpr h)
    by_cases e : j = i
    · subst e; simp [h]
    · have e2 : ¬ i = j := fun z => e z.symm
      simp [e, e2]
theorem KN.put (h : KN kvs) : KN (putA kvs i d) := by
  unfold putA
  split
  · show ((kvs.map fun kv => if kv.1 = i then (kv.1, d) else kv).map (·.1)).Nodup
    rw [List.map_map]
    rw [show ((fun x : Int × α => x.1) ∘ fun kv : Int × α => if kv.1 = i then (kv.1, d) else kv) = fun kv => kv.1 by funext kv; simp only [Function.comp]; split <;> rfl]
    exact h
  · rename_i hn
    show ((kvs ++ [(i, d)]).map (·.1)).Nodup
    rw [List.map_append, List.nodup_append]
    refine ⟨h, by simp, fun x hx y hy e => hn ?_⟩
    obtain ⟨kv, hkv, rfl⟩ := List.mem_map.mp hx
    have : y = i := by simpa using hy
    rw [List.any_eq_true]
    exact ⟨kv, hkv, by simpa using e.trans this⟩
theorem KN.mem (h : KN kvs) : (i, d) ∈ kvs ↔ valA kvs i = some d := by
  induction kvs with
  | nil => simp [valA]
  | cons kv r ih =>
    have h' : kv.1 ∉ r.map (·.1) ∧ KN r := by
      unfold KN at h
      rw [List.map_cons, List.nodup_cons] at h
      exact h
    rw [valA_cons, List.mem_cons, ih h'.2]
    by_cases e : kv.1 = i
    · simp only [e, if_true, Option.some.injEq]
      refine ⟨fun z => ?_, fun z => .inl ?_⟩
      · rcases z with z | z
        · rw [← z]
        · exact absurd (List.mem_map.mpr ⟨(i, d), (ih h'.2).mpr z, e.symm⟩) h'.1
      · rw [← e, ← z]
    · simp only [e, if_false]
      refine ⟨fun z => z.resolve_left fun z => e (by rw [← z]), .inr⟩
theorem KN.nodup (h : KN kvs) : kvs.Nodup := (List.pairwise_map.mp h).imp fun h e => h (congrArg (·.1) e)
end
/-- a dict's items as told data -/
def dA {α : Type} (f : α → D) (kvs : List (Int × α)) : List (Int × D) := kvs.map fun p => (p.1, f p.2)
section
variable {α : Type} {f : α → D} {kvs : List (Int × α)} {i : Int} {d : α}
theorem val_dA : valK (dA f kvs) i = (valA kvs i).map f := by
  show valA (dA f kvs) i = _
  unfold dA
  induction kvs with
  | nil => rfl
  | cons kv r ih =>
    rw [List.map_cons, valA_cons, valA_cons, ih]
    by_cases h : kv.1 = i <;> simp [h]
theorem put_dA : putK (dA f kvs) i (f d) = dA f (putA kvs i d) := by
  show putA (dA f kvs) i (f d) = _
  have ea : ((dA f kvs).any fun kv => decide (kv.1 = i)) = kvs.any fun kv => decide (kv.1 = i) := by unfold dA; rw [List.any_map]; rfl
  unfold putA
  rw [ea]
  split
  · unfold dA
    rw [List.map_map, List.map_map]
    congr 1
    funext kv
    simp only [Function.comp]
    split <;> rfl
  · unfold dA; rw [List.map_append]; rfl
theorem len_dA : (dA f kvs).length = kvs.length := by unfold dA; rw [List.length_map]
theorem pairs_dA : (dA f kvs).map pairJ = kvs.map fun p => .tup [.int p.1, f p.2] := by unfold dA; rw [List.map_map]; rfl
end
/-! ## a dict of whole numbers by kinds, and its items in order -/
abbrev FK := Int → Option Int
def Is (t : List (Int × Int)) (f : FK) : Prop := KN t ∧ ∀ k, valA t k = f k
theorem Is.put {t : List (Int × Int)} {f g : FK} {i d : Int} (h : Is t f) (e : ∀ k, g k = if k = i then some d else f k) : Is (putA t i d) g := ⟨h.1.put, fun k => by rw [valA_put, e k, h.2 k]⟩
def FB (f : FK) : Prop := ∀ k, f k ≠ none → 0 ≤ k ∧ k ≤ 9
def kn (f : FK) : List (Int × Int) := (List.range 10).filterMap fun k : Nat => (f k).map fun v => ((k : Int), v)
theorem kn_mem {f : FK} (b : FB f) {k v : Int} : (k, v) ∈ kn f ↔ f k = some v := by
  unfold kn
  rw [List.mem_filterMap]
  refine ⟨fun ⟨n, hn, e⟩ => ?_, fun h => ?_⟩
  · obtain ⟨x, hx, e2⟩ := Option.map_eq_some_iff.mp e
    cases e2; exact hx
  · have := b k (by rw [h]; simp)
    refine ⟨k.toNat, List.mem_range.mpr (by omega), ?_⟩
    rw [show ((k.toNat : Nat) : Int) = k by omega, h]; rfl
theorem kn_inc (f : FK) : (kn f).Pairwise (fun p q => p.1 < q.1) := by
  unfold kn
  refine List.Pairwise.filterMap _ (R := fun a b : Nat => a < b) ?_ List.pairwise_lt_range
  intro a b hab x hx y hy
  obtain ⟨_, _, e1⟩ := Option.map_eq_some_iff.mp (show _ = some x from hx)
  obtain ⟨_, _, e2⟩ := Option.map_eq_some_iff.mp (show _ = some y from hy)
  rw [← e1, ← e2]
  show (a : Int) < b
  omega
theorem kn_nodup (f : FK) : (kn f).Nodup := (kn_inc f).imp fun h e => by rw [e] at h; omega
theorem Is.perm {t : List (Int × Int)} {f : FK} (h : Is t f) (b : FB f) : t.Perm (kn f) := (List.perm_ext_iff_of_nodup h.1.nodup (kn_nodup f)).mpr fun ⟨k, v⟩ => by rw [kn_mem b, h.1.mem, h.2 k]
theorem kn_len (f : FK) : (kn f).length ≤ 10 := by
  unfold kn
  exact Nat.le_trans (List.length_filterMap_le _ _) (by simp)
theorem Is.len {t : List (Int × Int)} {f : FK} (h : Is t f) (b : FB f) : t.length ≤ 10 := by rw [(h.perm b).length_eq]; exact kn_len f
def pairI (p : Int × Int) : D := .tup [.int p.1, .int p.2]
theorem pairs_srt {G : Hd} {t : List (Int × Int)} (l : t.length ≤ 1000000) : SrtOk G (t.map pairI) where
  dd := by
    induction t with
    | nil => exact .nil
    | cons p r ih => exact .cons (.tup (.cons (.int _) (.cons (.int _) .nil))) (ih (by simp at l; omega))
  ok := okDs_of fun x hx => by
    obtain ⟨p, _, rfl⟩ := List.mem_map.mp hx
    rfl
  dp := deps_of fun x hx => by
    obtain ⟨p, _, rfl⟩ := List.mem_map.mp hx
    show 1 ≤ 50; decide
  al := fun x hx y hy => by
    obtain ⟨p, _, rfl⟩ := List.mem_map.mp hx
    obtain ⟨q, _, rfl⟩ := List.mem_map.mp hy
    rfl
  st := .inl fun x hx => by
    obtain ⟨p, _, rfl⟩ := List.mem_map.mp hx
    exact ⟨_, _, rfl⟩
  len := line_of (by rw [List.length_map]; exact l)
def leI (p q : Int × Int) : Bool := PySem.W.dataLe false toPy (pairI p) (pairI q)
theorem leI_eq {p q : Int × Int} : leI p q = !decide (q.1 < p.1 ∨ (q.1 = p.1 ∧ q.2 < p.2)) := by
  unfold leI
  rw [PySem.W.dataLe_eq]
  show (!PySem.W.dataLt (.tuple [.int q.1, .int q.2]) (.tuple [.int p.1, .int p.2])) = _
  rw [PySem.W.dataLt_ii]
theorem sort_uniq {α : Type} {le : α → α → Bool} (anti : ∀ x y, le x y = true → le y x = true → x = y) : ∀ {a b : List α}, a.Perm b → a.Pairwise (fun x y => le x y = true) → b.Pairwise (fun x y => le x y = true) → a = b
  | [], b, p, _, _ => p.nil_eq
  | x :: r, [], p, _, _ => absurd p.length_eq (by simp)
  | x :: r, y :: t, p, ha, hb => by
    rw [List.pairwise_cons] at ha hb
    have e : x = y := by
      have hx : x ∈ y :: t := p.mem_iff.mp List.mem_cons_self
      have hy : y ∈ x :: r := p.mem_iff.mpr List.mem_cons_self
      rcases List.mem_cons.mp hx with e | hx
      · exact e
      rcases List.mem_cons.mp hy with e | hy
      · exact e.symm
      exact anti x y (ha.1 y hy) (hb.1 x hx)
    subst e
    rw [sort_uniq anti p.cons_inv ha.2 hb.2]
theorem sort_perm {α : Type} {le : α → α → Bool} (trans : ∀ x y z, le x y = true → le y z = true → le x z = true) (total : ∀ x y, (le x y || le y x) = true) (anti : ∀ x y, le x y = true → le y x = true → x = y) {a b : List α} (p : a.Perm b) : a.mergeSort le = b.mergeSort le :=
  sort_uniq anti ((List.mergeSort_perm a le).trans (p.trans (List.mergeSort_perm b le).symm)) (List.pairwise_mergeSort trans total a) (List.pairwise_mergeSort trans total b)
theorem leI_trans (x y z : Int × Int) (h1 : leI x y = true) (h2 : leI y z = true) : leI x z = true := by
  rw [leI_eq] at *
  simp only [Bool.not_eq_true', decide_eq_false_iff_not] at *
  omega
theorem leI_total (x y : Int × Int) : (leI x y || leI y x) = true := by
  rw [leI_eq, leI_eq]
  by_cases h1 : y.1 < x.1 ∨ (y.1 = x.1 ∧ y.2 < x.2)
  · have h2 : ¬ (x.1 < y.1 ∨ (x.1 = y.1 ∧ x.2 < y.2)) := by omega
    simp [h2]
  · simp [h1]
theorem leI_anti (x y : Int × Int) (h1 : leI x y = true) (h2 : leI y x = true) : x = y := by
  rw [leI_eq] at *
  simp only [Bool.not_eq_true', decide_eq_false_iff_not] at *
  exact Prod.ext (by omega) (by omega)
theorem Is.srt {t : List (Int × Int)} {f : FK} (h : Is t f) (b : FB f) : S.srt (t.map pairI) = (kn f).map pairI := by
  have e : kn f = t.mergeSort leI := by
    refine sort_uniq leI_anti ((h.perm b).symm.trans (List.mergeSort_perm t leI).symm) ((kn_inc f).imp fun {p q} h => ?_) (List.pairwise_mergeSort leI_trans leI_total t)
    rw [leI_eq]
    simp only [Bool.not_eq_true', decide_eq_false_iff_not]
    omega
  rw [e]
  unfold S.srt
  exact (List.map_mergeSort (r := leI) (s := PySem.W.dataLe false toPy) (f := pairI) (fun _ _ _ _ => rfl)).symm
/-! ## new objects, one for each turn -/
def NewOs (G G' : Hd) (p : Addr) (n : Nat) (O : Nat → GO) : Prop := G p = none ∧ ∃ as : List Addr, G' p = some (.lst (as.map .ref)) ∧ as.length = n ∧ as.Nodup ∧ p ∉ as ∧ ∀ (i : Nat) ai, as[i]? = some ai → G ai = none ∧ G' ai = some (O i)
theorem lcR_newsO {te : TEd} {vs : List Nat} {σ : Sd} {Q : Qd} {xs : List D} {stay : Hd → Prop} {G0 : Hd} {g : TGd} (O : Nat → GO) (hl : xs.length ≤ 1000000) (hs : ∀ G', Ext G0 G' → stay G')
    (el : ∀ (i : Nat) x, xs[i]? = some x → ∀ G' (Q' : Qd), Ext G0 G' → (∀ a G'', G' a = none → Ext G' G'' → G'' a = some (O i) → Q' (.ref a) G'') → g W0 x (wipeD σ vs) G' fun σ2 G2 => te W0 σ2 G2 Q')
    (q : ∀ p G', Ext G0 G' → NewOs G0 G' p xs.length O → Q (.ref p) G') : lcR g dYes te vs σ Q xs stay G0 := by
  intro p hp
  refine ⟨fun i G => i ≤ xs.length ∧ Ext G0 G ∧ ∃ as : List Addr, G p = some (.lst (as.map .ref)) ∧ as.length = i ∧ as.Nodup ∧ p ∉ as ∧ ∀ (j : Nat) aj, as[j]? = some aj → G0 aj = none ∧ G aj = some (O j),
    ⟨Nat.zero_le _, Xt.new hp, [], st_same, rfl, List.nodup_nil, by simp, fun j aj h => by simp at h⟩, fun i G h => hs G h.2.1, ?_, fun G ⟨_, x, as, h1, h2, h3, h4, h5⟩ => q p G x ⟨hp, as, h1, h2, h3, h4, h5⟩⟩
  rintro i x G ex ⟨hi, xt, as, h1, h2, h3, h4, h5⟩
  have hi2 : i < xs.length := (List.getElem?_eq_some_iff.mp ex).1
  unfold dYes
  simp only [br_t]
  refine el i x ex G _ xt fun a G4 ha x4 e4 => ?_
  have nap : a ≠ p := fun z => by rw [z, h1] at ha; cases ha
  have nas : a ∉ as := fun m => by
    obtain ⟨j, hj⟩ := List.mem_iff_getElem?.mp m
    rw [(h5 j a hj).2] at ha; cases ha
  refine ⟨_, x4.at h1, line_lt (by rw [List.length_map]; omega), by omega, (xt.trans x4).put' hp, as ++ [a], by rw [st_same, List.map_append]; rfl, by simp [h2], ?_, ?_, fun j aj hj => ?_⟩
  · rw [List.nodup_append]
    refine ⟨h3, by simp, fun b hb c hc e => ?_⟩
    rw [List.mem_singleton.mp hc] at e
    exact nas (e ▸ hb)
  · intro m
    rcases List.mem_append.mp m with m | m
    · exact h4 m
    · exact nap (List.mem_singleton.mp m).symm
  · by_cases hk : j < as.length
    · rw [List.getElem?_append_left hk] at hj
      obtain ⟨k1, k2⟩ := h5 j aj hj
      have naj : aj ≠ p := fun z => h4 (z ▸ List.mem_of_getElem? hj)
      exact ⟨k1, by rw [st_ne naj]; exact x4.at k2⟩
    · rw [List.getElem?_append_right (by omega)] at hj
      have e0 : j - as.length = 0 := by
        have := (List.getElem?_eq_some_iff.mp hj).1
        simp at this; omega
      rw [e0] at hj; cases hj
      have : j = i := by omega
      subst this
      exact ⟨xt.none ha, by rw [st_ne nap]; exact e4⟩
/-! ## the prices -/
abbrev FT := Nat → FK
def into (rs : List (List Int)) (p : Pc) (o : Option Int) (kv : Int × Int) : Option Int := match o with
  | none => some (kv.2 + rateR rs kv.1 p.kind + p.cost)
  | some x => some (min x (kv.2 + rateR rs kv.1 p.kind + p.cost))
def stepI (rs : List (List Int)) (p : Pc) (F : FT) (kv : Int × Int) : FT := fun i k => if i = p.at_.toNat ∧ k = p.kind then into rs p (F i k) kv else F i k
def stepP (rs : List (List Int)) (its : List (Int × Int)) (F : FT) (p : Pc) : FT := its.foldl (stepI rs p) F
def stepB (rs : List (List Int)) (its : List (Int × Int)) (ps : List Pc) (F : FT) : FT := ps.foldl (stepP rs its) F
def priceF0 : FT := fun i k => if i = 0 ∧ k = 9 then some 0 else none
def priceN (rs : List (List Int)) (N : List (List Pc)) : Nat → FT
  | 0 => priceF0
  | b + 1 => stepB rs (kn (priceN rs N b b)) (N.getD b []) (priceN rs N b)
def prF (rs : List (List Int)) (N : List (List Pc)) : FT := priceN rs N N.length
theorem stepI_comm {rs : List (List Int)} {p : Pc} {F : FT} {x y : Int × Int} : stepI rs p (stepI rs p F x) y = stepI rs p (stepI rs p F y) x := by
  funext i k
  unfold stepI
  by_cases h : i = p.at_.toNat ∧ k = p.kind
  · simp only [h, and_self, if_true]
    unfold into
    cases F p.at_.toNat p.kind with
    | none => simp only [Option.some.injEq]; omega
    | some z => simp only [Option.some.injEq]; omega
  · simp only [h, if_false]
theorem stepP_perm {rs : List (List Int)} {p : Pc} {F : FT} {t u : List (Int × Int)} (h : t.Perm u) : stepP rs t F p = stepP rs u F p := h.foldl_eq' (fun _ _ _ _ _ => stepI_comm) F
theorem stepI_out {rs : List (List Int)} {p : Pc} {F : FT} {kv : Int × Int} {i : Nat} (h : i ≠ p.at_.toNat) : stepI rs p F kv i = F i := by
  funext k; unfold stepI; rw [if_neg fun z => h z.1]
theorem stepP_out {rs : List (List Int)} {p : Pc} {i : Nat} (h : i ≠ p.at_.toNat) : ∀ {t : List (Int × Int)} {F : FT}, stepP rs t F p i = F i
  | [], _ => rfl
  | kv :: t, F => by
    show stepP rs t (stepI rs p F kv) p i = F i
    rw [stepP_out h, stepI_out h]
theorem stepB_out {rs : List (List Int)} {its : List (Int × Int)} {i : Nat} : ∀ {ps : List Pc} {F : FT}, (∀ p ∈ ps, i ≠ p.at_.toNat) → stepB rs its ps F i = F i
  | [], _, _ => rfl
  | p :: ps, F, h => by
    show stepB rs its ps (stepP rs its F p) i = F i
    rw [stepB_out fun p hp => h p (List.mem_cons_of_mem _ hp), stepP_out (h p List.mem_cons_self)]
theorem stepI_fb {rs : List (List Int)} {p : Pc} {F : FT} {kv : Int × Int} (k0 : 0 ≤ p.kind) (k9 : p.kind ≤ 9) (h : ∀ i, FB (F i)) : ∀ i, FB (stepI rs p F kv i) := by
  intro i k hk
  unfold stepI at hk
  split at hk
  · rename_i e; rw [e.2]; exact ⟨k0, k9⟩
  · exact h i k hk
theorem stepP_fb {rs : List (List Int)} {p : Pc} (k0 : 0 ≤ p.kind) (k9 : p.kind ≤ 9) : ∀ {t : List (Int × Int)} {F : FT}, (∀ i, FB (F i)) → ∀ i, FB (stepP rs t F p i)
  | [], _, h => h
  | kv :: t, F, h => stepP_fb (t := t) k0 k9 (stepI_fb k0 k9 h)
theorem stepB_fb {rs : List (List Int)} {its : List (Int × Int)} : ∀ {ps : List Pc} {F : FT}, (∀ p ∈ ps, 0 ≤ p.kind ∧ p.kind ≤ 9) → (∀ i, FB (F i)) → ∀ i, FB (stepB rs its ps F i)
  | [], _, _, h => h
  | p :: ps, F, hp, h => stepB_fb (ps := ps) (fun p h => hp p (List.mem_cons_of_mem _ h)) (stepP_fb (hp p List.mem_cons_self).1 (hp p List.mem_cons_self).2 h)
theorem stepI_pt {rs : List (List Int)} {p : Pc} {F F' : FT} {kv : Int × Int} {i : Nat} (h : F i = F' i) : stepI rs p F kv i = stepI rs p F' kv i := by
  funext k; unfold stepI; rw [h]
theorem stepP_pt {rs : List (List Int)} {p : Pc} {i : Nat} : ∀ {t : List (Int × Int)} {F F' : FT}, F i = F' i → stepP rs t F p i = stepP rs t F' p i
  | [], _, _, h => h
  | kv :: t, F, F', h => stepP_pt (t := t) (stepI_pt h)
theorem stepB_pt {rs : List (List Int)} {its : List (Int × Int)} {i : Nat} : ∀ {ps : List Pc} {F F' : FT}, F i = F' i → stepB rs its ps F i = stepB rs its ps F' i
  | [], _, _, h => h
  | p :: ps, F, F', h => stepB_pt (ps := ps) (stepP_pt h)
section
variable {rs : List (List Int)} {N : List (List Pc)}
theorem net_in (ok : NetOk N.length 0 N) {b : Nat} {p : Pc} (h : p ∈ N.getD b []) : p.In b N.length := by
  rw [List.getD_eq_getElem?_getD] at h
  cases e : N[b]? with
  | none => rw [e] at h; cases h
  | some ps => rw [e] at h; have := (ok b ps e).2 p h; simpa using this
theorem priceN_fb (ok : NetOk N.length 0 N) : ∀ (b : Nat) i, FB (priceN rs N b i)
  | 0, i => fun k h => by
    unfold priceN priceF0 at h
    split at h
    · rename_i e; rw [e.2]; decide
    · exact absurd rfl h
  | b + 1, i => stepB_fb (fun p hp => by have := (net_in ok hp).kd; omega) (priceN_fb ok b) i
theorem priceN_end (ok : NetOk N.length 0 N) {b i : Nat} (h : i ≤ b) : ∀ m, priceN rs N (b + m) i = priceN rs N b i
  | 0 => rfl
  | m + 1 => by
    show stepB rs _ _ (priceN rs N (b + m)) i = _
    rw [stepB_out fun p hp => by have h2 : ((b + m : Nat) : Int) < p.at_ := (net_in ok hp).lo; omega, priceN_end ok h m]
theorem prF_at (ok : NetOk N.length 0 N) {b : Nat} (h : b ≤ N.length) : prF rs N b = priceN rs N b b := by
  unfold prF
  have := priceN_end (rs := rs) ok (Nat.le_refl b) (N.length - b)
  rwa [show b + (N.length - b) = N.length by omega] at this
end
/-- the dicts, place by place -/
def PI (as : List Addr) (F : FT) (G : Hd) : Prop := ∀ (i : Nat) a, as[i]? = some a → ∃ t ep, G a = some (.dik (dA .int t) ep) ∧ Is t (F i)
theorem PI.xt {as : List Addr} {F : FT} {G G' : Hd} (h : PI as F G) (x : Ext G G') : PI as F G' := fun i a e => let ⟨t, ep, e1, k⟩ := h i a e; ⟨t, ep, x.at e1, k⟩
/-- a dict put anew: the others stay -/
theorem PI.put {as : List Addr} {F F' : FT} {G G' : Hd} {e : Nat} {a : Addr} {t : List (Int × Int)} {ep : Nat} (h : PI as F G) (nd : as.Nodup) (ea : as[e]? = some a) (x : Xt [a] G G') (k : G' a = some (.dik (dA .int t) ep)) (q : Is t (F' e)) (o : ∀ i, i ≠ e → F' i = F i) : PI as F' G' := by
  intro i b eb
  by_cases hi : i = e
  · subst hi
    rw [ea] at eb; cases eb
    exact ⟨t, ep, k, q⟩
  · obtain ⟨t', ep', e1, k'⟩ := h i b eb
    have nb : b ∉ [a] := fun m => by
      rw [List.mem_singleton.mp m] at eb
      exact hi ((List.getElem?_inj (List.getElem?_eq_some_iff.mp eb).1 nd).mp (eb.trans ea.symm))
    exact ⟨t', ep', x.get nb e1, by rw [o i hi]; exact k'⟩
/-- put where it is less -/
theorem Is.into {rs : List (List Int)} {p : Pc} {F : FT} {kv : Int × Int} {t : List (Int × Int)} (h : Is t (F p.at_.toNat)) {c : Int} (hc : c = kv.2 + rateR rs kv.1 p.kind + p.cost) (hn : valA t p.kind = none ∨ ∃ x, valA t p.kind = some x ∧ c < x) : Is (putA t p.kind c) (stepI rs p F kv p.at_.toNat) := by
  refine h.put fun k => ?_
  unfold stepI
  by_cases e : k = p.kind
  · subst e
    simp only [and_self, if_true]
    rw [← h.2 p.kind]
    unfold S.into
    rcases hn with hn | ⟨x, hn, hx⟩
    · rw [hn, hc]
    · rw [hn]; simp only [Option.some.injEq]; omega
  · rw [if_neg fun z => e z.2, if_neg e]
theorem Is.leave {rs : List (List Int)} {p : Pc} {F : FT} {kv : Int × Int} {t : List (Int × Int)} (h : Is t (F p.at_.toNat)) {x : Int} (hx : valA t p.kind = some x) (hc : x ≤ kv.2 + rateR rs kv.1 p.kind + p.cost) : stepI rs p F kv = F := by
  funext i k
  unfold stepI
  split
  · rename_i e
    rw [e.1, e.2, ← h.2 p.kind, hx]
    unfold S.into
    simp only [Option.some.injEq]; omega
  · rfl

end S

set_option Elab.async false
set_option linter.all false
set_option maxRecDepth 100000
set_option maxHeartbeats 4000000
namespace S
open PySem PySem.Spec L2
open PyProof.Rows hiding St
local macro_rules | `(tactic| walk_at "e") => `(tactic| try simp only [dSeq, dNext, dRet, dRetN, dIf, dAsg, dAug, dDrop, par_eq, prs_2, dBreak, dCont, dgName, dgSub, gTup_t, gCons_c, gNil_n, dFor_eq, dLc_eq, dVar, dC, dOp, dUn, dBi, dCall, dCons, dNil, dTup, dLst, dSl, part_eq, prt_i, dNoPart, dAndV, dOrV, dNotV, dB, dAnd, dOr, dNot, dIfE, dChain, itv_eq, itv_t, itv_r, dRng, dWalk, dBm, rng1_i, rng2_i, rng3_i, enumR_r, zipR_r,
  BI.r, addD_i, addD_s, addD_t, addD_r, subD_i, mulD_i, mulD_r, mulD_t, modD_i, divD_i, powD_i, ltD_i, leD_i, gtD_i, geD_i, incD_i, negD_i, lr1_i, lr2_i, revD_r, isND_n, isNon, ixD_t, ixD_r, ixD_d, setD_d, dDnew, itk_eq, itk_r, dDm, getD_r, ditD_r, dItI, iti_r, listK_r, sortedD_r, ixK_t, ixK_r, ixK_l, dKnew, dItJ, itj_r, dKm, getK_r, sdfK_r, dikD_r, sortedJ_r, sortedG_r, dBm0, clearD_r, revsD_r, dChain3, ixD_l, ixD_s, slD_t, slD_r, slD_s, setD_r, lenD_s, lenD_t, lenD_l, lenD_r, isiD_1, isiD_n, listD_t, listD_r, tupleD_t, tupleD_r, allD_r, anyD_r, sumD_r, maxD_r, maxD_2, minD_r, minD_2, absD_i, intB_i, intB_b, appD_r, startD, wipeD,
  List.map_cons, List.map_nil, rep_z, rep_s, List.length_cons, List.length_nil, List.cons_append, List.nil_append, List.append_nil, List.getElem?_cons_zero, List.getElem?_cons_succ, List.set_cons_zero, List.set_cons_succ, Option.some.injEq, exists_eq_left', exists_eq_left, D.bl.injEq, D.int.injEq, D.tup.injEq, D.ref.injEq, true_and, and_true, Nat.reduceAdd, Nat.reduceSub, Nat.add_sub_cancel_left, exists_const, br_t, br_f, eqR_int, eqR_bl, Bool.false_bne, Bool.true_bne, Bool.false_xor, Bool.true_xor, Bool.not_true, Bool.not_false, Bool.not_not, ite_true, ite_false, Bool.true_eq_false, false_implies, decide_true, decide_false, tc_int, tc_bool, tc_str, tc_tup, tc_lst, tc_non, tc_dic, ln0, ln1, ln2, ln3, ln4, ln5, ln6, ln7, ln8, ln9, ln10, ln11, ln12, ln13, ln14, ln15, ln16, ln17, ln18, ln19, ln20, ln21, ln22, ln23, ln24, ln25, ln26, ln27, ln28, ln29, ln30, ln31, ln32, ln33, ln34, ln35, ln36, ln37, ln38, ln39, ln40, ln41, ln42, ln43, ln44, ln45, ln46, ln47, ln48, ln49, ln50, ln51, ln52, ln53, ln54, ln55, ln56, ln57, ln58, ln59, ln60])
local macro_rules | `(tactic| walk_at "g") => `(tactic| try simp only [st_same, st_st, GO.lst.injEq, Option.some.injEq, exists_eq_left', exists_eq_left, atI_0, atI_1, atI_2, atI_3, ixN_0, ixN_1, ixN_2, ixN_3, List.set_cons_zero, List.set_cons_succ, List.length_cons, List.length_nil, List.length_append, List.cons_append, List.nil_append, true_and, and_true, seq_st])
/-! ## things' attributes and methods, by the walk -/
def fldR (c i : Nat) (d : D) (G : Hd) (Q : Qd) : Prop := match d with
  | .ref a => ∃ fs v, G a = some (.obj c fs) ∧ fs i = some v ∧ Q v G
  | _ => False
def setfR (c i : Nat) (y d : D) (G : Hd) (R : Hd → Prop) : Prop := match d with
  | .ref a => ∃ fs, G a = some (.obj c fs) ∧ R (st G a (.obj c (updF fs i y)))
  | _ => False
def methR (c : Nat) (sp : DSp) (t : TAd) (w : Wx) (σ : Sd) (Q : Qd) (d : D) (G : Hd) : Prop := match d with
  | .ref a => ∃ fs, G a = some (.obj c fs) ∧ t w σ G fun ds G2 => sp (.ref a :: ds) G2 Q fun i d G3 => w i d σ G3
  | _ => False
section
variable {c i : Nat} {ta to tv : TEd} {w : Wx} {σ : Sd} {G : Hd} {Q : Qd} {R : Hd → Prop} {E : En} {sp : DSp} {t : TAd} {a : Addr} {y : D} {xs ys : List D}
theorem fld_eq : dFld c i ta w σ G Q = ta w σ G fun d G1 => fldR c i d G1 Q := by
  unfold dFld
  congr 1
  funext d G1
  refine propext ⟨fun ⟨a, fs, v, e, h⟩ => by subst e; exact ⟨fs, v, h⟩, fun h => ?_⟩
  cases d with
  | ref a => obtain ⟨fs, v, h⟩ := h; exact ⟨a, fs, v, rfl, h⟩
  | _ => exact h.elim
theorem fld_r : fldR c i (.ref a) G Q = (∃ fs v, G a = some (.obj c fs) ∧ fs i = some v ∧ Q v G) := rfl
theorem setf_eq : dSetF c i to tv w E σ G = tv w σ G fun y G1 => to w σ G1 fun d G2 => setfR c i y d G2 (E.nx σ) := by
  unfold dSetF
  congr 1
  funext y G1
  congr 1
  funext d G2
  refine propext ⟨fun ⟨a, fs, e, h⟩ => by subst e; exact ⟨fs, h⟩, fun h => ?_⟩
  cases d with
  | ref a => obtain ⟨fs, h⟩ := h; exact ⟨a, fs, rfl, h⟩
  | _ => exact h.elim
theorem setf_r : setfR c i y (.ref a) G R = (∃ fs, G a = some (.obj c fs) ∧ R (st G a (.obj c (updF fs i y)))) := rfl
theorem meth_eq : dMeth c sp ta t w σ G Q = ta w σ G fun d G1 => methR c sp t w σ Q d G1 := by
  unfold dMeth
  congr 1
  funext d G1
  refine propext ⟨fun ⟨a, fs, e, h⟩ => by subst e; exact ⟨fs, h⟩, fun h => ?_⟩
  cases d with
  | ref a => obtain ⟨fs, h⟩ := h; exact ⟨a, fs, rfl, h⟩
  | _ => exact h.elim
theorem mth_r : methR c sp t w σ Q (.ref a) G = (∃ fs, G a = some (.obj c fs) ∧ t w σ G fun ds G2 => sp (.ref a :: ds) G2 Q fun i d G3 => w i d σ G3) := rfl
theorem extD_t : extendD (.ref a) [.tup ys] G Q = (∃ xs, G a = some (.lst xs) ∧ xs.length + ys.length ≤ sizeLine ∧ Q .non (st G a (.lst (xs ++ ys)))) := rfl
theorem extD_r {b : Addr} : extendD (.ref a) [.ref b] G Q = (∃ xs, G a = some (.lst xs) ∧ ∃ ys, G b = some (.lst ys) ∧ xs.length + ys.length ≤ sizeLine ∧ Q .non (st G a (.lst (xs ++ ys)))) := rfl
end
/-! ## tuples of whole numbers -/
def ti (xs : List Int) : D := .tup (xs.map .int)
theorem eqBs_ii : ∀ xs ys : List Int, eqBs (xs.map D.int) (ys.map D.int) = decide (xs = ys)
  | [], [] => rfl
  | [], _ :: _ => rfl
  | _ :: _, [] => rfl
  | x :: xs, y :: ys => by
    simp only [List.map_cons, eqBs, eqB, eqBs_ii xs ys, List.cons.injEq, beq_dec, Bool.decide_and]
theorem eqB_ti {xs ys : List Int} : eqB (ti xs) (ti ys) = decide (xs = ys) := eqBs_ii xs ys
theorem sh_ti {xs : List Int} : sh (ti xs) := ⟨okDs_ints xs, by unfold ti; simp only [dep, deps_ints]; omega⟩
theorem dd_ti {G : Hd} {xs : List Int} : Dd G (ti xs) (ti xs) := .tup (Dds.map_int xs)
theorem eqR_ti {neg : Bool} {xs ys : List Int} {G : Hd} {Q : Qd} : eqR neg (ti xs) (ti ys) G Q = Q (.bl (neg ^^ decide (xs = ys))) G := by
  refine propext ⟨fun ⟨d, e, h1, h2, _, _, h⟩ => ?_, fun h => ⟨ti xs, ti ys, dd_ti, dd_ti, sh_ti, sh_ti, by rw [eqB_ti]; exact h⟩⟩
  have inv : ∀ {zs : List Int} {ds : List D}, Dds G (zs.map D.int) ds → ds = zs.map D.int := by
    intro zs
    induction zs with
    | nil => intro ds k; cases k; rfl
    | cons z zs ih =>
      intro ds k
      cases k with
      | cons k1 k2 => cases k1; rw [ih k2]; rfl
  have i1 : d = ti xs := by unfold ti at h1; cases h1 with | tup r => rw [inv r]; rfl
  have i2 : e = ti ys := by unfold ti at h2; cases h2 with | tup r => rw [inv r]; rfl
  subst i1; subst i2
  rw [eqB_ti] at h; exact h
theorem ti_nil : ti [] = .tup [] := rfl
theorem eqR_t0 {neg : Bool} {xs : List Int} {G : Hd} {Q : Qd} : eqR neg (ti xs) (.tup []) G Q = Q (.bl (neg ^^ decide (xs = []))) G := eqR_ti (ys := [])
theorem keyN_ti {xs : List Int} : keyN (ti xs) = some (.tup (xs.map .num)) := by unfold ti; simp only [keyN, keysN_ints]
theorem keyOk_ti {xs : List Int} : keyOk (ti xs) := by
  unfold keyOk kdep
  rw [keyN_ti]
  simp only [NestedKey.depth, depth_nums]
  decide
theorem num_inj : ∀ {xs ys : List Int}, xs.map NestedKey.num = ys.map NestedKey.num → xs = ys
  | [], [], _ => rfl
  | [], _ :: _, h => by cases h
  | _ :: _, [], h => by cases h
  | x :: xs, y :: ys, h => by
    simp only [List.map_cons, List.cons.injEq, NestedKey.num.injEq] at h
    rw [h.1, num_inj h.2]
theorem sameK_ti {xs ys : List Int} : sameK (ti xs) (ti ys) = decide (xs = ys) := by
  unfold sameK
  rw [keyN_ti, keyN_ti]
  by_cases h : xs = ys
  · subst h; simp
  · rw [decide_eq_false h, decide_eq_false]
    intro e
    simp only [Option.some.injEq, NestedKey.tup.injEq] at e
    exact h (num_inj e)
theorem cut_ti {xs : List Int} {lo hi : Option Int} : D.tup (cut (xs.map D.int) lo hi) = ti (cut xs lo hi) := by rw [cut_map]; rfl
theorem app_ti {xs ys : List Int} : D.tup (xs.map D.int ++ ys.map D.int) = ti (xs ++ ys) := by unfold ti; rw [List.map_append]
/-! ## plain tables -/
section
variable {α β : Type} [DecidableEq α]
def look (A : List (α × β)) (x : α) : Option β := (A.find? fun p => decide (p.1 = x)).map (·.2)
def ins (A : List (α × β)) (x : α) (y : β) : List (α × β) := if (look A x).isSome then A.map (fun p => if p.1 = x then (p.1, y) else p) else A ++ [(x, y)]
theorem look_nil {x : α} : look ([] : List (α × β)) x = none := rfl
theorem look_cons {p : α × β} {A : List (α × β)} {x : α} : look (p :: A) x = if p.1 = x then some p.2 else look A x := by
  unfold look
  by_cases h : p.1 = x
  · simp [List.find?_cons, h]
  · simp [List.find?_cons, h]
theorem look_app {A B : List (α × β)} {x : α} : look (A ++ B) x = (look A x).or (look B x) := by
  induction A with
  | nil => simp [look_nil]
  | cons p A ih =>
    rw [List.cons_append, look_cons, look_cons, ih]
    split <;> simp
theorem look_mem {A : List (α × β)} {x : α} {y : β} (h : look A x = some y) : (x, y) ∈ A := by
  induction A with
  | nil => cases h
  | cons p A ih =>
    rw [look_cons] at h
    split at h
    · rename_i e; cases h; subst e; exact List.mem_cons_self
    · exact List.mem_cons_of_mem _ (ih h)
theorem look_isSome {A : List (α × β)} {x : α} : (look A x).isSome = true ↔ x ∈ A.map (·.1) := by
  induction A with
  | nil => simp [look_nil]
  | cons p A ih =>
    rw [look_cons, List.map_cons, List.mem_cons]
    split
    · rename_i e; simp [e]
    · rename_i e
      rw [ih]
      exact ⟨.inr, fun h => h.elim (fun z => absurd z.symm e) id⟩
theorem look_none' {A : List (α × β)} {x : α} : look A x = none ↔ x ∉ A.map (·.1) := by
  rw [← look_isSome]; cases look A x <;> simp
theorem look_of {A : List (α × β)} {x : α} {y : β} (nd : (A.map (·.1)).Nodup) (h : (x, y) ∈ A) : look A x = some y := by
  induction A with
  | nil => cases h
  | cons p A ih =>
    rw [List.map_cons, List.nodup_cons] at nd
    rw [look_cons]
    rcases List.mem_cons.mp h with h | h
    · subst h; rw [if_pos rfl]
    · rw [if_neg fun e => nd.1 (by rw [e]; exact List.mem_map.mpr ⟨_, h, rfl⟩)]
      exact ih nd.2 h
theorem ins_new {A : List (α × β)} {x : α} {y : β} (h : x ∉ A.map (·.1)) : ins A x y = A ++ [(x, y)] := by
  unfold ins; rw [look_none'.mpr h]; rfl
theorem ins_old {A : List (α × β)} {x : α} {y : β} (h : x ∈ A.map (·.1)) : ins A x y = A.map fun p => if p.1 = x then (p.1, y) else p := by
  unfold ins; rw [if_pos (look_isSome.mpr h)]
theorem upd_keys {A : List (α × β)} {x : α} {y : β} : (A.map fun p => if p.1 = x then (p.1, y) else p).map (·.1) = A.map (·.1) := by
  rw [List.map_map]
  refine List.map_congr_left fun p _ => ?_
  simp only [Function.comp]
  split <;> rfl
theorem ins_keys {A : List (α × β)} {x : α} {y : β} : (ins A x y).map (·.1) = if x ∈ A.map (·.1) then A.map (·.1) else A.map (·.1) ++ [x] := by
  by_cases h : x ∈ A.map (·.1)
  · rw [ins_old h, if_pos h, upd_keys]
  · rw [ins_new h, if_neg h, List.map_append]; rfl
theorem ins_nodup {A : List (α × β)} {x : α} {y : β} (nd : (A.map (·.1)).Nodup) : ((ins A x y).map (·.1)).Nodup := by
  rw [ins_keys]
  split
  · exact nd
  · rename_i q
    rw [List.nodup_append]
    exact ⟨nd, by simp, fun a ha b hb e => q (by simp at hb; subst hb; subst e; exact ha)⟩
theorem ins_len {A : List (α × β)} {x : α} {y : β} : (ins A x y).length ≤ A.length + 1 := by
  unfold ins; split
  · rw [List.length_map]; omega
  · rw [List.length_append]; simp
theorem ins_mem {A : List (α × β)} {x : α} {y : β} {p : α × β} (h : p ∈ ins A x y) : p ∈ A ∨ p = (x, y) := by
  unfold ins at h; split at h
  · obtain ⟨q, hq, rfl⟩ := List.mem_map.mp h
    split
    · rename_i e; exact .inr (by rw [e])
    · exact .inl hq
  · rcases List.mem_append.mp h with h | h
    · exact .inl h
    · exact .inr (List.mem_singleton.mp h)
theorem look_ins {A : List (α × β)} {x z : α} {y : β} : look (ins A x y) z = if x = z then some y else look A z := by
  by_cases h : x ∈ A.map (·.1)
  · rw [ins_old h]
    induction A with
    | nil => cases h
    | cons p A ih =>
      rw [List.map_cons, look_cons, look_cons]
      by_cases e : p.1 = x
      · simp only [if_pos e]
        by_cases e2 : x = z
        · simp [e, e2]
        · have e3 : ¬ p.1 = z := fun k => e2 (e.symm.trans k)
          simp only [if_neg e2, if_neg e3]
          by_cases h2 : x ∈ A.map (·.1)
          · rw [ih h2, if_neg e2]
          · have : (A.map fun p => if p.1 = x then (p.1, y) else p) = A := by
              conv => rhs; rw [← List.map_id A]
              refine List.map_congr_left fun q hq => ?_
              rw [if_neg fun k => h2 (List.mem_map.mpr ⟨q, hq, k⟩)]; rfl
            rw [this]
      · simp only [if_neg e]
        have h2 : x ∈ A.map (·.1) := by
          rw [List.map_cons] at h
          exact (List.mem_cons.mp h).elim (fun k => absurd k.symm e) id
        rw [ih h2]
        by_cases e2 : x = z
        · have e3 : ¬ p.1 = z := fun k => e (k.trans e2.symm)
          rw [if_pos e2, if_pos e2, if_neg e3]
        · simp [if_neg e2]
  · rw [ins_new h, look_app, look_cons, look_nil]
    by_cases e2 : x = z
    · subst e2; rw [look_none'.mpr h]; simp
    · simp [e2]
end
/-! ## .. as a dict's entries -/
def emb {α β : Type} (e : α → D) (f : β → D) (A : List (α × β)) : List (D × D) := A.map fun p => (e p.1, f p.2)
section
variable {α β : Type} [DecidableEq α] {e : α → D} {f : β → D}
theorem emb_len {A : List (α × β)} : (emb e f A).length = A.length := by unfold emb; rw [List.length_map]
theorem emb_keys {A : List (α × β)} : (emb e f A).map (·.1) = (A.map (·.1)).map e := by unfold emb; simp [List.map_map, Function.comp_def]
theorem valT_emb (hk : ∀ x y, sameK (e x) (e y) = decide (x = y)) {A : List (α × β)} {x : α} : valT (emb e f A) (e x) = (look A x).map f := by
  induction A with
  | nil => rfl
  | cons p A ih =>
    rw [look_cons]
    unfold valT emb at ih ⊢
    rw [List.map_cons, List.find?_cons]
    simp only [hk]
    by_cases h : p.1 = x
    · simp [h]
    · simp only [decide_eq_false h, if_neg h, ih]
theorem putT_emb (hk : ∀ x y, sameK (e x) (e y) = decide (x = y)) {A : List (α × β)} {x : α} {y : β} : putT (emb e f A) (e x) (f y) = emb e f (ins A x y) := by
  unfold putT ins
  rw [valT_emb hk, Option.isSome_map]
  split
  · unfold emb
    rw [List.map_map, List.map_map]
    refine List.map_congr_left fun p _ => ?_
    simp only [Function.comp, hk]
    by_cases h : p.1 = x
    · simp [h]
    · simp [h]
  · unfold emb
    rw [List.map_append]; rfl
end
theorem sameK_tt (x y : List Int) : sameK (ti x) (ti y) = decide (x = y) := sameK_ti
/-! ## tables of keys -/
abbrev KV := List Int × List Int
abbrev KR := List Int × KV
def rD (r : KR) : D := .tup [ti r.1, ti r.2.1, ti r.2.2]
def vD (v : KV) : D := .tup [ti v.1, ti v.2]
def uD (_ : Unit) : D := .bl true
structure KRok (r : KR) : Prop where
  k0 : 0 < r.1.length
  k4 : r.1.length ≤ 4
  s4 : r.2.1.length ≤ 4
  ll : r.2.2.length < r.1.length
structure Tab (T : List KR) : Prop where
  len : T.length ≤ 100
  ok : ∀ r ∈ T, KRok r
  nd : (T.map (·.1)).Nodup
/-- one step, by ever fewer keys -/
def stepL (T : List KR) (ks : List Int) : Nat → List Int × List Int × List Int
  | 0 => ([], ks.take 1, ks.drop 1)
  | n + 1 => match look T (ks.take (n + 1)) with
    | some v => (v.1, [], v.2 ++ ks.drop (n + 1))
    | none => stepL T ks n
def step (T : List KR) (ks : List Int) := stepL T ks (min 4 ks.length)
theorem stepL_some {T : List KR} {ks : List Int} {n : Nat} {v : KV} (h : look T (ks.take (n + 1)) = some v) : stepL T ks (n + 1) = (v.1, [], v.2 ++ ks.drop (n + 1)) := by simp only [stepL, h]
theorem stepL_none {T : List KR} {ks : List Int} {n : Nat} (h : look T (ks.take (n + 1)) = none) : stepL T ks (n + 1) = stepL T ks n := by simp only [stepL, h]
theorem stepL_ok {T : List KR} (h : Tab T) {ks : List Int} (hk : ks ≠ []) : ∀ n, (stepL T ks n).1.length ≤ 4 ∧ (stepL T ks n).2.1.length ≤ 1 ∧ (stepL T ks n).2.2.length < ks.length
  | 0 => by
    have := List.length_pos_iff.mpr hk
    simp only [stepL, List.length_nil, List.length_take, List.length_drop]; omega
  | n + 1 => by
    cases e : look T (ks.take (n + 1)) with
    | none => rw [stepL_none e]; exact stepL_ok h hk n
    | some v =>
      rw [stepL_some e]
      have o := h.ok _ (look_mem e)
      have h1 := o.k0; have h2 := o.ll; have h3 := o.s4
      simp only [List.length_take, List.length_nil, List.length_append, List.length_drop] at *
      omega
theorem step_ok {T : List KR} (h : Tab T) {ks : List Int} (hk : ks ≠ []) : (step T ks).1.length ≤ 4 ∧ (step T ks).2.1.length ≤ 1 ∧ (step T ks).2.2.length < ks.length := stepL_ok h hk _
def readF (T : List KR) : Nat → List Int → List Int × List Int
  | 0, _ => ([], [])
  | f + 1, ks => if ks = [] then ([], []) else ((step T ks).1 ++ (readF T f (step T ks).2.2).1, (step T ks).2.1 ++ (readF T f (step T ks).2.2).2)
def read (T : List KR) (ks : List Int) := readF T ks.length ks
theorem readF_eq {T : List KR} (h : Tab T) : ∀ (f g : Nat) (ks : List Int), ks.length ≤ f → ks.length ≤ g → readF T f ks = readF T g ks
  | 0, 0, _, _, _ => rfl
  | 0, g + 1, ks, a, b => by
    have e : ks = [] := List.eq_nil_of_length_eq_zero (by omega)
    simp [readF, e]
  | f + 1, 0, ks, a, b => by
    have e : ks = [] := List.eq_nil_of_length_eq_zero (by omega)
    simp [readF, e]
  | f + 1, g + 1, ks, a, b => by
    by_cases e : ks = []
    · simp [readF, e]
    · have := (step_ok h e).2.2
      simp only [readF, if_neg e]
      rw [readF_eq h f g _ (by omega) (by omega)]
theorem read_nil {T : List KR} : read T [] = ([], []) := rfl
theorem read_step {T : List KR} (h : Tab T) {ks : List Int} (e : ks ≠ []) : read T ks = ((step T ks).1 ++ (read T (step T ks).2.2).1, (step T ks).2.1 ++ (read T (step T ks).2.2).2) := by
  have := (step_ok h e).2.2
  unfold read
  obtain ⟨n, hn⟩ : ∃ n, ks.length = n + 1 := ⟨ks.length - 1, by omega⟩
  rw [hn]
  conv => lhs; unfold readF
  rw [if_neg e, readF_eq h n (step T ks).2.2.length _ (by omega) (Nat.le_refl _)]
theorem read_len {T : List KR} (h : Tab T) : ∀ (n : Nat) (ks : List Int), ks.length ≤ n → (read T ks).1.length ≤ 4 * ks.length ∧ (read T ks).2.length ≤ ks.length
  | 0, ks, hn => by
    have e : ks = [] := List.eq_nil_of_length_eq_zero (by omega)
    subst e; simp [read_nil]
  | n + 1, ks, hn => by
    by_cases e : ks = []
    · subst e; simp [read_nil]
    · obtain ⟨a, b, c⟩ := step_ok h e
      obtain ⟨i, j⟩ := read_len h n _ (show (step T ks).2.2.length ≤ n by omega)
      rw [read_step h e]
      simp only [List.length_append]
      omega
/-! the same step by the row with the most keys -/
def fits (ks : List Int) (r : KR) : Prop := ks.take r.1.length = r.1
instance {ks : List Int} {r : KR} : Decidable (fits ks r) := by unfold fits; infer_instance
def better (ks : List Int) (b r : KR) : KR := if b.1.length < r.1.length ∧ fits ks r then r else b
def best (T : List KR) (ks : List Int) : KR := T.foldl (better ks) ([], [], [])
def IsBest (ks : List Int) (T : List KR) (b : KR) : Prop := (b = ([], [], []) ∧ ∀ r ∈ T, ¬ fits ks r) ∨ (b ∈ T ∧ fits ks b ∧ ∀ r ∈ T, fits ks r → r.1.length ≤ b.1.length)
theorem isBest_snoc {ks : List Int} {T : List KR} {b r : KR} (h : IsBest ks T b) (o : KRok r) : IsBest ks (T ++ [r]) (better ks b r) := by
  have hr : r ∈ T ++ [r] := by simp
  unfold better
  by_cases f : fits ks r
  · rcases h with ⟨rfl, h⟩ | ⟨h1, h2, h3⟩
    · rw [if_pos ⟨by simpa using o.k0, f⟩]
      refine .inr ⟨hr, f, fun q hq k => ?_⟩
      rcases List.mem_append.mp hq with hq | hq
      · exact absurd k (h q hq)
      · rw [List.mem_singleton.mp hq]; exact Nat.le_refl _
    · by_cases l : b.1.length < r.1.length
      · rw [if_pos ⟨l, f⟩]
        refine .inr ⟨hr, f, fun q hq k => ?_⟩
        rcases List.mem_append.mp hq with hq | hq
        · have := h3 q hq k; omega
        · rw [List.mem_singleton.mp hq]; exact Nat.le_refl _
      · rw [if_neg fun z => l z.1]
        refine .inr ⟨List.mem_append_left _ h1, h2, fun q hq k => ?_⟩
        rcases List.mem_append.mp hq with hq | hq
        · exact h3 q hq k
        · rw [List.mem_singleton.mp hq]; omega
  · rw [if_neg fun z => f z.2]
    have hh : ∀ q ∈ T ++ [r], fits ks q → q ∈ T := fun q hq k => by
      rcases List.mem_append.mp hq with hq | hq
      · exact hq
      · rw [List.mem_singleton.mp hq] at k; exact absurd k f
    rcases h with ⟨rfl, h⟩ | ⟨h1, h2, h3⟩
    · exact .inl ⟨rfl, fun q hq k => h q (hh q hq k) k⟩
    · exact .inr ⟨List.mem_append_left _ h1, h2, fun q hq k => h3 q (hh q hq k) k⟩
theorem isBest_nil {ks : List Int} : IsBest ks [] ([], [], []) := .inl ⟨rfl, fun _ h => by cases h⟩
theorem take_len {α : Type} {xs : List α} {n : Nat} (h : n ≤ xs.length) : xs.take (xs.take n).length = xs.take n := by
  rw [List.length_take, Nat.min_eq_left h]
theorem stepL_best {T : List KR} (h : Tab T) {ks : List Int} {b : KR} (ib : IsBest ks T b) : ∀ n, n ≤ ks.length → (∀ r ∈ T, fits ks r → r.1.length ≤ n) → stepL T ks n = if b.1 = [] then ([], ks.take 1, ks.drop 1) else (b.2.1, [], b.2.2 ++ ks.drop b.1.length)
  | 0, _, hm => by
    rcases ib with ⟨rfl, _⟩ | ⟨h1, h2, h3⟩
    · simp [stepL]
    · have := hm b h1 h2
      have := (h.ok b h1).k0
      omega
  | n + 1, hn, hm => by
    cases e : look T (ks.take (n + 1)) with
    | some v =>
      rw [stepL_some e]
      have m := look_mem e
      have f : fits ks (ks.take (n + 1), v) := take_len hn
      have el : (ks.take (n + 1)).length = n + 1 := by rw [List.length_take]; omega
      rcases ib with ⟨_, h1⟩ | ⟨h1, h2, h3⟩
      · exact absurd f (h1 _ m)
      · have k1 := h3 _ m f
        have k2 := hm b h1 h2
        have k3 : b.1.length = n + 1 := by simp only [el] at k1; omega
        have eb : b.1 = ks.take (n + 1) := by rw [← k3]; exact h2.symm
        have ev := look_of h.nd h1
        rw [eb, e] at ev
        cases ev
        rw [if_neg fun z => by rw [z] at k3; simp at k3, k3]
    | none =>
      rw [stepL_none e]
      refine stepL_best h ib n (by omega) fun r hr f => ?_
      have := hm r hr f
      by_cases q : r.1.length = n + 1
      · have er : ks.take (n + 1) = r.1 := by rw [← q]; exact f
        rw [er, look_of h.nd hr] at e
        cases e
      · omega
theorem step_best {T : List KR} (h : Tab T) {ks : List Int} {b : KR} (ib : IsBest ks T b) : step T ks = if b.1 = [] then ([], ks.take 1, ks.drop 1) else (b.2.1, [], b.2.2 ++ ks.drop b.1.length) := by
  refine stepL_best h ib _ (Nat.min_le_right _ _) fun r hr f => ?_
  have k4 := (h.ok r hr).k4
  have : r.1.length ≤ ks.length := by
    have e := congrArg List.length f
    rw [List.length_take] at e
    omega
  omega
/-! .. tuples of whole numbers, by the walk -/
section
variable {xs ys : List Int} {lo hi : Option Int} {G : Hd} {Q : Qd} {a : Addr} {p : Bool}
theorem slD_ti : slD (ti xs) lo hi G Q = Q (ti (cut xs lo hi)) G := by unfold ti; rw [slD_t, cut_map]
theorem lenD_ti : lenD [ti xs] G Q = Q (.int xs.length) G := by unfold ti; rw [lenD_t, List.length_map]
theorem addD_ti : addD (ti xs) (ti ys) G Q = (xs.length + ys.length ≤ sizeLine ∧ Q (ti (xs ++ ys)) G) := by unfold ti; rw [addD_t, List.length_map, List.length_map, List.map_append]
theorem ixD_ti : ixD (.ref a) (ti xs) G Q = (∃ kvs ep, G a = some (.dit kvs ep) ∧ ∃ d, valT kvs (ti xs) = some d ∧ Q d G) := by
  unfold ti; rw [ixD_d]
  refine propext ⟨fun ⟨k, e, h1, h2, h3⟩ => ⟨k, e, h1, h3⟩, fun ⟨k, e, h1, h3⟩ => ⟨k, e, h1, keyOk_ti, h3⟩⟩
theorem setD_ti {v : D} {R : Hd → Prop} : setD (.ref a) (ti xs) v G R = (∃ kvs ep, G a = some (.dit kvs ep) ∧ kvs.length < sizeLine ∧ ∀ ep', R (st G a (.dit (putT kvs (ti xs) v) ep'))) := by
  unfold ti; rw [setD_d]
  refine propext ⟨fun ⟨k, e, h1, h2, h3⟩ => ⟨k, e, h1, h3⟩, fun ⟨k, e, h1, h3⟩ => ⟨k, e, h1, keyOk_ti, h3⟩⟩
theorem extD_ti : extendD (.ref a) [ti ys] G Q = (∃ xs, G a = some (.lst xs) ∧ xs.length + ys.length ≤ sizeLine ∧ Q .non (st G a (.lst (xs ++ ys.map .int)))) := by unfold ti; rw [extD_t]; simp only [List.length_map]
theorem in_ti {kvs : List (D × D)} {ep : Nat} (h : G a = some (.dit kvs ep)) (q : Q (.bl (p ^^ (valT kvs (ti xs)).isSome)) G) : inD p (ti xs) (.ref a) G Q := .inr ⟨kvs, ep, h, keyOk_ti, q⟩
theorem tupleD_ti : tupleD [ti xs] G Q = Q (ti xs) G := by unfold ti; rw [tupleD_t]
theorem listD_ti : listD [ti xs] G Q = (xs.length ≤ sizeLine ∧ ∀ p, G p = none → Q (.ref p) (st G p (.lst (xs.map .int)))) := by unfold ti; rw [listD_t, List.length_map]
theorem itv_ti {R : List D → (Hd → Prop) → Hd → Prop} : itv (ti xs) G R = R (xs.map .int) (fun _ => True) G := by unfold ti; rw [itv_t]
theorem ti_of : D.tup (xs.map .int) = ti xs := rfl
theorem ti_one {i : Int} : D.tup [.int i] = ti [i] := rfl
end
theorem Xt.own {bs cs : List Addr} {G G1 G2 : Hd} (x : Xt bs G G1) (y : Xt cs G1 G2) (h : ∀ c ∈ cs, c ∈ bs ∨ G c = Option.none) : Xt bs G G2 := fun a u n e => y a u (fun m => (h a m).elim n fun z => by rw [z] at e; cases e) (x a u n e)
theorem putS {P : List (List Int × Unit)} {x : List Int} : putT (emb ti uD P) (ti x) (.bl true) = emb ti uD (ins P x ()) := putT_emb (f := uD) (y := ()) sameK_tt
theorem putV {A : List KR} {x s l : List Int} : putT (emb ti vD A) (ti x) (.tup [ti s, ti l]) = emb ti vD (ins A x (s, l)) := putT_emb (f := vD) (y := (s, l)) sameK_tt
theorem tab_ins {T : List KR} (h : Tab T) {i : Nat} {r : KR} (e : T[i]? = some r) : ins (T.take i) r.1 r.2 = T.take (i + 1) := by
  obtain ⟨hi, hr⟩ := List.getElem?_eq_some_iff.mp e
  rw [ins_new, List.take_succ, e]; rfl
  intro m
  obtain ⟨q, hq, eq⟩ := List.mem_map.mp m
  obtain ⟨j, hj⟩ := List.getElem?_of_mem hq
  rw [List.getElem?_take] at hj
  split at hj
  · rename_i hji
    have k := (List.getElem?_inj (i := i) (j := j) (by simpa using hi) h.nd).mp (by rw [List.getElem?_map, List.getElem?_map, hj, e]; simp [eq])
    omega
  · cases hj
theorem atI_map {α β : Type} {f : α → β} {xs : List α} {i : Int} : atI (xs.map f) i = (atI xs i).map f := by
  unfold atI; rw [List.length_map]
  cases ixN xs.length i <;> simp
theorem ixD_tii {xs : List Int} {i : Int} {G : Hd} {Q : Qd} : ixD (ti xs) (.int i) G Q = (∃ z, atI xs i = some z ∧ Q (.int z) G) := by
  unfold ti; rw [ixD_t, atI_map]
  cases atI xs i <;> simp

end S

set_option Elab.async false
set_option linter.all false
set_option maxRecDepth 100000
set_option maxHeartbeats 4000000
namespace S
open PySem PySem.Spec L2
open PyProof.Rows hiding St
local macro_rules | `(tactic| walk_at "e") => `(tactic| try simp only [fld_eq, fld_r, setf_eq, setf_r, meth_eq, mth_r, dMake, dDict1, extD_t, extD_r, eqR_ti, eqR_t0, slD_ti, lenD_ti, addD_ti, ixD_ti, setD_ti, extD_ti, tupleD_ti, listD_ti, ixD_tii, itv_ti, dSeq, dNext, dRet, dRetN, dIf, dAsg, dAug, dDrop, par_eq, prs_2, dBreak, dCont, dgName, dgSub, gTup_t, gCons_c, gNil_n, dFor_eq, dLc_eq, dVar, dC, dOp, dUn, dBi, dCall, dCons, dNil, dTup, dLst, dSl, part_eq, prt_i, dNoPart, dAndV, dOrV, dNotV, dB, dAnd, dOr, dNot, dIfE, dChain, itv_eq, itv_t, itv_r, dRng, dWalk, dBm, rng1_i, rng2_i, rng3_i, enumR_r, zipR_r,
  BI.r, addD_i, addD_s, addD_t, addD_r, subD_i, mulD_i, mulD_r, mulD_t, modD_i, divD_i, powD_i, ltD_i, leD_i, gtD_i, geD_i, incD_i, negD_i, lr1_i, lr2_i, revD_r, isND_n, isNon, ixD_t, ixD_r, ixD_d, setD_d, dDnew, itk_eq, itk_r, dDm, getD_r, ditD_r, dItI, iti_r, listK_r, sortedD_r, ixK_t, ixK_r, ixK_l, dKnew, dItJ, itj_r, dKm, getK_r, sdfK_r, dikD_r, sortedJ_r, sortedG_r, dBm0, clearD_r, revsD_r, dChain3, ixD_l, ixD_s, slD_t, slD_r, slD_s, setD_r, lenD_s, lenD_t, lenD_l, lenD_r, isiD_1, isiD_n, listD_t, listD_r, tupleD_t, tupleD_r, allD_r, anyD_r, sumD_r, maxD_r, maxD_2, minD_r, minD_2, absD_i, intB_i, intB_b, appD_r, startD, wipeD,
  List.map_cons, List.map_nil, rep_z, rep_s, List.length_cons, List.length_nil, List.cons_append, List.nil_append, List.append_nil, List.getElem?_cons_zero, List.getElem?_cons_succ, List.set_cons_zero, List.set_cons_succ, Option.some.injEq, exists_eq_left', exists_eq_left, D.bl.injEq, D.int.injEq, D.tup.injEq, D.ref.injEq, true_and, and_true, Nat.reduceAdd, Nat.reduceSub, Nat.add_sub_cancel_left, exists_const, br_t, br_f, eqR_int, eqR_bl, Bool.false_bne, Bool.true_bne, Bool.false_xor, Bool.true_xor, Bool.not_true, Bool.not_false, Bool.not_not, ite_true, ite_false, Bool.true_eq_false, false_implies, decide_true, decide_false, tc_int, tc_bool, tc_str, tc_tup, tc_lst, tc_non, tc_dic, ln0, ln1, ln2, ln3, ln4, ln5, ln6, ln7, ln8, ln9, ln10, ln11, ln12, ln13, ln14, ln15, ln16, ln17, ln18, ln19, ln20, ln21, ln22, ln23, ln24, ln25, ln26, ln27, ln28, ln29, ln30, ln31, ln32, ln33, ln34, ln35, ln36, ln37, ln38, ln39, ln40, ln41, ln42, ln43, ln44, ln45, ln46, ln47, ln48, ln49, ln50, ln51, ln52, ln53, ln54, ln55, ln56, ln57, ln58, ln59, ln60])
local macro_rules | `(tactic| walk_at "g") => `(tactic| try simp only [st_same, st_st, GO.lst.injEq, Option.some.injEq, exists_eq_left', exists_eq_left, atI_0, atI_1, atI_2, atI_3, ixN_0, ixN_1, ixN_2, ixN_3, List.set_cons_zero, List.set_cons_succ, List.length_cons, List.length_nil, List.length_append, List.cons_append, List.nil_append, true_and, and_true, seq_st])
/-! ## a reader of keys -/
def Start (T : List KR) (x : List Int) : Prop := x = [] ∨ ∃ r ∈ T, ∃ n, 1 ≤ n ∧ n < r.1.length ∧ x = r.1.take n
def StOk (T : List KR) (P : List (List Int × Unit)) : Prop := ∀ x, x ∈ P.map (·.1) ↔ Start T x
structure RdrAt (G : Hd) (a b s k : Addr) (T : List KR) : Prop where
  fs : ∃ fs, G a = some (.obj 0 fs) ∧ fs 0 = some (.ref b) ∧ fs 1 = some (.ref s) ∧ fs 2 = some (.ref k)
  by_ : ∃ ep, G b = some (.dit (emb ti vD T) ep)
  st_ : ∃ P ep, G s = some (.dit (emb ti uD P) ep) ∧ StOk T P
theorem RdrAt.xt {G G' : Hd} {a b s k : Addr} {T : List KR} {bs : List Addr} (h : RdrAt G a b s k T) (x : Xt bs G G') (n : ∀ c ∈ [a, b, s], c ∉ bs) : RdrAt G' a b s k T := by
  obtain ⟨⟨fs, e, r⟩, ⟨ep, e2⟩, P, ep2, e3, r3⟩ := h
  exact ⟨⟨fs, x.get (n a (by simp)) e, r⟩, ⟨ep, x.get (n b (by simp)) e2⟩, P, ep2, x.get (n s (by simp)) e3, r3⟩
theorem RdrAt.ext {G G' : Hd} {a b s k : Addr} {T : List KR} (h : RdrAt G a b s k T) (x : Ext G G') : RdrAt G' a b s k T := h.xt x (by simp)
def sp_KeyReader_init : DSp := fun ds G q _ => ∃ (a t : Addr) (fs : Nat → Option D) (T : List KR), ds = [.ref a, .ref t] ∧ G a = some (.obj 0 fs) ∧ seqG G t (T.map rD) ∧ Tab T ∧
  ∀ b s k ep G', G b = none → G s = none → G k = none → k ≠ b → k ≠ s → Xt [a] G G' → RdrAt G' a b s k T → G' k = some (.dit [] ep) → q .non G'
def t_KeyReader_init_b1 : TSd := dAsg (dC (.bl true)) (dgSub (dFld 0 1 (dVar 0)) (dSl (dVar 2) dNoPart (dPart (dVar 5))) setD)
def t_KeyReader_init_s1 : TSd := dFor (dRng rng2 (dCons (dC (.int 1)) (dCons (dBi (BI.r .len) (dCons (dVar 2) (dNil))) (dNil)))) (dgName 5) t_KeyReader_init_b1
def t_KeyReader_init_b2 : TSd := dSeq (dAsg (dTup (dCons (dVar 3) (dCons (dVar 4) (dNil)))) (dgSub (dFld 0 0 (dVar 0)) (dVar 2) setD)) t_KeyReader_init_s1
def t_KeyReader_init_s2 : TSd := dSeq (dFor (dItV (dVar 1)) (dgTup 3 (dgCons (dgName 2) (dgCons (dgName 3) (dgCons (dgName 4) (dgNil))))) t_KeyReader_init_b2) (dSetF 0 2 (dVar 0) (dDnew))
def N_KeyReader_init : List Str := ["self", "table", "keys", "sounds", "left", "length"]
def P_KeyReader_init : List Str := ["self", "table"]
def t_KeyReader_init : TSd := dSeq (dSetF 0 0 (dVar 0) (dDnew)) (dSeq (dSetF 0 1 (dVar 0) (dDict1 (dTup (dNil)) (dC (.bl true)))) t_KeyReader_init_s2)
def gl_KeyReader_init : List (Str × GI) := [("range", .rng), ("len", .bi .len)]
def fl_KeyReader_init : List (Str × Nat × Nat) := [("by_keys", 0, 0), ("starts", 0, 1), ("known", 0, 2)]
def mt_KeyReader_init : List (Str × Nat × DSp) := []
theorem len_KeyReader_init : ∀ ds G q x, sp_KeyReader_init ds G q x → ds.length = P_KeyReader_init.length := by
  rintro _ _ _ _ ⟨a, t, fs, T, rfl, _⟩; rfl
theorem b_KeyReader_init : Body t_KeyReader_init N_KeyReader_init sp_KeyReader_init := by
  rintro ds G q x ⟨a, t, fs, T, rfl, ea, et, tab, hq⟩
  unfold t_KeyReader_init N_KeyReader_init t_KeyReader_init_s2
  walk_at "e"
  intro pb hpb
  generalize epb : st G pb _ = G1
  obtain ⟨xpb, kpb⟩ := nu hpb epb
  refine ⟨fs, xpb.at ea, ?_⟩
  generalize epa : st G1 a _ = G2
  obtain ⟨xpa, kpa⟩ := put epa
  have nab : a ≠ pb := fun e => by rw [e, hpb] at ea; cases ea
  have hpb2 : G2 pb = some (.dit [] 0) := xpa.get (by simpa using fun e => nab e.symm) kpb
  intro ps hps
  generalize eps : st G2 ps _ = G3
  obtain ⟨xps, kps⟩ := nu hps eps
  have na : a ≠ ps := fun e => by rw [e, hps] at kpa; cases kpa
  have nb : pb ≠ ps := fun e => by rw [e, hps] at hpb2; cases hpb2
  refine ⟨kps, keyOk_ti (xs := []), fun ep => ?_⟩
  have nt : t ≠ a := fun e => by subst e; rcases et with z | z <;> (rw [ea] at z; cases z)
  generalize ep1 : st G3 ps _ = G4
  obtain ⟨xp1, kp1⟩ := put ep1
  refine ⟨updF fs 0 (.ref pb), xp1.get (by simpa using na) (xps.at kpa), ?_⟩
  generalize ep2 : st G4 a _ = G5
  obtain ⟨xp2, kp2⟩ := put ep2
  have hps1 : G1 ps = none := xpa.free (by simpa using fun e => na e.symm) hps
  have hps0 : G ps = none := xpb.none hps1
  have x03 : Xt [a] G G3 := (xpb.ext.trans xpa).trans xps.ext
  have x05 : Xt [a] G G5 := (Xt.own x03 xp1 (by simpa using .inr hps0)).trans xp2
  have e5b : G5 pb = some (.dit [] 0) := xp2.get (by simpa using fun e => nab e.symm) (xp1.get (by simpa using nb) (xps.at hpb2))
  have e5s : G5 ps = some (.dit [(.tup [], .bl true)] ep) := xp2.get (by simpa using fun e => na e.symm) kp1
  refine ⟨_, x05.seq (by simpa using nt) et, ?_⟩
  refine ⟨fun i σ G6 => Xt [a] G G6 ∧ ∃ (o2 o3 o4 o5 : Option D) (P : List (List Int × Unit)) (ep1 ep2 : Nat), σ = [some (.ref a), some (.ref t), o2, o3, o4, o5] ∧ G6 a = some (.obj 0 (updF (updF fs 0 (.ref pb)) 1 (.ref ps))) ∧ G6 pb = some (.dit (emb ti vD (T.take i)) ep1) ∧ G6 ps = some (.dit (emb ti uD P) ep2) ∧ StOk (T.take i) P ∧ P.length ≤ 1 + 4 * i,
    ⟨x05, _, _, _, _, [([], ())], 0, ep, rfl, kp2, e5b, e5s, ?_, by simp⟩, fun i σ G6 h => h.1.seq (by simpa using nt) et, ?_, ?_⟩
  · intro x
    simp [Start]
  · rintro i z σ G6 ez ⟨x6, o2, o3, o4, o5, P, ep1, ep2, rfl, ea6, eb6, es6, hP, lP⟩
    rw [List.getElem?_map] at ez
    obtain ⟨r, er, rfl⟩ := Option.map_eq_some_iff.mp ez
    obtain ⟨hi, hr⟩ := List.getElem?_eq_some_iff.mp er
    have ok := tab.ok r (List.mem_of_getElem? er)
    have tl := tab.len
    unfold t_KeyReader_init_b2 t_KeyReader_init_s1 rD
    walk_at "e"
    refine ⟨_, .ref pb, ea6, by rw [updF_ne (by decide), updF_same], ?_⟩
    walk_at "e"
    refine ⟨_, _, eb6, by rw [emb_len, List.length_take]; exact line_lt (by omega), fun ep3 => ?_⟩
    rw [putV, tab_ins tab er]
    generalize ep6 : st G6 pb _ = G7
    obtain ⟨xp6, kp6⟩ := put ep6
    have k4 := ok.k4
    have k0 := ok.k0
    refine ⟨by omega, ?_⟩
    have x7 : Xt [a] G G7 := Xt.own x6 xp6 (by simpa using .inr hpb)
    have ea7 := xp6.get (by simpa using nab) ea6
    have es7 := xp6.get (by simpa using fun e => nb e.symm) es6
    refine ⟨fun j σ G8 => Xt [a] G G8 ∧ ∃ (o5 : Option D) (P : List (List Int × Unit)) (ep2 : Nat), σ = [some (.ref a), some (.ref t), some (ti r.1), some (ti r.2.1), some (ti r.2.2), o5] ∧ G8 a = some (.obj 0 (updF (updF fs 0 (.ref pb)) 1 (.ref ps))) ∧ G8 pb = some (.dit (emb ti vD (T.take (i + 1))) ep3) ∧ G8 ps = some (.dit (emb ti uD P) ep2) ∧ (∀ x, x ∈ P.map (·.1) ↔ Start (T.take i) x ∨ ∃ n, 1 ≤ n ∧ n ≤ j ∧ x = r.1.take n) ∧ P.length ≤ 1 + 4 * i + j,
      ⟨x7, _, P, _, rfl, ea7, kp6, es7, fun x => ?_, by omega⟩, fun _ _ _ _ => trivial, ?_, ?_⟩
    · rw [hP x]
      exact ⟨.inl, fun h => h.elim id fun ⟨n, h1, h2, _⟩ => by omega⟩
    · rintro j z σ G8 ez ⟨x8, o5, P, ep2, rfl, ea8, eb8, es8, hP, lP⟩
      obtain ⟨hj, rfl⟩ := rngL_some1 ez
      unfold t_KeyReader_init_b1
      walk_at "e"
      refine ⟨_, .ref ps, ea8, by rw [updF_same], ?_⟩
      walk_at "e"
      refine ⟨_, _, es8, by rw [emb_len]; exact line_lt (by omega), fun ep4 => ?_⟩
      rw [putS, cut_to (by omega)]
      generalize ep8 : st G8 ps _ = G9
      obtain ⟨xp8, kp8⟩ := put ep8
      refine ⟨Xt.own x8 xp8 (by simpa using .inr hps0), _, _, ep4, rfl, xp8.get (by simpa using na) ea8, xp8.get (by simpa using nb) eb8, kp8, fun x => ?_, ?_⟩
      · have e1 : (1 + (j : Int)).toNat = j + 1 := by omega
        rw [ins_keys, e1]
        by_cases m : r.1.take (j + 1) ∈ P.map (·.1)
        · rw [if_pos m, hP x]
          refine ⟨fun h => h.imp id fun ⟨n, h1, h2, h3⟩ => ⟨n, h1, by omega, h3⟩, fun h => ?_⟩
          rcases h with h | ⟨n, h1, h2, h3⟩
          · exact .inl h
          · by_cases q : n = j + 1
            · subst q; subst h3; exact (hP _).mp m
            · exact .inr ⟨n, h1, by omega, h3⟩
        · rw [if_neg m, List.mem_append, hP x, List.mem_singleton]
          refine ⟨fun h => ?_, fun h => ?_⟩
          · rcases h with (h | ⟨n, h1, h2, h3⟩) | h
            · exact .inl h
            · exact .inr ⟨n, h1, by omega, h3⟩
            · exact .inr ⟨j + 1, by omega, by omega, h⟩
          · rcases h with h | ⟨n, h1, h2, h3⟩
            · exact .inl (.inl h)
            · by_cases q : n = j + 1
              · subst q; exact .inr h3
              · exact .inl (.inr ⟨n, h1, by omega, h3⟩)
      · have := ins_len (A := P) (x := r.1.take (1 + (j : Int)).toNat) (y := ())
        omega
    · rintro σ G8 ⟨x8, o5, P, ep2, rfl, ea8, eb8, es8, hP, lP⟩
      rw [rngL_length] at hP lP
      refine ⟨x8, _, _, _, _, P, _, _, rfl, ea8, eb8, es8, fun x => ?_, by omega⟩
      rw [hP x]
      have em : ∀ q, q ∈ T.take (i + 1) ↔ q ∈ T.take i ∨ q = r := fun q => by
        rw [List.take_succ, er]; simp
      unfold Start
      refine ⟨fun h => ?_, fun h => ?_⟩
      · rcases h with (h | ⟨q, hq, n, h1, h2, h3⟩) | ⟨n, h1, h2, h3⟩
        · exact .inl h
        · exact .inr ⟨q, (em q).mpr (.inl hq), n, h1, h2, h3⟩
        · exact .inr ⟨r, (em r).mpr (.inr rfl), n, h1, by omega, h3⟩
      · rcases h with h | ⟨q, hq, n, h1, h2, h3⟩
        · exact .inl (.inl h)
        · rcases (em q).mp hq with hq | rfl
          · exact .inl (.inr ⟨q, hq, n, h1, h2, h3⟩)
          · exact .inr ⟨n, h1, by omega, h3⟩
  · rintro σ G6 ⟨x6, o2, o3, o4, o5, P, ep1, ep2, rfl, ea6, eb6, es6, hP, lP⟩
    walk_at "e"
    intro pk hpk
    generalize epk : st G6 pk _ = G7
    obtain ⟨xpk, kpk⟩ := nu hpk epk
    refine ⟨_, xpk.at ea6, ?_⟩
    generalize ep9 : st G7 a _ = G8
    obtain ⟨xp9, kp9⟩ := put ep9
    rw [List.length_map, List.take_length] at eb6 hP
    have nka : pk ≠ a := fun e => by rw [e, ea6] at hpk; cases hpk
    have nkb : pk ≠ pb := fun e => by rw [e, eb6] at hpk; cases hpk
    have nks : pk ≠ ps := fun e => by rw [e, es6] at hpk; cases hpk
    exact hq pb ps pk 0 G8 hpb hps0 (x6.free (by simpa using nka) hpk) nkb nks ((x6.trans xpk.ext).trans xp9)
      ⟨⟨_, kp9, by rw [updF_ne (by decide), updF_ne (by decide), updF_same], by rw [updF_ne (by decide), updF_same], updF_same⟩, ⟨ep1, xp9.get (by simpa using fun e => nab e.symm) (xpk.at eb6)⟩, P, ep2, xp9.get (by simpa using fun e => na e.symm) (xpk.at es6), hP⟩ (xp9.get (by simpa using nka) kpk)
def stepD (t : List Int × List Int × List Int) : D := .tup [ti t.1, ti t.2.1, ti t.2.2]
def sp_KeyReader_one_step : DSp := fun ds G q _ => ∃ (a b s k : Addr) (T : List KR) (ks : List Int), ds = [.ref a, ti ks] ∧ RdrAt G a b s k T ∧ Tab T ∧ ks.length ≤ 1000 ∧ q (stepD (step T ks)) G
def t_KeyReader_one_step_b1 : TSd := dIf (dB (dOp (inD false) (dSl (dVar 1) dNoPart (dPart (dVar 2))) (dFld 0 0 (dVar 0)))) (dSeq (dAsg (dOp ixD (dFld 0 0 (dVar 0)) (dSl (dVar 1) dNoPart (dPart (dVar 2)))) (dgTup 2 (dgCons (dgName 3) (dgCons (dgName 4) (dgNil))))) (dRet (dTup (dCons (dVar 3) (dCons (dTup (dNil)) (dCons (dOp addD (dVar 4) (dSl (dVar 1) (dPart (dVar 2)) dNoPart)) (dNil))))))) (dNext)
def t_KeyReader_one_step_r1 : TSd := dRet (dTup (dCons (dTup (dNil)) (dCons (dSl (dVar 1) dNoPart (dPart (dC (.int 1)))) (dCons (dSl (dVar 1) (dPart (dC (.int 1))) dNoPart) (dNil)))))
def N_KeyReader_one_step : List Str := ["self", "keys", "length", "sounds", "left"]
def P_KeyReader_one_step : List Str := ["self", "keys"]
def t_KeyReader_one_step : TSd := dSeq (dFor (dRng rng3 (dCons (dBi (BI.r .min) (dCons (dC (.int 4)) (dCons (dBi (BI.r .len) (dCons (dVar 1) (dNil))) (dNil)))) (dCons (dC (.int 0)) (dCons (dUn negD (dC (.int 1))) (dNil))))) (dgName 2) t_KeyReader_one_step_b1) t_KeyReader_one_step_r1
def gl_KeyReader_one_step : List (Str × GI) := [("range", .rng), ("min", .bi .min), ("len", .bi .len), ("MOST_KEYS", .cst (.int 4))]
def fl_KeyReader_one_step : List (Str × Nat × Nat) := [("by_keys", 0, 0)]
def mt_KeyReader_one_step : List (Str × Nat × DSp) := []
theorem len_KeyReader_one_step : ∀ ds G q x, sp_KeyReader_one_step ds G q x → ds.length = P_KeyReader_one_step.length := by
  rintro _ _ _ _ ⟨a, b, s, k, T, ks, rfl, _⟩; rfl
theorem b_KeyReader_one_step : Body t_KeyReader_one_step N_KeyReader_one_step sp_KeyReader_one_step := by
  rintro ds G q x ⟨a, b, s, k, T, ks, rfl, rd, tab, lk, hq⟩
  unfold t_KeyReader_one_step N_KeyReader_one_step
  walk_at "e"
  obtain ⟨⟨fs, ea, f0, f1, f2⟩, ⟨ep, eb⟩, _⟩ := rd
  have hm : (min 4 (ks.length : Int) - 0).toNat = min 4 ks.length := by omega
  refine ⟨_, RgC.neg (by omega) (by omega) (by decide) (by decide), ?_⟩
  rw [hm]
  refine ⟨fun i σ G1 => G1 = G ∧ ∃ o2 o3 o4 : Option D, σ = [some (.ref a), some (ti ks), o2, o3, o4] ∧ step T ks = stepL T ks (min 4 ks.length - i), ⟨rfl, _, _, _, rfl, rfl⟩, fun _ _ _ _ => trivial, ?_, ?_⟩
  · rintro i z σ G1 ez ⟨rfl, o2, o3, o4, rfl, hs⟩
    obtain ⟨hi, rfl⟩ := rngL_some ez
    obtain ⟨n, hn⟩ : ∃ n, min 4 ks.length - i = n + 1 := ⟨min 4 ks.length - i - 1, by omega⟩
    have hz : min 4 (ks.length : Int) + (i : Int) * -1 = ((n + 1 : Nat) : Int) := by omega
    rw [hn] at hs
    rw [hz]
    unfold t_KeyReader_one_step_b1
    walk_at "e"
    rw [cut_to (by omega), Int.toNat_natCast]
    refine ⟨_, .ref b, ea, f0, in_ti eb ?_⟩
    rw [valT_emb sameK_tt, Option.isSome_map]
    cases e : look T (ks.take (n + 1)) with
    | none =>
      walk_at "e"
      refine ⟨fun z => (by cases z), fun _ => ⟨_, _, _, rfl, ?_⟩⟩
      rw [hs, stepL_none e]
      congr 1; omega
    | some v =>
      walk_at "e"
      have o := tab.ok _ (look_mem e)
      refine ⟨fun _ => ⟨_, .ref b, ea, f0, ?_⟩, fun z => by cases z⟩
      walk_at "e"
      refine ⟨_, _, eb, vD v, by rw [valT_emb sameK_tt, e]; rfl, ?_⟩
      unfold vD
      walk_at "e"
      rw [cut_from (by omega), Int.toNat_natCast]
      have h1 := o.ll; have h2 := o.k4; have h3 := o.s4
      simp only at h1 h2 h3
      refine ⟨line_le (by simp only [List.length_drop]; omega), ?_⟩
      rw [hs, stepL_some e] at hq
      exact hq
  · rintro σ G1 ⟨rfl, o2, o3, o4, rfl, hs⟩
    unfold t_KeyReader_one_step_r1
    walk_at "e"
    rw [rngL_length, Nat.sub_self] at hs
    rw [cut_to (by decide), cut_from (by decide)]
    rw [hs] at hq
    exact hq
/-! .. until nothing is to be read -/
/-- whole numbers, in a tuple or in a list -/
def IntsOf (G : Hd) (x : D) (ks : List Int) : Prop := x = ti ks ∨ ∃ a, x = .ref a ∧ seqG G a (ks.map .int)
theorem IntsOf.tup {G : Hd} {x : D} {ks : List Int} {Q : Qd} (h : IntsOf G x ks) (q : Q (ti ks) G) : tupleD [x] G Q := by
  rcases h with rfl | ⟨a, rfl, e⟩
  · rw [tupleD_ti]; exact q
  · exact ⟨_, e, q⟩
theorem IntsOf.ext {G G' : Hd} {x : D} {ks : List Int} (h : IntsOf G x ks) (xt : Ext G G') : IntsOf G' x ks := h.imp id fun ⟨a, e, s⟩ => ⟨a, e, xt.seq (by simp) s⟩
def sp_KeyReader_read_all : DSp := fun ds G q _ => ∃ (a b s k : Addr) (x : D) (T : List KR) (ks : List Int), ds = [.ref a, x] ∧ RdrAt G a b s k T ∧ Tab T ∧ IntsOf G x ks ∧ ks.length ≤ 1000 ∧
  ∀ u v G', G u = none → G v = none → u ≠ v → Ext G G' → G' u = some (.lst ((read T ks).1.map .int)) → G' v = some (.lst ((read T ks).2.map .int)) → q (.tup [.ref u, .ref v]) G'
def t_KeyReader_read_all_b1 : TSd := dSeq (dAsg (dMeth 0 sp_KeyReader_one_step (dVar 0) (dCons (dVar 4) (dNil))) (dgTup 3 (dgCons (dgName 5) (dgCons (dgName 6) (dgCons (dgName 4) (dgNil)))))) (dSeq (dDrop (dBm "list" extendD (dVar 2) (dCons (dVar 5) (dNil)))) (dDrop (dBm "list" extendD (dVar 3) (dCons (dVar 6) (dNil)))))
def t_KeyReader_read_all_r1 : TSd := dRet (dTup (dCons (dVar 2) (dCons (dVar 3) (dNil))))
def t_KeyReader_read_all_s1 : TSd := dSeq (dWhile (dB (dOp (eqR true) (dVar 4) (dTup (dNil)))) t_KeyReader_read_all_b1) t_KeyReader_read_all_r1
def N_KeyReader_read_all : List Str := ["self", "keys", "sounds", "lost", "left", "more", "gone"]
def P_KeyReader_read_all : List Str := ["self", "keys"]
def t_KeyReader_read_all : TSd := dSeq (dAsg (dLst (dNil)) (dgName 2)) (dSeq (dAsg (dLst (dNil)) (dgName 3)) (dSeq (dAsg (dBi (BI.r .tuple) (dCons (dVar 1) (dNil))) (dgName 4)) t_KeyReader_read_all_s1))
def gl_KeyReader_read_all : List (Str × GI) := [("tuple", .bi .tuple)]
def fl_KeyReader_read_all : List (Str × Nat × Nat) := []
def mt_KeyReader_read_all : List (Str × Nat × DSp) := [("one_step", 0, sp_KeyReader_one_step)]
theorem len_KeyReader_read_all : ∀ ds G q x, sp_KeyReader_read_all ds G q x → ds.length = P_KeyReader_read_all.length := by
  rintro _ _ _ _ ⟨a, b, s, k, y, T, ks, rfl, _⟩; rfl
theorem b_KeyReader_read_all : Body t_KeyReader_read_all N_KeyReader_read_all sp_KeyReader_read_all := by
  rintro ds G q x ⟨a, b, s, k, y, T, ks, rfl, rd, tab, iy, lk, hq⟩
  unfold t_KeyReader_read_all N_KeyReader_read_all
  walk_at "e"
  intro pu hpu
  generalize epu : st G pu _ = G1
  obtain ⟨xpu, kpu⟩ := nu hpu epu
  intro pv hpv
  generalize epv : st G1 pv _ = G2
  obtain ⟨xpv, kpv⟩ := nu hpv epv
  have x02 : Ext G G2 := xpu.trans xpv
  have hpv0 : G pv = none := xpu.none hpv
  have nuv : pu ≠ pv := fun e => by rw [← e, kpu] at hpv; cases hpv
  refine (iy.ext x02).tup ?_
  have ln := read_len tab _ ks (Nat.le_refl _)
  unfold t_KeyReader_read_all_s1
  walk_at "e"
  refine ⟨fun m σ G3 => Ext G G3 ∧ ∃ (left S L : List Int) (o5 o6 : Option D), m = left.length ∧ left.length ≤ 1000 ∧ σ = [some (.ref a), some y, some (.ref pu), some (.ref pv), some (ti left), o5, o6] ∧ G3 pu = some (.lst (S.map .int)) ∧ G3 pv = some (.lst (L.map .int)) ∧ S ++ (read T left).1 = (read T ks).1 ∧ L ++ (read T left).2 = (read T ks).2,
    ⟨ks.length, x02, ks, [], [], _, _, rfl, lk, rfl, xpv.at kpu, kpv, rfl, rfl⟩, ?_⟩
  rintro m σ G3 ⟨x3, left, S, L, o5, o6, rfl, ll, rfl, eu, ev, hS, hL⟩
  walk_at "e"
  by_cases h : left = []
  · subst h
    rw [read_nil, List.append_nil] at hS hL
    subst hS; subst hL
    walk_at "e"
    unfold t_KeyReader_read_all_r1
    walk_at "e"
    exact hq pu pv G3 hpu hpv0 nuv x3 eu ev
  · obtain ⟨s4, l1, lt⟩ := step_ok tab h
    simp only [decide_eq_false h]
    unfold t_KeyReader_read_all_b1
    walk_at "e"
    refine ⟨fun σ G4 => Ext G G4 ∧ ∃ (left2 S L : List Int) (o5 o6 : Option D), left2.length < left.length ∧ σ = [some (.ref a), some y, some (.ref pu), some (.ref pv), some (ti left2), o5, o6] ∧ G4 pu = some (.lst (S.map .int)) ∧ G4 pv = some (.lst (L.map .int)) ∧ S ++ (read T left2).1 = (read T ks).1 ∧ L ++ (read T left2).2 = (read T ks).2,
      fun σ G4 ⟨x4, left2, S, L, o5, o6, l2, es, eu, ev, hS, hL⟩ => ⟨_, l2, x4, left2, S, L, o5, o6, rfl, by omega, es, eu, ev, hS, hL⟩, ?_⟩
    have rd3 := rd.ext x3
    obtain ⟨⟨fs, ea, _⟩, _⟩ := rd3
    refine ⟨_, ea, a, b, s, k, T, left, rfl, rd.ext x3, tab, ll, ?_⟩
    rw [read_step tab h] at hS hL
    have lS := congrArg List.length hS
    have lL := congrArg List.length hL
    simp only [List.length_append] at lS lL
    unfold stepD
    walk_at "e"
    refine ⟨tyD_l (.inl eu), _, eu, line_le (by rw [List.length_map]; omega), ?_⟩
    generalize ep4 : st G3 pu _ = G4
    obtain ⟨xp4, kp4⟩ := put ep4
    refine ⟨tyD_l (.inl (xp4.get (by simpa using fun e => nuv e.symm) ev)), _, xp4.get (by simpa using fun e => nuv e.symm) ev, line_le (by rw [List.length_map]; omega), ?_⟩
    generalize ep5 : st G4 pv _ = G5
    obtain ⟨xp5, kp5⟩ := put ep5
    refine ⟨Xt.own (Xt.own x3 xp4 (by simpa using hpu)) xp5 (by simpa using hpv0), (step T left).2.2, S ++ (step T left).1, L ++ (step T left).2.1, _, _, lt, rfl, xp5.get (by simpa using nuv) (by rw [kp4, List.map_append]), by rw [kp5, List.map_append], by rw [List.append_assoc]; exact hS, by rw [List.append_assoc]; exact hL⟩
def sp_read_keys : DSp := fun ds G q _ => ∃ (t : Addr) (x : D) (T : List KR) (ks : List Int), ds = [.ref t, x] ∧ seqG G t (T.map rD) ∧ Tab T ∧ IntsOf G x ks ∧ ks.length ≤ 1000 ∧
  ∀ u v G', G u = none → G v = none → u ≠ v → Ext G G' → G' u = some (.lst ((read T ks).1.map .int)) → G' v = some (.lst ((read T ks).2.map .int)) → q (.tup [.ref u, .ref v]) G'
def N_read_keys : List Str := ["table", "keys"]
def P_read_keys : List Str := ["table", "keys"]
def t_read_keys : TSd := dRet (dMeth 0 sp_KeyReader_read_all (dMake 0 sp_KeyReader_init (dCons (dVar 0) (dNil))) (dCons (dVar 1) (dNil)))
def gl_read_keys : List (Str × GI) := [("KeyReader", .cl 0 sp_KeyReader_init)]
def fl_read_keys : List (Str × Nat × Nat) := []
def mt_read_keys : List (Str × Nat × DSp) := [("read_all", 0, sp_KeyReader_read_all)]
theorem len_read_keys : ∀ ds G q x, sp_read_keys ds G q x → ds.length = P_read_keys.length := by
  rintro _ _ _ _ ⟨a, y, T, ks, rfl, _⟩; rfl
theorem b_read_keys : Body t_read_keys N_read_keys sp_read_keys := by
  rintro ds G q x ⟨t, y, T, ks, rfl, et, tab, iy, lk, hq⟩
  unfold t_read_keys N_read_keys
  walk_at "e"
  intro pa hpa
  generalize epa : st G pa _ = G1
  obtain ⟨xpa, kpa⟩ := nu hpa epa
  refine ⟨pa, t, _, T, rfl, kpa, xpa.seq (by simp) et, tab, fun b s k ep G2 hb hs hk nkb nks x2 rd ek => ⟨rfl, ?_⟩⟩
  have x02 : Ext G G2 := Xt.own xpa x2 (by simpa using hpa)
  have rd2 := rd
  obtain ⟨⟨fs, ea, _⟩, _⟩ := rd2
  refine ⟨fs, ea, pa, b, s, k, y, T, ks, rfl, rd, tab, iy.ext x02, lk, fun u v G3 hu hv nuv x3 eu ev => ?_⟩
  exact hq u v G3 (x02.none hu) (x02.none hv) nuv (x02.trans x3) eu ev

end S

set_option Elab.async false
set_option linter.all false
set_option maxRecDepth 100000
set_option maxHeartbeats 4000000
namespace S
open PySem PySem.Spec L2
open PyProof.Rows hiding St
local macro_rules | `(tactic| walk_at "e") => `(tactic| try simp only [fld_eq, fld_r, setf_eq, setf_r, meth_eq, mth_r, dMake, dDict1, extD_t, extD_r, eqR_ti, eqR_t0, slD_ti, lenD_ti, addD_ti, ixD_ti, setD_ti, extD_ti, tupleD_ti, listD_ti, ixD_tii, itv_ti, dSeq, dNext, dRet, dRetN, dIf, dAsg, dAug, dDrop, par_eq, prs_2, dBreak, dCont, dgName, dgSub, gTup_t, gCons_c, gNil_n, dFor_eq, dLc_eq, dVar, dC, dOp, dUn, dBi, dCall, dCons, dNil, dTup, dLst, dSl, part_eq, prt_i, dNoPart, dAndV, dOrV, dNotV, dB, dAnd, dOr, dNot, dIfE, dChain, itv_eq, itv_t, itv_r, dRng, dWalk, dBm, rng1_i, rng2_i, rng3_i, enumR_r, zipR_r,
  BI.r, addD_i, addD_s, addD_t, addD_r, subD_i, mulD_i, mulD_r, mulD_t, modD_i, divD_i, powD_i, ltD_i, leD_i, gtD_i, geD_i, incD_i, negD_i, lr1_i, lr2_i, revD_r, isND_n, isNon, ixD_t, ixD_r, ixD_d, setD_d, dDnew, itk_eq, itk_r, dDm, getD_r, ditD_r, dItI, iti_r, listK_r, sortedD_r, ixK_t, ixK_r, ixK_l, dKnew, dItJ, itj_r, dKm, getK_r, sdfK_r, dikD_r, sortedJ_r, sortedG_r, dBm0, clearD_r, revsD_r, dChain3, ixD_l, ixD_s, slD_t, slD_r, slD_s, setD_r, lenD_s, lenD_t, lenD_l, lenD_r, isiD_1, isiD_n, listD_t, listD_r, tupleD_t, tupleD_r, allD_r, anyD_r, sumD_r, maxD_r, maxD_2, minD_r, minD_2, absD_i, intB_i, intB_b, appD_r, startD, wipeD,
  List.map_cons, List.map_nil, rep_z, rep_s, List.length_cons, List.length_nil, List.cons_append, List.nil_append, List.append_nil, List.getElem?_cons_zero, List.getElem?_cons_succ, List.set_cons_zero, List.set_cons_succ, Option.some.injEq, exists_eq_left', exists_eq_left, D.bl.injEq, D.int.injEq, D.tup.injEq, D.ref.injEq, true_and, and_true, Nat.reduceAdd, Nat.reduceSub, Nat.add_sub_cancel_left, exists_const, br_t, br_f, eqR_int, eqR_bl, Bool.false_bne, Bool.true_bne, Bool.false_xor, Bool.true_xor, Bool.not_true, Bool.not_false, Bool.not_not, ite_true, ite_false, Bool.true_eq_false, false_implies, decide_true, decide_false, tc_int, tc_bool, tc_str, tc_tup, tc_lst, tc_non, tc_dic, ln0, ln1, ln2, ln3, ln4, ln5, ln6, ln7, ln8, ln9, ln10, ln11, ln12, ln13, ln14, ln15, ln16, ln17, ln18, ln19, ln20, ln21, ln22, ln23, ln24, ln25, ln26, ln27, ln28, ln29, ln30, ln31, ln32, ln33, ln34, ln35, ln36, ln37, ln38, ln39, ln40, ln41, ln42, ln43, ln44, ln45, ln46, ln47, ln48, ln49, ln50, ln51, ln52, ln53, ln54, ln55, ln56, ln57, ln58, ln59, ln60])
local macro_rules | `(tactic| walk_at "g") => `(tactic| try simp only [st_same, st_st, GO.lst.injEq, Option.some.injEq, exists_eq_left', exists_eq_left, atI_0, atI_1, atI_2, atI_3, ixN_0, ixN_1, ixN_2, ixN_3, List.set_cons_zero, List.set_cons_succ, List.length_cons, List.length_nil, List.length_append, List.cons_append, List.nil_append, true_and, and_true, seq_st])
/-! ## the laws' tables of keys -/
theorem lcR_ints {vs : List Nat} {σ : Sd} {Q : Qd} {xs : List D} {G0 : Hd} {g : TGd} {te : TEd} {b : Addr} (bag : Bag G0 b) (hl : xs.length ≤ 1000000)
    (el : ∀ (i : Nat) (x : D), xs[i]? = some x → ∀ G' Q', Xt [b] G0 G' → Bag G' b → (∀ r G'', Xt [b] G' G'' → Bag G'' b → Q' (.int r) G'') → g W0 x (wipeD σ vs) G' fun σ2 G2 => te W0 σ2 G2 Q')
    (q : ∀ p G' (zs : List Int), G0 p = none → Xt [b] G0 G' → Bag G' b → G' p = some (.lst (zs.map D.int)) → zs.length = xs.length → Q (.ref p) G') : lcR g dYes te vs σ Q xs (fun _ => True) G0 := by
  refine lcR_drawn [b] (fun G => Bag G b) (fun _ y => ∃ z, y = .int z ∧ True) (fun G G' h e => h.eq (e b (by simp))) (fun c m => by rw [List.mem_singleton.mp m]; exact bag.some) bag hl (fun _ _ => trivial) ?_ ?_
  · intro i x e G' Q' x1 bg kk
    exact el i x e G' Q' x1 bg fun r G'' x2 b2 => kk _ _ x2 b2 ⟨r, rfl, trivial⟩
  · intro p G' ys hp xt bg e l r
    obtain ⟨zs, rfl, hz⟩ := ints_of r
    exact q p G' zs hp xt bg e (by simpa using l)
theorem Tab.ins {T : List KR} {k s l : List Int} (h : Tab T) (o : KRok (k, s, l)) (n : T.length < 100) : Tab (S.ins T k (s, l)) := by
  refine ⟨?_, fun r hr => ?_, ins_nodup h.nd⟩
  · have := ins_len (A := T) (x := k) (y := (s, l)); omega
  · rcases ins_mem hr with hr | rfl
    · exact h.ok r hr
    · exact o
theorem tab_nil : Tab [] := ⟨by simp, (fun _ h => by cases h), by simp⟩
theorem Tab.sub {T T' : List KR} (h : Tab T) (s : T'.Sublist T) : Tab T' := ⟨Nat.le_trans s.length_le h.len, fun r hr => h.ok r (s.mem hr), (s.map _).nodup h.nd⟩
theorem Tab.rev {T : List KR} (h : Tab T) : Tab T.reverse := ⟨by rw [List.length_reverse]; exact h.len, fun r hr => h.ok r (List.mem_reverse.mp hr), by rw [List.map_reverse]; exact List.pairwise_reverse.mpr (List.Pairwise.imp (fun h => h.symm) h.nd)⟩
def sp__law_table : DSp := fun ds G q _ => ∃ b, ds = [.ref b] ∧ Bag G b ∧ ∀ p G' (T : List KR), G p = none → Xt [b] G G' → Bag G' b → G' p = some (.lst (T.map rD)) → Tab T → T.length ≤ 40 → q (.ref p) G'
def t__law_table_b1 : TSd := dAsg (dTup (dCons (dTup (dCons (dCall sp__law_take (dCons (dVar 0) (dCons (dVar 4) (dNil)))) (dNil))) (dCons (dTup (dNil)) (dNil)))) (dgSub (dVar 5) (dTup (dCons (dOp modD (dOp addD (dVar 3) (dVar 6)) (dC (.int 26))) (dNil))) setD)
def t__law_table_b2 : TSd := dSeq (dAsg (dBi (BI.r .tuple) (dCons (dLc (dRng rng1 (dCons (dOp addD (dC (.int 1)) (dCall sp__law_take (dCons (dVar 0) (dCons (dC (.int 4)) (dNil))))) (dNil))) (dgName 6) dYes (dOp modD (dOp addD (dVar 3) (dCall sp__law_take (dCons (dVar 0) (dCons (dVar 2) (dNil))))) (dC (.int 26))) [6]) (dNil))) (dgName 8)) (dSeq (dAsg (dBi (BI.r .tuple) (dCons (dLc (dRng rng1 (dCons (dCall sp__law_take (dCons (dVar 0) (dCons (dC (.int 4)) (dNil)))) (dNil))) (dgName 6) dYes (dCall sp__law_take (dCons (dVar 0) (dCons (dVar 4) (dNil)))) [6]) (dNil))) (dgName 9)) (dSeq (dAsg (dBi (BI.r .tuple) (dCons (dLc (dRng rng1 (dCons (dCall sp__law_take (dCons (dVar 0) (dCons (dBi (BI.r .len) (dCons (dVar 8) (dNil))) (dNil)))) (dNil))) (dgName 6) dYes (dOp modD (dOp addD (dVar 3) (dCall sp__law_take (dCons (dVar 0) (dCons (dVar 2) (dNil))))) (dC (.int 26))) [6]) (dNil))) (dgName 10)) (dAsg (dTup (dCons (dVar 9) (dCons (dVar 10) (dNil)))) (dgSub (dVar 5) (dVar 8) setD))))
def t__law_table_r1 : TSd := dRet (dSl (dLc (dItK (dVar 5)) (dgName 8) dYes (dOp addD (dTup (dCons (dVar 8) (dNil))) (dOp ixD (dVar 5) (dVar 8))) [8]) dNoPart (dPart (dC (.int 40))))
def t__law_table_r2 : TSd := dSeq (dFor (dRng rng1 (dCons (dOp ixD (dLst (dCons (dCall sp__law_take (dCons (dVar 0) (dCons (dC (.int 8)) (dNil)))) (dCons (dC (.int 40)) (dNil)))) (dVar 1)) (dNil))) (dgName 7) t__law_table_b2) t__law_table_r1
def t__law_table_s1 : TSd := dSeq (dIf (dB (dOp (eqR false) (dCall sp__law_take (dCons (dVar 0) (dCons (dC (.int 2)) (dNil)))) (dC (.int 0)))) (dFor (dRng rng1 (dCons (dVar 2) (dNil))) (dgName 6) t__law_table_b1) (dNext)) t__law_table_r2
def N__law_table : List Str := ["_law_bag_here", "_law_wide", "_law_letters", "_law_first", "_law_top", "_law_found", "_law_k", "_law_turn", "_law_keys", "_law_sounds", "_law_left"]
def P__law_table : List Str := ["_law_bag_here"]
def t__law_table : TSd := dSeq (dAsg (dOp divD (dCall sp__law_take (dCons (dVar 0) (dCons (dC (.int 8)) (dNil)))) (dC (.int 7))) (dgName 1)) (dSeq (dAsg (dOp ixD (dLst (dCons (dOp addD (dC (.int 1)) (dCall sp__law_take (dCons (dVar 0) (dCons (dC (.int 4)) (dNil))))) (dCons (dC (.int 26)) (dNil)))) (dVar 1)) (dgName 2)) (dSeq (dAsg (dCall sp__law_take (dCons (dVar 0) (dCons (dC (.int 26)) (dNil)))) (dgName 3)) (dSeq (dAsg (dOp ixD (dLst (dCons (dC (.int 3)) (dCons (dC (.int 40)) (dNil)))) (dCall sp__law_take (dCons (dVar 0) (dCons (dC (.int 2)) (dNil))))) (dgName 4)) (dSeq (dAsg (dDnew) (dgName 5)) t__law_table_s1))))
def gl__law_table : List (Str × GI) := [("_law_take", .fn sp__law_take), ("range", .rng), ("tuple", .bi .tuple), ("len", .bi .len)]
theorem len__law_table : ∀ ds G q x, sp__law_table ds G q x → ds.length = P__law_table.length := by
  rintro _ _ _ _ ⟨b, rfl, _⟩; rfl
/-- the rows that stand in a law's dict -/
def Fnd (G : Hd) (f : Addr) (n : Nat) : Prop := ∃ T ep, G f = some (.dit (emb ti vD T) ep) ∧ Tab T ∧ T.length ≤ n
theorem seqG_obj {G : Hd} {a : Addr} {l xs : List D} (h : G a = some (.lst l)) (e : seqG G a xs) : xs = l := (seqG_lst h).mp e
theorem Fnd.ne {G : Hd} {f b : Addr} {n : Nat} (h : Fnd G f n) (bag : Bag G b) : f ≠ b := fun e => by
  obtain ⟨T, ep, ef, _⟩ := h
  obtain ⟨c, m, eb, _⟩ := bag
  rw [e, eb] at ef; cases ef
theorem Fnd.xt {G G' : Hd} {f b : Addr} {n : Nat} (h : Fnd G f n) (x : Xt [b] G G') (ne : f ≠ b) : Fnd G' f n := by
  obtain ⟨T, ep, ef, r⟩ := h
  exact ⟨T, ep, x.get (by simpa using ne) ef, r⟩
theorem Fnd.le {G : Hd} {f : Addr} {n m : Nat} (h : Fnd G f n) (l : n ≤ m) : Fnd G f m := by
  obtain ⟨T, ep, ef, tab, lT⟩ := h
  exact ⟨T, ep, ef, tab, by omega⟩
section
variable {w : Wx} {E : En} {b f : Addr} {G0 G : Hd}
theorem b__law_table_r1 {o1 o2 o3 o4 o6 o7 o8 o9 o10 : Option D} (hf : G0 f = none) (xt : Xt [b] G0 G) (bag : Bag G b) (fd : Fnd G f 66)
    (hq : ∀ p G' (T : List KR), G0 p = none → Xt [b] G0 G' → Bag G' b → G' p = some (.lst (T.map rD)) → Tab T → T.length ≤ 40 → E.rt (.ref p) G') : t__law_table_r1 w E [some (.ref b), o1, o2, o3, o4, some (.ref f), o6, o7, o8, o9, o10] G := by
  obtain ⟨T, ep, ef, tab, lT⟩ := fd
  unfold t__law_table_r1
  walk_at "e"
  refine ⟨_, _, ef, ?_⟩
  refine lcR_gen [] (fun _ => True) (fun i y _ => ∃ r, T[i]? = some r ∧ y = rD r) (fun _ _ h _ => h) (fun _ _ _ _ h _ => h) (fun _ h => by simp at h) trivial (by rw [List.length_map, emb_len]; omega) (fun G' x => x.at ef) ?_ ?_
  · intro i x ex p G' Q' hp _ x1 _ kk
    rw [emb_keys, List.getElem?_map, List.getElem?_map] at ex
    cases er : T[i]? with
    | none => rw [er] at ex; cases ex
    | some r =>
      rw [er] at ex
      cases ex
      walk_at "e"
      refine ⟨_, _, x1.at ef, vD r.2, by rw [valT_emb sameK_tt, look_of tab.nd (List.mem_of_getElem? er)]; rfl, ?_⟩
      unfold vD
      walk_at "e"
      exact kk _ _ .refl trivial ⟨r, er, rfl⟩
  · intro p G' ys hp x1 _ e l hr
    walk_at "e"
    obtain ⟨Z, rfl, hZ⟩ := vals_of (f := rD) (P := fun _ => True) (ys := ys) fun i y ei => by
      obtain ⟨r, h1, h2⟩ := hr i y ei
      exact ⟨r, h2, trivial⟩
    have eT : Z = T := by
      refine List.ext_getElem? fun i => ?_
      by_cases hi : i < Z.length
      · obtain ⟨r, h1, h2⟩ := hr i (rD Z[i]) (by rw [List.getElem?_map, List.getElem?_eq_getElem hi]; rfl)
        have inj : Z[i] = r := by
          have iv : ∀ {xs ys : List Int}, ti xs = ti ys → xs = ys := fun {xs ys} h => by
            unfold ti at h
            exact List.map_inj_right (fun _ _ z => by cases z; rfl) |>.mp (D.tup.inj h)
          unfold rD at h2
          have h3 := D.tup.inj h2
          simp only [List.cons.injEq, and_true] at h3
          exact Prod.ext (iv h3.1) (Prod.ext (iv h3.2.1) (iv h3.2.2))
        rw [h1, List.getElem?_eq_getElem hi, inj]
      · have : Z.length = T.length := by rw [List.length_map, List.length_map, emb_len] at l; simpa using l
        rw [List.getElem?_eq_none (by omega), List.getElem?_eq_none (by omega)]
    subst eT
    refine ⟨_, .inl e, fun p2 hp2 => ?_⟩
    rw [cut_map, cut_to (by decide)]
    have x2 : Ext G (st G' p2 (.lst ((Z.take (Int.toNat 40)).map rD))) := x1.trans (.new hp2)
    have np2 : G0 p2 = none := by
      refine xt.free (fun m => bag.some ?_) (x1.none hp2)
      rw [← List.mem_singleton.mp m]; exact x1.none hp2
    exact hq p2 _ (Z.take (Int.toNat 40)) np2 (xt.trans x2.ext) (bag.ext x2) st_same (tab.sub (List.take_sublist _ _)) (by rw [List.length_take]; exact Nat.min_le_left _ _)
theorem b__law_table_r2 {wd le fi tp : Int} {o6 o7 o8 o9 o10 : Option D} (hf : G0 f = none) (xt : Xt [b] G0 G) (bag : Bag G b) (fd : Fnd G f 26) (hw : wd = 0 ∨ wd = 1) (hl : 1 ≤ le ∧ le ≤ 26) (ht : 1 ≤ tp ∧ tp ≤ 40)
    (hq : ∀ p G' (T : List KR), G0 p = none → Xt [b] G0 G' → Bag G' b → G' p = some (.lst (T.map rD)) → Tab T → T.length ≤ 40 → E.rt (.ref p) G') : t__law_table_r2 w E [some (.ref b), some (.int wd), some (.int le), some (.int fi), some (.int tp), some (.ref f), o6, o7, o8, o9, o10] G := by
  unfold t__law_table_r2
  walk_at "e"
  refine takes_here bag (by decide) (by decide) fun r G1 r0 r1 x1 bag1 => ?_
  walk_at "e"
  intro p0 hp0
  have np0 : p0 ∉ [b] := fresh_b bag1 hp0
  have ex : ∃ d, atI [D.int r, D.int 40] wd = some d ∧ ∃ n : Int, d = .int n ∧ 0 ≤ n ∧ n ≤ 40 := by
    rcases hw with rfl | rfl
    · exact ⟨_, atI_0, r, rfl, r0, by omega⟩
    · exact ⟨_, atI_1, 40, rfl, by decide, by decide⟩
  obtain ⟨_, ed, n, rfl, n0, n40⟩ := ex
  refine ⟨_, .inl st_same, _, ed, ?_⟩
  walk_at "e"
  refine ⟨by omega, ?_⟩
  have xs : Xt [b] G (st G1 p0 (.lst [.int r, .int 40])) := x1.trans (Xt.news hp0)
  have nfb := fd.ne bag
  refine ⟨fun i σ G3 => Xt [b] G0 G3 ∧ Bag G3 b ∧ Fnd G3 f (26 + i) ∧ ∃ o6 o7 o8 o9 o10 : Option D, σ = [some (.ref b), some (.int wd), some (.int le), some (.int fi), some (.int tp), some (.ref f), o6, o7, o8, o9, o10],
    ⟨xt.trans xs, bag1.ext (.new hp0), fd.xt xs nfb, _, _, _, _, _, rfl⟩, fun _ _ _ _ => trivial, ?_, ?_⟩
  · rintro i z σ G3 ez ⟨x3, bag3, fd3, o6, o7, o8, o9, o10, rfl⟩
    obtain ⟨hi, rfl⟩ := rngL_some0 ez
    unfold t__law_table_b2
    walk_at "e"
    refine takes_here bag3 (by decide) (by decide) fun r4 G4 r40 r41 x4 bag4 => ?_
    walk_at "e"
    refine ⟨by omega, ?_⟩
    refine lcR_ints bag4 (by simp [rngL]; omega) (fun j z ej G' Q' x' bg kk => ?_) fun pa G5 ks hpa x5 bag5 ea la => ?_
    · walk_at "e"
      exact takes_here bg (by omega) (by omega) fun r5 G5 _ _ x5 bag5 => ⟨(show (0 : Int) < 26 by decide), kk _ _ x5 bag5⟩
    rw [rngL_length] at la
    walk_at "e"
    refine ⟨_, .inl ea, ?_⟩
    rw [ti_of, List.length_map]
    refine takes_here bag5 (by decide) (by decide) fun r6 G6 r60 r61 x6 bag6 => ?_
    walk_at "e"
    refine ⟨by omega, ?_⟩
    refine lcR_ints bag6 (by simp [rngL]; omega) (fun j z ej G' Q' x' bg kk => ?_) fun pb G7 ss hpb x7 bag7 eb lb => ?_
    · walk_at "e"
      exact takes_here bg (by omega) (by omega) fun r5 G5 _ _ x5 bag5 => kk _ _ x5 bag5
    rw [rngL_length] at lb
    walk_at "e"
    refine ⟨_, .inl eb, ?_⟩
    rw [ti_of]
    refine takes_here bag7 (by omega) (by omega) fun r8 G8 r80 r81 x8 bag8 => ?_
    walk_at "e"
    refine ⟨by omega, ?_⟩
    refine lcR_ints bag8 (by simp [rngL]; omega) (fun j z ej G' Q' x' bg kk => ?_) fun pc G9 ls hpc x9 bag9 ec lc => ?_
    · walk_at "e"
      exact takes_here bg (by omega) (by omega) fun r5 G5 _ _ x5 bag5 => ⟨(show (0 : Int) < 26 by decide), kk _ _ x5 bag5⟩
    rw [rngL_length] at lc
    walk_at "e"
    refine ⟨_, .inl ec, ?_⟩
    rw [ti_of]
    have x39 : Xt [b] G3 G9 := ((((x4.trans x5).trans x6).trans x7).trans x8).trans x9
    obtain ⟨T, ep, ef, tab, lT⟩ := fd3.xt x39 (fd3.ne bag3)
    walk_at "e"
    refine ⟨_, _, ef, keyOk_ti, by rw [emb_len]; exact line_lt (by omega), fun ep2 => ?_⟩
    rw [putV]
    generalize ep9 : st G9 f _ = G10
    obtain ⟨xp9, kp9⟩ := put ep9
    have nfb3 := fd3.ne bag3
    refine ⟨Xt.own (x3.trans x39) xp9 (by simpa using .inr hf), bag9.xt xp9 (by simpa using fun e => nfb3 e.symm), ⟨_, _, kp9, tab.ins ⟨by simp only; omega, by simp only; omega, by simp only; omega, by simp only; omega⟩ (by omega), ?_⟩, _, _, _, _, _, rfl⟩
    have := ins_len (A := T) (x := ks) (y := (ss, ls)); omega
  · rintro σ G3 ⟨x3, bag3, fd3, o6, o7, o8, o9, o10, rfl⟩
    rw [rngL_length] at fd3
    exact b__law_table_r1 hf x3 bag3 (fd3.le (by omega)) hq
end
theorem b__law_table : Body t__law_table N__law_table sp__law_table := by
  rintro ds G q x ⟨b, rfl, bag, hq⟩
  unfold t__law_table N__law_table t__law_table_s1
  walk_at "e"
  refine takes_here bag (by decide) (by decide) fun wd G1 w0 w1 x1 bag1 => ?_
  walk_at "e"
  refine ⟨divW (by decide) (by decide), takes_here bag1 (by decide) (by decide) fun r2 G2 r20 r21 x2 bag2 => ?_⟩
  walk_at "e"
  intro p0 hp0
  have ex : ∃ d, atI [D.int (1 + r2), D.int 26] (wd / 7) = some d ∧ ∃ n : Int, d = .int n ∧ 1 ≤ n ∧ n ≤ 26 := by
    have : wd / 7 = 0 ∨ wd / 7 = 1 := by omega
    rcases this with h | h <;> rw [h]
    · exact ⟨_, atI_0, _, rfl, by omega, by omega⟩
    · exact ⟨_, atI_1, 26, rfl, by decide, by decide⟩
  obtain ⟨_, ed, le, rfl, l1, l26⟩ := ex
  refine ⟨_, .inl st_same, _, ed, ?_⟩
  refine takes_here (bag2.ext (.new hp0)) (by decide) (by decide) fun fi G3 f0 f1 x3 bag3 => ?_
  walk_at "e"
  refine pick bag3 rfl (by decide) (by decide) fun z hz G4 x4 bag4 => ?_
  have hz2 : ∃ k : Int, z = .int k ∧ 1 ≤ k ∧ k ≤ 40 := by
    revert hz; revert z; simp only [List.forall_mem_cons]
    exact ⟨⟨_, rfl, by decide, by decide⟩, ⟨_, rfl, by decide, by decide⟩, by simp⟩
  obtain ⟨tp, rfl, t1, t40⟩ := hz2
  have x04 : Xt [b] G G4 := (((x1.trans x2).trans (Xt.news hp0)).trans x3).trans x4
  intro pf hpf
  generalize epf : st G4 pf _ = G5
  obtain ⟨xpf, kpf⟩ := nu hpf epf
  have hf : G pf = none := x04.free (fresh_b bag4 hpf) hpf
  have nfb : pf ≠ b := fun e => bag4.some (by rw [← e]; exact hpf)
  refine takes_here (bag4.ext xpf) (by decide) (by decide) fun ch G6 _ _ x6 bag6 => ?_
  have x06 : Xt [b] G G6 := (x04.trans xpf.ext).trans x6
  have fd6 : Fnd G6 pf 0 := ⟨[], 0, x6.get (by simpa using nfb) kpf, tab_nil, by simp⟩
  walk_at "e"
  refine ⟨fun _ => ⟨by omega, ?_⟩, fun _ => b__law_table_r2 hf x06 bag6 (fd6.le (by omega)) (by omega) ⟨l1, l26⟩ ⟨t1, t40⟩ hq⟩
  refine ⟨fun i σ G3 => Xt [b] G G3 ∧ Bag G3 b ∧ Fnd G3 pf i ∧ ∃ o6 : Option D, σ = [some (.ref b), some (.int (wd / 7)), some (.int le), some (.int fi), some (.int tp), some (.ref pf), o6, none, none, none, none],
    ⟨x06, bag6, fd6, _, rfl⟩, fun _ _ _ _ => trivial, ?_, ?_⟩
  · rintro i z σ G7 ez ⟨x7, bag7, fd7, o6, rfl⟩
    obtain ⟨hi, rfl⟩ := rngL_some0 ez
    unfold t__law_table_b1
    walk_at "e"
    refine takes_here bag7 (by omega) (by omega) fun r G8 _ _ x8 bag8 => ?_
    walk_at "e"
    have nfb7 := fd7.ne bag7
    obtain ⟨T, ep, ef, tab, lT⟩ := fd7.xt x8 nfb7
    refine ⟨by decide, _, _, ef, keyOk_ti (xs := [_]), by rw [emb_len]; exact line_lt (by omega), fun ep2 => ?_⟩
    rw [show putT (emb ti vD T) (.tup [.int ((fi + (i : Int)) % 26)]) (.tup [.tup [.int r], .tup []]) = _ from putV (x := [(fi + (i : Int)) % 26]) (s := [r]) (l := [])]
    generalize ep9 : st G8 pf _ = G9
    obtain ⟨xp9, kp9⟩ := put ep9
    refine ⟨Xt.own (x7.trans x8) xp9 (by simpa using .inr hf), bag8.xt xp9 (by simpa using fun e => nfb7 e.symm), ⟨_, _, kp9, tab.ins ⟨by simp, by simp, by simp, by simp⟩ (by omega), ?_⟩, _, rfl⟩
    have := ins_len (A := T) (x := [(fi + (i : Int)) % 26]) (y := ([r], [])); omega
  · rintro σ G7 ⟨x7, bag7, fd7, o6, rfl⟩
    rw [rngL_length] at fd7
    exact b__law_table_r2 hf x7 bag7 (fd7.le (by omega)) (by omega) ⟨l1, l26⟩ ⟨t1, t40⟩ hq
/-! ## the laws' own reading -/
def sp__law_step : DSp := fun ds G q _ => ∃ (t : Addr) (T : List KR) (ks : List Int), ds = [.ref t, ti ks] ∧ seqG G t (T.map rD) ∧ Tab T ∧ ks ≠ [] ∧ ks.length ≤ 1000 ∧
  ∀ u v G', G u = none → G v = none → u ≠ v → Ext G G' → G' u = some (.lst ((step T ks).1.map .int)) → G' v = some (.lst ((step T ks).2.1.map .int)) → q (.tup [.ref u, .ref v, ti (step T ks).2.2]) G'
def t__law_step_b1 : TSd := dIf (dAnd (dB (dOp gtD (dBi (BI.r .len) (dCons (dOp ixD (dVar 5) (dC (.int 0))) (dNil))) (dBi (BI.r .len) (dCons (dVar 2) (dNil))))) (dB (dOp (eqR false) (dSl (dVar 1) dNoPart (dPart (dBi (BI.r .len) (dCons (dOp ixD (dVar 5) (dC (.int 0))) (dNil))))) (dOp ixD (dVar 5) (dC (.int 0)))))) (dAsg (dVar 5) (dgTup 3 (dgCons (dgName 2) (dgCons (dgName 3) (dgCons (dgName 4) (dgNil)))))) (dNext)
def t__law_step_r1 : TSd := dRet (dTup (dCons (dBi (BI.r .list) (dCons (dVar 3) (dNil))) (dCons (dLst (dNil)) (dCons (dOp addD (dVar 4) (dSl (dVar 1) (dPart (dBi (BI.r .len) (dCons (dVar 2) (dNil)))) dNoPart)) (dNil)))))
def t__law_step_r2 : TSd := dSeq (dIf (dB (dOp (eqR false) (dVar 2) (dTup (dNil)))) (dRet (dTup (dCons (dLst (dNil)) (dCons (dLst (dCons (dOp ixD (dVar 1) (dC (.int 0))) (dNil))) (dCons (dSl (dVar 1) (dPart (dC (.int 1))) dNoPart) (dNil)))))) (dNext)) t__law_step_r1
def t__law_step_s1 : TSd := dSeq (dFor (dItV (dVar 0)) (dgName 5) t__law_step_b1) t__law_step_r2
def N__law_step : List Str := ["_law_table_here", "_law_keys", "_law_best", "_law_told", "_law_left", "_law_row"]
def P__law_step : List Str := ["_law_table_here", "_law_keys"]
def t__law_step : TSd := dSeq (dAsg (dTup (dNil)) (dgName 2)) (dSeq (dAsg (dTup (dNil)) (dgName 3)) (dSeq (dAsg (dTup (dNil)) (dgName 4)) t__law_step_s1))
def gl__law_step : List (Str × GI) := [("len", .bi .len), ("list", .bi .list)]
theorem len__law_step : ∀ ds G q x, sp__law_step ds G q x → ds.length = P__law_step.length := by
  rintro _ _ _ _ ⟨t, T, ks, rfl, _⟩; rfl
theorem take_snoc {α : Type} {T : List α} {i : Nat} {r : α} (e : T[i]? = some r) : T.take (i + 1) = T.take i ++ [r] := by rw [List.take_succ, e]; rfl
theorem b__law_step : Body t__law_step N__law_step sp__law_step := by
  rintro ds G q x ⟨t, T, ks, rfl, et, tab, k0, lk, hq⟩
  unfold t__law_step N__law_step t__law_step_s1
  walk_at "e"
  refine ⟨_, et, ?_⟩
  refine ⟨fun i σ G1 => G1 = G ∧ ∃ (b : KR) (o5 : Option D), σ = [some (.ref t), some (ti ks), some (ti b.1), some (ti b.2.1), some (ti b.2.2), o5] ∧ IsBest ks (T.take i) b,
    ⟨rfl, ([], [], []), none, rfl, isBest_nil⟩, fun i σ G1 h => by rw [h.1]; exact et, ?_, ?_⟩
  · rintro i z σ G1 ez ⟨rfl, b, o5, rfl, hb⟩
    rw [List.getElem?_map] at ez
    obtain ⟨r, er, rfl⟩ := Option.map_eq_some_iff.mp ez
    have ok := tab.ok r (List.mem_of_getElem? er)
    have hb2 := isBest_snoc hb ok
    rw [← take_snoc er] at hb2
    unfold better at hb2
    unfold t__law_step_b1 rD
    walk_at "e"
    simp only [atI_0, Option.some.injEq, exists_eq_left']
    walk_at "e"
    by_cases h1 : b.1.length < r.1.length
    · rw [decide_eq_true (show (r.1.length : Int) > b.1.length by omega)]
      walk_at "e"
      rw [cut_to (by omega), Int.toNat_natCast]
      by_cases h2 : ks.take r.1.length = r.1
      · rw [if_pos ⟨h1, h2⟩] at hb2
        simp only [decide_eq_true h2]
        walk_at "e"
        exact ⟨r, _, rfl, hb2⟩
      · rw [if_neg fun z => h2 z.2] at hb2
        simp only [decide_eq_false h2]
        walk_at "e"
        exact ⟨b, _, rfl, hb2⟩
    · rw [if_neg fun z => h1 z.1] at hb2
      rw [decide_eq_false (show ¬ (r.1.length : Int) > b.1.length by omega)]
      walk_at "e"
      exact ⟨b, _, rfl, hb2⟩
  · rintro σ G1 ⟨rfl, b, o5, rfl, hb⟩
    rw [List.length_map, List.take_length] at hb
    have hs := step_best tab hb
    have lb : b.2.1.length ≤ 4 ∧ b.2.2.length ≤ 4 := by
      rcases hb with ⟨rfl, _⟩ | ⟨hb, _⟩
      · simp
      · have o := tab.ok b hb
        exact ⟨o.s4, by have := o.ll; have := o.k4; omega⟩
    unfold t__law_step_r2
    walk_at "e"
    by_cases h : b.1 = []
    · rw [if_pos h] at hs
      simp only [decide_eq_true h]
      walk_at "e"
      intro pu hpu
      generalize epu : st G1 pu _ = G2
      obtain ⟨xpu, kpu⟩ := nu hpu epu
      obtain ⟨k, ks, rfl⟩ := List.exists_cons_of_ne_nil k0
      refine ⟨k, atI_0, ?_⟩
      intro pv hpv
      generalize epv : st G2 pv _ = G3
      obtain ⟨xpv, kpv⟩ := nu hpv epv
      rw [cut_from (by decide)]
      rw [hs] at hq
      exact hq pu pv G3 hpu (xpu.none hpv) (fun e => by rw [← e, kpu] at hpv; cases hpv) (xpu.trans xpv) (xpv.at kpu) kpv
    · rw [if_neg h] at hs
      simp only [decide_eq_false h]
      unfold t__law_step_r1
      walk_at "e"
      refine ⟨line_le (by omega), ?_⟩
      intro pu hpu
      generalize epu : st G1 pu _ = G2
      obtain ⟨xpu, kpu⟩ := nu hpu epu
      intro pv hpv
      generalize epv : st G2 pv _ = G3
      obtain ⟨xpv, kpv⟩ := nu hpv epv
      rw [cut_from (by omega), Int.toNat_natCast]
      refine ⟨line_le (by rw [List.length_drop]; omega), ?_⟩
      rw [hs] at hq
      exact hq pu pv G3 hpu (xpu.none hpv) (fun e => by rw [← e, kpu] at hpv; cases hpv) (xpu.trans xpv) (xpv.at kpu) kpv
def sp__law_read : DSp := fun ds G q _ => ∃ (t : Addr) (y : D) (T : List KR) (ks : List Int), ds = [.ref t, y] ∧ seqG G t (T.map rD) ∧ Tab T ∧ IntsOf G y ks ∧ ks.length ≤ 1000 ∧
  ∀ u v G', G u = none → G v = none → u ≠ v → Ext G G' → G' u = some (.lst ((read T ks).1.map .int)) → G' v = some (.lst ((read T ks).2.map .int)) → q (.tup [.ref u, .ref v]) G'
def t__law_read_b1 : TSd := dSeq (dAsg (dCall sp__law_step (dCons (dVar 0) (dCons (dVar 4) (dNil)))) (dgTup 3 (dgCons (dgName 5) (dgCons (dgName 6) (dgCons (dgName 4) (dgNil)))))) (dSeq (dDrop (dBm "list" extendD (dVar 2) (dCons (dVar 5) (dNil)))) (dDrop (dBm "list" extendD (dVar 3) (dCons (dVar 6) (dNil)))))
def t__law_read_r1 : TSd := dRet (dTup (dCons (dVar 2) (dCons (dVar 3) (dNil))))
def t__law_read_s1 : TSd := dSeq (dWhile (dB (dOp (eqR true) (dVar 4) (dTup (dNil)))) t__law_read_b1) t__law_read_r1
def N__law_read : List Str := ["_law_table_here", "_law_keys", "_law_sounds", "_law_lost", "_law_left", "_law_more", "_law_gone"]
def P__law_read : List Str := ["_law_table_here", "_law_keys"]
def t__law_read : TSd := dSeq (dAsg (dLst (dNil)) (dgName 2)) (dSeq (dAsg (dLst (dNil)) (dgName 3)) (dSeq (dAsg (dBi (BI.r .tuple) (dCons (dVar 1) (dNil))) (dgName 4)) t__law_read_s1))
def gl__law_read : List (Str × GI) := [("tuple", .bi .tuple), ("_law_step", .fn sp__law_step)]
theorem len__law_read : ∀ ds G q x, sp__law_read ds G q x → ds.length = P__law_read.length := by
  rintro _ _ _ _ ⟨a, y, T, ks, rfl, _⟩; rfl
theorem b__law_read : Body t__law_read N__law_read sp__law_read := by
  rintro ds G q x ⟨t, y, T, ks, rfl, et, tab, iy, lk, hq⟩
  unfold t__law_read N__law_read
  walk_at "e"
  intro pu hpu
  generalize epu : st G pu _ = G1
  obtain ⟨xpu, kpu⟩ := nu hpu epu
  intro pv hpv
  generalize epv : st G1 pv _ = G2
  obtain ⟨xpv, kpv⟩ := nu hpv epv
  have x02 : Ext G G2 := xpu.trans xpv
  have hpv0 : G pv = none := xpu.none hpv
  have nuv : pu ≠ pv := fun e => by rw [← e, kpu] at hpv; cases hpv
  refine (iy.ext x02).tup ?_
  have ln := read_len tab _ ks (Nat.le_refl _)
  unfold t__law_read_s1
  walk_at "e"
  refine ⟨fun m σ G3 => Ext G G3 ∧ ∃ (left S L : List Int) (o5 o6 : Option D), m = left.length ∧ left.length ≤ 1000 ∧ σ = [some (.ref t), some y, some (.ref pu), some (.ref pv), some (ti left), o5, o6] ∧ G3 pu = some (.lst (S.map .int)) ∧ G3 pv = some (.lst (L.map .int)) ∧ S ++ (read T left).1 = (read T ks).1 ∧ L ++ (read T left).2 = (read T ks).2,
    ⟨ks.length, x02, ks, [], [], _, _, rfl, lk, rfl, xpv.at kpu, kpv, rfl, rfl⟩, ?_⟩
  rintro m σ G3 ⟨x3, left, S, L, o5, o6, rfl, ll, rfl, eu, ev, hS, hL⟩
  walk_at "e"
  by_cases h : left = []
  · subst h
    rw [read_nil, List.append_nil] at hS hL
    subst hS; subst hL
    walk_at "e"
    unfold t__law_read_r1
    walk_at "e"
    exact hq pu pv G3 hpu hpv0 nuv x3 eu ev
  · obtain ⟨s4, l1, lt⟩ := step_ok tab h
    simp only [decide_eq_false h]
    unfold t__law_read_b1
    walk_at "e"
    refine ⟨fun σ G4 => Ext G G4 ∧ ∃ (left2 S L : List Int) (o5 o6 : Option D), left2.length < left.length ∧ σ = [some (.ref t), some y, some (.ref pu), some (.ref pv), some (ti left2), o5, o6] ∧ G4 pu = some (.lst (S.map .int)) ∧ G4 pv = some (.lst (L.map .int)) ∧ S ++ (read T left2).1 = (read T ks).1 ∧ L ++ (read T left2).2 = (read T ks).2,
      fun σ G4 ⟨x4, left2, S, L, o5, o6, l2, es, eu, ev, hS, hL⟩ => ⟨_, l2, x4, left2, S, L, o5, o6, rfl, by omega, es, eu, ev, hS, hL⟩, ?_⟩
    refine ⟨t, T, left, rfl, x3.seq (by simp) et, tab, h, ll, fun a c G4 ha hc nac x4 ea ec => ?_⟩
    rw [read_step tab h] at hS hL
    have lS := congrArg List.length hS
    have lL := congrArg List.length hL
    simp only [List.length_append] at lS lL
    walk_at "e"
    have nap : a ≠ pu := fun e => by rw [e, eu] at ha; cases ha
    have ncp : c ≠ pu := fun e => by rw [e, eu] at hc; cases hc
    have ncv : c ≠ pv := fun e => by rw [e, ev] at hc; cases hc
    refine ⟨tyD_l (.inl (x4.at eu)), _, x4.at eu, _, ea, line_le (by rw [List.length_map, List.length_map]; omega), ?_⟩
    generalize ep4 : st G4 pu _ = G5
    obtain ⟨xp4, kp4⟩ := put ep4
    have ev5 := xp4.get (by simpa using fun e => nuv e.symm) (x4.at ev)
    have ec5 := xp4.get (by simpa using ncp) ec
    refine ⟨tyD_l (.inl ev5), _, ev5, _, ec5, line_le (by rw [List.length_map, List.length_map]; omega), ?_⟩
    generalize ep5 : st G5 pv _ = G6
    obtain ⟨xp5, kp5⟩ := put ep5
    refine ⟨Xt.own (Xt.own (x3.trans x4) xp4 (by simpa using hpu)) xp5 (by simpa using hpv0), (step T left).2.2, S ++ (step T left).1, L ++ (step T left).2.1, _, _, lt, rfl, xp5.get (by simpa using nuv) (by rw [kp4, List.map_append]), by rw [kp5, List.map_append], by rw [List.append_assoc]; exact hS, by rw [List.append_assoc]; exact hL⟩
def sp__law_are_lists : DSp := fun ds G q _ => ∃ (u v : Addr) (ys zs : List Int), ds = [.tup [.ref u, .ref v]] ∧ u ≠ v ∧ G u = some (.lst (ys.map .int)) ∧ G v = some (.lst (zs.map .int)) ∧ ys.length ≤ 10000 ∧ zs.length ≤ 10000 ∧
  ∀ G', Xt [u] G G' → G' u ≠ none → q (.bl true) G'
def t__law_are_lists_b1 : TSd := dIf (dOr (dNot (dB (dBi (BI.r .isi) (dCons (dVar 1) (dCons (dC (.ty "list")) (dNil)))))) (dNot (dB (dBi (BI.r .all) (dCons (dLc (dItV (dVar 1)) (dgName 2) dYes (dCall sp__law_whole (dCons (dVar 2) (dNil))) [2]) (dNil)))))) (dRet (dC (.bl false))) (dNext)
def t__law_are_lists_r1 : TSd := dSeq (dAsg (dBi (BI.r .len) (dCons (dOp ixD (dVar 0) (dC (.int 1))) (dNil))) (dgName 3)) (dSeq (dDrop (dBm "list" appendD (dOp ixD (dVar 0) (dC (.int 0))) (dCons (dC (.int 0)) (dNil)))) (dRet (dOp (eqR false) (dBi (BI.r .len) (dCons (dOp ixD (dVar 0) (dC (.int 1))) (dNil))) (dVar 3))))
def N__law_are_lists : List Str := ["_law_told", "_law_one", "_law_number", "_law_many"]
def P__law_are_lists : List Str := ["_law_told"]
def t__law_are_lists : TSd := dSeq (dFor (dItV (dSl (dVar 0) dNoPart (dPart (dC (.int 2))))) (dgName 1) t__law_are_lists_b1) t__law_are_lists_r1
def gl__law_are_lists : List (Str × GI) := [("all", .bi .all), ("_law_whole", .fn sp__law_whole), ("isinstance", .bi .isi), ("list", .bi .list), ("len", .bi .len)]
theorem len__law_are_lists : ∀ ds G q x, sp__law_are_lists ds G q x → ds.length = P__law_are_lists.length := by
  rintro _ _ _ _ ⟨u, v, ys, zs, rfl, _⟩; rfl
theorem b__law_are_lists : Body t__law_are_lists N__law_are_lists sp__law_are_lists := by
  rintro ds G q x ⟨u, v, ys, zs, rfl, nuv, eu, ev, ly, lz, hq⟩
  unfold t__law_are_lists N__law_are_lists
  walk_at "e"
  rw [cut_to (by decide)]
  simp only [show Int.toNat 2 = 2 from rfl, List.take_succ_cons, List.take_zero]
  have ad : ∀ (i : Nat) (z : D), [D.ref u, D.ref v][i]? = some z → ∃ (p : Addr) (ns : List Int), z = .ref p ∧ G p = some (.lst (ns.map .int)) ∧ ns.length ≤ 10000 := by
    intro i z e
    rcases List.mem_cons.mp (List.mem_of_getElem? e) with rfl | e
    · exact ⟨u, ys, rfl, eu, ly⟩
    · rw [List.mem_singleton.mp e]
      exact ⟨v, zs, rfl, ev, lz⟩
  refine ⟨fun i σ G1 => Ext G G1 ∧ ∃ o1 o2 : Option D, σ = [some (.tup [.ref u, .ref v]), o1, o2, none], ⟨.refl, _, _, rfl⟩, fun _ _ _ _ => trivial, ?_, ?_⟩
  · rintro i z σ G1 ez ⟨x1, o1, o2, rfl⟩
    obtain ⟨p, ns, rfl, ep, lp⟩ := ad i z ez
    unfold t__law_are_lists_b1
    walk_at "e"
    have dd : Dd G1 (.ref p) (.lst (ns.map .int)) := .lst (x1.at ep) (Dds.map_int _)
    refine ⟨dd.kn, ?_⟩
    rw [dd.is, show isV (.lst (ns.map D.int)) "list" = true from rfl]
    walk_at "e"
    refine ⟨_, .inl (x1.at ep), ?_⟩
    refine lcR_look wholeV (Dds.map_int ns) (by rw [List.length_map]; omega) (fun G' x => x.seq (by simp) (.inl (x1.at ep))) (fun y d r _ G' Q' xt k => ?_) fun p2 G2 x2 e2 => ?_
    · walk_at "e"
      exact ⟨y, d, rfl, r.ext xt, k _ .refl⟩
    · walk_at "e"
      refine ⟨_, .inl e2, ?_⟩
      have e3 : (((ns.map D.int).map wholeV).all id) = true := by
        rw [all_id, List.all_map]
        simp [wholeV]
      rw [e3]
      walk_at "e"
      exact ⟨x1.trans x2, _, _, rfl⟩
  · rintro σ G1 ⟨x1, o1, o2, rfl⟩
    unfold t__law_are_lists_r1
    walk_at "e"
    simp only [atI_0, atI_1, Option.some.injEq, exists_eq_left']
    walk_at "e"
    refine ⟨_, .inl ⟨_, .inl (x1.at ev), rfl⟩, tyD_l (.inl (x1.at eu)), _, x1.at eu, line_lt (by rw [List.length_map]; omega), ?_⟩
    generalize ep2 : st G1 u _ = G2
    obtain ⟨xp2, kp2⟩ := put ep2
    refine ⟨_, .inl ⟨_, .inl (xp2.get (by simpa using fun e => nuv e.symm) (x1.at ev)), rfl⟩, ?_⟩
    walk_at "e"
    exact hq G2 (x1.ext.trans xp2) (by rw [kp2]; simp)
def sp__law_pressed : DSp := fun ds G q _ => ∃ (b t : Addr) (m : Int) (T : List KR), ds = [.ref b, .ref t, .int m] ∧ Bag G b ∧ G t = some (.lst (T.map rD)) ∧ Tab T ∧ 0 ≤ m ∧ m ≤ 1000 ∧
  ∀ p G' (ks : List Int), G p = none → Xt [b] G G' → Bag G' b → G' p = some (.lst (ks.map .int)) → (ks.length : Int) ≤ m → q (.ref p) G'
def t__law_pressed_b1 : TSd := dDrop (dBm "list" extendD (dVar 3) (dCons (dVar 4) (dNil)))
def t__law_pressed_b2 : TSd := dSeq (dAsg (dBi (BI.r .int) (dCons (dOp (eqR false) (dCall sp__law_take (dCons (dVar 0) (dCons (dC (.int 8)) (dNil)))) (dC (.int 7))) (dNil))) (dgName 9)) (dDrop (dBm "list" appendD (dVar 7) (dCons (dOp ixD (dLst (dCons (dOp ixD (dVar 3) (dCall sp__law_take (dCons (dVar 0) (dCons (dBi (BI.r .len) (dCons (dVar 3) (dNil))) (dNil))))) (dCons (dCall sp__law_take (dCons (dVar 0) (dCons (dC (.int 26)) (dNil)))) (dNil)))) (dVar 9)) (dNil))))
def t__law_pressed_s1 : TSd := dSeq (dFor (dRng rng1 (dCons (dCall sp__law_take (dCons (dVar 0) (dCons (dOp addD (dVar 2) (dC (.int 1))) (dNil)))) (dNil))) (dgName 8) t__law_pressed_b2) (dRet (dVar 7))
def t__law_pressed_r1 : TSd := dSeq (dAsg (dLst (dNil)) (dgName 7)) t__law_pressed_s1
def t__law_pressed_s2 : TSd := dSeq (dFor (dItV (dVar 1)) (dgTup 3 (dgCons (dgName 4) (dgCons (dgName 5) (dgCons (dgName 6) (dgNil))))) t__law_pressed_b1) t__law_pressed_r1
def N__law_pressed : List Str := ["_law_bag_here", "_law_table_here", "_law_most", "_law_some", "_law_keys", "_law_sounds", "_law_left", "_law_found", "_law_k", "_law_other"]
def P__law_pressed : List Str := ["_law_bag_here", "_law_table_here", "_law_most"]
def t__law_pressed : TSd := dSeq (dAsg (dLst (dCons (dC (.int 0)) (dNil))) (dgName 3)) t__law_pressed_s2
def gl__law_pressed : List (Str × GI) := [("range", .rng), ("_law_take", .fn sp__law_take), ("int", .bi .int), ("len", .bi .len)]
theorem len__law_pressed : ∀ ds G q x, sp__law_pressed ds G q x → ds.length = P__law_pressed.length := by
  rintro _ _ _ _ ⟨b, t, m, T, rfl, _⟩; rfl
theorem b__law_pressed : Body t__law_pressed N__law_pressed sp__law_pressed := by
  rintro ds G q x ⟨b, t, m, T, rfl, bag, et, tab, m0, m1, hq⟩
  unfold t__law_pressed N__law_pressed t__law_pressed_s2
  walk_at "e"
  intro ps hps
  generalize eps : st G ps _ = G1
  obtain ⟨xps, kps⟩ := nu hps eps
  refine ⟨_, .inl (xps.at et), ?_⟩
  refine ⟨fun i σ G3 => Ext G G3 ∧ ∃ (S : List Int) (o4 o5 o6 : Option D), σ = [some (.ref b), some (.ref t), some (.int m), some (.ref ps), o4, o5, o6, none, none, none] ∧ G3 ps = some (.lst (S.map .int)) ∧ 0 < S.length ∧ S.length ≤ 1 + 4 * i,
    ⟨xps, [0], _, _, _, rfl, kps, by simp, by simp⟩, fun i σ G3 h => .inl (h.1.at et), ?_, ?_⟩
  · rintro i z σ G3 ez ⟨x3, S, o4, o5, o6, rfl, es, S0, lS⟩
    rw [List.getElem?_map] at ez
    obtain ⟨r, er, rfl⟩ := Option.map_eq_some_iff.mp ez
    have ok := tab.ok r (List.mem_of_getElem? er)
    have hi := (List.getElem?_eq_some_iff.mp er).1
    have lT := tab.len
    have k4 := ok.k4
    unfold t__law_pressed_b1 rD
    walk_at "e"
    refine ⟨tyD_l (.inl es), _, es, line_le (by rw [List.length_map]; omega), ?_⟩
    generalize ep4 : st G3 ps _ = G4
    obtain ⟨xp4, kp4⟩ := put ep4
    exact ⟨Xt.own x3 xp4 (by simpa using hps), S ++ r.1, _, _, _, rfl, by rw [kp4, List.map_append], by simp; omega, by rw [List.length_append]; omega⟩
  · rintro σ G3 ⟨x3, S, o4, o5, o6, rfl, es, S0, lS⟩
    rw [List.length_map] at lS
    have lT := tab.len
    unfold t__law_pressed_r1 t__law_pressed_s1
    walk_at "e"
    intro pf hpf
    generalize epf : st G3 pf _ = G4
    obtain ⟨xpf, kpf⟩ := nu hpf epf
    have x04 := x3.trans xpf
    have nfs : pf ≠ ps := fun e => by rw [e, es] at hpf; cases hpf
    refine takes_here (bag.ext x04) (by omega) (by omega) fun n G5 n0 n1 x5 bag5 => ?_
    have nfb : pf ≠ b := fun e => bag.some (by rw [← e]; exact x3.none hpf)
    have nsb : ps ≠ b := fun e => bag.some (by rw [← e]; exact hps)
    walk_at "e"
    refine ⟨by omega, ?_⟩
    refine ⟨fun i σ G6 => Xt [b] G G6 ∧ Bag G6 b ∧ ∃ (ks : List Int) (o8 o9 : Option D), σ = [some (.ref b), some (.ref t), some (.int m), some (.ref ps), o4, o5, o6, some (.ref pf), o8, o9] ∧ G6 ps = some (.lst (S.map .int)) ∧ G6 pf = some (.lst (ks.map .int)) ∧ ks.length = i,
      ⟨x04.ext.trans x5, bag5, [], _, _, rfl, x5.get (by simpa using nsb) (xpf.at es), x5.get (by simpa using nfb) kpf, rfl⟩, fun _ _ _ _ => trivial, ?_, ?_⟩
    · rintro i z σ G6 ez ⟨x6, bag6, ks, o8, o9, rfl, es6, ef6, lk⟩
      obtain ⟨hi, rfl⟩ := rngL_some0 ez
      unfold t__law_pressed_b2
      walk_at "e"
      refine takes_here bag6 (by decide) (by decide) fun r G7 r0 r1 x7 bag7 => ?_
      walk_at "e"
      have es7 := x7.get (by simpa using nsb) es6
      have ef7 := x7.get (by simpa using nfb) ef6
      refine ⟨tyD_l (.inl ef7), _, .inl ⟨_, .inl es7, rfl⟩, takes_here bag7 (by rw [List.length_map]; omega) (by rw [List.length_map]; omega) fun r2 G8 r20 r21 x8 bag8 => ?_⟩
      have es8 := x8.get (by simpa using nsb) es7
      have ef8 := x8.get (by simpa using nfb) ef7
      rw [List.length_map] at r21
      obtain ⟨zz, hz⟩ := atI_ints r20 r21
      refine ⟨_, .inl es8, _, hz, ?_⟩
      refine takes_here bag8 (by decide) (by decide) fun r3 G9 r30 r31 x9 bag9 => ?_
      have es9 := x9.get (by simpa using nsb) es8
      have ef9 := x9.get (by simpa using nfb) ef8
      intro p1 hp1
      generalize ep1 : st G9 p1 _ = G10
      obtain ⟨xp1, kp1⟩ := nu hp1 ep1
      have ex : ∃ d, atI [D.int zz, D.int r3] (if decide (r = 7) = true then 1 else 0) = some (.int d) := by
        split
        · exact ⟨_, atI_1⟩
        · exact ⟨_, atI_0⟩
      obtain ⟨d, hd⟩ := ex
      refine ⟨_, .inl kp1, _, hd, _, xp1.at ef9, line_lt (by rw [List.length_map]; omega), ?_⟩
      generalize ep2 : st G10 pf _ = G11
      obtain ⟨xp2, kp2⟩ := put ep2
      have x6b : Xt [b] G G10 := (((x6.trans x7).trans x8).trans x9).trans xp1.ext
      exact ⟨Xt.own x6b xp2 (by simpa using .inr (x3.none hpf)), (bag9.ext xp1).xt xp2 (by simpa using fun e => nfb e.symm), ks ++ [d], _, _, rfl, xp2.get (by simpa using fun e => nfs e.symm) (xp1.at es9), by rw [kp2, List.map_append]; rfl, by simp [lk]⟩
    · rintro σ G6 ⟨x6, bag6, ks, o8, o9, rfl, es6, ef6, lk⟩
      rw [rngL_length] at lk
      walk_at "e"
      exact hq pf G6 ks (x3.none hpf) x6 bag6 ef6 (by omega)
theorem gd_ints {m n : Nat} {S : List Int} (h : S.length ≤ m) : gd m (n + 1) (.lst (S.map .int)) := gd_lst.mpr ⟨by simpa using h, fun x hx => by
  obtain ⟨i, _, rfl⟩ := List.mem_map.mp hx
  exact gd_int⟩
theorem eqR_twin {neg : Bool} {x y d : D} {G : Hd} {Q : Qd} {n m : Nat} (h1 : Dd G x d) (h2 : Dd G y d) (g : gd m n d) (hn : n ≤ 64) (h : Q (.bl (!neg)) G) : eqR neg x y G Q :=
  eqR_of h1 h2 g g hn (by rw [eqB_refl d g.ok.1]; cases neg <;> exact h)
theorem pu_ti {n : Nat} {xs : List Int} (h : xs.length ≤ 100) : Pu (n + 1) (ti xs) := pu_ints h
theorem pu_rD {r : KR} (o : KRok r) : Pu 2 (rD r) := pu_tup (by simp) fun y hy => by
  have h1 := o.k4; have h2 := o.s4; have h3 := o.ll
  simp only [List.mem_cons, List.not_mem_nil, or_false] at hy
  rcases hy with rfl | rfl | rfl <;> exact pu_ti (by omega)
theorem pu_rows {T : List KR} (h : Tab T) : ∀ y ∈ T.map rD, Pu 2 y := fun y hy => by
  obtain ⟨r, hr, rfl⟩ := List.mem_map.mp hy
  exact pu_rD (h.ok r hr)
/-- two lists of whole numbers, in a tuple -/
theorem gd_two {m : Nat} {A B : List Int} (ha : A.length ≤ m) (hb : B.length ≤ m) (hm : 2 ≤ m) : gd m 2 (.tup [.lst (A.map .int), .lst (B.map .int)]) := gd_tup.mpr ⟨by simpa using hm, fun x hx => by
  simp only [List.mem_cons, List.not_mem_nil, or_false] at hx
  rcases hx with rfl | rfl
  · exact gd_ints ha
  · exact gd_ints hb⟩
theorem dd_two {G : Hd} {u v : Addr} {A B : List Int} (eu : G u = some (.lst (A.map .int))) (ev : G v = some (.lst (B.map .int))) : Dd G (.tup [.ref u, .ref v]) (.tup [.lst (A.map .int), .lst (B.map .int)]) :=
  .tup (.cons (.lst eu (Dds.map_int _)) (.cons (.lst ev (Dds.map_int _)) .nil))

end S

set_option Elab.async false
set_option linter.all false
set_option maxRecDepth 100000
set_option maxHeartbeats 4000000
namespace S
open PySem PySem.Spec L2
open PyProof.Rows hiding St
local macro_rules | `(tactic| walk_at "e") => `(tactic| try simp only [fld_eq, fld_r, setf_eq, setf_r, meth_eq, mth_r, dMake, dDict1, extD_t, extD_r, eqR_ti, eqR_t0, slD_ti, lenD_ti, addD_ti, ixD_ti, setD_ti, extD_ti, tupleD_ti, listD_ti, ixD_tii, itv_ti, dSeq, dNext, dRet, dRetN, dIf, dAsg, dAug, dDrop, par_eq, prs_2, dBreak, dCont, dgName, dgSub, gTup_t, gCons_c, gNil_n, dFor_eq, dLc_eq, dVar, dC, dOp, dUn, dBi, dCall, dCons, dNil, dTup, dLst, dSl, part_eq, prt_i, dNoPart, dAndV, dOrV, dNotV, dB, dAnd, dOr, dNot, dIfE, dChain, itv_eq, itv_t, itv_r, dRng, dWalk, dBm, rng1_i, rng2_i, rng3_i, enumR_r, zipR_r,
  BI.r, addD_i, addD_s, addD_t, addD_r, subD_i, mulD_i, mulD_r, mulD_t, modD_i, divD_i, powD_i, ltD_i, leD_i, gtD_i, geD_i, incD_i, negD_i, lr1_i, lr2_i, revD_r, isND_n, isNon, ixD_t, ixD_r, ixD_d, setD_d, dDnew, itk_eq, itk_r, dDm, getD_r, ditD_r, dItI, iti_r, listK_r, sortedD_r, ixK_t, ixK_r, ixK_l, dKnew, dItJ, itj_r, dKm, getK_r, sdfK_r, dikD_r, sortedJ_r, sortedG_r, dBm0, clearD_r, revsD_r, dChain3, ixD_l, ixD_s, slD_t, slD_r, slD_s, setD_r, lenD_s, lenD_t, lenD_l, lenD_r, isiD_1, isiD_n, listD_t, listD_r, tupleD_t, tupleD_r, allD_r, anyD_r, sumD_r, maxD_r, maxD_2, minD_r, minD_2, absD_i, intB_i, intB_b, appD_r, startD, wipeD,
  List.map_cons, List.map_nil, rep_z, rep_s, List.length_cons, List.length_nil, List.cons_append, List.nil_append, List.append_nil, List.getElem?_cons_zero, List.getElem?_cons_succ, List.set_cons_zero, List.set_cons_succ, Option.some.injEq, exists_eq_left', exists_eq_left, D.bl.injEq, D.int.injEq, D.tup.injEq, D.ref.injEq, true_and, and_true, Nat.reduceAdd, Nat.reduceSub, Nat.add_sub_cancel_left, exists_const, br_t, br_f, eqR_int, eqR_bl, Bool.false_bne, Bool.true_bne, Bool.false_xor, Bool.true_xor, Bool.not_true, Bool.not_false, Bool.not_not, ite_true, ite_false, Bool.true_eq_false, false_implies, decide_true, decide_false, tc_int, tc_bool, tc_str, tc_tup, tc_lst, tc_non, tc_dic, ln0, ln1, ln2, ln3, ln4, ln5, ln6, ln7, ln8, ln9, ln10, ln11, ln12, ln13, ln14, ln15, ln16, ln17, ln18, ln19, ln20, ln21, ln22, ln23, ln24, ln25, ln26, ln27, ln28, ln29, ln30, ln31, ln32, ln33, ln34, ln35, ln36, ln37, ln38, ln39, ln40, ln41, ln42, ln43, ln44, ln45, ln46, ln47, ln48, ln49, ln50, ln51, ln52, ln53, ln54, ln55, ln56, ln57, ln58, ln59, ln60])
local macro_rules | `(tactic| walk_at "g") => `(tactic| try simp only [st_same, st_st, GO.lst.injEq, Option.some.injEq, exists_eq_left', exists_eq_left, atI_0, atI_1, atI_2, atI_3, ixN_0, ixN_1, ixN_2, ixN_3, List.set_cons_zero, List.set_cons_succ, List.length_cons, List.length_nil, List.length_append, List.cons_append, List.nil_append, true_and, and_true, seq_st])
/-! ## keys read, twice -/
def sp__law_right : DSp := fun ds G q _ => ∃ (t y : Addr) (T : List KR) (ks : List Int), ds = [.ref t, .ref y] ∧ G t = some (.lst (T.map rD)) ∧ Tab T ∧ G y = some (.lst (ks.map .int)) ∧ ks.length ≤ 1000 ∧ ∀ G', Ext G G' → q (.bl true) G'
def t__law_right_r1 : TSd := dDrop (dBm "list" appendD (dOp ixD (dVar 5) (dC (.int 1))) (dCons (dC (.int 0)) (dNil)))
def t__law_right_s1 : TSd := dSeq (dIf (dOr (dNot (dB (dBi (BI.r .isi) (dCons (dVar 5) (dCons (dC (.ty "tuple")) (dNil)))))) (dOr (dB (dOp (eqR true) (dVar 5) (dVar 2))) (dOr (dB (dOp (eqR true) (dVar 3) (dLst (dCons (dVar 0) (dCons (dVar 1) (dNil)))))) (dNot (dB (dCall sp__law_are_lists (dCons (dVar 5) (dNil)))))))) (dRet (dC (.bl false))) (dNext)) t__law_right_r1
def t__law_right_b1 : TSd := dSeq (dAsg (dCall sp_read_keys (dCons (dOp ixD (dVar 3) (dC (.int 0))) (dCons (dOp ixD (dVar 3) (dC (.int 1))) (dNil)))) (dgName 5)) t__law_right_s1
def t__law_right_r2 : TSd := dSeq (dDrop (dBm0 "list" clearD (dOp ixD (dVar 3) (dC (.int 0))))) (dSeq (dDrop (dBm0 "list" revsD (dOp ixD (dVar 3) (dC (.int 1))))) (dRet (dC (.bl true))))
def t__law_right_s2 : TSd := dSeq (dFor (dRng rng1 (dCons (dC (.int 2)) (dNil))) (dgName 4) t__law_right_b1) t__law_right_r2
def N__law_right : List Str := ["_law_table_here", "_law_keys", "_law_due", "_law_handed", "_law_turn", "_law_told"]
def P__law_right : List Str := ["_law_table_here", "_law_keys"]
def t__law_right : TSd := dSeq (dAsg (dCall sp__law_read (dCons (dVar 0) (dCons (dVar 1) (dNil)))) (dgName 2)) (dSeq (dAsg (dLst (dCons (dBi (BI.r .list) (dCons (dVar 0) (dNil))) (dCons (dBi (BI.r .list) (dCons (dVar 1) (dNil))) (dNil)))) (dgName 3)) t__law_right_s2)
def gl__law_right : List (Str × GI) := [("_law_read", .fn sp__law_read), ("list", .bi .list), ("range", .rng), ("read_keys", .fn sp_read_keys), ("_law_are_lists", .fn sp__law_are_lists), ("isinstance", .bi .isi), ("tuple", .bi .tuple)]
theorem len__law_right : ∀ ds G q x, sp__law_right ds G q x → ds.length = P__law_right.length := by
  rintro _ _ _ _ ⟨t, y, T, ks, rfl, _⟩; rfl
theorem b__law_right : Body t__law_right N__law_right sp__law_right := by
  rintro ds G q x ⟨t, y, T, ks, rfl, et, tab, ey, lk, hq⟩
  unfold t__law_right N__law_right t__law_right_s2
  walk_at "e"
  refine ⟨t, _, T, ks, rfl, .inl et, tab, .inr ⟨y, rfl, .inl ey⟩, lk, fun u v G1 hu hv nuv x1 eu ev => ?_⟩
  walk_at "e"
  have ln := read_len tab _ ks (Nat.le_refl _)
  have lT := tab.len
  refine ⟨_, .inl (x1.at et), ?_⟩
  intro p0 hp0
  generalize ep0 : st G1 p0 _ = G2
  obtain ⟨xp0, kp0⟩ := nu hp0 ep0
  refine ⟨_, .inl (xp0.at (x1.at ey)), ?_⟩
  intro p1 hp1
  generalize ep1 : st G2 p1 _ = G3
  obtain ⟨xp1, kp1⟩ := nu hp1 ep1
  intro p2 hp2
  generalize ep2 : st G3 p2 _ = G4
  obtain ⟨xp2, kp2⟩ := nu hp2 ep2
  have x14 : Ext G1 G4 := (xp0.trans xp1).trans xp2
  have x04 : Ext G G4 := x1.trans x14
  have e0 : G4 p0 = some (.lst (T.map rD)) := xp2.at (xp1.at kp0)
  have e1 : G4 p1 = some (.lst (ks.map .int)) := xp2.at kp1
  refine ⟨by decide, ?_⟩
  refine ⟨fun i σ G5 => Ext G4 G5 ∧ ∃ o4 o5 : Option D, σ = [some (.ref t), some (.ref y), some (.tup [.ref u, .ref v]), some (.ref p2), o4, o5], ⟨.refl, _, _, rfl⟩, fun _ _ _ _ => trivial, ?_, ?_⟩
  · rintro i z σ G5 ez ⟨x5, o4, o5, rfl⟩
    obtain ⟨hi, rfl⟩ := rngL_some0 ez
    unfold t__law_right_b1 t__law_right_s1
    walk_at "e"
    refine ⟨_, .inl (x5.at kp2), _, atI_0, _, .inl (x5.at kp2), _, atI_1, ?_⟩
    refine ⟨p0, _, T, ks, rfl, .inl (x5.at e0), tab, .inr ⟨p1, rfl, .inl (x5.at e1)⟩, lk, fun u2 v2 G6 hu2 hv2 nuv2 x6 eu2 ev2 => ?_⟩
    have x46 : Ext G4 G6 := x5.trans x6
    have x16 : Ext G1 G6 := x14.trans x46
    refine ⟨(dd_two eu2 ev2).kn, ?_⟩
    rw [(dd_two eu2 ev2).is, show isV (.tup [.lst ((read T ks).1.map D.int), .lst ((read T ks).2.map D.int)]) "tuple" = true from rfl]
    walk_at "e"
    refine eqR_twin (m := 4000) (dd_two eu2 ev2) (dd_two (x16.at eu) (x16.at ev)) (gd_two (by omega) (by omega) (by decide)) (by decide) ?_
    walk_at "e"
    intro p3 hp3
    generalize ep3 : st G6 p3 _ = G7
    obtain ⟨xp3, kp3⟩ := nu hp3 ep3
    have x47 := x46.trans xp3
    have dT : ∀ G, Dds G (T.map rD) (T.map rD) := fun G => dds_pu (pu_rows tab)
    have gT : gd 4000 3 (.lst (T.map rD)) := gd_lst.mpr ⟨by rw [List.length_map]; omega, fun y hy => (pu_rows tab y hy).2.weak (by decide) (by decide)⟩
    have gk : gd 4000 3 (.lst (ks.map D.int)) := gd_ints (by omega)
    refine eqR_twin (m := 4000) (n := 4) (d := .lst [.lst (T.map rD), .lst (ks.map .int)]) (.lst (x47.at kp2) (.cons (.lst (x47.at e0) (dT _)) (.cons (.lst (x47.at e1) (Dds.map_int _)) .nil)))
      (.lst kp3 (.cons (.lst (x47.at (x04.at et)) (dT _)) (.cons (.lst (x47.at (x04.at ey)) (Dds.map_int _)) .nil))) (gd_lst.mpr ⟨by simp, fun x hx => ?_⟩) (by decide) ?_
    · simp only [List.mem_cons, List.not_mem_nil, or_false] at hx
      rcases hx with rfl | rfl
      · exact gT
      · exact gk
    walk_at "e"
    refine ⟨u2, v2, _, _, rfl, nuv2, xp3.at eu2, xp3.at ev2, by omega, by omega, fun G8 x8 nu8 => ?_⟩
    walk_at "e"
    unfold t__law_right_r1
    walk_at "e"
    have ev8 := x8.get (by simpa using fun e => nuv2 e.symm) (xp3.at ev2)
    refine ⟨_, atI_1, tyD_l (.inl ev8), ?_⟩
    walk_at "e"
    refine ⟨_, ev8, line_lt (by rw [List.length_map]; omega), ?_⟩
    generalize ep9 : st G8 v2 _ = G9
    obtain ⟨xp9, kp9⟩ := put ep9
    have nu2 : G4 u2 = none := x5.none hu2
    have nv2 : G4 v2 = none := x5.none hv2
    exact ⟨Xt.own (Xt.own x47 x8 (by simpa using nu2)) xp9 (by simpa using nv2), _, _, rfl⟩
  · rintro σ G5 ⟨x5, o4, o5, rfl⟩
    unfold t__law_right_r2
    walk_at "e"
    have n0 : G p0 = none := x1.none hp0
    have n1 : G p1 = none := (x1.trans xp0).none hp1
    have n2 : G p2 = none := ((x1.trans xp0).trans xp1).none hp2
    have n20 : p2 ≠ p0 := fun e => by rw [e, xp1.at kp0] at hp2; cases hp2
    have n10 : p1 ≠ p0 := fun e => by rw [e, kp0] at hp1; cases hp1
    refine ⟨_, .inl (x5.at kp2), _, atI_0, tyD_l (.inl (x5.at e0)), ?_⟩
    walk_at "e"
    refine ⟨_, x5.at e0, ?_⟩
    generalize ep9 : st G5 p0 _ = G6
    obtain ⟨xp9, kp9⟩ := put ep9
    refine ⟨_, .inl (xp9.get (by simpa using n20) (x5.at kp2)), _, atI_1, tyD_l (.inl (xp9.get (by simpa using n10) (x5.at e1))), ?_⟩
    walk_at "e"
    refine ⟨_, xp9.get (by simpa using n10) (x5.at e1), ?_⟩
    generalize ep8 : st G6 p1 _ = G7
    obtain ⟨xp8, kp8⟩ := put ep8
    exact hq G7 (Xt.own (Xt.own (x04.trans x5) xp9 (by simpa using n0)) xp8 (by simpa using n1))
abbrev sp_law : DSp := spLaw
def t_law_b1 : TSd := dIf (dNot (dB (dCall sp__law_right (dCons (dVar 6) (dCons (dVar 4) (dNil)))))) (dRet (dC (.bl false))) (dNext)
def t_law_s1 : TSd := dFor (dItV (dLst (dCons (dVar 3) (dCons (dOp addD (dSl (dVar 3) dNoPart (dPart (dVar 5))) (dSl (dVar 3) (dPart (dOp addD (dVar 5) (dC (.int 1)))) dNoPart)) (dCons (dUn revD (dVar 3)) (dCons (dVar 3) (dNil))))))) (dgName 6) t_law_b1
def t_law_b2 : TSd := dSeq (dAsg (dCall sp__law_bag (dCons (dVar 0) (dCons (dVar 1) (dNil)))) (dgName 2)) (dSeq (dAsg (dCall sp__law_table (dCons (dVar 2) (dNil))) (dgName 3)) (dSeq (dAsg (dCall sp__law_pressed (dCons (dVar 2) (dCons (dVar 3) (dCons (dC (.int 60)) (dNil))))) (dgName 4)) (dSeq (dAsg (dCall sp__law_take (dCons (dVar 2) (dCons (dOp addD (dBi (BI.r .len) (dCons (dVar 3) (dNil))) (dC (.int 1))) (dNil)))) (dgName 5)) t_law_s1)))
def N_law : List Str := ["_law_script", "_law_k", "_law_bag_here", "_law_table_here", "_law_keys", "_law_at", "_law_some"]
def P_law : List Str := ["_law_script"]
def t_law : TSd := dSeq (dFor (dRng rng1 (dCons (dBi (BI.r .max) (dCons (dC (.int 2)) (dCons (dBi (BI.r .min) (dCons (dC (.int 4)) (dCons (dBi (BI.r .len) (dCons (dVar 0) (dNil))) (dNil)))) (dNil)))) (dNil))) (dgName 1) t_law_b2) (dRet (dC (.bl true)))
def gl_law : List (Str × GI) := [("range", .rng), ("max", .bi .max), ("min", .bi .min), ("len", .bi .len), ("_law_bag", .fn sp__law_bag), ("_law_table", .fn sp__law_table), ("_law_pressed", .fn sp__law_pressed), ("_law_take", .fn sp__law_take), ("_law_right", .fn sp__law_right)]
theorem len_law : ∀ ds G q x, sp_law ds G q x → ds.length = P_law.length := by
  rintro _ _ _ _ ⟨ns, rfl, _⟩; rfl
theorem b_law : Body t_law N_law sp_law := by
  rintro ds G q x ⟨ns, rfl, hl, h0, hq⟩
  unfold t_law N_law
  walk_at "e"
  rw [List.length_map]
  refine ⟨by omega, ?_⟩
  refine ⟨fun i σ G1 => ∃ o1 o2 o3 o4 o5 o6, σ = [some (.rl (ns.map .int)), o1, o2, o3, o4, o5, o6], ⟨_, _, _, _, _, _, rfl⟩, fun _ _ _ _ => trivial, ?_, ?_⟩
  · rintro i x σ G1 ex ⟨o1, o2, o3, o4, o5, o6, rfl⟩
    obtain ⟨h1, rfl⟩ := rngL_some0 ex
    unfold t_law_b2
    walk_at "e"
    refine ⟨ns, i, rfl, hl, by omega, by omega, fun b G2 hb x2 bag2 => ?_⟩
    refine ⟨b, rfl, bag2, fun t G3 T ht x3 bag3 et tab lT => ?_⟩
    refine ⟨b, t, 60, T, rfl, bag3, et, tab, by decide, by decide, fun y G4 ks hy x4 bag4 ey lk => ?_⟩
    have ntb : t ≠ b := fun e => by obtain ⟨c, m, eb, _⟩ := bag3; rw [← e, et] at eb; cases T with | nil => simp at eb | cons r T => simp [rD] at eb
    have et4 := x4.get (by simpa using ntb) et
    refine ⟨_, .inl ⟨_, .inl et4, rfl⟩, ?_⟩
    walk_at "e"
    rw [List.length_map]
    refine takes_here bag4 (by omega) (by omega) fun at_ G5 a0 a1 x5 bag5 => ?_
    have et5 := x5.get (by simpa using ntb) et4
    unfold t_law_s1
    walk_at "e"
    refine ⟨_, .inl et5, ?_⟩
    intro p1 hp1
    generalize ep1 : st G5 p1 _ = G6
    obtain ⟨xp1, kp1⟩ := nu hp1 ep1
    refine ⟨_, .inl (xp1.at et5), ?_⟩
    intro p2 hp2
    generalize ep2 : st G6 p2 _ = G7
    obtain ⟨xp2, kp2⟩ := nu hp2 ep2
    have et7 := xp2.at (xp1.at et5)
    refine ⟨_, xp2.at kp1, _, kp2, ?_⟩
    rw [cut_map, cut_map, cut_to a0, cut_from (by omega), ← List.map_append]
    have ee : T.take at_.toNat ++ T.drop (at_ + 1).toNat = T.eraseIdx at_.toNat := by
      rw [List.eraseIdx_eq_take_drop_succ, show (at_ + 1).toNat = at_.toNat + 1 by omega]
    rw [ee]
    refine ⟨line_le (by rw [List.length_map, List.length_map, List.length_take, List.length_drop]; omega), ?_⟩
    intro p3 hp3
    generalize ep3 : st G7 p3 _ = G8
    obtain ⟨xp3, kp3⟩ := nu hp3 ep3
    refine ⟨_, .inl (xp3.at et7), ?_⟩
    rw [← List.map_reverse]
    intro p4 hp4
    generalize ep4 : st G8 p4 _ = G9
    obtain ⟨xp4, kp4⟩ := nu hp4 ep4
    intro p5 hp5
    generalize ep5 : st G9 p5 _ = G10
    obtain ⟨xp5, kp5⟩ := nu hp5 ep5
    have x510 : Ext G5 G10 := (((xp1.trans xp2).trans xp3).trans xp4).trans xp5
    have ad : ∀ z ∈ [D.ref t, .ref p3, .ref p4, .ref t], ∃ (p : Addr) (T' : List KR), z = .ref p ∧ G10 p = some (.lst (T'.map rD)) ∧ Tab T' := by
      intro z hz
      simp only [List.mem_cons, List.not_mem_nil, or_false] at hz
      rcases hz with rfl | rfl | rfl | rfl
      · exact ⟨t, T, rfl, x510.at et5, tab⟩
      · exact ⟨p3, _, rfl, xp5.at (xp4.at kp3), tab.sub (List.eraseIdx_sublist _ _)⟩
      · exact ⟨p4, _, rfl, xp5.at kp4, tab.rev⟩
      · exact ⟨t, T, rfl, x510.at et5, tab⟩
    have nyb : y ≠ b := fun e => bag3.some (by rw [← e]; exact hy)
    have ey10 : G10 y = some (.lst (ks.map .int)) := x510.at (x5.get (by simpa using nyb) ey)
    refine ⟨_, .inl kp5, ?_⟩
    refine ⟨fun j σ G11 => Ext G10 G11 ∧ ∃ o6, σ = [some (.rl (ns.map .int)), some (.int (i : Int)), some (.ref b), some (.ref t), some (.ref y), some (.int at_), o6], ⟨.refl, _, rfl⟩, fun j σ G11 h => .inl (h.1.at kp5), ?_, ?_⟩
    · rintro j z σ G11 ez ⟨x11, o6, rfl⟩
      obtain ⟨p, T', rfl, ep, tab'⟩ := ad z (List.mem_of_getElem? ez)
      unfold t_law_b1
      walk_at "e"
      refine ⟨p, y, T', ks, rfl, x11.at ep, tab', x11.at ey10, by omega, fun G12 x12 => ?_⟩
      walk_at "e"
      exact ⟨x11.trans x12, _, rfl⟩
    · rintro σ G11 ⟨x11, o6, rfl⟩
      exact ⟨_, _, _, _, _, _, rfl⟩
  · rintro σ G1 ⟨o1, o2, o3, o4, o5, o6, rfl⟩
    exact hq _

end S

set_option Elab.async false
set_option linter.all false
set_option maxRecDepth 100000
set_option maxHeartbeats 0
namespace S
open PySem PySem.Spec PyProof.Rows L2
def top (i : Nat) : Stmt := PySem.Challenge.pw_signbench_k02_keys_read.main.body.getD i (.Pass ⟨0, 0, 0, 0⟩)
abbrev s__wall : Stmt := top 0
def d__wall : He.DefD := ⟨("_wall", none), "_wall", "_wall", defArgs s__wall, defBody s__wall, defScope s__wall, [], []⟩
abbrev s_KeyReader_init : Stmt := inClass (top 3) 0
def d_KeyReader_init : He.DefD := ⟨("KeyReader", some "__init__"), "__init__", "KeyReader.__init__", defArgs s_KeyReader_init, defBody s_KeyReader_init, defScope s_KeyReader_init, [], []⟩
abbrev s_KeyReader_one_step : Stmt := inClass (top 3) 1
def d_KeyReader_one_step : He.DefD := ⟨("KeyReader", some "one_step"), "one_step", "KeyReader.one_step", defArgs s_KeyReader_one_step, defBody s_KeyReader_one_step, defScope s_KeyReader_one_step, [], []⟩
abbrev s_KeyReader_read_all : Stmt := inClass (top 3) 2
def d_KeyReader_read_all : He.DefD := ⟨("KeyReader", some "read_all"), "read_all", "KeyReader.read_all", defArgs s_KeyReader_read_all, defBody s_KeyReader_read_all, defScope s_KeyReader_read_all, [], []⟩
abbrev s_KeyReader_pressed : Stmt := inClass (top 3) 3
def d_KeyReader_pressed : He.DefD := ⟨("KeyReader", some "pressed"), "pressed", "KeyReader.pressed", defArgs s_KeyReader_pressed, defBody s_KeyReader_pressed, defScope s_KeyReader_pressed, [], []⟩
abbrev s_KeyReader_all_keys : Stmt := inClass (top 3) 4
def d_KeyReader_all_keys : He.DefD := ⟨("KeyReader", some "all_keys"), "all_keys", "KeyReader.all_keys", defArgs s_KeyReader_all_keys, defBody s_KeyReader_all_keys, defScope s_KeyReader_all_keys, [], []⟩
abbrev s_KeyReader_next_standing : Stmt := inClass (top 3) 5
def d_KeyReader_next_standing : He.DefD := ⟨("KeyReader", some "next_standing"), "next_standing", "KeyReader.next_standing", defArgs s_KeyReader_next_standing, defBody s_KeyReader_next_standing, defScope s_KeyReader_next_standing, [], []⟩
abbrev s_KeyReader_is_end : Stmt := inClass (top 3) 6
def d_KeyReader_is_end : He.DefD := ⟨("KeyReader", some "is_end"), "is_end", "KeyReader.is_end", defArgs s_KeyReader_is_end, defBody s_KeyReader_is_end, defScope s_KeyReader_is_end, [], []⟩
abbrev s_KeyReader_ways : Stmt := inClass (top 3) 7
def d_KeyReader_ways : He.DefD := ⟨("KeyReader", some "ways"), "ways", "KeyReader.ways", defArgs s_KeyReader_ways, defBody s_KeyReader_ways, defScope s_KeyReader_ways, [], []⟩
abbrev s_read_keys : Stmt := top 4
def d_read_keys : He.DefD := ⟨("read_keys", none), "read_keys", "read_keys", defArgs s_read_keys, defBody s_read_keys, defScope s_read_keys, [], []⟩
abbrev s__law_bag : Stmt := top 6
def d__law_bag : He.DefD := ⟨("_law_bag", none), "_law_bag", "_law_bag", defArgs s__law_bag, defBody s__law_bag, defScope s__law_bag, [], []⟩
abbrev s__law_take : Stmt := top 7
def d__law_take : He.DefD := ⟨("_law_take", none), "_law_take", "_law_take", defArgs s__law_take, defBody s__law_take, defScope s__law_take, [], []⟩
abbrev s__law_table : Stmt := top 8
def d__law_table : He.DefD := ⟨("_law_table", none), "_law_table", "_law_table", defArgs s__law_table, defBody s__law_table, defScope s__law_table, [], []⟩
abbrev s__law_pressed : Stmt := top 9
def d__law_pressed : He.DefD := ⟨("_law_pressed", none), "_law_pressed", "_law_pressed", defArgs s__law_pressed, defBody s__law_pressed, defScope s__law_pressed, [], []⟩
abbrev s__law_step : Stmt := top 10
def d__law_step : He.DefD := ⟨("_law_step", none), "_law_step", "_law_step", defArgs s__law_step, defBody s__law_step, defScope s__law_step, [], []⟩
abbrev s__law_read : Stmt := top 11
def d__law_read : He.DefD := ⟨("_law_read", none), "_law_read", "_law_read", defArgs s__law_read, defBody s__law_read, defScope s__law_read, [], []⟩
abbrev s__law_whole : Stmt := top 12
def d__law_whole : He.DefD := ⟨("_law_whole", none), "_law_whole", "_law_whole", defArgs s__law_whole, defBody s__law_whole, defScope s__law_whole, [], []⟩
abbrev s__law_are_lists : Stmt := top 13
def d__law_are_lists : He.DefD := ⟨("_law_are_lists", none), "_law_are_lists", "_law_are_lists", defArgs s__law_are_lists, defBody s__law_are_lists, defScope s__law_are_lists, [], []⟩
abbrev s__law_right : Stmt := top 14
def d__law_right : He.DefD := ⟨("_law_right", none), "_law_right", "_law_right", defArgs s__law_right, defBody s__law_right, defScope s__law_right, [], []⟩
abbrev s_law : Stmt := top 15
def d_law : He.DefD := ⟨("law", none), "law", "law", defArgs s_law, defBody s_law, defScope s_law, [], []⟩
def fn : List He.DefD := [d_KeyReader_init, d_KeyReader_one_step, d_KeyReader_read_all, d_read_keys, d__law_bag, d__law_take, d__law_table, d__law_pressed, d__law_step, d__law_read, d__law_whole, d__law_are_lists, d__law_right, d_law]
def fa : List He.Fa := [.glo "read_keys", .glo "_law_bag", .glo "_law_take", .glo "_law_table", .glo "_law_pressed", .glo "_law_step", .glo "_law_read", .glo "_law_whole", .glo "_law_are_lists", .glo "_law_right", .glo "law", .free "abs", .free "all", .free "bool", .free "int", .free "isinstance", .free "len", .free "list", .free "max", .free "min", .free "range", .free "tuple", .glo "KeyReader", .cls "KeyReader", .mkr "KeyReader", .meth "KeyReader" "one_step", .meth "KeyReader" "read_all", .meth "KeyReader" "pressed", .meth "KeyReader" "all_keys", .meth "KeyReader" "next_standing", .meth "KeyReader" "is_end", .meth "KeyReader" "ways", .noat "KeyReader" "by_keys", .noat "KeyReader" "known", .noat "KeyReader" "starts", .int "MOST_KEYS" 4]
abbrev R : PySem.W.OpenRow := PySem.W.OpenLaw.row PySem.Challenge.rw_signbench_k02_keys_read
abbrev hk : PySem.W.Hook := He.hookD 5 fa fn
def ob (s : PySem.W.SharedT) : He.AlD := He.obsDG 5 fa fn (HandSHeadRun.getT s)
theorem ob_eq (s : PySem.W.SharedT) : ob s = hk.obs s.abs := He.obsDG_eq (HandSHeadRun.getT_eq s)
def loose0 : List Str := ["KeyReader", "MOST_KEYS", "_law_are_lists", "_law_bag", "_law_pressed", "_law_read", "_law_right", "_law_step", "_law_table", "_law_take", "_law_whole", "_wall", "read_keys"]
abbrev loose : List Str := loose0
theorem run (w : World) : HandSHeadRun.RunEq R (PySem.W.view R.prog [15]) hk ob 30000 loose w := by
  intro os
  kernel_rfl
end S

set_option Elab.async false
set_option linter.all false
set_option maxRecDepth 100000
set_option maxHeartbeats 0
namespace S
open PySem PySem.Spec L2
open PyProof.Rows hiding St
theorem row_ok : True := trivial
theorem sc__law_bag : FnScope N__law_bag P__law_bag (defScope s__law_bag) := ⟨rfl, rfl, rfl, by decide +kernel, rfl, by decide +kernel, by decide +kernel⟩
theorem cc__law_bag : mapS (compS 60 (ccOf N__law_bag (defScope s__law_bag) gl__law_bag [])) (defBody s__law_bag) = some t__law_bag := by kernel_rfl
theorem sc__law_take : FnScope N__law_take P__law_take (defScope s__law_take) := ⟨rfl, rfl, rfl, by decide +kernel, rfl, by decide +kernel, by decide +kernel⟩
theorem cc__law_take : mapS (compS 60 (ccOf N__law_take (defScope s__law_take) gl__law_take [])) (defBody s__law_take) = some t__law_take := by kernel_rfl
theorem sc__law_table : FnScope N__law_table P__law_table (defScope s__law_table) := ⟨rfl, rfl, rfl, by decide +kernel, rfl, by decide +kernel, by decide +kernel⟩
theorem cc__law_table : mapS (compS 60 (ccOf N__law_table (defScope s__law_table) gl__law_table ["_law_found"])) (defBody s__law_table) = some t__law_table := by kernel_rfl
theorem sc__law_pressed : FnScope N__law_pressed P__law_pressed (defScope s__law_pressed) := ⟨rfl, rfl, rfl, by decide +kernel, rfl, by decide +kernel, by decide +kernel⟩
theorem cc__law_pressed : mapS (compS 60 (ccOf N__law_pressed (defScope s__law_pressed) gl__law_pressed [])) (defBody s__law_pressed) = some t__law_pressed := by kernel_rfl
theorem sc__law_step : FnScope N__law_step P__law_step (defScope s__law_step) := ⟨rfl, rfl, rfl, by decide +kernel, rfl, by decide +kernel, by decide +kernel⟩
theorem cc__law_step : mapS (compS 60 (ccOf N__law_step (defScope s__law_step) gl__law_step [])) (defBody s__law_step) = some t__law_step := by kernel_rfl
theorem sc__law_read : FnScope N__law_read P__law_read (defScope s__law_read) := ⟨rfl, rfl, rfl, by decide +kernel, rfl, by decide +kernel, by decide +kernel⟩
theorem cc__law_read : mapS (compS 60 (ccOf N__law_read (defScope s__law_read) gl__law_read [])) (defBody s__law_read) = some t__law_read := by kernel_rfl
theorem sc_KeyReader_one_step : FnScope N_KeyReader_one_step P_KeyReader_one_step (defScope s_KeyReader_one_step) := ⟨rfl, rfl, rfl, by decide +kernel, rfl, by decide +kernel, by decide +kernel⟩
theorem cc_KeyReader_one_step : mapS (compS 60 (ccOf N_KeyReader_one_step (defScope s_KeyReader_one_step) gl_KeyReader_one_step [] [] [] false fl_KeyReader_one_step mt_KeyReader_one_step)) (defBody s_KeyReader_one_step) = some t_KeyReader_one_step := by kernel_rfl
theorem sc_KeyReader_read_all : FnScope N_KeyReader_read_all P_KeyReader_read_all (defScope s_KeyReader_read_all) := ⟨rfl, rfl, rfl, by decide +kernel, rfl, by decide +kernel, by decide +kernel⟩
theorem cc_KeyReader_read_all : mapS (compS 60 (ccOf N_KeyReader_read_all (defScope s_KeyReader_read_all) gl_KeyReader_read_all [] [] [] false fl_KeyReader_read_all mt_KeyReader_read_all)) (defBody s_KeyReader_read_all) = some t_KeyReader_read_all := by kernel_rfl
theorem sc_KeyReader_init : FnScope N_KeyReader_init P_KeyReader_init (defScope s_KeyReader_init) := ⟨rfl, rfl, rfl, by decide +kernel, rfl, by decide +kernel, by decide +kernel⟩
theorem cc_KeyReader_init : mapS (compS 60 (ccOf N_KeyReader_init (defScope s_KeyReader_init) gl_KeyReader_init [] [] [] false fl_KeyReader_init mt_KeyReader_init)) (defBody s_KeyReader_init) = some t_KeyReader_init := by kernel_rfl
theorem sc_read_keys : FnScope N_read_keys P_read_keys (defScope s_read_keys) := ⟨rfl, rfl, rfl, by decide +kernel, rfl, by decide +kernel, by decide +kernel⟩
theorem cc_read_keys : mapS (compS 60 (ccOf N_read_keys (defScope s_read_keys) gl_read_keys [] [] [] false fl_read_keys mt_read_keys)) (defBody s_read_keys) = some t_read_keys := by kernel_rfl
theorem sc__law_whole : FnScope N__law_whole P__law_whole (defScope s__law_whole) := ⟨rfl, rfl, rfl, by decide +kernel, rfl, by decide +kernel, by decide +kernel⟩
theorem cc__law_whole : mapS (compS 60 (ccOf N__law_whole (defScope s__law_whole) gl__law_whole [])) (defBody s__law_whole) = some t__law_whole := by kernel_rfl
theorem sc__law_are_lists : FnScope N__law_are_lists P__law_are_lists (defScope s__law_are_lists) := ⟨rfl, rfl, rfl, by decide +kernel, rfl, by decide +kernel, by decide +kernel⟩
theorem cc__law_are_lists : mapS (compS 60 (ccOf N__law_are_lists (defScope s__law_are_lists) gl__law_are_lists [])) (defBody s__law_are_lists) = some t__law_are_lists := by kernel_rfl
theorem sc__law_right : FnScope N__law_right P__law_right (defScope s__law_right) := ⟨rfl, rfl, rfl, by decide +kernel, rfl, by decide +kernel, by decide +kernel⟩
theorem cc__law_right : mapS (compS 60 (ccOf N__law_right (defScope s__law_right) gl__law_right [])) (defBody s__law_right) = some t__law_right := by kernel_rfl
theorem sc_law : FnScope N_law P_law (defScope s_law) := ⟨rfl, rfl, rfl, by decide +kernel, rfl, by decide +kernel, by decide +kernel⟩
theorem cc_law : mapS (compS 60 (ccOf N_law (defScope s_law) gl_law [])) (defBody s_law) = some t_law := by kernel_rfl
section
variable {P : Program} {w : World} {K : PySem.W.Frag} {h : Heap} {mg : Str → Option Value}
theorem facts {f : Addr} (X : K.In h) (G : h.Ns mainGlobals mg) (hfa : mg ("law" : Str) = some (.ref f)) (c : He.SaysD fa fn K) : ∃ fd : FuncData, (∀ (s : Shared) (v : Value), BindsTo s fd ⟨[v], []⟩ [("_law_script", v)]) ∧ ∀ base : Heap, K.In base → base.Ns mainGlobals mg → FnOk P w K mg base (L2N.CX P w) 5 f fd ["_law_script"] (liftSp ⟨K, P, w⟩ spLaw) := by
  obtain ⟨fd__law_bag, F0__law_bag⟩ := c.def_ 4 (d := d__law_bag) rfl
  have F__law_bag : FunD K "_law_bag" "_law_bag" (defArgs s__law_bag) (defBody s__law_bag) (defScope s__law_bag) [] [] (He.ga K "_law_bag") fd__law_bag := F0__law_bag
  have M__law_bag : mg "_law_bag" = some (.ref (He.ga K "_law_bag")) := He.glo_ok X G (c.fact 1 (f := .glo "_law_bag") rfl)
  have B__law_bag : Binds K fd__law_bag P__law_bag [] := F__law_bag.bindsN fun _ _ _ _ _ _ us hl => match us, hl with | [_, _], _ => rfl
  obtain ⟨fd__law_take, F0__law_take⟩ := c.def_ 5 (d := d__law_take) rfl
  have F__law_take : FunD K "_law_take" "_law_take" (defArgs s__law_take) (defBody s__law_take) (defScope s__law_take) [] [] (He.ga K "_law_take") fd__law_take := F0__law_take
  have M__law_take : mg "_law_take" = some (.ref (He.ga K "_law_take")) := He.glo_ok X G (c.fact 2 (f := .glo "_law_take") rfl)
  have B__law_take : Binds K fd__law_take P__law_take [] := F__law_take.bindsN fun _ _ _ _ _ _ us hl => match us, hl with | [_, _], _ => rfl
  obtain ⟨fd__law_table, F0__law_table⟩ := c.def_ 6 (d := d__law_table) rfl
  have F__law_table : FunD K "_law_table" "_law_table" (defArgs s__law_table) (defBody s__law_table) (defScope s__law_table) [] [] (He.ga K "_law_table") fd__law_table := F0__law_table
  have M__law_table : mg "_law_table" = some (.ref (He.ga K "_law_table")) := He.glo_ok X G (c.fact 3 (f := .glo "_law_table") rfl)
  have B__law_table : Binds K fd__law_table P__law_table [] := F__law_table.bindsN fun _ _ _ _ _ _ us hl => match us, hl with | [_], _ => rfl
  obtain ⟨fd__law_pressed, F0__law_pressed⟩ := c.def_ 7 (d := d__law_pressed) rfl
  have F__law_pressed : FunD K "_law_pressed" "_law_pressed" (defArgs s__law_pressed) (defBody s__law_pressed) (defScope s__law_pressed) [] [] (He.ga K "_law_pressed") fd__law_pressed := F0__law_pressed
  have M__law_pressed : mg "_law_pressed" = some (.ref (He.ga K "_law_pressed")) := He.glo_ok X G (c.fact 4 (f := .glo "_law_pressed") rfl)
  have B__law_pressed : Binds K fd__law_pressed P__law_pressed [] := F__law_pressed.bindsN fun _ _ _ _ _ _ us hl => match us, hl with | [_, _, _], _ => rfl
  obtain ⟨fd__law_step, F0__law_step⟩ := c.def_ 8 (d := d__law_step) rfl
  have F__law_step : FunD K "_law_step" "_law_step" (defArgs s__law_step) (defBody s__law_step) (defScope s__law_step) [] [] (He.ga K "_law_step") fd__law_step := F0__law_step
  have M__law_step : mg "_law_step" = some (.ref (He.ga K "_law_step")) := He.glo_ok X G (c.fact 5 (f := .glo "_law_step") rfl)
  have B__law_step : Binds K fd__law_step P__law_step [] := F__law_step.bindsN fun _ _ _ _ _ _ us hl => match us, hl with | [_, _], _ => rfl
  obtain ⟨fd__law_read, F0__law_read⟩ := c.def_ 9 (d := d__law_read) rfl
  have F__law_read : FunD K "_law_read" "_law_read" (defArgs s__law_read) (defBody s__law_read) (defScope s__law_read) [] [] (He.ga K "_law_read") fd__law_read := F0__law_read
  have M__law_read : mg "_law_read" = some (.ref (He.ga K "_law_read")) := He.glo_ok X G (c.fact 6 (f := .glo "_law_read") rfl)
  have B__law_read : Binds K fd__law_read P__law_read [] := F__law_read.bindsN fun _ _ _ _ _ _ us hl => match us, hl with | [_, _], _ => rfl
  obtain ⟨fd_KeyReader_one_step, F0_KeyReader_one_step⟩ := c.def_ 1 (d := d_KeyReader_one_step) rfl
  have F_KeyReader_one_step : FunD K "one_step" "KeyReader.one_step" (defArgs s_KeyReader_one_step) (defBody s_KeyReader_one_step) (defScope s_KeyReader_one_step) [] [] (He.ma K (He.ga K "KeyReader") "one_step") fd_KeyReader_one_step := F0_KeyReader_one_step
  have B_KeyReader_one_step : Binds K fd_KeyReader_one_step P_KeyReader_one_step [] := F_KeyReader_one_step.bindsN fun _ _ _ _ _ _ us hl => match us, hl with | [_, _], _ => rfl
  obtain ⟨fd_KeyReader_read_all, F0_KeyReader_read_all⟩ := c.def_ 2 (d := d_KeyReader_read_all) rfl
  have F_KeyReader_read_all : FunD K "read_all" "KeyReader.read_all" (defArgs s_KeyReader_read_all) (defBody s_KeyReader_read_all) (defScope s_KeyReader_read_all) [] [] (He.ma K (He.ga K "KeyReader") "read_all") fd_KeyReader_read_all := F0_KeyReader_read_all
  have B_KeyReader_read_all : Binds K fd_KeyReader_read_all P_KeyReader_read_all [] := F_KeyReader_read_all.bindsN fun _ _ _ _ _ _ us hl => match us, hl with | [_, _], _ => rfl
  obtain ⟨fd_KeyReader_init, F0_KeyReader_init⟩ := c.def_ 0 (d := d_KeyReader_init) rfl
  have F_KeyReader_init : FunD K "__init__" "KeyReader.__init__" (defArgs s_KeyReader_init) (defBody s_KeyReader_init) (defScope s_KeyReader_init) [] [] (He.ma K (He.ga K "KeyReader") "__init__") fd_KeyReader_init := F0_KeyReader_init
  have B_KeyReader_init : Binds K fd_KeyReader_init P_KeyReader_init [] := F_KeyReader_init.bindsN fun _ _ _ _ _ _ us hl => match us, hl with | [_, _], _ => rfl
  obtain ⟨fd_read_keys, F0_read_keys⟩ := c.def_ 3 (d := d_read_keys) rfl
  have F_read_keys : FunD K "read_keys" "read_keys" (defArgs s_read_keys) (defBody s_read_keys) (defScope s_read_keys) [] [] (He.ga K "read_keys") fd_read_keys := F0_read_keys
  have M_read_keys : mg "read_keys" = some (.ref (He.ga K "read_keys")) := He.glo_ok X G (c.fact 0 (f := .glo "read_keys") rfl)
  have B_read_keys : Binds K fd_read_keys P_read_keys [] := F_read_keys.bindsN fun _ _ _ _ _ _ us hl => match us, hl with | [_, _], _ => rfl
  obtain ⟨fd__law_whole, F0__law_whole⟩ := c.def_ 10 (d := d__law_whole) rfl
  have F__law_whole : FunD K "_law_whole" "_law_whole" (defArgs s__law_whole) (defBody s__law_whole) (defScope s__law_whole) [] [] (He.ga K "_law_whole") fd__law_whole := F0__law_whole
  have M__law_whole : mg "_law_whole" = some (.ref (He.ga K "_law_whole")) := He.glo_ok X G (c.fact 7 (f := .glo "_law_whole") rfl)
  have B__law_whole : Binds K fd__law_whole P__law_whole [] := F__law_whole.bindsN fun _ _ _ _ _ _ us hl => match us, hl with | [_], _ => rfl
  obtain ⟨fd__law_are_lists, F0__law_are_lists⟩ := c.def_ 11 (d := d__law_are_lists) rfl
  have F__law_are_lists : FunD K "_law_are_lists" "_law_are_lists" (defArgs s__law_are_lists) (defBody s__law_are_lists) (defScope s__law_are_lists) [] [] (He.ga K "_law_are_lists") fd__law_are_lists := F0__law_are_lists
  have M__law_are_lists : mg "_law_are_lists" = some (.ref (He.ga K "_law_are_lists")) := He.glo_ok X G (c.fact 8 (f := .glo "_law_are_lists") rfl)
  have B__law_are_lists : Binds K fd__law_are_lists P__law_are_lists [] := F__law_are_lists.bindsN fun _ _ _ _ _ _ us hl => match us, hl with | [_], _ => rfl
  obtain ⟨fd__law_right, F0__law_right⟩ := c.def_ 12 (d := d__law_right) rfl
  have F__law_right : FunD K "_law_right" "_law_right" (defArgs s__law_right) (defBody s__law_right) (defScope s__law_right) [] [] (He.ga K "_law_right") fd__law_right := F0__law_right
  have M__law_right : mg "_law_right" = some (.ref (He.ga K "_law_right")) := He.glo_ok X G (c.fact 9 (f := .glo "_law_right") rfl)
  have B__law_right : Binds K fd__law_right P__law_right [] := F__law_right.bindsN fun _ _ _ _ _ _ us hl => match us, hl with | [_, _], _ => rfl
  obtain ⟨fd_law, F0_law⟩ := c.def_ 13 (d := d_law) rfl
  have F_law : FunD K "law" "law" (defArgs s_law) (defBody s_law) (defScope s_law) [] [] (He.ga K "law") fd_law := F0_law
  have M_law : mg "law" = some (.ref (He.ga K "law")) := He.glo_ok X G (c.fact 10 (f := .glo "law") rfl)
  have B_law : Binds K fd_law P_law [] := F_law.bindsN fun _ _ _ _ _ _ us hl => match us, hl with | [_], _ => rfl
  have bA := FunD.bindsA (ps := P_law) F_law fun _ _ _ _ _ _ us hl => match us, hl with | [_], _ => rfl
  have e := hfa.symm.trans M_law
  cases e
  refine ⟨fd_law, fun s v => bA s [v] rfl, fun base _ _ => ?_⟩
  have C__law_bag : CalG P w K mg base 1 "_law_bag" sp__law_bag := call_mk F__law_bag sc__law_bag cc__law_bag (AllG.ok (show AllG P w K mg base 0 gl__law_bag from ⟨⟨He.free_ok X G (c.fact 16 (f := .free "len") rfl), rfl⟩, ⟨He.free_ok X G (c.fact 11 (f := .free "abs") rfl), rfl⟩, ⟨He.free_ok X G (c.fact 20 (f := .free "range") rfl), rfl⟩, ⟨He.free_ok X G (c.fact 19 (f := .free "min") rfl), rfl⟩, trivial⟩)) len__law_bag b__law_bag M__law_bag B__law_bag EcK.nil
  have C__law_take : CalG P w K mg base 1 "_law_take" sp__law_take := call_mk F__law_take sc__law_take cc__law_take (AllG.ok (show AllG P w K mg base 0 gl__law_take from trivial)) len__law_take b__law_take M__law_take B__law_take EcK.nil
  have C__law_table : CalG P w K mg base 2 "_law_table" sp__law_table := call_mk F__law_table sc__law_table cc__law_table (AllG.ok (show AllG P w K mg base 1 gl__law_table from ⟨.fn C__law_take (by omega), ⟨He.free_ok X G (c.fact 20 (f := .free "range") rfl), rfl⟩, ⟨He.free_ok X G (c.fact 21 (f := .free "tuple") rfl), rfl⟩, ⟨He.free_ok X G (c.fact 16 (f := .free "len") rfl), rfl⟩, trivial⟩)) len__law_table b__law_table M__law_table B__law_table EcK.nil
  have C__law_pressed : CalG P w K mg base 2 "_law_pressed" sp__law_pressed := call_mk F__law_pressed sc__law_pressed cc__law_pressed (AllG.ok (show AllG P w K mg base 1 gl__law_pressed from ⟨⟨He.free_ok X G (c.fact 20 (f := .free "range") rfl), rfl⟩, .fn C__law_take (by omega), ⟨He.free_ok X G (c.fact 14 (f := .free "int") rfl), rfl⟩, ⟨He.free_ok X G (c.fact 16 (f := .free "len") rfl), rfl⟩, trivial⟩)) len__law_pressed b__law_pressed M__law_pressed B__law_pressed EcK.nil
  have C__law_step : CalG P w K mg base 1 "_law_step" sp__law_step := call_mk F__law_step sc__law_step cc__law_step (AllG.ok (show AllG P w K mg base 0 gl__law_step from ⟨⟨He.free_ok X G (c.fact 16 (f := .free "len") rfl), rfl⟩, ⟨He.free_ok X G (c.fact 17 (f := .free "list") rfl), rfl⟩, trivial⟩)) len__law_step b__law_step M__law_step B__law_step EcK.nil
  have C__law_read : CalG P w K mg base 2 "_law_read" sp__law_read := call_mk F__law_read sc__law_read cc__law_read (AllG.ok (show AllG P w K mg base 1 gl__law_read from ⟨⟨He.free_ok X G (c.fact 21 (f := .free "tuple") rfl), rfl⟩, .fn C__law_step (by omega), trivial⟩)) len__law_read b__law_read M__law_read B__law_read EcK.nil
  have C_KeyReader_one_step : MetG P w K mg base 1 0 "one_step" sp_KeyReader_one_step := meth_mk F_KeyReader_one_step sc_KeyReader_one_step cc_KeyReader_one_step (AllG.ok (show AllG P w K mg base 0 gl_KeyReader_one_step from ⟨⟨He.free_ok X G (c.fact 20 (f := .free "range") rfl), rfl⟩, ⟨He.free_ok X G (c.fact 19 (f := .free "min") rfl), rfl⟩, ⟨He.free_ok X G (c.fact 16 (f := .free "len") rfl), rfl⟩, GIg.int (He.int_ok X G (c.fact 35 (f := .int "MOST_KEYS" 4) rfl)), trivial⟩)) len_KeyReader_one_step b_KeyReader_one_step (He.cls_ok (c.fact 23 (f := .cls "KeyReader") rfl)) (by decide +kernel) (He.meth_ok (c.fact 25 (f := .meth "KeyReader" "one_step") rfl)) B_KeyReader_one_step EcK.nil (FlOk.cons rfl (He.cls_ok (c.fact 23 (f := .cls "KeyReader") rfl)) (He.noat_ok (c.fact 32 (f := .noat "KeyReader" "by_keys") rfl)) (FlOk.nil)) (MtOk.nil)
  have C_KeyReader_read_all : MetG P w K mg base 2 0 "read_all" sp_KeyReader_read_all := meth_mk F_KeyReader_read_all sc_KeyReader_read_all cc_KeyReader_read_all (AllG.ok (show AllG P w K mg base 1 gl_KeyReader_read_all from ⟨⟨He.free_ok X G (c.fact 21 (f := .free "tuple") rfl), rfl⟩, trivial⟩)) len_KeyReader_read_all b_KeyReader_read_all (He.cls_ok (c.fact 23 (f := .cls "KeyReader") rfl)) (by decide +kernel) (He.meth_ok (c.fact 26 (f := .meth "KeyReader" "read_all") rfl)) B_KeyReader_read_all EcK.nil (FlOk.nil) (MtOk.cons C_KeyReader_one_step (by omega) (MtOk.nil))
  have C_KeyReader_init : ∀ j, 2 ≤ j → GIg P w K mg base j "KeyReader" (.cl 0 sp_KeyReader_init) := make_mk F_KeyReader_init sc_KeyReader_init cc_KeyReader_init (AllG.ok (show AllG P w K mg base 0 gl_KeyReader_init from ⟨⟨He.free_ok X G (c.fact 20 (f := .free "range") rfl), rfl⟩, ⟨He.free_ok X G (c.fact 16 (f := .free "len") rfl), rfl⟩, trivial⟩)) len_KeyReader_init b_KeyReader_init (He.glo_ok X G (c.fact 22 (f := .glo "KeyReader") rfl)) (He.mkr_ok (c.fact 24 (f := .mkr "KeyReader") rfl)) B_KeyReader_init EcK.nil (FlOk.cons rfl (He.cls_ok (c.fact 23 (f := .cls "KeyReader") rfl)) (He.noat_ok (c.fact 32 (f := .noat "KeyReader" "by_keys") rfl)) (FlOk.cons rfl (He.cls_ok (c.fact 23 (f := .cls "KeyReader") rfl)) (He.noat_ok (c.fact 34 (f := .noat "KeyReader" "starts") rfl)) (FlOk.cons rfl (He.cls_ok (c.fact 23 (f := .cls "KeyReader") rfl)) (He.noat_ok (c.fact 33 (f := .noat "KeyReader" "known") rfl)) (FlOk.nil)))) (MtOk.nil)
  have C_read_keys : CalG P w K mg base 3 "read_keys" sp_read_keys := call_mk F_read_keys sc_read_keys cc_read_keys (AllG.ok (show AllG P w K mg base 2 gl_read_keys from ⟨C_KeyReader_init _ (by omega), trivial⟩)) len_read_keys b_read_keys M_read_keys B_read_keys EcK.nil (FlOk.nil) (MtOk.cons C_KeyReader_read_all (by omega) (MtOk.nil))
  have C__law_whole : CalG P w K mg base 1 "_law_whole" sp__law_whole := call_mk F__law_whole sc__law_whole cc__law_whole (AllG.ok (show AllG P w K mg base 0 gl__law_whole from ⟨⟨He.free_ok X G (c.fact 15 (f := .free "isinstance") rfl), rfl⟩, ⟨He.free_ok X G (c.fact 13 (f := .free "bool") rfl), PyProof.Rows.boot_bool, by decide⟩, ⟨He.free_ok X G (c.fact 14 (f := .free "int") rfl), rfl⟩, trivial⟩)) len__law_whole b__law_whole M__law_whole B__law_whole EcK.nil
  have C__law_are_lists : CalG P w K mg base 2 "_law_are_lists" sp__law_are_lists := call_mk F__law_are_lists sc__law_are_lists cc__law_are_lists (AllG.ok (show AllG P w K mg base 1 gl__law_are_lists from ⟨⟨He.free_ok X G (c.fact 12 (f := .free "all") rfl), rfl⟩, .fn C__law_whole (by omega), ⟨He.free_ok X G (c.fact 15 (f := .free "isinstance") rfl), rfl⟩, ⟨He.free_ok X G (c.fact 17 (f := .free "list") rfl), rfl⟩, ⟨He.free_ok X G (c.fact 16 (f := .free "len") rfl), rfl⟩, trivial⟩)) len__law_are_lists b__law_are_lists M__law_are_lists B__law_are_lists EcK.nil
  have C__law_right : CalG P w K mg base 4 "_law_right" sp__law_right := call_mk F__law_right sc__law_right cc__law_right (AllG.ok (show AllG P w K mg base 3 gl__law_right from ⟨.fn C__law_read (by omega), ⟨He.free_ok X G (c.fact 17 (f := .free "list") rfl), rfl⟩, ⟨He.free_ok X G (c.fact 20 (f := .free "range") rfl), rfl⟩, .fn C_read_keys (by omega), .fn C__law_are_lists (by omega), ⟨He.free_ok X G (c.fact 15 (f := .free "isinstance") rfl), rfl⟩, ⟨He.free_ok X G (c.fact 21 (f := .free "tuple") rfl), rfl⟩, trivial⟩)) len__law_right b__law_right M__law_right B__law_right EcK.nil
  exact def_ok F_law sc_law cc_law (AllG.ok (show AllG P w K mg base 4 gl_law from ⟨⟨He.free_ok X G (c.fact 20 (f := .free "range") rfl), rfl⟩, ⟨He.free_ok X G (c.fact 18 (f := .free "max") rfl), rfl⟩, ⟨He.free_ok X G (c.fact 19 (f := .free "min") rfl), rfl⟩, ⟨He.free_ok X G (c.fact 16 (f := .free "len") rfl), rfl⟩, .fn C__law_bag (by omega), .fn C__law_table (by omega), .fn C__law_pressed (by omega), .fn C__law_take (by omega), .fn C__law_right (by omega), trivial⟩)) len_law b_law EcK.nil
end

end S
open PySem PySem.W PySem.Calls PyProof.Rows
theorem PySem.Challenge.cw_signbench_k02_keys_read_holds : PySem.Challenge.rw_signbench_k02_keys_read.Holds := by
  w_on; o_law
  refine HandSHeadRun.head_any (r := OpenLaw.row PySem.Challenge.rw_signbench_k02_keys_read) (q := view (OpenLaw.row PySem.Challenge.rw_signbench_k02_keys_read).prog [15]) (H := S.hk) (ob := S.ob) (M := 30000) (loose := S.loose) (d := HandSHeadRun.topDef (OpenLaw.row PySem.Challenge.rw_signbench_k02_keys_read).prog 15) (kwd := []) S.ob_eq
    (by kernel_rfl) (fun s => by kernel_rfl) S.run (by kernel_rfl) (by kernel_rfl) (by kernel_rfl) (by rfl) (by first | assumption | decide +kernel) (by decide +kernel) ⟨rfl, rfl, rfl, rfl, rfl, by decide +kernel⟩ ?hw ?hc
  case hw => w_witness2
  case hc =>
    refine S.walk_mine (l := PySem.Challenge.rw_signbench_k02_keys_read) (n := 63) (k := 5) (x := "_law_script") rfl (by decide) (by kernel_rfl) ⟨rfl, by decide, by decide⟩ ?F
    intro w mg fa h Y G hmg0
    obtain ⟨K, KX, c⟩ := Y
    have hmg : mg ("law" : PySem.Str) = some (.ref fa) := by
      have e : (HandSHeadRun.topDef (OpenLaw.row PySem.Challenge.rw_signbench_k02_keys_read).prog 15).name = ("law" : PySem.Str) := by kernel_rfl
      rw [← e]
      exact hmg0
    obtain ⟨fd, hb, hF⟩ := S.facts (P := (PySem.Challenge.rw_signbench_k02_keys_read).prog) (w := w) KX G hmg c
    exact ⟨K, fd, S.liftSp ⟨K, (PySem.Challenge.rw_signbench_k02_keys_read).prog, w⟩ S.spLaw, KX, hb, fun H a ns hl hO hS => S.law_sp hl hO hS, hF⟩
