import PyProof.Rows.All
import HandS.ForMost
import HandS.IsInst
import HandS.Wide
import KE.KDictKeyed
import HandS.TupAny
import HandS.Style
import KE.DataEq
import PyProof.Rows.IntBool
import PyProof.ReprRoads
import HandS.RaiseMore
import HandS.NoneIn
import HandS.Zip
import KE.GoesEnum
import KE.KDictPairs
import KE.SortData
import HandS.DictComp
import HandS.SetFor
import HandS.Strs
import HandS.Defaults
import HandS.SetBool
import HandS.SetKeys
import HandS.Conv
import PyProof.Transfer
import PyProof.EqKinds
import HandS.TupSets
import HandS.EndBits
import PyProof.Ascii
import PySem.Challenge.RW_crossedwishes_k06_whole_refusals_add_up
set_option Elab.async false
section
set_option Elab.async false
set_option linter.all false
set_option maxRecDepth 100000
set_option maxHeartbeats 1000000
/-! values of the deep evaluator and how they lie in the abstract heap -/
namespace DE
open PySem PySem.Spec PyProof.Rows L2

/-- the written part, and the world -/
structure KW where
  f : PySem.W.Frag
  w : World
instance : Coe KW PySem.W.Frag := ⟨KW.f⟩
abbrev _root_.L2.Cx.kw (X : L2.Cx) : DE.KW := ⟨X.K, X.w⟩
/-- a value: a tree that nobody changes any more; a place among the changeable things; a tuple of such -/
inductive Val where
  | t (d : PyData)
  | r (n : Nat)
  | tp (ds : List PyData) (n : Nat) (es : List PyData)
/-- a changeable thing: a list, a dict; one that is fixed from now on -/
inductive MO where
  | l (ds : List PyData)
  | d (kvs : List (PyData × PyData))
  | f (d : PyData)
  | e (es : List (PyData × PyData))
abbrev MH := List MO
abbrev Sg := List (Option Val)
abbrev Fz := Addr → Prop

/-- a list of the written part -/
def KL (K : KW) (a : Addr) (vs : List V) : Prop := ∃ its n, K.f.lookup a = some { cls := .type "list", data := .seq its n } ∧ its.size ≤ sizeLine ∧ Vals vs its.toList
/-- a list that may be read -/
def RdL (K : KW) (H : Hp) (a : Addr) (vs : List V) : Prop := Rd H a (.lst vs) ∨ KL K a vs
theorem RdL.sq {K : KW} {H : Hp} {a : Addr} {vs : List V} (h : RdL K H a vs) : SqL K H a vs := by
  rcases h with h | ⟨its, n, h1, h2, h3⟩
  · exact .inl h
  · exact .inr ⟨_, its, n, h1, rfl, rfl, rfl, h2, h3⟩
section
variable (K : KW) (F : Fz) (H : Hp)
/-- a list that stays as it is -/
def FL (a : Addr) (vs : List V) : Prop := (F a ∧ H a = some (.lst vs)) ∨ (∃ o, H a = some (.frz o (.lst vs))) ∨ KL K a vs
end
/-- a tuple that is known to have no dict of its own -/
def TX (K : KW) (H : Hp) (a : Addr) (vs : List V) : Prop := (∃ o : Obj, H a = some (.frz o (.tup vs)) ∧ o.dict = none) ∨
  ∃ (o : Obj) (its : Array Value) (n : Nat), K.f.lookup a = some o ∧ o.cls = .type "tuple" ∧ o.dict = none ∧ o.data = .seq its n ∧ its.size ≤ sizeLine ∧ Vals vs its.toList
theorem TX.sq {K : KW} {H : Hp} {a : Addr} {vs : List V} (h : TX K H a vs) : SqT K H a vs := by
  rcases h with ⟨o, h, _⟩ | ⟨o, its, n, h1, h2, _, h3, h4, h5⟩
  · exact .inl (.inr ⟨o, h⟩)
  · exact .inr ⟨o, its, n, h1, h2, h3, h4, h5⟩
section
variable (K : KW) (F : Fz) (H : Hp)
mutual
inductive Rep : V → PyData → Prop
  | non : Rep .non .none
  | bl (b : Bool) : Rep (.bl b) (.bool b)
  | int (i : Int) : Rep (.int i) (.int i)
  | str (x : Str) : Rep (.str x) (.str x)
  | tup {a : Addr} {vs : List V} {ds : List PyData} : TX K H a vs → Reps vs ds → Rep (.ref a) (.tuple ds)
  | lst {a : Addr} {vs : List V} {ds : List PyData} : FL K F H a vs → Reps vs ds → Rep (.ref a) (.list ds)
  | dct {a : Addr} {kvs : List (Key × V)} {es : List (PyData × PyData)} : F a → H a = some (.dK kvs) → Reps (kvs.map fun p => kV p.1) (es.map (·.1)) → Reps (kvs.map (·.2)) (es.map (·.2)) → Rep (.ref a) (.dict es)
inductive Reps : List V → List PyData → Prop
  | nil : Reps [] []
  | cons {v : V} {vs : List V} {d : PyData} {ds : List PyData} : Rep v d → Reps vs ds → Reps (v :: vs) (d :: ds)
end
end

/-- what was fixed stays -/
structure Ex (F : Fz) (H : Hp) (F' : Fz) (H' : Hp) : Prop where
  mono : ∀ a, F a → F' a
  keep : ∀ a, F a → H' a = H a
  tups : ∀ a xs, H a = some (.tup xs) → H' a = some (.tup xs)
  frzs : ∀ a o u, H a = some (.frz o u) → H' a = some (.frz o u)
theorem Ex.refl {F : Fz} {H : Hp} : Ex F H F H := ⟨fun _ h => h, fun _ _ => rfl, fun _ _ h => h, fun _ _ _ h => h⟩
theorem Ex.trans {F F1 F2 : Fz} {H H1 H2 : Hp} (a : Ex F H F1 H1) (b : Ex F1 H1 F2 H2) : Ex F H F2 H2 :=
  ⟨fun x h => b.mono x (a.mono x h), fun x h => (b.keep x (a.mono x h)).trans (a.keep x h), fun x xs h => b.tups x xs (a.tups x xs h), fun x o u h => b.frzs x o u (a.frzs x o u h)⟩

section
variable {K : KW} {F F' : Fz} {H H' : Hp}
theorem sqT_ex {a : Addr} {vs : List V} (e : Ex F H F' H') (h : SqT K H a vs) : SqT K H' a vs := by
  rcases h with (h | ⟨o, h⟩) | h
  · exact .inl (.inl (e.tups _ _ h))
  · exact .inl (.inr ⟨o, e.frzs _ _ _ h⟩)
  · exact .inr h
theorem TX.ex {a : Addr} {vs : List V} (e : Ex F H F' H') (h : TX K H a vs) : TX K H' a vs := by
  rcases h with ⟨o, h, z⟩ | h
  · exact .inl ⟨o, e.frzs _ _ _ h, z⟩
  · exact .inr h
theorem FL.ex {a : Addr} {vs : List V} (e : Ex F H F' H') (h : FL K F H a vs) : FL K F' H' a vs := by
  rcases h with ⟨h1, h2⟩ | ⟨o, h⟩ | h
  · exact .inl ⟨e.mono _ h1, (e.keep _ h1).trans h2⟩
  · exact .inr (.inl ⟨o, e.frzs _ _ _ h⟩)
  · exact .inr (.inr h)
theorem FL.rd {a : Addr} {vs : List V} (h : FL K F H a vs) : RdL K H a vs := by
  rcases h with ⟨_, h⟩ | ⟨o, h⟩ | h
  · exact .inl (.inl h)
  · exact .inl (.inr ⟨o, h⟩)
  · exact .inr h
theorem FL.sq {a : Addr} {vs : List V} (h : FL K F H a vs) : SqL K H a vs := h.rd.sq
mutual
theorem Rep.ex (e : Ex F H F' H') : ∀ {v : V} {d : PyData}, Rep K F H v d → Rep K F' H' v d
  | _, _, .non => .non
  | _, _, .bl b => .bl b
  | _, _, .int i => .int i
  | _, _, .str x => .str x
  | _, _, .tup h r => .tup (h.ex e) (Reps.ex e r)
  | _, _, .lst h r => .lst (h.ex e) (Reps.ex e r)
  | _, _, .dct h1 h2 r1 r2 => .dct (e.mono _ h1) ((e.keep _ h1).trans h2) (Reps.ex e r1) (Reps.ex e r2)
theorem Reps.ex (e : Ex F H F' H') : ∀ {vs : List V} {ds : List PyData}, Reps K F H vs ds → Reps K F' H' vs ds
  | _, _, .nil => .nil
  | _, _, .cons a b => .cons (Rep.ex e a) (Reps.ex e b)
end
theorem Reps.length : ∀ {vs : List V} {ds : List PyData}, Reps K F H vs ds → vs.length = ds.length
  | _, _, .nil => rfl
  | _, _, .cons _ b => by rw [List.length_cons, List.length_cons, Reps.length b]
theorem Reps.get : ∀ {vs : List V} {ds : List PyData} {i : Nat} {d : PyData}, Reps K F H vs ds → ds[i]? = some d → ∃ v, vs[i]? = some v ∧ Rep K F H v d
  | _, _, _, _, .nil, e => by simp at e
  | _, _, 0, _, .cons a _, e => by simp at e; subst e; exact ⟨_, rfl, a⟩
  | _, _, i + 1, d, .cons _ b, e => by
    obtain ⟨v, h1, h2⟩ := Reps.get (i := i) (d := d) b (by simpa using e)
    exact ⟨v, by simpa using h1, h2⟩
theorem Reps.append : ∀ {vs ws : List V} {ds es : List PyData}, Reps K F H vs ds → Reps K F H ws es → Reps K F H (vs ++ ws) (ds ++ es)
  | _, _, _, _, .nil, r => r
  | _, _, _, _, .cons a b, r => .cons a (Reps.append b r)
theorem Reps.take : ∀ {vs : List V} {ds : List PyData} (n : Nat), Reps K F H vs ds → Reps K F H (vs.take n) (ds.take n)
  | _, _, 0, _ => .nil
  | _, _, _ + 1, .nil => .nil
  | _, _, n + 1, .cons a b => .cons a (Reps.take n b)
theorem Reps.drop : ∀ {vs : List V} {ds : List PyData} (n : Nat), Reps K F H vs ds → Reps K F H (vs.drop n) (ds.drop n)
  | _, _, 0, r => r
  | _, _, _ + 1, .nil => .nil
  | _, _, n + 1, .cons _ b => Reps.drop n b
theorem Reps.reverse : ∀ {vs : List V} {ds : List PyData}, Reps K F H vs ds → Reps K F H vs.reverse ds.reverse
  | _, _, .nil => .nil
  | _, _, .cons a b => by rw [List.reverse_cons, List.reverse_cons]; exact (Reps.reverse b).append (.cons a .nil)
theorem Reps.set {v : V} {d : PyData} (a : Rep K F H v d) : ∀ {vs : List V} {ds : List PyData} (i : Nat), Reps K F H vs ds → Reps K F H (vs.set i v) (ds.set i d)
  | _, _, _, .nil => .nil
  | _, _, 0, .cons _ b => .cons a b
  | _, _, i + 1, .cons c b => .cons c (Reps.set a i b)
theorem Reps.eraseIdx : ∀ {vs : List V} {ds : List PyData} (i : Nat), Reps K F H vs ds → Reps K F H (vs.eraseIdx i) (ds.eraseIdx i)
  | _, _, _, .nil => .nil
  | _, _, 0, .cons _ b => b
  | _, _, i + 1, .cons c b => .cons c (Reps.eraseIdx i b)
end

/-! ### data out of the concrete heap -/
mutual
def hasL : PyData → Bool
  | .none | .bool _ | .int _ | .str _ => false
  | .list _ => true
  | .tuple xs => hasLs xs
  | .dict kvs => hasLk kvs
def hasLs : List PyData → Bool
  | [] => false
  | x :: xs => hasL x || hasLs xs
def hasLk : List (PyData × PyData) → Bool
  | [] => false
  | (x, y) :: xs => hasL x || hasL y || hasLk xs
end
theorem hasLk_split : ∀ {es : List (PyData × PyData)}, hasLk es = false → hasLs (es.map (·.1)) = false ∧ hasLs (es.map (·.2)) = false
  | [], _ => ⟨rfl, rfl⟩
  | (x, y) :: es, h => by
    simp only [hasLk, Bool.or_eq_false_iff] at h
    obtain ⟨a, b⟩ := hasLk_split h.2
    simp only [List.map_cons, hasLs, Bool.or_eq_false_iff]
    exact ⟨⟨h.1.1, a⟩, ⟨h.1.2, b⟩⟩
theorem keyVals : ∀ {kvs : List (Key × V)} {vs : List (Key × Value)} {es : List DictEntry} {P : Program} {w : World}, KV kvs vs → Pairs (mixKind P w) es vs →
    Vals (kvs.map fun p => kV p.1) (es.map (·.key)) ∧ Vals (kvs.map (·.2)) (es.map (·.val))
  | _, _, _, _, _, .nil, h => by
    cases h
    exact ⟨.nil, .nil⟩
  | _, _, _, _, _, .cons (a := p) (b := q) r t, h => by
    cases h with
    | cons hk hv hp =>
      obtain ⟨h1, h2⟩ := keyVals t hp
      refine ⟨.cons ?_ h1, .cons ?_ h2⟩
      · rcases keyIs_shape hk with ⟨i, t, e1, e2⟩ | ⟨x, t, e1, e2⟩
        · dsimp only; rw [r.1, e1, e2]; exact ⟨t, rfl⟩
        · dsimp only; rw [r.1, e1, e2]; exact ⟨t, rfl⟩
      · dsimp only; rw [hv]; exact r.2

section
variable {X : Cx} {pins : List (Addr × Obj)} {σ : L2.St} {F : Fz} {H : Hp} {s : Shared}
mutual
theorem Rep.reads (I : Inv X pins σ H s) : ∀ {v : V} {d : PyData} {u : Value}, Rep X.kw F H v d → RelV v u → ∃ as, Reads s.heap u d as ∧ (hasL d = false → sysModules ∉ as)
  | _, _, _, .non, r => by cases r; exact ⟨_, Reads.none, fun _ h => nomatch h⟩
  | _, _, _, .bl b, r => by cases r; exact ⟨_, Reads.bool b, fun _ h => nomatch h⟩
  | _, _, _, .int i, r => by obtain ⟨t, rfl⟩ := r; exact ⟨_, Reads.int i t, fun _ h => nomatch h⟩
  | _, _, _, .str x, r => by obtain ⟨t, rfl⟩ := r; exact ⟨_, Reads.str x t, fun _ h => nomatch h⟩
  | _, _, _, .tup h q, r => by
    cases r
    obtain ⟨its, rv, ⟨o, ho, hc, n, hd⟩, _⟩ := I.tuple h.sq
    obtain ⟨as, hr, hn⟩ := Reps.reads I q rv
    exact ⟨_, Reads.tuple ho hc hd hr, fun e => hn (by simpa only [hasL] using e)⟩
  | _, _, _, .lst h q, r => by
    cases r
    obtain ⟨its, rv, ⟨o, n, ho, hc, _, hd⟩, _⟩ := I.list h.sq
    obtain ⟨as, hr, hn⟩ := Reps.reads I q rv
    exact ⟨_, Reads.list ho hc hd hr, fun e => by simp only [hasL] at e; cases e⟩
  | _, _, _, .dct (a := a) h1 h2 q1 q2, r => by
    cases r
    obtain ⟨_, hs, vs, rk, o, es, ep, ho, hx, hd, ha, hp, _⟩ := dk_of I.hok h2
    obtain ⟨r1, r2⟩ := keyVals rk hp
    obtain ⟨as, hr1, hn1⟩ := Reps.reads I q1 r1
    obtain ⟨bs, hr2, hn2⟩ := Reps.reads I q2 r2
    refine ⟨_, Reads.dict ho hx.1 hd hr1 hr2, fun e => ?_⟩
    obtain ⟨e1, e2⟩ := hasLk_split (by simpa only [hasL] using e)
    intro hm
    rcases List.mem_append.mp hm with hm | hm
    · rcases List.mem_cons.mp hm with hm | hm
      · rw [← hm] at hs; simp at hs
      · exact hn1 e1 hm
    · exact hn2 e2 hm
theorem Reps.reads (I : Inv X pins σ H s) : ∀ {vs : List V} {ds : List PyData} {us : List Value}, Reps X.kw F H vs ds → Vals vs us → ∃ as, ReadsAll s.heap us ds as ∧ (hasLs ds = false → sysModules ∉ as)
  | _, _, _, .nil, r => by cases r; exact ⟨_, ReadsAll.nil, fun _ h => nomatch h⟩
  | _, _, _, .cons a b, r => by
    cases r with
    | cons r1 r2 =>
      obtain ⟨as, q1, n1⟩ := Rep.reads I a r1
      obtain ⟨bs, q2, n2⟩ := Reps.reads I b r2
      refine ⟨_, ReadsAll.cons q1 q2, fun e => ?_⟩
      simp only [hasLs, Bool.or_eq_false_iff] at e
      intro hm
      rcases List.mem_append.mp hm with hm | hm
      · exact n1 e.1 hm
      · exact n2 e.2 hm
end
end
end DE
end
section
set_option Elab.async false
set_option linter.all false
set_option maxRecDepth 100000
set_option maxHeartbeats 1000000
/-! the evaluator's words -/
namespace DE
open PySem PySem.Spec PyProof.Rows L2

abbrev Ev (α : Type) := Sg → MH → Option (α × MH)

/-- read as data -/
def rd (h : MH) : Val → Option PyData
  | .t d => some d
  | .r n => match h[n]? with
    | some (.l ds) => some (.list ds)
    | some (.d kvs) => some (.dict kvs)
    | some (.f d) => some d
    | some (.e _) => none
    | none => none
  | .tp _ _ _ => none
def rds (h : MH) : List Val → Option (List PyData)
  | [] => some []
  | v :: vs => match rd h v with
    | none => none
    | some d => match rds h vs with
      | none => none
      | some ds => some (d :: ds)
/-- fixed from now on -/
def fz (h : MH) : Val → Option (PyData × MH)
  | .t d => some (d, h)
  | .r n => match h[n]? with
    | some (.l ds) => some (.list ds, h.set n (.f (.list ds)))
    | some (.d kvs) => some (.dict kvs, h.set n (.f (.dict kvs)))
    | some (.f d) => some (d, h)
    | some (.e _) => none
    | none => none
  | .tp _ _ _ => none
def fzs (h : MH) : List Val → Option (List PyData × MH)
  | [] => some ([], h)
  | v :: vs => match fz h v with
    | none => none
    | some (d, h1) => match fzs h1 vs with
      | none => none
      | some (ds, h2) => some (d :: ds, h2)
/-- a new thing: changeable, if that is wanted -/
def mk (m : Bool) (d : PyData) (h : MH) : Val × MH :=
  match m, d with
  | true, .list ds => (.r h.length, h ++ [.l ds])
  | true, .dict kvs => (.r h.length, h ++ [.d kvs])
  | _, d => (.t d, h)

/-! ### expressions -/
def eC (d : PyData) : Ev Val := fun _ h => some (.t d, h)
def eV (i : Nat) : Ev Val := fun σ h => match σ[i]? with
  | some (some v) => some (v, h)
  | _ => none
def aNil : Ev (List Val) := fun _ h => some ([], h)
def aCons (a : Ev Val) (b : Ev (List Val)) : Ev (List Val) := fun σ h => match a σ h with
  | none => none
  | some (v, h1) => match b σ h1 with
    | none => none
    | some (vs, h2) => some (v :: vs, h2)
/-- an operation by what the operands read as -/
def e1 (m : Bool) (g : PyData → Option PyData) (a : Ev Val) : Ev Val := fun σ h => match a σ h with
  | none => none
  | some (x, h1) => match rd h1 x with
    | none => none
    | some d => match g d with
      | none => none
      | some r => some (mk m r h1)
def e2 (m : Bool) (g : PyData → PyData → Option PyData) (a b : Ev Val) : Ev Val := fun σ h => match a σ h with
  | none => none
  | some (x, h1) => match b σ h1 with
    | none => none
    | some (y, h2) => match rd h2 x with
      | none => none
      | some d => match rd h2 y with
        | none => none
        | some e => match g d e with
          | none => none
          | some r => some (mk m r h2)
def eN (m : Bool) (g : List PyData → Option PyData) (as : Ev (List Val)) : Ev Val := fun σ h => match as σ h with
  | none => none
  | some (vs, h1) => match rds h1 vs with
    | none => none
    | some ds => match g ds with
      | none => none
      | some r => some (mk m r h1)
/-- displays -/
def eTup (as : Ev (List Val)) : Ev Val := fun σ h => match as σ h with
  | none => none
  | some (vs, h1) => match fzs h1 vs with
    | none => none
    | some (ds, h2) => if ds.length ≤ sizeLine then some (.t (.tuple ds), h2) else none
def eLst (m : Bool) (as : Ev (List Val)) : Ev Val := fun σ h => match as σ h with
  | none => none
  | some (vs, h1) => match fzs h1 vs with
    | none => none
    | some (ds, h2) => if ds.length ≤ sizeLine then some (mk m (.list ds) h2) else none
def eDct (m : Bool) (ks : List Str) (as : Ev (List Val)) : Ev Val := fun σ h => match as σ h with
  | none => none
  | some (vs, h1) => match fzs h1 vs with
    | none => none
    | some (ds, h2) => if ds.length = ks.length then some (mk m (.dict ((ks.map PyData.str).zip ds)) h2) else none
def asB : Val → Option Bool
  | .t (.bool b) => some b
  | _ => none
def eAnd (a b : Ev Val) : Ev Val := fun σ h => match a σ h with
  | none => none
  | some (x, h1) => match asB x with
    | none => none
    | some true => b σ h1
    | some false => some (.t (.bool false), h1)
def eOr (a b : Ev Val) : Ev Val := fun σ h => match a σ h with
  | none => none
  | some (x, h1) => match asB x with
    | none => none
    | some true => some (.t (.bool true), h1)
    | some false => b σ h1
def eNot (a : Ev Val) : Ev Val := fun σ h => match a σ h with
  | none => none
  | some (x, h1) => match asB x with
    | none => none
    | some c => some (.t (.bool !c), h1)
/-! ### tests -/
def tru : PyData → Bool
  | .none => false
  | .bool b => b
  | .int i => i != 0
  | .str x => x.length != 0
  | .list xs => !xs.isEmpty
  | .tuple xs => !xs.isEmpty
  | .dict xs => !xs.isEmpty
def tB (a : Ev Val) : Ev Bool := fun σ h => match a σ h with
  | none => none
  | some (x, h1) => match asB x with
    | none => none
    | some c => some (c, h1)
def tAnd (a b : Ev Bool) : Ev Bool := fun σ h => match a σ h with
  | none => none
  | some (true, h1) => b σ h1
  | some (false, h1) => some (false, h1)
def tOr (a b : Ev Bool) : Ev Bool := fun σ h => match a σ h with
  | none => none
  | some (true, h1) => some (true, h1)
  | some (false, h1) => b σ h1
def tNot (a : Ev Bool) : Ev Bool := fun σ h => match a σ h with
  | none => none
  | some (c, h1) => some (!c, h1)
def tYes : Ev Bool := fun _ h => some (true, h)
def eIf (t : Ev Bool) (a b : Ev Val) : Ev Val := fun σ h => match t σ h with
  | none => none
  | some (true, h1) => a σ h1
  | some (false, h1) => b σ h1
/-- a < b < c -/
def eChain (g g' : PyData → PyData → Option PyData) (a b c : Ev Val) : Ev Val := fun σ h => match a σ h with
  | none => none
  | some (x, h1) => match b σ h1 with
    | none => none
    | some (y, h2) => match rd h2 x with
      | none => none
      | some d => match rd h2 y with
        | none => none
        | some e => match g d e with
          | some (.bool true) => (match c σ h2 with
            | none => none
            | some (z, h3) => match rd h3 y with
              | none => none
              | some e' => match rd h3 z with
                | none => none
                | some f => match g' e' f with
                  | some (.bool r) => some (.t (.bool r), h3)
                  | _ => none)
          | some (.bool false) => some (.t (.bool false), h2)
          | _ => none
/-! ### loops -/
def wipeS (σ : Sg) : List Nat → Sg
  | [] => σ
  | v :: vs => (wipeS σ vs).set v none
def compGo (bind : PyData → Sg → Option Sg) (σ : Sg) (tst : Ev Bool) (elt : Ev Val) : List PyData → List PyData → MH → Option (List PyData × MH)
  | [], acc, h => some (acc, h)
  | d :: ds, acc, h => match bind d σ with
    | none => none
    | some σ2 => match tst σ2 h with
      | none => none
      | some (false, h1) => compGo bind σ tst elt ds acc h1
      | some (true, h1) => match elt σ2 h1 with
        | none => none
        | some (v, h2) => match fz h2 v with
          | none => none
          | some (e, h3) => compGo bind σ tst elt ds (acc ++ [e]) h3
def eComp (m : Bool) (it : Ev (List PyData)) (bind : PyData → Sg → Option Sg) (own : List Nat) (tst : Ev Bool) (elt : Ev Val) : Ev Val := fun σ h => match it σ h with
  | none => none
  | some (ds, h1) => if ds.length ≤ sizeLine then (match compGo bind (wipeS σ own) tst elt ds [] h1 with
    | none => none
    | some (acc, h2) => some (mk m (.list acc) h2)) else none
def bName (i : Nat) (d : PyData) (σ : Sg) : Option Sg := some (σ.set i (some (.t d)))
/-! ### statements -/
inductive Out where
  | nx (σ : Sg) (h : MH)
  | rt (v : Val) (h : MH)
  | bk (σ : Sg) (h : MH)
  | ct (σ : Sg) (h : MH)
abbrev Ex1 := Sg → MH → Option Out
def sNil : Ex1 := fun σ h => some (.nx σ h)
def sSeq (a b : Ex1) : Ex1 := fun σ h => match a σ h with
  | some (.nx σ1 h1) => b σ1 h1
  | o => o
def sSet (i : Nat) (a : Ev Val) : Ex1 := fun σ h => match a σ h with
  | none => none
  | some (v, h1) => some (.nx (σ.set i (some v)) h1)
def sExpr (a : Ev Val) : Ex1 := fun σ h => match a σ h with
  | none => none
  | some (_, h1) => some (.nx σ h1)
def sRet (a : Ev Val) : Ex1 := fun σ h => match a σ h with
  | none => none
  | some (v, h1) => some (.rt v h1)
def sIf (t : Ev Bool) (a b : Ex1) : Ex1 := fun σ h => match t σ h with
  | none => none
  | some (true, h1) => a σ h1
  | some (false, h1) => b σ h1
def forGo (bind : PyData → Sg → Option Sg) (body : Ex1) : List PyData → Sg → MH → Option Out
  | [], σ, h => some (.nx σ h)
  | d :: ds, σ, h => match bind d σ with
    | none => none
    | some σ2 => match body σ2 h with
      | none => none
      | some (.nx σ3 h3) => forGo bind body ds σ3 h3
      | some (.ct σ3 h3) => forGo bind body ds σ3 h3
      | some (.bk σ3 h3) => some (.nx σ3 h3)
      | some (.rt v h3) => some (.rt v h3)
def sFor (it : Ev (List PyData)) (bind : PyData → Sg → Option Sg) (body : Ex1) : Ex1 := fun σ h => match it σ h with
  | none => none
  | some (ds, h1) => forGo bind body ds σ h1
def whileGo (t : Ev Bool) (body : Ex1) : Nat → Sg → MH → Option Out
  | 0, _, _ => none
  | n + 1, σ, h => match t σ h with
    | none => none
    | some (false, h1) => some (.nx σ h1)
    | some (true, h1) => match body σ h1 with
      | none => none
      | some (.nx σ3 h3) => whileGo t body n σ3 h3
      | some (.ct σ3 h3) => whileGo t body n σ3 h3
      | some (.bk σ3 h3) => some (.nx σ3 h3)
      | some (.rt v h3) => some (.rt v h3)
/-- a changeable thing at a place is changed: by its data, the arguments' data; what it gives -/
def eMut (g : MO → List PyData → Option (PyData × MO)) (x : Ev Val) (as : Ev (List Val)) : Ev Val := fun σ h => match x σ h with
  | some (.r n, h1) => (match as σ h1 with
    | none => none
    | some (vs, h2) => match fzs h2 vs with
      | none => none
      | some (ds, h3) => match h3[n]? with
        | none => none
        | some o => match g o ds with
          | none => none
          | some (d, o') => some (.t d, h3.set n o'))
  | _ => none
/-- x[k] = e: the value first -/
def sPut (g : MO → PyData → PyData → Option MO) (x k e : Ev Val) : Ex1 := fun σ h => match e σ h with
  | none => none
  | some (v, h1) => match x σ h1 with
    | some (.r n, h2) => (match k σ h2 with
      | none => none
      | some (kv, h3) => match rd h3 kv with
        | none => none
        | some kd => match fz h3 v with
          | none => none
          | some (d, h4) => match h4[n]? with
            | none => none
            | some o => match g o kd d with
              | none => none
              | some o' => some (.nx σ (h4.set n o')))
    | _ => none
/-! ### calls of own defs -/
def refsOf : List Val → List Nat
  | [] => []
  | .r n :: vs => if n ∈ refsOf vs then refsOf vs else n :: refsOf vs
  | _ :: vs => refsOf vs
def subHp (h : MH) : List Nat → Option MH
  | [] => some []
  | n :: ns => match h[n]? with
    | none => none
    | some o => match subHp h ns with
      | none => none
      | some r => some (o :: r)
def ren (ns : List Nat) : Val → Option Val
  | .t d => some (.t d)
  | .r n => some (.r (ns.idxOf n))
  | .tp _ _ _ => none
def rens (ns : List Nat) : List Val → Option (List Val)
  | [] => some []
  | v :: vs => match ren ns v with
    | none => none
    | some x => match rens ns vs with
      | none => none
      | some r => some (x :: r)
def backHp (h : MH) : List Nat → MH → MH
  | n :: ns, o :: os => (backHp h ns os).set n o
  | _, _ => h
abbrev Fn := List Val → MH → Option (Val × MH)
/-- a call: the callee sees the things that are handed in, and nothing else -/
def callIn (f : Fn) (vs : List Val) (h : MH) : Option (Val × MH) :=
  let ns := refsOf vs
  match subHp h ns with
  | none => none
  | some sub => match rens ns vs with
    | none => none
    | some ws => match f ws sub with
      | none => none
      | some (.t d, sub') => some (.t d, backHp h ns sub')
      | some (.r j, sub') => (match ns[j]? with
        | some n => some (.r n, backHp h ns sub')
        | none => match sub'[j]? with
          | none => none
          | some o => some (.r h.length, backHp h ns sub' ++ [o]))
      | some (.tp ds j es, sub') => (match ns[j]? with
        | some _ => none
        | none => match sub'[j]? with
          | none => none
          | some o => some (.tp ds h.length es, backHp h ns sub' ++ [o]))
def eCall (f : Fn) (as : Ev (List Val)) : Ev Val := fun σ h => match as σ h with
  | none => none
  | some (vs, h1) => callIn f vs h1
/-- a def's body at its arguments -/
def runFn (slots : Nat) (body : Ex1) : Fn := fun vs h => match body (vs.map some ++ List.replicate (slots - vs.length) none) h with
  | some (.rt v h1) => some (v, h1)
  | some (.nx _ h1) => some (.t .none, h1)
  | _ => none
end DE
end
section
set_option Elab.async false
set_option linter.all false
set_option maxRecDepth 100000
set_option maxHeartbeats 1000000
/-! how the evaluator's states lie in the abstract heap -/
namespace DE
open PySem PySem.Spec PyProof.Rows L2

section
variable (K : KW) (F : Fz) (β : List Addr) (H : Hp)
/-- a dict's entries -/
def DR (kvs : List (Key × V)) (es : List (PyData × PyData)) : Prop := Reps K F H (kvs.map fun p => kV p.1) (es.map (·.1)) ∧ Reps K F H (kvs.map (·.2)) (es.map (·.2))
mutual
def nk : PyData → Option NestedKey
  | .none => some .none
  | .int i => some (.num i)
  | .str x => some (.text x)
  | .tuple ds => (nks ds).map .tup
  | _ => none
def nks : List PyData → Option (List NestedKey)
  | [] => some []
  | d :: ds => (match nk d, nks ds with
    | some k, some ks => some (k :: ks)
    | _, _ => none)
end
/-- a dict with tuples as keys -/
abbrev EDk (w : World) (a : Addr) (xs : List (NestedKey × Addr × V)) : HO := .ext fun h => (a == sysModules) = false ∧ xs.length ≤ sizeLine ∧ (xs.map (·.1)).Nodup ∧
  ∃ o es ep, h.get? a = some o ∧ o.ExactDict ∧ o.data = .dict es ep ∧ Paired (fun (x : NestedKey × Addr × V) (e : DictEntry) => e.hash = x.1.hash w ∧ e.key = .ref x.2.1 ∧ RelV x.2.2 e.val) xs es.toList
structure ER (xs : List (NestedKey × Addr × V)) (es : List (PyData × PyData)) : Prop where
  k : Reps K F H (xs.map fun x => .ref x.2.1) (es.map (·.1))
  v : Reps K F H (xs.map (·.2.2)) (es.map (·.2))
  n : es.map (fun e => nk e.1) = xs.map fun x => some x.1
  t : ∀ e ∈ es, ∃ ds, e.1 = .tuple ds
  d : ∀ x ∈ xs, x.1.depth ≤ 8
def OR (a : Addr) : MO → Prop
  | .l ds => ¬ F a ∧ ∃ vs, H a = some (.lst vs) ∧ Reps K F H vs ds
  | .d es => ¬ F a ∧ ∃ kvs, H a = some (.dK kvs) ∧ DR K F H kvs es
  | .f d => F a ∧ Rep K F H (.ref a) d
  | .e es => ¬ F a ∧ ∃ xs, H a = some (EDk K.w a xs) ∧ ER K F H xs es
structure HS (h : MH) : Prop where
  len : β.length = h.length
  nd : β.Nodup
  obj : ∀ (n : Nat) a o, β[n]? = some a → h[n]? = some o → OR K F H a o
  fzd : ∀ a, F a → ∃ o, H a = some o
def RV (v : V) : Val → Prop
  | .t d => Rep K F H v d
  | .r n => ∃ a, β[n]? = some a ∧ v = .ref a
  | .tp ds n es => ∃ a b us ws, v = .ref a ∧ TX K H a (us ++ .ref b :: ws) ∧ Reps K F H us ds ∧ β[n]? = some b ∧ Reps K F H ws es
inductive RVs : List V → List Val → Prop
  | nil : RVs [] []
  | cons {v : V} {vs : List V} {x : Val} {xs : List Val} : RV K F β H v x → RVs vs xs → RVs (v :: vs) (x :: xs)
def SR (σc : L2.St) (σ : Sg) : Prop := σc.length = σ.length ∧ ∀ (i : Nat) x, σ[i]? = some (some x) → ∃ v, σc[i]? = some (some v) ∧ RV K F β H v x
end

structure Ext (F : Fz) (β : List Addr) (H : Hp) (F' : Fz) (β' : List Addr) (H' : Hp) : Prop where
  ex : Ex F H F' H'
  pre : ∀ (n : Nat) a, β[n]? = some a → β'[n]? = some a
  bnew : ∀ (n : Nat) a, β'[n]? = some a → β[n]? = some a ∨ H a = none
  fnew : ∀ a, F' a → F a ∨ H a = none ∨ a ∈ β
  frame : ∀ a o, H a = some o → ¬ F a → a ∉ β → H' a = some o

theorem nodup_at {α : Type} {N : List α} (hN : N.Nodup) {i j : Nat} {x : α} (a : N[i]? = some x) (b : N[j]? = some x) : i = j := by
  obtain ⟨h1, e1⟩ := List.getElem?_eq_some_iff.mp a
  obtain ⟨h2, e2⟩ := List.getElem?_eq_some_iff.mp b
  exact (List.getElem_inj hN).mp (e1.trans e2.symm)
section
variable {K : KW} {F F' F1 F2 : Fz} {β β' β1 β2 : List Addr} {H H' H1 H2 : Hp} {h h' : MH}
theorem Ext.refl : Ext F β H F β H := ⟨.refl, fun _ _ e => e, fun _ _ e => .inl e, fun _ e => .inl e, fun _ _ e _ _ => e⟩
theorem Ext.bmem (e : Ext F β H F' β' H') {a : Addr} (h : a ∈ β') : a ∈ β ∨ H a = none := by
  obtain ⟨n, hn⟩ := List.mem_iff_getElem?.mp h
  rcases e.bnew n a hn with q | q
  · exact .inl (List.mem_iff_getElem?.mpr ⟨n, q⟩)
  · exact .inr q
theorem Ext.bsub (e : Ext F β H F' β' H') {a : Addr} (h : a ∈ β) : a ∈ β' := by
  obtain ⟨n, hn⟩ := List.mem_iff_getElem?.mp h
  exact List.mem_iff_getElem?.mpr ⟨n, e.pre n a hn⟩
/-- what isn't tracked behind wasn't ahead -/
theorem Ext.unt (e : Ext F β H F' β' H') (hb : ∀ a ∈ β, ∃ o, H' a = some o) {a : Addr} (h : H' a = none) : H a = none := by
  cases q : H a with
  | none => rfl
  | some o =>
    exfalso
    by_cases hf : F a
    · rw [e.ex.keep a hf, q] at h; cases h
    · by_cases hm : a ∈ β
      · obtain ⟨o', ho⟩ := hb a hm
        rw [h] at ho; cases ho
      · rw [e.frame a o q hf hm] at h; cases h
theorem HS.trk (s : HS K F β H h) {a : Addr} (hm : a ∈ β) : ∃ o, H a = some o := by
  obtain ⟨n, hn⟩ := List.mem_iff_getElem?.mp hm
  have hl : n < h.length := by rw [← s.len]; exact (List.getElem?_eq_some_iff.mp hn).1
  have q := s.obj n a h[n] hn (List.getElem?_eq_getElem hl)
  cases e : h[n] with
  | l ds => rw [e] at q; obtain ⟨_, vs, q, _⟩ := q; exact ⟨_, q⟩
  | d es => rw [e] at q; obtain ⟨_, vs, q, _⟩ := q; exact ⟨_, q⟩
  | e es => rw [e] at q; obtain ⟨_, vs, q, _⟩ := q; exact ⟨_, q⟩
  | f d => rw [e] at q; exact s.fzd a q.1
theorem Ext.trans (a : Ext F β H F1 β1 H1) (b : Ext F1 β1 H1 F2 β2 H2) (hb : ∀ c ∈ β, ∃ o, H1 c = some o) : Ext F β H F2 β2 H2 := by
  have nn : ∀ c, H1 c = none → H c = none := fun c q => a.unt hb q
  refine ⟨a.ex.trans b.ex, fun n c e => b.pre n c (a.pre n c e), fun n c e => ?_, fun c e => ?_, fun c o e hf hm => ?_⟩
  · rcases b.bnew n c e with q | q
    · exact a.bnew n c q
    · exact .inr (nn c q)
  · rcases b.fnew c e with q | q | q
    · exact a.fnew c q
    · exact .inr (.inl (nn c q))
    · rcases a.bmem q with q | q
      · exact .inr (.inr q)
      · exact .inr (.inl q)
  · refine b.frame c o (a.frame c o e hf hm) (fun z => ?_) (fun z => ?_)
    · rcases a.fnew c z with q | q | q
      · exact hf q
      · rw [e] at q; cases q
      · exact hm q
    · rcases a.bmem z with q | q
      · exact hm q
      · rw [e] at q; cases q
/-- for use: the middle state is held -/
theorem Ext.seq (a : Ext F β H F1 β1 H1) (s : HS K F1 β1 H1 h) (b : Ext F1 β1 H1 F2 β2 H2) : Ext F β H F2 β2 H2 := a.trans b fun _ hm => s.trk (a.bsub hm)
theorem DR.ex {kvs : List (Key × V)} {es : List (PyData × PyData)} (e : Ex F H F' H') (r : DR K F H kvs es) : DR K F' H' kvs es := ⟨Reps.ex e r.1, Reps.ex e r.2⟩
theorem ER.ex {xs : List (NestedKey × Addr × V)} {es : List (PyData × PyData)} (e : Ex F H F' H') (r : ER K F H xs es) : ER K F' H' xs es := ⟨Reps.ex e r.k, Reps.ex e r.v, r.n, r.t, r.d⟩
theorem RV.ext {v : V} {x : Val} (e : Ext F β H F' β' H') (r : RV K F β H v x) : RV K F' β' H' v x := by
  cases x with
  | t d => exact Rep.ex e.ex r
  | r n => obtain ⟨a, h1, h2⟩ := r; exact ⟨a, e.pre n a h1, h2⟩
  | tp ds n es => obtain ⟨a, b, us, ws, h1, h2, h3, h4, h5⟩ := r; exact ⟨a, b, us, ws, h1, h2.ex e.ex, Reps.ex e.ex h3, e.pre n b h4, Reps.ex e.ex h5⟩
theorem RVs.ext (e : Ext F β H F' β' H') : ∀ {vs : List V} {xs : List Val}, RVs K F β H vs xs → RVs K F' β' H' vs xs
  | _, _, .nil => .nil
  | _, _, .cons a b => .cons (a.ext e) (RVs.ext e b)
theorem SR.ext {σc : L2.St} {σ : Sg} (e : Ext F β H F' β' H') (r : SR K F β H σc σ) : SR K F' β' H' σc σ :=
  ⟨r.1, fun i x q => let ⟨v, h1, h2⟩ := r.2 i x q; ⟨v, h1, h2.ext e⟩⟩
/-- the changeable things are as they were -/
theorem HS.keep (s : HS K F β H h) (e : Ext F β H F' β' H') (hb : β' = β) (hk : ∀ a ∈ β, H' a = H a) (hf : ∀ a ∈ β, F' a → F a) (ht : ∀ a, F' a → ∃ o, H' a = some o) : HS K F' β' H' h := by
  subst hb
  refine ⟨s.len, s.nd, fun n a o h1 h2 => ?_, ht⟩
  have q := s.obj n a o h1 h2
  have hm : a ∈ β' := List.mem_iff_getElem?.mpr ⟨n, h1⟩
  cases o with
  | l ds => obtain ⟨nf, vs, q1, q2⟩ := q; exact ⟨fun z => nf (hf a hm z), vs, (hk a hm).trans q1, Reps.ex e.ex q2⟩
  | d es => obtain ⟨nf, vs, q1, q2⟩ := q; exact ⟨fun z => nf (hf a hm z), vs, (hk a hm).trans q1, q2.ex e.ex⟩
  | e es => obtain ⟨nf, vs, q1, q2⟩ := q; exact ⟨fun z => nf (hf a hm z), vs, (hk a hm).trans q1, q2.ex e.ex⟩
  | f d => exact ⟨e.ex.mono a q.1, Rep.ex e.ex q.2⟩
/-- a new thing is laid -/
theorem HS.ex_new (s : HS K F β H h) {p : Addr} {o : HO} (hp : H p = none) (G : Fz) (hG : ∀ a, F a → G a) : Ex F H G (upd H p o) :=
  ⟨hG, fun a hf => upd_ne (fun z => by obtain ⟨u, q⟩ := s.fzd a hf; rw [z, hp] at q; cases q), fun a xs q => by rw [upd_ne (ne_of_none q hp)]; exact q, fun a x u q => by rw [upd_ne (ne_of_none q hp)]; exact q⟩
theorem HS.ext_new (s : HS K F β H h) {p : Addr} {o : HO} (hp : H p = none) : Ext F β H F β (upd H p o) :=
  ⟨s.ex_new hp F fun _ q => q, fun _ _ e => e, fun _ _ e => .inl e, fun _ e => .inl e, fun a u q _ _ => by rw [upd_ne (ne_of_none q hp)]; exact q⟩
theorem HS.new (s : HS K F β H h) {p : Addr} {o : HO} (hp : H p = none) : HS K F β (upd H p o) h :=
  s.keep (s.ext_new hp) rfl (fun a hm => upd_ne fun z => by obtain ⟨u, q⟩ := s.trk hm; rw [z, hp] at q; cases q) (fun _ _ q => q)
    fun a hf => by obtain ⟨u, q⟩ := s.fzd a hf; exact ⟨u, by rw [upd_ne (ne_of_none q hp)]; exact q⟩
/-- .. and fixed -/
theorem HS.ext_fix (s : HS K F β H h) {p : Addr} {o : HO} (hp : H p = none) : Ext F β H (fun a => F a ∨ a = p) β (upd H p o) :=
  ⟨s.ex_new hp _ fun _ q => .inl q, fun _ _ e => e, fun _ _ e => .inl e, fun a e => by rcases e with e | e; exact .inl e; subst e; exact .inr (.inl hp), fun a u q _ _ => by rw [upd_ne (ne_of_none q hp)]; exact q⟩
theorem HS.fix (s : HS K F β H h) {p : Addr} {o : HO} (hp : H p = none) : HS K (fun a => F a ∨ a = p) β (upd H p o) h :=
  s.keep (s.ext_fix hp) rfl (fun a hm => upd_ne fun z => by obtain ⟨u, q⟩ := s.trk hm; rw [z, hp] at q; cases q)
    (fun a hm q => by rcases q with q | q; exact q; subst q; obtain ⟨u, z⟩ := s.trk hm; rw [hp] at z; cases z)
    fun a hf => by
      rcases hf with hf | hf
      · obtain ⟨u, q⟩ := s.fzd a hf; exact ⟨u, by rw [upd_ne (ne_of_none q hp)]; exact q⟩
      · subst hf; exact ⟨o, upd_same⟩
/-- .. and changeable -/
theorem HS.ext_add (s : HS K F β H h) {p : Addr} {o : HO} (hp : H p = none) : Ext F β H F (β ++ [p]) (upd H p o) :=
  ⟨s.ex_new hp F fun _ q => q, fun n a e => by rw [List.getElem?_append_left (List.getElem?_eq_some_iff.mp e).1]; exact e,
    fun n a e => by
      by_cases hn : n < β.length
      · rw [List.getElem?_append_left hn] at e; exact .inl e
      · rw [List.getElem?_append_right (by omega)] at e
        have : a = p := by
          cases hk : n - β.length with
          | zero => rw [hk] at e; exact (Option.some.inj e).symm
          | succ k => rw [hk] at e; simp at e
        subst this; exact .inr hp,
    fun _ e => .inl e, fun a u q _ _ => by rw [upd_ne (ne_of_none q hp)]; exact q⟩
theorem HS.nmem (s : HS K F β H h) {p : Addr} (hp : H p = none) : p ∉ β := fun hm => by obtain ⟨u, q⟩ := s.trk hm; rw [hp] at q; cases q
theorem HS.nfix (s : HS K F β H h) {p : Addr} (hp : H p = none) : ¬ F p := fun hm => by obtain ⟨u, q⟩ := s.fzd p hm; rw [hp] at q; cases q
theorem HS.add (s : HS K F β H h) {p : Addr} {o : HO} {m : MO} (hp : H p = none) (hm : OR K F (upd H p o) p m) : HS K F (β ++ [p]) (upd H p o) (h ++ [m]) := by
  have s' := s.new (o := o) hp
  refine ⟨by simp [s.len], ?_, fun n a x h1 h2 => ?_, s'.fzd⟩
  · exact List.nodup_append.mpr ⟨s.nd, by simp, fun a ha b hb e => by simp at hb; subst hb; subst e; exact s.nmem hp ha⟩
  · by_cases hn : n < β.length
    · rw [List.getElem?_append_left hn] at h1
      rw [List.getElem?_append_left (by rw [← s.len]; exact hn)] at h2
      exact s'.obj n a x h1 h2
    · rw [List.getElem?_append_right (by omega)] at h1
      rw [List.getElem?_append_right (by rw [← s.len]; omega), ← s.len] at h2
      cases hk : n - β.length with
      | zero => rw [hk] at h1 h2; cases h1; cases h2; exact hm
      | succ k => rw [hk] at h1; simp at h1

/-! ### what is read -/
inductive RB (K : KW) (F : Fz) (H : Hp) : V → PyData → Prop
  | rep {v : V} {d : PyData} : Rep K F H v d → RB K F H v d
  | l {a : Addr} {vs : List V} {ds : List PyData} : H a = some (.lst vs) → Reps K F H vs ds → RB K F H (.ref a) (.list ds)
  | d {a : Addr} {kvs : List (Key × V)} {es : List (PyData × PyData)} : H a = some (.dK kvs) → DR K F H kvs es → RB K F H (.ref a) (.dict es)
inductive RBs (K : KW) (F : Fz) (H : Hp) : List V → List PyData → Prop
  | nil : RBs K F H [] []
  | cons {v : V} {vs : List V} {d : PyData} {ds : List PyData} : RB K F H v d → RBs K F H vs ds → RBs K F H (v :: vs) (d :: ds)
theorem RB.of_rd (s : HS K F β H h) {v : V} {x : Val} {d : PyData} (r : RV K F β H v x) (e : rd h x = some d) : RB K F H v d := by
  cases x with
  | t d' => cases e; exact .rep r
  | r n =>
    obtain ⟨a, h1, rfl⟩ := r
    simp only [rd] at e
    cases q : h[n]? with
    | none => rw [q] at e; cases e
    | some o =>
      have z := s.obj n a o h1 q
      rw [q] at e
      cases o with
      | l ds => cases e; obtain ⟨_, vs, z1, z2⟩ := z; exact .l z1 z2
      | d es => cases e; obtain ⟨_, vs, z1, z2⟩ := z; exact .d z1 z2
      | f d' => cases e; exact .rep z.2
      | e es => cases e
  | tp ds n es => cases e
theorem RBs.of_rds (s : HS K F β H h) : ∀ {vs : List V} {xs : List Val} {ds : List PyData}, RVs K F β H vs xs → rds h xs = some ds → RBs K F H vs ds
  | _, _, _, .nil, e => by cases e; exact .nil
  | _, _, ds, .cons (x := x) (xs := xs) a b, e => by
    simp only [rds] at e
    cases q : rd h x with
    | none => rw [q] at e; cases e
    | some d =>
      rw [q] at e
      cases q2 : rds h xs with
      | none => rw [q2] at e; cases e
      | some ds' => rw [q2] at e; cases e; exact .cons (.of_rd s a q) (RBs.of_rds s b q2)
theorem RB.list {v : V} {ds : List PyData} (r : RB K F H v (.list ds)) : ∃ a vs, v = .ref a ∧ SqL K H a vs ∧ Reps K F H vs ds := by
  cases r with
  | rep r => cases r with | lst h q => exact ⟨_, _, rfl, h.sq, q⟩
  | l h q => exact ⟨_, _, rfl, SqL.of h, q⟩
theorem RB.listR {v : V} {ds : List PyData} (r : RB K F H v (.list ds)) : ∃ a vs, v = .ref a ∧ RdL K H a vs ∧ Reps K F H vs ds := by
  cases r with
  | rep r => cases r with | lst h q => exact ⟨_, _, rfl, h.rd, q⟩
  | l h q => exact ⟨_, _, rfl, .inl (.inl h), q⟩
theorem RB.tup {v : V} {ds : List PyData} (r : RB K F H v (.tuple ds)) : ∃ a vs, v = .ref a ∧ TX K H a vs ∧ Reps K F H vs ds := by
  cases r with
  | rep r => cases r with | tup h q => exact ⟨_, _, rfl, h, q⟩
theorem RB.dict {v : V} {es : List (PyData × PyData)} (r : RB K F H v (.dict es)) : ∃ a kvs, v = .ref a ∧ H a = some (.dK kvs) ∧ DR K F H kvs es := by
  cases r with
  | rep r => cases r with | dct _ h q1 q2 => exact ⟨_, _, rfl, h, q1, q2⟩
  | d h q => exact ⟨_, _, rfl, h, q⟩
theorem RB.int {v : V} {i : Int} (r : RB K F H v (.int i)) : v = .int i := by cases r with | rep r => cases r; rfl
theorem RB.str {v : V} {i : Str} (r : RB K F H v (.str i)) : v = .str i := by cases r with | rep r => cases r; rfl
theorem RB.bool {v : V} {i : Bool} (r : RB K F H v (.bool i)) : v = .bl i := by cases r with | rep r => cases r; rfl
theorem RB.none {v : V} (r : RB K F H v .none) : v = .non := by cases r with | rep r => cases r; rfl

/-! ### what is got -/
def isLD : PyData → Bool
  | .list _ => true
  | .dict _ => true
  | _ => false
inductive Got (K : KW) (F : Fz) (nw : Bool) (H : Hp) : Hp → V → PyData → Prop
  | same {w : V} {r : PyData} : (nw = false ∨ isLD r = false) → Rep K F H w r → Got K F nw H H w r
  | tup {p : Addr} {o : Obj} {vs : List V} {ds : List PyData} : H p = none → o.dict = none → Reps K F H vs ds → Got K F nw H (upd H p (.frz o (.tup vs))) (.ref p) (.tuple ds)
  | lst {p : Addr} {vs : List V} {ds : List PyData} : H p = none → Reps K F H vs ds → Got K F nw H (upd H p (.lst vs)) (.ref p) (.list ds)
  | dct {p : Addr} {kvs : List (Key × V)} {es : List (PyData × PyData)} : H p = none → DR K F H kvs es → Got K F nw H (upd H p (.dK kvs)) (.ref p) (.dict es)
theorem mk_no {m : Bool} {r : PyData} (h : m = false ∨ isLD r = false) : mk m r h' = (.t r, h') := by
  cases m with
  | false => cases r <;> rfl
  | true => cases r <;> simp_all [mk, isLD]
theorem got_mk {nw m : Bool} (s : HS K F β H h) (hm : m = true → nw = true) {w : V} {r : PyData} (g : Got K F nw H H1 w r) :
    ∃ F' β', HS K F' β' H1 (mk m r h).2 ∧ Ext F β H F' β' H1 ∧ RV K F' β' H1 w (mk m r h).1 := by
  cases g with
  | same q r =>
    rw [mk_no (h' := h) (by cases m with | false => exact .inl rfl | true => rw [hm rfl] at q; simpa using q)]
    exact ⟨F, β, s, .refl, r⟩
  | tup hp ho q =>
    rw [mk_no (h' := h) (.inr rfl)]
    exact ⟨F, β, s.new hp, s.ext_new hp, .tup (.inl ⟨_, upd_same, ho⟩) (Reps.ex (s.ext_new hp).ex q)⟩
  | lst hp q =>
    cases m with
    | false => exact ⟨_, β, s.fix hp, s.ext_fix hp, .lst (.inl ⟨.inr rfl, upd_same⟩) (Reps.ex (s.ext_fix hp).ex q)⟩
    | true => exact ⟨F, _, s.add hp ⟨s.nfix hp, _, upd_same, Reps.ex (s.ext_new hp).ex q⟩, s.ext_add hp, _, by simp [s.len], rfl⟩
  | dct hp q =>
    cases m with
    | false => exact ⟨_, β, s.fix hp, s.ext_fix hp, .dct (.inr rfl) upd_same (Reps.ex (s.ext_fix hp).ex q.1) (Reps.ex (s.ext_fix hp).ex q.2)⟩
    | true => exact ⟨F, _, s.add hp ⟨s.nfix hp, _, upd_same, q.ex (s.ext_new hp).ex⟩, s.ext_add hp, _, by simp [s.len], rfl⟩

/-! ### fixing -/
theorem fz_ok (s : HS K F β H h) {v : V} {x : Val} {d : PyData} (r : RV K F β H v x) (e : fz h x = some (d, h')) :
    ∃ F', HS K F' β H h' ∧ Ext F β H F' β H ∧ Rep K F' H v d := by
  cases x with
  | t d' => cases e; exact ⟨F, s, .refl, r⟩
  | tp ds n es => cases e
  | r n =>
    obtain ⟨a, h1, rfl⟩ := r
    have hmem : a ∈ β := List.mem_iff_getElem?.mpr ⟨n, h1⟩
    have fin : ∀ d', (¬ F a) → (∃ o, H a = some o) → (∀ F' : Fz, F' a → (∀ b, F b → F' b) → Rep K F' H (.ref a) d') → ∃ F', HS K F' β H (h.set n (.f d')) ∧ Ext F β H F' β H ∧ Rep K F' H (.ref a) d' := fun d' nf hto hrep => by
      have ext : Ext F β H (fun b => F b ∨ b = a) β H := ⟨⟨fun _ q => .inl q, fun _ _ => rfl, fun _ _ q => q, fun _ _ _ q => q⟩, fun _ _ q => q, fun _ _ q => .inl q, fun b q => by rcases q with q | q; exact .inl q; subst q; exact .inr (.inr hmem), fun _ _ q _ _ => q⟩
      refine ⟨fun b => F b ∨ b = a, ⟨by simpa using s.len, s.nd, fun m b o q1 q2 => ?_, fun b q => ?_⟩, ext, hrep _ (.inr rfl) fun _ q => .inl q⟩
      · by_cases hmn : m = n
        · subst hmn
          rw [h1] at q1; cases q1
          have hl : m < h.length := by rw [← s.len]; exact (List.getElem?_eq_some_iff.mp h1).1
          rw [List.getElem?_set_self hl] at q2; cases q2
          exact ⟨.inr rfl, hrep _ (.inr rfl) fun _ q => .inl q⟩
        · rw [List.getElem?_set_ne (Ne.symm hmn)] at q2
          have q := s.obj m b o q1 q2
          have nb : b ≠ a := fun z => hmn (nodup_at s.nd q1 (by rw [z]; exact h1))
          cases o with
          | l ds => obtain ⟨nf', vs, z1, z2⟩ := q; exact ⟨fun z => z.elim nf' nb, vs, z1, Reps.ex ext.ex z2⟩
          | d es => obtain ⟨nf', vs, z1, z2⟩ := q; exact ⟨fun z => z.elim nf' nb, vs, z1, z2.ex ext.ex⟩
          | e es => obtain ⟨nf', vs, z1, z2⟩ := q; exact ⟨fun z => z.elim nf' nb, vs, z1, z2.ex ext.ex⟩
          | f d'' => exact ⟨.inl q.1, Rep.ex ext.ex q.2⟩
      · rcases q with q | q
        · exact s.fzd b q
        · subst q; exact hto
    simp only [fz] at e
    cases q : h[n]? with
    | none => rw [q] at e; cases e
    | some o =>
      have z := s.obj n a o h1 q
      rw [q] at e
      cases o with
      | l ds =>
        cases e
        obtain ⟨nf, vs, z1, z2⟩ := z
        exact fin _ nf ⟨_, z1⟩ fun F' hF hm => .lst (.inl ⟨hF, z1⟩) (Reps.ex ⟨hm, fun _ _ => rfl, fun _ _ q => q, fun _ _ _ q => q⟩ z2)
      | d es =>
        cases e
        obtain ⟨nf, vs, z1, z2⟩ := z
        have ex : ∀ F' : Fz, (∀ b, F b → F' b) → Ex F H F' H := fun F' hm => ⟨hm, fun _ _ => rfl, fun _ _ q => q, fun _ _ _ q => q⟩
        exact fin _ nf ⟨_, z1⟩ fun F' hF hm => .dct hF z1 (Reps.ex (ex F' hm) z2.1) (Reps.ex (ex F' hm) z2.2)
      | f d' => cases e; exact ⟨F, s, .refl, z.2⟩
      | e es => cases e
theorem fzs_ok : ∀ {vs : List V} {xs : List Val} {ds : List PyData} {F : Fz} {h h' : MH}, HS K F β H h → RVs K F β H vs xs → fzs h xs = some (ds, h') →
    ∃ F', HS K F' β H h' ∧ Ext F β H F' β H ∧ Reps K F' H vs ds
  | _, _, _, F, _, _, s, .nil, e => by cases e; exact ⟨F, s, .refl, .nil⟩
  | _, _, _, F, h, _, s, .cons (x := x) (xs := xs) a b, e => by
    simp only [fzs] at e
    cases q : fz h x with
    | none => rw [q] at e; cases e
    | some p =>
      obtain ⟨d, h1⟩ := p
      rw [q] at e
      cases q2 : fzs h1 xs with
      | none => simp only [q2] at e; cases e
      | some p2 =>
        obtain ⟨ds', h2⟩ := p2
        simp only [q2] at e
        cases e
        obtain ⟨F1, s1, e1, r1⟩ := fz_ok s a q
        obtain ⟨F2, s2, e2, r2⟩ := fzs_ok s1 (b.ext e1) q2
        exact ⟨F2, s2, e1.seq s1 e2, .cons (Rep.ex e2.ex r1) r2⟩
end
end DE
end
section
set_option Elab.async false
set_option linter.all false
set_option maxRecDepth 100000
set_option maxHeartbeats 1000000
/-! the layer's judgements read by the evaluator -/
namespace DE
open PySem PySem.Spec PyProof.Rows L2

section
variable (K : KW)
def tS (ev : Ev Val) : TE := fun σc H Q => ∃ F β σ h, HS K F β H h ∧ SR K F β H σc σ ∧ ∃ x h', ev σ h = some (x, h') ∧
  ∀ F' β' H' v, HS K F' β' H' h' → Ext F β H F' β' H' → RV K F' β' H' v x → Q v H'
def tSA (ev : Ev (List Val)) : TA := fun σc H Q => ∃ F β σ h, HS K F β H h ∧ SR K F β H σc σ ∧ ∃ xs h', ev σ h = some (xs, h') ∧
  ∀ F' β' H' vs, HS K F' β' H' h' → Ext F β H F' β' H' → RVs K F' β' H' vs xs → Q vs H'
def tST (ev : Ev Bool) : TT := fun σc H Q => ∃ F β σ h, HS K F β H h ∧ SR K F β H σc σ ∧ ∃ b h', ev σ h = some (b, h') ∧
  ∀ F' β' H', HS K F' β' H' h' → Ext F β H F' β' H' → Q b H'
/-- what a walk yields, while what was fixed stays -/
structure ItOk (w : Bool) (F : Fz) (H : Hp) (J : It) (ds : List PyData) : Prop where
  go : ∀ F2 H2, Ex F H F2 H2 → ∀ i d, ds[i]? = some d → J.go i H2
  yld : ∀ F2 H2, Ex F H F2 H2 → ∀ i d, ds[i]? = some d → ∀ x H3, J.yld i H2 x H3 → (H3 = H2 ∧ Rep K F2 H2 x d) ∨ w = true ∧ ∃ p vs es, H2 p = none ∧ H3 = upd H2 p (.tup vs) ∧ x = .ref p ∧ d = .tuple es ∧ Reps K F2 H2 vs es
  stop : ∀ F2 H2, Ex F H F2 H2 → J.stop ds.length H2
def tSI (w : Bool) (ev : Ev (List PyData)) : TI := fun σc H R => ∃ F β σ h, HS K F β H h ∧ SR K F β H σc σ ∧ ∃ ds h', ev σ h = some (ds, h') ∧
  ∀ F' β' H' J, HS K F' β' H' h' → Ext F β H F' β' H' → ItOk K w F' H' J ds → R J H'
def OutOk (F : Fz) (β : List Addr) (H : Hp) (D : Ends) : Out → Prop
  | .nx σ' h' => ∀ F' β' σc' H', HS K F' β' H' h' → SR K F' β' H' σc' σ' → Ext F β H F' β' H' → D.nx σc' H'
  | .bk σ' h' => ∀ F' β' σc' H', HS K F' β' H' h' → SR K F' β' H' σc' σ' → Ext F β H F' β' H' → D.bk σc' H'
  | .ct σ' h' => ∀ F' β' σc' H', HS K F' β' H' h' → SR K F' β' H' σc' σ' → Ext F β H F' β' H' → D.ct σc' H'
  | .rt x h' => ∀ F' β' H' v, HS K F' β' H' h' → Ext F β H F' β' H' → RV K F' β' H' v x → D.rt v H'
def tSS (ex : Ex1) : TS := fun D σc H => ∃ F β σ h, HS K F β H h ∧ SR K F β H σc σ ∧ ∃ o, ex σ h = some o ∧ OutOk K F β H D o
/-- operations by data -/
def rG1 (nw : Bool) (g : PyData → Option PyData) : V → Hp → VK → Prop := fun x H Q => ∃ F d r, RB K F H x d ∧ g d = some r ∧ ∀ w H1, Got K F nw H H1 w r → Q w H1
def rG2 (nw : Bool) (g : PyData → PyData → Option PyData) : R2 := fun x y H Q => ∃ F d e r, RB K F H x d ∧ RB K F H y e ∧ g d e = some r ∧ ∀ w H1, Got K F nw H H1 w r → Q w H1
def rGN (nw : Bool) (g : List PyData → Option PyData) : List V → Hp → VK → Prop := fun xs H Q => ∃ F ds r, RBs K F H xs ds ∧ g ds = some r ∧ ∀ w H1, Got K F nw H H1 w r → Q w H1
end

section
variable {K : KW} {X : Cx} {σc : L2.St} {H : Hp} {Q : VK}
theorem mk_eq {m : Bool} {r : PyData} {h1 h' : MH} {x : Val} (e : some (mk m r h1) = some (x, h')) : x = (mk m r h1).1 ∧ h' = (mk m r h1).2 := by
  rw [Option.some.inj e]; exact ⟨rfl, rfl⟩
theorem pe_mono {e : Expr} {t t' : TE} (h : PE X e t) (w : ∀ pins s σ H Q, Inv X pins σ H s → t' σ H Q → t σ H Q) : PE X e t' := ⟨fun pins s σ H Q I q => h.run pins s σ H Q I (w pins s σ H Q I q)⟩
theorem pt_mono {e : Expr} {t t' : TT} (h : PT X e t) (w : ∀ pins s σ H Q, Inv X pins σ H s → t' σ H Q → t σ H Q) : PT X e t' := ⟨fun pins s σ H Q I q => h.run pins s σ H Q I (w pins s σ H Q I q)⟩
theorem pw_mono {e : Expr} {t t' : TT} (h : PW X e t) (w : ∀ pins s σ H Q, Inv X pins σ H s → t' σ H Q → t σ H Q) : PW X e t' := ⟨fun wh pins s σ H Q I q => h.run wh pins s σ H Q I (w pins s σ H Q I q)⟩
theorem pa_mono {e : List Expr} {t t' : TA} (h : PA X e t) (w : ∀ pins s σ H Q, Inv X pins σ H s → t' σ H Q → t σ H Q) : PA X e t' := ⟨fun pos pins s σ H Q I q => h.run pos pins s σ H Q I (w pins s σ H Q I q)⟩
theorem ps_mono {e : Stmt} {t t' : TS} (h : PS X e t) (w : ∀ pins s σ H D, Inv X pins σ H s → t' D σ H → t D σ H) : PS X e t' := ⟨fun pins s σ H D I q => h.run pins s σ H D I (w pins s σ H D I q)⟩
theorem pss_mono {e : List Stmt} {t t' : TS} (h : PSs X e t) (w : ∀ pins s σ H D, Inv X pins σ H s → t' D σ H → t D σ H) : PSs X e t' := ⟨fun pins s σ H D I q => h.run pins s σ H D I (w pins s σ H D I q)⟩
theorem pi_mono {tg e : Expr} {t t' : TI} (h : PI X tg e t) (w : ∀ pins s σ H R, Inv X pins σ H s → t' σ H R → t σ H R) : PI X tg e t' := ⟨fun pins s σ H R I q => h.run pins s σ H R I (w pins s σ H R I q)⟩

/-! ### names, constants -/
theorem c_tr {v : V} {d : PyData} (hr : ∀ F H, Rep K F H v d) (h : tS K (eC d) σc H Q) : tC v σc H Q := by
  obtain ⟨F, β, σ, h, hs, sr, x, h', e, q⟩ := h
  cases e
  exact q F β H v hs .refl (hr F H)
theorem v_tr {i : Nat} (h : tS K (eV i) σc H Q) : tVar i σc H Q := by
  obtain ⟨F, β, σ, h, hs, sr, x, h', e, q⟩ := h
  simp only [eV] at e
  split at e
  · rename_i v hv
    cases e
    obtain ⟨u, h1, h2⟩ := sr.2 i _ hv
    exact ⟨u, h1, q F β H u hs .refl h2⟩
  · cases e
/-! ### operations -/
theorem e1_tr {m nw : Bool} {g : PyData → Option PyData} {ea : Ev Val} (hm : m = true → nw = true) (h : tS K (e1 m g ea) σc H Q) : tUn (rG1 K nw g) (tS K ea) σc H Q := by
  obtain ⟨F, β, σ, h, hs, sr, x, h', e, q⟩ := h
  rcases qa : ea σ h with _ | ⟨y, h1⟩ <;> simp only [DE.e1, qa] at e
  · cases e
  refine ⟨F, β, σ, h, hs, sr, y, h1, qa, fun F1 β1 H1 v hs1 x1 r1 => ?_⟩
  rcases qd : rd h1 y with _ | d <;> simp only [qd] at e
  · cases e
  rcases qg : g d with _ | r <;> simp only [qg] at e
  · cases e
  obtain ⟨rfl, rfl⟩ := mk_eq e
  refine ⟨F1, d, r, .of_rd hs1 r1 qd, qg, fun w H2 got => ?_⟩
  obtain ⟨F2, β2, hs2, x2, rv⟩ := got_mk hs1 hm got
  exact q F2 β2 H2 w hs2 (x1.seq hs1 x2) rv
theorem e2_tr {m nw : Bool} {g : PyData → PyData → Option PyData} {ea eb : Ev Val} (hm : m = true → nw = true) (h : tS K (e2 m g ea eb) σc H Q) : tOp (rG2 K nw g) (tS K ea) (tS K eb) σc H Q := by
  obtain ⟨F, β, σ, h, hs, sr, x, h', e, q⟩ := h
  rcases qa : ea σ h with _ | ⟨y, h1⟩ <;> simp only [DE.e2, qa] at e
  · cases e
  refine ⟨F, β, σ, h, hs, sr, y, h1, qa, fun F1 β1 H1 v hs1 x1 r1 => ?_⟩
  rcases qb : eb σ h1 with _ | ⟨z, h2⟩ <;> simp only [qb] at e
  · cases e
  refine ⟨F1, β1, σ, h1, hs1, sr.ext x1, z, h2, qb, fun F2 β2 H2 u hs2 x2 r2 => ?_⟩
  rcases qd : rd h2 y with _ | d <;> simp only [qd] at e
  · cases e
  rcases qe : rd h2 z with _ | d' <;> simp only [qe] at e
  · cases e
  rcases qg : g d d' with _ | r <;> simp only [qg] at e
  · cases e
  obtain ⟨rfl, rfl⟩ := mk_eq e
  refine ⟨F2, d, d', r, .of_rd hs2 (r1.ext x2) qd, .of_rd hs2 r2 qe, qg, fun w H3 got => ?_⟩
  obtain ⟨F3, β3, hs3, x3, rv⟩ := got_mk hs2 hm got
  exact q F3 β3 H3 w hs3 ((x1.seq hs1 x2).seq hs2 x3) rv
theorem eN_tr {m nw : Bool} {g : List PyData → Option PyData} {ea : Ev (List Val)} (hm : m = true → nw = true) (h : tS K (eN m g ea) σc H Q) : tCB (rGN K nw g) (tSA K ea) σc H Q := by
  obtain ⟨F, β, σ, h, hs, sr, x, h', e, q⟩ := h
  rcases qa : ea σ h with _ | ⟨y, h1⟩ <;> simp only [DE.eN, qa] at e
  · cases e
  refine ⟨F, β, σ, h, hs, sr, y, h1, qa, fun F1 β1 H1 v hs1 x1 r1 => ?_⟩
  rcases qd : rds h1 y with _ | d <;> simp only [qd] at e
  · cases e
  rcases qg : g d with _ | r <;> simp only [qg] at e
  · cases e
  obtain ⟨rfl, rfl⟩ := mk_eq e
  refine ⟨F1, d, r, .of_rds hs1 r1 qd, qg, fun w H2 got => ?_⟩
  obtain ⟨F2, β2, hs2, x2, rv⟩ := got_mk hs1 hm got
  exact q F2 β2 H2 w hs2 (x1.seq hs1 x2) rv
theorem aNil_tr {QA : List V → Hp → Prop} (h : tSA K aNil σc H QA) : tNil σc H QA := by
  obtain ⟨F, β, σ, h, hs, sr, x, h', e, q⟩ := h
  cases e
  exact q F β H [] hs .refl .nil
theorem aCons_tr {ea : Ev Val} {eb : Ev (List Val)} {QA : List V → Hp → Prop} (h : tSA K (aCons ea eb) σc H QA) : tCons (tS K ea) (tSA K eb) σc H QA := by
  obtain ⟨F, β, σ, h, hs, sr, x, h', e, q⟩ := h
  rcases qa : ea σ h with _ | ⟨y, h1⟩ <;> simp only [aCons, qa] at e
  · cases e
  refine ⟨F, β, σ, h, hs, sr, y, h1, qa, fun F1 β1 H1 v hs1 x1 r1 => ?_⟩
  rcases qb : eb σ h1 with _ | ⟨z, h2⟩ <;> simp only [qb] at e
  · cases e
  cases e
  exact ⟨F1, β1, σ, h1, hs1, sr.ext x1, z, _, qb, fun F2 β2 H2 u hs2 x2 r2 => q F2 β2 H2 _ hs2 (x1.seq hs1 x2) (.cons (r1.ext x2) r2)⟩
/-! ### displays -/
def tTupX (t : TA) : TE := fun σ H Q => t σ H fun xs H1 => xs.length ≤ sizeLine ∧ ∀ (p : Addr) (o : Obj), H1 p = none → o.dict = none → Q (.ref p) (upd H1 p (.frz o (.tup xs)))
theorem pe_tupX {es : List Expr} {t : TA} {x1} {pos : Pos} (h : PA X es t) : PE X (.Tuple es x1 pos) (tTupX t) := by
  refine ⟨fun pins s σ H Q I hq => ?_⟩
  refine wpAny_Tuple_spliced (thn (h.run pos pins s σ H _ I hq) fun us s1 ⟨xs, H1, I1, r, z, q⟩ => ⟨by rw [← r.length]; exact z, ?_⟩)
  have hf : H1 s1.heap.objs.size = none := I1.hok.fresh (Nat.le_refl _)
  refine ⟨.ref s1.heap.objs.size, upd H1 s1.heap.objs.size (.frz ?o (.tup xs)), I1.laid (t' := s1.toks) (fun b u e => Heap.get?_push_of_some _ e) (Nat.le_refl _) ?_, rfl, q _ ?o hf ?_⟩
  case o => exact { cls := .type "tuple", data := .seq us.toArray }
  · exact ⟨Heap.get?_push_size _ rfl, z, us, r, ⟨_, Heap.get?_push_size _ rfl, rfl, _, rfl⟩⟩
  · rfl
theorem eTup_tr {ea : Ev (List Val)} (h : tS K (eTup ea) σc H Q) : tTupX (tSA K ea) σc H Q := by
  obtain ⟨F, β, σ, h, hs, sr, x, h', e, q⟩ := h
  rcases qa : ea σ h with _ | ⟨y, h1⟩ <;> simp only [eTup, qa] at e
  · cases e
  refine ⟨F, β, σ, h, hs, sr, y, h1, qa, fun F1 β1 H1 vs hs1 x1 r1 => ?_⟩
  rcases qd : fzs h1 y with _ | ⟨ds, h2⟩ <;> simp only [qd] at e
  · cases e
  split at e
  · rename_i hl
    cases e
    obtain ⟨F2, hs2, x2, r2⟩ := fzs_ok hs1 r1 qd
    refine ⟨by rw [r2.length]; exact hl, fun p ob hp hd => q F2 β1 _ _ (hs2.new hp) ((x1.seq hs1 x2).seq hs2 (hs2.ext_new hp)) ?_⟩
    exact .tup (.inl ⟨_, upd_same, hd⟩) (Reps.ex (hs2.ext_new hp).ex r2)
  · cases e
theorem eLst_tr {m : Bool} {ea : Ev (List Val)} (h : tS K (eLst m ea) σc H Q) : tLst (tSA K ea) σc H Q := by
  obtain ⟨F, β, σ, h, hs, sr, x, h', e, q⟩ := h
  rcases qa : ea σ h with _ | ⟨y, h1⟩ <;> simp only [eLst, qa] at e
  · cases e
  refine ⟨F, β, σ, h, hs, sr, y, h1, qa, fun F1 β1 H1 vs hs1 x1 r1 => ?_⟩
  rcases qd : fzs h1 y with _ | ⟨ds, h2⟩ <;> simp only [qd] at e
  · cases e
  split at e
  · rename_i hl
    obtain ⟨rfl, rfl⟩ := mk_eq e
    obtain ⟨F2, hs2, x2, r2⟩ := fzs_ok hs1 r1 qd
    refine ⟨by rw [r2.length]; exact hl, fun p hp => ?_⟩
    obtain ⟨F3, β3, hs3, x3, rv⟩ := got_mk (nw := true) (m := m) hs2 (fun _ => rfl) (.lst hp r2)
    exact q F3 β3 _ _ hs3 ((x1.seq hs1 x2).seq hs2 x3) rv
  · cases e
/-! ### truth -/
theorem asB_ok {F : Fz} {β : List Addr} {v : V} {x : Val} {c : Bool} (e : asB x = some c) (r : RV K F β H v x) : v = .bl c ∧ x = .t (.bool c) := by
  cases x with
  | t d => cases d <;> simp [asB] at e; subst e; cases r; exact ⟨rfl, rfl⟩
  | r n => simp [asB] at e
  | tp vs => simp [asB] at e
theorem eAnd_tr {ea eb : Ev Val} (h : tS K (eAnd ea eb) σc H Q) : tAndV (tS K ea) (tS K eb) σc H Q := by
  obtain ⟨F, β, σ, h, hs, sr, x, h', e, q⟩ := h
  rcases qa : ea σ h with _ | ⟨y, h1⟩ <;> simp only [eAnd, qa] at e
  · cases e
  refine ⟨F, β, σ, h, hs, sr, y, h1, qa, fun F1 β1 H1 v hs1 x1 r1 => ?_⟩
  rcases qd : asB y with _ | c <;> simp only [qd] at e
  · cases e
  obtain ⟨rfl, rfl⟩ := asB_ok qd r1
  refine ⟨c, rfl, ?_⟩
  cases c with
  | true => exact ⟨F1, β1, σ, h1, hs1, sr.ext x1, x, h', e, fun F2 β2 H2 u hs2 x2 r2 => q F2 β2 H2 u hs2 (x1.seq hs1 x2) r2⟩
  | false => cases e; exact q F1 β1 H1 _ hs1 x1 (.bl false)
theorem eOr_tr {ea eb : Ev Val} (h : tS K (eOr ea eb) σc H Q) : tOrV (tS K ea) (tS K eb) σc H Q := by
  obtain ⟨F, β, σ, h, hs, sr, x, h', e, q⟩ := h
  rcases qa : ea σ h with _ | ⟨y, h1⟩ <;> simp only [eOr, qa] at e
  · cases e
  refine ⟨F, β, σ, h, hs, sr, y, h1, qa, fun F1 β1 H1 v hs1 x1 r1 => ?_⟩
  rcases qd : asB y with _ | c <;> simp only [qd] at e
  · cases e
  obtain ⟨rfl, rfl⟩ := asB_ok qd r1
  refine ⟨c, rfl, ?_⟩
  cases c with
  | false => exact ⟨F1, β1, σ, h1, hs1, sr.ext x1, x, h', e, fun F2 β2 H2 u hs2 x2 r2 => q F2 β2 H2 u hs2 (x1.seq hs1 x2) r2⟩
  | true => cases e; exact q F1 β1 H1 _ hs1 x1 (.bl true)
theorem eNot_tr {ea : Ev Val} (h : tS K (eNot ea) σc H Q) : tNotV (tS K ea) σc H Q := by
  obtain ⟨F, β, σ, h, hs, sr, x, h', e, q⟩ := h
  rcases qa : ea σ h with _ | ⟨y, h1⟩ <;> simp only [eNot, qa] at e
  · cases e
  refine ⟨F, β, σ, h, hs, sr, y, h1, qa, fun F1 β1 H1 v hs1 x1 r1 => ?_⟩
  rcases qd : asB y with _ | c <;> simp only [qd] at e
  · cases e
  obtain ⟨rfl, rfl⟩ := asB_ok qd r1
  cases e
  exact ⟨c, rfl, q F1 β1 H1 _ hs1 x1 (.bl _)⟩
variable {QB : Bool → Hp → Prop}
theorem tB_tr {ea : Ev Val} (h : tST K (DE.tB ea) σc H QB) : L2.tB (tS K ea) σc H QB := by
  obtain ⟨F, β, σ, h, hs, sr, x, h', e, q⟩ := h
  rcases qa : ea σ h with _ | ⟨y, h1⟩ <;> simp only [DE.tB, qa] at e
  · cases e
  refine ⟨F, β, σ, h, hs, sr, y, h1, qa, fun F1 β1 H1 v hs1 x1 r1 => ?_⟩
  rcases qd : asB y with _ | c <;> simp only [qd] at e
  · cases e
  obtain ⟨rfl, rfl⟩ := asB_ok qd r1
  cases e
  exact ⟨_, rfl, q F1 β1 H1 hs1 x1⟩
theorem tAnd_tr {ea eb : Ev Bool} (h : tST K (DE.tAnd ea eb) σc H QB) : L2.tAnd (tST K ea) (tST K eb) σc H QB := by
  obtain ⟨F, β, σ, h, hs, sr, x, h', e, q⟩ := h
  rcases qa : ea σ h with _ | ⟨y, h1⟩ <;> simp only [DE.tAnd, qa] at e
  · cases e
  refine ⟨F, β, σ, h, hs, sr, y, h1, qa, fun F1 β1 H1 hs1 x1 => ?_⟩
  cases y with
  | true => exact ⟨F1, β1, σ, h1, hs1, sr.ext x1, x, h', e, fun F2 β2 H2 hs2 x2 => q F2 β2 H2 hs2 (x1.seq hs1 x2)⟩
  | false => cases e; exact q F1 β1 H1 hs1 x1
theorem tOr_tr {ea eb : Ev Bool} (h : tST K (DE.tOr ea eb) σc H QB) : L2.tOr (tST K ea) (tST K eb) σc H QB := by
  obtain ⟨F, β, σ, h, hs, sr, x, h', e, q⟩ := h
  rcases qa : ea σ h with _ | ⟨y, h1⟩ <;> simp only [DE.tOr, qa] at e
  · cases e
  refine ⟨F, β, σ, h, hs, sr, y, h1, qa, fun F1 β1 H1 hs1 x1 => ?_⟩
  cases y with
  | false => exact ⟨F1, β1, σ, h1, hs1, sr.ext x1, x, h', e, fun F2 β2 H2 hs2 x2 => q F2 β2 H2 hs2 (x1.seq hs1 x2)⟩
  | true => cases e; exact q F1 β1 H1 hs1 x1
theorem tNot_tr {ea : Ev Bool} (h : tST K (DE.tNot ea) σc H QB) : L2.tNot (tST K ea) σc H QB := by
  obtain ⟨F, β, σ, h, hs, sr, x, h', e, q⟩ := h
  rcases qa : ea σ h with _ | ⟨y, h1⟩ <;> simp only [DE.tNot, qa] at e
  · cases e
  cases e
  exact ⟨F, β, σ, h, hs, sr, y, _, qa, fun F1 β1 H1 hs1 x1 => q F1 β1 H1 hs1 x1⟩
theorem tYes_tr (h : tST K DE.tYes σc H QB) : L2.tYes σc H QB := by
  obtain ⟨F, β, σ, h, hs, sr, x, h', e, q⟩ := h
  cases e
  exact q F β H hs .refl
theorem eIf_tr {et : Ev Bool} {ea eb : Ev Val} (h : tS K (eIf et ea eb) σc H Q) : L2.tIf (tST K et) (tS K ea) (tS K eb) σc H Q := by
  obtain ⟨F, β, σ, h, hs, sr, x, h', e, q⟩ := h
  rcases qa : et σ h with _ | ⟨y, h1⟩ <;> simp only [eIf, qa] at e
  · cases e
  refine ⟨F, β, σ, h, hs, sr, y, h1, qa, fun F1 β1 H1 hs1 x1 => ?_⟩
  cases y with
  | true => exact ⟨F1, β1, σ, h1, hs1, sr.ext x1, x, h', e, fun F2 β2 H2 u hs2 x2 r2 => q F2 β2 H2 u hs2 (x1.seq hs1 x2) r2⟩
  | false => exact ⟨F1, β1, σ, h1, hs1, sr.ext x1, x, h', e, fun F2 β2 H2 u hs2 x2 r2 => q F2 β2 H2 u hs2 (x1.seq hs1 x2) r2⟩
/-- a comparison's answer is a bool -/
def rCmp (K : KW) (g : PyData → PyData → Option PyData) : R2 := fun x y H Q => ∃ F d e b, RB K F H x d ∧ RB K F H y e ∧ g d e = some (.bool b) ∧ Q (.bl b) H
theorem eChain_tr {g g' : PyData → PyData → Option PyData} {ea eb ec : Ev Val} (h : tS K (eChain g g' ea eb ec) σc H Q) : tChain (rCmp K g) (rCmp K g') (tS K ea) (tS K eb) (tS K ec) σc H Q := by
  obtain ⟨F, β, σ, h, hs, sr, x, h', e, q⟩ := h
  rcases qa : ea σ h with _ | ⟨y, h1⟩ <;> simp only [eChain, qa] at e
  · cases e
  refine ⟨F, β, σ, h, hs, sr, y, h1, qa, fun F1 β1 H1 v hs1 x1 r1 => ?_⟩
  rcases qb : eb σ h1 with _ | ⟨z, h2⟩ <;> simp only [qb] at e
  · cases e
  refine ⟨F1, β1, σ, h1, hs1, sr.ext x1, z, h2, qb, fun F2 β2 H2 u hs2 x2 r2 => ?_⟩
  rcases qd : rd h2 y with _ | d <;> simp only [qd] at e
  · cases e
  rcases qe : rd h2 z with _ | d' <;> simp only [qe] at e
  · cases e
  have x12 := x1.seq hs1 x2
  split at e
  · rename_i hg
    rcases qc : ec σ h2 with _ | ⟨w, h3⟩ <;> simp only [qc] at e
    · cases e
    refine ⟨F2, d, d', true, .of_rd hs2 (r1.ext x2) qd, .of_rd hs2 r2 qe, hg, true, rfl, ?_⟩
    refine ⟨F2, β2, σ, h2, hs2, sr.ext x12, w, h3, qc, fun F3 β3 H3 v3 hs3 x3 r3 => ?_⟩
    rcases qf : rd h3 z with _ | f <;> simp only [qf] at e
    · cases e
    rcases qk : rd h3 w with _ | k <;> simp only [qk] at e
    · cases e
    split at e
    · rename_i b hb
      cases e
      exact ⟨F3, f, k, b, .of_rd hs3 (r2.ext x3) qf, .of_rd hs3 r3 qk, hb, q F3 β3 H3 _ hs3 (x12.seq hs2 x3) (.bl b)⟩
    · cases e
  · rename_i hg
    cases e
    exact ⟨F2, d, d', false, .of_rd hs2 (r1.ext x2) qd, .of_rd hs2 r2 qe, hg, false, rfl, q F2 β2 H2 _ hs2 x12 (.bl false)⟩
  · cases e
end
end DE
end
section
set_option Elab.async false
set_option linter.all false
set_option maxRecDepth 100000
set_option maxHeartbeats 1000000
/-! statements, loops, comprehensions -/
namespace DE
open PySem PySem.Spec PyProof.Rows L2

section
variable {K : KW} {X : Cx} {σc : L2.St} {H : Hp} {Q : VK} {D : Ends}
theorem SR.set {F : Fz} {β : List Addr} {σ : Sg} {i : Nat} {v : V} {x : Val} (r : SR K F β H σc σ) (q : RV K F β H v x) : SR K F β H (σc.set i (some v)) (σ.set i (some x)) := by
  refine ⟨by simp [r.1], fun j y hy => ?_⟩
  by_cases hj : i = j
  · subst hj
    have hl : i < σ.length := by
      rcases Nat.lt_or_ge i σ.length with h | h
      · exact h
      · rw [List.getElem?_eq_none (by simpa using h)] at hy; cases hy
    rw [List.getElem?_set_self hl] at hy
    cases hy
    exact ⟨v, by rw [List.getElem?_set_self (by rw [r.1]; exact hl)], q⟩
  · rw [List.getElem?_set_ne hj] at hy
    rw [List.getElem?_set_ne hj]
    exact r.2 j y hy
theorem SR.wipe {F : Fz} {β : List Addr} {σ : Sg} (r : SR K F β H σc σ) : ∀ own : List Nat, SR K F β H (L2.wipe σc own) (wipeS σ own)
  | [] => r
  | v :: vs => by
    have ih := SR.wipe r vs
    refine ⟨by simp only [L2.wipe, wipeS, List.length_set]; exact ih.1, fun j y hy => ?_⟩
    simp only [wipeS] at hy
    simp only [L2.wipe]
    by_cases hj : v = j
    · subst hj
      rcases Nat.lt_or_ge v (wipeS σ vs).length with h | h
      · rw [List.getElem?_set_self h] at hy; cases hy
      · rw [List.getElem?_eq_none (by simpa using h)] at hy; cases hy
    · rw [List.getElem?_set_ne hj] at hy ⊢
      exact ih.2 j y hy
theorem wipe_get {σ : L2.St} {i : Nat} : ∀ own : List Nat, (L2.wipe σ own)[i]? = if i ∈ own ∧ i < σ.length then some none else σ[i]?
  | [] => by simp [L2.wipe]
  | v :: vs => by
    simp only [L2.wipe]
    by_cases hv : v = i
    · subst hv
      by_cases hl : v < σ.length
      · rw [List.getElem?_set_self (by rw [wipe_length]; exact hl), if_pos ⟨by simp, hl⟩]
      · rw [List.getElem?_eq_none (by simp [wipe_length]; omega), if_neg (fun z => hl z.2), List.getElem?_eq_none (by omega)]
    · rw [List.getElem?_set_ne hv, wipe_get vs]
      have : (i ∈ v :: vs) ↔ i ∈ vs := by simp [Ne.symm hv]
      simp only [this]
theorem wipe_ext {σ σ' : L2.St} (own : List Nat) (hl : σ.length = σ'.length) (h : ∀ i, i ∉ own → σ[i]? = σ'[i]?) : L2.wipe σ own = L2.wipe σ' own := by
  apply List.ext_getElem?
  intro i
  rw [wipe_get, wipe_get, hl]
  by_cases hi : i ∈ own
  · by_cases h2 : i < σ'.length
    · rw [if_pos ⟨hi, h2⟩, if_pos ⟨hi, h2⟩]
    · rw [if_neg (fun z => h2 z.2), if_neg (fun z => h2 z.2), List.getElem?_eq_none (by omega), List.getElem?_eq_none (by omega)]
  · rw [if_neg (fun z => hi z.1), if_neg (fun z => hi z.1)]
    exact h i hi
/-- an item: as it is told, or a pair that is new -/
def IR (K : KW) (w : Bool) (F : Fz) (H : Hp) (v : V) (d : PyData) : Prop := Rep K F H v d ∨ w = true ∧ ∃ a vs es, v = .ref a ∧ d = .tuple es ∧ SqT K H a vs ∧ Reps K F H vs es
/-- a target -/
def GOk (K : KW) (w : Bool) (own : List Nat) (g : TG) (bind : PyData → Sg → Option Sg) : Prop :=
  ∀ {F : Fz} {β : List Addr} {H : Hp} {h : MH} {σc : L2.St} {σ σ' : Sg} {v : V} {d : PyData} {Q : L2.St → Hp → Prop}, HS K F β H h → SR K F β H σc σ → IR K w F H v d → bind d σ = some σ' →
    (∀ σc', SR K F β H σc' σ' → σc'.length = σc.length → (∀ i, i ∉ own → σc'[i]? = σc[i]?) → Q σc' H) → g v σc H Q
theorem gName_ok {i : Nat} {own : List Nat} (hi : i ∈ own) : GOk K false own (gName i) (bName i) := by
  intro F β H h σc σ σ' v d Q hs sr r e q
  have r : Rep K F H v d := r.elim id fun z => nomatch z.1
  cases e
  exact q _ (sr.set (x := .t d) r) (by simp) fun j hj => List.getElem?_set_ne (fun (z : i = j) => hj (z ▸ hi))
/-! ### blocks -/
theorem sNil_tr (h : tSS K sNil D σc H) : tNext D σc H := by
  obtain ⟨F, β, σ, h, hs, sr, o, e, q⟩ := h
  cases e
  exact q F β σc H hs sr .refl
theorem OutOk.imp {F F1 : Fz} {β β1 : List Addr} {H1 : Hp} {D D' : Ends} {h1 : MH} {o : Out} (x1 : Ext F β H F1 β1 H1) (hs1 : HS K F1 β1 H1 h1) (q : OutOk K F β H D o)
    (hn : ∀ σ h, o = .nx σ h → D'.nx = D.nx) (hr : D'.rt = D.rt) (hb : D'.bk = D.bk) (hc : D'.ct = D.ct) : OutOk K F1 β1 H1 D' o := by
  cases o with
  | nx σ h => intro F' β' σc' H' a b c; rw [hn σ h rfl]; exact q F' β' σc' H' a b (x1.seq hs1 c)
  | bk σ h => intro F' β' σc' H' a b c; rw [hb]; exact q F' β' σc' H' a b (x1.seq hs1 c)
  | ct σ h => intro F' β' σc' H' a b c; rw [hc]; exact q F' β' σc' H' a b (x1.seq hs1 c)
  | rt x h => intro F' β' H' v a b c; rw [hr]; exact q F' β' H' v a (x1.seq hs1 b) c
theorem OutOk.step {F F1 : Fz} {β β1 : List Addr} {H1 : Hp} {h1 : MH} {o : Out} (x1 : Ext F β H F1 β1 H1) (hs1 : HS K F1 β1 H1 h1) (q : OutOk K F β H D o) : OutOk K F1 β1 H1 D o := q.imp x1 hs1 (fun _ _ _ => rfl) rfl rfl rfl
theorem sSeq_tr {a b : Ex1} (h : tSS K (sSeq a b) D σc H) : L2.tSeq (tSS K a) (tSS K b) D σc H := by
  obtain ⟨F, β, σ, h, hs, sr, o, e, q⟩ := h
  rcases qa : a σ h with _ | o1 <;> simp only [sSeq, qa] at e
  · cases e
  refine ⟨F, β, σ, h, hs, sr, o1, qa, ?_⟩
  cases o1 with
  | nx σ1 h1 =>
    intro F1 β1 σ1c H1 hs1 sr1 x1
    exact ⟨F1, β1, σ1, h1, hs1, sr1, o, e, q.step x1 hs1⟩
  | bk σ1 h1 => cases e; exact q
  | ct σ1 h1 => cases e; exact q
  | rt x h1 => cases e; exact q
theorem sSet_tr {i : Nat} {a : Ev Val} (h : tSS K (sSet i a) D σc H) : tAsg (tS K a) (gName i) D σc H := by
  obtain ⟨F, β, σ, h, hs, sr, o, e, q⟩ := h
  rcases qa : a σ h with _ | ⟨y, h1⟩ <;> simp only [sSet, qa] at e
  · cases e
  cases e
  exact ⟨F, β, σ, h, hs, sr, y, h1, qa, fun F1 β1 H1 v hs1 x1 r1 => q F1 β1 _ H1 hs1 ((sr.ext x1).set r1) x1⟩
theorem sExpr_tr {a : Ev Val} (h : tSS K (sExpr a) D σc H) : tDrop (tS K a) D σc H := by
  obtain ⟨F, β, σ, h, hs, sr, o, e, q⟩ := h
  rcases qa : a σ h with _ | ⟨y, h1⟩ <;> simp only [sExpr, qa] at e
  · cases e
  cases e
  exact ⟨F, β, σ, h, hs, sr, y, h1, qa, fun F1 β1 H1 v hs1 x1 r1 => q F1 β1 _ H1 hs1 (sr.ext x1) x1⟩
theorem sRet_tr {a : Ev Val} (h : tSS K (sRet a) D σc H) : tRet (tS K a) D σc H := by
  obtain ⟨F, β, σ, h, hs, sr, o, e, q⟩ := h
  rcases qa : a σ h with _ | ⟨y, h1⟩ <;> simp only [sRet, qa] at e
  · cases e
  cases e
  exact ⟨F, β, σ, h, hs, sr, y, h1, qa, fun F1 β1 H1 v hs1 x1 r1 => q F1 β1 H1 v hs1 x1 r1⟩
theorem sIf_tr {t : Ev Bool} {a b : Ex1} (h : tSS K (sIf t a b) D σc H) : tIfS (tST K t) (tSS K a) (tSS K b) D σc H := by
  obtain ⟨F, β, σ, h, hs, sr, o, e, q⟩ := h
  rcases qa : t σ h with _ | ⟨y, h1⟩ <;> simp only [sIf, qa] at e
  · cases e
  refine ⟨F, β, σ, h, hs, sr, y, h1, qa, fun F1 β1 H1 hs1 x1 => ?_⟩
  cases y with
  | true => exact ⟨F1, β1, σ, h1, hs1, sr.ext x1, o, e, q.step x1 hs1⟩
  | false => exact ⟨F1, β1, σ, h1, hs1, sr.ext x1, o, e, q.step x1 hs1⟩
/-! ### for -/
theorem sFor_tr {it : Ev (List PyData)} {bind : PyData → Sg → Option Sg} {body : Ex1} {g : TG} {own : List Nat} {w : Bool} (hg : GOk K w own g bind) (h : tSS K (sFor it bind body) D σc H) : tFor (tSI K w it) g (tSS K body) D σc H := by
  obtain ⟨F, β, σ, h, hs, sr, o, e, q⟩ := h
  rcases qa : it σ h with _ | ⟨ds, h1⟩ <;> simp only [sFor, qa] at e
  · cases e
  refine ⟨F, β, σ, h, hs, sr, ds, h1, qa, fun F1 β1 H1 J hs1 x1 ok => ?_⟩
  refine ⟨fun i m σ' H' => m = ds.length - i ∧ i ≤ ds.length ∧ ∃ F' β' s' h', forGo bind body (ds.drop i) s' h' = some o ∧ HS K F' β' H' h' ∧ SR K F' β' H' σ' s' ∧ Ext F1 β1 H1 F' β' H',
    ⟨ds.length, by simp, Nat.zero_le _, F1, β1, σ, h1, e, hs1, sr.ext x1, .refl⟩, ?_⟩
  rintro i m σ' H' ⟨rfl, hi, F', β', s', h', eg, hs', sr', x'⟩
  have q' : OutOk K F' β' H' D o := (q.step x1 hs1).step x' hs'
  by_cases hlt : i < ds.length
  · have hd : ds[i]? = some ds[i] := List.getElem?_eq_getElem hlt
    rw [List.drop_eq_getElem_cons hlt] at eg
    refine .inr ⟨ok.go F' H' x'.ex i _ hd, fun σ2 H2 => ∃ F2 β2 s2 h2, forGo bind body (ds.drop (i + 1)) s2 h2 = some o ∧ HS K F2 β2 H2 h2 ∧ SR K F2 β2 H2 σ2 s2 ∧ Ext F1 β1 H1 F2 β2 H2,
      fun σ2 H2 p => ⟨ds.length - (i + 1), by omega, rfl, hlt, p⟩, fun x H3 hy => ?_⟩
    rcases qb : bind ds[i] s' with _ | s2 <;> simp only [forGo, qb] at eg
    · cases eg
    obtain ⟨F3, β3, hs3, x3, sr3, rx⟩ : ∃ F3 β3, HS K F3 β3 H3 h' ∧ Ext F' β' H' F3 β3 H3 ∧ SR K F3 β3 H3 σ' s' ∧ IR K w F3 H3 x ds[i] := by
      rcases ok.yld F' H' x'.ex i _ hd x H3 hy with ⟨rfl, r⟩ | ⟨hw, p, vs, es, hp, rfl, rfl, ed, r⟩
      · exact ⟨F', β', hs', .refl, sr', .inl r⟩
      · refine ⟨F', β', hs'.new hp, hs'.ext_new hp, sr'.ext (hs'.ext_new hp), ?_⟩
        exact .inr ⟨hw, p, vs, es, rfl, ed, .inl (.inl upd_same), Reps.ex (hs'.ext_new hp).ex r⟩
    refine hg hs3 sr3 rx qb fun σ4 sr4 _ _ => ?_
    rcases qo : body s2 h' with _ | ob <;> simp only [qo] at eg
    · cases eg
    refine ⟨F3, β3, s2, h', hs3, sr4, ob, qo, ?_⟩
    have x13 := x'.seq hs' x3
    cases ob with
    | nx s5 h5 => intro F5 β5 σ5 H5 hs5 sr5 x5; exact ⟨F5, β5, s5, h5, eg, hs5, sr5, x13.seq hs3 x5⟩
    | ct s5 h5 => intro F5 β5 σ5 H5 hs5 sr5 x5; exact ⟨F5, β5, s5, h5, eg, hs5, sr5, x13.seq hs3 x5⟩
    | bk s5 h5 => cases eg; intro F5 β5 σ5 H5 hs5 sr5 x5; exact q' F5 β5 σ5 H5 hs5 sr5 (x3.seq hs3 x5)
    | rt v5 h5 => cases eg; intro F5 β5 H5 v hs5 x5 r5; exact q' F5 β5 H5 v hs5 (x3.seq hs3 x5) r5
  · have ei : i = ds.length := by omega
    subst ei
    rw [List.drop_length] at eg
    cases eg
    exact .inl ⟨ok.stop F' H' x'.ex, q' F' β' σ' H' hs' sr' .refl⟩
/-! ### comprehensions -/
theorem HS.aside {F : Fz} {β : List Addr} {h : MH} {p : Addr} {o o' : HO} (s : HS K F β H h) (hf : ¬ F p) (hb : p ∉ β) (hp : H p = some o) (ht : ∀ xs, o ≠ .tup xs) (hz : ∀ u w, o ≠ .frz u w) :
    Ex F H F (upd H p o') ∧ HS K F β (upd H p o') h := by
  have ne : ∀ a, F a → a ≠ p := fun a q z => hf (z ▸ q)
  have ex : Ex F H F (upd H p o') := ⟨fun _ q => q, fun a q => upd_ne (ne a q), fun a xs q => by rw [upd_ne (fun z => by subst z; rw [hp] at q; exact ht xs (Option.some.inj q))]; exact q,
    fun a u w q => by rw [upd_ne (fun z => by subst z; rw [hp] at q; exact hz u w (Option.some.inj q))]; exact q⟩
  refine ⟨ex, s.len, s.nd, fun n a x h1 h2 => ?_, fun a q => by rw [upd_ne (ne a q)]; exact s.fzd a q⟩
  have q := s.obj n a x h1 h2
  have na : a ≠ p := fun z => hb (z ▸ List.mem_iff_getElem?.mpr ⟨n, h1⟩)
  cases x with
  | l ds => obtain ⟨nf, vs, z1, z2⟩ := q; exact ⟨nf, vs, by rw [upd_ne na]; exact z1, Reps.ex ex z2⟩
  | d es => obtain ⟨nf, vs, z1, z2⟩ := q; exact ⟨nf, vs, by rw [upd_ne na]; exact z1, z2.ex ex⟩
  | e es => obtain ⟨nf, vs, z1, z2⟩ := q; exact ⟨nf, vs, by rw [upd_ne na]; exact z1, z2.ex ex⟩
  | f d => exact ⟨q.1, Rep.ex ex q.2⟩
/-- a thing that is new since H is changed -/
theorem Ext.later {F F' : Fz} {β β' : List Addr} {H' : Hp} {p : Addr} {o : HO} (e : Ext F β H F' β' H') (hp : H p = none) (hf : ¬ F p) : Ext F β H F' β' (upd H' p o) :=
  ⟨⟨e.ex.mono, fun a q => by rw [upd_ne (fun (z : a = p) => hf (z ▸ q))]; exact e.ex.keep a q, fun a xs q => by rw [upd_ne (ne_of_none q hp)]; exact e.ex.tups a xs q, fun a x u q => by rw [upd_ne (ne_of_none q hp)]; exact e.ex.frzs a x u q⟩,
    e.pre, e.bnew, e.fnew, fun a u q n1 n2 => by rw [upd_ne (ne_of_none q hp)]; exact e.frame a u q n1 n2⟩
theorem eComp_tr {m : Bool} {it : Ev (List PyData)} {bind : PyData → Sg → Option Sg} {own : List Nat} {tst : Ev Bool} {elt : Ev Val} {g : TG} {w : Bool} (hg : GOk K w own g bind) (h : tS K (eComp m it bind own tst elt) σc H Q) :
    tLc (tSI K w it) g (tST K tst) (tS K elt) own σc H Q := by
  obtain ⟨F, β, σ, h, hs, sr, x, h', e, q⟩ := h
  rcases qa : it σ h with _ | ⟨ds, h1⟩ <;> simp only [eComp, qa] at e
  · cases e
  split at e
  rotate_left
  · cases e
  rename_i hlen
  rcases qc : compGo bind (wipeS σ own) tst elt ds [] h1 with _ | ⟨out, h2⟩ <;> simp only [qc] at e
  · cases e
  obtain ⟨rfl, rfl⟩ := mk_eq e
  refine ⟨F, β, σ, h, hs, sr, ds, h1, qa, fun F1 β1 H1 J hs1 x1 ok => fun p hp => ?_⟩
  have nf1 := hs1.nfix hp
  refine ⟨fun i n H' => n = ds.length - i ∧ i ≤ ds.length ∧ ∃ F' β' h' acc vs, compGo bind (wipeS σ own) tst elt (ds.drop i) acc h' = some (out, h2) ∧ HS K F' β' H' h' ∧ Ext F1 β1 H1 F' β' H' ∧
      H' p = some (.lst vs) ∧ Reps K F' H' vs acc ∧ ¬ F' p ∧ p ∉ β' ∧ acc.length ≤ i,
    ⟨ds.length, by simp, Nat.zero_le _, F1, β1, h1, [], [], qc, hs1.new hp, hs1.ext_new hp, upd_same, .nil, nf1, hs1.nmem hp, Nat.le_refl _⟩, ?_⟩
  rintro i n H' ⟨rfl, hi, F', β', h', acc, vs, eg, hs', x', hpv, racc, nf, nb, hal⟩
  by_cases hlt : i < ds.length
  · have hd : ds[i]? = some ds[i] := List.getElem?_eq_getElem hlt
    rw [List.drop_eq_getElem_cons hlt] at eg
    refine .inr ⟨ok.go F' H' x'.ex i _ hd, fun H2 => ∃ F2 β2 h3 acc vs, compGo bind (wipeS σ own) tst elt (ds.drop (i + 1)) acc h3 = some (out, h2) ∧ HS K F2 β2 H2 h3 ∧ Ext F1 β1 H1 F2 β2 H2 ∧
      H2 p = some (.lst vs) ∧ Reps K F2 H2 vs acc ∧ ¬ F2 p ∧ p ∉ β2 ∧ acc.length ≤ i + 1, fun H2 z => ⟨ds.length - (i + 1), by omega, rfl, hlt, z⟩, fun x H3 hy => ?_⟩
    rcases qb : bind ds[i] (wipeS σ own) with _ | s2 <;> simp only [compGo, qb] at eg
    · cases eg
    -- the item
    obtain ⟨hs3, x3, hpv3, rx, np3⟩ : HS K F' β' H3 h' ∧ Ext F' β' H' F' β' H3 ∧ H3 p = some (.lst vs) ∧ IR K w F' H3 x ds[i] ∧ True := by
      rcases ok.yld F' H' x'.ex i _ hd x H3 hy with ⟨rfl, r⟩ | ⟨hw, b, ws, es, hb, rfl, rfl, ed, r⟩
      · exact ⟨hs', .refl, hpv, .inl r, trivial⟩
      · refine ⟨hs'.new hb, hs'.ext_new hb, by rw [upd_ne (ne_of_none hpv hb)]; exact hpv, ?_, trivial⟩
        exact .inr ⟨hw, b, ws, es, rfl, ed, .inl (.inl upd_same), Reps.ex (hs'.ext_new hb).ex r⟩
    have x13 := x'.seq hs' x3
    have srw : SR K F' β' H3 (L2.wipe σc own) (wipeS σ own) := ((sr.ext (x1.seq hs1 x13)).wipe own)
    refine hg hs3 srw rx qb fun σ4 sr4 hl4 hk4 => ⟨?_, ?_⟩
    · have z : L2.wipe σ4 own = L2.wipe (L2.wipe σc own) own := wipe_ext own hl4 hk4
      rw [z]
      exact wipe_ext own (wipe_length _ _) fun j hj => by rw [wipe_get, if_neg fun z => hj z.1]
    · rcases qt : tst s2 h' with _ | ⟨b, h4⟩ <;> simp only [qt] at eg
      · cases eg
      refine ⟨F', β', s2, h', hs3, sr4, b, h4, qt, fun F5 β5 H5 hs5 x5 => ?_⟩
      have hp5 : H5 p = some (.lst vs) := x5.frame p _ hpv3 nf nb
      have nf5 : ¬ F5 p := fun z => by
        rcases x5.fnew p z with z | z | z
        · exact nf z
        · rw [hpv3] at z; cases z
        · exact nb z
      have nb5 : p ∉ β5 := fun z => by
        rcases x5.bmem z with z | z
        · exact nb z
        · rw [hpv3] at z; cases z
      have racc5 := Reps.ex (x3.ex.trans x5.ex) racc
      cases b with
      | false => exact ⟨F5, β5, h4, acc, vs, eg, hs5, x13.seq hs3 x5, hp5, racc5, nf5, nb5, by omega⟩
      | true =>
        rcases qe : elt s2 h4 with _ | ⟨y, h6⟩ <;> simp only [qe] at eg
        · cases eg
        refine ⟨F5, β5, s2, h4, hs5, sr4.ext x5, y, h6, qe, fun F7 β7 H7 v hs7 x7 r7 => ?_⟩
        rcases qf : fz h6 y with _ | ⟨d, h8⟩ <;> simp only [qf] at eg
        · cases eg
        obtain ⟨F8, hs8, x8, r8⟩ := fz_ok hs7 r7 qf
        have x78 := x7.seq hs7 x8
        have hp8 : H7 p = some (.lst vs) := x78.frame p _ hp5 nf5 nb5
        have nf8 : ¬ F8 p := fun z => by
          rcases x78.fnew p z with z | z | z
          · exact nf5 z
          · rw [hp5] at z; cases z
          · exact nb5 z
        have nb8 : p ∉ β7 := fun z => by
          rcases x78.bmem z with z | z
          · exact nb5 z
          · rw [hp5] at z; cases z
        have racc8 := Reps.ex x78.ex racc5
        refine ⟨vs, hp8, by rw [racc.length]; omega, ?_⟩
        obtain ⟨exa, hsa⟩ := hs8.aside (o' := .lst (vs ++ [v])) nf8 nb8 hp8 (fun _ z => nomatch z) (fun _ _ z => nomatch z)
        refine ⟨F8, β7, h8, acc ++ [d], vs ++ [v], eg, hsa, Ext.later ((x13.seq hs3 x5).seq hs5 x78) hp nf1, upd_same, ?_, nf8, nb8, by simp only [List.length_append, List.length_cons, List.length_nil]; omega⟩
        exact Reps.ex exa (racc8.append (.cons r8 .nil))
  · have ei : i = ds.length := by omega
    subst ei
    rw [List.drop_length] at eg
    cases eg
    refine .inl ⟨ok.stop F' H' x'.ex, ?_⟩
    have xe := x1.seq hs1 x'
    have hp0 : H p = none := x1.unt (fun a hm => hs1.trk (x1.bsub hm)) hp
    cases m with
    | false =>
      have xa : Ex F' H' (fun a => F' a ∨ a = p) H' := ⟨fun _ q => .inl q, fun _ _ => rfl, fun _ _ q => q, fun _ _ _ q => q⟩
      refine q (fun a => F' a ∨ a = p) β' H' (.ref p) ⟨hs'.len, hs'.nd, fun n a o z1 z2 => ?_, fun a z => ?_⟩ ⟨xe.ex.trans xa, xe.pre, xe.bnew, fun a z => ?_, xe.frame⟩ (.lst (.inl ⟨.inr rfl, hpv⟩) (Reps.ex xa racc))
      · have z := hs'.obj n a o z1 z2
        have na : a ≠ p := fun w => nb (w ▸ List.mem_iff_getElem?.mpr ⟨n, z1⟩)
        cases o with
        | l ds => obtain ⟨nf', vs, w1, w2⟩ := z; exact ⟨fun w => w.elim nf' na, vs, w1, Reps.ex xa w2⟩
        | d es => obtain ⟨nf', vs, w1, w2⟩ := z; exact ⟨fun w => w.elim nf' na, vs, w1, w2.ex xa⟩
        | e es => obtain ⟨nf', vs, w1, w2⟩ := z; exact ⟨fun w => w.elim nf' na, vs, w1, w2.ex xa⟩
        | f d => exact ⟨.inl z.1, Rep.ex xa z.2⟩
      · rcases z with z | z
        · exact hs'.fzd a z
        · subst z; exact ⟨_, hpv⟩
      · rcases z with z | z
        · exact xe.fnew a z
        · subst z; exact .inr (.inl hp0)
    | true =>
      refine q F' (β' ++ [p]) H' (.ref p) ⟨?_, ?_, fun n a o z1 z2 => ?_, hs'.fzd⟩ ⟨xe.ex, fun n a z => ?_, fun n a z => ?_, xe.fnew, xe.frame⟩ ⟨p, ?_, rfl⟩
      · show (β' ++ [p]).length = (h2 ++ [MO.l out]).length
        simp [hs'.len]
      · exact List.nodup_append.mpr ⟨hs'.nd, by simp, fun a ha b hb z => by simp at hb; subst hb; subst z; exact nb ha⟩
      · have z2 : (h2 ++ [MO.l out])[n]? = some o := z2
        by_cases hn : n < β'.length
        · rw [List.getElem?_append_left hn] at z1
          rw [List.getElem?_append_left (by rw [← hs'.len]; exact hn)] at z2
          exact hs'.obj n a o z1 z2
        · rw [List.getElem?_append_right (by omega)] at z1
          rw [List.getElem?_append_right (by rw [← hs'.len]; omega), ← hs'.len] at z2
          cases hk : n - β'.length with
          | zero => rw [hk] at z1 z2; cases z1; cases z2; exact ⟨nf, vs, hpv, racc⟩
          | succ k => rw [hk] at z1; simp at z1
      · have z := xe.pre n a z
        rw [List.getElem?_append_left (List.getElem?_eq_some_iff.mp z).1]; exact z
      · by_cases hn : n < β'.length
        · rw [List.getElem?_append_left hn] at z; exact xe.bnew n a z
        · rw [List.getElem?_append_right (by omega)] at z
          cases hk : n - β'.length with
          | zero => rw [hk] at z; cases z; exact .inr hp0
          | succ k => rw [hk] at z; simp at z
      · show (β' ++ [p])[h2.length]? = some p
        rw [← hs'.len]; simp
end
end DE
end
section
set_option Elab.async false
set_option linter.all false
set_option maxRecDepth 100000
set_option maxHeartbeats 1000000
/-! operations by data -/
namespace DE
open PySem PySem.Spec PyProof.Rows L2

section
variable {X : Cx} {pins : List (Addr × Obj)} {σ : L2.St} {F : Fz} {H : Hp} {s : Shared}
theorem RB.reads (I : Inv X pins σ H s) {v : V} {d : PyData} {u : Value} (r : RB X.kw F H v d) (q : RelV v u) : ∃ as, Reads s.heap u d as ∧ (hasL d = false → sysModules ∉ as) := by
  cases r with
  | rep r => exact Rep.reads I r q
  | l h r =>
    cases q
    obtain ⟨its, rv, ⟨o, n, ho, hc, _, hd⟩, _⟩ := I.list (SqL.of h)
    obtain ⟨as, hr, _⟩ := Reps.reads I r rv
    exact ⟨_, Reads.list ho hc hd hr, fun e => by simp only [hasL] at e; cases e⟩
  | d h2 r =>
    cases q
    obtain ⟨_, hs, vs, rk, o, es, ep, ho, hx, hd, ha, hp, _⟩ := dk_of I.hok h2
    obtain ⟨r1, r2⟩ := keyVals rk hp
    obtain ⟨as, hr1, hn1⟩ := Reps.reads I r.1 r1
    obtain ⟨bs, hr2, hn2⟩ := Reps.reads I r.2 r2
    refine ⟨_, Reads.dict ho hx.1 hd hr1 hr2, fun e => ?_⟩
    obtain ⟨e1, e2⟩ := hasLk_split (by simpa only [hasL] using e)
    intro hm
    rcases List.mem_append.mp hm with hm | hm
    · rcases List.mem_cons.mp hm with hm | hm
      · rw [← hm] at hs; simp at hs
      · exact hn1 e1 hm
    · exact hn2 e2 hm
end

/-! ### tuples that are known -/
section
variable {X : Cx}
/-- x + y of tuples: what is new is known -/
def rCatX (K : KW) : R2 := fun x y H Q => ∃ a b xs ys, x = .ref a ∧ y = .ref b ∧ SqT K H a xs ∧ SqT K H b ys ∧ xs.length + ys.length ≤ sizeLine ∧
  ((xs = [] → Q (.ref b) H) ∧ (xs ≠ [] → ys = [] → Q (.ref a) H)) ∧ (xs ≠ [] → ys ≠ [] → ∀ (p : Addr) (o : Obj), H p = none → o.dict = none → Q (.ref p) (upd H p (.frz o (.tup (xs ++ ys)))))
theorem op_catX : OpR X (binaryOp .Add) (rCatX X.kw) := by
  intro pins s σ H x y v u Q I ux uy hq
  obtain ⟨a, b, xs, ys, rfl, rfl, fa, fb, room, ⟨k0, k1⟩, k2⟩ := hq
  by_cases nx : xs = []
  · exact op_catA pins s σ H _ _ v u Q I ux uy ⟨a, b, xs, ys, rfl, rfl, fa, fb, room, k0, k1, fun z => absurd nx z⟩
  by_cases ny : ys = []
  · exact op_catA pins s σ H _ _ v u Q I ux uy ⟨a, b, xs, ys, rfl, rfl, fa, fb, room, k0, k1, fun _ z => absurd ny z⟩
  cases ux
  cases uy
  obtain ⟨us1, va, ta, _⟩ := I.tuple fa
  obtain ⟨us2, vb, tb, _⟩ := I.tuple fb
  refine HT.cat_tup ta tb (fun z => nx (va.nil_iff.mp z)) (fun z => absurd (vb.nil_iff.mp z) ny) (fun _ => ?_) (by have := va.length; have := vb.length; omega)
  refine ⟨.ref _, _, I.laid (t' := s.toks) (o := .frz { cls := .type "tuple", data := .seq (us1 ++ us2).toArray } (.tup (xs ++ ys))) (fun _ _ z => Heap.get?_push_of_some _ z) (Nat.le_refl _) ?_, rfl, k2 nx ny _ _ (I.hok.fresh (Nat.le_refl _)) rfl⟩
  exact ⟨Heap.get?_push_size _ rfl, by simpa using room, _, va.append vb, IsTup.new _ _⟩
/-- tuple(x): what is new is known -/
theorem call_tupleX : CallR X (.type "tuple") (fun xs H Q => ∃ p ys, xs = [.ref p] ∧ ((SqL X.kw H p ys ∧ ∀ (l : Addr) (o : Obj), H l = none → o.dict = none → Q (.ref l) (upd H l (.frz o (.tup ys)))) ∨ (SqT X.kw H p ys ∧ Q (.ref p) H))) := by
  intro pins s σ H xs us Q I rel hq
  obtain ⟨p, ys, rfl, ⟨fl, k⟩ | ft⟩ := hq
  rotate_left
  · exact call_tuple_of pins s σ H _ us Q I rel ⟨p, ys, rfl, .inr ft⟩
  obtain ⟨u, rfl, ru⟩ := vals1 rel
  cases ru
  obtain ⟨us1, va, tl, room⟩ := I.list fl
  have len1 := va.length
  refine call_tuple_list tl.isList (fun hp keep => ?_) (by simp only [List.size_toArray] <;> omega)
  have I2 : Inv X pins σ H { s with heap := hp } := I.kept (t' := s.toks) keep
  refine ⟨.ref _, _, I2.laid (t' := s.toks) (o := .frz { cls := .type "tuple", data := .seq us1.toArray } (.tup ys)) (fun _ _ z => Heap.get?_push_of_some _ z) (Nat.le_refl _) ?_, rfl, k _ _ (I2.hok.fresh (Nat.le_refl _)) rfl⟩
  exact ⟨Heap.get?_push_size _ rfl, room, us1, va, IsTup.new _ _⟩
/-- x[lo:hi] of a tuple: what is new is known -/
def rSlX2 (K : KW) : V → Option Int → Option Int → Hp → VK → Prop := fun x lo hi H Q => ∃ a xs, x = .ref a ∧ SqT K H a xs ∧
  ((HT.sIx xs.length 0 lo = 0 ∧ HT.sIx xs.length xs.length hi = xs.length) → Q (.ref a) H) ∧ (¬ (HT.sIx xs.length 0 lo = 0 ∧ HT.sIx xs.length xs.length hi = xs.length) → ∀ (p : Addr) (o : Obj), H p = none → o.dict = none → Q (.ref p) (upd H p (.frz o (.tup (cutV xs lo hi)))))
theorem sl_tupX2 : SlR X (rSlX2 X.kw) := by
  intro pins s σ H x v vl vu lo hi sl Q I ux isl il iu hq
  obtain ⟨a, xs, rfl, fa, k1, k2⟩ := hq
  by_cases all : HT.sIx xs.length 0 lo = 0 ∧ HT.sIx xs.length xs.length hi = xs.length
  · exact sl_tupA pins s σ H _ v vl vu lo hi sl Q I ux isl il iu ⟨a, xs, rfl, fa, k1, fun z => absurd all z⟩
  cases ux
  obtain ⟨us1, va, ta, room⟩ := I.tuple fa
  have len1 : us1.toArray.size = xs.length := by simpa using va.length.symm
  refine ⟨"tuple", _, PyProof.Rows.slot_tuple_getitem.lookup, ta.typeIs, HT.getItem_tuple_cut ta isl il iu (by rw [len1]; exact all) ?_ (by rw [len1]; exact room)⟩
  rw [len1]
  refine ⟨.ref _, _, I.laid (t' := s.toks) (o := .frz { cls := .type "tuple", data := .seq ((us1.drop (HT.sIx xs.length 0 lo)).take (HT.sIx xs.length xs.length hi - HT.sIx xs.length 0 lo)).toArray } (.tup (cutV xs lo hi))) (fun _ _ z => Heap.get?_push_of_some _ z) (Nat.le_refl _) ?_, rfl, k2 all _ _ (I.hok.fresh (Nat.le_refl _)) rfl⟩
  exact ⟨Heap.get?_push_size _ rfl, Nat.le_trans (cutV_length xs lo hi) room, _, (va.drop _).take _, IsTup.new _ _⟩
end
/-! ### + -/
def b01 (b : Bool) : Int := if b = true then 1 else 0
def gAdd : PyData → PyData → Option PyData
  | .int i, .int j => some (.int (i + j))
  | .bool b, .int j => some (.int (b01 b + j))
  | .str x, .str y => if x.length + y.length ≤ sizeLine then some (.str (x ++ y)) else none
  | .list xs, .list ys => if xs.length + ys.length ≤ sizeLine then some (.list (xs ++ ys)) else none
  | .tuple xs, .tuple ys => if xs.length + ys.length ≤ sizeLine then some (.tuple (xs ++ ys)) else none
  | _, _ => none
def gSub : PyData → PyData → Option PyData
  | .int i, .int j => some (.int (i - j))
  | .bool b, .int j => some (.int (b01 b - j))
  | .int i, .bool b => some (.int (i - b01 b))
  | _, _ => none
def gMul : PyData → PyData → Option PyData
  | .int i, .int j => if ((-(2 ^ 64) < i ∧ i < 2 ^ 64) ∨ (-(2 ^ 64) < j ∧ j < 2 ^ 64)) ∨ i.natAbs.log2 + j.natAbs.log2 < 1000000 then some (.int (i * j)) else none
  | .str x, .int n => if 0 ≤ n ∧ n ≤ 1000 ∧ x.length ≤ 1000 then some (.str (Txt.mul x n)) else none
  | _, _ => none
def gDiv : PyData → PyData → Option PyData
  | .int i, .int j => if 0 < j ∧ j.natAbs.log2 < 9000 then some (.int (i / j)) else none
  | _, _ => none
def gMod : PyData → PyData → Option PyData
  | .int i, .int j => if 0 < j then some (.int (i % j)) else none
  | _, _ => none
def gPow : PyData → PyData → Option PyData
  | .int i, .int j => if 0 ≤ j ∧ j ≤ 1000000 ∧ i.natAbs < 2 ^ 64 then some (.int (i ^ j.toNat)) else none
  | _, _ => none
def gEq : PyData → PyData → Option PyData
  | .int i, .int j => some (.bool (decide (i = j)))
  | .str x, .str y => some (.bool (decide (x = y)))
  | .bool x, .bool y => some (.bool (decide (x = y)))
  | .list (_ :: _), .list [] => some (.bool false)
  | .tuple (_ :: _), .tuple [] => some (.bool false)
  | d, e => if d.plain && e.plain && decide (d.depth ≤ 64) then some (.bool (PyData.eqv d e)) else none
def gNe (d e : PyData) : Option PyData := match gEq d e with
  | some (.bool b) => some (.bool !b)
  | _ => none
def gLt : PyData → PyData → Option PyData
  | .int i, .int j => some (.bool (decide (i < j)))
  | _, _ => none
def gLe : PyData → PyData → Option PyData
  | .int i, .int j => some (.bool (decide (i ≤ j)))
  | _, _ => none
def gGt : PyData → PyData → Option PyData
  | .int i, .int j => some (.bool (decide (j < i)))
  | _, _ => none
def gGe : PyData → PyData → Option PyData
  | .int i, .int j => some (.bool (decide (j ≤ i)))
  | _, _ => none
def gNeg : PyData → Option PyData
  | .int i => some (.int (-i))
  | _ => none
def isN : PyData → Bool
  | .none => true
  | _ => false
def gIsN (d e : PyData) : Option PyData := match e with
  | .none => some (.bool (isN d))
  | .bool b => (match d with | .bool a => some (.bool (decide (a = b))) | _ => none)
  | _ => none
def gNotN (d e : PyData) : Option PyData := match e with
  | .none => some (.bool !(isN d))
  | .bool b => (match d with | .bool a => some (.bool !(decide (a = b))) | _ => none)
  | _ => none
/-- a sign in a text; a thing in a list or a tuple -/
def gIn (d e : PyData) : Option PyData := match e with
  | .str y => (match d with
    | .str x => if x.length = 1 then some (.bool (decide (x.cps.getD 0 0 ∈ y.cps.toList))) else none
    | _ => none)
  | .list xs => if PyData.plainAll xs = true ∧ d.plain = true ∧ d.depth ≤ 64 then some (.bool (xs.any fun y => PyData.eqv y d)) else none
  | .tuple xs => if PyData.plainAll xs = true ∧ d.plain = true ∧ d.depth ≤ 64 then some (.bool (xs.any fun y => PyData.eqv y d)) else none
  | _ => none
def gNotIn (d e : PyData) : Option PyData := match gIn d e with
  | some (.bool b) => some (.bool !b)
  | _ => none

section
variable {X : Cx}
/-- two ints -/
theorem opI_got {f : Value → Value → Sem Value} {C : Int → Int → Prop} {k : Int → Int → Int} {g : PyData → PyData → Option PyData} (ho : OpR X f (rI C fun i j => .int (k i j)))
    (hg : ∀ d e r, g d e = some r → ∃ i j, d = .int i ∧ e = .int j ∧ C i j ∧ r = .int (k i j)) : OpR X f (rG2 X.kw true g) := by
  intro pins s σ H x y v u Q I rx ry q
  obtain ⟨F, d, e, r, h1, h2, h3, q⟩ := q
  obtain ⟨i, j, rfl, rfl, hc, rfl⟩ := hg d e r h3
  exact ho pins s σ H x y v u Q I rx ry ⟨i, j, h1.int, h2.int, hc, q _ _ (.same (.inr rfl) (.int _))⟩
theorem opC_got {f : Value → Value → Sem Value} {k : Int → Int → Bool} {g : PyData → PyData → Option PyData} (ho : OpR X f (rI0 fun i j => .bl (k i j)))
    (hg : ∀ d e b, g d e = some (.bool b) → ∃ i j, d = .int i ∧ e = .int j ∧ b = k i j) : OpR X f (rCmp X.kw g) := by
  intro pins s σ H x y v u Q I rx ry q
  obtain ⟨F, d, e, r, h1, h2, h3, q⟩ := q
  obtain ⟨i, j, rfl, rfl, rfl⟩ := hg d e r h3
  exact ho pins s σ H x y v u Q I rx ry ⟨i, j, h1.int, h2.int, q⟩
theorem Inv.isL {pins : List (Addr × Obj)} {σ : L2.St} {H : Hp} {s : Shared} {a : Addr} {xs : List V} (I : Inv X pins σ H s) (h : RdL X.kw H a xs) :
    ∃ (its : List Value) (n : Nat), Vals xs its ∧ xs.length ≤ sizeLine ∧ s.heap.get? a = some { cls := .type "list", data := .seq its.toArray n } := by
  rcases h with h | ⟨its, n, h1, h2, h3⟩
  · obtain ⟨z, its, n, r, e⟩ := h.ok I.hok
    exact ⟨its, n, r, z, e⟩
  · have e := h3.length
    simp only [Array.length_toList] at e
    exact ⟨its.toList, n, h3, by omega, by simpa using I.kIn a _ h1⟩
theorem op_catL : OpR X (binaryOp .Add) (fun x y H Q => ∃ l b xs zs, x = .ref l ∧ y = .ref b ∧ RdL X.kw H l xs ∧ RdL X.kw H b zs ∧ xs.length + zs.length ≤ sizeLine ∧ ∀ p, H p = none → Q (.ref p) (upd H p (.lst (xs ++ zs)))) := by
  intro pins s σ H x y v u Q I rx ry h
  obtain ⟨l, b, xs, zs, rfl, rfl, hH, hB, hz, q⟩ := h
  cases rx
  cases ry
  obtain ⟨its, n, r, hl, e⟩ := DE.Inv.isL I hH
  obtain ⟨its2, n2, r2, hl2, e2⟩ := DE.Inv.isL I hB
  have e0 := r.length
  have e1 := r2.length
  refine PySem.P.add_list e e2 ?_ (by rw [List.size_toArray, List.size_toArray]; omega)
  have ea : its.toArray ++ its2.toArray = (its ++ its2).toArray := by simp
  rw [ea]
  exact ⟨.ref _, _, I.lnew (t' := s.toks) (r.append r2) (by rw [List.length_append]; omega), rfl, q _ I.fresh⟩
theorem od_add : OpR X (binaryOp .Add) (rG2 X.kw true gAdd) := by
  intro pins s σ H x y v u Q I rx ry q
  obtain ⟨F, d, e, r, h1, h2, h3, q⟩ := q
  cases d <;> cases e <;> simp only [gAdd] at h3 <;> try cases h3
  case int.int i j => exact op_add pins s σ H x y v u Q I rx ry ⟨i, j, h1.int, h2.int, q _ _ (.same (.inr rfl) (.int _))⟩
  case bool.int b j =>
    cases h1.bool; cases h2.int
    cases rx
    obtain ⟨t, rfl⟩ := ry
    exact IntBool.add_bool_int ⟨.int _, H, I.tok _, ⟨_, rfl⟩, q _ _ (.same (.inr rfl) (.int _))⟩
  case str.str i j =>
    split at h3 <;> cases h3
    rename_i hl
    exact op_add_str pins s σ H x y v u Q I rx ry ⟨i, j, h1.str, h2.str, hl, q _ _ (.same (.inr rfl) (.str _))⟩
  case list.list i j =>
    split at h3 <;> cases h3
    rename_i hl
    obtain ⟨a, vs, e1, q1, r1⟩ := h1.listR
    obtain ⟨b, ws, e2, q2, r2⟩ := h2.listR
    exact op_catL pins s σ H x y v u Q I rx ry ⟨a, b, vs, ws, e1, e2, q1, q2, by rw [r1.length, r2.length]; exact hl, fun p hp => q _ _ (.lst hp (r1.append r2))⟩
  case tuple.tuple i j =>
    split at h3 <;> cases h3
    rename_i hl
    obtain ⟨a, vs, e1, q1, r1⟩ := h1.tup
    obtain ⟨b, ws, e2, q2, r2⟩ := h2.tup
    refine op_catX pins s σ H x y v u Q I rx ry ⟨a, b, vs, ws, e1, e2, q1.sq, q2.sq, by rw [r1.length, r2.length]; exact hl, ⟨fun z => ?_, fun _ z => ?_⟩, fun _ _ p o hp ho => q _ _ (.tup hp ho (r1.append r2))⟩
    · subst z; cases r1; exact q _ _ (.same (.inr rfl) (.tup q2 r2))
    · subst z; cases r2; rw [List.append_nil] at q; exact q _ _ (.same (.inr rfl) (.tup q1 r1))
theorem od_sub : OpR X (binaryOp .Sub) (rG2 X.kw true gSub) := by
  intro pins s σ H x y v u Q I rx ry q
  obtain ⟨F, d, e, r, h1, h2, h3, q⟩ := q
  cases d <;> cases e <;> simp only [gSub] at h3 <;> try cases h3
  case int.int i j => exact op_sub pins s σ H x y v u Q I rx ry ⟨i, j, h1.int, h2.int, q _ _ (.same (.inr rfl) (.int _))⟩
  case bool.int b j =>
    cases h1.bool; cases h2.int
    cases rx
    obtain ⟨t, rfl⟩ := ry
    exact IntBool.sub_bool_int ⟨.int _, H, I.tok _, ⟨_, rfl⟩, q _ _ (.same (.inr rfl) (.int _))⟩
  case int.bool j b =>
    cases h1.int; cases h2.bool
    cases ry
    obtain ⟨t, rfl⟩ := rx
    exact IntBool.sub_int_bool ⟨.int _, H, I.tok _, ⟨_, rfl⟩, q _ _ (.same (.inr rfl) (.int _))⟩
theorem mulOk_small {x : Str} {n : Int} (h : 0 ≤ n ∧ n ≤ 1000 ∧ x.length ≤ 1000) : MulOk x n := by
  obtain ⟨h0, h1, h2⟩ := h
  have hm : x.length * n.toNat ≤ 1000 * 1000 := Nat.mul_le_mul h2 (by omega)
  refine ⟨?_, fun q _ => ?_, fun _ _ => ?_⟩
  · simp only [Bool.or_eq_false_iff, decide_eq_false_iff_not]
    omega
  · have hn : 0 < n := by omega
    have : (1001 : Int) ≤ (2 ^ 63 - 1) / n := by
      rw [Int.le_ediv_iff_mul_le hn]
      omega
    omega
  · unfold Builtin.Str.tooLong
    rw [sizeLine_eq]
    simp only [decide_eq_false_iff_not]
    omega
theorem od_mul : OpR X (binaryOp .Mult) (rG2 X.kw true gMul) := by
  intro pins s σ H x y v u Q I rx ry q
  obtain ⟨F, d, e, r, h1, h2, h3, q⟩ := q
  cases d <;> cases e <;> simp only [gMul] at h3 <;> try cases h3
  case int.int i j =>
    split at h3 <;> cases h3
    rename_i hc
    rcases hc with hc | hc
    · exact op_mul pins s σ H x y v u Q I rx ry ⟨i, j, h1.int, h2.int, hc, q _ _ (.same (.inr rfl) (.int _))⟩
    · exact op_mulW pins s σ H x y v u Q I rx ry ⟨i, j, h1.int, h2.int, hc, q _ _ (.same (.inr rfl) (.int _))⟩
  case str.int z n =>
    split at h3 <;> cases h3
    rename_i hc
    cases h1.str
    cases h2.int
    obtain ⟨t, rfl⟩ := rx
    obtain ⟨t', rfl⟩ := ry
    exact SB.mul (mulOk_small hc) fun t2 k => ⟨.str _, H, I.tok k, ⟨_, rfl⟩, q _ _ (.same (.inr rfl) (.str _))⟩
theorem od_div : OpR X (binaryOp .FloorDiv) (rG2 X.kw true gDiv) := opI_got op_fdivW fun d e r h => by
  cases d <;> cases e <;> simp only [gDiv] at h <;> try cases h
  split at h <;> cases h
  rename_i hc
  exact ⟨_, _, rfl, rfl, hc, rfl⟩
theorem od_mod : OpR X (binaryOp .Mod) (rG2 X.kw true gMod) := opI_got op_mod fun d e r h => by
  cases d <;> cases e <;> simp only [gMod] at h <;> try cases h
  split at h <;> cases h
  rename_i hc
  exact ⟨_, _, rfl, rfl, hc, rfl⟩
theorem od_pow : OpR X (binaryOp .Pow) (rG2 X.kw true gPow) := opI_got op_pow fun d e r h => by
  cases d <;> cases e <;> simp only [gPow] at h <;> try cases h
  split at h <;> cases h
  rename_i hc
  exact ⟨_, _, rfl, rfl, hc, rfl⟩
theorem oc_lt : OpR X (compareOp .Lt) (rCmp X.kw gLt) := opC_got op_lt fun d e r h => by cases d <;> cases e <;> simp only [gLt] at h <;> cases h; exact ⟨_, _, rfl, rfl, rfl⟩
theorem oc_le : OpR X (compareOp .LtE) (rCmp X.kw gLe) := opC_got op_le fun d e r h => by cases d <;> cases e <;> simp only [gLe] at h <;> cases h; exact ⟨_, _, rfl, rfl, rfl⟩
theorem oc_gt : OpR X (compareOp .Gt) (rCmp X.kw gGt) := opC_got op_gt fun d e r h => by cases d <;> cases e <;> simp only [gGt] at h <;> cases h; exact ⟨_, _, rfl, rfl, rfl⟩
theorem oc_ge : OpR X (compareOp .GtE) (rCmp X.kw gGe) := opC_got op_ge fun d e r h => by cases d <;> cases e <;> simp only [gGe] at h <;> cases h; exact ⟨_, _, rfl, rfl, rfl⟩
theorem gEq_cases {d e : PyData} {b : Bool} (h : gEq d e = some (.bool b)) : (∃ i j, d = .int i ∧ e = .int j ∧ b = decide (i = j)) ∨ (∃ i j, d = .str i ∧ e = .str j ∧ b = decide (i = j)) ∨ (∃ i j, d = .bool i ∧ e = .bool j ∧ b = decide (i = j)) ∨
    (d.plain = true ∧ e.plain = true ∧ d.depth ≤ 64 ∧ b = PyData.eqv d e) ∨ (∃ x xs, d = .list (x :: xs) ∧ e = .list [] ∧ b = false) ∨ (∃ x xs, d = .tuple (x :: xs) ∧ e = .tuple [] ∧ b = false) := by
  unfold gEq at h
  split at h
  · cases h; exact .inl ⟨_, _, rfl, rfl, rfl⟩
  · cases h; exact .inr (.inl ⟨_, _, rfl, rfl, rfl⟩)
  · cases h; exact .inr (.inr (.inl ⟨_, _, rfl, rfl, rfl⟩))
  · cases h; exact .inr (.inr (.inr (.inr (.inl ⟨_, _, rfl, rfl, rfl⟩))))
  · cases h; exact .inr (.inr (.inr (.inr (.inr ⟨_, _, rfl, rfl, rfl⟩))))
  · split at h <;> cases h
    rename_i hc
    simp only [Bool.and_eq_true, decide_eq_true_eq] at hc
    exact .inr (.inr (.inr (.inl ⟨hc.1.1, hc.1.2, hc.2, rfl⟩)))
theorem oc_eq (hu : X.A.units + 64 < cLine) : OpR X (compareOp .Eq) (rCmp X.kw gEq) := by
  intro pins s σ H x y v u Q I rx ry q
  obtain ⟨F, d, e, r, h1, h2, h3, q⟩ := q
  rcases gEq_cases h3 with ⟨i, j, rfl, rfl, rfl⟩ | ⟨i, j, rfl, rfl, rfl⟩ | ⟨i, j, rfl, rfl, rfl⟩ | ⟨c1, c2, c3, rfl⟩ | ⟨x0, xs0, rfl, rfl, rfl⟩ | ⟨x0, xs0, rfl, rfl, rfl⟩
  · cases h1.int; cases h2.int
    exact op_eq pins s σ H _ _ v u Q I rx ry ⟨rfl, by simpa using q⟩
  · cases h1.str; cases h2.str
    exact op_eq pins s σ H _ _ v u Q I rx ry ⟨rfl, by simpa using q⟩
  · cases h1.bool; cases h2.bool
    exact op_eq pins s σ H _ _ v u Q I rx ry ⟨rfl, by simpa using q⟩
  · obtain ⟨as, r1, _⟩ := h1.reads I rx
    obtain ⟨bs, r2, _⟩ := h2.reads I ry
    exact SeqAt.eq_plain r1 r2 c1 c2 (by have : min d.depth e.depth ≤ d.depth := Nat.min_le_left _ _; omega) ⟨.bl _, H, I, rfl, q⟩
  · obtain ⟨as, r1, _⟩ := h1.reads I rx
    obtain ⟨bs, r2, _⟩ := h2.reads I ry
    cases r1 with
    | list a1 a2 a3 a4 =>
      cases r2 with
      | list k1 k2 k3 k4 =>
        have n1 := SeqAt.ReadsAll.length _ _ _ a4
        have n2 := SeqAt.ReadsAll.length _ _ _ k4
        exact SeqAt.RcAt.lists_lengths ⟨_, a1, a2, _, a3⟩ ⟨_, k1, k2, _, k3⟩ (by simp at n1 n2; simp [n1, n2]) (by omega) X.prog X.w _ _ ⟨.bl _, H, I, rfl, q⟩
  · obtain ⟨as, r1, _⟩ := h1.reads I rx
    obtain ⟨bs, r2, _⟩ := h2.reads I ry
    cases r1 with
    | @tuple l o vs n xs as₁ a1 a2 a3 a4 =>
      cases r2 with
      | @tuple l' o' vs' n' ys bs₁ k1 k2 k3 k4 =>
        have n1 := SeqAt.ReadsAll.length _ _ _ a4
        have n2 := SeqAt.ReadsAll.length _ _ _ k4
        have m1 : vs.size = xs0.length + 1 := by simpa using n1
        have m2 : vs'.size = 0 := by simpa using n2
        have z := SeqAt.RcAt.tuples (A := X.A) (e := fun _ => true) ⟨_, a1, a2, _, a3⟩ ⟨_, k1, k2, _, k3⟩ (by omega) (fun j j1 j2 => by omega)
        have e : ((List.range (min vs.size vs'.size)).all (fun _ => true) && vs.size == vs'.size) = false := by
          rw [m1, m2]
          simp
        rw [e] at z
        exact z X.prog X.w _ _ ⟨.bl _, H, I, rfl, q⟩
theorem oc_ne (hu : X.A.units + 64 < cLine) : OpR X (compareOp .NotEq) (rCmp X.kw gNe) := by
  intro pins s σ H x y v u Q I rx ry q
  obtain ⟨F, d, e, r, h1, h2, h3, q⟩ := q
  obtain ⟨b, h4, rfl⟩ : ∃ b, gEq d e = some (.bool b) ∧ r = !b := by
    unfold gNe at h3
    split at h3 <;> cases h3
    exact ⟨_, by assumption, rfl⟩
  rcases gEq_cases h4 with ⟨i, j, rfl, rfl, rfl⟩ | ⟨i, j, rfl, rfl, rfl⟩ | ⟨i, j, rfl, rfl, rfl⟩ | ⟨c1, c2, c3, rfl⟩ | ⟨x0, xs0, rfl, rfl, rfl⟩ | ⟨x0, xs0, rfl, rfl, rfl⟩
  · cases h1.int; cases h2.int
    exact op_ne pins s σ H _ _ v u Q I rx ry ⟨rfl, by simpa using q⟩
  · cases h1.str; cases h2.str
    exact op_ne pins s σ H _ _ v u Q I rx ry ⟨rfl, by simpa using q⟩
  · cases h1.bool; cases h2.bool
    exact op_ne pins s σ H _ _ v u Q I rx ry ⟨rfl, by simpa using q⟩
  · obtain ⟨as, r1, _⟩ := h1.reads I rx
    obtain ⟨bs, r2, _⟩ := h2.reads I ry
    exact SeqAt.ne_plain r1 r2 c1 c2 (by have : min d.depth e.depth ≤ d.depth := Nat.min_le_left _ _; omega) ⟨.bl _, H, I, rfl, q⟩
  · obtain ⟨as, r1, _⟩ := h1.reads I rx
    obtain ⟨bs, r2, _⟩ := h2.reads I ry
    cases r1 with
    | list a1 a2 a3 a4 =>
      cases r2 with
      | list k1 k2 k3 k4 =>
        have n1 := SeqAt.ReadsAll.length _ _ _ a4
        have n2 := SeqAt.ReadsAll.length _ _ _ k4
        exact SeqAt.RcNeAt.lists_lengths ⟨_, a1, a2, _, a3⟩ ⟨_, k1, k2, _, k3⟩ (by simp at n1 n2; simp [n1, n2]) (by omega) X.prog X.w _ _ ⟨.bl _, H, I, rfl, q⟩
  · obtain ⟨as, r1, _⟩ := h1.reads I rx
    obtain ⟨bs, r2, _⟩ := h2.reads I ry
    cases r1 with
    | @tuple l o vs n xs as₁ a1 a2 a3 a4 =>
      cases r2 with
      | @tuple l' o' vs' n' ys bs₁ k1 k2 k3 k4 =>
        have n1 := SeqAt.ReadsAll.length _ _ _ a4
        have n2 := SeqAt.ReadsAll.length _ _ _ k4
        have m1 : vs.size = xs0.length + 1 := by simpa using n1
        have m2 : vs'.size = 0 := by simpa using n2
        have z := SeqAt.RcNeAt.tuples (A := X.A) (e := fun _ => true) ⟨_, a1, a2, _, a3⟩ ⟨_, k1, k2, _, k3⟩ (by omega) (fun j j1 j2 => by omega)
        have e : ((List.range (min vs.size vs'.size)).all (fun _ => true) && vs.size == vs'.size) = false := by
          rw [m1, m2]
          simp
        rw [e] at z
        exact z X.prog X.w _ _ ⟨.bl _, H, I, rfl, q⟩
theorem RB.non_iff {K : KW} {F : Fz} {H : Hp} {v : V} {d : PyData} (r : RB K F H v d) : decide (v = .non) = isN d := by
  cases r with
  | rep r => cases r <;> rfl
  | l _ _ => rfl
  | d _ _ => rfl
theorem oc_is : OpR X (compareOp .Is) (rCmp X.kw gIsN) := by
  intro pins s σ H x y v u Q I rx ry q
  obtain ⟨F, d, e, r, h1, h2, h3, q⟩ := q
  cases e <;> simp only [gIsN] at h3 <;> try cases h3
  case none => exact op_isN pins s σ H x y v u Q I rx ry ⟨h2.none, by rw [h1.non_iff]; exact q⟩
  case bool b =>
    cases d <;> simp only at h3 <;> cases h3
    exact op_isBl pins s σ H x y v u Q I rx ry ⟨_, _, h1.bool, h2.bool, q⟩
theorem oc_isnot : OpR X (compareOp .IsNot) (rCmp X.kw gNotN) := by
  intro pins s σ H x y v u Q I rx ry q
  obtain ⟨F, d, e, r, h1, h2, h3, q⟩ := q
  cases e <;> simp only [gNotN] at h3 <;> try cases h3
  case none => exact op_notN pins s σ H x y v u Q I rx ry ⟨h2.none, by rw [h1.non_iff]; exact q⟩
  case bool b =>
    cases d <;> simp only at h3 <;> cases h3
    exact op_notBl pins s σ H x y v u Q I rx ry ⟨_, _, h1.bool, h2.bool, q⟩
theorem one_sign {x : Str} (h : x.length = 1) : x = ⟨#[x.cps.getD 0 0]⟩ := by
  obtain ⟨⟨l⟩⟩ := x
  cases l with
  | nil => simp [Str.length] at h
  | cons a r =>
    cases r with
    | nil => rfl
    | cons b t => simp [Str.length] at h
theorem gIn_cases {d e : PyData} {b : Bool} (h : gIn d e = some (.bool b)) : (∃ x y, d = .str x ∧ e = .str y ∧ x.length = 1 ∧ b = decide (x.cps.getD 0 0 ∈ y.cps.toList)) ∨
    (∃ xs, (e = .list xs ∨ e = .tuple xs) ∧ PyData.plainAll xs = true ∧ d.plain = true ∧ d.depth ≤ 64 ∧ b = xs.any fun y => PyData.eqv y d) := by
  cases e <;> simp only [gIn] at h <;> try cases h
  · cases d <;> simp only at h <;> try cases h
    split at h <;> cases h
    exact .inl ⟨_, _, rfl, rfl, by assumption, rfl⟩
  · split at h <;> cases h
    rename_i hc
    exact .inr ⟨_, .inl rfl, hc.1, hc.2.1, hc.2.2, rfl⟩
  · split at h <;> cases h
    rename_i hc
    exact .inr ⟨_, .inr rfl, hc.1, hc.2.1, hc.2.2, rfl⟩
theorem oc_in (hu : X.A.units + 70 < cLine) : OpR X (compareOp .In) (rCmp X.kw gIn) := by
  intro pins s σ H x y v u Q I rx ry q
  obtain ⟨F, d, e, r, h1, h2, h3, q⟩ := q
  rcases gIn_cases h3 with ⟨a, b, rfl, rfl, hl, rfl⟩ | ⟨xs, he, c1, c2, c3, rfl⟩
  · have ex := h1.str
    rw [one_sign hl] at ex
    exact op_in_sign pins s σ H x y v u Q I rx ry ⟨_, b, ex, h2.str, q⟩
  · obtain ⟨as, r1, _⟩ := h1.reads I rx
    obtain ⟨bs, r2, _⟩ := h2.reads I ry
    have hm : X.A.units + 1 + min (PyData.depthAll xs) d.depth < cLine := by have : min (PyData.depthAll xs) d.depth ≤ d.depth := Nat.min_le_right _ _; omega
    rcases he with rfl | rfl
    · exact SeqAt.in_list_data r2 r1 c1 c2 hm ⟨.bl _, H, I, rfl, q⟩
    · exact SeqAt.in_tuple_data r2 r1 c1 c2 hm ⟨.bl _, H, I, rfl, q⟩
theorem oc_notin (hu : X.A.units + 70 < cLine) : OpR X (compareOp .NotIn) (rCmp X.kw gNotIn) := by
  intro pins s σ H x y v u Q I rx ry q
  obtain ⟨F, d, e, r, h1, h2, h3, q⟩ := q
  obtain ⟨b, h4, rfl⟩ : ∃ b, gIn d e = some (.bool b) ∧ r = !b := by
    unfold gNotIn at h3
    split at h3 <;> cases h3
    exact ⟨_, by assumption, rfl⟩
  rcases gIn_cases h4 with ⟨a, b, rfl, rfl, hl, rfl⟩ | ⟨xs, he, c1, c2, c3, rfl⟩
  · have ex := h1.str
    rw [one_sign hl] at ex
    exact op_notIn_sign pins s σ H x y v u Q I rx ry ⟨_, b, ex, h2.str, q⟩
  · obtain ⟨as, r1, _⟩ := h1.reads I rx
    obtain ⟨bs, r2, _⟩ := h2.reads I ry
    have hm : X.A.units + 1 + min (PyData.depthAll xs) d.depth < cLine := by have : min (PyData.depthAll xs) d.depth ≤ d.depth := Nat.min_le_right _ _; omega
    rcases he with rfl | rfl
    · exact SeqAt.notIn_list_data r2 r1 c1 c2 hm ⟨.bl _, H, I, rfl, q⟩
    · exact SeqAt.notIn_tuple_data r2 r1 c1 c2 hm ⟨.bl _, H, I, rfl, q⟩
theorem od_neg : UnR X (unaryOp .USub) (rG1 X.kw true gNeg) := by
  intro pins s σ H x v Q I rx q
  obtain ⟨F, d, r, h1, h3, q⟩ := q
  cases d <;> simp only [gNeg] at h3 <;> cases h3
  exact un_neg pins s σ H x v Q I rx ⟨_, h1.int, q _ _ (.same (.inr rfl) (.int _))⟩
end
end DE
end
section
set_option Elab.async false
set_option linter.all false
set_option maxRecDepth 100000
set_option maxHeartbeats 1000000
/-! how data is shown -/
namespace DE
open PySem PySem.Spec PyProof.Rows L2
section
variable {X : Cx} {pins : List (Addr × Obj)} {σ : L2.St} {F : Fz} {H : Hp} {s : Shared}
/-- one level: from the items' texts -/
theorem kr_list {a : Addr} {vs : List V} {its : List Value} {xs : List PyData} {o : Obj} {n : Nat} {as : List Addr} (ho : s.heap.get? a = some o) (hc : o.cls = .type "list") (hd : o.data = .seq its.toArray n) (hr : ReadsAll s.heap its xs as)
    {bs : List Addr} (hb : ReadAtMost s.heap (PyData.depthAll xs) bs) (hk : ReprAllK X.prog X.w bs s.heap (PyData.depthAll xs) its (PyData.shownAll xs)) :
    a ∉ bs ∧ ReadAtMost s.heap (PyData.list xs).depth (a :: bs) ∧ ReprK X.prog X.w (a :: bs) s.heap (PyData.list xs).depth (.ref a) (PyData.list xs).shown := by
  have rr : Reads s.heap (.ref a) (.list xs) _ := Reads.list ho hc hd hr
  have nm : a ∉ bs := not_mem_of_deeper rr (by simp only [PyData.depth]; omega) hb
  refine ⟨nm, ReadAtMost.cons rr (by simp only [PyData.depth]; omega) hb, ?_⟩
  simp only [PyData.shown, PyData.depth]
  cases its with
  | nil =>
    cases hr
    simp only [listText_nil, PyData.shownAll]
    exact ReprK.listEmpty ho hc hd
  | cons x l => exact ReprK.list ho hc hd nm (by simpa using hk.length_eq) (fun i y e => hk.item i y (by simpa using e))
theorem kr_tup {a : Addr} {its : List Value} {xs : List PyData} {o : Obj} {n : Nat} {as : List Addr} (ho : s.heap.get? a = some o) (hc : o.cls = .type "tuple") (hd : o.data = .seq its.toArray n) (hr : ReadsAll s.heap its xs as)
    {bs : List Addr} (hb : ReadAtMost s.heap (PyData.depthAll xs) bs) (hk : ReprAllK X.prog X.w bs s.heap (PyData.depthAll xs) its (PyData.shownAll xs)) :
    a ∉ bs ∧ ReadAtMost s.heap (PyData.tuple xs).depth (a :: bs) ∧ ReprK X.prog X.w (a :: bs) s.heap (PyData.tuple xs).depth (.ref a) (PyData.tuple xs).shown := by
  have rr : Reads s.heap (.ref a) (.tuple xs) _ := Reads.tuple ho hc hd hr
  have nm : a ∉ bs := not_mem_of_deeper rr (by simp only [PyData.depth]; omega) hb
  refine ⟨nm, ReadAtMost.cons rr (by simp only [PyData.depth]; omega) hb, ?_⟩
  simp only [PyData.shown, PyData.depth]
  exact ReprK.tuple ho hc hd nm hk
theorem shown_len_l {xs : List PyData} (h : (PyData.list xs).shown.length ≤ sizeLine) : ∀ t ∈ PyData.shownAll xs, t.length ≤ sizeLine := fun t ht => by
  simp only [PyData.shown] at h
  exact Nat.le_trans (listText_mem_le ht) h
theorem shown_len_t {xs : List PyData} (h : (PyData.tuple xs).shown.length ≤ sizeLine) : ∀ t ∈ PyData.shownAll xs, t.length ≤ sizeLine := fun t ht => by
  simp only [PyData.shown] at h
  exact Nat.le_trans (tupleText_mem_le ht) h
mutual
theorem Rep.kr (I : Inv X pins σ H s) : ∀ {v : V} {d : PyData} {u : Value}, Rep X.kw F H v d → RelV v u → d.showable = true → d.shown.length ≤ sizeLine → ∃ bs, ReadAtMost s.heap d.depth bs ∧ ReprK X.prog X.w bs s.heap d.depth u d.shown
  | _, _, _, .non, r, _, _ => by cases r; exact ⟨[], (fun _ h => nomatch h), by rw [PyData.shown]; exact .of_is ReprIs.none _ _ _⟩
  | _, _, _, .bl b, r, _, _ => by cases r; exact ⟨[], (fun _ h => nomatch h), by rw [PyData.shown]; exact .of_is (ReprIs.bool b) _ _ _⟩
  | _, _, _, .int i, r, hs, _ => by obtain ⟨t, rfl⟩ := r; exact ⟨[], (fun _ h => nomatch h), by rw [PyData.shown]; exact .of_is (ReprIs.int t (by simpa [PyData.showable] using hs)) _ _ _⟩
  | _, _, _, .str x, r, _, hz => by obtain ⟨t, rfl⟩ := r; exact ⟨[], (fun _ h => nomatch h), by rw [PyData.shown]; exact .of_is (ReprIs.str x t (by rw [PyData.shown] at hz; exact hz)) _ _ _⟩
  | _, _, _, .tup h q, r, hs, hz => by
    cases r
    obtain ⟨its, rv, ⟨o, ho, hc, n, hd⟩, _⟩ := I.tuple h.sq
    obtain ⟨as, hr, _⟩ := Reps.reads I q rv
    obtain ⟨bs, hb, hk⟩ := Reps.kr I q rv (by simpa [PyData.showable] using hs) (shown_len_t hz)
    obtain ⟨_, h1, h2⟩ := kr_tup ho hc hd hr hb hk
    exact ⟨_, h1, h2⟩
  | _, _, _, .lst h q, r, hs, hz => by
    cases r
    obtain ⟨its, rv, ⟨o, n, ho, hc, _, hd⟩, _⟩ := I.list h.sq
    obtain ⟨as, hr, _⟩ := Reps.reads I q rv
    obtain ⟨bs, hb, hk⟩ := Reps.kr I q rv (by simpa [PyData.showable] using hs) (shown_len_l hz)
    obtain ⟨_, h1, h2⟩ := kr_list (vs := []) ho hc hd hr hb hk
    exact ⟨_, h1, h2⟩
  | _, _, _, .dct (a := a) (es := kvs) h1 h2 q1 q2, r, hs, hz => by
    cases r
    obtain ⟨_, hsy, vs, rk, o, es, ep, ho, hx, hd, ha, hp, _⟩ := dk_of I.hok h2
    obtain ⟨r1, r2⟩ := keyVals rk hp
    obtain ⟨as, hr1, _⟩ := Reps.reads I q1 r1
    obtain ⟨cs, hr2, _⟩ := Reps.reads I q2 r2
    have hz' : (dictText (PyData.shownKv kvs)).length ≤ sizeLine := by rw [PyData.shown] at hz; exact hz
    obtain ⟨s1, s2⟩ := PyData.showableKv_split kvs (by simpa [PyData.showable] using hs)
    obtain ⟨b1, hb1, k1⟩ := Reps.kr I q1 r1 s1 (fun t ht => by obtain ⟨p, hp, hl⟩ := PyData.shownKv_key_le kvs t ht; exact Nat.le_trans hl (Nat.le_trans (dictText_mem_le hp) hz'))
    obtain ⟨b2, hb2, k2⟩ := Reps.kr I q2 r2 s2 (fun t ht => by obtain ⟨p, hp, hl⟩ := PyData.shownKv_val_le kvs t ht; exact Nat.le_trans hl (Nat.le_trans (dictText_mem_le hp) hz'))
    have rr : Reads s.heap (.ref a) (.dict kvs) _ := Reads.dict ho hx.1 hd hr1 hr2
    have hb : ReadAtMost s.heap (PyData.depthKv kvs) (b1 ++ b2) := (hb1.mono (PyData.depthAll_keys_le kvs)).append (hb2.mono (PyData.depthAll_vals_le kvs))
    have nm : a ∉ b1 ++ b2 := not_mem_of_deeper rr (by simp only [PyData.depth]; omega) hb
    refine ⟨a :: (b1 ++ b2), ReadAtMost.cons rr (by simp only [PyData.depth]; omega) hb, ?_⟩
    rw [PyData.shown, PyData.shownKv_eq, PyData.depth]
    refine ReprK.dict ho hx.1 hd hsy nm (ReprEntriesK.of_two es.toList _ _ ?_ ?_)
    · exact k1.more_le (fun b hb => List.mem_append_left _ hb) (PyData.depthAll_keys_le kvs)
    · exact k2.more_le (fun b hb => List.mem_append_right _ hb) (PyData.depthAll_vals_le kvs)
theorem Reps.kr (I : Inv X pins σ H s) : ∀ {vs : List V} {ds : List PyData} {us : List Value}, Reps X.kw F H vs ds → Vals vs us → PyData.showableAll ds = true → (∀ t ∈ PyData.shownAll ds, t.length ≤ sizeLine) →
    ∃ bs, ReadAtMost s.heap (PyData.depthAll ds) bs ∧ ReprAllK X.prog X.w bs s.heap (PyData.depthAll ds) us (PyData.shownAll ds)
  | _, _, _, .nil, r, _, _ => by cases r; exact ⟨[], (fun _ h => nomatch h), by rw [PyData.shownAll]; exact .nil⟩
  | _, _, _, .cons (d := d) (ds := ds) a b, r, hs, hz => by
    cases r with
    | cons r1 r2 =>
      have hs' : d.showable = true ∧ PyData.showableAll ds = true := by simpa [PyData.showableAll] using hs
      simp only [PyData.shownAll, List.mem_cons] at hz
      obtain ⟨b1, hb1, k1⟩ := Rep.kr I a r1 hs'.1 (hz _ (.inl rfl))
      obtain ⟨b2, hb2, k2⟩ := Reps.kr I b r2 hs'.2 (fun t ht => hz t (.inr ht))
      refine ⟨b1 ++ b2, ?_, ?_⟩
      · rw [PyData.depthAll]
        exact (hb1.mono (Nat.le_max_left _ _)).append (hb2.mono (Nat.le_max_right _ _))
      · rw [PyData.depthAll, PyData.shownAll]
        exact .cons ((k1.more fun b hb => List.mem_append_left _ hb).level_le (Nat.le_max_left _ _)) (k2.more_le (fun b hb => List.mem_append_right _ hb) (Nat.le_max_right _ _))
end
variable {A : Around} {E : Value → Shared → Prop} {Q : Value → Shared → Prop}
theorem repr_list {a : Addr} {vs : List V} {xs : List PyData} (I : Inv X pins σ H s) (hq : SqL X.kw H a vs) (q : Reps X.kw F H vs xs) (hs : (PyData.list xs).showable = true) (hz : (PyData.list xs).shown.length ≤ sizeLine) (hg : A.guards = some []) (hu : A.units + ((PyData.list xs).depth + 1) < cLine)
    (hQ : ∀ h' u tk, (∀ b o, s.heap.get? b = some o → h'.get? b = some o) → Q (.str (PyData.list xs).shown u) { s with heap := h', toks := tk }) : wpAny (model X.prog X.w) A (call (.builtin "repr") [.ref a]) Q E s := by
  obtain ⟨its, rv, ⟨o, n, ho, hc, _, hd⟩, _⟩ := I.list hq
  obtain ⟨as, hr, _⟩ := Reps.reads I q rv
  obtain ⟨bs, hb, hk⟩ := Reps.kr I q rv (by simpa [PyData.showable] using hs) (shown_len_l hz)
  obtain ⟨nm, _, _⟩ := kr_list (vs := []) ho hc hd hr hb hk
  have hz' : (listText (PyData.shownAll xs)).length ≤ sizeLine := by rw [PyData.shown] at hz; exact hz
  rw [PyData.depth] at hu
  rw [PyData.shown] at hQ
  refine call_repr_slot (by omega) ⟨o, ho, hc⟩ PySem.F.slot_list_repr.toG ?_
  cases its with
  | nil =>
    cases hr
    simp only [PyData.shownAll, listText_nil] at hQ
    exact call_list_repr_empty ⟨o, ho, hc⟩ ho hd ⟨_, _, rfl, hQ s.heap _ _ fun _ _ e => e⟩
  | cons x l => exact call_list_reprK ho hc hd nm (by simpa using hk.length_eq) (fun i y e => hk.item i y (by simpa using e)) hg (fun b _ => Clear.nil b) (by show A.units + 1 + _ < cLine; omega) (fun _ _ z => z) (fun h' u tk hk => ⟨_, _, rfl, hQ h' u tk hk⟩) hz'
theorem repr_tup {a : Addr} {vs : List V} {xs : List PyData} (I : Inv X pins σ H s) (hq : SqT X.kw H a vs) (q : Reps X.kw F H vs xs) (hs : (PyData.tuple xs).showable = true) (hz : (PyData.tuple xs).shown.length ≤ sizeLine) (hg : A.guards = some []) (hu : A.units + ((PyData.tuple xs).depth + 1) < cLine)
    (hQ : ∀ h' u tk, (∀ b o, s.heap.get? b = some o → h'.get? b = some o) → Q (.str (PyData.tuple xs).shown u) { s with heap := h', toks := tk }) : wpAny (model X.prog X.w) A (call (.builtin "repr") [.ref a]) Q E s := by
  obtain ⟨its, rv, ⟨o, ho, hc, n, hd⟩, _⟩ := I.tuple hq
  obtain ⟨as, hr, _⟩ := Reps.reads I q rv
  obtain ⟨bs, hb, hk⟩ := Reps.kr I q rv (by simpa [PyData.showable] using hs) (shown_len_t hz)
  obtain ⟨nm, _, _⟩ := kr_tup ho hc hd hr hb hk
  have hz' : (tupleText (PyData.shownAll xs)).length ≤ sizeLine := by rw [PyData.shown] at hz; exact hz
  rw [PyData.depth] at hu
  rw [PyData.shown] at hQ
  exact call_repr_slot (by omega) ⟨o, ho, hc⟩ PySem.F.slot_tuple_repr (call_tuple_reprK ho hc hd nm hk hg (fun b _ => Clear.nil b) (by show A.units + 1 + _ < cLine; omega) (fun _ _ z => z) (fun h' u tk hk => ⟨_, _, rfl, hQ h' u tk hk⟩) hz')
/-- repr of a dict: as it is read, no list beside it, or in general by its entries -/
theorem repr_dict {a : Addr} {ks : List (Key × V)} {kvs : List (PyData × PyData)} (I : Inv X pins σ H s) (h2 : H a = some (.dK ks)) (q1 : Reps X.kw F H (ks.map fun p => kV p.1) (kvs.map (·.1))) (q2 : Reps X.kw F H (ks.map (·.2)) (kvs.map (·.2))) (hs : (PyData.dict kvs).showable = true) (hz : (PyData.dict kvs).shown.length ≤ sizeLine) (hg : A.guards = some []) (hu : A.units + ((PyData.dict kvs).depth + 1) < cLine)
    (hQ : ∀ h' u tk, (∀ b o, s.heap.get? b = some o → h'.get? b = some o) → Q (.str (PyData.dict kvs).shown u) { s with heap := h', toks := tk }) : wpAny (model X.prog X.w) A (call (.builtin "repr") [.ref a]) Q E s := by
  obtain ⟨_, hsy, vs, rk, o, es, ep, ho, hx, hd, ha, hp, _⟩ := dk_of I.hok h2
  obtain ⟨r1, r2⟩ := keyVals rk hp
  obtain ⟨as, hr1, _⟩ := Reps.reads I q1 r1
  obtain ⟨cs, hr2, _⟩ := Reps.reads I q2 r2
  have hz' : (dictText (PyData.shownKv kvs)).length ≤ sizeLine := by rw [PyData.shown] at hz; exact hz
  obtain ⟨s1, s2⟩ := PyData.showableKv_split kvs (by simpa [PyData.showable] using hs)
  obtain ⟨b1, hb1, k1⟩ := Reps.kr I q1 r1 s1 (fun t ht => by obtain ⟨p, hp, hl⟩ := PyData.shownKv_key_le kvs t ht; exact Nat.le_trans hl (Nat.le_trans (dictText_mem_le hp) hz'))
  obtain ⟨b2, hb2, k2⟩ := Reps.kr I q2 r2 s2 (fun t ht => by obtain ⟨p, hp, hl⟩ := PyData.shownKv_val_le kvs t ht; exact Nat.le_trans hl (Nat.le_trans (dictText_mem_le hp) hz'))
  have rr : Reads s.heap (.ref a) (.dict kvs) _ := Reads.dict ho hx.1 hd hr1 hr2
  have hb : ReadAtMost s.heap (PyData.depthKv kvs) (b1 ++ b2) := (hb1.mono (PyData.depthAll_keys_le kvs)).append (hb2.mono (PyData.depthAll_vals_le kvs))
  have nm : a ∉ b1 ++ b2 := not_mem_of_deeper rr (by simp only [PyData.depth]; omega) hb
  rw [PyData.depth] at hu
  rw [PyData.shown, PyData.shownKv_eq] at hQ
  have ke : ReprEntriesK X.prog X.w (b1 ++ b2) s.heap (PyData.depthKv kvs) es.toList _ := ReprEntriesK.of_two es.toList _ _
    (k1.more_le (fun b hb => List.mem_append_left _ hb) (PyData.depthAll_keys_le kvs)) (k2.more_le (fun b hb => List.mem_append_right _ hb) (PyData.depthAll_vals_le kvs))
  exact call_repr_slot (by omega) ⟨o, ho, hx.1⟩ PySem.F.slot_dict_repr (call_dict_reprK ho hx.1 hd hsy nm ke hg (fun b _ => Clear.nil b) (by show A.units + 1 + _ < cLine; omega) (fun _ _ z => z) (fun h' u tk hk => ⟨_, _, rfl, hQ h' u tk hk⟩) (by rw [← PyData.shownKv_eq]; exact hz'))
end
end DE
end
section
set_option Elab.async false
set_option linter.all false
set_option maxRecDepth 100000
set_option maxHeartbeats 1000000
/-! built-ins, subscripts, slices, walks -/
namespace DE
open PySem PySem.Spec PyProof.Rows L2

def tyN : PyData → String
  | .none => "NoneType"
  | .bool _ => "bool"
  | .int _ => "int"
  | .str _ => "str"
  | .list _ => "list"
  | .tuple _ => "tuple"
  | .dict _ => "dict"
inductive Ty where
  | int | str | bool | tuple | list | dict
def Ty.name : Ty → String
  | .int => "int"
  | .str => "str"
  | .bool => "bool"
  | .tuple => "tuple"
  | .list => "list"
  | .dict => "dict"
def isi : Ty → PyData → Bool
  | .int, .int _ => true
  | .int, .bool _ => true
  | .bool, .bool _ => true
  | .str, .str _ => true
  | .tuple, .tuple _ => true
  | .list, .list _ => true
  | .dict, .dict _ => true
  | _, _ => false
theorem kit_isi : ∀ (T : Ty) (d : PyData), kitB (tyN d) T.name = some (isi T d) := by
  intro T d
  cases T <;> cases d <;> (simp only [tyN, Ty.name, isi]; decide +kernel)

def asBools : List PyData → Option (List Bool)
  | [] => some []
  | .bool b :: r => (match asBools r with | some l => some (b :: l) | none => none)
  | _ :: _ => none
def asStrs : List PyData → Option (List Str)
  | [] => some []
  | .str b :: r => (match asStrs r with | some l => some (b :: l) | none => none)
  | _ :: _ => none

def gLen : PyData → Option PyData
  | .str x => if x.length ≤ sizeLine then some (.int x.length) else none
  | .list xs => some (.int xs.length)
  | .tuple xs => some (.int xs.length)
  | .dict xs => some (.int xs.length)
  | _ => none
def gAll : PyData → Option PyData
  | .list xs => (match asBools xs with | some bs => some (.bool (bs.all id)) | none => none)
  | _ => none
def gAny : PyData → Option PyData
  | .list xs => (match asBools xs with | some bs => some (.bool (bs.any id)) | none => none)
  | _ => none
def gAbs : PyData → Option PyData
  | .int i => some (.int (if i < 0 then -i else i))
  | _ => none
def gInt : PyData → Option PyData
  | .int i => some (.int i)
  | .bool b => some (.int (if b then 1 else 0))
  | _ => none
def gBool : PyData → Option PyData
  | .int i => some (.bool (i != 0))
  | .bool b => some (.bool b)
  | _ => none
def gStr : PyData → Option PyData
  | .int i => if i.natAbs.log2 < 1920 then some (.str (toString i)) else none
  | .str x => some (.str x)
  | .bool b => some (.str (if b then "True" else "False"))
  | _ => none
def gRepr (d : PyData) : Option PyData := if d.showable = true ∧ d.depth ≤ 64 ∧ d.shown.length ≤ sizeLine then some (.str d.shown) else none
def gList : PyData → Option PyData
  | .list xs => some (.list xs)
  | .tuple xs => some (.list xs)
  | _ => none
def gTuple : PyData → Option PyData
  | .list xs => some (.tuple xs)
  | .tuple xs => some (.tuple xs)
  | _ => none
def g1 (g : PyData → Option PyData) : List PyData → Option PyData
  | [d] => g d
  | _ => none
def keyD : PyData → Option Key
  | .int i => some (.inl i)
  | .str x => some (.inr x)
  | _ => none
def valD (es : List (PyData × PyData)) (k : Key) : Option PyData := (es.find? fun p => decide (keyD p.1 = some k)).map (·.2)
def putD (es : List (PyData × PyData)) (k d : PyData) : List (PyData × PyData) :=
  if (es.any fun p => decide (keyD p.1 = keyD k)) = true then es.map (fun p => if keyD p.1 = keyD k then (p.1, d) else p) else es ++ [(k, d)]
def gIdx : PyData → PyData → Option PyData
  | .list xs, .int i => atI xs i
  | .tuple xs, .int i => atI xs i
  | .str x, .int i => if x.length ≤ sizeLine then (atI x.cps.toList i).map fun c => .str ⟨#[c]⟩ else none
  | .dict es, k => (match keyD k with | some key => valD es key | none => none)
  | _, _ => none
def cutD (xs : List PyData) (lo hi : Option Int) : List PyData := (xs.drop (HT.sIx xs.length 0 lo)).take (HT.sIx xs.length xs.length hi - HT.sIx xs.length 0 lo)
def gSl (d : PyData) (lo hi : Option Int) : Option PyData := match d with
  | .list xs => some (.list (cutD xs lo hi))
  | .tuple xs => some (.tuple (cutD xs lo hi))
  | .str x => if x.length ≤ sizeLine then some (.str (cutS x lo hi)) else none
  | _ => none
def gRev : PyData → Option PyData
  | .list xs => some (.list xs.reverse)
  | .tuple xs => some (.tuple xs.reverse)
  | _ => none

section
variable {K : KW} {F : Fz} {H : Hp}
theorem RBs.one {xs : List V} {d : PyData} (r : RBs K F H xs [d]) : ∃ x, xs = [x] ∧ RB K F H x d := by
  cases r with | cons a b => cases b; exact ⟨_, rfl, a⟩
theorem Reps.bools : ∀ {vs : List V} {ds : List PyData} {bs : List Bool}, Reps K F H vs ds → asBools ds = some bs → vs = bs.map V.bl
  | _, _, _, .nil, e => by cases e; rfl
  | _, _, bs, .cons (d := d) (ds := ds) a b, e => by
    cases d <;> simp only [asBools] at e <;> try cases e
    rename_i c
    cases q : asBools ds with
    | none => rw [q] at e; cases e
    | some l => rw [q] at e; cases e; cases a; rw [Reps.bools b q]; rfl
theorem Reps.strs : ∀ {vs : List V} {ds : List PyData} {bs : List Str}, Reps K F H vs ds → asStrs ds = some bs → vs = bs.map V.str
  | _, _, _, .nil, e => by cases e; rfl
  | _, _, bs, .cons (d := d) (ds := ds) a b, e => by
    cases d <;> simp only [asStrs] at e <;> try cases e
    rename_i c
    cases q : asStrs ds with
    | none => rw [q] at e; cases e
    | some l => rw [q] at e; cases e; cases a; rw [Reps.strs b q]; rfl
theorem RB.ty {v : V} {d : PyData} (r : RB K F H v d) : TyX K H v (.type (tyN d)) := by
  cases r with
  | l h _ => exact .base (.lst h)
  | d h _ => exact .base (.dK h)
  | rep r =>
    cases r with
    | non => exact .base .non
    | bl b => exact .base (.bl b)
    | int i => exact .base (.int i)
    | str x => exact .base (.str x)
    | tup h _ =>
      rcases h with ⟨o, h, _⟩ | ⟨o, its, n, h, c, _⟩
      · exact .fTuple h
      · exact .kTuple h c
    | lst h _ =>
      rcases h with ⟨_, h⟩ | ⟨o, h⟩ | ⟨its, n, h, _⟩
      · exact .base (.lst h)
      · exact .base (.frz h)
      · exact .kList h rfl
    | dct _ h _ _ => exact .base (.dK h)
end
section
variable {X : Cx}
/-- a built-in of one argument -/
theorem call1 {f : Value} {nw : Bool} {g : PyData → Option PyData}
    (h : ∀ (pins : List (Addr × Obj)) (s : Shared) (σ : L2.St) (H : Hp) (x : V) (u : Value) (Q : VK) (F : Fz) (d r : PyData), Inv X pins σ H s → RelV x u → RB X.kw F H x d → g d = some r → (∀ w H1, Got X.kw F nw H H1 w r → Q w H1) →
      wpAny (model X.prog X.w) X.A (call f [u]) (EP X pins σ Q) X.xe s) : CallR X f (rGN X.kw nw (g1 g)) := by
  intro pins s σ H xs us Q I r q
  obtain ⟨F, ds, d, h1, h2, q⟩ := q
  unfold g1 at h2
  split at h2
  · obtain ⟨x, rfl, rx⟩ := h1.one
    obtain ⟨u, rfl, ru⟩ := vals1 r
    exact h pins s σ H x u Q F _ d I ru rx h2 q
  · cases h2
/-- .. by a rule of the layer -/
theorem call1r {f : Value} {nw : Bool} {g : PyData → Option PyData} {r : List V → Hp → VK → Prop} (hr : CallR X f r)
    (h : ∀ (H : Hp) (x : V) (Q : VK) (F : Fz) (d o : PyData), RB X.kw F H x d → g d = some o → (∀ w H1, Got X.kw F nw H H1 w o → Q w H1) → r [x] H Q) : CallR X f (rGN X.kw nw (g1 g)) :=
  call1 fun pins s σ H x u Q F d o I ru rx hg q => hr pins s σ H [x] [u] Q I (.cons ru .nil) (h H x Q F d o rx hg q)
theorem cd_len : CallR X (.builtin "len") (rGN X.kw true (g1 gLen)) := call1 fun pins s σ H x u Q F d o I ru rx hg q => by
  cases d <;> simp only [gLen] at hg <;> try cases hg
  case str y =>
    split at hg <;> cases hg
    rename_i hl
    cases rx.str
    exact call_len pins s σ H _ _ Q I (.cons ru .nil) ⟨_, y.length, rfl, ⟨hl, rfl⟩, q _ _ (.same (.inr rfl) (.int _))⟩
  case list ys =>
    obtain ⟨a, vs, rfl, hs, r⟩ := rx.list
    exact call_len pins s σ H _ _ Q I (.cons ru .nil) ⟨_, ys.length, rfl, .inl ⟨_, hs, r.length.symm⟩, q _ _ (.same (.inr rfl) (.int _))⟩
  case tuple ys =>
    obtain ⟨a, vs, rfl, hs, r⟩ := rx.tup
    exact call_len pins s σ H _ _ Q I (.cons ru .nil) ⟨_, ys.length, rfl, .inr ⟨_, hs.sq, r.length.symm⟩, q _ _ (.same (.inr rfl) (.int _))⟩
  case dict ys =>
    obtain ⟨a, vs, rfl, hs, r⟩ := rx.dict
    have e : vs.length = ys.length := by have := r.1.length; simpa using this
    exact call_lenD pins s σ H _ _ Q I (.cons ru .nil) ⟨_, vs, rfl, hs, by rw [e]; exact q _ _ (.same (.inr rfl) (.int _))⟩
theorem cd_all (hc : X.calm = true) : CallR X (.builtin "all") (rGN X.kw true (g1 gAll)) := call1r (cr_all hc) fun H x Q F d o rx hg q => by
  cases d <;> simp only [gAll] at hg <;> try cases hg
  split at hg <;> cases hg
  rename_i bs hb
  obtain ⟨a, vs, rfl, hs, r⟩ := rx.list
  rw [r.bools hb] at hs
  exact ⟨a, bs, rfl, hs, q _ _ (.same (.inr rfl) (.bl _))⟩
theorem cd_any (hc : X.calm = true) : CallR X (.builtin "any") (rGN X.kw true (g1 gAny)) := call1r (cr_any hc) fun H x Q F d o rx hg q => by
  cases d <;> simp only [gAny] at hg <;> try cases hg
  split at hg <;> cases hg
  rename_i bs hb
  obtain ⟨a, vs, rfl, hs, r⟩ := rx.list
  rw [r.bools hb] at hs
  exact ⟨a, bs, rfl, hs, q _ _ (.same (.inr rfl) (.bl _))⟩
theorem cd_abs : CallR X (.builtin "abs") (rGN X.kw true (g1 gAbs)) := call1r call_abs fun H x Q F d o rx hg q => by
  cases d <;> simp only [gAbs] at hg <;> cases hg
  exact ⟨_, by rw [rx.int], q _ _ (.same (.inr rfl) (.int _))⟩
theorem cd_int : CallR X (.type "int") (rGN X.kw true (g1 gInt)) := call1r call_int1 fun H x Q F d o rx hg q => by
  cases d <;> simp only [gInt] at hg <;> cases hg
  · exact .inr ⟨_, by rw [rx.bool], q _ _ (.same (.inr rfl) (.int _))⟩
  · exact .inl ⟨_, by rw [rx.int], q _ _ (.same (.inr rfl) (.int _))⟩
theorem cd_bool : CallR X (.type "bool") (rGN X.kw true (g1 gBool)) := call1r call_bool1 fun H x Q F d o rx hg q => by
  cases d <;> simp only [gBool] at hg <;> cases hg
  · exact .inr ⟨_, by rw [rx.bool], q _ _ (.same (.inr rfl) (.bl _))⟩
  · exact .inl ⟨_, by rw [rx.int], q _ _ (.same (.inr rfl) (.bl _))⟩
theorem cd_str : CallR X (.type "str") (rGN X.kw true (g1 gStr)) := call1 fun pins s σ H x u Q F d o I ru rx hg q => by
  cases d <;> simp only [gStr] at hg <;> try cases hg
  · rename_i b
    cases rx.bool
    cases ru
    exact PySem.P.str_of_bool ⟨.str _, H, I.tok _, ⟨_, rfl⟩, q _ _ (.same (.inr rfl) (.str _))⟩
  · split at hg <;> cases hg
    rename_i hl
    exact call_str_int pins s σ H _ _ Q I (.cons ru .nil) ⟨_, by rw [rx.int], hl, q _ _ (.same (.inr rfl) (.str _))⟩
  · exact SkE.call_str_str pins s σ H _ _ Q I (.cons ru .nil) ⟨_, by rw [rx.str], q _ _ (.same (.inr rfl) (.str _))⟩
theorem cd_list : CallR X (.type "list") (rGN X.kw true (g1 gList)) := call1r call_list_of fun H x Q F d o rx hg q => by
  cases d <;> simp only [gList] at hg <;> cases hg
  · obtain ⟨a, vs, rfl, hs, r⟩ := rx.list
    exact ⟨a, vs, rfl, .inl hs, fun p hp => q _ _ (.lst hp r)⟩
  · obtain ⟨a, vs, rfl, hs, r⟩ := rx.tup
    exact ⟨a, vs, rfl, .inr hs.sq, fun p hp => q _ _ (.lst hp r)⟩
theorem cd_tuple : CallR X (.type "tuple") (rGN X.kw true (g1 gTuple)) := call1r call_tupleX fun H x Q F d o rx hg q => by
  cases d <;> simp only [gTuple] at hg <;> cases hg
  · obtain ⟨a, vs, rfl, hs, r⟩ := rx.list
    exact ⟨a, vs, rfl, .inl ⟨hs, fun p o hp ho => q _ _ (.tup hp ho r)⟩⟩
  · obtain ⟨a, vs, rfl, hs, r⟩ := rx.tup
    exact ⟨a, vs, rfl, .inr ⟨hs.sq, q _ _ (.same (.inr rfl) (.tup hs r))⟩⟩
theorem cd_repr (hg : X.A.guards = some []) (hu : X.A.units + 70 < cLine) : CallR X (.builtin "repr") (rGN X.kw true (g1 gRepr)) := call1 fun pins s σ H x u Q F d o I ru rx hgr q => by
  unfold gRepr at hgr
  split at hgr
  rotate_left
  · cases hgr
  rename_i hc
  obtain ⟨c1, c3, c4⟩ := hc
  cases hgr
  have q' := q _ _ (.same (.inr rfl) (.str _))
  have fin : ∀ h' t tk, (∀ b o, s.heap.get? b = some o → h'.get? b = some o) → EP X pins σ Q (.str d.shown t) { s with heap := h', toks := tk } := fun h' t tk hk => ⟨.str _, H, I.kept hk, ⟨_, rfl⟩, q'⟩
  cases rx with
  | l h1 r => cases ru; exact repr_list I (SqL.of h1) r c1 c4 hg (by omega) fin
  | d h1 r => cases ru; exact repr_dict I h1 r.1 r.2 c1 c4 hg (by omega) fin
  | rep r =>
    cases r with
    | non => cases ru; exact PySem.P.repr_of_none ⟨.str _, H, I.tok _, ⟨_, by rw [PyData.shown_none]⟩, q'⟩
    | bl b => cases ru; exact PySem.P.repr_of_bool ⟨.str _, H, I.tok _, ⟨_, by rw [PyData.shown_bool]⟩, q'⟩
    | int i => obtain ⟨t, rfl⟩ := ru; exact PySem.P.repr_of_int (by simpa [PyData.showable] using c1) ⟨.str _, H, I.tok _, ⟨_, by rw [PyData.shown_int]⟩, q'⟩
    | str y => obtain ⟨t, rfl⟩ := ru; exact PySem.P.repr_of_str ⟨.str _, H, I.tok _, ⟨_, by rw [PyData.shown_str]⟩, q'⟩ (by rw [← PyData.shown_str]; exact c4)
    | tup h1 r => cases ru; exact repr_tup I h1.sq r c1 c4 hg (by omega) fin
    | lst h1 r => cases ru; exact repr_list I h1.sq r c1 c4 hg (by omega) fin
    | dct _ h2 r1 r2 => cases ru; exact repr_dict I h2 r1 r2 c1 c4 hg (by omega) fin
end
end DE
end
section
set_option Elab.async false
set_option linter.all false
set_option maxRecDepth 100000
set_option maxHeartbeats 1000000
/-! a tuple's [::-1] -/
namespace DE
open PySem PySem.Spec PyProof.Rows L2 HT
section
variable {prog : Program} {w : World} {A : Around} {E : Value → Shared → Prop} {s : Shared}
/-- the places that [::-1] asks for -/
theorem applied_rev {sl : Addr} {v1 v2 v3 : Value} {n : Nat} {Q : Int × Int × Nat → Shared → Prop} (isl : s.heap.IsSliceOf sl v1 v2 v3) (i1 : IsPart v1 none) (i2 : IsPart v2 none) (i3 : IsPart v3 (some (-1)))
    (k : Q ((n : Int) - 1, -1, n) s) : wpAny (model prog w) A (Builtin.Slice.sliceApplied (.ref sl) (pure (n : Int))) Q E s := by
  obtain ⟨ob, g1, _, g3⟩ := id isl
  have num : Builtin.Slice.slicePlaces ((n : Int) - 1) (-1) (-1) = n := by
    unfold Builtin.Slice.slicePlaces
    rw [if_neg (by decide)]
    split
    · rw [show (- -1 : Int) = 1 by decide, Int.ediv_one]; omega
    · omega
  unfold Builtin.Slice.sliceApplied Builtin.Slice.sliceFields
  refine wpAny_bind (wpAny_bind (wpAny_field g1 g3 (x := v1) rfl (wpAny_bind (wpAny_field g1 g3 (x := v2) rfl (wpAny_bind (wpAny_field g1 g3 (x := v3) rfl (wpAny_pure ?_)))))))
  refine wpAny_bind (slicePart_ i3 ?_)
  show wpAny _ _ (if ((-1 : Int) == 0) = true then _ else _) _ _ s
  rw [if_neg (by decide)]
  refine wpAny_bind (slicePart_ i1 (wpAny_bind (slicePart_ i2 (wpAny_bind (wpAny_pure ?_)))))
  show wpAny _ _ (pure (((n : Int) - 1), (-1 : Int), Builtin.Slice.slicePlaces ((n : Int) - 1) (-1) (-1))) _ _ s
  rw [num]
  exact wpAny_pure k
theorem pick_rev (xs : Array Value) : ((List.range xs.size).filterMap fun (m : Nat) => xs[(((xs.size : Int) - 1) + (m : Int) * (-1)).toNat]?).toArray = xs.toList.reverse.toArray := by
  congr 1
  have e : (fun (m : Nat) => xs[(((xs.size : Int) - 1) + (m : Int) * (-1)).toNat]?) = (fun (j : Nat) => xs[j]?) ∘ fun (m : Nat) => (((xs.size : Int) - 1) + (m : Int) * (-1)).toNat := rfl
  have e2 : (List.range xs.size).map (fun (m : Nat) => (((xs.size : Int) - 1) + (m : Int) * (-1)).toNat) = (List.range xs.size).map (fun k => xs.size - 1 - k) := by
    apply List.map_congr_left
    intro k hk
    have := List.mem_range.mp hk
    omega
  rw [e, ← List.filterMap_map, e2, PySem.W.krv_range, List.filterMap_reverse, PySem.W.krv_all]
theorem getItem_tuple_rev {t sl : Addr} {us : Array Value} {v1 v2 v3 : Value} {Q : Value → Shared → Prop} (tt : IsTup s.heap t us) (isl : s.heap.IsSliceOf sl v1 v2 v3) (i1 : IsPart v1 none) (i2 : IsPart v2 none) (i3 : IsPart v3 (some (-1)))
    (k : Q (.ref s.heap.objs.size) { s with heap := s.heap.push { cls := .type "tuple", data := .seq us.toList.reverse.toArray } }) (room : us.size ≤ sizeLine) : wpAny (model prog w) A (getItem (.ref t) (.ref sl)) Q E s := by
  have fits : sizeOk (.seq us.toList.reverse.toArray) := by show us.toList.reverse.toArray.size ≤ sizeLine; simpa using room
  obtain ⟨ob, g1, g2, _⟩ := id isl
  have styp : s.TypeIs (.ref sl) "slice" := ⟨ob, g1, g2⟩
  unfold getItem
  try with_reducible refine wpAny_holding ?_
  try refine wpAny_bind (wpAny_pure ?_)
  refine wpAny_bind (wpAny_sequenceKey tt.typeIs (by decide) (wpAny_bind (wpAny_callSpecial?_slot (name := Str.ofString "__getitem__") tt.typeIs PyProof.Rows.slot_tuple_getitem
    (wpAny_call_entry PyProof.Rows.slot_tuple_getitem tt.typeIs entry_tuple_getitem ?_ (args_tuple_getitem _ _)))))
  show wpAny _ _ (Builtin.Tuple.tupleItemsOf (.ref t) >>= _) _ _ s
  refine wpAny_bind (tupleItemsOf_ tt (wpAny_bind (wpAny_typeOf styp ?_)))
  rw [if_pos (by decide)]
  refine wpAny_bind (applied_rev isl i1 i2 i3 ?_)
  show wpAny _ _ (if (((us.size : Int) - 1) == 0 && (-1 : Int) == 1 && us.size == us.size) = true then _ else _) _ _ s
  rw [if_neg (fun z => by rw [Bool.and_eq_true, Bool.and_eq_true] at z; exact absurd (eq_of_beq z.1.2) (by decide)), pick_rev]
  first
    | exact wpAny_bind (m := Builtin.Tuple.tupleExact _) (wpAny_newObj_type (wpAny_pure ⟨_, rfl, wpAny_pure k⟩) fits)
    | exact wpAny_bind (m := Builtin.Tuple.tupleExact _) (wpAny_newObj_type (wpAny_bind (wpAny_pure (wpAny_pure ⟨_, rfl, wpAny_pure k⟩))) fits)
    | exact wpAny_bind (wpAny_bind (m := Builtin.Tuple.tupleExact _) (wpAny_newObj_type (wpAny_pure (wpAny_pure ⟨_, rfl, wpAny_pure k⟩)) fits))
    | exact wpAny_bind (wpAny_bind (m := Builtin.Tuple.tupleExact _) (wpAny_newObj_type (wpAny_pure ⟨_, rfl, wpAny_pure k⟩) fits))
end
section
variable {X : Cx}
/-- x[::-1] of a tuple: what is new is known -/
def tRevT (K : KW) (te : TE) : TE := fun σ H Q => te σ H fun x H1 => ∃ a xs, x = .ref a ∧ SqT K H1 a xs ∧ ∀ (p : Addr) (o : Obj), H1 p = none → o.dict = none → Q (.ref p) (upd H1 p (.frz o (.tup xs.reverse)))
theorem pe_revT {e : Expr} {te : TE} {k : Nat} {p1 p2 p3 pos : Pos} (pe : PE X e te) : PE X (.Subscript e (.Slice none none (some (.UnaryOp .USub (.Constant (.int 1) k p1) p2)) p3) pos) (tRevT X.kw te) := by
  refine ⟨fun pins s σ H Q I tq => Subscript_ (thn (pe.run pins s σ H _ I tq) fun v s1 ⟨x, H1, I1, r1, q1⟩ => ?_)⟩
  obtain ⟨a, xs, rfl, fa, kk⟩ := q1
  cases r1
  have back : PO X (some (.UnaryOp .USub (.Constant (.int 1) k p1) p2)) (tPart (tUn (rU fun i => .int (-i)) (tC (.int 1)))) := po_some (pe_un un_neg pe_int)
  refine wpAny_Slice (thn (po_none.run pins s1 σ H1 (fun o G => o = none ∧ G = H1) I1 ⟨rfl, rfl⟩) fun w1 s2 ⟨o1, H2, I2, i1, eo1, eh1⟩ => ?_)
  subst eo1 eh1
  refine thn (po_none.run pins s2 σ H2 (fun o G => o = none ∧ G = H2) I2 ⟨rfl, rfl⟩) fun w2 s3 ⟨o2, H3, I3, i2, eo2, eh2⟩ => ?_
  subst eo2 eh2
  refine thn (back.run pins s3 σ H3 (fun o G => o = some (-1) ∧ G = H3) I3 ⟨1, rfl, -1, rfl, rfl, rfl⟩) fun w3 s4 ⟨o3, H4, I4, i3, eo3, eh3⟩ => ?_
  subst eo3 eh3
  have J : Inv X pins σ H4 { s4 with heap := s4.heap.push { cls := .type "slice", data := .fields #[w1, w2, w3] } } := I4.kept (t' := s4.toks) fun _ _ z => Heap.get?_push_of_some _ z
  obtain ⟨us, va, ta, room⟩ := J.tuple fa
  have len1 := va.length
  show wpAny (model X.prog X.w) X.A (subscriptTail e (.Slice none none (some (.UnaryOp .USub (.Constant (.int 1) k p1) p2)) p3) (.ref a) (.ref s4.heap.objs.size)) (EP X pins σ Q) X.xe { s4 with heap := s4.heap.push { cls := .type "slice", data := .fields #[w1, w2, w3] } }
  refine tail_any (ops := [.ref a, .ref s4.heap.objs.size]) ta.typeIs PyProof.Rows.slot_tuple_getitem.lookup (getItem_tuple_rev ta (Heap.IsSliceOf.new _ w1 w2 w3) i1 i2 i3 ?_ (by simp only [List.size_toArray]; omega)) (by with_unfolding_all rfl)
  refine ⟨.ref _, _, J.laid (t' := s4.toks) (o := .frz { cls := .type "tuple", data := .seq us.reverse.toArray } (.tup xs.reverse)) (fun _ _ z => Heap.get?_push_of_some _ z) (Nat.le_refl _) ?_, rfl, kk _ _ (J.hok.fresh (Nat.le_refl _)) rfl⟩
  exact ⟨Heap.get?_push_size _ rfl, by simpa using room, _, va.reverse, IsTup.new _ _⟩
end
end DE
end
section
set_option Elab.async false
set_option linter.all false
set_option maxRecDepth 100000
set_option maxHeartbeats 1000000
/-! subscripts, slices, walks, dicts -/
namespace DE
open PySem PySem.Spec PyProof.Rows L2

section
variable {K : KW} {F : Fz} {H : Hp}
theorem Reps.atI {vs : List V} {ds : List PyData} {i : Int} {d : PyData} (r : Reps K F H vs ds) (h : atI ds i = some d) : ∃ v, L2.atI vs i = some v ∧ Rep K F H v d := by
  unfold L2.atI at h ⊢
  rw [r.length]
  cases e : ixN ds.length i with
  | none => rw [e] at h; cases h
  | some j => rw [e] at h; exact r.get h
theorem Reps.cut {vs : List V} {ds : List PyData} (r : Reps K F H vs ds) (lo hi : Option Int) : Reps K F H (cutV vs lo hi) (cutD ds lo hi) := by
  unfold cutV cutD
  rw [r.length]
  exact (r.drop _).take _
theorem keyD_rep {k : Key} {d : PyData} (r : Rep K F H (kV k) d) : keyD d = some k := by
  cases k <;> (cases r; rfl)
theorem DR.val : ∀ {kvs : List (Key × V)} {es : List (PyData × PyData)} {k : Key} {d : PyData}, DR K F H kvs es → valD es k = some d → ∃ v, valV kvs k = some v ∧ Rep K F H v d
  | [], es, k, d, r, h => by
    obtain ⟨r1, _⟩ := r
    cases es with
    | nil => cases h
    | cons e es => cases r1
  | (k', v') :: kvs, es, k, d, r, h => by
    obtain ⟨r1, r2⟩ := r
    cases es with
    | nil => cases r1
    | cons e es =>
      cases r1 with
      | cons a b =>
        cases r2 with
        | cons a2 b2 =>
          have ek := keyD_rep a
          by_cases hk : k' = k
          · subst hk
            refine ⟨v', valV_pos rfl, ?_⟩
            unfold valD at h
            rw [List.find?_cons_of_pos (by simpa using ek)] at h
            cases h
            exact a2
          · have h' : valD es k = some d := by
              unfold valD at h ⊢
              rw [List.find?_cons_of_neg (by simp only [ek, decide_eq_true_eq]; intro z; exact hk (Option.some.inj z))] at h
              exact h
            obtain ⟨v, h1, h2⟩ := DR.val (kvs := kvs) ⟨b, b2⟩ h'
            exact ⟨v, by rw [valV_neg hk]; exact h1, h2⟩
theorem DR.keys : ∀ {kvs : List (Key × V)} {es : List (PyData × PyData)}, DR K F H kvs es → es.map (fun p => keyD p.1) = kvs.map (fun p => some p.1)
  | [], es, r => by
    cases es with
    | nil => rfl
    | cons e es => cases r.1
  | (k', v') :: kvs, es, r => by
    cases es with
    | nil => cases r.1
    | cons e es =>
      obtain ⟨r1, r2⟩ := r
      cases r1 with
      | cons a b =>
        cases r2 with
        | cons a2 b2 =>
          rw [List.map_cons, List.map_cons, keyD_rep a, DR.keys ⟨b, b2⟩]
theorem any_keys : ∀ {kvs : List (Key × V)} {es : List (PyData × PyData)} (k : Key), es.map (fun p => keyD p.1) = kvs.map (fun p => some p.1) → (es.any fun p => decide (keyD p.1 = some k)) = (kvs.any fun kv => decide (kv.1 = k))
  | [], [], _, _ => rfl
  | [], _ :: _, _, h => by simp at h
  | _ :: _, [], _, h => by simp at h
  | p :: kvs, e :: es, k, h => by
    simp only [List.map_cons, List.cons.injEq] at h
    rw [List.any_cons, List.any_cons, any_keys k h.2, h.1]
    congr 1
    simp
theorem DR.mapPut {k : Key} {v : V} {d : PyData} (rv : Rep K F H v d) : ∀ {kvs : List (Key × V)} {es : List (PyData × PyData)}, DR K F H kvs es →
    DR K F H (kvs.map fun kv => if kv.1 = k then (kv.1, v) else kv) (es.map fun p => if keyD p.1 = some k then (p.1, d) else p)
  | [], es, r => by
    cases es with
    | nil => exact ⟨.nil, .nil⟩
    | cons e es => cases r.1
  | (k', v') :: kvs, es, r => by
    cases es with
    | nil => cases r.1
    | cons e es =>
      obtain ⟨r1, r2⟩ := r
      cases r1 with
      | cons a b =>
        cases r2 with
        | cons a2 b2 =>
          obtain ⟨i1, i2⟩ := DR.mapPut rv (kvs := kvs) (es := es) ⟨b, b2⟩
          have ek := keyD_rep a
          simp only [List.map_cons]
          by_cases hk : k' = k
          · rw [if_pos hk, if_pos (by rw [ek, hk])]
            exact ⟨.cons a i1, .cons rv i2⟩
          · rw [if_neg hk, if_neg (by rw [ek]; intro z; exact hk (Option.some.inj z))]
            exact ⟨.cons a i1, .cons a2 i2⟩
theorem DR.put {kvs : List (Key × V)} {es : List (PyData × PyData)} {k : Key} {kd d : PyData} {v : V} (r : DR K F H kvs es) (hk : keyD kd = some k) (rk : Rep K F H (kV k) kd) (rv : Rep K F H v d) : DR K F H (putK kvs k v) (putD es kd d) := by
  unfold putK putD
  rw [hk]
  have e := any_keys k r.keys
  by_cases hc : (kvs.any fun kv => decide (kv.1 = k)) = true
  · rw [if_pos hc, if_pos (by rw [e]; exact hc)]
    exact r.mapPut rv
  · rw [if_neg hc, if_neg (by rw [e]; exact hc)]
    obtain ⟨r1, r2⟩ := r
    refine ⟨?_, ?_⟩
    · rw [List.map_append, List.map_append]; exact r1.append (.cons rk .nil)
    · rw [List.map_append, List.map_append]; exact r2.append (.cons rv .nil)
theorem keyD_of {F : Fz} {v : V} {d : PyData} {k : Key} (r : RB K F H v d) (h : keyD d = some k) : v = kV k ∧ ∀ F' H', Rep K F' H' (kV k) d := by
  cases d <;> simp only [keyD] at h <;> cases h
  · exact ⟨r.int, fun _ _ => .int _⟩
  · exact ⟨r.str, fun _ _ => .str _⟩
end

section
variable {X : Cx} {σc : L2.St} {H : Hp} {Q : VK}
theorem pe_or {e : Expr} {t u : TE} (h : PE X e t) (k : PE X e u) : PE X e (fun σ H Q => t σ H Q ∨ u σ H Q) := ⟨fun pins s σ H Q I q => q.elim (h.run pins s σ H Q I) (k.run pins s σ H Q I)⟩
theorem pi_or {tg e : Expr} {t u : TI} (h : PI X tg e t) (k : PI X tg e u) : PI X tg e (fun σ H Q => t σ H Q ∨ u σ H Q) := ⟨fun pins s σ H Q I q => q.elim (h.run pins s σ H Q I) (k.run pins s σ H Q I)⟩
theorem ixd_seq : IxR X (fun x y H Q => ∃ F d e r, RB X.kw F H x d ∧ RB X.kw F H y e ∧ gIdx d e = some r ∧ (∀ es, d ≠ .dict es) ∧ ∀ w H1, Got X.kw F false H H1 w r → Q w H1) := by
  intro value slice pins s σ H x y v u Q I rx ry h hs
  obtain ⟨F, d, e, r, h1, h2, h3, nd, q⟩ := h
  cases d <;> (try (cases e)) <;> simp only [gIdx] at h3 <;> try cases h3
  case list.int xs i =>
    obtain ⟨a, vs, rfl, hq, rr⟩ := h1.list
    obtain ⟨z, e1, e2⟩ := rr.atI h3
    cases h2.int
    exact ix_list value slice pins s σ H _ _ v u Q I rx ry ⟨a, vs, i, z, rfl, rfl, hq, e1, q _ _ (.same (.inl rfl) e2)⟩ hs
  case tuple.int xs i =>
    obtain ⟨a, vs, rfl, hq, rr⟩ := h1.tup
    obtain ⟨z, e1, e2⟩ := rr.atI h3
    cases h2.int
    exact ix_tup value slice pins s σ H _ _ v u Q I rx ry ⟨a, vs, i, z, rfl, rfl, hq.sq, e1, q _ _ (.same (.inl rfl) e2)⟩ hs
  case str.int z i =>
    split at h3
    rotate_left
    · cases h3
    rename_i hl
    cases h1.str
    cases h2.int
    obtain ⟨c, e1, rfl⟩ := Option.map_eq_some_iff.mp h3
    exact ix_str value slice pins s σ H _ _ v u Q I rx ry ⟨z, i, c, rfl, rfl, hl, e1, q _ _ (.same (.inl rfl) (.str _))⟩ hs
  all_goals exact absurd rfl (nd _)
/-- x[y] -/
theorem pe_idx {a b : Expr} {pos : Pos} {ea eb : Ev Val} (hu : X.A.units + 1 < cLine) (ha : PE X a (tS X.kw ea)) (hb : PE X b (tS X.kw eb)) (hp : PlainIx b) : PE X (.Subscript a b pos) (tS X.kw (e2 false gIdx ea eb)) := by
  refine pe_mono (pe_or (pe_ix ixd_seq ha hb hp) (pe_dget hu ha hb hp)) fun pins s σc H Q I h => ?_
  obtain ⟨F, β, σ, h, hs, sr, x, h', e, q⟩ := h
  rcases qa : ea σ h with _ | ⟨y, h1⟩ <;> simp only [DE.e2, qa] at e
  · cases e
  rcases qb : eb σ h1 with _ | ⟨z, h2⟩ <;> simp only [qb] at e
  · cases e
  rcases qd : rd h2 y with _ | d <;> simp only [qd] at e
  · cases e
  rcases qe : rd h2 z with _ | d' <;> simp only [qe] at e
  · cases e
  rcases qg : gIdx d d' with _ | r <;> simp only [qg] at e
  · cases e
  obtain ⟨rfl, rfl⟩ := mk_eq e
  by_cases hd : ∃ es, d = .dict es
  · obtain ⟨es, rfl⟩ := hd
    refine .inr ⟨F, β, σ, h, hs, sr, y, h1, qa, fun F1 β1 H1 v hs1 x1 r1 => ⟨F1, β1, σ, h1, hs1, sr.ext x1, z, _, qb, fun F2 β2 H2 u hs2 x2 r2 => ?_⟩⟩
    obtain ⟨a, kvs, rfl, hk, rr⟩ := (RB.of_rd hs2 (r1.ext x2) qd).dict
    have ry := RB.of_rd hs2 r2 qe
    simp only [gIdx] at qg
    cases hk2 : keyD d' with
    | none => rw [hk2] at qg; cases qg
    | some key =>
      rw [hk2] at qg
      obtain ⟨w, e1, e2⟩ := rr.val qg
      obtain ⟨rfl, _⟩ := keyD_of ry hk2
      refine ⟨a, w, rfl, ?_, ?_⟩
      · rw [← e1]; exact .k hk
      · obtain ⟨F3, β3, hs3, x3, rv⟩ := got_mk (nw := false) (m := false) hs2 (fun z => nomatch z) (.same (.inl rfl) e2)
        exact q F3 β3 _ _ hs3 ((x1.seq hs1 x2).seq hs2 x3) rv
  · refine .inl ⟨F, β, σ, h, hs, sr, y, h1, qa, fun F1 β1 H1 v hs1 x1 r1 => ⟨F1, β1, σ, h1, hs1, sr.ext x1, z, _, qb, fun F2 β2 H2 u hs2 x2 r2 => ?_⟩⟩
    refine ⟨F2, d, d', r, RB.of_rd hs2 (r1.ext x2) qd, RB.of_rd hs2 r2 qe, qg, fun es z => hd ⟨es, z⟩, fun w H3 got => ?_⟩
    obtain ⟨F3, β3, hs3, x3, rv⟩ := got_mk (m := false) hs2 (fun z => nomatch z) got
    exact q F3 β3 _ _ hs3 ((x1.seq hs1 x2).seq hs2 x3) rv
end
/-! ### slices -/
def asI : Val → Option Int
  | .t (.int i) => some i
  | _ => none
/-- x[lo:hi] -/
def oNone : Ev (Option Int) := fun _ h => some (none, h)
def oSome (a : Ev Val) : Ev (Option Int) := fun σ h => match a σ h with
  | none => none
  | some (x, h1) => match asI x with
    | none => none
    | some i => some (some i, h1)
def eSl (m : Bool) (a : Ev Val) (lo hi : Ev (Option Int)) : Ev Val := fun σ h => match a σ h with
  | none => none
  | some (x, h1) => match lo σ h1 with
    | none => none
    | some (l, h2) => match hi σ h2 with
      | none => none
      | some (u, h3) => match rd h3 x with
        | none => none
        | some d => match gSl d l u with
          | none => none
          | some r => some (mk m r h3)
section
variable {K : KW} {X : Cx} {σc : L2.St} {H : Hp} {Q : VK}
def tSO (K : KW) (ev : Ev (Option Int)) : TO := fun σc H Q => ∃ F β σ h, HS K F β H h ∧ SR K F β H σc σ ∧ ∃ o h', ev σ h = some (o, h') ∧ ∀ F' β' H', HS K F' β' H' h' → Ext F β H F' β' H' → Q o H'
theorem po_mono {e : Option Expr} {t t' : TO} (h : PO X e t) (w : ∀ pins s σ H Q, Inv X pins σ H s → t' σ H Q → t σ H Q) : PO X e t' := ⟨fun pins s σ H Q I q => h.run pins s σ H Q I (w pins s σ H Q I q)⟩
theorem oNone_tr {QO : Option Int → Hp → Prop} (h : tSO K oNone σc H QO) : tNoPart σc H QO := by
  obtain ⟨F, β, σ, h, hs, sr, x, h', e, q⟩ := h
  cases e
  exact q F β H hs .refl
theorem oSome_tr {ea : Ev Val} {QO : Option Int → Hp → Prop} (h : tSO K (oSome ea) σc H QO) : tPart (tS K ea) σc H QO := by
  obtain ⟨F, β, σ, h, hs, sr, x, h', e, q⟩ := h
  rcases qa : ea σ h with _ | ⟨y, h1⟩ <;> simp only [oSome, qa] at e
  · cases e
  refine ⟨F, β, σ, h, hs, sr, y, h1, qa, fun F1 β1 H1 v hs1 x1 r1 => ?_⟩
  rcases qi : asI y with _ | i <;> simp only [qi] at e
  · cases e
  cases e
  cases y with
  | t d => cases d <;> simp [asI] at qi; subst qi; cases r1; exact ⟨_, rfl, q F1 β1 H1 hs1 x1⟩
  | r n => simp [asI] at qi
  | tp vs => simp [asI] at qi
theorem sld : SlR X (fun x lo hi H Q => ∃ F d r, RB X.kw F H x d ∧ gSl d lo hi = some r ∧ ∀ w H1, Got X.kw F true H H1 w r → Q w H1) := by
  intro pins s σ H x v vl vu lo hi sl Q I rx hs pl pu h
  obtain ⟨F, d, r, h1, h3, q⟩ := h
  cases d <;> simp only [gSl] at h3 <;> try cases h3
  case list xs =>
    obtain ⟨a, vs, rfl, hq, rr⟩ := h1.list
    exact sl_list pins s σ H _ v vl vu lo hi sl Q I rx hs pl pu ⟨a, vs, rfl, hq, fun p hp => q _ _ (.lst hp (rr.cut lo hi))⟩
  case tuple xs =>
    obtain ⟨a, vs, rfl, hq, rr⟩ := h1.tup
    refine sl_tupX2 pins s σ H _ v vl vu lo hi sl Q I rx hs pl pu ⟨a, vs, rfl, hq.sq, fun z => ?_, fun _ p o hp ho => q _ _ (.tup hp ho (rr.cut lo hi))⟩
    have e : cutD xs lo hi = xs := by
      unfold cutD
      rw [rr.length] at z
      rw [z.1, z.2]
      simp
    rw [e] at q
    exact q _ _ (.same (.inr rfl) (.tup hq rr))
  case str z =>
    split at h3
    rotate_left
    · cases h3
    rename_i hl
    cases h3
    cases h1.str
    exact sl_str pins s σ H _ v vl vu lo hi sl Q I rx hs pl pu ⟨z, rfl, hl, q _ _ (.same (.inr rfl) (.str _))⟩
theorem pe_sl {m : Bool} {a : Expr} {lo hi : Option Expr} {p2 pos : Pos} {ea : Ev Val} {el eh : Ev (Option Int)} (ha : PE X a (tS X.kw ea)) (hl : PO X lo (tSO X.kw el)) (hh : PO X hi (tSO X.kw eh)) :
    PE X (.Subscript a (.Slice lo hi none p2) pos) (tS X.kw (eSl m ea el eh)) := by
  refine pe_mono (pe_slice sld ha hl hh) fun pins s σc H Q I h => ?_
  obtain ⟨F, β, σ, h, hs, sr, x, h', e, q⟩ := h
  rcases qa : ea σ h with _ | ⟨y, h1⟩ <;> simp only [eSl, qa] at e
  · cases e
  refine ⟨F, β, σ, h, hs, sr, y, h1, qa, fun F1 β1 H1 v hs1 x1 r1 => ?_⟩
  rcases qb : el σ h1 with _ | ⟨l, h2⟩ <;> simp only [qb] at e
  · cases e
  refine ⟨F1, β1, σ, h1, hs1, sr.ext x1, l, h2, qb, fun F2 β2 H2 hs2 x2 => ?_⟩
  rcases qc : eh σ h2 with _ | ⟨u, h3⟩ <;> simp only [qc] at e
  · cases e
  have x12 := x1.seq hs1 x2
  refine ⟨F2, β2, σ, h2, hs2, sr.ext x12, u, h3, qc, fun F3 β3 H3 hs3 x3 => ?_⟩
  rcases qd : rd h3 y with _ | d <;> simp only [qd] at e
  · cases e
  rcases qg : gSl d l u with _ | r <;> simp only [qg] at e
  · cases e
  obtain ⟨rfl, rfl⟩ := mk_eq e
  refine ⟨F3, d, r, RB.of_rd hs3 (r1.ext (x2.seq hs2 x3)) qd, qg, fun w H4 got => ?_⟩
  obtain ⟨F4, β4, hs4, x4, rv⟩ := got_mk (m := m) hs3 (fun _ => rfl) got
  exact q F4 β4 _ _ hs4 ((x12.seq hs2 x3).seq hs3 x4) rv
/-- x[::-1] of a list or a tuple -/
theorem pe_rev {m : Bool} {a : Expr} {k : Nat} {p1 p2 p3 pos : Pos} {ea : Ev Val} (ha : PE X a (tS X.kw ea)) :
    PE X (.Subscript a (.Slice none none (some (.UnaryOp .USub (.Constant (.int 1) k p1) p2)) p3) pos) (tS X.kw (e1 m gRev ea)) := by
  have both : PE X (.Subscript a (.Slice none none (some (.UnaryOp .USub (.Constant (.int 1) k p1) p2)) p3) pos) (fun σ H Q => tRevL X.kw (tS X.kw ea) σ H Q ∨ tRevT X.kw (tS X.kw ea) σ H Q) :=
    ⟨fun pins s σ H Q I q => q.elim ((pe_revL ha).run pins s σ H Q I) ((pe_revT ha).run pins s σ H Q I)⟩
  refine pe_mono both fun pins s σc H Q I h => ?_
  obtain ⟨F, β, σ, h, hs, sr, x, h', e, q⟩ := h
  rcases qa : ea σ h with _ | ⟨y, h1⟩ <;> simp only [DE.e1, qa] at e
  · cases e
  rcases qd : rd h1 y with _ | d <;> simp only [qd] at e
  · cases e
  rcases qg : gRev d with _ | r <;> simp only [qg] at e
  · cases e
  obtain ⟨rfl, rfl⟩ := mk_eq e
  have fin : ∀ {F1 : Fz} {β1 : List Addr} {H1 H2 : Hp} {w : V}, HS X.kw F1 β1 H1 h1 → Ext F β H F1 β1 H1 → Got X.kw F1 true H1 H2 w r → Q w H2 := fun {F1 β1 H1 H2 w} hs1 x1 got => by
    obtain ⟨F2, β2, hs2, x2, rv⟩ := got_mk hs1 (m := m) (fun _ => rfl) got
    exact q F2 β2 H2 w hs2 (x1.seq hs1 x2) rv
  cases d <;> simp only [gRev] at qg <;> cases qg
  · refine .inl ⟨F, β, σ, h, hs, sr, y, h1, qa, fun F1 β1 H1 v hs1 x1 r1 => ?_⟩
    obtain ⟨b, vs, rfl, hq, rr⟩ := (RB.of_rd hs1 r1 qd).list
    exact ⟨b, vs, rfl, hq, fun p hp => fin hs1 x1 (.lst hp rr.reverse)⟩
  · refine .inr ⟨F, β, σ, h, hs, sr, y, h1, qa, fun F1 β1 H1 v hs1 x1 r1 => ?_⟩
    obtain ⟨b, vs, rfl, hq, rr⟩ := (RB.of_rd hs1 r1 qd).tup
    exact ⟨b, vs, rfl, hq.sq, fun p o hp ho => fin hs1 x1 (.tup hp ho rr.reverse)⟩
end
/-! ### walks -/
def signs (x : Str) : List PyData := x.cps.toList.map fun c => .str ⟨#[c]⟩
def itD : PyData → Option (List PyData)
  | .list xs => some xs
  | .tuple xs => some xs
  | .str x => some (signs x)
  | _ => none
def itV (a : Ev Val) : Ev (List PyData) := fun σ h => match a σ h with
  | none => none
  | some (x, h1) => match fz h1 x with
    | none => none
    | some (d, h2) => match itD d with
      | none => none
      | some ds => some (ds, h2)
def upTo (n : Nat) : List PyData := (List.range n).map fun (k : Nat) => PyData.int (k : Int)
def itR (a : Ev Val) : Ev (List PyData) := fun σ h => match a σ h with
  | none => none
  | some (x, h1) => match asI x with
    | none => none
    | some j => if -(2 ^ 62) ≤ j ∧ j < 2 ^ 62 then some (upTo j.toNat, h1) else none
section
variable {K : KW} {X : Cx} {tg : Expr} {σc : L2.St} {H : Hp} {w : Bool}
theorem ItOk.list {F : Fz} {a : Addr} {vs : List V} {ds : List PyData} (h : FL K F H a vs) (r : Reps K F H vs ds) : ItOk K w F H (Itl K a) ds where
  go := fun F2 H2 e i d hd => let ⟨v, h1, _⟩ := r.get hd; ⟨vs, v, (h.ex e).sq, h1⟩
  yld := fun F2 H2 e i d hd x H3 hy => by
    obtain ⟨rfl, hy⟩ := hy
    obtain ⟨v, h1, h2⟩ := r.get hd
    have := hy vs (h.ex e).sq
    rw [h1] at this
    cases this
    exact .inl ⟨rfl, Rep.ex e h2⟩
  stop := fun F2 H2 e => ⟨vs, (h.ex e).sq, by rw [r.length]; exact Nat.le_refl _⟩
theorem ItOk.tup {F : Fz} {a : Addr} {vs : List V} {ds : List PyData} (h : SqT K H a vs) (r : Reps K F H vs ds) : ItOk K w F H (Itt K a) ds where
  go := fun F2 H2 e i d hd => let ⟨v, h1, _⟩ := r.get hd; ⟨vs, v, sqT_ex e h, h1⟩
  yld := fun F2 H2 e i d hd x H3 hy => by
    obtain ⟨rfl, hy⟩ := hy
    obtain ⟨v, h1, h2⟩ := r.get hd
    have := hy vs (sqT_ex e h)
    rw [h1] at this
    cases this
    exact .inl ⟨rfl, Rep.ex e h2⟩
  stop := fun F2 H2 e => ⟨vs, sqT_ex e h, by rw [r.length]; exact Nat.le_refl _⟩
theorem ItOk.str {F : Fz} {x : Str} : ItOk K w F H (Its x) (signs x) where
  go := fun F2 H2 e i d hd => by
    unfold signs at hd
    rw [List.getElem?_map] at hd
    obtain ⟨c, h1, _⟩ := Option.map_eq_some_iff.mp hd
    have := (List.getElem?_eq_some_iff.mp h1).1
    show i < x.cps.size
    simpa using this
  yld := fun F2 H2 e i d hd v H3 hy => by
    obtain ⟨rfl, c, h1, rfl⟩ := hy
    unfold signs at hd
    rw [List.getElem?_map] at hd
    obtain ⟨c', h2, rfl⟩ := Option.map_eq_some_iff.mp hd
    have h2 : x.cps[i]? = some c' := by simpa using h2
    rw [h1] at h2
    cases h2
    exact .inl ⟨rfl, .str _⟩
  stop := fun F2 H2 e => by
    show x.cps.size ≤ _
    unfold signs
    simp
theorem ItOk.rng {F : Fz} {n : Nat} : ItOk K w F H (Itr 0 n) (upTo n) where
  go := fun F2 H2 e i d hd => by
    unfold upTo at hd
    have := (List.getElem?_eq_some_iff.mp hd).1
    show i < n
    simpa using this
  yld := fun F2 H2 e i d hd v H3 hy => by
    obtain ⟨rfl, rfl⟩ := hy
    unfold upTo at hd
    obtain ⟨hl, h2⟩ := List.getElem?_eq_some_iff.mp hd
    simp only [List.getElem_map, List.getElem_range] at h2
    subst h2
    rw [Int.zero_add]
    exact .inl ⟨rfl, .int _⟩
  stop := fun F2 H2 e => by
    show n ≤ _
    unfold upTo
    simp
theorem pi_V {e : Expr} {ea : Ev Val} (he : PE X e (tS X.kw ea)) : PI X tg e (tSI X.kw w (itV ea)) := by
  refine pi_mono (pi_or (pi_list he) (pi_or (pi_tup he) (pi_str he))) fun pins s σc H R I h => ?_
  obtain ⟨F, β, σ, h, hs, sr, ds, h', e, q⟩ := h
  rcases qa : ea σ h with _ | ⟨y, h1⟩ <;> simp only [itV, qa] at e
  · cases e
  rcases qf : fz h1 y with _ | ⟨d, h2⟩ <;> simp only [qf] at e
  · cases e
  rcases qd : itD d with _ | ds' <;> simp only [qd] at e
  · cases e
  cases e
  cases d <;> simp only [itD] at qd <;> cases qd
  · refine .inr (.inr ⟨F, β, σ, h, hs, sr, y, h1, qa, fun F1 β1 H1 v hs1 x1 r1 => ?_⟩)
    obtain ⟨F2, hs2, x2, r2⟩ := fz_ok hs1 r1 qf
    cases r2
    exact ⟨_, rfl, q F2 β1 H1 _ hs2 (x1.seq hs1 x2) .str⟩
  · refine .inl ⟨F, β, σ, h, hs, sr, y, h1, qa, fun F1 β1 H1 v hs1 x1 r1 => ?_⟩
    obtain ⟨F2, hs2, x2, r2⟩ := fz_ok hs1 r1 qf
    cases r2 with
    | lst hl rr => exact ⟨_, rfl, ⟨_, hl.sq⟩, q F2 β1 H1 _ hs2 (x1.seq hs1 x2) (.list hl rr)⟩
  · refine .inr (.inl ⟨F, β, σ, h, hs, sr, y, h1, qa, fun F1 β1 H1 v hs1 x1 r1 => ?_⟩)
    obtain ⟨F2, hs2, x2, r2⟩ := fz_ok hs1 r1 qf
    cases r2 with
    | tup hl rr => exact ⟨_, rfl, ⟨_, hl.sq⟩, q F2 β1 H1 _ hs2 (x1.seq hs1 x2) (.tup hl.sq rr)⟩
theorem pi_R {a : Expr} {p pos : Pos} {ea : Ev Val} (hg : Gl X "range") (hm : X.mg "range" = none) (ha : PA X [a] (tSA X.kw (aCons ea aNil))) (hs : starEach [a] X.env = [(false, eval a X.env)]) : PI X tg (.Call (.Name "range" p) [a] [] pos) (tSI X.kw w (itR ea)) := by
  refine pi_mono (pi_range1 hg hm ha hs) fun pins s σc H R I h => ?_
  obtain ⟨F, β, σ, h, hs, sr, ds, h', e, q⟩ := h
  rcases qa : ea σ h with _ | ⟨y, h1⟩ <;> simp only [itR, qa] at e
  · cases e
  rcases qi : asI y with _ | j <;> simp only [qi] at e
  · cases e
  split at e
  rotate_left
  · cases e
  rename_i hj
  cases e
  refine ⟨F, β, σ, h, hs, sr, [y], h', by unfold aCons aNil; rw [qa], fun F1 β1 H1 vs hs1 x1 r1 => ?_⟩
  cases r1 with
  | cons r1 r2 =>
    cases r2
    cases y with
    | t d => cases d <;> simp [asI] at qi; subst qi; cases r1; exact ⟨_, rfl, hj.1, hj.2, q F1 β1 H1 _ hs1 x1 .rng⟩
    | r n => simp [asI] at qi
    | tp vs => simp [asI] at qi
end
end DE
end
section
set_option Elab.async false
set_option linter.all false
set_option maxRecDepth 100000
set_option maxHeartbeats 1000000
/-! calls of own defs -/
namespace DE
open PySem PySem.Spec PyProof.Rows L2

/-! ### the callee's share of the changeable things -/
theorem refsOf_nodup : ∀ vs : List Val, (refsOf vs).Nodup
  | [] => by simp [refsOf]
  | .t d :: vs => by simp only [refsOf]; exact refsOf_nodup vs
  | .tp _ _ _ :: vs => by simp only [refsOf]; exact refsOf_nodup vs
  | .r n :: vs => by
    simp only [refsOf]
    split
    · exact refsOf_nodup vs
    · exact List.nodup_cons.mpr ⟨by assumption, refsOf_nodup vs⟩
theorem mem_refsOf : ∀ {vs : List Val} {n : Nat}, Val.r n ∈ vs → n ∈ refsOf vs
  | v :: vs, n, h => by
    rcases List.mem_cons.mp h with e | h
    · subst e
      simp only [refsOf]
      split
      · assumption
      · simp
    · have ih := mem_refsOf h
      cases v with
      | t d => simpa only [refsOf] using ih
      | tp d => simpa only [refsOf] using ih
      | r k =>
        simp only [refsOf]
        split
        · exact ih
        · exact List.mem_cons_of_mem _ ih
theorem subHp_get : ∀ {ns : List Nat} {h sub : MH}, subHp h ns = some sub → sub.length = ns.length ∧ ∀ (i n : Nat), ns[i]? = some n → ∃ o, h[n]? = some o ∧ sub[i]? = some o
  | [], h, sub, e => by cases e; exact ⟨rfl, fun i n z => by simp at z⟩
  | n :: ns, h, sub, e => by
    simp only [subHp] at e
    split at e
    · cases e
    rename_i o ho
    split at e
    · cases e
    rename_i r hr
    cases e
    obtain ⟨h1, h2⟩ := subHp_get hr
    refine ⟨by simp [h1], fun i k z => ?_⟩
    cases i with
    | zero => simp at z; subst z; exact ⟨o, ho, rfl⟩
    | succ i => simpa using h2 i k (by simpa using z)
theorem backHp_length : ∀ (ns : List Nat) (os h : MH), (backHp h ns os).length = h.length
  | [], _, _ => rfl
  | _ :: _, [], _ => rfl
  | n :: ns, o :: os, h => by simp only [backHp, List.length_set, backHp_length ns os h]
theorem backHp_out : ∀ {ns : List Nat} {os h : MH} {n : Nat}, n ∉ ns → (backHp h ns os)[n]? = h[n]?
  | [], _, _, _, _ => rfl
  | _ :: _, [], _, _, _ => rfl
  | m :: ns, o :: os, h, n, hn => by
    simp only [backHp]
    rw [List.getElem?_set_ne (fun z => hn (by simp [z]))]
    exact backHp_out fun z => hn (List.mem_cons_of_mem _ z)
theorem backHp_in : ∀ {ns : List Nat} {os h : MH} {i n : Nat} {o : MO}, ns.Nodup → ns[i]? = some n → os[i]? = some o → n < h.length → (backHp h ns os)[n]? = some o
  | [], _, _, _, _, _, _, z, _, _ => by simp at z
  | _ :: _, [], _, _, _, _, _, _, z, _ => by simp at z
  | m :: ns, o' :: os, h, i, n, o, nd, z1, z2, hl => by
    simp only [backHp]
    cases i with
    | zero =>
      simp at z1 z2
      subst z1 z2
      rw [List.getElem?_set_self (by rw [backHp_length]; exact hl)]
    | succ i =>
      have z1' : ns[i]? = some n := by simpa using z1
      have z2' : os[i]? = some o := by simpa using z2
      have hm : n ∈ ns := List.mem_iff_getElem?.mpr ⟨i, z1'⟩
      obtain ⟨h1, h2⟩ := List.nodup_cons.mp nd
      rw [List.getElem?_set_ne (fun (z : m = n) => h1 (z ▸ hm))]
      exact backHp_in h2 z1' z2' hl
def subB (β : List Addr) (ns : List Nat) : List Addr := ns.map fun n => β.getD n 0
section
variable {K : KW} {F F' : Fz} {β βs' : List Addr} {H H' : Hp} {h sub sub' : MH} {ns : List Nat}
theorem subB_get {i n : Nat} (z : ns[i]? = some n) (hl : n < β.length) : (subB β ns)[i]? = β[n]? := by
  unfold subB
  rw [List.getElem?_map, z, List.getElem?_eq_getElem hl]
  simp [List.getD, List.getElem?_eq_getElem hl]
theorem sub_lt (s : HS K F β H h) (e : subHp h ns = some sub) {i n : Nat} (z : ns[i]? = some n) : n < β.length := by
  obtain ⟨o, h1, _⟩ := (subHp_get e).2 i n z
  rw [s.len]
  exact (List.getElem?_eq_some_iff.mp h1).1
theorem subB_mem (s : HS K F β H h) (e : subHp h ns = some sub) {a : Addr} (hm : a ∈ subB β ns) : a ∈ β := by
  obtain ⟨i, hi⟩ := List.mem_iff_getElem?.mp hm
  have hl : i < ns.length := by have := (List.getElem?_eq_some_iff.mp hi).1; simpa [subB] using this
  have z : ns[i]? = some ns[i] := List.getElem?_eq_getElem hl
  rw [subB_get z (sub_lt s e z)] at hi
  exact List.mem_iff_getElem?.mpr ⟨_, hi⟩
theorem HS.part (s : HS K F β H h) (nd : ns.Nodup) (e : subHp h ns = some sub) : HS K F (subB β ns) H sub := by
  obtain ⟨h1, h2⟩ := subHp_get e
  refine ⟨by simp [subB, h1], ?_, fun i a o z1 z2 => ?_, s.fzd⟩
  · unfold subB
    refine List.pairwise_iff_getElem.mpr fun i j hi hj hij z => ?_
    simp only [List.length_map] at hi hj
    have zi : ns[i]? = some ns[i] := List.getElem?_eq_getElem hi
    have zj : ns[j]? = some ns[j] := List.getElem?_eq_getElem hj
    have li := sub_lt s e zi
    have lj := sub_lt s e zj
    simp only [List.getElem_map, List.getD, List.getElem?_eq_getElem li, List.getElem?_eq_getElem lj, Option.getD_some] at z
    have q : ns[i] = ns[j] := (List.getElem_inj s.nd).mp z
    have q2 := (List.getElem_inj nd).mp q
    omega
  · have hl : i < ns.length := by have := (List.getElem?_eq_some_iff.mp z1).1; simpa [subB] using this
    have z : ns[i]? = some ns[i] := List.getElem?_eq_getElem hl
    rw [subB_get z (sub_lt s e z)] at z1
    obtain ⟨o', h3, h4⟩ := h2 i _ z
    rw [z2] at h4
    cases h4
    exact s.obj _ a o z1 h3
theorem RV.part (s : HS K F β H h) (e : subHp h ns = some sub) {v : V} {x y : Val} (r : RV K F β H v x) (hx : ∀ n, x = .r n → n ∈ ns) (q : ren ns x = some y) : RV K F (subB β ns) H v y := by
  cases x with
  | t d => cases q; exact r
  | tp d => cases q
  | r n =>
    cases q
    obtain ⟨a, h1, rfl⟩ := r
    have hm := hx n rfl
    have z : ns[ns.idxOf n]? = some n := by
      rw [List.getElem?_eq_getElem (List.idxOf_lt_length_of_mem hm)]
      simp
    exact ⟨a, by rw [subB_get z (sub_lt s e z)]; exact h1, rfl⟩
theorem RVs.part (s : HS K F β H h) (e : subHp h ns = some sub) : ∀ {vs : List V} {xs ys : List Val}, RVs K F β H vs xs → (∀ n, Val.r n ∈ xs → n ∈ ns) → rens ns xs = some ys → RVs K F (subB β ns) H vs ys
  | _, _, _, .nil, _, q => by cases q; exact .nil
  | _, _, ys, .cons (x := x) (xs := xs) a b, hx, q => by
    simp only [rens] at q
    split at q
    · cases q
    rename_i y hy
    split at q
    · cases q
    rename_i r hr
    cases q
    exact .cons (a.part s e (fun n z => hx n (by simp [z])) hy) (RVs.part s e b (fun n z => hx n (List.mem_cons_of_mem _ z)) hr)
/-- behind the call -/
theorem HS.back (s : HS K F β H h) (nd : ns.Nodup) (e : subHp h ns = some sub) (s' : HS K F' βs' H' sub') (x : Ext F (subB β ns) H F' βs' H') :
    HS K F' β H' (backHp h ns sub') ∧ Ext F β H F' β H' := by
  have hsub := HS.part s nd e
  refine ⟨⟨by rw [backHp_length]; exact s.len, s.nd, fun n a o z1 z2 => ?_, s'.fzd⟩, ⟨x.ex, fun _ _ z => z, fun _ _ z => .inl z, fun a z => ?_, fun a o z n1 n2 => x.frame a o z n1 fun q => n2 (subB_mem s e q)⟩⟩
  · by_cases hn : n ∈ ns
    · obtain ⟨i, hi⟩ := List.mem_iff_getElem?.mp hn
      have b1 : (subB β ns)[i]? = some a := by rw [subB_get hi (sub_lt s e hi)]; exact z1
      have b2 := x.pre i a b1
      have hl : i < sub'.length := by rw [← s'.len]; exact (List.getElem?_eq_some_iff.mp b2).1
      have b3 : sub'[i]? = some sub'[i] := List.getElem?_eq_getElem hl
      rw [backHp_in nd hi b3 (by rw [← s.len]; exact sub_lt s e hi)] at z2
      cases z2
      exact s'.obj i a _ b2 b3
    · rw [backHp_out hn] at z2
      have q := s.obj n a o z1 z2
      have hmem : a ∈ β := List.mem_iff_getElem?.mpr ⟨n, z1⟩
      have na : a ∉ subB β ns := fun z => by
        obtain ⟨i, hi⟩ := List.mem_iff_getElem?.mp z
        have hl : i < ns.length := by have := (List.getElem?_eq_some_iff.mp hi).1; simpa [subB] using this
        have zi : ns[i]? = some ns[i] := List.getElem?_eq_getElem hl
        rw [subB_get zi (sub_lt s e zi)] at hi
        have := nodup_at s.nd z1 hi
        exact hn (this ▸ List.getElem_mem hl)
      have nf : ¬ F a → H a ≠ none → ¬ F' a := fun n1 n2 z => by
        rcases x.fnew a z with z | z | z
        · exact n1 z
        · exact n2 z
        · exact na z
      cases o with
      | l ds => obtain ⟨n1, vs, w1, w2⟩ := q; exact ⟨nf n1 (by rw [w1]; exact fun z => nomatch z), vs, x.frame a _ w1 n1 na, Reps.ex x.ex w2⟩
      | d es => obtain ⟨n1, vs, w1, w2⟩ := q; exact ⟨nf n1 (by rw [w1]; exact fun z => nomatch z), vs, x.frame a _ w1 n1 na, w2.ex x.ex⟩
      | e es => obtain ⟨n1, vs, w1, w2⟩ := q; exact ⟨nf n1 (by rw [w1]; exact fun z => nomatch z), vs, x.frame a _ w1 n1 na, w2.ex x.ex⟩
      | f d => exact ⟨x.ex.mono a q.1, Rep.ex x.ex q.2⟩
  · rcases x.fnew a z with z | z | z
    · exact .inl z
    · exact .inr (.inl z)
    · exact .inr (.inr (subB_mem s e z))
/-- a def's promise -/
def spOf (K : KW) (n : Nat) (f : Fn) : Sp := fun vs H Q _ => vs.length = n ∧ ∃ F β h xs x h', HS K F β H h ∧ RVs K F β H vs xs ∧ f xs h = some (x, h') ∧
  ∀ F' β' H' v, HS K F' β' H' h' → Ext F β H F' β' H' → RV K F' β' H' v x → Q v H'
theorem RVs.length : ∀ {vs : List V} {xs : List Val}, RVs K F β H vs xs → vs.length = xs.length
  | _, _, .nil => rfl
  | _, _, .cons _ b => by rw [List.length_cons, List.length_cons, RVs.length b]
theorem callIn_ok {f : Fn} {vs : List V} {xs : List Val} {x : Val} {h' : MH} {Q : VK} {E : XK} (s : HS K F β H h) (r : RVs K F β H vs xs) (e : callIn f xs h = some (x, h'))
    (q : ∀ F' β' H' v, HS K F' β' H' h' → Ext F β H F' β' H' → RV K F' β' H' v x → Q v H') : spOf K xs.length f vs H Q E := by
  unfold callIn at e
  simp only at e
  split at e
  · cases e
  rename_i sub hsub
  split at e
  · cases e
  rename_i ws hws
  have nd := refsOf_nodup xs
  have s1 := HS.part s nd hsub
  have r1 := RVs.part s hsub r (fun n z => mem_refsOf z) hws
  split at e
  · cases e
  · rename_i d sub' hf
    cases e
    refine ⟨r.length, F, _, sub, ws, _, sub', s1, r1, hf, fun F' β' H' v s' x' rv => ?_⟩
    obtain ⟨s2, x2⟩ := HS.back s nd hsub s' x'
    exact q F' β H' v s2 x2 rv
  · rename_i j sub' hf
    refine ⟨r.length, F, _, sub, ws, _, sub', s1, r1, hf, fun F' β' H' v s' x' rv => ?_⟩
    obtain ⟨s2, x2⟩ := HS.back s nd hsub s' x'
    obtain ⟨a, ha, rfl⟩ := rv
    split at e
    · rename_i n hn
      cases e
      have hl := sub_lt s hsub hn
      have b1 : (subB β (refsOf xs))[j]? = β[n]? := subB_get hn hl
      have b2 := x'.pre j β[n] (by rw [b1]; exact List.getElem?_eq_getElem hl)
      rw [ha] at b2
      cases b2
      exact q F' β H' _ s2 x2 ⟨_, List.getElem?_eq_getElem hl, rfl⟩
    · rename_i hn
      split at e
      · cases e
      rename_i o ho
      cases e
      have hfr : H a = none := by
        rcases x'.bnew j a ha with z | z
        · have := (List.getElem?_eq_some_iff.mp z).1
          have hj : (refsOf xs).length ≤ j := List.getElem?_eq_none_iff.mp hn
          simp [subB] at this
          omega
        · exact z
      have hob := s'.obj j a o ha ho
      have nb : a ∉ β := s.nmem hfr
      refine q F' (β ++ [a]) H' _ ⟨by simp [s2.len], ?_, fun n b ob z1 z2 => ?_, s2.fzd⟩ ⟨x2.ex, fun n b z => ?_, fun n b z => ?_, x2.fnew, x2.frame⟩ ⟨a, ?_, rfl⟩
      · exact List.nodup_append.mpr ⟨s.nd, by simp, fun b hb c hc z => by simp at hc; subst hc; subst z; exact nb hb⟩
      · by_cases hl : n < β.length
        · rw [List.getElem?_append_left hl] at z1
          rw [List.getElem?_append_left (by rw [← s2.len]; exact hl)] at z2
          exact s2.obj n b ob z1 z2
        · rw [List.getElem?_append_right (by omega)] at z1
          rw [List.getElem?_append_right (by rw [← s2.len]; omega), ← s2.len] at z2
          cases hk : n - β.length with
          | zero => rw [hk] at z1 z2; cases z1; cases z2; exact hob
          | succ k => rw [hk] at z1; simp at z1
      · rw [List.getElem?_append_left (List.getElem?_eq_some_iff.mp z).1]; exact z
      · by_cases hl : n < β.length
        · rw [List.getElem?_append_left hl] at z; exact .inl z
        · rw [List.getElem?_append_right (by omega)] at z
          cases hk : n - β.length with
          | zero => rw [hk] at z; cases z; exact .inr hfr
          | succ k => rw [hk] at z; simp at z
      · rw [← s.len]; simp
  · rename_i ds j es sub' hf
    split at e
    · cases e
    rename_i hn
    split at e
    · cases e
    rename_i o ho
    cases e
    refine ⟨r.length, F, _, sub, ws, _, sub', s1, r1, hf, fun F' β' H' v s' x' rv => ?_⟩
    obtain ⟨s2, x2⟩ := HS.back s nd hsub s' x'
    obtain ⟨c, a, us, vs', rfl, tx, q1, ha, q2⟩ := rv
    have hfr : H a = none := by
      rcases x'.bnew j a ha with z | z
      · have := (List.getElem?_eq_some_iff.mp z).1
        have hj : (refsOf xs).length ≤ j := List.getElem?_eq_none_iff.mp hn
        simp [subB] at this
        omega
      · exact z
    have hob := s'.obj j a o ha ho
    have nb : a ∉ β := s.nmem hfr
    refine q F' (β ++ [a]) H' _ ⟨by simp [s2.len], ?_, fun n b ob z1 z2 => ?_, s2.fzd⟩ ⟨x2.ex, fun n b z => ?_, fun n b z => ?_, x2.fnew, x2.frame⟩ ⟨c, a, us, vs', rfl, tx, q1, ?_, q2⟩
    · exact List.nodup_append.mpr ⟨s.nd, by simp, fun b hb c hc z => by simp at hc; subst hc; subst z; exact nb hb⟩
    · by_cases hl : n < β.length
      · rw [List.getElem?_append_left hl] at z1
        rw [List.getElem?_append_left (by rw [← s2.len]; exact hl)] at z2
        exact s2.obj n b ob z1 z2
      · rw [List.getElem?_append_right (by omega)] at z1
        rw [List.getElem?_append_right (by rw [← s2.len]; omega), ← s2.len] at z2
        cases hk : n - β.length with
        | zero => rw [hk] at z1 z2; cases z1; cases z2; exact hob
        | succ k => rw [hk] at z1; simp at z1
    · rw [List.getElem?_append_left (List.getElem?_eq_some_iff.mp z).1]; exact z
    · by_cases hl : n < β.length
      · rw [List.getElem?_append_left hl] at z; exact .inl z
      · rw [List.getElem?_append_right (by omega)] at z
        cases hk : n - β.length with
        | zero => rw [hk] at z; cases z; exact .inr hfr
        | succ k => rw [hk] at z; simp at z
    · rw [← s.len]; simp
end
/-! ### defs that hand on that nothing is being shown (guards) -/
structure FnG (P : Program) (w : World) (K : KW) (mg : Str → Option Value) (base : Heap) (k : Nat) (f : Addr) (fd : FuncData) (ps : List Str) (sp : Sp) : Prop where
  len : ∀ vs H Q E, sp vs H Q E → vs.length = ps.length
  run : ∀ (A : Around) (outer : List Env) (s : Shared) (H : Hp) (args : Args) (us : List Value) (vs : List V) (Q : VK), Room k A → A.guards = some [] → Env0 P w K mg base A outer s H → BindsTo s fd args (ps.zip us) → Vals vs us → sp vs H Q E0 →
    codeAny (model P w) A (.call (.ref f) args) (CR CX0 outer P w H s Q E0) s
section
variable {P : Program} {w : World} {K : KW} {mg : Str → Option Value} {base : Heap}
theorem fnG_of {k : Nat} {f : Addr} {name qual : Str} {params : Arguments} {body : List Stmt} {scope : Scope} {dV kV doc pm cdv ct oc : Value} {an od : Option Addr} {osl : Array (Option Value)} {N ps : List Str} {sp : Sp}
    (lk : K.f.lookup f = some ⟨oc, od, .func (PySem.W.fnOf name qual params body scope dV kV doc pm an cdv ct), osl⟩) (hcd : PySem.W.codeIn K cdv qual = true) (S : FnScope N ps scope) (len : ∀ vs H Q E, sp vs H Q E → vs.length = ps.length)
    (hbody : ∀ (A : Around) (outer : List Env) (s : Shared) (H : Hp) (vs : List V) (Q : VK), Room k (A.deeper (envOfC qual scope s.heap.objs.size f cdv)) → (A.deeper (envOfC qual scope s.heap.objs.size f cdv)).guards = some [] → sp vs H Q E0 →
      PSs (cxOf CX0 P w K mg base N qual scope f cdv A outer s H E0).nox body (fun D σ H' => D = { nx := fun _ H' => Q .non H', rt := Q } ∧ σ = start N vs ∧ H' = H)) :
    FnG P w K mg base (k + 1) f (PySem.W.fnOf name qual params body scope dV kV doc pm an cdv ct) ps sp := by
  refine ⟨len, fun A outer s H args us vs Q hr hgd e0 hb r hsp => ?_⟩
  have KX : K.f.In s.heap := e0.mod.kin.keeps fun b o e => (e0.bs b o e).1
  have lim : s.heap.NoLimit := e0.mod.nolimit.keeps fun b o e => (e0.bs b o e).1
  refine codeAny_call_function hr.depth (KX _ _ lk) rfl S.co S.gen rfl (PySem.W.codeRec_of KX hcd) (hb _ _ _ _ ?_)
  refine wpAny_newFunctionEnv_cells S.kind (fun y hy => ?_) fun env he s1 x => ?_
  · rcases S.par y.1 (List.of_mem_zip hy).1 with q | q
    · exact .inl q
    · exact .inr ⟨q, PySem.W.cellsFrom_some _ _ _ (.inl q)⟩
  subst he
  refine ⟨lim.keeps x.toInCall.keep, codeAny_func ?_⟩
  have ht := (hbody A outer s H vs Q (hr.deeper _) hgd hsp).nox
  have I : Inv (cxOf CX0 P w K mg base N qual scope f cdv A outer s H E0) [] (start N vs) H s1 := inv_start S hr.hd e0 (len _ _ _ _ hsp) r x
  refine wpAny_mono (ht.run [] s1 (start N vs) H _ I ⟨rfl, rfl, rfl⟩) (fun fl s' hs => ?_) fun e s' hs => hs
  cases fl with
  | ret u => obtain ⟨v, σ', H', J, rv, q⟩ := hs; exact ⟨v, H', J.os, J.bare, J.base, J.hok, rv, q⟩
  | next => obtain ⟨σ', H', J, q⟩ := hs; exact ⟨V.non, H', J.os, J.bare, J.base, J.hok, rfl, q⟩
  | brk => obtain ⟨_, _, _, q⟩ := hs; exact q.elim
  | cont => obtain ⟨_, _, _, q⟩ := hs; exact q.elim
variable {X : Cx}
theorem pe_callG {k : Nat} {f : Addr} {fd : FuncData} {ps : List Str} {sp : Sp} {x : Str} {p pos : Pos} {e : Expr} {es : List Expr} {t : TA} (F : FnG X.prog X.w X.kw X.mg X.base k f fd ps sp) (hr : Room k X.A) (hgd : X.A.guards = some []) (hg : Gl X x)
    (hm : X.mg x = some (.ref f)) (hk : PySem.W.keepIn X.kw (.ref f) = true) (hb : Binds X.kw fd ps []) (ha : PA X (e :: es) t) (hdb : (x == ("__debug__" : Str)) = false)
    (he : starEach (e :: es) X.env = (false, eval e X.env) :: starEach es X.env) (hpl : (backTo pos (starEach es X.env)).any (·.1) = false) : PE X (.Call (.Name x p) (e :: es) [] pos) (fun σ H Q => t σ H fun vs H1 => sp vs H1 Q E0) := by
  refine ⟨fun pins s σ H Q I h => ?_⟩
  refine wpAny_Call_Name_kw (ld_glob I hg hm ?_ hdb)
  refine PySem.W.callWith_K (h₀ := X.base) I.ok.mod.kin hk (thn (ha.run pos pins s σ H _ I h) fun us s1 ⟨vs, H1, I1, r, q⟩ => ⟨I1.kIn, ?_⟩) he hpl
  have hl : us.length = ps.length := by rw [← r.length]; exact F.len _ _ _ _ q
  refine wpAny_call (codeAny_mono (F.run X.A X.stack s1 H1 ⟨us, []⟩ us vs Q hr hgd I1.env0 (by have := hb s1 us I1.kIn (by simpa using hl); simpa using this) r q) fun r2 s' hq => ?_)
  cases r2 with
  | error e => exact hq.elim
  | ok fl =>
    cases fl with
    | ret u => exact I1.after hq
    | next => exact hq.elim
    | brk => exact hq.elim
    | cont => exact hq.elim
theorem pe_callG0 {k : Nat} {f : Addr} {fd : FuncData} {ps : List Str} {sp : Sp} {x : Str} {p pos : Pos} (F : FnG X.prog X.w X.kw X.mg X.base k f fd ps sp) (hr : Room k X.A) (hgd : X.A.guards = some []) (hg : Gl X x)
    (hm : X.mg x = some (.ref f)) (hk : PySem.W.keepIn X.kw (.ref f) = true) (hb : Binds X.kw fd ps []) (hdb : (x == ("__debug__" : Str)) = false) : PE X (.Call (.Name x p) [] [] pos) (fun σ H Q => sp [] H Q E0) := by
  refine ⟨fun pins s σ H Q I h => ?_⟩
  refine wpAny_Call_Name_kw (ld_glob I hg hm ?_ hdb)
  refine PySem.W.callWith_K0 I.kIn hk ?_
  have hl : 0 = ps.length := F.len _ _ _ _ h
  refine wpAny_call (codeAny_mono (F.run X.A X.stack s H ⟨[], []⟩ [] [] Q hr hgd I.env0 (by have := hb s [] I.kIn (by simpa using hl); simpa using this) .nil h) fun r2 s' hq => ?_)
  cases r2 with
  | error e => exact hq.elim
  | ok fl =>
    cases fl with
    | ret u => exact I.after hq
    | next => exact hq.elim
    | brk => exact hq.elim
    | cont => exact hq.elim
end
end DE
end
section
set_option Elab.async false
set_option linter.all false
set_option maxRecDepth 100000
set_option maxHeartbeats 1000000
/-! dicts stored and displayed, methods of texts, isinstance -/
namespace DE
open PySem PySem.Spec PyProof.Rows L2

section
variable {K : KW} {F F' : Fz} {β β' : List Addr} {H H' : Hp} {h h' : MH}
/-- a changeable thing is written -/
theorem HS.write {n : Nat} {a : Addr} {u o : HO} {m : MO} (s : HS K F β H h) (hb : β[n]? = some a) (nf : ¬ F a) (hp : H a = some u) (ht : ∀ xs, u ≠ .tup xs) (hz : ∀ x y, u ≠ .frz x y) (ho : Ex F H F (upd H a o) → OR K F (upd H a o) a m) :
    HS K F β (upd H a o) (h.set n m) ∧ Ext F β H F β (upd H a o) := by
  have hm : a ∈ β := List.mem_iff_getElem?.mpr ⟨n, hb⟩
  have ne : ∀ c, F c → c ≠ a := fun c q z => nf (z ▸ q)
  have ex : Ex F H F (upd H a o) := ⟨fun _ q => q, fun c q => upd_ne (ne c q), fun c xs q => by rw [upd_ne (fun z => by subst z; rw [hp] at q; exact ht xs (Option.some.inj q))]; exact q,
    fun c x y q => by rw [upd_ne (fun z => by subst z; rw [hp] at q; exact hz x y (Option.some.inj q))]; exact q⟩
  refine ⟨⟨by simpa using s.len, s.nd, fun k c x z1 z2 => ?_, fun c q => by rw [upd_ne (ne c q)]; exact s.fzd c q⟩, ⟨ex, fun _ _ q => q, fun _ _ q => .inl q, fun _ q => .inl q, fun c x q n1 n2 => by rw [upd_ne (fun (z : c = a) => n2 (z ▸ hm))]; exact q⟩⟩
  by_cases hk : k = n
  · subst hk
    rw [hb] at z1; cases z1
    rw [List.getElem?_set_self (by rw [← s.len]; exact (List.getElem?_eq_some_iff.mp hb).1)] at z2
    cases z2
    exact ho ex
  · rw [List.getElem?_set_ne (Ne.symm hk)] at z2
    have q := s.obj k c x z1 z2
    have nc : c ≠ a := fun z => hk (nodup_at s.nd z1 (by rw [z]; exact hb))
    cases x with
    | l ds => obtain ⟨n1, vs, w1, w2⟩ := q; exact ⟨n1, vs, by rw [upd_ne nc]; exact w1, Reps.ex ex w2⟩
    | d es => obtain ⟨n1, vs, w1, w2⟩ := q; exact ⟨n1, vs, by rw [upd_ne nc]; exact w1, w2.ex ex⟩
    | e es => obtain ⟨n1, vs, w1, w2⟩ := q; exact ⟨n1, vs, by rw [upd_ne nc]; exact w1, w2.ex ex⟩
    | f d => exact ⟨q.1, Rep.ex ex q.2⟩
/-- a thing that was new is taken in -/
theorem adoptD {m : Bool} {p : Addr} {kvs : List (Key × V)} {es : List (PyData × PyData)} (hs' : HS K F' β' H' h') (xe : Ext F β H F' β' H') (hp0 : H p = none) (nf : ¬ F' p) (nb : p ∉ β') (hpv : H' p = some (.dK kvs)) (r : DR K F' H' kvs es) :
    ∃ F2 β2, HS K F2 β2 H' (mk m (.dict es) h').2 ∧ Ext F β H F2 β2 H' ∧ RV K F2 β2 H' (.ref p) (mk m (.dict es) h').1 := by
  cases m with
  | false =>
    have xa : Ex F' H' (fun a => F' a ∨ a = p) H' := ⟨fun _ q => .inl q, fun _ _ => rfl, fun _ _ q => q, fun _ _ _ q => q⟩
    refine ⟨fun a => F' a ∨ a = p, β', ⟨hs'.len, hs'.nd, fun n a o z1 z2 => ?_, fun a z => ?_⟩, ⟨xe.ex.trans xa, xe.pre, xe.bnew, fun a z => ?_, xe.frame⟩, .dct (.inr rfl) hpv (Reps.ex xa r.1) (Reps.ex xa r.2)⟩
    · have z := hs'.obj n a o z1 z2
      have na : a ≠ p := fun w => nb (w ▸ List.mem_iff_getElem?.mpr ⟨n, z1⟩)
      cases o with
      | l ds => obtain ⟨nf', vs, w1, w2⟩ := z; exact ⟨fun w => w.elim nf' na, vs, w1, Reps.ex xa w2⟩
      | d es => obtain ⟨nf', vs, w1, w2⟩ := z; exact ⟨fun w => w.elim nf' na, vs, w1, w2.ex xa⟩
      | e es => obtain ⟨nf', vs, w1, w2⟩ := z; exact ⟨fun w => w.elim nf' na, vs, w1, w2.ex xa⟩
      | f d => exact ⟨.inl z.1, Rep.ex xa z.2⟩
    · rcases z with z | z
      · exact hs'.fzd a z
      · subst z; exact ⟨_, hpv⟩
    · rcases z with z | z
      · exact xe.fnew a z
      · subst z; exact .inr (.inl hp0)
  | true =>
    refine ⟨F', β' ++ [p], ⟨?_, ?_, fun n a o z1 z2 => ?_, hs'.fzd⟩, ⟨xe.ex, fun n a z => ?_, fun n a z => ?_, xe.fnew, xe.frame⟩, ⟨p, ?_, rfl⟩⟩
    · show (β' ++ [p]).length = (h' ++ [MO.d es]).length
      simp [hs'.len]
    · exact List.nodup_append.mpr ⟨hs'.nd, by simp, fun a ha b hb z => by simp at hb; subst hb; subst z; exact nb ha⟩
    · have z2 : (h' ++ [MO.d es])[n]? = some o := z2
      by_cases hn : n < β'.length
      · rw [List.getElem?_append_left hn] at z1
        rw [List.getElem?_append_left (by rw [← hs'.len]; exact hn)] at z2
        exact hs'.obj n a o z1 z2
      · rw [List.getElem?_append_right (by omega)] at z1
        rw [List.getElem?_append_right (by rw [← hs'.len]; omega), ← hs'.len] at z2
        cases hk : n - β'.length with
        | zero => rw [hk] at z1 z2; cases z1; cases z2; exact ⟨nf, kvs, hpv, r⟩
        | succ k => rw [hk] at z1; simp at z1
    · have z := xe.pre n a z
      rw [List.getElem?_append_left (List.getElem?_eq_some_iff.mp z).1]; exact z
    · by_cases hn : n < β'.length
      · rw [List.getElem?_append_left hn] at z; exact xe.bnew n a z
      · rw [List.getElem?_append_right (by omega)] at z
        cases hk : n - β'.length with
        | zero => rw [hk] at z; cases z; exact .inr hp0
        | succ k => rw [hk] at z; simp at z
    · show (β' ++ [p])[h'.length]? = some p
      rw [← hs'.len]; simp
end
/-! ### d[k] = e -/
def gPutD : MO → PyData → PyData → Option MO
  | .d es, k, d => if (keyD k).isSome = true ∧ es.length < sizeLine then some (.d (putD es k d)) else none
  | _, _, _ => none
section
variable {K : KW} {X : Cx} {σc : L2.St} {H : Hp} {Q : VK} {D : Ends}
theorem sPutD_tr {ex ek ee : Ev Val} (h : tSS K (sPut gPutD ex ek ee) D σc H) : sDPut (tS K ex) (tS K ek) (tS K ee) D σc H := by
  obtain ⟨F, β, σ, h, hs, sr, o, e, q⟩ := h
  rcases qa : ee σ h with _ | ⟨v, h1⟩ <;> simp only [sPut, qa] at e
  · cases e
  refine ⟨F, β, σ, h, hs, sr, v, h1, qa, fun F1 β1 H1 w hs1 x1 r1 => ?_⟩
  rcases qb : ex σ h1 with _ | ⟨y, h2⟩
  · rw [qb] at e; cases e
  rw [qb] at e
  refine ⟨F1, β1, σ, h1, hs1, sr.ext x1, y, h2, qb, fun F2 β2 H2 w2 hs2 x2 r2 => ?_⟩
  have x12 := x1.seq hs1 x2
  cases y with
  | t d => cases e
  | tp d => cases e
  | r n =>
    simp only at e
    rcases qc : ek σ h2 with _ | ⟨kv, h3⟩ <;> simp only [qc] at e
    · cases e
    refine ⟨F2, β2, σ, h2, hs2, sr.ext x12, kv, h3, qc, fun F3 β3 H3 w3 hs3 x3 r3 => ?_⟩
    have x13 := x12.seq hs2 x3
    rcases qd : rd h3 kv with _ | kd <;> simp only [qd] at e
    · cases e
    rcases qf : fz h3 v with _ | ⟨d, h4⟩ <;> simp only [qf] at e
    · cases e
    rcases qn : h4[n]? with _ | ob <;> simp only [qn] at e
    · cases e
    rcases qg : gPutD ob kd d with _ | ob' <;> simp only [qg] at e
    · cases e
    cases e
    obtain ⟨F4, hs4, x4, r4⟩ := fz_ok hs3 (r1.ext (x2.seq hs2 x3)) qf
    obtain ⟨a, ha, rfl⟩ := (r2.ext x3 : RV K F3 β3 H3 w2 (.r n))
    cases ob with
    | l ds => cases qg
    | f ds => cases qg
    | e ds => cases qg
    | d es =>
      simp only [gPutD] at qg
      split at qg
      rotate_left
      · cases qg
      rename_i hc
      cases qg
      obtain ⟨k, hk⟩ := Option.isSome_iff_exists.mp hc.1
      obtain ⟨rfl, rk⟩ := keyD_of (RB.of_rd hs3 r3 qd) hk
      obtain ⟨nf, kvs, hkv, rr⟩ := hs4.obj n a _ ha qn
      have hl : kvs.length = es.length := by have := rr.1.length; simpa using this
      obtain ⟨hs5, x5⟩ := hs4.write (o := .dK (putK kvs k w)) (m := .d (putD es kd d)) ha nf hkv (fun _ z => nomatch z) (fun _ _ z => nomatch z) fun ex => ⟨nf, _, upd_same, (rr.put hk (rk _ _) r4).ex ex⟩
      have x15 := (x13.seq hs3 x4).seq hs4 x5
      exact ⟨a, _, rfl, .k hkv (by rw [hl]; exact hc.2), q F4 β3 σc _ hs5 (sr.ext x15) x15⟩
/-! ### displays of dicts -/
def aList : List (Ev Val) → Ev (List Val)
  | [] => aNil
  | a :: r => aCons a (aList r)
def trOf (K : KW) (ps : List (Str × Ev Val)) : List (TE × TE) := ps.map fun p => (tC (.str p.1), tS K p.2)
theorem pairs_tr : ∀ {ps : List (Str × Ev Val)} {H : Hp} {F : Fz} {β : List Addr} {σ : Sg} {h h' : MH} {xs : List Val} {QP : List (V × V) → Hp → Prop}, HS K F β H h → SR K F β H σc σ → aList (ps.map (·.2)) σ h = some (xs, h') →
    (∀ F' β' H' vs, HS K F' β' H' h' → Ext F β H F' β' H' → RVs K F' β' H' vs xs → QP ((ps.map fun p => V.str p.1).zip vs) H') → tPairs (trOf K ps) σc H QP
  | [], H, F, β, σ, h, h', xs, QP, hs, sr, e, q => by
    cases e
    exact q F β H [] hs .refl .nil
  | (k, a) :: ps, H, F, β, σ, h, h', xs, QP, hs, sr, e, q => by
    simp only [List.map_cons, aList, aCons] at e
    rcases qa : a σ h with _ | ⟨y, h1⟩ <;> simp only [qa] at e
    · cases e
    rcases qb : aList (ps.map (·.2)) σ h1 with _ | ⟨zs, h2⟩ <;> simp only [qb] at e
    · cases e
    cases e
    show tS K a σc H _
    refine ⟨F, β, σ, h, hs, sr, y, h1, qa, fun F1 β1 H1 v hs1 x1 r1 => ?_⟩
    exact pairs_tr hs1 (sr.ext x1) qb fun F2 β2 H2 vs hs2 x2 r2 => q F2 β2 H2 (v :: vs) hs2 (x1.seq hs1 x2) (.cons (r1.ext x2) r2)
theorem mergeK_app : ∀ {more acc : List (Key × V)}, ((acc ++ more).map (·.1)).Nodup → mergeK acc more = acc ++ more
  | [], acc, _ => by simp [mergeK]
  | kv :: more, acc, nd => by
    have hn : ¬ (acc.any fun p => decide (p.1 = kv.1)) = true := fun z => by
      obtain ⟨p, hp, e⟩ := List.any_eq_true.mp z
      rw [List.map_append, List.map_cons, List.nodup_append] at nd
      exact nd.2.2 p.1 (List.mem_map.mpr ⟨p, hp, rfl⟩) kv.1 (by simp) (of_decide_eq_true e)
    have e : putK acc kv.1 kv.2 = acc ++ [kv] := by unfold putK; rw [if_neg hn]
    show mergeK (putK acc kv.1 kv.2) more = _
    rw [e, mergeK_app (by simpa using nd)]
    simp
theorem zip_keys : ∀ (ps : List (Str × Ev Val)) (vs : List V), (ps.map fun p => V.str p.1).zip vs = ((ps.map fun p => (Sum.inr p.1 : Key)).zip vs).map (fun kv => (kV kv.1, kv.2))
  | [], _ => by simp
  | _ :: _, [] => by simp
  | p :: ps, v :: vs => by
    simp only [List.map_cons, List.zip_cons_cons]
    rw [zip_keys ps vs]
    rfl
theorem reps_strs {F : Fz} : ∀ ks : List Str, Reps K F H (ks.map V.str) (ks.map PyData.str)
  | [] => .nil
  | k :: ks => .cons (.str k) (reps_strs ks)
theorem eDct_tr {m : Bool} {ps : List (Str × Ev Val)} (hnd : (ps.map (·.1)).Nodup) (hlen : ps.length ≤ 15) (h : tS K (eDct m (ps.map (·.1)) (aList (ps.map (·.2)))) σc H Q) : tDisp (trOf K ps) σc H Q := by
  obtain ⟨F, β, σ, h, hs, sr, x, h', e, q⟩ := h
  rcases qa : aList (ps.map (·.2)) σ h with _ | ⟨xs, h1⟩ <;> simp only [eDct, qa] at e
  · cases e
  rcases qf : fzs h1 xs with _ | ⟨ds, h2⟩ <;> simp only [qf] at e
  · cases e
  split at e
  rotate_left
  · cases e
  rename_i hl
  obtain ⟨rfl, rfl⟩ := mk_eq e
  intro p hp
  have hs0 := hs.new (o := .dK []) hp
  have x0 := hs.ext_new (o := .dK []) hp
  refine pairs_tr hs0 (sr.ext x0) qa fun F1 β1 H1 vs hs1 x1 r1 => ?_
  have hp1 : H1 p = some (.dK []) := x1.frame p _ upd_same (hs.nfix hp) (hs.nmem hp)
  refine ⟨hp1, ?_⟩
  obtain ⟨F2, hs2, x2, r2⟩ := fzs_ok hs1 r1 qf
  have x12 := x1.seq hs1 x2
  have nf : ¬ F2 p := fun z => by
    rcases x12.fnew p z with z | z | z
    · exact hs.nfix hp z
    · rw [upd_same] at z; cases z
    · exact hs.nmem hp z
  have nb : p ∉ β1 := fun z => by
    rcases x12.bmem z with z | z
    · exact hs.nmem hp z
    · rw [upd_same] at z; cases z
  have e1 := r2.length
  let kvs : List (Key × V) := (ps.map fun p => (Sum.inr p.1 : Key)).zip vs
  have lv : vs.length = ps.length := by rw [e1, hl]; simp
  have k1 : kvs.map (·.1) = ps.map fun p => (Sum.inr p.1 : Key) := by
    show ((ps.map fun p => (Sum.inr p.1 : Key)).zip vs).map (·.1) = _
    exact List.map_fst_zip (by simp [lv])
  have k2 : kvs.map (·.2) = vs := by
    show ((ps.map fun p => (Sum.inr p.1 : Key)).zip vs).map (·.2) = _
    exact List.map_snd_zip (by simp [lv])
  refine ⟨kvs, ?_, by show ((ps.map fun p => (Sum.inr p.1 : Key)).zip vs).length ≤ 15; simp; omega, ?_⟩
  · exact zip_keys ps vs
  · have nd2 : (kvs.map (·.1)).Nodup := by
      rw [k1]
      have : (ps.map fun p => (Sum.inr p.1 : Key)) = (ps.map (·.1)).map Sum.inr := by simp
      rw [this]
      exact hnd.map Sum.inr (fun a b z w => z (Sum.inr.inj w))
    have em : mergeK [] kvs = kvs := mergeK_app (acc := []) (by simpa using nd2)
    rw [em]
    obtain ⟨exa, hsa⟩ := hs2.aside (o' := .dK kvs) nf nb hp1 (fun _ z => nomatch z) (fun _ _ z => nomatch z)
    have hr : DR K F2 (upd H1 p (.dK kvs)) kvs (((ps.map (·.1)).map PyData.str).zip ds) := by
      refine ⟨?_, ?_⟩
      · have a1 : kvs.map (fun p => kV p.1) = (ps.map (·.1)).map V.str := by
          have z : kvs.map (fun p => kV p.1) = (kvs.map (·.1)).map kV := by simp
          rw [z, k1]
          simp [kV]
        rw [a1, List.map_fst_zip (by simp [← e1, lv])]
        exact reps_strs _
      · rw [k2, List.map_snd_zip (by simp [← e1, lv])]
        exact Reps.ex exa r2
    obtain ⟨F3, β3, s3, x3, rv⟩ := adoptD (m := m) hsa (Ext.later (x0.seq hs0 x12) hp (hs.nfix hp)) hp nf nb upd_same hr
    exact q F3 β3 _ _ s3 x3 rv
/-! ### methods of texts -/
def asS : Val → Option Str
  | .t (.str x) => some x
  | _ => none
theorem asS_ok {F : Fz} {β : List Addr} {v : V} {x : Val} {c : Str} (e : asS x = some c) (r : RV K F β H v x) : v = .str c := by
  cases x with
  | t d => cases d <;> simp [asS] at e; subst e; cases r; rfl
  | r n => simp [asS] at e
  | tp vs => simp [asS] at e
def eM0 (g : Str → Option PyData) (a : Ev Val) : Ev Val := fun σ h => match a σ h with
  | none => none
  | some (x, h1) => match asS x with
    | none => none
    | some s => match g s with
      | none => none
      | some r => some (.t r, h1)
def eM1 (g : Str → PyData → Option PyData) (a b : Ev Val) : Ev Val := fun σ h => match a σ h with
  | none => none
  | some (x, h1) => match asS x with
    | none => none
    | some s => match b σ h1 with
      | none => none
      | some (y, h2) => match rd h2 y with
        | none => none
        | some d => match g s d with
          | none => none
          | some r => some (.t r, h2)
def mUpper (a : Str) : Option PyData := if a.length ≤ 5592405 then some (.str (Txt.upper a)) else none
def mJoin (a : Str) : PyData → Option PyData
  | .list ds => (match asStrs ds with
    | some ys => if (ys.map (·.length)).sum + ys.length * a.length ≤ 16777216 then some (.str (Txt.join a ys)) else none
    | none => none)
  | _ => none
theorem upper_tr {ea : Ev Val} (h : tS K (eM0 mUpper ea) σc H Q) : tM0 (fun x xs H Q => ∃ a, x = .str a ∧ xs = [] ∧ a.length ≤ 5592405 ∧ Q (.str (Txt.upper a)) H) (tS K ea) σc H Q := by
  obtain ⟨F, β, σ, h, hs, sr, x, h', e, q⟩ := h
  rcases qa : ea σ h with _ | ⟨y, h1⟩ <;> simp only [eM0, qa] at e
  · cases e
  refine ⟨F, β, σ, h, hs, sr, y, h1, qa, fun F1 β1 H1 v hs1 x1 r1 => ?_⟩
  rcases qs : asS y with _ | s <;> simp only [qs] at e
  · cases e
  cases asS_ok qs r1
  simp only [mUpper] at e
  split at e
  · cases e
  rename_i r hr
  cases e
  split at hr
  rotate_left
  · cases hr
  rename_i hl
  cases hr
  exact ⟨⟨s, rfl⟩, s, rfl, rfl, hl, q F1 β1 H1 _ hs1 x1 (.str _)⟩
theorem join_tr {ea eb : Ev Val} (h : tS K (eM1 mJoin ea eb) σc H Q) : tM1 (fun x xs H Q => ∃ a p, ∃ ys : List Str, x = .str a ∧ xs = [.ref p] ∧ (SqL K H p (ys.map V.str) ∨ SqT K H p (ys.map V.str)) ∧
      (ys.map (·.length)).sum + ys.length * a.length ≤ 16777216 ∧ Q (.str (Txt.join a ys)) H) (tS K ea) (tS K eb) σc H Q := by
  obtain ⟨F, β, σ, h, hs, sr, x, h', e, q⟩ := h
  rcases qa : ea σ h with _ | ⟨y, h1⟩ <;> simp only [eM1, qa] at e
  · cases e
  refine ⟨F, β, σ, h, hs, sr, y, h1, qa, fun F1 β1 H1 v hs1 x1 r1 => ?_⟩
  rcases qs : asS y with _ | s <;> simp only [qs] at e
  · cases e
  cases asS_ok qs r1
  rcases qb : eb σ h1 with _ | ⟨z, h2⟩ <;> simp only [qb] at e
  · cases e
  refine ⟨⟨s, rfl⟩, F1, β1, σ, h1, hs1, sr.ext x1, z, h2, qb, fun F2 β2 H2 u hs2 x2 r2 => ?_⟩
  rcases qd : rd h2 z with _ | d <;> simp only [qd] at e
  · cases e
  rcases qg : mJoin s d with _ | r <;> simp only [qg] at e
  · cases e
  cases e
  cases d <;> simp only [mJoin] at qg <;> try cases qg
  split at qg
  rotate_left
  · cases qg
  rename_i ys hy
  split at qg <;> cases qg
  rename_i hl
  obtain ⟨a, vs, rfl, hq, rr⟩ := (RB.of_rd hs2 r2 qd).list
  rw [rr.strs hy] at hq
  exact ⟨s, a, ys, rfl, rfl, .inl hq, hl, q F2 β2 H2 _ hs2 (x1.seq hs1 x2) (.str _)⟩
end
end DE
end
section
set_option Elab.async false
set_option linter.all false
set_option maxRecDepth 100000
set_option maxHeartbeats 1000000
/-! lists changed by their methods; targets that are tuples; while -/
namespace DE
open PySem PySem.Spec PyProof.Rows L2

/-! ### x.m(..) of a changeable list -/
def eMethL (g : List PyData → List PyData → Option (PyData × List PyData)) (x : Ev Val) (as : Ev (List Val)) : Ev Val := fun σ h => match x σ h with
  | some (.r n, h1) => (match h1[n]? with
    | some (.l _) => (match as σ h1 with
      | none => none
      | some (vs, h2) => match fzs h2 vs with
        | none => none
        | some (ds, h3) => match h3[n]? with
          | some (.l xs) => (match g xs ds with
            | none => none
            | some (d, xs') => some (.t d, h3.set n (.l xs')))
          | _ => none)
    | _ => none)
  | _ => none
def gAppend : List PyData → List PyData → Option (PyData × List PyData)
  | xs, [d] => if xs.length < sizeLine then some (.none, xs ++ [d]) else none
  | _, _ => none
def gPopAt : List PyData → List PyData → Option (PyData × List PyData)
  | xs, [.int i] => if -(2 ^ 62) ≤ i ∧ i < 2 ^ 62 then (match ixN xs.length i with
    | some k => (match xs[k]? with
      | some y => some (y, xs.eraseIdx k)
      | none => none)
    | none => none) else none
  | _, _ => none
section
variable {K : KW} {X : Cx} {σc : L2.St} {H : Hp} {Q : VK} {D : Ends}
/-- the rule does what g tells -/
def MOk (K : KW) (r : V → List V → Hp → VK → Prop) (g : List PyData → List PyData → Option (PyData × List PyData)) : Prop :=
  ∀ {F : Fz} {H : Hp} {a : Addr} {ws us : List V} {xs ds xs' : List PyData} {d : PyData} {Q : VK}, H a = some (.lst ws) → Reps K F H ws xs → Reps K F H us ds → g xs ds = some (d, xs') →
    (∀ w ws', Rep K F H w d → Reps K F H ws' xs' → Q w (upd H a (.lst ws'))) → r (.ref a) us H Q
theorem append_ok : MOk K rAppend gAppend := by
  intro F H a ws us xs ds xs' d Q hH rw ru e q
  cases ru with
  | nil => cases e
  | cons r1 r2 =>
    cases r2 with
    | cons _ _ => cases e
    | nil =>
      simp only [gAppend] at e
      split at e <;> cases e
      rename_i hl
      exact ⟨a, ws, _, rfl, rfl, hH, by rw [rw.length]; exact hl, q _ _ .non (rw.append (.cons r1 .nil))⟩
theorem popAt_ok : MOk K rPopAt gPopAt := by
  intro F H a ws us xs ds xs' d Q hH rw ru e q
  cases ru with
  | nil => cases e
  | cons r1 r2 =>
    cases r2 with
    | cons _ _ => simp [gPopAt] at e
    | nil =>
      rename_i v dd
      cases dd <;> simp only [gPopAt] at e <;> try cases e
      split at e
      rotate_left
      · cases e
      rename_i i hi
      split at e
      rotate_left
      · cases e
      rename_i k hk
      split at e
      rotate_left
      · cases e
      rename_i y hy
      cases e
      cases r1
      obtain ⟨z1, z2, z3, z4⟩ := ixN_seq hk
      obtain ⟨w, hw, rw'⟩ := rw.get hy
      refine ⟨a, ws, i, k, w, rfl, rfl, hH, by omega, by omega, by rw [rw.length]; exact z1, hw, q w _ rw' (rw.eraseIdx k)⟩
theorem eMethL_tr {r : V → List V → Hp → VK → Prop} {g : List PyData → List PyData → Option (PyData × List PyData)} {ex : Ev Val} {ea : Ev (List Val)} (ok : MOk K r g) (h : tS K (eMethL g ex ea) σc H Q) : tBM K "list" r (tS K ex) (tSA K ea) σc H Q := by
  obtain ⟨F, β, σ, h, hs, sr, x, h', e, q⟩ := h
  unfold eMethL at e
  rcases qa : ex σ h with _ | ⟨y, h1⟩
  · rw [qa] at e; cases e
  rw [qa] at e
  cases y with
  | t d => cases e
  | tp d => cases e
  | r n =>
    simp only at e
    rcases q1 : h1[n]? with _ | o1
    · rw [q1] at e; cases e
    rw [q1] at e
    cases o1 with
    | d es => cases e
    | f d => cases e
    | e d => cases e
    | l ds0 =>
      simp only at e
      rcases qb : ea σ h1 with _ | ⟨vs, h2⟩ <;> simp only [qb] at e
      · cases e
      rcases qf : fzs h2 vs with _ | ⟨ds, h3⟩ <;> simp only [qf] at e
      · cases e
      rcases q3 : h3[n]? with _ | o3
      · rw [q3] at e; cases e
      rw [q3] at e
      cases o3 with
      | d es => cases e
      | f d => cases e
      | e d => cases e
      | l xs =>
        simp only at e
        rcases qg : g xs ds with _ | ⟨d, xs'⟩ <;> simp only [qg] at e
        · cases e
        cases e
        refine ⟨F, β, σ, h, hs, sr, .r n, h1, qa, fun F1 β1 H1 v hs1 x1 r1 => ?_⟩
        obtain ⟨a, ha, rfl⟩ := r1
        obtain ⟨_, vs0, z1, z2⟩ := hs1.obj n a _ ha q1
        refine ⟨.inl ⟨rfl, vs0, SqL.of z1⟩, F1, β1, σ, h1, hs1, sr.ext x1, vs, h2, qb, fun F2 β2 H2 us hs2 x2 r2 => ?_⟩
        obtain ⟨F3, hs3, x3, r3⟩ := fzs_ok hs2 r2 qf
        have ha3 : β2[n]? = some a := x2.pre n a ha
        obtain ⟨nf, ws, w1, w2⟩ := hs3.obj n a _ ha3 q3
        refine ok w1 w2 r3 qg fun w ws' rw rws => ?_
        obtain ⟨hs5, x5⟩ := hs3.write (o := .lst ws') (m := .l xs') ha3 nf w1 (fun _ z => nomatch z) (fun _ _ z => nomatch z) fun ex => ⟨nf, _, upd_same, Reps.ex ex rws⟩
        exact q F3 β2 _ w hs5 (((x1.seq hs1 x2).seq hs2 x3).seq hs3 x5) (Rep.ex x5.ex rw)
end
/-! ### targets that are tuples -/
abbrev Bd := PyData → Sg → Option Sg
def seqD : PyData → Option (List PyData)
  | .tuple xs => some xs
  | .list xs => some xs
  | _ => none
def bAll : List Bd → List PyData → Sg → Option Sg
  | [], [], σ => some σ
  | b :: bs, d :: ds, σ => (match b d σ with
    | none => none
    | some σ1 => bAll bs ds σ1)
  | _, _, _ => none
def bTup (bs : List Bd) : Bd := fun d σ => match seqD d with
  | none => none
  | some ds => bAll bs ds σ
def gAny2 (K : KW) (n : Nat) (t : TGs) : TG := fun v σ H Q => gTup K n t v σ H Q ∨ gUnl K n t v σ H Q
section
variable {K : KW} {X : Cx} {σc : L2.St} {H : Hp} {Q : VK} {D : Ends}
theorem pg_any2 {es : List Expr} {k : Nat} {t : TGs} {n : Nat} {pos : Pos} (hc : X.calm = true) (h : PGs X es t) (hn : (assignEach es X.env).length = n) (hst : (assignEach es X.env).findIdx? (·.1) = none) : PG X (.Tuple es k pos) (gAny2 X.kw n t) :=
  ⟨fun pins s σ H v u Q I r q => q.elim ((pg_tup hc h hn hst).run pins s σ H v u Q I r) ((pg_unl hc h hn hst).run pins s σ H v u Q I r)⟩
def GsOk (K : KW) (own : List Nat) (t : TGs) (bs : List Bd) : Prop :=
  ∀ {F : Fz} {β : List Addr} {H : Hp} {h : MH} {σc : L2.St} {σ σ' : Sg} {vs : List V} {ds : List PyData} {Q : L2.St → Hp → Prop}, HS K F β H h → SR K F β H σc σ → Reps K F H vs ds → bAll bs ds σ = some σ' →
    (∀ σc', SR K F β H σc' σ' → σc'.length = σc.length → (∀ i, i ∉ own → σc'[i]? = σc[i]?) → Q σc' H) → t vs σc H Q
theorem gsNil_ok {own : List Nat} : GsOk K own gNil [] := by
  intro F β H h σc σ σ' vs ds Q hs sr r e q
  cases r with
  | nil => cases e; exact ⟨rfl, q σc sr rfl fun _ _ => rfl⟩
  | cons _ _ => cases e
theorem gsCons_ok {own : List Nat} {g : TG} {t : TGs} {b : Bd} {bs : List Bd} (h1 : GOk K false own g b) (h2 : GsOk K own t bs) : GsOk K own (gCons g t) (b :: bs) := by
  intro F β H h σc σ σ' vs ds Q hs sr r e q
  cases r with
  | nil => cases e
  | cons ra rb =>
    simp only [bAll] at e
    split at e
    · cases e
    rename_i σ1 he
    refine ⟨_, _, rfl, h1 hs sr (.inl ra) he fun σc1 sr1 l1 k1 => h2 hs sr1 rb e fun σc2 sr2 l2 k2 => q σc2 sr2 (l2.trans l1) fun i hi => (k2 i hi).trans (k1 i hi)⟩
theorem bAll_len : ∀ {bs : List Bd} {ds : List PyData} {σ σ' : Sg}, bAll bs ds σ = some σ' → ds.length = bs.length
  | [], [], _, _, _ => rfl
  | b :: bs, d :: ds, σ, σ', e => by
    simp only [bAll] at e
    split at e
    · cases e
    · simp only [List.length_cons, bAll_len e]
  | [], _ :: _, _, _, e => by cases e
  | _ :: _, [], _, _, e => by cases e
theorem bTup_ok {w : Bool} {own : List Nat} {t : TGs} {bs : List Bd} {n : Nat} (hn : bs.length = n) (hgs : GsOk K own t bs) : GOk K w own (gAny2 K n t) (bTup bs) := by
  intro F β H h σc σ σ' v d Q hs sr r e q
  unfold bTup at e
  split at e
  · cases e
  rename_i ds hd
  have hl := bAll_len e
  rcases r with r | ⟨_, a, vs, es, rfl, rfl, ht, rr⟩
  rotate_left
  · simp only [seqD] at hd
    cases hd
    exact .inl ⟨_, _, rfl, ht, by rw [rr.length, hl, hn], hgs hs sr rr e q⟩
  cases d <;> simp only [seqD] at hd <;> cases hd
  · cases r with
    | lst hf rr => exact .inr ⟨_, _, rfl, hf.sq, by rw [rr.length, hl, hn], hgs hs sr rr e q⟩
  · cases r with
    | tup ht rr => exact .inl ⟨_, _, rfl, ht.sq, by rw [rr.length, hl, hn], hgs hs sr rr e q⟩
/-- target = value -/
def sSetB (b : Bd) (a : Ev Val) : Ex1 := fun σ h => match a σ h with
  | none => none
  | some (v, h1) => match fz h1 v with
    | none => none
    | some (d, h2) => match b d σ with
      | none => none
      | some σ' => some (.nx σ' h2)
theorem sSetB_tr {b : Bd} {a : Ev Val} {g : TG} {own : List Nat} {w : Bool} (hg : GOk K w own g b) (h : tSS K (sSetB b a) D σc H) : tAsg (tS K a) g D σc H := by
  obtain ⟨F, β, σ, h, hs, sr, o, e, q⟩ := h
  rcases qa : a σ h with _ | ⟨y, h1⟩ <;> simp only [sSetB, qa] at e
  · cases e
  rcases qf : fz h1 y with _ | ⟨d, h2⟩ <;> simp only [qf] at e
  · cases e
  rcases qb : b d σ with _ | σ' <;> simp only [qb] at e
  · cases e
  cases e
  refine ⟨F, β, σ, h, hs, sr, y, h1, qa, fun F1 β1 H1 v hs1 x1 r1 => ?_⟩
  obtain ⟨F2, hs2, x2, r2⟩ := fz_ok hs1 r1 qf
  have x12 := x1.seq hs1 x2
  exact hg hs2 (sr.ext x12) (.inl r2) qb fun σc' sr' _ _ => q F2 β1 σc' H1 hs2 sr' x12
/-! ### while -/
def sWhile (n : Nat) (t : Ev Bool) (body : Ex1) : Ex1 := fun σ h => whileGo t body n σ h
theorem sWhile_tr {n : Nat} {t : Ev Bool} {body : Ex1} (h : tSS K (sWhile n t body) D σc H) : tWhile (tST K t) (tSS K body) D σc H := by
  obtain ⟨F0, β0, σ, h, hs, sr, o, e, q⟩ := h
  refine ⟨fun m σ' H' => ∃ F' β' s' h', whileGo t body m s' h' = some o ∧ HS K F' β' H' h' ∧ SR K F' β' H' σ' s' ∧ Ext F0 β0 H F' β' H', ⟨n, F0, β0, σ, h, e, hs, sr, .refl⟩, ?_⟩
  rintro m σ' H' ⟨F', β', s', h', eg, hs', sr', x'⟩
  cases m with
  | zero => cases eg
  | succ m =>
    rcases qt : t s' h' with _ | ⟨b, h1⟩ <;> simp only [whileGo, qt] at eg
    · cases eg
    refine ⟨F', β', s', h', hs', sr', b, h1, qt, fun F1 β1 H1 hs1 x1 => ?_⟩
    have x01 := x'.seq hs' x1
    cases b with
    | false =>
      cases eg
      exact q F1 β1 σ' H1 hs1 (sr'.ext x1) x01
    | true =>
      simp only at eg
      show if true = true then _ else _
      rw [if_pos rfl]
      refine ⟨fun σ2 H2 => ∃ F2 β2 s2 h2, whileGo t body m s2 h2 = some o ∧ HS K F2 β2 H2 h2 ∧ SR K F2 β2 H2 σ2 s2 ∧ Ext F0 β0 H F2 β2 H2, fun σ2 H2 z => ⟨m, Nat.lt_succ_self m, z⟩, ?_⟩
      rcases qo : body s' h1 with _ | ob <;> simp only [qo] at eg
      · cases eg
      refine ⟨F1, β1, s', h1, hs1, sr'.ext x1, ob, qo, ?_⟩
      cases ob with
      | nx s5 h5 => intro F5 β5 σ5 H5 hs5 sr5 x5; exact ⟨F5, β5, s5, h5, eg, hs5, sr5, x01.seq hs1 x5⟩
      | ct s5 h5 => intro F5 β5 σ5 H5 hs5 sr5 x5; exact ⟨F5, β5, s5, h5, eg, hs5, sr5, x01.seq hs1 x5⟩
      | bk s5 h5 => cases eg; intro F5 β5 σ5 H5 hs5 sr5 x5; exact q F5 β5 σ5 H5 hs5 sr5 (x01.seq hs1 x5)
      | rt v5 h5 => cases eg; intro F5 β5 H5 v hs5 x5 r5; exact q F5 β5 H5 v hs5 (x01.seq hs1 x5) r5
end
/-! ### min, max -/
def gMin : List PyData → Option PyData
  | [.int i, .int j] => some (.int (if j < i then j else i))
  | _ => none
def gMax : List PyData → Option PyData
  | [.int i, .int j] => some (.int (if j > i then j else i))
  | _ => none
section
variable {X : Cx}
theorem RBs.two {K : KW} {F : Fz} {H : Hp} {xs : List V} {d e : PyData} (r : RBs K F H xs [d, e]) : ∃ x y, xs = [x, y] ∧ RB K F H x d ∧ RB K F H y e := by
  cases r with | cons a b => cases b with | cons b c => cases c; exact ⟨_, _, rfl, a, b⟩
theorem cd_min (hc : X.calm = true) : CallR X (.builtin "min") (rGN X.kw true gMin) := by
  intro pins s σ H xs us Q I r q
  obtain ⟨F, ds, o, h1, h2, q⟩ := q
  unfold gMin at h2
  split at h2
  · cases h2
    obtain ⟨x, y, rfl, a, b⟩ := h1.two
    cases a.int
    cases b.int
    exact call_min2 hc pins s σ H _ us Q I r ⟨_, _, rfl, q _ _ (.same (.inr rfl) (.int _))⟩
  · cases h2
theorem cd_max (hc : X.calm = true) : CallR X (.builtin "max") (rGN X.kw true gMax) := by
  intro pins s σ H xs us Q I r q
  obtain ⟨F, ds, o, h1, h2, q⟩ := q
  unfold gMax at h2
  split at h2
  · cases h2
    obtain ⟨x, y, rfl, a, b⟩ := h1.two
    cases a.int
    cases b.int
    exact call_max2 hc pins s σ H _ us Q I r ⟨_, _, rfl, q _ _ (.same (.inr rfl) (.int _))⟩
  · cases h2
/-! ### x.m(..) -/
theorem few1 {a : Expr} {env : Env} {cpos : Pos} (h : starEach [a] env = (false, eval a env) :: starEach [] env) : ((backTo cpos (starEach [a] env)).all (fun x => !x.1) && (backToKw cpos (keywordEach [] env)).all (fun x => x.1.isSome)
      && decide (([a] : List Expr).length + ([] : List Keyword).length + (if ([] : List Keyword).isEmpty then 0 else 1) < 30)) = true := by
  rw [h]
  rfl
theorem pe_append1 {o a : Expr} {eo ea : Ev Val} {apos cpos : Pos} (ho : PE X o (tS X.kw eo)) (ha : PA X [a] (tSA X.kw (aCons ea aNil))) (hs : starEach [a] X.env = (false, eval a X.env) :: starEach [] X.env)
    (hbase : attributeBase o "append" X.env (eval o X.env) = eval o X.env) (hline : (apos.endLine == cpos.line) = true) : PE X (.Call (.Attribute o "append" apos) [a] [] cpos) (tS X.kw (eMethL gAppend eo (aCons ea aNil))) :=
  pe_mono (pe_bm F.plainAttrs_list F.slot_list_append (by first | rfl | kernel_rfl) mt_append ho ha hbase (few1 hs) hline hs rfl) fun _ _ _ _ _ _ h => eMethL_tr append_ok h
theorem pe_pop1 {o a : Expr} {eo ea : Ev Val} {apos cpos : Pos} (ho : PE X o (tS X.kw eo)) (ha : PA X [a] (tSA X.kw (aCons ea aNil))) (hs : starEach [a] X.env = (false, eval a X.env) :: starEach [] X.env)
    (hbase : attributeBase o "pop" X.env (eval o X.env) = eval o X.env) (hline : (apos.endLine == cpos.line) = true) : PE X (.Call (.Attribute o "pop" apos) [a] [] cpos) (tS X.kw (eMethL gPopAt eo (aCons ea aNil))) :=
  pe_mono (pe_bm F.plainAttrs_list F.slot_list_pop (by first | rfl | kernel_rfl) mt_popAt ho ha hbase (few1 hs) hline hs rfl) fun _ _ _ _ _ _ h => eMethL_tr popAt_ok h
end
end DE
end
section
set_option Elab.async false
set_option linter.all false
set_option maxRecDepth 100000
set_option maxHeartbeats 1000000
/-! enumerate of a tuple -/
namespace DE
open PySem PySem.Spec PyProof.Rows L2
open AutoSeq1
abbrev enO (i : Addr) : Obj := { cls := .type "enumerate", data := .fields #[.none, .bool false, .ref i, rawInt 0, .none, .none] }
theorem meets_enumT (l : Addr) (items : Array Value) (n : Nat) (dc : Option Addr) (slt : Array (Option Value)) :
    Meets (Builtin.«enumerate.__new__» ⟨[.type "enumerate", .ref l], []⟩) (fun _ R s => s.heap.get? l = some { cls := .type "tuple", dict := dc, data := .seq items n, slots := slt } ∧
      R (.ok (.ret (.ref (s.heap.push { cls := .type "tuple_iterator", data := .fields #[.ref l, .int 0 0] }).objs.size)))
        { s with heap := (s.heap.push { cls := .type "tuple_iterator", data := .fields #[.ref l, .int 0 0] }).push { cls := .type "enumerate", data := .fields #[.none, .bool false, .ref s.heap.objs.size, rawInt 0, .none, .none] } }) :=
  .of_wp fun pr wd A R s h => by
    obtain ⟨hp, g, d, kt, os⟩ := s; obtain ⟨ht, h⟩ := h
    have hsub := sub_enumerate
    have hT : Heap.IsTuple (Shared.heap ⟨hp, g, d, kt, os⟩) l items := ⟨_, ht, rfl, n, rfl⟩
    wp_walk using wpAny_loadPart' ht
    refine wpAny_stack_any fun tt => wpAny_pure ?_
    split
    · rename_i c _ _ _ _ _
      cases (c == (Value.type "enumerate"))
      · wp_walk using wpAny_loadPart' ht, wpAny_pyIter_tuple hT
        exact ⟨_, rfl, h⟩
      · wp_walk using wpAny_loadPart' ht, wpAny_pyIter_tuple hT
        exact ⟨_, rfl, h⟩
    · wp_walk using wpAny_loadPart' ht, wpAny_pyIter_tuple hT
      exact ⟨_, rfl, h⟩
section
variable {prog : Program} {w : World} {A : Around} {E : Value → Shared → Prop} {s : Shared}
theorem call_enumT {l : Addr} {items : Array Value} {Q : Value → Shared → Prop} (Lh : s.heap.IsTuple l items)
    (h : ∀ h', IsEnum h' (s.heap.objs.size + 1) s.heap.objs.size 0 .none → h'.IsTupleIter s.heap.objs.size l 0 → h'.objs.size = s.heap.objs.size + 2 → (∀ b o, s.heap.get? b = some o → h'.get? b = some o) → Q (.ref (s.heap.objs.size + 1)) { s with heap := h' }) :
    wpAny (model prog w) A (call (Value.type "enumerate") [Value.ref l]) Q E s := by
  obtain ⟨⟨c, dc, da, slt⟩, lh, ch, n, dh⟩ := Lh
  replace ch : c = .type "tuple" := ch
  replace dh : da = .seq items n := dh
  subst ch dh
  refine callType_new F.called_enumerate (by decide) (F.typeCall_enumerate_1 _) (F.newCall_enumerate_1 _) (fun ob => F.args_object_init_2 ob _)
    F.entry_enumerate_new
    (meets_enumT l items n dc slt) ⟨lh, ?_⟩
  have zh : (s.heap.push { cls := .type "tuple_iterator", data := .fields #[.ref l, .int 0 0] }).objs.size = s.heap.objs.size + 1 := Heap.size_push ..
  show _ ∧ _
  rw [zh]
  have eh : IsEnum ((s.heap.push { cls := .type "tuple_iterator", data := .fields #[.ref l, .int 0 0] }).push
      (enO s.heap.objs.size)) (s.heap.objs.size + 1) s.heap.objs.size 0 .none := by
    have := Heap.get?_push_size (s.heap.push { cls := .type "tuple_iterator", data := .fields #[.ref l, .int 0 0] })
      (o := enO s.heap.objs.size) rfl
    rw [zh] at this; exact this
  refine ⟨⟨_, eh, rfl⟩, h _ eh ⟨_, Heap.get?_push_of_some _ (Heap.get?_push_size _ rfl), rfl, rfl⟩ (by rw [Heap.size_push, zh]) fun b o x => Heap.get?_push_of_some _ (Heap.get?_push_of_some _ x)⟩
end
def IteT (K : PySem.W.Frag) (a : Addr) : It :=
  ⟨fun i H => ∃ (xs : List V) (x : V), SqT K H a xs ∧ xs[i]? = some x, fun i H v H' => ∃ T x, v = .ref T ∧ H T = none ∧ H' = upd H T (.tup [.int (i : Nat), x]) ∧ ∀ xs, SqT K H a xs → xs[i]? = some x, fun i H => ∃ xs : List V, SqT K H a xs ∧ xs.length = i⟩
theorem turn_enumT {P : Program} {w : World} {K : PySem.W.Frag} {elts : List Expr} {kk : Nat} {tpos : Pos} (a e it : Addr) :
    Turn P w K (.Tuple elts kk tpos) (IteT K a) [e, it] e (fun i h => (∃ was, IsEnum h e it ((i : Nat) : Int) was) ∧ h.IsTupleIter it a i ∧ e ≠ it ∧ a ≠ it ∧ e ≠ a) where
  mem := by simp
  obj := fun i h tt b bh => by
    obtain ⟨⟨was, eh⟩, ⟨o, ho, ch, dh⟩, _⟩ := tt
    have eb : b = e ∨ b = it := by simpa using bh
    rcases eb with z | z
    · rw [z]; exact ⟨_, eh, fun v q => nomatch q⟩
    · rw [z]; exact ⟨o, ho, fun v q => by rw [dh] at q; cases q⟩
  keep := fun i h h' tt k => let ⟨⟨was, eh⟩, hi, neh⟩ := tt; ⟨⟨was, k e (by simp) _ eh⟩, hi.at fun o q => k it (by simp) o q, neh⟩
  item := by
    intro X eP ew eK ch i pns s σ H E I ff tt gg
    subst eP ew eK
    obtain ⟨⟨was, eh⟩, ith, neh, hai, hea⟩ := tt
    obtain ⟨xs, x, qh, xh⟩ := gg
    obtain ⟨zs, vz, p, zh⟩ := I.tuple qh
    obtain ⟨u, ux, uu⟩ := vz.get xh
    have le1 : e < s.heap.objs.size := Heap.lt_size eh
    have le2 : it < s.heap.objs.size := by obtain ⟨_, q, _⟩ := ith; exact Heap.lt_size q
    have hh0 : X.A.in1.handled = none := by simpa using I.ok.hd ch
    have hlt : i < zs.toArray.size := by
      have := (List.getElem?_eq_some_iff.mp ux).1
      simpa using this
    refine wpAny_pyNext_enum_itemD (Draws.tuple (prog := X.prog) (w := X.w) hh0 it a hai zs.toArray) eh ⟨ith, p⟩ hlt neh (by simp [neh, hea]) fun y h' kt hy ho st' hT szh kh => ?_
    have ey : y = u := by
      have e1 : zs[i]? = some y := by simpa using hy
      rw [ux] at e1
      exact (Option.some.inj e1).symm
    subst ey
    refine ⟨_, rfl, wpAny_letOwnedTupleGo_enum (s := { s with heap := h', toks := kt + 1 }) ho fun h'' he' sb => ?_⟩
    have hT2 : h''.get? s.heap.objs.size = some { cls := .type "tuple", data := .seq #[.int i kt, y] } := (sb.2 _ (Nat.ne_of_gt le1)).trans hT
    have nw : ObjOk X.prog X.w (upd H s.heap.objs.size (.tup [.int (i : Nat), x])) h'' s.heap.objs.size (.tup [.int (i : Nat), x]) :=
      ⟨by show 2 ≤ sizeLine; decide, [.int i kt, y], .cons ⟨_, rfl⟩ (.cons uu .nil), ⟨_, hT2, rfl, _, rfl⟩⟩
    have J1 : Inv X pns σ (upd H s.heap.objs.size (.tup [.int (i : Nat), x])) { s with heap := h'', toks := kt + 1 } :=
      I.turnedNew (ch := [e, it]) (fun b ob bh q => (sb.2 b (fun z => bh (by simp [z]))).trans (kh b ob (fun z => bh (by simp [z])) (fun z => bh (by simp [z])) q)) ff (Nat.le_refl _) nw
    refine ⟨.ref s.heap.objs.size, _, J1, rfl, ⟨_, x, rfl, I.hok.fresh (Nat.le_refl _), rfl, fun ys hy => by rw [I.tuple_inj hy qh]; exact xh⟩, ⟨⟨y, ?_⟩, st'.1.at fun o q => (sb.2 it (Ne.symm neh)).trans q, neh, hai, hea⟩, fun b bh => ?_⟩
    · have e1 : ((i + 1 : Nat) : Int) = ((i : Nat) : Int) + 1 := by omega
      rw [e1]; exact he'
    · have bh2 : b < s.heap.objs.size := by
        have eb : b = e ∨ b = it := by simpa using bh
        rcases eb with z | z
        · rw [z]; exact le1
        · rw [z]; exact le2
      rw [upd_ne (Nat.ne_of_lt bh2)]
      exact (ff b bh).1
  done := by
    intro X eP ew eK ch i pns s σ H E I ff tt gg
    subst eP ew eK
    obtain ⟨⟨was, eh⟩, ith, neh, hai, hea⟩ := tt
    obtain ⟨xs, qh, xh⟩ := gg
    obtain ⟨zs, vz, p, zh⟩ := I.tuple qh
    obtain ⟨g0, g1, g2, g3, g4, g5⟩ := ff it (by simp)
    have lh := vz.length
    have hh0 : X.A.in1.handled = none := by simpa using I.ok.hd ch
    have ei : i = zs.toArray.size := by simp; omega
    subst ei
    exact wpAny_pyNext_enum_endD (Draws.tuple (prog := X.prog) (w := X.w) hh0 it a hai zs.toArray) eh ⟨ith, p⟩ fun h' eb => ⟨rfl, I.turned (t' := s.toks) (fun b o bh q => eb b o bh q) g0 g1 g3 g4 g5⟩
  self := fun A i s Q E tt h => let ⟨⟨_, eh⟩, _⟩ := tt; wpAny_pyIter_enum eh h
def iEnumA (K : PySem.W.Frag) (ta : TA) : TI := fun σ H R => ta σ H fun vs H1 => ∃ a xs, vs = [.ref a] ∧ ((SqL K H1 a xs ∧ R (Ite K a) H1) ∨ (SqT K H1 a xs ∧ R (IteT K a) H1))
theorem pi_enumA {X : Cx} {e : Expr} {ta : TA} {p pos tpos : Pos} {elts : List Expr} {kk : Nat} (gg : Gl X "enumerate") (hm : X.mg "enumerate" = none) (ha : PA X [e] ta) (hs : starEach [e] X.env = [(false, eval e X.env)] := by rfl) :
    PI X (.Tuple elts kk tpos) (.Call (.Name "enumerate" p) [e] [] pos) (iEnumA X.K ta) := by
  refine ⟨fun pns s σ H R I h => ?_⟩
  refine Call_ (ld_blt I gg hm boot_enumerate (PyProof.Rows.callWith_type1 (thn (ha.run pos pns s σ H _ I h) fun ws s2 ⟨vs, H1, J1, ra, qa⟩ => ?_) hs rfl))
  obtain ⟨a, xs, ex, qa⟩ := qa
  subst ex
  cases ra with
  | cons r rr =>
    cases rr
    cases r
    have fpo : ∀ b ∈ [s2.heap.objs.size + 1, s2.heap.objs.size], FpOk X pns H1 b := fun b bh => by
      have eb : b = s2.heap.objs.size + 1 ∨ b = s2.heap.objs.size := by simpa using bh
      have leh : s2.heap.objs.size ≤ b := by
        rcases eb with z | z
        · rw [z]; exact Nat.le_add_right _ 1
        · rw [z]; exact Nat.le_refl _
      exact J1.fpOk leh (J1.hok.fresh leh)
    rcases qa with ⟨qh, q⟩ | ⟨qh, q⟩
    · obtain ⟨zs, vz, p', zh⟩ := J1.list qh
      refine call_enumerate_list p'.isList fun h' eh ith szh kh => wpAny_pyIter_enum eh ?_
      have J2 : Inv X pns σ H1 { s2 with heap := h' } := J1.kept (t' := s2.toks) kh
      exact ⟨s2.heap.objs.size + 1, [s2.heap.objs.size + 1, s2.heap.objs.size], _, _, H1, rfl, J2, turn_enum a (s2.heap.objs.size + 1) s2.heap.objs.size, ⟨⟨.none, eh⟩, ith, Nat.succ_ne_self _⟩, fpo, q⟩
    · obtain ⟨zs, vz, p', zh⟩ := J1.tuple qh
      have hal : a < s2.heap.objs.size := by obtain ⟨_, q, _⟩ := p'; exact Heap.lt_size q
      refine call_enumT p' fun h' eh ith szh kh => wpAny_pyIter_enum eh ?_
      have J2 : Inv X pns σ H1 { s2 with heap := h' } := J1.kept (t' := s2.toks) kh
      exact ⟨s2.heap.objs.size + 1, [s2.heap.objs.size + 1, s2.heap.objs.size], _, _, H1, rfl, J2, turn_enumT a (s2.heap.objs.size + 1) s2.heap.objs.size, ⟨⟨.none, eh⟩, ith, Nat.succ_ne_self _, Nat.ne_of_lt hal, Nat.ne_of_gt (Nat.lt_succ_of_lt hal)⟩, fpo, q⟩
end DE
end
section
set_option Elab.async false
set_option linter.all false
set_option maxRecDepth 100000
set_option maxHeartbeats 1000000
/-! zip and enumerate -/
namespace DE
open PySem PySem.Spec PyProof.Rows L2
def zipD : List PyData → List PyData → List PyData
  | x :: xs, y :: ys => .tuple [x, y] :: zipD xs ys
  | _, _ => []
theorem zipD_get : ∀ {xs ys : List PyData} {i : Nat} {d : PyData}, (zipD xs ys)[i]? = some d → ∃ x y, xs[i]? = some x ∧ ys[i]? = some y ∧ d = .tuple [x, y]
  | [], _, _, _, h => by simp [zipD] at h
  | _ :: _, [], _, _, h => by simp [zipD] at h
  | x :: xs, y :: ys, 0, d, h => by cases h; exact ⟨x, y, rfl, rfl, rfl⟩
  | x :: xs, y :: ys, i + 1, d, h => by
    simp only [zipD, List.getElem?_cons_succ] at h ⊢
    exact zipD_get h
theorem zipD_len : ∀ {xs ys : List PyData}, (zipD xs ys).length = min xs.length ys.length
  | [], _ => by simp [zipD]
  | _ :: _, [] => by simp [zipD]
  | x :: xs, y :: ys => by simp only [zipD, List.length_cons, zipD_len (xs := xs) (ys := ys)]; omega
def zip2 : PyData → PyData → Option (List PyData)
  | .list xs, .list ys => some (zipD xs ys)
  | .tuple xs, .tuple ys => some (zipD xs ys)
  | _, _ => none
def itZ (a b : Ev Val) : Ev (List PyData) := fun σ h => match aCons a (aCons b aNil) σ h with
  | none => none
  | some (vs, h1) => match fzs h1 vs with
    | some ([d, e], h2) => (match zip2 d e with
      | none => none
      | some ds => some (ds, h2))
    | _ => none
def enumD (n : Nat) : List PyData → List PyData
  | [] => []
  | x :: xs => .tuple [.int n, x] :: enumD (n + 1) xs
theorem enumD_get : ∀ {xs : List PyData} {n i : Nat} {d : PyData}, (enumD n xs)[i]? = some d → ∃ x, xs[i]? = some x ∧ d = .tuple [.int ((n + i : Nat) : Int), x]
  | [], _, _, _, h => by simp [enumD] at h
  | x :: xs, n, 0, d, h => by cases h; exact ⟨x, rfl, rfl⟩
  | x :: xs, n, i + 1, d, h => by
    simp only [enumD, List.getElem?_cons_succ] at h ⊢
    obtain ⟨y, h1, h2⟩ := enumD_get h
    exact ⟨y, h1, by rw [h2, show n + 1 + i = n + (i + 1) by omega]⟩
theorem enumD_len : ∀ {xs : List PyData} {n : Nat}, (enumD n xs).length = xs.length
  | [], _ => rfl
  | _ :: xs, n => by simp only [enumD, List.length_cons, enumD_len]
def itE (a : Ev Val) : Ev (List PyData) := fun σ h => match a σ h with
  | none => none
  | some (v, h1) => match fz h1 v with
    | some (.list xs, h2) => some (enumD 0 xs, h2)
    | some (.tuple xs, h2) => some (enumD 0 xs, h2)
    | _ => none
section
variable {K : KW} {X : Cx} {σc : L2.St} {H : Hp}
theorem ItOk.zipL {F : Fz} {a b : Addr} {vs ws : List V} {xs ys : List PyData} (h1 : FL K F H a vs) (r1 : Reps K F H vs xs) (h2 : FL K F H b ws) (r2 : Reps K F H ws ys) : ItOk K true F H (Itz K a b) (zipD xs ys) where
  go := fun F2 H2 e i d hd => by
    obtain ⟨x, y, hx, hy, _⟩ := zipD_get hd
    obtain ⟨v, hv, _⟩ := r1.get hx
    obtain ⟨w, hw, _⟩ := r2.get hy
    exact ⟨vs, ws, v, w, (h1.ex e).sq, (h2.ex e).sq, hv, hw⟩
  yld := fun F2 H2 e i d hd x H3 hy => by
    obtain ⟨x', y', hx', hy', rfl⟩ := zipD_get hd
    obtain ⟨v, hv, rv⟩ := r1.get hx'
    obtain ⟨w, hw, rw'⟩ := r2.get hy'
    obtain ⟨T, x1, y1, rfl, hT, rfl, f1, f2⟩ := hy
    have e1 := f1 vs (h1.ex e).sq
    rw [hv] at e1
    have e2 := f2 ws (h2.ex e).sq
    rw [hw] at e2
    cases e1
    cases e2
    exact .inr ⟨rfl, T, _, _, hT, rfl, rfl, rfl, .cons (Rep.ex e rv) (.cons (Rep.ex e rw') .nil)⟩
  stop := fun F2 H2 e => ⟨vs, ws, (h1.ex e).sq, (h2.ex e).sq, by rw [zipD_len, r1.length, r2.length]; omega⟩
theorem ItOk.zipT {F : Fz} {a b : Addr} {vs ws : List V} {xs ys : List PyData} (h1 : SqT K H a vs) (r1 : Reps K F H vs xs) (h2 : SqT K H b ws) (r2 : Reps K F H ws ys) : ItOk K true F H (RZ.ItzT K a b) (zipD xs ys) where
  go := fun F2 H2 e i d hd => by
    obtain ⟨x, y, hx, hy, _⟩ := zipD_get hd
    obtain ⟨v, hv, _⟩ := r1.get hx
    obtain ⟨w, hw, _⟩ := r2.get hy
    exact ⟨vs, ws, v, w, sqT_ex e h1, sqT_ex e h2, hv, hw⟩
  yld := fun F2 H2 e i d hd x H3 hy => by
    obtain ⟨x', y', hx', hy', rfl⟩ := zipD_get hd
    obtain ⟨v, hv, rv⟩ := r1.get hx'
    obtain ⟨w, hw, rw'⟩ := r2.get hy'
    obtain ⟨T, x1, y1, rfl, hT, rfl, f1, f2⟩ := hy
    have e1 := f1 vs (sqT_ex e h1)
    rw [hv] at e1
    have e2 := f2 ws (sqT_ex e h2)
    rw [hw] at e2
    cases e1
    cases e2
    exact .inr ⟨rfl, T, _, _, hT, rfl, rfl, rfl, .cons (Rep.ex e rv) (.cons (Rep.ex e rw') .nil)⟩
  stop := fun F2 H2 e => ⟨vs, ws, sqT_ex e h1, sqT_ex e h2, by rw [zipD_len, r1.length, r2.length]; omega⟩
theorem ItOk.enum {F : Fz} {a : Addr} {vs : List V} {xs : List PyData} (h1 : FL K F H a vs) (r1 : Reps K F H vs xs) : ItOk K true F H (Ite K a) (enumD 0 xs) where
  go := fun F2 H2 e i d hd => by
    obtain ⟨x, hx, _⟩ := enumD_get hd
    obtain ⟨v, hv, _⟩ := r1.get hx
    exact ⟨vs, v, (h1.ex e).sq, hv⟩
  yld := fun F2 H2 e i d hd x H3 hy => by
    obtain ⟨x', hx', rfl⟩ := enumD_get hd
    obtain ⟨v, hv, rv⟩ := r1.get hx'
    obtain ⟨T, x1, rfl, hT, rfl, f1⟩ := hy
    have e1 := f1 vs (h1.ex e).sq
    rw [hv] at e1
    cases e1
    refine .inr ⟨rfl, T, _, _, hT, rfl, rfl, rfl, .cons ?_ (.cons (Rep.ex e rv) .nil)⟩
    rw [Nat.zero_add]
    exact .int _
  stop := fun F2 H2 e => ⟨vs, (h1.ex e).sq, by rw [enumD_len, r1.length]; exact Nat.le_refl _⟩
theorem ItOk.enumT {F : Fz} {a : Addr} {vs : List V} {xs : List PyData} (h1 : SqT K H a vs) (r1 : Reps K F H vs xs) : ItOk K true F H (IteT K a) (enumD 0 xs) where
  go := fun F2 H2 e i d hd => by
    obtain ⟨x, hx, _⟩ := enumD_get hd
    obtain ⟨v, hv, _⟩ := r1.get hx
    exact ⟨vs, v, sqT_ex e h1, hv⟩
  yld := fun F2 H2 e i d hd x H3 hy => by
    obtain ⟨x', hx', rfl⟩ := enumD_get hd
    obtain ⟨v, hv, rv⟩ := r1.get hx'
    obtain ⟨T, x1, rfl, hT, rfl, f1⟩ := hy
    have e1 := f1 vs (sqT_ex e h1)
    rw [hv] at e1
    cases e1
    refine .inr ⟨rfl, T, _, _, hT, rfl, rfl, rfl, .cons ?_ (.cons (Rep.ex e rv) .nil)⟩
    rw [Nat.zero_add]
    exact .int _
  stop := fun F2 H2 e => ⟨vs, sqT_ex e h1, by rw [enumD_len, r1.length]⟩
theorem pi_Z {a b : Expr} {p pos tpos : Pos} {elts : List Expr} {kk : Nat} {ea eb : Ev Val} (hg : Gl X "zip") (hm : X.mg "zip" = none) (ha : PA X [a, b] (tSA X.kw (aCons ea (aCons eb aNil)))) (hs : starEach [a, b] X.env = (false, eval a X.env) :: starEach [b] X.env)
    (hpl : (backTo pos (starEach [b] X.env)).any (·.1) = false) : PI X (.Tuple elts kk tpos) (.Call (.Name "zip" p) [a, b] [] pos) (tSI X.kw true (itZ ea eb)) := by
  refine pi_mono (RZ.pi_zipA hg hm ha hs hpl) fun pins s σc H R I h => ?_
  obtain ⟨F, β, σ, h, hs, sr, ds, h', e, q⟩ := h
  rcases qa : aCons ea (aCons eb aNil) σ h with _ | ⟨vs, h1⟩ <;> simp only [itZ, qa] at e
  · cases e
  refine ⟨F, β, σ, h, hs, sr, vs, h1, qa, fun F1 β1 H1 us hs1 x1 r1 => ?_⟩
  rcases qf : fzs h1 vs with _ | ⟨zs, h2⟩ <;> simp only [qf] at e
  · cases e
  obtain ⟨F2, hs2, x2, r2⟩ := fzs_ok hs1 r1 qf
  cases r2 with
  | nil => cases e
  | cons ra rb =>
    cases rb with
    | nil => cases e
    | cons rb rc =>
      cases rc with
      | cons _ _ => cases e
      | nil =>
        rename_i d1 v2 d2
        simp only at e
        rcases qz : zip2 d1 d2 with _ | zs <;> rw [qz] at e
        · cases e
        cases e
        have fin := fun J ok => q F2 β1 H1 J hs2 (x1.seq hs1 x2) ok
        unfold zip2 at qz
        split at qz
        · cases qz
          cases ra with
          | lst f1 q1 =>
            cases rb with
            | lst f2 q2 => exact ⟨_, _, _, _, rfl, .inl ⟨f1.sq, f2.sq, fin _ (.zipL f1 q1 f2 q2)⟩⟩
        · cases qz
          cases ra with
          | tup f1 q1 =>
            cases rb with
            | tup f2 q2 => exact ⟨_, _, _, _, rfl, .inr ⟨f1.sq, f2.sq, fin _ (.zipT f1.sq q1 f2.sq q2)⟩⟩
        · cases qz
theorem pi_En {a : Expr} {p pos tpos : Pos} {elts : List Expr} {kk : Nat} {ea : Ev Val} (hg : Gl X "enumerate") (hm : X.mg "enumerate" = none) (ha : PA X [a] (tSA X.kw (aCons ea aNil))) (hs : starEach [a] X.env = [(false, eval a X.env)]) :
    PI X (.Tuple elts kk tpos) (.Call (.Name "enumerate" p) [a] [] pos) (tSI X.kw true (itE ea)) := by
  refine pi_mono (pi_enumA hg hm ha hs) fun pins s σc H R I h => ?_
  obtain ⟨F, β, σ, h, hs, sr, ds, h', e, q⟩ := h
  rcases qa : ea σ h with _ | ⟨y, h1⟩ <;> simp only [itE, qa] at e
  · cases e
  rcases qf : fz h1 y with _ | ⟨d, h2⟩ <;> simp only [qf] at e
  · cases e
  cases d <;> simp only at e <;> cases e
  · refine ⟨F, β, σ, h, hs, sr, [y], h1, by unfold aCons aNil; rw [qa], fun F1 β1 H1 vs hs1 x1 r1 => ?_⟩
    cases r1 with
    | cons r1 r2 =>
      cases r2
      obtain ⟨F2, hs2, x2, r2⟩ := fz_ok hs1 r1 qf
      cases r2 with
      | lst f1 q1 => exact ⟨_, _, rfl, .inl ⟨f1.sq, q F2 β1 H1 _ hs2 (x1.seq hs1 x2) (.enum f1 q1)⟩⟩
  · refine ⟨F, β, σ, h, hs, sr, [y], h1, by unfold aCons aNil; rw [qa], fun F1 β1 H1 vs hs1 x1 r1 => ?_⟩
    cases r1 with
    | cons r1 r2 =>
      cases r2
      obtain ⟨F2, hs2, x2, r2⟩ := fz_ok hs1 r1 qf
      cases r2 with
      | tup f1 q1 => exact ⟨_, _, rfl, .inr ⟨f1.sq, q F2 β1 H1 _ hs2 (x1.seq hs1 x2) (.enumT f1.sq q1)⟩⟩
end
end DE
end
section
set_option Elab.async false
set_option linter.all false
set_option maxRecDepth 100000
set_option maxHeartbeats 1000000
/-! dict(pairs), x in a dict, d.get -/
namespace DE
open PySem PySem.Spec PyProof.Rows L2
/-! ### x in d -/
def gInD (d e : PyData) : Option PyData := match e with
  | .dict es => (match keyD d with
    | some k => some (.bool (valD es k).isSome)
    | none => none)
  | _ => gIn d e
def gNotInD (d e : PyData) : Option PyData := match gInD d e with
  | some (.bool b) => some (.bool !b)
  | _ => none
section
variable {K : KW} {F : Fz} {H : Hp} {X : Cx}
theorem DR.isSome {kvs : List (Key × V)} {es : List (PyData × PyData)} (r : DR K F H kvs es) (k : Key) : (valV kvs k).isSome = (valD es k).isSome := by
  have e := any_keys k r.keys
  unfold valV valD
  rw [Option.isSome_map, Option.isSome_map, List.isSome_find?, List.isSome_find?]
  exact e.symm
theorem gInD_other {d e : PyData} (h : ∀ es, e ≠ .dict es) : gInD d e = gIn d e := by
  cases e <;> first | rfl | exact absurd rfl (h _)
theorem oc_inD (hu : X.A.units + 70 < cLine) : OpR X (compareOp .In) (rCmp X.kw gInD) := by
  intro pins s σ H x y v u Q I rx ry q
  obtain ⟨F, d, e, r, h1, h2, h3, q⟩ := q
  by_cases hd : ∃ es, e = .dict es
  · obtain ⟨es, rfl⟩ := hd
    simp only [gInD] at h3
    split at h3
    · rename_i k hk
      cases h3
      obtain ⟨a, kvs, rfl, ha, rr⟩ := h2.dict
      obtain ⟨rfl, _⟩ := keyD_of h1 hk
      cases ry
      refine d_in (by omega) I (.k ha) rx fun s' I' => ⟨.bl _, H, I', rfl, ?_⟩
      rw [rr.isSome]
      exact q
    · cases h3
  · rw [gInD_other fun es z => hd ⟨es, z⟩] at h3
    exact oc_in hu pins s σ H x y v u Q I rx ry ⟨F, d, e, r, h1, h2, h3, q⟩
theorem oc_notinD (hu : X.A.units + 70 < cLine) : OpR X (compareOp .NotIn) (rCmp X.kw gNotInD) := by
  intro pins s σ H x y v u Q I rx ry q
  obtain ⟨F, d, e, r, h1, h2, h3, q⟩ := q
  by_cases hd : ∃ es, e = .dict es
  · obtain ⟨es, rfl⟩ := hd
    simp only [gNotInD, gInD] at h3
    rcases hk : keyD d with _ | k <;> simp only [hk] at h3
    · cases h3
    cases h3
    obtain ⟨a, kvs, rfl, ha, rr⟩ := h2.dict
    obtain ⟨rfl, _⟩ := keyD_of h1 hk
    cases ry
    refine d_notIn (by omega) I (.k ha) rx fun s' I' => ⟨.bl _, H, I', rfl, ?_⟩
    rw [rr.isSome]
    exact q
  · have e2 : gNotInD d e = gNotIn d e := by
      have z := gInD_other (d := d) fun es z => hd ⟨es, z⟩
      simp only [gNotInD, gNotIn, z]
      all_goals (rcases gIn d e with _ | o <;> first | rfl | (cases o <;> rfl))
    rw [e2] at h3
    exact oc_notin hu pins s σ H x y v u Q I rx ry ⟨F, d, e, r, h1, h2, h3, q⟩
/-! ### dict(pairs) -/
def pairD : PyData → Option (PyData × PyData)
  | .tuple [k, v] => if (keyD k).isSome = true then some (k, v) else none
  | _ => none
def pairsD : List PyData → Option (List (PyData × PyData))
  | [] => some []
  | d :: ds => (match pairD d, pairsD ds with
    | some p, some ps => some (p :: ps)
    | _, _ => none)
def mergeD (es ps : List (PyData × PyData)) : List (PyData × PyData) := ps.foldl (fun acc p => putD acc p.1 p.2) es
def gDict : PyData → Option PyData
  | .tuple xs => (match pairsD xs with
    | some ps => some (.dict (mergeD [] ps))
    | none => none)
  | .list xs => (match pairsD xs with
    | some ps => some (.dict (mergeD [] ps))
    | none => none)
  | _ => none
/-- the pairs as they lie -/
theorem pairs_rep : ∀ {vs : List V} {ds : List PyData} {ps : List (PyData × PyData)}, Reps K F H vs ds → pairsD ds = some ps →
    ∃ (as : List Addr) (kvs : List (Key × V)), vs = as.map V.ref ∧ Paired (fun p kv => SqT K H p [kV kv.1, kv.2]) as kvs ∧ ∀ {kvs0 : List (Key × V)} {es : List (PyData × PyData)}, DR K F H kvs0 es → DR K F H (mergeK kvs0 kvs) (mergeD es ps)
  | _, _, _, .nil, h => by
    cases h
    exact ⟨[], [], rfl, .nil, fun r => r⟩
  | _, _, _, .cons (d := d) a b, h => by
    simp only [pairsD] at h
    split at h
    · rename_i p ps h1 h2
      cases h
      obtain ⟨as, kvs, e1, e2, e3⟩ := pairs_rep b h2
      unfold pairD at h1
      split at h1
      · rename_i k w
        split at h1
        · rename_i hk
          cases h1
          obtain ⟨key, hkey⟩ := Option.isSome_iff_exists.mp hk
          cases a with
          | tup ht rr =>
            cases rr with
            | cons r1 rr =>
              cases rr with
              | cons r2 rr =>
                cases rr
                obtain ⟨rfl, rk⟩ := keyD_of (.rep r1) hkey
                refine ⟨_ :: as, (key, _) :: kvs, by rw [e1]; rfl, .cons ht.sq e2, fun {kvs0 es} r => ?_⟩
                exact e3 (r.put hkey (rk _ _) r2)
        · cases h1
      · cases h1
    · cases h
/-- the pairs as they stand in the heap -/
theorem pairs_in {pins : List (Addr × Obj)} {σ : L2.St} {s : Shared} (I : Inv X pins σ H s) : ∀ {as : List Addr} {kvs : List (Key × V)}, Paired (fun p kv => SqT X.kw H p [kV kv.1, kv.2]) as kvs →
    ∃ (prs : List (Key × Value)) (us : List (Value × Value)), KV kvs prs ∧ prs.length = as.length ∧ us.length = as.length ∧
      ∀ (j : Nat) (k v : Value), us[j]? = some (k, v) → ∃ (b : Addr) (q : Key × Value), as[j]? = some b ∧ prs[j]? = some q ∧ q.2 = v ∧ IsTup s.heap b #[k, v] ∧ (mixKind X.prog X.w).is q.1 k = true
  | _, _, .nil => ⟨[], [], .nil, rfl, rfl, fun j k v e => by simp at e⟩
  | _, _, .cons (a := p) (b := kv) h t => by
    obtain ⟨prs, us, r, hl, hl2, hp⟩ := pairs_in I t
    obtain ⟨its, rv, ht, _⟩ := I.tuple h
    obtain ⟨u, y, ei, ru, ry⟩ := vals2 rv
    subst ei
    refine ⟨(kv.1, y) :: prs, (u, y) :: us, .cons ⟨rfl, ry⟩ r, by simp [hl], by simp [hl2], fun j k v e => ?_⟩
    cases j with
    | zero =>
      cases e
      exact ⟨p, (kv.1, y), rfl, rfl, rfl, ht, kV_is ru⟩
    | succ j => exact hp j k v (by simpa using e)
theorem call_dictX (hcalm : X.calm = true) : CallR X (.type "dict") (fun xs H Q => ∃ (a : Addr) (as : List Addr) (kvs : List (Key × V)), xs = [.ref a] ∧ TX X.kw H a (as.map V.ref) ∧ Paired (fun p kv => SqT X.kw H p [kV kv.1, kv.2]) as kvs ∧
    ∀ p, H p = none → Q (.ref p) (upd H p (.dK (mergeK [] kvs)))) := by
  intro pins s σ H xs us Q I r q
  obtain ⟨a, as, kvs, rfl, tx, hp, q⟩ := q
  obtain ⟨u, rfl, rx⟩ := vals1 r
  cases rx
  obtain ⟨its, rv, ⟨o, ho, hc, n, hd⟩, room⟩ := I.tuple tx.sq
  have ei := refs_at rv
  subst ei
  rw [List.length_map] at room
  have hdn : o.dict = none := by
    rcases tx with ⟨o', h1, h2⟩ | ⟨o', _, _, h1, _, h2, _⟩
    · have z := (I.hok a _ h1).1
      rw [ho] at z
      cases z
      exact h2
    · have z := I.kIn a o' h1
      rw [ho] at z
      cases z
      exact h2
  obtain ⟨prs, ps, rel, hl, hl2, hpr⟩ := pairs_in I hp
  have hplain : PlainSeq "tuple" s.heap a (as.map Value.ref).toArray := ⟨o, n, ho, hc, hdn, hd⟩
  have hitems : PairItems s.heap (as.map Value.ref).toArray (fun j => as.getD j 0) ps := by
    refine ⟨by simp [hl2], fun j k v e => ?_⟩
    obtain ⟨b, q', e1, e2, e3, ⟨ob, g1, g2, m, g3⟩, e5⟩ := hpr j k v e
    have eb : as.getD j 0 = b := by rw [List.getD_eq_getElem?_getD, e1]; rfl
    show (as.map Value.ref).toArray[j]? = some (Value.ref (as.getD j 0)) ∧ PairAt s.heap (as.getD j 0) k v
    rw [eb]
    exact ⟨by simp [e1], .inl ⟨ob, g1, g2, m, g3⟩⟩
  refine PySem.call_dict_pairs (knd := mixKind X.prog X.w) (kvs := prs) (PairArg.tuple a _ (fun j => as.getD j 0) ps) (I.ok.hd hcalm) ⟨hplain, hitems⟩ ⟨by rw [hl, hl2], fun j k v e => ?_⟩ (by rw [hl2]; exact room) fun h' tk hd' k => ?_
  · obtain ⟨b, q', e1, e2, e3, e4, e5⟩ := hpr j k v e
    exact ⟨q'.1, by rw [e2, ← e3], e5⟩
  · have hm : (s.heap.objs.size == sysModules) = false := beq_eq_false_iff_ne.mpr (Nat.ne_of_gt I.big)
    have hlen : (mergeK [] kvs).length ≤ sizeLine := by
      have h1 := length_mergeK kvs []
      have h2 := rel.length
      simp only [List.length_nil] at h1
      omega
    exact ⟨.ref _, _, I.laid (t' := tk) (o := .dK (mergeK [] kvs)) (fun b o z => k b o (by simp) z) (Nat.le_refl _) ⟨hlen, hm, merged [] prs, KV.merge rel .nil, hd'⟩, rfl, q _ (I.hok.fresh (Nat.le_refl _))⟩
theorem cd_dict (hcalm : X.calm = true) : CallR X (.type "dict") (rGN X.kw true (g1 gDict)) := by
  intro pins s σ H xs us Q I r q
  obtain ⟨F, ds, o, h1, h2, q⟩ := q
  unfold g1 at h2
  split at h2
  rotate_left
  · cases h2
  obtain ⟨x, rfl, rx⟩ := h1.one
  rename_i d
  cases d <;> simp only [gDict] at h2 <;> try cases h2
  · split at h2 <;> cases h2
    rename_i ps hps
    obtain ⟨a, vs, rfl, hq, rr⟩ := rx.list
    obtain ⟨as, kvs, rfl, hp, hm⟩ := pairs_rep rr hps
    exact call_dictP hcalm pins s σ H _ us Q I r ⟨a, as, kvs, rfl, hq, hp, fun p hp => q _ _ (.dct hp (hm ⟨.nil, .nil⟩))⟩
  · split at h2 <;> cases h2
    rename_i ps hps
    obtain ⟨a, vs, rfl, hq, rr⟩ := rx.tup
    obtain ⟨as, kvs, rfl, hp, hm⟩ := pairs_rep rr hps
    exact call_dictX hcalm pins s σ H _ us Q I r ⟨a, as, kvs, rfl, hq, hp, fun p hp => q _ _ (.dct hp (hm ⟨.nil, .nil⟩))⟩
end
/-! ### d.get(k, x) -/
def eGet2 (o k x : Ev Val) : Ev Val := fun σ h => match o σ h with
  | none => none
  | some (v, h1) => match rd h1 v with
    | some (.dict _) => (match k σ h1 with
      | none => none
      | some (kv, h2) => match x σ h2 with
        | none => none
        | some (xv, h3) => match fz h3 xv with
          | none => none
          | some (dx, h4) => match rd h4 v with
            | some (.dict es) => (match rd h4 kv with
              | none => none
              | some kd => match keyD kd with
                | none => none
                | some key => some (.t ((valD es key).getD dx), h4))
            | _ => none)
    | _ => none
section
variable {K : KW} {X : Cx} {σc : L2.St} {H : Hp} {Q : VK}
theorem eGet2_tr {eo ek ex : Ev Val} (h : tS K (eGet2 eo ek ex) σc H Q) : tDGet2 (tS K eo) (tS K ek) (tS K ex) σc H Q := by
  obtain ⟨F, β, σ, h, hs, sr, x, h', e, q⟩ := h
  unfold eGet2 at e
  rcases qa : eo σ h with _ | ⟨v, h1⟩ <;> simp only [qa] at e
  · cases e
  rcases q1 : rd h1 v with _ | d1
  · rw [q1] at e; cases e
  rw [q1] at e
  cases d1 <;> simp only at e <;> try cases e
  rename_i es1
  rcases qb : ek σ h1 with _ | ⟨kv, h2⟩ <;> simp only [qb] at e
  · cases e
  rcases qc : ex σ h2 with _ | ⟨xv, h3⟩ <;> simp only [qc] at e
  · cases e
  rcases qf : fz h3 xv with _ | ⟨dx, h4⟩ <;> simp only [qf] at e
  · cases e
  rcases q4 : rd h4 v with _ | d4
  · rw [q4] at e; cases e
  rw [q4] at e
  cases d4 <;> simp only at e <;> try cases e
  rename_i es
  rcases qk : rd h4 kv with _ | kd <;> simp only [qk] at e
  · cases e
  rcases qy : keyD kd with _ | key <;> simp only [qy] at e
  · cases e
  cases e
  refine ⟨F, β, σ, h, hs, sr, v, h1, qa, fun F1 β1 H1 w hs1 x1 r1 => ?_⟩
  obtain ⟨a, kvs, rfl, ha, _⟩ := (RB.of_rd hs1 r1 q1).dict
  refine ⟨a, rfl, .inl ⟨kvs, .inl ha⟩, F1, β1, σ, h1, hs1, sr.ext x1, kv, h2, qb, fun F2 β2 H2 y hs2 x2 r2 => ?_⟩
  refine ⟨F2, β2, σ, h2, hs2, sr.ext (x1.seq hs1 x2), xv, h3, qc, fun F3 β3 H3 z hs3 x3 r3 => ?_⟩
  obtain ⟨F4, hs4, x4, r4⟩ := fz_ok hs3 r3 qf
  have x34 := x3.seq hs3 x4
  obtain ⟨a', kvs4, e', ha4, rr⟩ := (RB.of_rd hs4 (r1.ext (x2.seq hs2 x34)) q4).dict
  cases e'
  obtain ⟨rfl, _⟩ := keyD_of (RB.of_rd hs4 (r2.ext x34) qk) qy
  refine ⟨_, .k ha4, ?_⟩
  have xall := (x1.seq hs1 x2).seq hs2 x34
  rcases hv : valD es key with _ | d
  · have hn : valV kvs4 key = none := by
      have z := rr.isSome key
      rw [hv] at z
      simpa using z
    rw [hn]
    rw [hv] at q
    exact q F4 β3 H3 z hs4 xall r4
  · obtain ⟨w, hw, rw'⟩ := rr.val hv
    rw [hw]
    rw [hv] at q
    exact q F4 β3 H3 w hs4 xall rw'
end
end DE
end
section
set_option Elab.async false
set_option linter.all false
set_option maxRecDepth 100000
set_option maxHeartbeats 1000000
/-! sorted -/
namespace DE
open PySem PySem.Spec PyProof.Rows L2
def isSI : PyData → Bool
  | .tuple [.str _, .int _] => true
  | _ => false
def isIntD : PyData → Bool
  | .int _ => true
  | _ => false
def isStrD : PyData → Bool
  | .str _ => true
  | _ => false
def sortOk (xs : List PyData) : Bool := xs.all isIntD || (xs.all isStrD || xs.all isSI)
def leD : PyData → PyData → Bool := PySem.W.dataLe false fun d => d
def gSorted : PyData → Option PyData
  | .list xs => if sortOk xs = true then some (.list (xs.mergeSort leD)) else none
  | _ => none
theorem sortOk_ok {xs : List PyData} (h : sortOk xs = true) : PySem.W.AllAlike xs ∧ PySem.W.Sortable xs ∧ ∀ x ∈ xs, x.depth ≤ 1 := by
  simp only [sortOk, Bool.or_eq_true, List.all_eq_true] at h
  rcases h with h | h | h
  · have k : ∀ x ∈ xs, ∃ i, x = .int i := fun x hx => by
      have := h x hx
      cases x <;> simp only [isIntD] at this <;> first | exact ⟨_, rfl⟩ | cases this
    refine ⟨fun d hd e he => ?_, .inr fun d hd => ?_, fun d hd => ?_⟩
    · obtain ⟨i, rfl⟩ := k d hd; obtain ⟨j, rfl⟩ := k e he; rfl
    · obtain ⟨i, rfl⟩ := k d hd; exact ⟨fun z => (by cases z), fun _ z => (by cases z)⟩
    · obtain ⟨i, rfl⟩ := k d hd; simp [PyData.depth]
  · have k : ∀ x ∈ xs, ∃ i, x = .str i := fun x hx => by
      have := h x hx
      cases x <;> simp only [isStrD] at this <;> first | exact ⟨_, rfl⟩ | cases this
    refine ⟨fun d hd e he => ?_, .inr fun d hd => ?_, fun d hd => ?_⟩
    · obtain ⟨i, rfl⟩ := k d hd; obtain ⟨j, rfl⟩ := k e he; rfl
    · obtain ⟨i, rfl⟩ := k d hd; exact ⟨fun z => (by cases z), fun _ z => (by cases z)⟩
    · obtain ⟨i, rfl⟩ := k d hd; simp [PyData.depth]
  · have k : ∀ x ∈ xs, ∃ i j, x = .tuple [.str i, .int j] := fun x hx => by
      have := h x hx
      unfold isSI at this
      split at this
      · exact ⟨_, _, rfl⟩
      · cases this
    refine ⟨fun d hd e he => ?_, .inl fun d hd => ?_, fun d hd => ?_⟩
    · obtain ⟨i, i', rfl⟩ := k d hd; obtain ⟨j, j', rfl⟩ := k e he; rfl
    · obtain ⟨i, i', rfl⟩ := k d hd; exact ⟨_, _, rfl⟩
    · obtain ⟨i, i', rfl⟩ := k d hd; simp [PyData.depth, PyData.depthAll]
section
variable {X : Cx} {pins : List (Addr × Obj)} {σ : L2.St} {F : Fz} {H : Hp} {s : Shared}
theorem each_vals : ∀ {vs : List V} {us : List Value} {ds : List PyData}, Vals vs us → vs.length = ds.length → PySem.W.EachIs (fun u (b : V × PyData) => RelV b.1 u) us (vs.zip ds)
  | [], _, [], .nil, _ => .nil
  | v :: vs, _, d :: ds, .cons r t, h => .cons r (each_vals t (by simpa using h))
  | [], _, _ :: _, .nil, h => by simp at h
  | _ :: _, _, [], .cons _ _, h => by simp at h
theorem each_reads (I : Inv X pins σ H s) : ∀ {vs : List V} {us : List Value} {ds : List PyData}, Vals vs us → Reps X.kw F H vs ds → PySem.W.EachIs (fun u (b : V × PyData) => ∃ as, Reads s.heap u b.2 as) us (vs.zip ds)
  | _, _, _, .nil, .nil => .nil
  | _, _, _, .cons r t, .cons a b => .cons (by obtain ⟨as, h, _⟩ := Rep.reads I a r; exact ⟨as, h⟩) (each_reads I t b)
theorem vals_each : ∀ {bs : List (V × PyData)} {us : List Value}, PySem.W.EachIs (fun u (b : V × PyData) => RelV b.1 u) us bs → Vals (bs.map (·.1)) us
  | _, _, .nil => .nil
  | _, _, .cons r t => .cons r (vals_each t)
theorem reps_pairs {K : KW} : ∀ {vs : List V} {ds : List PyData}, Reps K F H vs ds → ∀ b ∈ vs.zip ds, Rep K F H b.1 b.2
  | _, _, .nil, b, h => by cases h
  | _, _, .cons a r, b, h => by
    rw [List.zip_cons_cons] at h
    rcases List.mem_cons.mp h with rfl | h
    · exact a
    · exact reps_pairs r b h
theorem reps_of {K : KW} : ∀ {bs : List (V × PyData)}, (∀ b ∈ bs, Rep K F H b.1 b.2) → Reps K F H (bs.map (·.1)) (bs.map (·.2))
  | [], _ => .nil
  | b :: bs, h => .cons (h b (by simp)) (reps_of fun c hc => h c (by simp [hc]))
theorem cd_sorted (hu : X.A.units + 70 < cLine) : CallR X (.builtin "sorted") (rGN X.kw true (g1 gSorted)) := call1 fun pins s σ H x u Q F d o I ru rx hg q => by
  cases d <;> simp only [gSorted] at hg <;> try cases hg
  rename_i xs
  split at hg
  rotate_left
  · cases hg
  rename_i hok
  cases hg
  obtain ⟨h1, h2, h3⟩ := sortOk_ok hok
  obtain ⟨a, vs, rfl, hq, rr⟩ := rx.list
  cases ru
  obtain ⟨its, rv, tl, room⟩ := I.list hq
  have hlen := rr.length
  have em : (vs.zip xs).map (·.2) = xs := List.map_snd_zip (by omega)
  have el : (vs.zip xs).length = xs.length := by rw [List.length_zip]; omega
  refine PySem.W.sorted_data (R := fun u (b : V × PyData) => RelV b.1 u) (enc := fun b => b.2) (bs := vs.zip xs) (vs := its) tl.isList (each_vals rv hlen) (each_reads I rv rr) (by rw [em]; exact h1) (by rw [em]; exact h2) (by rw [el, ← hlen]; exact room) (fun b hb => ?_) fun out hol heo => ?_
  · have : b.2 ∈ xs := by rw [← em]; exact List.mem_map_of_mem hb
    have := h3 _ this
    omega
  · obtain ⟨c, hc⟩ := PyProof.Rows.sortedAll_at s.heap its out.toArray
    have rep : ∀ b ∈ (vs.zip xs).mergeSort (PySem.W.dataLe false fun b => b.2), Rep X.kw F H b.1 b.2 := fun b hb => reps_pairs rr b ((List.mergeSort_perm _ _).subset hb)
    have es : ((vs.zip xs).mergeSort (PySem.W.dataLe false fun b => b.2)).map (·.2) = xs.mergeSort leD := by
      have z := List.map_mergeSort (r := PySem.W.dataLe false fun b : V × PyData => b.2) (s := leD) (f := fun b : V × PyData => b.2) (l := vs.zip xs) (fun _ _ _ _ => rfl)
      rw [em] at z
      exact z
    have gt : Got X.kw F true H (upd H (s.heap.objs.size + 1) (.lst (((vs.zip xs).mergeSort (PySem.W.dataLe false fun b => b.2)).map (·.1)))) (.ref (s.heap.objs.size + 1)) (.list (xs.mergeSort leD)) := by
      rw [← es]
      exact .lst (I.hok.fresh (Nat.le_succ _)) (reps_of rep)
    refine ⟨.ref _, _, I.laid (t' := s.toks) (fun _ _ => PyProof.Rows.sortedAll_old) (Nat.le_succ _) ?_, rfl, q _ _ gt⟩
    refine ⟨?_, out, c, vals_each heo, hc⟩
    rw [List.length_map, List.length_mergeSort, el, ← hlen]
    exact room
/-! ### d.update(e) -/
def rUpdD : V → List V → Hp → VK → Prop := fun x xs H Q => ∃ (a b : Addr) (ka kb : List (Key × V)), x = V.ref a ∧ xs = [V.ref b] ∧ H a = some (.dK ka) ∧ H b = some (.dK kb) ∧ a ≠ b ∧ ka.length + kb.length ≤ sizeLine ∧ Q .non (upd H a (.dK (mergeK ka kb)))
theorem mt_dupdate : MtR X "dict.update" rUpdD := by
  intro pins s σ H x xs v us Q I rx rxs h
  obtain ⟨a, b, ka, kb, rfl, rfl, ha, hb, ne, hl, q⟩ := h
  cases rx
  obtain ⟨u, rfl, ru⟩ := vals1 rxs
  cases ru
  obtain ⟨z1, y1, vs1, r1, d1⟩ := dk_of I.hok ha
  obtain ⟨z2, y2, vs2, r2, d2⟩ := dk_of I.hok hb
  refine call_meetsIn PySem.F.slot_dict_update d1.typeIs PySem.F.entry_dict_update (PySem.F.args_dict_update_2 _ _) (meets_dict_update _ a b ne y2) ⟨vs1, vs2, d1, d2, by rw [← r1.length, ← r2.length]; exact hl, fun h' dd' _ hs => ?_⟩
  have he : ∃ q, h'.get? a = some q := let ⟨q, _, _, hq, _⟩ := dd'; ⟨q, hq⟩
  have hz : (mergeK ka kb).length ≤ sizeLine := Nat.le_trans (length_mergeK kb ka) hl
  exact ⟨.non, _, d_write I (by rw [ha]; exact True.intro) hs he (dk_new hz y1 (KV.merge r2 r1) dd'), rfl, q⟩
end
end DE
end
section
set_option Elab.async false
set_option linter.all false
set_option maxRecDepth 100000
set_option maxHeartbeats 1000000
/-! x.index(y), d.update(e), {k: v for ..} -/
namespace DE
open PySem PySem.Spec PyProof.Rows L2
/-! ### x.m(..) of a changeable dict -/
def eMethD (g : List (PyData × PyData) → List PyData → Option (PyData × List (PyData × PyData))) (x : Ev Val) (as : Ev (List Val)) : Ev Val := fun σ h => match x σ h with
  | some (.r n, h1) => (match h1[n]? with
    | some (.d _) => (match as σ h1 with
      | none => none
      | some (vs, h2) => match fzs h2 vs with
        | none => none
        | some (ds, h3) => match h3[n]? with
          | some (.d xs) => (match g xs ds with
            | none => none
            | some (d, xs') => some (.t d, h3.set n (.d xs')))
          | _ => none)
    | _ => none)
  | _ => none
def gUpdate : List (PyData × PyData) → List PyData → Option (PyData × List (PyData × PyData))
  | es, [.dict fs] => if es.length + fs.length ≤ sizeLine then some (.none, mergeD es fs) else none
  | _, _ => none
section
variable {K : KW} {X : Cx} {σc : L2.St} {H : Hp} {Q : VK} {D : Ends}
theorem DR.len {F : Fz} {kvs : List (Key × V)} {es : List (PyData × PyData)} (r : DR K F H kvs es) : kvs.length = es.length := by
  have := r.1.length
  simpa using this
theorem DR.merge {F : Fz} : ∀ {kb : List (Key × V)} {fs : List (PyData × PyData)} {ka : List (Key × V)} {es : List (PyData × PyData)}, DR K F H kb fs → DR K F H ka es → DR K F H (mergeK ka kb) (mergeD es fs)
  | [], fs, ka, es, r, q => by
    cases fs with
    | nil => exact q
    | cons f fs => cases r.1
  | (k, v) :: kb, fs, ka, es, r, q => by
    cases fs with
    | nil => cases r.1
    | cons f fs =>
      obtain ⟨r1, r2⟩ := r
      cases r1 with
      | cons a b =>
        cases r2 with
        | cons a2 b2 => exact DR.merge (kb := kb) (fs := fs) ⟨b, b2⟩ (q.put (keyD_rep a) a a2)
def MOkD (K : KW) (r : V → List V → Hp → VK → Prop) (g : List (PyData × PyData) → List PyData → Option (PyData × List (PyData × PyData))) : Prop :=
  ∀ {F : Fz} {H : Hp} {a : Addr} {ka : List (Key × V)} {us : List V} {es es' : List (PyData × PyData)} {ds : List PyData} {d : PyData} {Q : VK}, H a = some (.dK ka) → ¬ F a → DR K F H ka es → Reps K F H us ds → g es ds = some (d, es') →
    (∀ w ka', Rep K F H w d → DR K F H ka' es' → Q w (upd H a (.dK ka'))) → r (.ref a) us H Q
theorem update_ok : MOkD K rUpdD gUpdate := by
  intro F H a ka us es es' ds d Q hH nf rw ru e q
  cases ru with
  | nil => cases e
  | cons r1 r2 =>
    cases r2 with
    | cons _ _ =>
      exfalso
      unfold gUpdate at e
      split at e
      · rename_i z; cases z
      · cases e
    | nil =>
      rename_i v dd
      cases dd <;> simp only [gUpdate] at e <;> try cases e
      split at e <;> cases e
      rename_i hl
      cases r1 with
      | dct f1 f2 q1 q2 =>
        rename_i b kb
        have r : DR K F H kb _ := ⟨q1, q2⟩
        exact ⟨a, b, ka, kb, rfl, rfl, hH, f2, fun z => nf (z ▸ f1), by rw [rw.len, r.len]; exact hl, q _ _ .non (DR.merge r rw)⟩
theorem eMethD_tr {r : V → List V → Hp → VK → Prop} {g : List (PyData × PyData) → List PyData → Option (PyData × List (PyData × PyData))} {ex : Ev Val} {ea : Ev (List Val)} (ok : MOkD K r g) (h : tS K (eMethD g ex ea) σc H Q) : tBM K "dict" r (tS K ex) (tSA K ea) σc H Q := by
  obtain ⟨F, β, σ, h, hs, sr, x, h', e, q⟩ := h
  unfold eMethD at e
  rcases qa : ex σ h with _ | ⟨y, h1⟩
  · rw [qa] at e; cases e
  rw [qa] at e
  cases y with
  | t d => cases e
  | tp d => cases e
  | r n =>
    simp only at e
    rcases q1 : h1[n]? with _ | o1
    · rw [q1] at e; cases e
    rw [q1] at e
    cases o1 with
    | l es => cases e
    | f d => cases e
    | e d => cases e
    | d ds0 =>
      simp only at e
      rcases qb : ea σ h1 with _ | ⟨vs, h2⟩ <;> simp only [qb] at e
      · cases e
      rcases qf : fzs h2 vs with _ | ⟨ds, h3⟩ <;> simp only [qf] at e
      · cases e
      rcases q3 : h3[n]? with _ | o3
      · rw [q3] at e; cases e
      rw [q3] at e
      cases o3 with
      | l es => cases e
      | f d => cases e
      | e d => cases e
      | d xs =>
        simp only at e
        rcases qg : g xs ds with _ | ⟨d, xs'⟩ <;> simp only [qg] at e
        · cases e
        cases e
        refine ⟨F, β, σ, h, hs, sr, .r n, h1, qa, fun F1 β1 H1 v hs1 x1 r1 => ?_⟩
        obtain ⟨a, ha, rfl⟩ := r1
        obtain ⟨_, vs0, z1, z2⟩ := hs1.obj n a _ ha q1
        refine ⟨.inr (.inr (.inl ⟨rfl, .inl ⟨vs0, z1⟩⟩)), F1, β1, σ, h1, hs1, sr.ext x1, vs, h2, qb, fun F2 β2 H2 us hs2 x2 r2 => ?_⟩
        obtain ⟨F3, hs3, x3, r3⟩ := fzs_ok hs2 r2 qf
        have ha3 : β2[n]? = some a := x2.pre n a ha
        obtain ⟨nf, ws, w1, w2⟩ := hs3.obj n a _ ha3 q3
        refine ok w1 nf w2 r3 qg fun w ws' rw rws => ?_
        obtain ⟨hs5, x5⟩ := hs3.write (o := .dK ws') (m := .d xs') ha3 nf w1 (fun _ z => nomatch z) (fun _ _ z => nomatch z) fun ex => ⟨nf, _, upd_same, rws.ex ex⟩
        exact q F3 β2 _ w hs5 (((x1.seq hs1 x2).seq hs2 x3).seq hs3 x5) (Rep.ex x5.ex rw)
theorem pe_update1 {o a : Expr} {eo ea : Ev Val} {apos cpos : Pos} (ho : PE X o (tS X.kw eo)) (ha : PA X [a] (tSA X.kw (aCons ea aNil))) (hs : starEach [a] X.env = (false, eval a X.env) :: starEach [] X.env)
    (hbase : attributeBase o "update" X.env (eval o X.env) = eval o X.env) (hline : (apos.endLine == cpos.line) = true) : PE X (.Call (.Attribute o "update" apos) [a] [] cpos) (tS X.kw (eMethD gUpdate eo (aCons ea aNil))) :=
  pe_mono (pe_bm F.plainAttrs_dict F.slot_dict_update (by first | rfl | kernel_rfl) mt_dupdate ho ha hbase (few1 hs) hline hs rfl) fun _ _ _ _ _ _ h => eMethD_tr update_ok h
/-! ### x.index(y) of a list of texts -/
def isStrOf (y : Str) : PyData → Bool
  | .str z => decide (z = y)
  | _ => false
def gIndex (xs : List PyData) : PyData → Option PyData
  | .str y => if xs.all isStrD = true then (xs.findIdx? (isStrOf y)).map fun j => .int (j : Nat) else none
  | _ => none
def eMethQ (g : List PyData → PyData → Option PyData) (x a : Ev Val) : Ev Val := fun σ h => match x σ h with
  | none => none
  | some (v, h1) => match rd h1 v with
    | some (.list _) => (match a σ h1 with
      | none => none
      | some (w, h2) => match rd h2 v with
        | some (.list xs) => (match rd h2 w with
          | none => none
          | some d => match g xs d with
            | none => none
            | some r => some (.t r, h2))
        | _ => none)
    | _ => none
theorem strs_reps {F : Fz} : ∀ {vs : List V} {xs : List PyData}, Reps K F H vs xs → xs.all isStrD = true → ∃ ys : List Str, xs = ys.map PyData.str ∧ vs = ys.map V.str
  | _, _, .nil, _ => ⟨[], rfl, rfl⟩
  | _, _, .cons (d := d) a b, h => by
    rw [List.all_cons, Bool.and_eq_true] at h
    obtain ⟨ys, rfl, rfl⟩ := strs_reps b h.2
    have h1 := h.1
    cases d <;> simp only [isStrD] at h1 <;> try cases h1
    cases a
    exact ⟨_ :: ys, rfl, rfl⟩
theorem eMethQ_tr {ex ea : Ev Val} (h : tS K (eMethQ gIndex ex ea) σc H Q) : tBM K "list" (rIndex K) (tS K ex) (tSA K (aCons ea aNil)) σc H Q := by
  obtain ⟨F, β, σ, h, hs, sr, x, h', e, q⟩ := h
  unfold eMethQ at e
  rcases qa : ex σ h with _ | ⟨v, h1⟩ <;> simp only [qa] at e
  · cases e
  rcases q1 : rd h1 v with _ | d1
  · rw [q1] at e; cases e
  rw [q1] at e
  cases d1 <;> simp only at e <;> try cases e
  rename_i xs1
  rcases qb : ea σ h1 with _ | ⟨w, h2⟩ <;> simp only [qb] at e
  · cases e
  rcases q2 : rd h2 v with _ | d2
  · rw [q2] at e; cases e
  rw [q2] at e
  cases d2 <;> simp only at e <;> try cases e
  rename_i xs
  rcases q3 : rd h2 w with _ | d <;> simp only [q3] at e
  · cases e
  rcases qg : gIndex xs d with _ | r <;> simp only [qg] at e
  · cases e
  cases e
  refine ⟨F, β, σ, h, hs, sr, v, h1, qa, fun F1 β1 H1 u hs1 x1 r1 => ?_⟩
  obtain ⟨a, ws, rfl, hq, _⟩ := (RB.of_rd hs1 r1 q1).list
  refine ⟨.inl ⟨rfl, ws, hq⟩, F1, β1, σ, h1, hs1, sr.ext x1, [w], h', by simp only [aCons, qb, aNil], fun F2 β2 H2 us hs2 x2 r2 => ?_⟩
  cases r2 with
  | cons r2 r3 =>
    cases r3
    obtain ⟨a', ws', e', hq', rr⟩ := (RB.of_rd hs2 (r1.ext x2) q2).list
    cases e'
    cases d <;> simp only [gIndex] at qg <;> try cases qg
    rename_i y
    split at qg
    rotate_left
    · cases qg
    rename_i hall
    obtain ⟨j, hj, rfl⟩ := Option.map_eq_some_iff.mp qg
    obtain ⟨ys, rfl, rfl⟩ := strs_reps rr hall
    have rw := RB.of_rd hs2 r2 q3
    cases rw.str
    obtain ⟨hlt, hy, hbefore⟩ := List.findIdx?_eq_some_iff_getElem.mp hj
    simp only [List.length_map] at hlt
    have hyj : ys[j] = y := by simpa [isStrOf] using hy
    refine ⟨a, ys.map V.str, .str y, j, .str y, rfl, rfl, hq', rfl, ?_, ?_, by simp [eqV], fun m z hm hz => ?_, q F2 β2 H2 _ hs2 (x1.seq hs1 x2) (.int _)⟩
    · simp [List.all_eq_true, flatV]
    · rw [List.getElem?_map, List.getElem?_eq_getElem hlt, hyj]; rfl
    · have hml : m < ys.length := by omega
      rw [List.getElem?_map, List.getElem?_eq_getElem hml] at hz
      cases hz
      have := hbefore m (by omega)
      simp only [List.getElem_map, isStrOf, decide_eq_true_eq] at this
      simp [eqV, this]
theorem pe_index1 {o a : Expr} {eo ea : Ev Val} {apos cpos : Pos} (ho : PE X o (tS X.kw eo)) (ha : PA X [a] (tSA X.kw (aCons ea aNil))) (hs : starEach [a] X.env = (false, eval a X.env) :: starEach [] X.env)
    (hbase : attributeBase o "index" X.env (eval o X.env) = eval o X.env) (hline : (apos.endLine == cpos.line) = true) : PE X (.Call (.Attribute o "index" apos) [a] [] cpos) (tS X.kw (eMethQ gIndex eo ea)) :=
  pe_mono (pe_bm F.plainAttrs_list F.slot_list_index (by first | rfl | kernel_rfl) mt_index ho ha hbase (few1 hs) hline hs rfl) fun _ _ _ _ _ _ h => eMethQ_tr h
/-! ### {k: v for ..} -/
def dcGo (bind : PyData → Sg → Option Sg) (σ : Sg) (tst : Ev Bool) (kx vx : Ev Val) : List PyData → List (PyData × PyData) → MH → Option (List (PyData × PyData) × MH)
  | [], acc, h => some (acc, h)
  | d :: ds, acc, h => match bind d σ with
    | none => none
    | some σ2 => match tst σ2 h with
      | none => none
      | some (false, h1) => dcGo bind σ tst kx vx ds acc h1
      | some (true, h1) => match kx σ2 h1 with
        | some (.t kd, h2) => (match keyD kd with
          | none => none
          | some _ => match vx σ2 h2 with
            | none => none
            | some (v, h3) => match fz h3 v with
              | none => none
              | some (e, h4) => dcGo bind σ tst kx vx ds (putD acc kd e) h4)
        | _ => none
def eDComp (m : Bool) (it : Ev (List PyData)) (bind : PyData → Sg → Option Sg) (own : List Nat) (tst : Ev Bool) (kx vx : Ev Val) : Ev Val := fun σ h => match it σ h with
  | none => none
  | some (ds, h1) => if ds.length < sizeLine then (match dcGo bind (wipeS σ own) tst kx vx ds [] h1 with
    | none => none
    | some (acc, h2) => some (mk m (.dict acc) h2)) else none
theorem putD_len {es : List (PyData × PyData)} {k d : PyData} : (putD es k d).length ≤ es.length + 1 := by
  unfold putD
  split
  · simp
  · simp
theorem eDComp_tr {m : Bool} {it : Ev (List PyData)} {bind : PyData → Sg → Option Sg} {own : List Nat} {tst : Ev Bool} {kx vx : Ev Val} {g : TG} {w : Bool} (hg : GOk K w own g bind) (h : tS K (eDComp m it bind own tst kx vx) σc H Q) :
    tDc (tSI K w it) g (tST K tst) (tS K kx) (tS K vx) own σc H Q := by
  obtain ⟨F, β, σ, h, hs, sr, x, h', e, q⟩ := h
  rcases qa : it σ h with _ | ⟨ds, h1⟩ <;> simp only [eDComp, qa] at e
  · cases e
  split at e
  rotate_left
  · cases e
  rename_i hlen
  rcases qc : dcGo bind (wipeS σ own) tst kx vx ds [] h1 with _ | ⟨out, h2⟩ <;> simp only [qc] at e
  · cases e
  obtain ⟨rfl, rfl⟩ := mk_eq e
  refine ⟨F, β, σ, h, hs, sr, ds, h1, qa, fun F1 β1 H1 J hs1 x1 ok => fun p hp => ?_⟩
  have nf1 := hs1.nfix hp
  refine ⟨fun i n H' => n = ds.length - i ∧ i ≤ ds.length ∧ ∃ F' β' h' acc vs, dcGo bind (wipeS σ own) tst kx vx (ds.drop i) acc h' = some (out, h2) ∧ HS K F' β' H' h' ∧ Ext F1 β1 H1 F' β' H' ∧
      H' p = some (.dK vs) ∧ DR K F' H' vs acc ∧ ¬ F' p ∧ p ∉ β' ∧ acc.length ≤ i,
    ⟨ds.length, by simp, Nat.zero_le _, F1, β1, h1, [], [], qc, hs1.new hp, hs1.ext_new hp, upd_same, ⟨.nil, .nil⟩, nf1, hs1.nmem hp, Nat.le_refl _⟩, ?_⟩
  rintro i n H' ⟨rfl, hi, F', β', h', acc, vs, eg, hs', x', hpv, racc, nf, nb, hal⟩
  by_cases hlt : i < ds.length
  · have hd : ds[i]? = some ds[i] := List.getElem?_eq_getElem hlt
    rw [List.drop_eq_getElem_cons hlt] at eg
    refine .inr ⟨ok.go F' H' x'.ex i _ hd, fun H2 => ∃ F2 β2 h3 acc vs, dcGo bind (wipeS σ own) tst kx vx (ds.drop (i + 1)) acc h3 = some (out, h2) ∧ HS K F2 β2 H2 h3 ∧ Ext F1 β1 H1 F2 β2 H2 ∧
      H2 p = some (.dK vs) ∧ DR K F2 H2 vs acc ∧ ¬ F2 p ∧ p ∉ β2 ∧ acc.length ≤ i + 1, fun H2 z => ⟨ds.length - (i + 1), by omega, rfl, hlt, z⟩, fun x H3 hy => ?_⟩
    rcases qb : bind ds[i] (wipeS σ own) with _ | s2 <;> simp only [dcGo, qb] at eg
    · cases eg
    obtain ⟨hs3, x3, hpv3, rx, np3⟩ : HS K F' β' H3 h' ∧ Ext F' β' H' F' β' H3 ∧ H3 p = some (.dK vs) ∧ IR K w F' H3 x ds[i] ∧ True := by
      rcases ok.yld F' H' x'.ex i _ hd x H3 hy with ⟨rfl, r⟩ | ⟨hw, b, ws, es, hb, rfl, rfl, ed, r⟩
      · exact ⟨hs', .refl, hpv, .inl r, trivial⟩
      · refine ⟨hs'.new hb, hs'.ext_new hb, by rw [upd_ne (ne_of_none hpv hb)]; exact hpv, ?_, trivial⟩
        exact .inr ⟨hw, b, ws, es, rfl, ed, .inl (.inl upd_same), Reps.ex (hs'.ext_new hb).ex r⟩
    have x13 := x'.seq hs' x3
    have srw : SR K F' β' H3 (L2.wipe σc own) (wipeS σ own) := ((sr.ext (x1.seq hs1 x13)).wipe own)
    refine hg hs3 srw rx qb fun σ4 sr4 hl4 hk4 => ⟨?_, ?_⟩
    · have z : L2.wipe σ4 own = L2.wipe (L2.wipe σc own) own := wipe_ext own hl4 hk4
      rw [z]
      exact wipe_ext own (wipe_length _ _) fun j hj => by rw [wipe_get, if_neg fun z => hj z.1]
    · rcases qt : tst s2 h' with _ | ⟨b, h4⟩ <;> simp only [qt] at eg
      · cases eg
      refine ⟨F', β', s2, h', hs3, sr4, b, h4, qt, fun F5 β5 H5 hs5 x5 => ?_⟩
      have stay : ∀ {Fa : Fz} {βa : List Addr} {Ha : Hp} {Fb : Fz} {βb : List Addr} {Hb : Hp}, Ext Fa βa Ha Fb βb Hb → Ha p = some (.dK vs) → ¬ Fa p → p ∉ βa → Hb p = some (.dK vs) ∧ ¬ Fb p ∧ p ∉ βb := by
        intro Fa βa Ha Fb βb Hb xx ha hf hb
        refine ⟨xx.frame p _ ha hf hb, fun z => ?_, fun z => ?_⟩
        · rcases xx.fnew p z with z | z | z
          · exact hf z
          · rw [ha] at z; cases z
          · exact hb z
        · rcases xx.bmem z with z | z
          · exact hb z
          · rw [ha] at z; cases z
      obtain ⟨hp5, nf5, nb5⟩ := stay x5 hpv3 nf nb
      have racc5 := racc.ex (x3.ex.trans x5.ex)
      cases b with
      | false => exact ⟨F5, β5, h4, acc, vs, eg, hs5, x13.seq hs3 x5, hp5, racc5, nf5, nb5, by omega⟩
      | true =>
        simp only at eg
        rcases qk : kx s2 h4 with _ | ⟨kv, h6⟩
        · rw [qk] at eg; cases eg
        rw [qk] at eg
        cases kv with
        | r n => cases eg
        | tp n => cases eg
        | t kd =>
          simp only at eg
          rcases qy : keyD kd with _ | key <;> simp only [qy] at eg
          · cases eg
          refine ⟨F5, β5, s2, h4, hs5, sr4.ext x5, .t kd, h6, qk, fun F7 β7 H7 v hs7 x7 r7 => ?_⟩
          obtain ⟨rfl, rkey⟩ := keyD_of (.rep r7) qy
          obtain ⟨hp7, nf7, nb7⟩ := stay x7 hp5 nf5 nb5
          rcases qe : vx s2 h6 with _ | ⟨y, h8⟩ <;> simp only [qe] at eg
          · cases eg
          refine ⟨F7, β7, s2, h6, hs7, (sr4.ext x5).ext x7, y, h8, qe, fun F9 β9 H9 v9 hs9 x9 r9 => ?_⟩
          rcases qf : fz h8 y with _ | ⟨d, h10⟩ <;> simp only [qf] at eg
          · cases eg
          obtain ⟨F8, hs8, x8, r8⟩ := fz_ok hs9 r9 qf
          have x98 := x9.seq hs9 x8
          obtain ⟨hp8, nf8, nb8⟩ := stay x98 hp7 nf7 nb7
          have racc8 := racc5.ex (x7.ex.trans x98.ex)
          refine ⟨vs, key, rfl, hp8, by rw [racc.len]; omega, ?_⟩
          obtain ⟨exa, hsa⟩ := hs8.aside (o' := .dK (putK vs key v9)) nf8 nb8 hp8 (fun _ z => nomatch z) (fun _ _ z => nomatch z)
          have hpl := putD_len (es := acc) (k := kd) (d := d)
          exact ⟨F8, β9, h10, putD acc kd d, putK vs key v9, eg, hsa, Ext.later ((x13.seq hs3 x5).seq hs5 (x7.seq hs7 x98)) hp nf1, upd_same, (racc8.put qy (rkey _ _) r8).ex exa, nf8, nb8, by omega⟩
  · have ei : i = ds.length := by omega
    subst ei
    rw [List.drop_length] at eg
    cases eg
    refine .inl ⟨ok.stop F' H' x'.ex, ?_⟩
    have xe := x1.seq hs1 x'
    have hp0 : H p = none := x1.unt (fun a hm => hs1.trk (x1.bsub hm)) hp
    obtain ⟨F9, β9, hs9, x9, r9⟩ := adoptD (m := m) hs' xe hp0 nf nb hpv racc
    exact q F9 β9 H' _ hs9 x9 r9
end
end DE
end
section
set_option Elab.async false
set_option linter.all false
set_option maxRecDepth 100000
set_option maxHeartbeats 3200000
/-! sorted(set(xs)), xs a list of ints -/
namespace DE
open PySem PySem.Spec PyProof.Rows L2
abbrev newSet (w : World) : Obj := { cls := .type "set", dict := none, data := .set #[] 0 (.fresh 0 0 (!w.params.followText "set-order")) }
section
variable {P : Program} {w : World} {A : Around} {E : Value → Shared → Prop} {s : Shared}
theorem set_of_list {l : Addr} {items : Array Value} (ns : List Int) {Q : Value → Shared → Prop} (hh : A.handled = none) (hl : s.heap.IsList l items) (hit : IntsAre items.toList ns) (hb : ns.length + 1 < scanBound)
    (h : ∀ (h' : Heap) (tk c : Nat), SetR w h' s.heap.objs.size (fun j => decide (j ∈ ns)) c → c ≤ ns.length → (∀ b o, s.heap.get? b = some o → h'.get? b = some o) → Q (.ref s.heap.objs.size) { s with heap := h', toks := tk }) :
    wpAny (model P w) A (call (.type "set") [.ref l]) Q E s := by
  have hisz : items.size = ns.length := by
    have q := IntsAre.length hit
    rwa [Array.length_toList] at q
  obtain ⟨_, _, _⟩ := F.called_set.mro
  have a1 := F.called_set.made
  have a2 := F.called_set.sub
  refine wpAny_call (codeAny_of_tree ?_)
  show wpAny _ _ (callAny (.type "set") _) _ _ _
  refine wpAny_pure ⟨Code.quiet_builtin _ (by decide +kernel), codeAny_builtin F.entry_type_call ?_⟩
  rw [Around.under_plain (weight_type_call_type "set" [.ref l] []) rfl]
  have a3 := F.called_set.notType
  have a4 := F.called_set.canCreate
  have a5 := F.typeCall_set_1 (.ref l)
  repeat (any_goals (first | assumption | wp_step))
  refine codeAny_mono (code_set_led1 (.ref l) (E := E) (Q₁ := fun obj s₁ => obj = .ref s.heap.objs.size ∧ s₁ = { s with heap := s.heap.push (newSet w) }) ⟨rfl, rfl⟩) fun r s₁ hr => ?_
  rcases r with e | fl
  · exact hr
  rcases fl with obj | _ | _ | _ <;> try exact hr.elim
  obtain ⟨rfl, rfl⟩ := hr
  have hS : (s.heap.push (newSet w)).get? s.heap.objs.size = some (newSet w) := Heap.get?_push_size _ rfl
  have hT : Shared.TypeIs { s with heap := s.heap.push (newSet w) } (.ref s.heap.objs.size) "set" := ⟨_, hS, rfl⟩
  have a6 := F.called_set.init.lookup
  have a7 := F.called_set.init.bind (.ref s.heap.objs.size)
  repeat (any_goals (first | assumption | wp_step))
  refine codeAny_mono (codeAny_call_builtin (R := wants (fun r s₂ => r = .none ∧ ∃ h' tk c, s₂ = { s with heap := h', toks := tk } ∧ SetR w h' s.heap.objs.size (fun j => decide (j ∈ ns)) c ∧ c ≤ ns.length ∧
      (∀ b o, s.heap.get? b = some o → h'.get? b = some o)) E) F.called_set.init.plain F.entry_set_init (check_set_init_1 hT ?_)) fun r₂ s₂ hr₂ => ?_
  · obtain ⟨⟨ocls, odict, odata, oslots⟩, hol, hcl, nl, hdl⟩ := hl
    simp only at hcl hdl
    subst hcl; subst hdl
    have hol' : (s.heap.push (newSet w)).get? l = some { cls := .type "list", dict := odict, data := .seq items nl, slots := oslots } := Heap.get?_push_of_some _ hol
    have a8 := F.sub_list_set
    have a9 := F.sub_list_frozenset
    have a10 : (Value.type "list" == Value.type "dict") = false := by decide
    have hl1 : (s.heap.push (newSet w)).IsList l items := ⟨_, hol', rfl, nl, rfl⟩
    unfold Builtin.«set.__init__» noKeywords Builtin.Frozenset.updateFrom
    generalize hPI : pyIter = PI
    wp_walk
    subst hPI
    refine wpAny_pyIter_list hl1 ?_
    refine wpAny_bind (wpAny_runValue ?_)
    have hlS : l < s.heap.objs.size := Heap.lt_size hol
    have hz : (s.heap.push (newSet w)).objs.size = s.heap.objs.size + 1 := Heap.size_push ..
    refine set_update_ints ((Walks.list (by simp [hh]) _ l (by rw [hz]; exact Nat.ne_of_lt (Nat.lt_succ_of_lt hlS)) items).toS) s.heap.objs.size
      (by rw [hz]; simp only [List.mem_cons, List.not_mem_nil, or_false, not_or]; exact ⟨Nat.ne_of_lt (Nat.lt_succ_self _), Nat.ne_of_gt hlS⟩) ns hisz hb (fun i v hv => ?_) (items.size - 0) 0 _ (by omega) (Nat.zero_le _)
      ⟨⟨_, Heap.get?_push_size _ rfl, rfl, rfl⟩, (hl1.push _)⟩ ⟨0, Nat.le_refl 0, setR_new_at (Heap.get?_push_of_some _ hS)⟩ fun s' c' hm hc' hS' => ?_
    · have hi : i < ns.length := by rw [← hisz]; exact (Array.getElem?_eq_some_iff.mp hv).1
      obtain ⟨t, e⟩ := IntsAre.int_at hit i v (by rw [Array.getElem?_toList]; exact hv)
      refine ⟨ns[i], t, List.getElem?_eq_getElem hi, ?_⟩
      rw [e, List.getD_eq_getElem?_getD, List.getElem?_eq_getElem hi] <;> rfl
    · obtain ⟨h', g2, d', tk', os'⟩ := s'
      obtain rfl : g2 = s.gens := hm.gens
      obtain rfl : d' = s.drawn := hm.drawn
      obtain rfl : os' = s.os := hm.os
      show wpAny _ _ _ _ _ _
      refine wpAny_pure ?_
      show wpAny _ _ (ret Value.none) _ _ _
      rw [hisz] at hc'
      refine wpAny_pure ⟨rfl, h', tk', c', rfl, hS', hc', fun b o e => ?_⟩
      have hb0 : b < s.heap.objs.size := Heap.lt_size e
      refine hm.heap b o ?_ (Heap.get?_push_of_some _ (Heap.get?_push_of_some _ e))
      rw [hz]
      simp only [List.mem_cons, List.not_mem_nil, or_false, not_or]
      exact ⟨Nat.ne_of_lt hb0, Nat.ne_of_lt (Nat.lt_succ_of_lt hb0)⟩
  · rcases r₂ with e | fl
    · exact hr₂
    rcases fl with obj | _ | _ | _ <;> try exact hr₂.elim
    obtain ⟨rfl, h', tk, c', rfl, hS', hc', hk'⟩ := hr₂
    repeat (any_goals (first | assumption | wp_step))
    exact h _ _ _ hS' hc' hk'
end
end DE
end
section
set_option Elab.async false
set_option linter.all false
set_option maxRecDepth 100000
set_option maxHeartbeats 3200000
/-! set(xs), xs a list of texts -/
namespace DE
open PySem PySem.Spec PyProof.Rows L2
def dstep (acc : List Str) (x : Str) : List Str := if x ∈ acc then acc else acc ++ [x]
/-- each once -/
def dset (l : List Str) : List Str := l.foldl dstep []
theorem dset_snoc {l : List Str} {x : Str} : dset (l ++ [x]) = dstep (dset l) x := by
  unfold dset
  rw [List.foldl_append]
  rfl
theorem mem_dstep {acc : List Str} {x y : Str} : y ∈ dstep acc x ↔ y ∈ acc ∨ y = x := by
  unfold dstep
  split
  · rename_i h
    exact ⟨.inl, fun z => z.elim id fun e => e ▸ h⟩
  · simp
theorem mem_fold {y : Str} : ∀ {l acc : List Str}, y ∈ l.foldl dstep acc ↔ y ∈ acc ∨ y ∈ l
  | [], acc => by simp
  | x :: l, acc => by
    rw [List.foldl_cons, mem_fold (l := l), mem_dstep, List.mem_cons]
    constructor
    · rintro ((h | h) | h)
      · exact .inl h
      · exact .inr (.inl h)
      · exact .inr (.inr h)
    · rintro (h | h | h)
      · exact .inl (.inl h)
      · exact .inl (.inr h)
      · exact .inr h
theorem mem_dset {l : List Str} {y : Str} : y ∈ dset l ↔ y ∈ l := by
  unfold dset
  rw [mem_fold]
  simp
theorem dset_le {l : List Str} : (dset l).length ≤ l.length := by
  have : ∀ (l acc : List Str), (l.foldl dstep acc).length ≤ acc.length + l.length := by
    intro l
    induction l with
    | nil => intro acc; simp
    | cons x l ih =>
      intro acc
      rw [List.foldl_cons]
      have h1 := ih (dstep acc x)
      have h2 : (dstep acc x).length ≤ acc.length + 1 := by
        unfold dstep
        split <;> simp
      simp only [List.length_cons]
      omega
  have := this l []
  unfold dset
  simpa using this
section
variable {P : Program} {w : World} {A : Around} {E : Value → Shared → Prop} {s : Shared}
theorem loopTx {I : Addr} {fp wr : List Addr} {G : Array GenState → Array GenState → Prop} {n : Nat} {Pv : Nat → Value → Prop} {St : Nat → Shared → Prop} {R : Result → Shared → Prop}
    (W : WalksS P w A.in1 I fp wr G n Pv St) (S : Addr) (nS : S ∉ fp) (ts : List Str) (en : n = ts.length) (few : ts.length + 1 < scanBound) (val : ∀ i v, Pv i v → ∃ k t, ts[i]? = some k ∧ v = .str k t) :
    ∀ (m i : Nat) (s : Shared), n - i = m → i ≤ n → St i s → s.heap.SetOf (PySem.strKind P w) S (fun j => decide (j ∈ ts.take i)) (dset (ts.take i)).length →
      (∀ s', Moved (S :: wr) G s s' → s'.heap.SetOf (PySem.strKind P w) S (fun j => decide (j ∈ ts)) (dset ts).length → R (.ok (.ret .none)) s') →
      codeAny (model P w) A (.builtin "set.update.loop" ⟨[Value.ref S, Value.ref I], []⟩) R s := by
  have nw : S ∉ wr := fun z => nS (W.sub _ z)
  have sb : ∀ b ∈ wr, b ∈ S :: wr := fun b z => List.mem_cons_of_mem _ z
  intro m
  induction m with
  | zero =>
    intro i s em hi st hS out
    have ei : i = n := by omega
    subst ei
    refine codeAny_builtin (PyProof.Rows.F.entry_set_update_loop) ?_
    rw [Around.under_plainId (PyProof.Rows.F.plain_set_update_loop) _]
    show wpAny _ A.in1 (pyNext (Value.ref I) >>= _) _ _ s
    refine wpAny_bind (W.done s _ _ st fun s' mv => ?_)
    show wpAny _ (A.in1) (ret Value.none) _ _ s'
    rw [List.take_of_length_le (by omega)] at hS
    refine wpAny_pure (out s' (mv.mono sb) ?_)
    obtain ⟨ob, es, ep, tab, ho, rest⟩ := hS
    exact ⟨ob, es, ep, tab, mv.heap S _ nw ho, rest⟩
  | succ m ih =>
    intro i s em hi st hS out
    have lt : i < n := by omega
    refine codeAny_builtin (PyProof.Rows.F.entry_set_update_loop) ?_
    rw [Around.under_plainId (PyProof.Rows.F.plain_set_update_loop) _]
    show wpAny _ A.in1 (pyNext (Value.ref I) >>= _) _ _ s
    refine wpAny_bind (W.item i s _ _ lt st fun v s' pv st' mv => ?_)
    obtain ⟨z, t, ez, rfl⟩ := val i v pv
    have hS1 : s'.heap.SetOf (PySem.strKind P w) S (fun j => decide (j ∈ ts.take i)) (dset (ts.take i)).length := by
      obtain ⟨ob, es, ep, tab, ho, rest⟩ := hS
      exact ⟨ob, es, ep, tab, mv.heap S _ nw ho, rest⟩
    show wpAny _ A.in1 (holding [Value.str z t] (setAdd S (.str z t)) >>= _) _ _ s'
    refine wpAny_bind (m := holding _ _) (wpAny_holding ?_)
    unfold setAdd
    refine wpAny_holding ?_
    refine wpAny_bind ((PySem.strKind P w).pyHash (k := z) (strKind_is _ _ _ _) ?_)
    have room : (dset (ts.take i)).length + 1 < scanBound := by
      have h1 := dset_le (l := ts.take i)
      have h2 := List.length_take_le i ts
      have h3 : (ts.take i).length ≤ ts.length := by rw [List.length_take]; omega
      omega
    refine wpAny_setAddHashed_of (knd := PySem.strKind P w) (s := { s' with toks := s'.toks + 1 }) (strKind_is _ _ _ _) rfl hS1 room fun h' same hS2 => ?_
    have etk : ts.take (i + 1) = ts.take i ++ [z] := by rw [List.take_add_one, ez]; rfl
    have hS3 : h'.SetOf (PySem.strKind P w) S (fun j => decide (j ∈ ts.take (i + 1))) (dset (ts.take (i + 1))).length := by
      refine SetOf_congr hS2 (fun j => ?_) ?_
      · rw [etk]
        simp [List.mem_append]
      · rw [etk, dset_snoc]
        unfold dstep
        simp only [mem_dset, decide_eq_true_eq]
        split <;> simp
    refine wpAny_pure ⟨plainId_quiet PyProof.Rows.F.plain_set_update_loop _, ih (i + 1) _ (by omega) lt (W.frame _ s' _ _ st' (Nat.le_succ _) fun b hb o e => ?_) hS3 fun s'' mv2 hS4 => ?_⟩
    · rw [same.2 b (fun z : b = S => nS (by rw [← z]; exact hb))]; exact e
    · refine out s'' (Moved.trans W.gtrans ((mv.mono sb).then_heap (Nat.le_succ _) fun b o hb e => ?_) mv2) hS4
      rw [same.2 b (fun z : b = S => hb (by rw [z]; exact List.mem_cons_self))]; exact e
theorem strs_len : ∀ {vs : List Value} {ts : List Str}, StrsAre vs ts → vs.length = ts.length
  | _, _, .nil => rfl
  | _, _, .cons _ _ h => by rw [List.length_cons, List.length_cons, strs_len h]
theorem strs_get : ∀ {vs : List Value} {ts : List Str}, StrsAre vs ts → ∀ (i : Nat) (v : Value), vs[i]? = some v → ∃ t, v = .str (ts.getD i Str.empty) t
  | _, _, .nil, _, _, z => by simp at z
  | _, _, .cons x t r, 0, v, h => by simp at h; exact ⟨t, by rw [← h]; rfl⟩
  | _, _, .cons x t r, i + 1, v, h => by
    rw [List.getElem?_cons_succ] at h
    obtain ⟨t', e⟩ := strs_get r i v h
    exact ⟨t', by rw [e]; rfl⟩
theorem freshTx {h : Heap} {a : Addr} {ts : List Str} (ho : h.get? a = some (newSet w)) : h.SetOf (PySem.strKind P w) a (fun j => decide (j ∈ ts.take 0)) (dset (ts.take 0)).length :=
  ⟨_, #[], 0, _, ho, ⟨rfl, rfl, rfl⟩, rfl, (fun e he => by simp at he), (fun k => by simp), (by decide), (by rfl), rfl⟩
theorem set_of_texts {l : Addr} {items : Array Value} (ts : List Str) {Q : Value → Shared → Prop} (hh : A.handled = none) (hl : s.heap.IsList l items) (hit : StrsAre items.toList ts) (hb : ts.length + 1 < scanBound)
    (h : ∀ (h' : Heap) (tk : Nat), h'.SetOf (PySem.strKind P w) s.heap.objs.size (fun j => decide (j ∈ ts)) (dset ts).length → (∀ b o, s.heap.get? b = some o → h'.get? b = some o) → Q (.ref s.heap.objs.size) { s with heap := h', toks := tk }) :
    wpAny (model P w) A (call (.type "set") [.ref l]) Q E s := by
  have hisz : items.size = ts.length := by
    have q := strs_len hit
    rwa [Array.length_toList] at q
  obtain ⟨_, _, _⟩ := F.called_set.mro
  have a1 := F.called_set.made
  have a2 := F.called_set.sub
  refine wpAny_call (codeAny_of_tree ?_)
  show wpAny _ _ (callAny (.type "set") _) _ _ _
  refine wpAny_pure ⟨Code.quiet_builtin _ (by decide +kernel), codeAny_builtin F.entry_type_call ?_⟩
  rw [Around.under_plain (weight_type_call_type "set" [.ref l] []) rfl]
  have a3 := F.called_set.notType
  have a4 := F.called_set.canCreate
  have a5 := F.typeCall_set_1 (.ref l)
  repeat (any_goals (first | assumption | wp_step))
  refine codeAny_mono (code_set_led1 (.ref l) (E := E) (Q₁ := fun obj s₁ => obj = .ref s.heap.objs.size ∧ s₁ = { s with heap := s.heap.push (newSet w) }) ⟨rfl, rfl⟩) fun r s₁ hr => ?_
  rcases r with e | fl
  · exact hr
  rcases fl with obj | _ | _ | _ <;> try exact hr.elim
  obtain ⟨rfl, rfl⟩ := hr
  have hS : (s.heap.push (newSet w)).get? s.heap.objs.size = some (newSet w) := Heap.get?_push_size _ rfl
  have hT : Shared.TypeIs { s with heap := s.heap.push (newSet w) } (.ref s.heap.objs.size) "set" := ⟨_, hS, rfl⟩
  have a6 := F.called_set.init.lookup
  have a7 := F.called_set.init.bind (.ref s.heap.objs.size)
  repeat (any_goals (first | assumption | wp_step))
  refine codeAny_mono (codeAny_call_builtin (R := wants (fun r s₂ => r = .none ∧ ∃ h' tk, s₂ = { s with heap := h', toks := tk } ∧ h'.SetOf (PySem.strKind P w) s.heap.objs.size (fun j => decide (j ∈ ts)) (dset ts).length ∧
      (∀ b o, s.heap.get? b = some o → h'.get? b = some o)) E) F.called_set.init.plain F.entry_set_init (check_set_init_1 hT ?_)) fun r₂ s₂ hr₂ => ?_
  · obtain ⟨⟨ocls, odict, odata, oslots⟩, hol, hcl, nl, hdl⟩ := hl
    simp only at hcl hdl
    subst hcl; subst hdl
    have hol' : (s.heap.push (newSet w)).get? l = some { cls := .type "list", dict := odict, data := .seq items nl, slots := oslots } := Heap.get?_push_of_some _ hol
    have a8 := F.sub_list_set
    have a9 := F.sub_list_frozenset
    have a10 : (Value.type "list" == Value.type "dict") = false := by decide
    have hl1 : (s.heap.push (newSet w)).IsList l items := ⟨_, hol', rfl, nl, rfl⟩
    unfold Builtin.«set.__init__» noKeywords Builtin.Frozenset.updateFrom
    generalize hPI : pyIter = PI
    wp_walk
    subst hPI
    refine wpAny_pyIter_list hl1 ?_
    refine wpAny_bind (wpAny_runValue ?_)
    have hlS : l < s.heap.objs.size := Heap.lt_size hol
    have hz : (s.heap.push (newSet w)).objs.size = s.heap.objs.size + 1 := Heap.size_push ..
    refine loopTx ((Walks.list (by simp [hh]) _ l (by rw [hz]; exact Nat.ne_of_lt (Nat.lt_succ_of_lt hlS)) items).toS) s.heap.objs.size
      (by rw [hz]; simp only [List.mem_cons, List.not_mem_nil, or_false, not_or]; exact ⟨Nat.ne_of_lt (Nat.lt_succ_self _), Nat.ne_of_gt hlS⟩) ts hisz hb (fun i v hv => ?_) (items.size - 0) 0 _ (by omega) (Nat.zero_le _)
      ⟨⟨_, Heap.get?_push_size _ rfl, rfl, rfl⟩, (hl1.push _)⟩ (freshTx (Heap.get?_push_of_some _ hS)) fun s' hm hS' => ?_
    · have hi : i < ts.length := by rw [← hisz]; exact (Array.getElem?_eq_some_iff.mp hv).1
      obtain ⟨t, e⟩ := strs_get hit i v (by rw [Array.getElem?_toList]; exact hv)
      exact ⟨ts[i], t, List.getElem?_eq_getElem hi, by rw [e, List.getD_eq_getElem?_getD, List.getElem?_eq_getElem hi]; rfl⟩
    · obtain ⟨h', g2, d', tk', os'⟩ := s'
      obtain rfl : g2 = s.gens := hm.gens
      obtain rfl : d' = s.drawn := hm.drawn
      obtain rfl : os' = s.os := hm.os
      show wpAny _ _ _ _ _ _
      refine wpAny_pure ?_
      show wpAny _ _ (ret Value.none) _ _ _
      refine wpAny_pure ⟨rfl, h', tk', rfl, hS', fun b o e => ?_⟩
      have hb0 : b < s.heap.objs.size := Heap.lt_size e
      refine hm.heap b o ?_ (Heap.get?_push_of_some _ (Heap.get?_push_of_some _ e))
      rw [hz]
      simp only [List.mem_cons, List.not_mem_nil, or_false, not_or]
      exact ⟨Nat.ne_of_lt hb0, Nat.ne_of_lt (Nat.lt_succ_of_lt hb0)⟩
  · rcases r₂ with e | fl
    · exact hr₂
    rcases fl with obj | _ | _ | _ <;> try exact hr₂.elim
    obtain ⟨rfl, h', tk, rfl, sS, hk'⟩ := hr₂
    repeat (any_goals (first | assumption | wp_step))
    exact h _ _ sS hk'
end
end DE
end
section
set_option Elab.async false
set_option linter.all false
set_option maxRecDepth 100000
set_option maxHeartbeats 1000000
/-! sorted(set(xs)), len(set(xs)) -/
namespace DE
open PySem PySem.Spec PyProof.Rows L2
def insU (i : Int) : List Int → List Int
  | [] => [i]
  | j :: r => if i < j then i :: j :: r else if i = j then j :: r else j :: insU i r
def sset (ns : List Int) : List Int := ns.foldr insU []
theorem mem_insU {i k : Int} : ∀ {l : List Int}, k ∈ insU i l ↔ k = i ∨ k ∈ l
  | [] => by simp [insU]
  | j :: r => by
    unfold insU
    split
    · simp
    · split
      · rename_i h; subst h; simp
      · simp only [List.mem_cons, mem_insU (l := r)]
        constructor <;> (rintro (h | h | h) <;> simp [h])
theorem insU_lt {i : Int} : ∀ {l : List Int}, l.Pairwise (· < ·) → (insU i l).Pairwise (· < ·)
  | [], _ => by simp [insU]
  | j :: r, h => by
    obtain ⟨h1, h2⟩ := List.pairwise_cons.mp h
    unfold insU
    split
    · rename_i c
      refine List.pairwise_cons.mpr ⟨fun k hk => ?_, h⟩
      rcases List.mem_cons.mp hk with rfl | hk
      · exact c
      · have := h1 k hk; omega
    · split
      · exact h
      · refine List.pairwise_cons.mpr ⟨fun k hk => ?_, insU_lt h2⟩
        rcases mem_insU.mp hk with rfl | hk
        · omega
        · exact h1 k hk
theorem mem_sset {k : Int} : ∀ {ns : List Int}, k ∈ sset ns ↔ k ∈ ns
  | [] => by simp [sset]
  | n :: ns => by
    show k ∈ insU n (sset ns) ↔ _
    rw [mem_insU, mem_sset (ns := ns), List.mem_cons]
theorem sset_lt : ∀ {ns : List Int}, (sset ns).Pairwise (· < ·)
  | [] => .nil
  | n :: ns => insU_lt (sset_lt (ns := ns))
theorem lt_uniq : ∀ {l r : List Int}, l.Pairwise (· < ·) → r.Pairwise (· < ·) → (∀ k, k ∈ l ↔ k ∈ r) → l = r
  | [], [], _, _, _ => rfl
  | [], b :: r, _, _, h => by have := (h b).mpr (by simp); cases this
  | a :: l, [], _, _, h => by have := (h a).mp (by simp); cases this
  | a :: l, b :: r, h1, h2, h => by
    obtain ⟨p1, p2⟩ := List.pairwise_cons.mp h1
    obtain ⟨q1, q2⟩ := List.pairwise_cons.mp h2
    have e : a = b := by
      rcases List.mem_cons.mp ((h a).mp (by simp)) with e | e
      · exact e
      · rcases List.mem_cons.mp ((h b).mpr (by simp)) with f | f
        · exact f.symm
        · have := q1 a e; have := p1 b f; omega
    subst e
    rw [lt_uniq p2 q2 fun k => ?_]
    constructor
    · intro hk
      rcases List.mem_cons.mp ((h k).mp (by simp [hk])) with e | e
      · have := p1 k hk; omega
      · exact e
    · intro hk
      rcases List.mem_cons.mp ((h k).mpr (by simp [hk])) with e | e
      · have := q1 k hk; omega
      · exact e
theorem sset_self {ns : List Int} : sset ns = ns ↔ ns.Pairwise (· < ·) :=
  ⟨fun h => h ▸ sset_lt, fun h => lt_uniq sset_lt h fun _ => mem_sset⟩
theorem nodup_len : ∀ {l r : List Int}, l.Nodup → (∀ k ∈ l, k ∈ r) → l.length ≤ r.length
  | [], _, _, _ => Nat.zero_le _
  | a :: l, r, h, m => by
    obtain ⟨h1, h2⟩ := List.nodup_cons.mp h
    have ha := m a (by simp)
    have := nodup_len (r := r.erase a) h2 fun k hk => (List.mem_erase_of_ne (fun (e : k = a) => h1 (e ▸ hk))).mpr (m k (by simp [hk]))
    rw [List.length_erase_of_mem ha] at this
    have := List.length_pos_of_mem ha
    simp only [List.length_cons]
    omega
theorem sset_nodup {ns : List Int} : (sset ns).Nodup := sset_lt.imp fun h => by omega
def intsOf : List PyData → Option (List Int)
  | [] => some []
  | .int i :: r => (match intsOf r with | some l => some (i :: l) | none => none)
  | _ :: _ => none
def seqOf : PyData → Option (List PyData)
  | .list xs => some xs
  | .tuple xs => some xs
  | _ => none
def strsOf : List PyData → Option (List Str)
  | [] => some []
  | .str x :: r => (match strsOf r with | some l => some (x :: l) | none => none)
  | _ :: _ => none
/-- the word that counts -/
def isCnt (f : List Int → PyData) : Bool := match f [] with
  | .int _ => true
  | _ => false
def listOf1 : PyData → Bool
  | .list _ => true
  | _ => false
def gSet (f : List Int → PyData) (d : PyData) : Option PyData := match seqOf d with
  | some xs => (match intsOf xs with
    | some ns => if ns.length < 64 then some (f ns) else none
    | none => (match strsOf xs with
      | some ts => if isCnt f = true ∧ listOf1 d = true ∧ ts.length < 64 then some (.int (dset ts).length) else none
      | none => none))
  | none => none
inductive Ss where
  | sorted | len
def Ss.nm : Ss → Str
  | .sorted => "sorted"
  | .len => "len"
def Ss.bn : Ss → String
  | .sorted => "sorted"
  | .len => "len"
def Ss.one : Ss → Bool
  | .len => true
  | .sorted => false
def Ss.out : Ss → List Int → PyData
  | .sorted, ns => .list ((sset ns).map .int)
  | .len, ns => .int (sset ns).length
theorem intsOf_map : ∀ {xs : List PyData} {ns : List Int}, intsOf xs = some ns → xs = ns.map .int
  | [], ns, h => by simp only [intsOf, Option.some.injEq] at h; subst h; rfl
  | x :: xs, ns, h => by
    cases x <;> simp only [intsOf] at h <;> try cases h
    split at h
    · rename_i hl; cases h; rw [intsOf_map hl]; rfl
    · cases h
theorem ints_some : ∀ {ns : List Int}, intsOf (ns.map .int) = some ns
  | [] => rfl
  | n :: ns => by simp only [List.map_cons, intsOf, ints_some (ns := ns)]
theorem strsOf_map : ∀ {xs : List PyData} {ts : List Str}, strsOf xs = some ts → xs = ts.map .str
  | [], ts, h => by simp only [strsOf, Option.some.injEq] at h; subst h; rfl
  | x :: xs, ts, h => by
    cases x <;> simp only [strsOf] at h <;> try cases h
    split at h
    · rename_i hl; cases h; rw [strsOf_map hl]; rfl
    · cases h
section
variable {X : Cx} {F : Fz} {H : Hp}
theorem reps_strT {K : KW} : ∀ {ts : List Str} {vs : List V}, Reps K F H vs (ts.map .str) → vs = ts.map V.str
  | [], _, .nil => rfl
  | n :: ns, _, .cons a b => by cases a; rw [reps_strT b]; rfl
theorem reps_ints {K : KW} : ∀ {ns : List Int} {vs : List V}, Reps K F H vs (ns.map .int) → vs = ns.map V.int
  | [], _, .nil => rfl
  | n :: ns, _, .cons a b => by cases a; rw [reps_ints b]; rfl
theorem ints_reps {K : KW} : ∀ {ns : List Int}, Reps K F H (ns.map V.int) (ns.map .int)
  | [] => .nil
  | n :: ns => .cons (.int n) ints_reps
/-- set(xs) of ints, in a word -/
def tSet (K : KW) (one : Bool) (ta : TE) (z : List Int → V → Hp → Hp → Prop) : TE := fun σ H Q => ta σ H fun x H1 => ∃ l, x = .ref l ∧ ((∃ ns : List Int, (SqL K H1 l (ns.map V.int) ∨ SqT K H1 l (ns.map V.int)) ∧ ns.length < 64 ∧ ∀ v H2, z ns v H1 H2 → Q v H2) ∨
  (one = true ∧ ∃ ts : List Str, SqL K H1 l (ts.map V.str) ∧ ts.length < 64 ∧ Q (.int (dset ts).length) H1))
def zOf : Ss → List Int → V → Hp → Hp → Prop
  | .sorted, ns, v, H, H2 => ∃ p, H p = none ∧ v = .ref p ∧ H2 = upd H p (.lst ((sset ns).map V.int))
  | .len, ns, v, H, H2 => v = .int (sset ns).length ∧ H2 = H
theorem setR_card {w : World} {h : Heap} {a : Addr} {ns : List Int} {n : Nat} (R : SetR w h a (fun j => decide (j ∈ ns)) n) : n = (sset ns).length := by
  obtain ⟨o, es, ep, t, ho, hex, hd, g, nd, hm, hb, hf, hn, hr, hl⟩ := R
  have e1 : (es.toList.map keyOf).length = n := by rw [List.length_map, Array.length_toList]; exact hn
  have m : ∀ k, k ∈ ns ↔ k ∈ es.toList.map keyOf := fun k => by rw [← hm k]; simp
  rw [← e1]
  exact Nat.le_antisymm (nodup_len nd fun k hk => mem_sset.mpr ((m k).mpr hk)) (nodup_len sset_nodup fun k hk => (m k).mp (mem_sset.mp hk))
theorem pe_sset (b : Ss) {a : Expr} {ta : TE} {p p2 q pos : Pos} (hc : X.calm = true) (hg : Gl X b.nm) (hm : X.mg b.nm = none) (hg2 : Gl X "set") (hm2 : X.mg "set" = none) (ha : PE X a ta)
    (na : starEach [a] X.env = (false, eval a X.env) :: starEach [] X.env) : PE X (.Call (.Name b.nm p) [.Call (.Name "set" p2) [a] [] q] [] pos) (tSet X.kw b.one ta (zOf b)) := by
  refine ⟨fun pins s σ H Q I h => ?_⟩
  refine Call_ (ld_blt I hg hm (u := .builtin b.bn) (by cases b <;> decide +kernel) ?_ (by cases b <;> decide) (by cases b <;> decide))
  refine PyProof.Rows.callWith_builtin1 (PyProof.Rows.args_cons ?_ rfl) rfl rfl
  refine Call_ (ld_blt I hg2 hm2 boot_set ?_)
  refine PyProof.Rows.callWith_type1 (PyProof.Rows.args_cons (thn (ha.run pins s σ H _ I h) fun v s1 ⟨x, H1, I1, r1, q1⟩ => PyProof.Rows.args_nil ?_) na) na rfl
  obtain ⟨l, rfl, q1⟩ := q1
  cases r1
  rcases q1 with ⟨ns, hq, h64, q1⟩ | ⟨hb, ts, hq, h64, q1⟩
  rotate_left
  · cases b <;> try (cases hb; done)
    obtain ⟨its, rs, pl, hz⟩ := I1.list hq
    have sb2 : ts.length + 1 < scanBound := Nat.lt_of_lt_of_le (Nat.add_lt_add_right h64 1) (by decide)
    refine set_of_texts ts (I1.ok.hd hc) pl.isList (by simpa using strsAre_of rs) sb2 fun h' tk R hk => ?_
    refine PyProof.Rows.args_nil ?_
    have I2 : Inv X pins σ H1 { s1 with heap := h', toks := tk } := I1.kept hk
    obtain ⟨o, es, ep, t, ho, hex, hd, _, _, _, hf, hn⟩ := R
    have hle := dset_le (l := ts)
    exact call_len_set (s := { s1 with heap := h', toks := tk }) ho hex hd hf (by rw [hn] <;> omega) ⟨.int (dset ts).length, H1, I2.tok _, ⟨_, by rw [hn]⟩, q1⟩
  have fin : ∀ (h' : Heap) (tk c : Nat), SetR X.w h' s1.heap.objs.size (fun j => decide (j ∈ ns)) c → c ≤ ns.length → (∀ b o, s1.heap.get? b = some o → h'.get? b = some o) →
      wpAny (model X.prog X.w) X.A (spliced (backTo pos (starEach [] X.env))) (fun vs s₂ => wpAny (model X.prog X.w) X.A (call (.builtin b.bn) (Value.ref s1.heap.objs.size :: vs)) (EP X pins σ Q) X.xe s₂) X.xe { s1 with heap := h', toks := tk } := fun h' tk c R hcl hk => by
    refine PyProof.Rows.args_nil ?_
    have I2 : Inv X pins σ H1 { s1 with heap := h', toks := tk } := I1.kept hk
    have hcd := setR_card R
    cases b with
    | len =>
      have hS := R.setOf (P := X.prog)
      obtain ⟨o, es, ep, t, ho, hex, hd, _, _, _, hf, hn⟩ := hS
      refine call_len_set (s := { s1 with heap := h', toks := tk }) ho hex hd hf (by rw [hn] <;> omega) ⟨.int (sset ns).length, H1, I2.tok _, ⟨_, by rw [hn, hcd]⟩, q1 _ _ ⟨rfl, rfl⟩⟩
    | sorted =>
      refine sorted_set (s := { s1 with heap := h', toks := tk }) R (I2.ok.hd hc) (by omega) fun s' p out c2 ms k g o hp hgp hi hs hmm hl => ?_
      have em : ms = sset ns := lt_uniq hs sset_lt fun k => by rw [hmm, mem_sset]; simp
      subst em
      have hlen : ((sset ns).map V.int).length ≤ sizeLine := by rw [List.length_map, hl, sizeLine_eq]; omega
      have hn : H1 p = none := I2.hok.fresh hp
      have J : Inv X pins σ (upd H1 p (.lst ((sset ns).map V.int))) { ({ s1 with heap := h', toks := tk } : Shared) with heap := s'.heap, gens := s'.gens, drawn := s'.drawn, toks := s'.toks } :=
        I2.call (ch := []) (Un.laid k hp hn) (I2.hok.laid k hp ⟨hlen, out.toList, c2, vals_of_ints hi, hgp⟩) (by rw [g]; exact I2.bare) (fun _ z => nomatch z)
      have e : s' = { ({ s1 with heap := h', toks := tk } : Shared) with heap := s'.heap, gens := s'.gens, drawn := s'.drawn, toks := s'.toks } := by
        cases s'
        cases s1
        cases o
        rfl
      rw [e]
      exact ⟨.ref p, _, J, rfl, q1 _ _ ⟨p, hn, rfl, rfl⟩⟩
  have sb : ns.length + 1 < scanBound := Nat.lt_of_lt_of_le (Nat.add_lt_add_right h64 1) (by decide)
  rcases hq with hq | hq
  · obtain ⟨its, r, pl, hz⟩ := I1.list hq
    exact set_of_list ns (I1.ok.hd hc) pl.isList (by simpa using ints_of_vals r) sb fun h' tk c R hcl hk => fin h' tk c R hcl hk
  · obtain ⟨its, r, pl, hz⟩ := I1.tuple hq
    exact call_set_tupI ns (I1.ok.hd hc) pl (by simpa using ints_of_vals r) sb fun h' tk c R hcl hk => fin h' tk c R hcl hk
theorem sset_tr {K : KW} (b : Ss) {m : Bool} {ea : Ev Val} {σc : L2.St} {H : Hp} {Q : VK} (h : tS K (e1 m (gSet b.out) ea) σc H Q) : tSet K b.one (tS K ea) (zOf b) σc H Q := by
  obtain ⟨F, β, σ, h, hs, sr, x, h', e, q⟩ := e1_tr (nw := true) (fun _ => rfl) h
  refine ⟨F, β, σ, h, hs, sr, x, h', e, fun F1 β1 H1 v hs1 x1 r1 => ?_⟩
  obtain ⟨F2, d, o, r2, e2, q⟩ := q F1 β1 H1 v hs1 x1 r1
  have go : ∀ xs, seqOf d = some xs → (∃ ns, xs = ns.map .int ∧ ns.length < 64 ∧ o = b.out ns) ∨ (b.one = true ∧ listOf1 d = true ∧ ∃ ts, xs = ts.map .str ∧ ts.length < 64 ∧ o = .int (dset ts).length) := fun xs hx => by
    simp only [gSet, hx] at e2
    split at e2
    · rename_i ns hns
      split at e2
      · cases e2; exact .inl ⟨ns, intsOf_map hns, by assumption, rfl⟩
      · cases e2
    · split at e2
      · rename_i ts hts
        split at e2
        · rename_i hh
          cases e2
          refine .inr ⟨?_, hh.2.1, ts, strsOf_map hts, hh.2.2, rfl⟩
          cases b with
          | len => rfl
          | sorted => exact absurd hh.1 (by decide)
        · cases e2
      · cases e2
  have out : ∀ ns, o = b.out ns → ∀ v H2, zOf b ns v H1 H2 → Q v H2 := fun ns eo v H2 hz => by
    subst eo
    cases b with
    | len => obtain ⟨rfl, rfl⟩ := hz; exact q _ _ (.same (.inr rfl) (.int _))
    | sorted => obtain ⟨p, hp, rfl, rfl⟩ := hz; exact q _ _ (.lst hp ints_reps)
  cases d <;> try (simp only [gSet, seqOf] at e2; cases e2; done)
  · rename_i xs
    obtain ⟨a, vs, rfl, hq, rr⟩ := r2.list
    rcases go _ rfl with ⟨ns, rfl, h64, eo⟩ | ⟨ho, _, ts, rfl, h64, eo⟩
    · rw [reps_ints rr] at hq
      exact ⟨a, rfl, .inl ⟨ns, .inl hq, h64, out ns eo⟩⟩
    · rw [reps_strT rr] at hq
      subst eo
      exact ⟨a, rfl, .inr ⟨ho, ts, hq, h64, q _ _ (.same (.inr rfl) (.int _))⟩⟩
  · rename_i xs
    obtain ⟨a, vs, rfl, hq, rr⟩ := r2.tup
    rcases go _ rfl with ⟨ns, rfl, h64, eo⟩ | ⟨ho, hl, _⟩
    · rw [reps_ints rr] at hq
      exact ⟨a, rfl, .inl ⟨ns, .inr hq.sq, h64, out ns eo⟩⟩
    · cases hl
end
end DE
end
section
set_option Elab.async false
set_option linter.all false
set_option maxRecDepth 100000
set_option maxHeartbeats 1000000
/-! d.get(k); a def with one keyword-only parameter; sum -/
namespace DE
open PySem PySem.Spec PyProof.Rows L2
section
variable {K : KW} {X : Cx} {σc : L2.St} {H : Hp} {Q : VK}
theorem eGet1_tr {eo ek : Ev Val} (h : tS K (eGet2 eo ek (eC .none)) σc H Q) : tDGet1 (tS K eo) (tS K ek) σc H Q := by
  obtain ⟨F, β, σ, h, hs, sr, x, h', e, q⟩ := h
  unfold eGet2 at e
  rcases qa : eo σ h with _ | ⟨v, h1⟩ <;> simp only [qa] at e
  · cases e
  rcases q1 : rd h1 v with _ | d1
  · rw [q1] at e; cases e
  rw [q1] at e
  cases d1 <;> simp only at e <;> try cases e
  rename_i es1
  rcases qb : ek σ h1 with _ | ⟨kv, h2⟩ <;> simp only [qb] at e
  · cases e
  simp only [eC, fz] at e
  rcases q4 : rd h2 v with _ | d4
  · rw [q4] at e; cases e
  rw [q4] at e
  cases d4 <;> simp only at e <;> try cases e
  rename_i es
  rcases qk : rd h2 kv with _ | kd <;> simp only [qk] at e
  · cases e
  rcases qy : keyD kd with _ | key <;> simp only [qy] at e
  · cases e
  cases e
  refine ⟨F, β, σ, h, hs, sr, v, h1, qa, fun F1 β1 H1 w hs1 x1 r1 => ?_⟩
  obtain ⟨a, kvs, rfl, ha, _⟩ := (RB.of_rd hs1 r1 q1).dict
  refine ⟨a, rfl, .inl ⟨kvs, .inl ha⟩, F1, β1, σ, h1, hs1, sr.ext x1, kv, _, qb, fun F2 β2 H2 y hs2 x2 r2 => ?_⟩
  obtain ⟨a', kvs4, e', ha4, rr⟩ := (RB.of_rd hs2 (r1.ext x2) q4).dict
  cases e'
  obtain ⟨rfl, _⟩ := keyD_of (RB.of_rd hs2 r2 qk) qy
  refine ⟨_, .k ha4, ?_⟩
  have xall := x1.seq hs1 x2
  rcases hv : valD es key with _ | d
  · have hn : valV kvs4 key = none := by
      have z := rr.isSome key
      rw [hv] at z
      simpa using z
    rw [hn]
    rw [hv] at q
    exact q F2 β2 H2 .non hs2 xall .non
  · obtain ⟨w, hw, rw'⟩ := rr.val hv
    rw [hw]
    rw [hv] at q
    exact q F2 β2 H2 w hs2 xall rw'
end
/-- the defs with one keyword-only parameter behind one other -/
def kwOf (x : Str) : Option (Str × PyData) := if x = "plan_of" then some ("refused", .tuple []) else none
structure BindK (K : KW) (fd : FuncData) (ps : List Str) (kn : Str) (d : PyData) : Prop where
  dfl : ∃ v u, RelV v u ∧ (∀ F H, Rep K F H v d) ∧ ∀ (s : Shared) (y : Value), K.f.In s.heap → BindsTo s fd ⟨[y], []⟩ (ps.zip [y, u])
  kw : ∀ (s : Shared) (y w : Value), K.f.In s.heap → BindsTo s fd ⟨[y], [(kn, w)]⟩ (ps.zip [y, w])
def BindX (K : KW) (fd : FuncData) (ps : List Str) : Option (Str × PyData) → Prop
  | none => Binds K fd ps []
  | some p => BindK K fd ps p.1 p.2
section
variable {X : Cx} {k : Nat} {f : Addr} {fd : FuncData} {ps : List Str} {sp : Sp} {x kn : Str} {p pos kpos : Pos} {a b : Expr} {ta tb : TE}
theorem pe_callGD {t : TA} {v : V} {u : Value} (F : FnG X.prog X.w X.kw X.mg X.base k f fd ps sp) (hr : Room k X.A) (hgd : X.A.guards = some []) (hg : Gl X x) (hm : X.mg x = some (.ref f)) (hk : PySem.W.keepIn X.kw (.ref f) = true)
    (hv : RelV v u) (hb : ∀ (s : Shared) (y : Value), X.K.In s.heap → BindsTo s fd ⟨[y], []⟩ (ps.zip [y, u])) (ha : PA X [a] t) (hdb : (x == ("__debug__" : Str)) = false)
    (he : starEach [a] X.env = (false, eval a X.env) :: starEach [] X.env) : PE X (.Call (.Name x p) [a] [] pos) (fun σ H Q => t σ H fun vs H1 => ∃ z, vs = [z] ∧ sp [z, v] H1 Q E0) := by
  refine ⟨fun pins s σ H Q I h => ?_⟩
  refine wpAny_Call_Name_kw (ld_glob I hg hm ?_ hdb)
  refine PySem.W.callWith_K (h₀ := X.base) I.ok.mod.kin hk (thn (ha.run pos pins s σ H _ I h) fun us s1 ⟨vs, H1, I1, r, z, ez, q⟩ => ⟨I1.kIn, ?_⟩) he rfl
  subst ez
  obtain ⟨y, rfl, ry⟩ := vals1 r
  refine wpAny_call (codeAny_mono (F.run X.A X.stack s1 H1 ⟨[y], []⟩ [y, u] [z, v] Q hr hgd I1.env0 (hb s1 y I1.kIn) (.cons ry (.cons hv .nil)) q) fun r2 s' hq => ?_)
  cases r2 with
  | error e => exact hq.elim
  | ok fl =>
    cases fl with
    | ret u => exact I1.after hq
    | next => exact hq.elim
    | brk => exact hq.elim
    | cont => exact hq.elim
theorem pe_callGK {t : TA} (F : FnG X.prog X.w X.kw X.mg X.base k f fd ps sp) (hr : Room k X.A) (hgd : X.A.guards = some []) (hg : Gl X x) (hm : X.mg x = some (.ref f)) (hk : PySem.W.keepIn X.kw (.ref f) = true)
    (hb : ∀ (s : Shared) (y w : Value), X.K.In s.heap → BindsTo s fd ⟨[y], [(kn, w)]⟩ (ps.zip [y, w])) (ha : PA X [a] t) (hkw : PE X b tb) (hdb : (x == ("__debug__" : Str)) = false)
    (he : starEach [a] X.env = (false, eval a X.env) :: starEach [] X.env) : PE X (.Call (.Name x p) [a] [⟨some kn, b, kpos⟩] pos) (fun σ H Q => t σ H fun vs H1 => ∃ z, vs = [z] ∧ tCons tb tNil σ H1 fun ws H2 => ∃ w, ws = [w] ∧ sp [z, w] H2 Q E0) := by
  refine ⟨fun pins s σ H Q I h => ?_⟩
  refine wpAny_Call_Name_kw (ld_glob I hg hm ?_ hdb)
  refine PySem.W.callWith_KW (h₀ := X.base) I.ok.mod.kin hk rfl (thn (ha.run pos pins s σ H _ I h) fun us s1 ⟨vs, H1, I1, r, z, ez, q⟩ => ?_) (by rw [he]; rfl) he
  subst ez
  obtain ⟨y, rfl, ry⟩ := vals1 r
  refine thn ((pk_cons (nm := some kn) (kpos := kpos) hkw pk_nil).run pos pins s1 σ H1 _ I1 q) fun ws s2 ⟨zs, H2, I2, rz, w, ew, q2⟩ => ⟨I2.kIn, ?_⟩
  subst ew
  obtain ⟨w', rfl, rw'⟩ := vals1 rz
  refine wpAny_call (codeAny_mono (F.run X.A X.stack s2 H2 ⟨[y], [(kn, w')]⟩ [y, w'] [z, w] Q hr hgd I2.env0 (hb s2 y w' I2.kIn) (.cons ry (.cons rw' .nil)) q2) fun r2 s' hq => ?_)
  cases r2 with
  | error e => exact hq.elim
  | ok fl =>
    cases fl with
    | ret u => exact I2.after hq
    | next => exact hq.elim
    | brk => exact hq.elim
    | cont => exact hq.elim
end
/-! ### l[i] = x -/
def gPutL : MO → PyData → PyData → Option MO
  | .l ds, .int i, d => (ixN ds.length i).map fun j => .l (ds.set j d)
  | _, _, _ => none
section
variable {K : KW} {σc : L2.St} {H : Hp} {D : Ends}
theorem sPutL_tr {ex ek ee : Ev Val} (h : tSS K (sPut gPutL ex ek ee) D σc H) : tAsg (tS K ee) (L2.gSub (tS K ex) (tS K ek) rSetL) D σc H := by
  obtain ⟨F, β, σ, h, hs, sr, o, e, q⟩ := h
  rcases qa : ee σ h with _ | ⟨v, h1⟩ <;> simp only [sPut, qa] at e
  · cases e
  refine ⟨F, β, σ, h, hs, sr, v, h1, qa, fun F1 β1 H1 w hs1 x1 r1 => ?_⟩
  rcases qb : ex σ h1 with _ | ⟨y, h2⟩
  · rw [qb] at e; cases e
  rw [qb] at e
  refine ⟨F1, β1, σ, h1, hs1, sr.ext x1, y, h2, qb, fun F2 β2 H2 w2 hs2 x2 r2 => ?_⟩
  have x12 := x1.seq hs1 x2
  cases y with
  | t d => cases e
  | tp d => cases e
  | r n =>
    simp only at e
    rcases qc : ek σ h2 with _ | ⟨kv, h3⟩ <;> simp only [qc] at e
    · cases e
    refine ⟨F2, β2, σ, h2, hs2, sr.ext x12, kv, h3, qc, fun F3 β3 H3 w3 hs3 x3 r3 => ?_⟩
    have x13 := x12.seq hs2 x3
    rcases qd : rd h3 kv with _ | kd <;> simp only [qd] at e
    · cases e
    rcases qf : fz h3 v with _ | ⟨d, h4⟩ <;> simp only [qf] at e
    · cases e
    rcases qn : h4[n]? with _ | ob <;> simp only [qn] at e
    · cases e
    rcases qg : gPutL ob kd d with _ | ob' <;> simp only [qg] at e
    · cases e
    cases e
    obtain ⟨F4, hs4, x4, r4⟩ := fz_ok hs3 (r1.ext (x2.seq hs2 x3)) qf
    obtain ⟨a, ha, rfl⟩ := (r2.ext x3 : RV K F3 β3 H3 w2 (.r n))
    cases ob with
    | d es => cases qg
    | f ds => cases qg
    | e ds => cases qg
    | l ds =>
      cases kd with
      | int i =>
        obtain ⟨j, hj, e⟩ := Option.map_eq_some_iff.mp (show (ixN ds.length i).map (fun j => MO.l (ds.set j d)) = some ob' from qg)
        subst e
        have ek := RB.of_rd hs3 r3 qd
        cases ek.int
        obtain ⟨nf, vs, hkv, rr⟩ := hs4.obj n a _ ha qn
        have hl : vs.length = ds.length := rr.length
        obtain ⟨hs5, x5⟩ := hs4.write (o := .lst (vs.set j w)) (m := .l (ds.set j d)) ha nf hkv (fun _ z => nomatch z) (fun _ _ z => nomatch z) fun ex => ⟨nf, _, upd_same, (rr.set r4 j).ex ex⟩
        have x15 := (x13.seq hs3 x4).seq hs4 x5
        exact ⟨a, vs, i, j, rfl, rfl, hkv, by rw [hl]; exact hj, q F4 β3 σc _ hs5 (sr.ext x15) x15⟩
      | _ => cases qg
theorem pe_setL {X : Cx} {o e : Expr} {n : Int} {kk} {q : Pos} {eo ei ee : Ev Val} {p pos : Pos} (ho : PE X o (tS X.kw eo)) (hi : PE X (.Constant (.int n) kk q) (tS X.kw ei)) (he : PE X e (tS X.kw ee)) (h1 : swapsWith e (some (.Subscript o (.Constant (.int n) kk q) p)) pos.line X.env = pure false) :
    PS X (.Assign [.Subscript o (.Constant (.int n) kk q) p] e pos) (tSS X.kw (sPut gPutL eo ei ee)) := ps_mono (ps_asg he (pg_sub ho hi set_list) h1 (by cases e <;> rfl)) fun _ _ _ _ _ _ h => sPutL_tr h
end
section
variable {K : KW} {σc : L2.St} {H : Hp} {QA : List V → Hp → Prop}
theorem two_tr {ea eb : Ev Val} (h : tSA K (aCons ea (aCons eb aNil)) σc H QA) : tSA K (aCons ea aNil) σc H fun vs H1 => ∃ z, vs = [z] ∧ tCons (tS K eb) tNil σc H1 fun ws H2 => ∃ w, ws = [w] ∧ QA [z, w] H2 := by
  obtain ⟨F, β, σ, h, hs, sr, x, h', e, q⟩ := h
  rcases qa : ea σ h with _ | ⟨y, h1⟩ <;> simp only [aCons, qa] at e
  · cases e
  rcases qb : eb σ h1 with _ | ⟨z, h2⟩ <;> simp only [qb] at e
  · cases e
  cases e
  refine ⟨F, β, σ, h, hs, sr, [y], h1, by simp only [aCons, qa, aNil], fun F1 β1 H1 vs hs1 x1 r1 => ?_⟩
  cases r1 with
  | cons r1 r2 =>
    cases r2
    refine ⟨_, rfl, ?_⟩
    exact ⟨F1, β1, σ, h1, hs1, sr.ext x1, z, _, qb, fun F2 β2 H2 u hs2 x2 r2 => ⟨u, rfl, q F2 β2 H2 _ hs2 (x1.seq hs1 x2) (.cons (r1.ext x2) (.cons r2 .nil))⟩⟩
theorem dfl_tr {ea : Ev Val} {d : PyData} {v : V} (hv : ∀ F H, Rep K F H v d) (h : tSA K (aCons ea (aCons (eC d) aNil)) σc H QA) : tSA K (aCons ea aNil) σc H fun vs H1 => ∃ z, vs = [z] ∧ QA [z, v] H1 := by
  obtain ⟨F, β, σ, h, hs, sr, x, h', e, q⟩ := h
  rcases qa : ea σ h with _ | ⟨y, h1⟩ <;> simp only [aCons, qa] at e
  · cases e
  simp only [eC, aNil] at e
  cases e
  refine ⟨F, β, σ, h, hs, sr, [y], h', by simp only [aCons, qa, aNil], fun F1 β1 H1 vs hs1 x1 r1 => ?_⟩
  cases r1 with
  | cons r1 r2 =>
    cases r2
    exact ⟨_, rfl, q F1 β1 H1 _ hs1 x1 (.cons r1 (.cons (hv F1 H1) .nil))⟩
end
end DE
end
section
set_option Elab.async false
set_option linter.all false
set_option maxRecDepth 100000
set_option maxHeartbeats 2000000
/-! len({x for ..}), x a text or a number -/
namespace DE
open PySem PySem.Spec PyProof.Rows L2
section
variable {X : Cx}
theorem freshK (P : Program) (w : World) {h : Heap} : (h.push { cls := .type "set", dict := none, data := .set #[] 0 (.fresh 0 0 (!w.params.followText "set-order")) }).SetOf (mixKind P w) h.objs.size (fun _ => false) 0 :=
  ⟨_, #[], 0, _, Heap.get?_push_size _ rfl, ⟨rfl, rfl, rfl⟩, rfl, (fun e he => by simp at he), (fun k => by simp), (by decide), (by rfl), rfl⟩
theorem addK_ok {pins : List (Addr × Obj)} {σ : L2.St} {H : Hp} {s : Shared} {E : Value → Shared → Prop} {D : Addr} {S : Key → Bool} {n : Nat} {k : Key} {u : Value} {Q : Value → Shared → Prop} (I : Inv X pins σ H s) (ru : RelV (kV k) u) (hD : H D = some (SetK X.prog X.w D S n)) (room : n + 1 < scanBound)
    (q : ∀ s', Inv X pins σ (upd H D (SetK X.prog X.w D (fun j => S j || decide (j = k)) (if S k = true then n else n + 1))) s' → Q .none s') : wpAny (model X.prog X.w) X.A (call (.builtin "set.add") [.ref D, u]) Q E s := by
  refine call_set_add (kV_is ru) (key_scan ru) (setK_get I hD) room fun h' sb new => ?_
  have he : ∃ u, h'.get? D = some u := by
    have ⟨o, _, _, _, ho, _⟩ := new
    exact ⟨o, ho⟩
  exact q _ (I.write (e := D) (t' := s.toks + 1) (by rw [hD]; trivial) (.inl rfl) (fun b u hb hu => (sb.2 b hb).trans hu) he (setK_new new))
/-- {elt for target in iter if ..}, elt a key: D the new set -/
def tScK (P : Program) (w : World) (wi : TI) (g : TG) (tt : TT) (te : TE) (vs : List Nat) : TE := fun σ H Q => wi σ H fun J H1 => ∀ D, H1 D = none → ∃ W : Nat → Nat → Hp → Prop, (∃ m, W 0 m (upd H1 D (SetK P w D (fun _ => false) 0))) ∧ ∀ i m H, W i m H →
  (J.stop i H ∧ Q (.ref D) H) ∨ (J.go i H ∧ ∃ Nx : Hp → Prop, (∀ H', Nx H' → ∃ m', m' < m ∧ W (i + 1) m' H') ∧ ∀ x H', J.yld i H x H' → g x (wipe σ vs) H' fun σ2 H2 => wipe σ2 vs = wipe σ vs ∧ tt σ2 H2 fun b H3 =>
    if b = true then te σ2 H3 fun y H4 => ∃ (c : Key) (S : Key → Bool) (n : Nat), y = kV c ∧ H4 D = some (SetK P w D S n) ∧ n + 1 < scanBound ∧ Nx (upd H4 D (SetK P w D (fun j => S j || decide (j = c)) (if S c = true then n else n + 1))) else Nx H3)
theorem scK_core {pins : List (Addr × Obj)} {s : Shared} {σ : L2.St} {H : Hp} {Q : VK} {elt tg iter : Expr} {ifs : List Expr} {scope : Scope} {own : List (PySem.Str × Nat)} {pos pos' : Pos} {wi : TI} {g : TG} {tt : TT} {te : TE} {use : Option (Value → Sem Unit)} {Qf : Value → Shared → Prop}
    (hc : X.calm = true) (hN : X.N.Nodup) (I : Inv X pins σ H s) (hi : PI X tg iter wi) (ok : BlkOk X.N X.env.scope scope own)
    (hg : ∀ (s : Shared) (H : Hp) (C : Addr) (cl : List (PySem.Str × Addr)) (fp : List Addr), PG (X.blk s H scope (compEnvC scope cl C X.env) fp) tg g) (ht : ∀ (s : Shared) (H : Hp) (C : Addr) (cl : List (PySem.Str × Addr)) (fp : List Addr), PTs (X.blk s H scope (compEnvC scope cl C X.env) fp) ifs tt)
    (he : ∀ (s : Shared) (H : Hp) (C : Addr) (cl : List (PySem.Str × Addr)) (fp : List Addr), PE (X.blk s H scope (compEnvC scope cl C X.env) fp) elt te) (hs : ∀ x, foldedSetIterable iter X.env x = pure x)
    (h : tScK X.prog X.w wi g tt te (own.map (·.2)) σ H Q)
    (hRR : ∀ D C s' m H', Inv X pins σ H' s' → Q (.ref D) H' → s'.heap.Ns C m → FpOk X pins H' C → compPost (model X.prog X.w) X.A X.xe use Qf (.ref D) C (.ok .next) s') :
    wpAny (model X.prog X.w) X.A (comprehension (.SetComp elt [⟨tg, iter, ifs, 0⟩] scope pos) scope X.env pos' (PySem.newSet (.type "set")) false (eval iter X.env) use) Qf X.xe s := by
  have hfree : ∀ y ∈ scope.names, y.2 = .free → ∃ c, X.env.cells.lookup y.1 = some c := fun y hy e => by
    rcases ok.free y hy e with k | k
    · exact I.ok.has _ (.inl k)
    · exact I.ok.has _ (.inr k)
  refine wpAny_comprehension_free (use := use) rfl hs (closure_ok hfree) ok.kind (fun y hy e => by rw [ok.uniq y hy, e])
    (thn (hi.run pins s σ H _ I h) fun xv s1 hx => thn hx fun itv s2 h2 => ?_)
  obtain ⟨it, fp, tn, J, H2, e, I2, T, st2, f2, q⟩ := h2
  subst e
  refine PpSet.newSet_ok (newEnv_comp ?_)
  generalize hD : s2.heap.objs.size = D
  have hDn : H2 D = none := I2.hok.fresh (Nat.le_of_eq hD)
  obtain ⟨W, ⟨m0, w0⟩, turn⟩ := q D hDn
  -- the new list
  generalize hs3 : ({ s2 with heap := s2.heap.push { cls := .type "set", dict := none, data := .set #[] 0 (.fresh 0 0 (!X.w.params.followText "set-order")) } } : Shared) = s3
  have I3 : Inv X pins σ (upd H2 D (SetK X.prog X.w D (fun _ => false) 0)) s3 := by
    rw [← hs3]
    refine I2.laid (t' := s2.toks) (fun b o e => Heap.get?_push_of_some _ e) (Nat.le_of_eq hD) ?_
    rw [← hD]
    exact setK_new (freshK X.prog X.w)
  have h3 : s3.heap = s2.heap.push { cls := .type "set", dict := none, data := .set #[] 0 (.fresh 0 0 (!X.w.params.followText "set-order")) } := by rw [← hs3]
  have sz : ∀ b ∈ fp, b < s2.heap.objs.size := fun b hb => by
    obtain ⟨o, e, _⟩ := T.obj _ _ st2 b hb
    exact Heap.lt_size e
  have f3 : ∀ b ∈ fp, FpOk X pins (upd H2 D (SetK X.prog X.w D (fun _ => false) 0)) b ∧ b < s3.heap.objs.size := fun b hb => by
    have hlt := sz b hb
    refine ⟨⟨?_, (f2 b hb).2⟩, by rw [h3, Heap.size_push]; exact Nat.lt_succ_of_lt hlt⟩
    rw [upd_ne (by rw [← hD]; exact Nat.ne_of_lt hlt)]
    exact (f2 b hb).1
  have st3 : tn 0 s3.heap := T.keep _ _ _ st2 fun b _ o e => by rw [h3]; exact Heap.get?_push_of_some _ e
  have I4 := block_start I3 ok hN f3
  have pg := hg s3 (upd H2 D (SetK X.prog X.w D (fun _ => false) 0)) s3.heap.objs.size (cellsFrom (s3.heap.objs.size + 1) scope.names (cloFrom X.env.cells scope.names [])) fp
  have pt := ht s3 (upd H2 D (SetK X.prog X.w D (fun _ => false) 0)) s3.heap.objs.size (cellsFrom (s3.heap.objs.size + 1) scope.names (cloFrom X.env.cells scope.names [])) fp
  have pe := he s3 (upd H2 D (SetK X.prog X.w D (fun _ => false) 0)) s3.heap.objs.size (cellsFrom (s3.heap.objs.size + 1) scope.names (cloFrom X.env.cells scope.names [])) fp
  show codeAny _ _ (.compStart (.SetComp elt [⟨tg, iter, ifs, 0⟩] scope pos) 0 (.ref it) (.ref D) (compEnvC scope (cellsFrom (s3.heap.objs.size + 1) scope.names (cloFrom X.env.cells scope.names [])) s3.heap.objs.size X.env)) (compPost (model X.prog X.w) X.A X.xe use Qf (.ref D) s3.heap.objs.size) { s3 with heap := pushCells (s3.heap.push { cls := .type "dict", data := .dict #[] }) scope.names }
  have nfp : ∀ b ∈ fp, (upd H2 D (SetK X.prog X.w D (fun _ => false) 0)) b = none := fun b hb => (f3 b hb).1.1
  generalize hce : compEnvC scope (cellsFrom (s3.heap.objs.size + 1) scope.names (cloFrom X.env.cells scope.names [])) s3.heap.objs.size X.env = ce at I4 pg pt pe ⊢
  have cL : ce.locals = s3.heap.objs.size := by subst hce; rfl
  generalize hH3 : upd H2 D (SetK X.prog X.w D (fun _ => false) 0) = H3 at I3 I4 pg pt pe w0 nfp f3
  generalize hs4 : ({ s3 with heap := pushCells (s3.heap.push { cls := .type "dict", data := .dict #[] }) scope.names } : Shared) = s4 at I4 ⊢
  have st4 : tn 0 s4.heap := T.keep _ _ _ st3 fun b _ o e => by rw [← hs4]; exact pushCells_keeps _ _ _ _ (Heap.get?_push_of_some _ e)
  have stat : ∀ {σ' : L2.St} {H' : Hp} {s' : Shared}, Inv (X.blk s3 H3 scope ce fp) [] σ' H' s' → (∀ b ∈ fp, H' b = none) → ∀ b ∈ fp, FpOk (X.blk s3 H3 scope ce fp) [] H' b := fun {σ' H' s'} I' hn b hb =>
    ⟨hn b hb, (I'.ok.exf b hb).1, I'.ok.exfs b hb, .inl hb, fun x c e => (I'.ok.exf b hb).2 x c e, fun p hp => absurd (show p ∈ ([] : List (Addr × Obj)) ++ [] from hp) (by simp)⟩
  have loop : codeAny (model X.prog X.w) X.A (.compLoop (.SetComp elt [⟨tg, iter, ifs, 0⟩] scope pos) 0 (.ref it) (.ref D) ce) (compPost (model X.prog X.w) X.A X.xe use Qf (.ref D) s3.heap.objs.size) s4 := by
    refine PpSet.compLoopS_any (fun n s' => ∃ i H', Inv (X.blk s3 H3 scope ce fp) [] (wipe σ (own.map (·.2))) H' s' ∧ tn i s'.heap ∧ (∀ b ∈ fp, H' b = none) ∧ W i n H') ?_ m0 ⟨0, H3, I4, st4, nfp, w0⟩
    rintro n s5 ⟨i, H5, I5, st5, n5, w5⟩
    rcases turn i n H5 w5 with ⟨stop, qq⟩ | ⟨go, Nx, hNx, step⟩
    · have td := T.done (X.blk s3 H3 scope ce fp) rfl rfl rfl hc i [] s5 _ H5 (fun _ _ => False) I5 (stat I5 n5) st5 stop
      refine thnF td fun r s6 ⟨hr, I6⟩ => ?_
      subst hr
      -- back in the def's context
      have I7 : Inv X pins σ H5 s6 := I3.call' (ch := fp) I6.os I6.base I6.hok I6.bare fun b hb => ⟨(f3 b hb).1.2.2.2.1, (f3 b hb).1.2.1, (f3 b hb).1.2.2.2.2.1, (f3 b hb).1.2.2.2.2.2⟩
      have nC : H5 s3.heap.objs.size = none := by
        have z : H5 ce.locals = none := I6.free
        rw [cL] at z
        exact z
      obtain ⟨m, hn, _⟩ := I6.loc
      have hn : s6.heap.Ns ce.locals m := hn
      rw [cL] at hn
      exact hRR D s3.heap.objs.size s6 m H5 I7 qq hn (I3.fpOk (Nat.le_refl _) nC)
    · have ti := T.item (X.blk s3 H3 scope ce fp) rfl rfl rfl hc i [] s5 _ H5 (fun _ _ => False) I5 (stat I5 n5) st5 go
      refine thnF ti fun r s6 ⟨u, hr, h6⟩ => ?_
      subst hr
      refine thnF h6 fun _ s7 ⟨x, H7, I7, r7, y7, st7, n7⟩ => ?_
      have I7' := I7.pinned (stat I7 n7) (T.obj _ _ st7)
      refine thnF (pg.run _ s7 _ H7 x u _ I7' r7 (step x H7 y7)) fun _ s8 ⟨σ8, H8, I8, hw8, q8⟩ => ?_
      refine thnF (pt.run _ s8 σ8 H8 _ I8 q8) fun b s9 ⟨H9, I9, q9⟩ => ?_
      -- the turn's end
      have fin : ∀ {s' : Shared} {H' : Hp}, Inv (X.blk s3 H3 scope ce fp) ([] ++ pinsAt fp s7.heap) σ8 H' s' → Nx H' → ∃ m, m < n ∧ ∃ i H', Inv (X.blk s3 H3 scope ce fp) [] (wipe σ (own.map (·.2))) H' s' ∧ tn i s'.heap ∧ (∀ b ∈ fp, H' b = none) ∧ W i m H' := fun {s' H'} I' nx => by
        obtain ⟨m', hm, w'⟩ := hNx H' nx
        have pin' : ∀ b ∈ fp, ∀ o, s7.heap.get? b = some o → s'.heap.get? b = some o ∧ H' b = none := fun b hb o e =>
          let z := I'.pin (b, o) (List.mem_append_right _ (List.mem_append_right _ (mem_pinsAt hb e)))
          ⟨z.1, z.2.1⟩
        have hl : (wipe σ (own.map (·.2))).length = σ8.length := by rw [← hw8, wipe_length]
        refine ⟨m', hm, i + 1, H', (I'.unpinned (pins := [])).weak hl (fun j v e => ?_), T.keep _ _ _ st7 fun b hb o e => (pin' b hb o e).1, fun b hb => ?_, w'⟩
        · rw [← hw8] at e
          exact (wipe_some e).1
        · obtain ⟨o, e, _⟩ := T.obj _ _ st7 b hb
          exact (pin' b hb o e).2
      cases b with
      | false =>
        simp only [Bool.false_eq_true, if_false] at q9 ⊢
        exact fin I9 q9
      | true =>
        simp only [if_true] at q9 ⊢
        refine thnF (pe.run _ s9 σ8 H9 _ I9 q9) fun z s10 ⟨yv, H10, I10, r10, kk, S0, n0, ey, hD10, hz10, nx⟩ => ?_
        subst ey
        exact addK_ok (X := X.blk s3 H3 scope ce fp) I10 r10 hD10 hz10 fun s11 I11 => fin I11 nx
  exact PpSet.codeAny_compStart_set loop (T.self X.A 0 _ _ _ st4 loop)
/-- len of it -/
def tLenK (P : Program) (w : World) (t : TE) : TE := fun σ H Q => t σ H fun x H1 => ∃ a S n, x = .ref a ∧ H1 a = some (SetK P w a S n) ∧ n < scanBound ∧ Q (.int n) H1
theorem pe_lenK {elt tg iter : Expr} {ifs : List Expr} {scope : Scope} {own : List (PySem.Str × Nat)} {pos p cpos : Pos} {wi : TI} {g : TG} {tt : TT} {te : TE} (hgl : Gl X "len") (hml : X.mg "len" = none) (hc : X.calm = true) (hN : X.N.Nodup) (hi : PI X tg iter wi) (ok : BlkOk X.N X.env.scope scope own)
    (hg : ∀ (s : Shared) (H : Hp) (C : Addr) (cl : List (PySem.Str × Addr)) (fp : List Addr), PG (X.blk s H scope (compEnvC scope cl C X.env) fp) tg g) (ht : ∀ (s : Shared) (H : Hp) (C : Addr) (cl : List (PySem.Str × Addr)) (fp : List Addr), PTs (X.blk s H scope (compEnvC scope cl C X.env) fp) ifs tt)
    (he : ∀ (s : Shared) (H : Hp) (C : Addr) (cl : List (PySem.Str × Addr)) (fp : List Addr), PE (X.blk s H scope (compEnvC scope cl C X.env) fp) elt te) (hs : ∀ x, foldedSetIterable iter X.env x = pure x) :
    PE X (.Call (.Name "len" p) [.SetComp elt [⟨tg, iter, ifs, 0⟩] scope pos] [] cpos) (tLenK X.prog X.w (tScK X.prog X.w wi g tt te (own.map (·.2)))) := by
  have hsc : PE X (.SetComp elt [⟨tg, iter, ifs, 0⟩] scope pos) (tScK X.prog X.w wi g tt te (own.map (·.2))) := by
    refine ⟨fun pins s σ H Q I h => ?_⟩
    rw [PpSet.eval_SetComp]
    refine scK_core (use := none) hc hN I hi ok hg ht he hs h fun D C s' m H' I' q hn f => ⟨m, hn, fun h'' sb => ?_⟩
    obtain ⟨f0, f1, f2, f3, f4, f5⟩ := f
    exact ⟨.ref D, H', I'.turned (t' := s'.toks) (fun b o hb e => (sb.2 b hb).trans e) f0 f1 f3 f4 f5, rfl, q⟩
  refine ⟨fun pins s σ H Q I h => ?_⟩
  refine Call_ (ld_blt I hgl hml boot_len ?_)
  refine PyProof.Rows.callWith_builtin1 (PyProof.Rows.args_cons (thn (hsc.run pins s σ H _ I h) fun v s1 ⟨x, H1, I1, r1, q1⟩ => PyProof.Rows.args_nil ?_) rfl) rfl rfl
  obtain ⟨a, S, n, rfl, ha, hb, q⟩ := q1
  cases r1
  obtain ⟨o, es, ep, t, ho, hex, hd, _, _, _, hf, hn⟩ := setK_get I1 ha
  have h1 : scanBound < 2 ^ 62 := by decide
  have h2 : (es.size : Int) < 2 ^ 63 := by rw [hn]; omega
  exact call_len_set ho hex hd hf h2 ⟨.int n, H1, I1.tok _, ⟨_, by rw [hn]⟩, q⟩
end
/-! ### the evaluator's word -/
def inK (k : Key) (acc : List Key) : Bool := acc.any fun j => decide (j = k)
def scGo (bind : PyData → Sg → Option Sg) (σ : Sg) (tst : Ev Bool) (kx : Ev Val) : List PyData → List Key → MH → Option (List Key × MH)
  | [], acc, h => some (acc, h)
  | d :: ds, acc, h => match bind d σ with
    | none => none
    | some σ2 => match tst σ2 h with
      | none => none
      | some (false, h1) => scGo bind σ tst kx ds acc h1
      | some (true, h1) => match kx σ2 h1 with
        | some (.t kd, h2) => (match keyD kd with
          | none => none
          | some k => scGo bind σ tst kx ds (if inK k acc = true then acc else k :: acc) h2)
        | _ => none
def eSetLen (it : Ev (List PyData)) (bind : PyData → Sg → Option Sg) (own : List Nat) (tst : Ev Bool) (kx : Ev Val) : Ev Val := fun σ h => match it σ h with
  | none => none
  | some (ds, h1) => if ds.length < 1000 then (match scGo bind (wipeS σ own) tst kx ds [] h1 with
    | none => none
    | some (acc, h2) => some (.t (.int acc.length), h2)) else none
section
variable {K : KW} {P : Program} {w0 : World} {σc : L2.St} {H : Hp} {Q : VK}
theorem eSetLen_tr {it : Ev (List PyData)} {bind : PyData → Sg → Option Sg} {own : List Nat} {tst : Ev Bool} {kx : Ev Val} {g : TG} {w : Bool} (hg : GOk K w own g bind) (h : tS K (eSetLen it bind own tst kx) σc H Q) :
    tLenK P w0 (tScK P w0 (tSI K w it) g (tST K tst) (tS K kx) own) σc H Q := by
  obtain ⟨F, β, σ, h, hs, sr, x, hE, e, q⟩ := h
  rcases qa : it σ h with _ | ⟨ds, h1⟩ <;> simp only [eSetLen, qa] at e
  · cases e
  split at e
  rotate_left
  · cases e
  rename_i hlen
  rcases qc : scGo bind (wipeS σ own) tst kx ds [] h1 with _ | ⟨out, h2⟩ <;> simp only [qc] at e
  · cases e
  cases e
  have hsb : 2000 < scanBound := by decide
  refine ⟨F, β, σ, h, hs, sr, ds, h1, qa, fun F1 β1 H1 J hs1 x1 ok => fun p hp => ?_⟩
  have nf1 := hs1.nfix hp
  refine ⟨fun i n H' => n = ds.length - i ∧ i ≤ ds.length ∧ ∃ F' β' h' acc S, scGo bind (wipeS σ own) tst kx (ds.drop i) acc h' = some (out, hE) ∧ HS K F' β' H' h' ∧ Ext F1 β1 H1 F' β' H' ∧
      H' p = some (SetK P w0 p S acc.length) ∧ (∀ j, S j = inK j acc) ∧ ¬ F' p ∧ p ∉ β' ∧ acc.length ≤ i,
    ⟨ds.length, by simp, Nat.zero_le _, F1, β1, h1, [], fun _ => false, qc, hs1.new hp, hs1.ext_new hp, upd_same, fun _ => rfl, nf1, hs1.nmem hp, Nat.le_refl _⟩, ?_⟩
  rintro i n H' ⟨rfl, hi, F', β', h', acc, S, eg, hs', x', hpv, racc, nf, nb, hal⟩
  by_cases hlt : i < ds.length
  · have hd : ds[i]? = some ds[i] := List.getElem?_eq_getElem hlt
    rw [List.drop_eq_getElem_cons hlt] at eg
    refine .inr ⟨ok.go F' H' x'.ex i _ hd, fun H2 => ∃ F2 β2 h3 acc S, scGo bind (wipeS σ own) tst kx (ds.drop (i + 1)) acc h3 = some (out, hE) ∧ HS K F2 β2 H2 h3 ∧ Ext F1 β1 H1 F2 β2 H2 ∧
      H2 p = some (SetK P w0 p S acc.length) ∧ (∀ j, S j = inK j acc) ∧ ¬ F2 p ∧ p ∉ β2 ∧ acc.length ≤ i + 1, fun H2 z => ⟨ds.length - (i + 1), by omega, rfl, hlt, z⟩, fun x H3 hy => ?_⟩
    rcases qb : bind ds[i] (wipeS σ own) with _ | s2 <;> simp only [scGo, qb] at eg
    · cases eg
    obtain ⟨hs3, x3, hpv3, rx, np3⟩ : HS K F' β' H3 h' ∧ Ext F' β' H' F' β' H3 ∧ H3 p = some (SetK P w0 p S acc.length) ∧ IR K w F' H3 x ds[i] ∧ True := by
      rcases ok.yld F' H' x'.ex i _ hd x H3 hy with ⟨rfl, r⟩ | ⟨hw, b, ws, es, hb, rfl, rfl, ed, r⟩
      · exact ⟨hs', .refl, hpv, .inl r, trivial⟩
      · refine ⟨hs'.new hb, hs'.ext_new hb, by rw [upd_ne (ne_of_none hpv hb)]; exact hpv, ?_, trivial⟩
        exact .inr ⟨hw, b, ws, es, rfl, ed, .inl (.inl upd_same), Reps.ex (hs'.ext_new hb).ex r⟩
    have x13 := x'.seq hs' x3
    have srw : SR K F' β' H3 (L2.wipe σc own) (wipeS σ own) := ((sr.ext (x1.seq hs1 x13)).wipe own)
    refine hg hs3 srw rx qb fun σ4 sr4 hl4 hk4 => ⟨?_, ?_⟩
    · have z : L2.wipe σ4 own = L2.wipe (L2.wipe σc own) own := wipe_ext own hl4 hk4
      rw [z]
      exact wipe_ext own (wipe_length _ _) fun j hj => by rw [wipe_get, if_neg fun z => hj z.1]
    · rcases qt : tst s2 h' with _ | ⟨b, h4⟩ <;> simp only [qt] at eg
      · cases eg
      refine ⟨F', β', s2, h', hs3, sr4, b, h4, qt, fun F5 β5 H5 hs5 x5 => ?_⟩
      have stay : ∀ {Fa : Fz} {βa : List Addr} {Ha : Hp} {Fb : Fz} {βb : List Addr} {Hb : Hp} {u : HO}, Ext Fa βa Ha Fb βb Hb → Ha p = some u → ¬ Fa p → p ∉ βa → Hb p = some u ∧ ¬ Fb p ∧ p ∉ βb := by
        intro Fa βa Ha Fb βb Hb u xx ha hf hb
        refine ⟨xx.frame p _ ha hf hb, fun z => ?_, fun z => ?_⟩
        · rcases xx.fnew p z with z | z | z
          · exact hf z
          · rw [ha] at z; cases z
          · exact hb z
        · rcases xx.bmem z with z | z
          · exact hb z
          · rw [ha] at z; cases z
      obtain ⟨hp5, nf5, nb5⟩ := stay x5 hpv3 nf nb
      cases b with
      | false => exact ⟨F5, β5, h4, acc, S, eg, hs5, x13.seq hs3 x5, hp5, racc, nf5, nb5, by omega⟩
      | true =>
        simp only at eg
        rcases qk : kx s2 h4 with _ | ⟨kv, h6⟩
        · rw [qk] at eg; cases eg
        rw [qk] at eg
        cases kv with
        | r n => cases eg
        | tp n => cases eg
        | t kd =>
          simp only at eg
          rcases qy : keyD kd with _ | key <;> simp only [qy] at eg
          · cases eg
          refine ⟨F5, β5, s2, h4, hs5, sr4.ext x5, .t kd, h6, qk, fun F7 β7 H7 v hs7 x7 r7 => ?_⟩
          obtain ⟨rfl, rkey⟩ := keyD_of (.rep r7) qy
          obtain ⟨hp7, nf7, nb7⟩ := stay x7 hp5 nf5 nb5
          refine ⟨key, S, acc.length, rfl, hp7, by omega, ?_⟩
          obtain ⟨exa, hsa⟩ := hs7.aside (o' := SetK P w0 p (fun j => S j || decide (j = key)) (if S key = true then acc.length else acc.length + 1)) nf7 nb7 hp7 (fun _ z => nomatch (show HO.ext _ = _ from z)) (fun _ _ z => nomatch (show HO.ext _ = _ from z))
          have hacc : (if inK key acc = true then acc else key :: acc).length = (if S key = true then acc.length else acc.length + 1) := by
            rw [racc key]
            split <;> rfl
          refine ⟨F7, β7, h6, if inK key acc = true then acc else key :: acc, fun j => S j || decide (j = key), eg, hsa, Ext.later ((x13.seq hs3 x5).seq hs5 x7) hp nf1, ?_, ?_, nf7, nb7, ?_⟩
          · rw [hacc]
            exact upd_same
          · intro j
            simp only [racc j]
            by_cases hk : inK key acc = true
            · rw [if_pos hk]
              by_cases hj : j = key
              · subst hj; simp [hk]
              · simp [hj]
            · rw [if_neg hk]
              have e2 : inK j (key :: acc) = (decide (key = j) || inK j acc) := rfl
              rw [e2, Bool.or_comm]
              congr 1
              by_cases hj : j = key
              · subst hj; simp
              · have : ¬ key = j := fun z => hj z.symm
                simp [hj, this]
          · rw [hacc]
            split <;> omega
  · have ei : i = ds.length := by omega
    subst ei
    rw [List.drop_length] at eg
    cases eg
    refine .inl ⟨ok.stop F' H' x'.ex, p, S, out.length, rfl, hpv, by omega, ?_⟩
    have xe := x1.seq hs1 x'
    exact q F' β' H' _ hs' xe (.int _)
end
/-! ### range(a, b) -/
def upFrom (a : Int) (n : Nat) : List PyData := (List.range n).map fun i : Nat => .int (a + (i : Int))
def itR2 (a b : Ev Val) : Ev (List PyData) := fun σ h => match aCons a (aCons b aNil) σ h with
  | some ([x, y], h1) => (match asI x, asI y with
    | some i, some j => if -(2 ^ 62) ≤ i ∧ i < 2 ^ 62 ∧ -(2 ^ 62) ≤ j ∧ j < 2 ^ 62 then some (upFrom i (j - i).toNat, h1) else none
    | _, _ => none)
  | _ => none
section
variable {K : KW} {X : Cx} {tg : Expr} {σc : L2.St} {H : Hp} {w : Bool}
theorem ItOk.rng2 {F : Fz} {a : Int} {n : Nat} : ItOk K w F H (Itr a n) (upFrom a n) where
  go := fun F2 H2 e i d hd => by
    unfold upFrom at hd
    have := (List.getElem?_eq_some_iff.mp hd).1
    show i < n
    simpa using this
  yld := fun F2 H2 e i d hd v H3 hy => by
    obtain ⟨rfl, rfl⟩ := hy
    unfold upFrom at hd
    obtain ⟨hl, h2⟩ := List.getElem?_eq_some_iff.mp hd
    simp only [List.getElem_map, List.getElem_range] at h2
    subst h2
    exact .inl ⟨rfl, .int _⟩
  stop := fun F2 H2 e => by
    show n ≤ _
    unfold upFrom
    simp
theorem asI_ok {F : Fz} {β : List Addr} {H : Hp} {v : V} {y : Val} {j : Int} (r : RV K F β H v y) (h : asI y = some j) : v = .int j := by
  cases y with
  | t d => cases d <;> simp [asI] at h; subst h; cases r; rfl
  | r n => simp [asI] at h
  | tp vs => simp [asI] at h
theorem pi_R2 {a b : Expr} {p pos : Pos} {ea eb : Ev Val} (hg : Gl X "range") (hm : X.mg "range" = none) (ha : PA X [a, b] (tSA X.kw (aCons ea (aCons eb aNil)))) (hs : starEach [a, b] X.env = [(false, eval a X.env), (false, eval b X.env)]) (hs2 : starEach [b] X.env = [(false, eval b X.env)]) :
    PI X tg (.Call (.Name "range" p) [a, b] [] pos) (tSI X.kw w (itR2 ea eb)) := by
  refine pi_mono (pi_range2 hg hm ha hs hs2) fun pins s σc H R I h => ?_
  obtain ⟨F, β, σ, h, hs, sr, ds, h', e, q⟩ := h
  unfold itR2 at e
  rcases qa : aCons ea (aCons eb aNil) σ h with _ | ⟨ys, h1⟩
  · rw [qa] at e; cases e
  rw [qa] at e
  match ys, e with
  | [], e => cases e
  | [_], e => cases e
  | _ :: _ :: _ :: _, e => cases e
  | [x, y], e =>
    simp only at e
    rcases qi : asI x with _ | i <;> simp only [qi] at e
    · cases e
    rcases qj : asI y with _ | j <;> simp only [qj] at e
    · cases e
    split at e
    rotate_left
    · cases e
    rename_i hj
    cases e
    refine ⟨F, β, σ, h, hs, sr, [x, y], h', qa, fun F1 β1 H1 vs hs1 x1 r1 => ?_⟩
    cases r1 with
    | cons r1 r2 =>
      cases r2 with
      | cons r2 r3 =>
        cases r3
        rw [asI_ok r1 qi, asI_ok r2 qj]
        exact ⟨i, j, rfl, hj, q F1 β1 H1 _ hs1 x1 .rng2⟩
end
end DE
end
section
set_option Elab.async false
set_option linter.all false
set_option maxRecDepth 100000
set_option maxHeartbeats 1000000
/-! dicts whose keys are tuples: {}, d[k] = x, sorted(d) -/
namespace DE
open PySem PySem.Spec PyProof.Rows L2
section
variable {X : Cx} {pins : List (Addr × Obj)} {σ : L2.St} {F : Fz} {H : Hp} {s : Shared}
mutual
theorem nested_of (I : Inv X pins σ H s) : ∀ {v : V} {d : PyData} {u : Value} {k : NestedKey}, Rep X.kw F H v d → RelV v u → nk d = some k → NestedIs s.heap k u
  | _, _, _, _, .non, r, e => by cases r; simp only [nk] at e; cases e; exact .none
  | _, _, _, _, .bl b, r, e => by simp only [nk] at e; cases e
  | _, _, _, _, .int i, r, e => by obtain ⟨t, rfl⟩ := r; simp only [nk] at e; cases e; exact .int _ _
  | _, _, _, _, .str x, r, e => by obtain ⟨t, rfl⟩ := r; simp only [nk] at e; cases e; exact .text _ _
  | _, _, _, _, .tup h q, r, e => by
    cases r
    obtain ⟨its, rv, ⟨o, ho, hc, n, hd⟩, _⟩ := I.tuple h.sq
    simp only [nk] at e
    obtain ⟨ks, e1, rfl⟩ := Option.map_eq_some_iff.mp e
    exact .tup ho hc hd (by simpa using nesteds_of I q rv e1)
  | _, _, _, _, .lst h q, r, e => by simp only [nk] at e; cases e
  | _, _, _, _, .dct h1 h2 q1 q2, r, e => by simp only [nk] at e; cases e
theorem nesteds_of (I : Inv X pins σ H s) : ∀ {vs : List V} {ds : List PyData} {us : List Value} {ks : List NestedKey}, Reps X.kw F H vs ds → Vals vs us → nks ds = some ks → NestedAll s.heap ks us
  | _, _, _, _, .nil, r, e => by cases r; simp only [nks] at e; cases e; exact .nil
  | _, _, _, _, .cons (d := d) (ds := ds) a b, r, e => by
    cases r with
    | cons r1 r2 =>
      simp only [nks] at e
      cases h1 : nk d with
      | none => rw [h1] at e; cases e
      | some k =>
        cases h2 : nks ds with
        | none => rw [h1, h2] at e; cases e
        | some ks => rw [h1, h2] at e; cases e; exact .cons (nested_of I a r1 h1) (nesteds_of I b r2 h2)
end
theorem ed_ok {P : Program} {w : World} {H : Hp} {h : Heap} {a : Addr} {xs : List (NestedKey × Addr × V)} {o : Obj} {es : Array DictEntry} {ep : Nat} (h1 : (a == sysModules) = false) (hl : xs.length ≤ sizeLine) (nd : (xs.map (·.1)).Nodup)
    (e : h.get? a = some o) (hx : o.ExactDict) (hd : o.data = .dict es ep) (pr : Paired (fun (x : NestedKey × Addr × V) (e : DictEntry) => e.hash = x.1.hash w ∧ e.key = .ref x.2.1 ∧ RelV x.2.2 e.val) xs es.toList) : ObjOk P w H h a (EDk w a xs) :=
  ⟨⟨h1, hl, nd, o, es, ep, e, hx, hd, pr⟩, ⟨o, e⟩, fun _ _ ⟨z1, z2, z3, o, es, ep, e, hx, hd, pr⟩ k => ⟨z1, z2, z3, o, es, ep, k o e, hx, hd, pr⟩⟩
end
/-! ### {} -/
def eNewE : Ev Val := fun _ h => some (.r h.length, h ++ [.e []])
theorem pe_newE {X : Cx} {pos : Pos} : PE X (.Dict [] [] pos) (tS X.kw eNewE) := ⟨fun pins s σ H Q I h => by
  obtain ⟨F, β, σ', h, hs, sr, x, h', e, q⟩ := h
  cases e
  have hp : H s.heap.objs.size = none := I.hok.fresh (Nat.le_refl _)
  refine wpAny_Dict_empty ⟨.ref s.heap.objs.size, upd H s.heap.objs.size (EDk X.w s.heap.objs.size []), I.laid (t' := s.toks) (fun _ _ q => Heap.get?_push_of_some _ q) (Nat.le_refl _)
    (ed_ok (es := #[]) (ep := 0) (beq_eq_false_iff_ne.mpr (Ne.symm (Nat.ne_of_lt I.big))) (Nat.zero_le _) List.nodup_nil (Heap.get?_push_size _ rfl) ⟨rfl, rfl, rfl⟩ rfl .nil), rfl, ?_⟩
  exact q F (β ++ [s.heap.objs.size]) _ (.ref s.heap.objs.size) (hs.add hp ⟨hs.nfix hp, [], upd_same, ⟨.nil, .nil, rfl, by simp, by simp⟩⟩) (hs.ext_add hp) ⟨_, by simp [hs.len], rfl⟩⟩
/-! ### d[k] = x -/
def putE (es : List (PyData × PyData)) (k d : PyData) : List (PyData × PyData) :=
  if (es.any fun p => decide (nk p.1 = nk k)) = true then es.map (fun p => if nk p.1 = nk k then (p.1, d) else p) else es ++ [(k, d)]
def putX (xs : List (NestedKey × Addr × V)) (k : NestedKey) (b : Addr) (v : V) : List (NestedKey × Addr × V) :=
  if (xs.any fun p => decide (p.1 = k)) = true then xs.map (fun x => if x.1 = k then (x.1, x.2.1, v) else x) else xs ++ [(k, b, v)]
theorem putX_len {xs : List (NestedKey × Addr × V)} {k : NestedKey} {b : Addr} {v : V} : (putX xs k b v).length ≤ xs.length + 1 := by
  unfold putX
  split <;> simp
def PX : NestedKey × Addr × V → NestedKey × Addr × Value → Prop := fun x y => y.1 = x.1 ∧ y.2.1 = x.2.1 ∧ RelV x.2.2 y.2.2
theorem ed_split {w : World} : ∀ {xs : List (NestedKey × Addr × V)} {es : List DictEntry}, Paired (fun (x : NestedKey × Addr × V) (e : DictEntry) => e.hash = x.1.hash w ∧ e.key = .ref x.2.1 ∧ RelV x.2.2 e.val) xs es →
    ∃ ys : List (NestedKey × Addr × Value), Paired PX xs ys ∧ es = ys.map fun y => ⟨y.1.hash w, .ref y.2.1, y.2.2⟩
  | _, _, .nil => ⟨[], .nil, rfl⟩
  | x :: _, e :: _, .cons h t => by
    obtain ⟨ys, p, e2⟩ := ed_split t
    refine ⟨(x.1, x.2.1, e.val) :: ys, .cons ⟨rfl, rfl, h.2.2⟩ p, ?_⟩
    rw [List.map_cons, ← e2]
    obtain ⟨a, b, c⟩ := e
    obtain ⟨h1, h2, _⟩ := h
    simp only at h1 h2
    rw [h1, h2]
theorem ed_join {w : World} : ∀ {xs : List (NestedKey × Addr × V)} {ys : List (NestedKey × Addr × Value)}, Paired PX xs ys →
    Paired (fun (x : NestedKey × Addr × V) (e : DictEntry) => e.hash = x.1.hash w ∧ e.key = .ref x.2.1 ∧ RelV x.2.2 e.val) xs (ys.map fun y => ⟨y.1.hash w, .ref y.2.1, y.2.2⟩)
  | _, _, .nil => .nil
  | _, _, .cons h t => by
    rw [List.map_cons]
    exact .cons ⟨by rw [h.1], by rw [h.2.1], h.2.2⟩ (ed_join t)
theorem px_keys : ∀ {xs : List (NestedKey × Addr × V)} {ys : List (NestedKey × Addr × Value)}, Paired PX xs ys → ys.map (·.1) = xs.map (·.1)
  | _, _, .nil => rfl
  | _, _, .cons h t => by rw [List.map_cons, List.map_cons, px_keys t, h.1]
theorem px_any {k : NestedKey} : ∀ {xs : List (NestedKey × Addr × V)} {ys : List (NestedKey × Addr × Value)}, Paired PX xs ys → (xs.any fun p => decide (p.1 = k)) = (atKey ys k).isSome
  | _, _, .nil => rfl
  | x :: _, y :: _, .cons h t => by
    have ih := px_any (k := k) t
    unfold atKey at ih ⊢
    rw [List.any_cons, List.find?_cons, h.1]
    by_cases e : x.1 = k
    · simp [e]
    · simp only [e, decide_false, Bool.false_or]
      exact ih
theorem px_map {k : NestedKey} {v : V} {r : Value} (rv : RelV v r) : ∀ {xs : List (NestedKey × Addr × V)} {ys : List (NestedKey × Addr × Value)}, Paired PX xs ys → Paired PX (xs.map fun x => if x.1 = k then (x.1, x.2.1, v) else x) (ys.map (putAt k r))
  | _, _, .nil => .nil
  | x :: _, y :: _, .cons h t => by
    rw [List.map_cons, List.map_cons]
    refine .cons ?_ (px_map rv t)
    unfold putAt
    rw [h.1]
    by_cases e : x.1 = k
    · rw [if_pos e, if_pos e]; exact ⟨rfl, h.2.1, rv⟩
    · rw [if_neg e, if_neg e]; exact h
theorem px_snoc {x : NestedKey × Addr × V} {y : NestedKey × Addr × Value} (q : PX x y) : ∀ {xs : List (NestedKey × Addr × V)} {ys : List (NestedKey × Addr × Value)}, Paired PX xs ys → Paired PX (xs ++ [x]) (ys ++ [y])
  | _, _, .nil => .cons q .nil
  | _, _, .cons h t => .cons h (px_snoc q t)
theorem px_put {k : NestedKey} {b : Addr} {v : V} {r : Value} (rv : RelV v r) {xs : List (NestedKey × Addr × V)} {ys : List (NestedKey × Addr × Value)} (p : Paired PX xs ys) : Paired PX (putX xs k b v) (storedH ys k b r) := by
  unfold putX storedH
  rw [px_any p]
  by_cases q : (atKey ys k).isSome = true
  · rw [if_pos q, if_pos q]; exact px_map rv p
  · rw [if_neg q, if_neg q]; exact px_snoc ⟨rfl, rfl, rv⟩ p
section
variable {K : KW} {F : Fz} {H : Hp}
theorem er_any {k : PyData} {n : NestedKey} (hk : nk k = some n) : ∀ {xs : List (NestedKey × Addr × V)} {es : List (PyData × PyData)}, es.map (fun e => nk e.1) = xs.map (fun x => some x.1) → (es.any fun p => decide (nk p.1 = nk k)) = xs.any fun p => decide (p.1 = n)
  | [], [], _ => rfl
  | [], _ :: _, e => by simp at e
  | _ :: _, [], e => by simp at e
  | x :: xs, p :: es, e => by
    rw [List.map_cons, List.map_cons, List.cons.injEq] at e
    rw [List.any_cons, List.any_cons, er_any hk e.2, e.1, hk]
    simp
theorem er_map {k d : PyData} {n : NestedKey} {v : V} (hk : nk k = some n) (rv : Rep K F H v d) : ∀ {xs : List (NestedKey × Addr × V)} {es : List (PyData × PyData)}, ER K F H xs es → ER K F H (xs.map fun x => if x.1 = n then (x.1, x.2.1, v) else x) (es.map fun p => if nk p.1 = nk k then (p.1, d) else p)
  | [], [], e => ⟨.nil, .nil, rfl, by simp, by simp⟩
  | [], _ :: _, e => by have := e.n; simp at this
  | _ :: _, [], e => by have := e.n; simp at this
  | x :: xs, p :: es, e => by
    obtain ⟨e1, e2, e3, e4, e5⟩ := e
    cases e1 with
    | cons a1 b1 =>
      cases e2 with
      | cons a2 b2 =>
        rw [List.map_cons, List.map_cons, List.cons.injEq] at e3
        have ih := er_map hk rv ⟨b1, b2, e3.2, fun e he => e4 e (List.mem_cons_of_mem _ he), fun x hx => e5 x (List.mem_cons_of_mem _ hx)⟩
        have e6 := e4 p (by simp)
        have e7 := e5 x (by simp)
        rw [List.map_cons, List.map_cons]
        by_cases q : x.1 = n
        · rw [if_pos q, if_pos (by rw [e3.1, hk, q])]
          refine ⟨.cons a1 ih.k, .cons rv ih.v, ?_, ?_, ?_⟩
          · rw [List.map_cons, List.map_cons, ih.n, e3.1]
          · intro e he; rcases List.mem_cons.mp he with rfl | he
            · exact e6
            · exact ih.t e he
          · intro e he; rcases List.mem_cons.mp he with rfl | he
            · exact e7
            · exact ih.d e he
        · rw [if_neg q, if_neg (by rw [e3.1, hk]; intro z; exact q (Option.some.inj z))]
          refine ⟨.cons a1 ih.k, .cons a2 ih.v, ?_, ?_, ?_⟩
          · rw [List.map_cons, List.map_cons, ih.n, e3.1]
          · intro e he; rcases List.mem_cons.mp he with rfl | he
            · exact e6
            · exact ih.t e he
          · intro e he; rcases List.mem_cons.mp he with rfl | he
            · exact e7
            · exact ih.d e he
theorem er_put {k d : PyData} {n : NestedKey} {b : Addr} {v : V} {xs : List (NestedKey × Addr × V)} {es : List (PyData × PyData)} (e : ER K F H xs es) (hk : nk k = some n) (ht : ∃ ds, k = .tuple ds) (hd : n.depth ≤ 8) (rk : Rep K F H (.ref b) k) (rv : Rep K F H v d) : ER K F H (putX xs n b v) (putE es k d) := by
  unfold putX putE
  rw [er_any hk e.n]
  by_cases q : (xs.any fun p => decide (p.1 = n)) = true
  · rw [if_pos q, if_pos q]; exact er_map hk rv e
  · rw [if_neg q, if_neg q]
    refine ⟨?_, ?_, ?_, ?_, ?_⟩
    · rw [List.map_append, List.map_append]; exact e.k.append (.cons rk .nil)
    · rw [List.map_append, List.map_append]; exact e.v.append (.cons rv .nil)
    · rw [List.map_append, List.map_append, e.n, List.map_cons, List.map_cons, hk]; rfl
    · intro z hz
      rcases List.mem_append.mp hz with hz | hz
      · exact e.t z hz
      · simp only [List.mem_cons, List.not_mem_nil, or_false] at hz; subst hz; exact ht
    · intro z hz
      rcases List.mem_append.mp hz with hz | hz
      · exact e.d z hz
      · simp only [List.mem_cons, List.not_mem_nil, or_false] at hz; subst hz; exact hd
end
section
variable {X : Cx} {pins : List (Addr × Obj)} {σ : L2.St} {F : Fz} {H : Hp} {s : Shared}
theorem er_is (I : Inv X pins σ H s) : ∀ {xs : List (NestedKey × Addr × V)} {es : List (PyData × PyData)}, Reps X.kw F H (xs.map fun x => .ref x.2.1) (es.map (·.1)) → es.map (fun e => nk e.1) = xs.map (fun x => some x.1) → ∀ x ∈ xs, NestedIs s.heap x.1 (.ref x.2.1)
  | [], _, _, _, _, h => by cases h
  | x :: xs, [], r, e, _, _ => by simp at e
  | x :: xs, p :: es, r, e, y, hy => by
    rw [List.map_cons, List.map_cons, List.cons.injEq] at e
    rw [List.map_cons, List.map_cons] at r
    cases r with
    | cons a b =>
      rcases List.mem_cons.mp hy with rfl | hy
      · exact nested_of I a rfl e.1
      · exact er_is I b e.2 y hy
def EPut (K : KW) (H : Hp) (a : Addr) (y v : V) (H' : Hp) : Prop := ∃ F xs es kd k b, H a = some (EDk K.w a xs) ∧ ER K F H xs es ∧ y = .ref b ∧ Rep K F H (.ref b) kd ∧ nk kd = some k ∧ k.depth ≤ 8 ∧ xs.length < sizeLine ∧ H' = upd H a (EDk K.w a (putX xs k b v))
theorem px_is {ys : List (NestedKey × Addr × Value)} : ∀ {xs : List (NestedKey × Addr × V)} {ys : List (NestedKey × Addr × Value)} {Φ : NestedKey → Addr → Prop}, Paired PX xs ys → (∀ x ∈ xs, Φ x.1 x.2.1) → ∀ y ∈ ys, Φ y.1 y.2.1
  | _, _, _, .nil, _, y, hy => by cases hy
  | x :: _, z :: _, Φ, .cons h t, q, y, hy => by
    rcases List.mem_cons.mp hy with rfl | hy
    · rw [h.1, h.2.1]; exact q x (by simp)
    · exact px_is (ys := []) t (fun x hx => q x (List.mem_cons_of_mem _ hx)) y hy
theorem e_setItem {A : Around} {E : Value → Shared → Prop} {H' : Hp} {a : Addr} {y v : V} {u r : Value} {Q : Unit → Shared → Prop} (hu : A.units + 9 < cLine) (I : Inv X pins σ H s) (g : EPut X.kw H a y v H') (ry : RelV y u) (rv : RelV v r) (h : ∀ s', Inv X pins σ H' s' → Q () s') :
    wpAny (model X.prog X.w) A (setItem (.ref a) u r) Q E s := by
  obtain ⟨F, xs, es, kd, k, b, ha, er, rfl, rk, hk, hdp, hl, rfl⟩ := g
  cases (show u = Value.ref b from ry)
  obtain ⟨⟨hsys, hlen, nd, o, des, ep, e1, e2, e3, pr⟩, _, _⟩ := (show ObjOk X.prog X.w H s.heap a (EDk X.w a xs) from I.hok a _ ha)
  obtain ⟨ys, px, e4⟩ := ed_split pr
  have hkeys := er_is I er.k er.n
  have dd : s.heap.DictOfH (nestedKind X.prog X.w) a ys := ⟨o, des, ep, e1, e2, e3, e4, px_is (ys := []) px (Φ := fun k b => NestedIs s.heap k (.ref b) ∧ k.depth ≤ 8) (fun x hx => ⟨hkeys x hx, er.d x hx⟩), by rw [px_keys px]; exact nd⟩
  have hys : ys.length = xs.length := (Paired.length px).symm
  refine wpAny_setItem_heap (hsz := by omega) (knd := nestedKind X.prog X.w) (k := k) (show A.units + 1 + 8 < cLine by omega) ⟨nested_of I rk rfl hk, hdp⟩ dd fun h' dd' hs => h _ ?_
  obtain ⟨q, es2, ep2, hq, h2, h3, h4, _, h5⟩ := dd'
  have px2 := px_put (k := k) (b := b) rv px
  have hl2 : (putX xs k b v).length ≤ sizeLine := by have := putX_len (xs := xs) (k := k) (b := b) (v := v); omega
  exact d_write I (by rw [ha]; exact True.intro) hs ⟨q, hq⟩ (ed_ok hsys hl2 (by rw [← px_keys px2]; exact h5) hq h2 h3 (by rw [h4]; exact ed_join px2))
def sDPut2 (K : KW) (td ty tv : TE) : TS := fun D σ H => tv σ H fun v H1 => td σ H1 fun x H2 => ty σ H2 fun y H3 => ∃ a H4, x = .ref a ∧ (DPut H3 a y v H4 ∨ EPut K H3 a y v H4) ∧ D.nx σ H4
theorem ps_dput2 {o i value : Expr} {pos pos' : Pos} {td ty tv : TE} (hu : X.A.units + 9 < cLine) (ho : PE X o td) (hi : PE X i ty) (hv : PE X value tv) (hs : swapsWith value (some (.Subscript o i pos')) pos.line X.env = pure false) :
    PS X (.Assign [.Subscript o i pos'] value pos) (sDPut2 X.kw td ty tv) := by
  refine ⟨fun pins s σ H D I h => ?_⟩
  refine wpAny_Assign_Subscript (thn (hv.run pins s σ H _ I h) fun r s1 ⟨v, H1, I1, rv, q1⟩ => thn (ho.run pins s1 σ H1 _ I1 q1) fun u s2 ⟨x, H2, I2, rx, q2⟩ => thn (hi.run pins s2 σ H2 _ I2 q2) fun iv s3 ⟨y, H3, I3, ry, a, H4, ex, g, q3⟩ => ?_) hs
  subst ex
  obtain rfl : u = Value.ref a := rx
  rcases g with g | g
  · exact d_setItem (by omega) I3 g ry rv fun s4 I4 => ⟨σ, H4, I4, q3⟩
  · exact e_setItem hu I3 g ry rv fun s4 I4 => ⟨σ, H4, I4, q3⟩
end
def tkOk (k : PyData) : Bool := match nk k with
  | some (.tup ks) => decide ((NestedKey.tup ks).depth ≤ 8)
  | _ => false
theorem tkOk_ok {k : PyData} (h : tkOk k = true) : ∃ n ds, nk k = some n ∧ k = .tuple ds ∧ n.depth ≤ 8 := by
  unfold tkOk at h
  split at h
  · rename_i ks e
    refine ⟨.tup ks, ?_⟩
    cases k with
    | tuple ds => exact ⟨ds, e, rfl, of_decide_eq_true h⟩
    | none => simp only [nk] at e; cases e
    | int i => simp only [nk] at e; cases e
    | str i => simp only [nk] at e; cases e
    | bool i => simp only [nk] at e; cases e
    | list i => simp only [nk] at e; cases e
    | dict i => simp only [nk] at e; cases e
  · cases h
def gPutE : MO → PyData → PyData → Option MO
  | .e es, k, d => if tkOk k = true ∧ es.length < sizeLine then some (.e (putE es k d)) else none
  | m, k, d => gPutD m k d
section
variable {K : KW} {σc : L2.St} {H : Hp} {D : Ends}
theorem sPutE_tr {ex ek ee : Ev Val} (h : tSS K (sPut gPutE ex ek ee) D σc H) : sDPut2 K (tS K ex) (tS K ek) (tS K ee) D σc H := by
  obtain ⟨F, β, σ, h, hs, sr, o, e, q⟩ := h
  rcases qa : ee σ h with _ | ⟨v, h1⟩ <;> simp only [sPut, qa] at e
  · cases e
  refine ⟨F, β, σ, h, hs, sr, v, h1, qa, fun F1 β1 H1 w hs1 x1 r1 => ?_⟩
  rcases qb : ex σ h1 with _ | ⟨y, h2⟩
  · rw [qb] at e; cases e
  rw [qb] at e
  refine ⟨F1, β1, σ, h1, hs1, sr.ext x1, y, h2, qb, fun F2 β2 H2 w2 hs2 x2 r2 => ?_⟩
  have x12 := x1.seq hs1 x2
  cases y with
  | t d => cases e
  | tp d => cases e
  | r n =>
    simp only at e
    rcases qc : ek σ h2 with _ | ⟨kv, h3⟩ <;> simp only [qc] at e
    · cases e
    refine ⟨F2, β2, σ, h2, hs2, sr.ext x12, kv, h3, qc, fun F3 β3 H3 w3 hs3 x3 r3 => ?_⟩
    have x13 := x12.seq hs2 x3
    rcases qd : rd h3 kv with _ | kd <;> simp only [qd] at e
    · cases e
    rcases qf : fz h3 v with _ | ⟨d, h4⟩ <;> simp only [qf] at e
    · cases e
    rcases qn : h4[n]? with _ | ob <;> simp only [qn] at e
    · cases e
    rcases qg : gPutE ob kd d with _ | ob' <;> simp only [qg] at e
    · cases e
    cases e
    obtain ⟨F4, hs4, x4, r4⟩ := fz_ok hs3 (r1.ext (x2.seq hs2 x3)) qf
    obtain ⟨a, ha, rfl⟩ := (r2.ext x3 : RV K F3 β3 H3 w2 (.r n))
    cases ob with
    | l ds => cases qg
    | f ds => cases qg
    | d es =>
      simp only [gPutE, gPutD] at qg
      split at qg
      rotate_left
      · cases qg
      rename_i hc
      cases qg
      obtain ⟨k, hk⟩ := Option.isSome_iff_exists.mp hc.1
      obtain ⟨rfl, rk⟩ := keyD_of (RB.of_rd hs3 r3 qd) hk
      obtain ⟨nf, kvs, hkv, rr⟩ := hs4.obj n a _ ha qn
      have hl : kvs.length = es.length := by have := rr.1.length; simpa using this
      obtain ⟨hs5, x5⟩ := hs4.write (o := .dK (putK kvs k w)) (m := .d (putD es kd d)) ha nf hkv (fun _ z => nomatch z) (fun _ _ z => nomatch z) fun ex => ⟨nf, _, upd_same, (rr.put hk (rk _ _) r4).ex ex⟩
      have x15 := (x13.seq hs3 x4).seq hs4 x5
      exact ⟨a, _, rfl, .inl (.k hkv (by rw [hl]; exact hc.2)), q F4 β3 σc _ hs5 (sr.ext x15) x15⟩
    | e es =>
      simp only [gPutE] at qg
      split at qg
      rotate_left
      · cases qg
      rename_i hc
      cases qg
      obtain ⟨k, ds, hk, rfl, hdp⟩ := tkOk_ok hc.1
      have rk0 := RB.of_rd hs3 r3 qd
      obtain ⟨nf, xs, hkv, rr⟩ := hs4.obj n a _ ha qn
      have hl : xs.length = es.length := by have := rr.v.length; simpa using this
      cases rk0 with
      | rep rk0 =>
        cases rk0 with
        | @tup b vs _ h1 h2 =>
          have rk : Rep K F4 H3 (.ref b) (.tuple ds) := Rep.ex x4.ex (.tup h1 h2)
          have rr2 := er_put rr hk ⟨ds, rfl⟩ hdp rk r4
          obtain ⟨hs5, x5⟩ := hs4.write (o := EDk K.w a (putX xs k b w)) (m := .e (putE es (.tuple ds) d)) ha nf hkv (fun _ z => nomatch z) (fun _ _ z => nomatch z) fun ex => ⟨nf, _, upd_same, rr2.ex ex⟩
          have x15 := (x13.seq hs3 x4).seq hs4 x5
          exact ⟨a, _, rfl, .inr ⟨F4, xs, es, _, k, b, hkv, rr, rfl, rk, hk, hdp, by rw [hl]; exact hc.2, rfl⟩, q F4 β3 σc _ hs5 (sr.ext x15) x15⟩
end
end DE
end
section
set_option Elab.async false
set_option linter.all false
set_option maxRecDepth 100000
set_option maxHeartbeats 1000000
/-! sorted(d), d a dict whose keys are tuples -/
namespace DE
open PySem PySem.Spec PyProof.Rows L2
def eSrtE (m : Bool) (x : Ev Val) : Ev Val := fun σ h => match x σ h with
  | some (.r n, h1) => (match h1[n]? with
    | some (.e es) => if sortOk (es.map (·.1)) = true then some (mk m (.list ((es.map (·.1)).mergeSort leD)) h1) else none
    | _ => none)
  | _ => none
def rSrtE (K : KW) : List V → Hp → VK → Prop := fun xs H Q => ∃ F a ys es, xs = [.ref a] ∧ H a = some (EDk K.w a ys) ∧ ER K F H ys es ∧ sortOk (es.map (·.1)) = true ∧ ∀ w H1, Got K F true H H1 w (.list ((es.map (·.1)).mergeSort leD)) → Q w H1
theorem eSrtE_tr {K : KW} {m : Bool} {ea : Ev Val} {σc : L2.St} {H : Hp} {Q : VK} (h : tS K (eSrtE m ea) σc H Q) : tCB (rSrtE K) (tSA K (aCons ea aNil)) σc H Q := by
  obtain ⟨F, β, σ, h, hs, sr, x, h', e, q⟩ := h
  rcases qa : ea σ h with _ | ⟨v, h1⟩ <;> simp only [eSrtE, qa] at e
  · cases e
  cases v with
  | t d => cases e
  | tp d => cases e
  | r n =>
    simp only at e
    rcases qn : h1[n]? with _ | ob <;> simp only [qn] at e
    · cases e
    cases ob with
    | l ds => cases e
    | f ds => cases e
    | d ds => cases e
    | e es =>
      simp only at e
      split at e
      rotate_left
      · cases e
      rename_i hok
      have e0 := Option.some.inj e
      obtain ⟨rfl, rfl⟩ : x = (mk m (.list ((es.map (·.1)).mergeSort leD)) h1).1 ∧ h' = (mk m (.list ((es.map (·.1)).mergeSort leD)) h1).2 := by rw [e0]; exact ⟨rfl, rfl⟩
      refine ⟨F, β, σ, h, hs, sr, [.r n], h1, by unfold aCons aNil; rw [qa], fun F1 β1 H1 vs hs1 x1 r1 => ?_⟩
      cases r1 with
      | cons r1 r2 =>
        cases r2
        obtain ⟨a, ha, rfl⟩ := r1
        obtain ⟨nf, xs, hkv, rr⟩ := hs1.obj n a _ ha qn
        refine ⟨F1, a, xs, es, rfl, hkv, rr, hok, fun w H2 g => ?_⟩
        obtain ⟨F2, β2, hs2, x2, r2⟩ := got_mk (m := m) hs1 (fun _ => rfl) g
        exact q F2 β2 H2 w hs2 (x1.seq hs1 x2) r2
section
variable {X : Cx}
theorem cr_srtE (hc : X.calm = true) (hu : X.A.units + 70 < cLine) : CallR X (.builtin "sorted") (rSrtE X.kw) := by
  intro pins s σ H xs us Q I r q
  obtain ⟨F, a, ys, es, ex, ha, er, hok, q⟩ := q
  subst ex
  obtain ⟨u, eu, rx⟩ := vals1 r
  subst eu
  cases rx
  obtain ⟨⟨hsys, hlen, nd, o, des, ep, e1, e2, e3, pr⟩, _, _⟩ := (show ObjOk X.prog X.w H s.heap a (EDk X.w a ys) from I.hok a _ ha)
  obtain ⟨h1, h2, h3⟩ := sortOk_ok hok
  have hdl : des.toList.length = ys.length := (Paired.length pr).symm
  have hds : des.size = ys.length := by rw [← Array.length_toList]; exact hdl
  refine Calls.call_function_entry PyProof.Rows.kind_sorted PyProof.Rows.plain_sorted PyProof.Rows.entry_sorted (PyProof.Rows.args_sorted1 _) ?_
  unfold Builtin.«sorted»
  refine wpAny_bind (m := checkCount "sorted" 1 1 _) (wpAny_pure ?_)
  refine wpAny_bind (PySem.W.kdu_collect (A := X.A.in1) (kdl_raw hsys e2 e3) (I.ok.hd hc) e1 (by omega) fun h' tk acc hk hacc => ?_)
  have hal : acc.toList.length = ys.length := by rw [Array.length_toList, hacc.1, hds]
  have ea : acc.toList = ys.map fun y => Value.ref y.2.1 := by
    apply List.ext_getElem?
    intro j
    rw [List.getElem?_map]
    cases hj : acc.toList[j]? with
    | none =>
      have := List.getElem?_eq_none_iff.mp hj
      rw [List.getElem?_eq_none (by omega)]
      all_goals rfl
    | some v =>
      obtain ⟨en, hen, hv⟩ := hacc.2 j v (by rw [← Array.getElem?_toList]; exact hj)
      have hen' : des.toList[j]? = some en := by rw [Array.getElem?_toList]; exact hen
      have key : ∀ {xs : List (NestedKey × Addr × V)} {es : List DictEntry} {j : Nat} {en : DictEntry}, Paired (fun (x : NestedKey × Addr × V) (e : DictEntry) => e.hash = x.1.hash X.w ∧ e.key = .ref x.2.1 ∧ RelV x.2.2 e.val) xs es → es[j]? = some en → ∃ x, xs[j]? = some x ∧ en.key = .ref x.2.1 := by
        intro xs es j en p
        induction p generalizing j with
        | nil => intro z; simp at z
        | cons h t ih =>
          intro z
          cases j with
          | zero => simp at z; subst z; exact ⟨_, rfl, h.2.1⟩
          | succ j => simpa using ih (by simpa using z)
      obtain ⟨x, hx, hkx⟩ := key pr hen'
      rw [hx, hv, hkx]
      all_goals rfl
  have vrefs : ∀ zs : List (NestedKey × Addr × V), Vals (zs.map fun y => V.ref y.2.1) (zs.map fun y => Value.ref y.2.1) := by
    intro zs
    induction zs with
    | nil => exact .nil
    | cons z zs ih => exact .cons rfl ih
  have rv : Vals (ys.map fun y => V.ref y.2.1) acc.toList := by rw [ea]; exact vrefs ys
  have I1 : Inv X pins σ H { s with heap := h', toks := tk } := I.kept hk
  have rr := er.k
  have hle := rr.length
  have em : ((ys.map fun y => V.ref y.2.1).zip (es.map (·.1))).map (·.2) = es.map (·.1) := List.map_snd_zip (by omega)
  have el : ((ys.map fun y => V.ref y.2.1).zip (es.map (·.1))).length = ys.length := by rw [List.length_zip, List.length_map]; rw [List.length_map] at hle; omega
  refine wpAny_bind (wpAny_newList ?_ (by rw [hal]; exact hlen))
  have hoL : (h'.push (seqObj "list" acc.toList.toArray 0)).get? h'.objs.size = some (seqObj "list" acc.toList.toArray 0) := Heap.get?_push_size _ rfl
  show wpAny _ _ _ _ _ { s with heap := h'.push (seqObj "list" acc.toList.toArray 0), toks := tk }
  have er' : PySem.W.EachIs (fun u (b : V × PyData) => ∃ as, Reads (h'.push (seqObj "list" acc.toList.toArray 0)) u b.2 as ∧ h'.objs.size ∉ as) acc.toList ((ys.map fun y => V.ref y.2.1).zip (es.map (·.1))) :=
    (each_reads I1 rv rr).mono fun u b ⟨as, r⟩ => ⟨as, PyProof.Rows.Reads.keeps (fun _ _ e => Heap.get?_push_of_some _ e) r, fun hm => by
      obtain ⟨o, e⟩ := PyProof.On.reads_mem_get r _ hm
      exact absurd (Heap.lt_size e) (Nat.lt_irrefl _)⟩
  have hub : ∀ b, b ∈ (ys.map fun y => V.ref y.2.1).zip (es.map (·.1)) → X.A.in1.units + 1 + b.2.depth < cLine := fun b hb => by
    have : b.2 ∈ es.map (·.1) := by rw [← em]; exact List.mem_map_of_mem hb
    have := h3 _ this
    show X.A.units + 1 + 1 + _ < cLine
    omega
  refine wpAny_bind (wpAny_holding (PySem.W.list_sort_data (s := { s with heap := h'.push (seqObj "list" acc.toList.toArray 0), toks := tk }) (R := fun u (b : V × PyData) => RelV b.1 u) (enc := fun b => b.2) (bs := (ys.map fun y => V.ref y.2.1).zip (es.map (·.1))) (vs := acc.toList) hoL (each_vals rv hle)
    er' (by rw [em]; exact h1) (by rw [em]; exact h2) (by rw [el]; exact hlen) hub fun out hol heo => ?_))
  obtain ⟨e', he'⟩ := PyProof.Rows.sortedHeap_at (vs := acc.toList) (out := out.toArray) hoL
  have rep : ∀ b ∈ ((ys.map fun y => V.ref y.2.1).zip (es.map (·.1))).mergeSort (PySem.W.dataLe false fun b => b.2), Rep X.kw F H b.1 b.2 := fun b hb => reps_pairs rr b ((List.mergeSort_perm _ _).subset hb)
  have esm : (((ys.map fun y => V.ref y.2.1).zip (es.map (·.1))).mergeSort (PySem.W.dataLe false fun b => b.2)).map (·.2) = (es.map (·.1)).mergeSort leD := by
    have z := List.map_mergeSort (r := PySem.W.dataLe false fun b : V × PyData => b.2) (s := leD) (f := fun b : V × PyData => b.2) (l := (ys.map fun y => V.ref y.2.1).zip (es.map (·.1))) (fun _ _ _ _ => rfl)
    rw [em] at z
    exact z
  have gt : Got X.kw F true H (upd H h'.objs.size (.lst ((((ys.map fun y => V.ref y.2.1).zip (es.map (·.1))).mergeSort (PySem.W.dataLe false fun b => b.2)).map (·.1)))) (.ref h'.objs.size) (.list ((es.map (·.1)).mergeSort leD)) := by
    rw [← esm]
    exact .lst (I1.hok.fresh (Nat.le_refl _)) (reps_of rep)
  refine wpAny_pure ⟨_, rfl, .ref h'.objs.size, _, I1.laid (t' := tk) (fun b u e => ?_) (Nat.le_refl _) ?_, rfl, q _ _ gt⟩
  · have hb : b < h'.objs.size := Heap.lt_size e
    rw [PyProof.Rows.sortedHeap_old (Nat.ne_of_lt hb) (by rw [size_push']; exact Nat.lt_succ_of_lt hb)]
    exact Heap.get?_push_of_some _ e
  · refine ⟨?_, out, e', vals_each heo, he'⟩
    rw [List.length_map, List.length_mergeSort, el]
    exact hlen
end
end DE
end
section
set_option Elab.async false
set_option linter.all false
set_option maxRecDepth 100000
set_option maxHeartbeats 2000000
/-! x.count(y), sum(xs), range(a, b, c), a, b = x, y -/
namespace DE
open PySem PySem.Spec PyProof.Rows L2
open AutoSeq1
/-! ### a dict is no number -/
theorem dict_no_int (l : Addr) (es : Array DictEntry) (ep : Nat) (dd : Option Addr) (sl : Array (Option Value)) (b : Int) (u : Tok) :
    Meets (Builtin.«dict.__eq__» ⟨[.ref l, .int b u], []⟩) (fun _ R s => s.heap.get? l = some { cls := .type "dict", dict := dd, data := .dict es ep, slots := sl } ∧ R (.ok (.ret .notImplemented)) s) :=
  .of_wp fun pr wd A R s h => by
    obtain ⟨h0, g, d, t0, os⟩ := s
    obtain ⟨hd, h⟩ := h
    have f1 := F.sub_int_dict
    wp_walk using wpAny_loadPart' hd, wpAny_load hd
    exact ⟨_, rfl, h⟩
theorem int_no_dict (b : Int) (u : Tok) (l : Addr) (es : Array DictEntry) (ep : Nat) (dd : Option Addr) (sl : Array (Option Value)) :
    Meets (Builtin.«int.__eq__» ⟨[.int b u, .ref l], []⟩) (fun _ R s => s.heap.get? l = some { cls := .type "dict", dict := dd, data := .dict es ep, slots := sl } ∧ R (.ok (.ret .notImplemented)) s) :=
  .of_wp fun pr wd A R s h => by
    obtain ⟨h0, g, d, t0, os⟩ := s
    obtain ⟨hd, h⟩ := h
    wp_walk using wpAny_loadPart' hd, wpAny_load hd
    exact ⟨_, rfl, h⟩
section
variable {A : Around} {s : PySem.Shared}
theorem eqAt_dict {l : Addr} {o : Obj} {es : Array DictEntry} {ep : Nat} (b : Int) (u : Tok) (ho : s.heap.get? l = some o) (hc : o.cls = .type "dict") (hd : o.data = .dict es ep) (hu : A.units < cLine) : SeqAt.EqAt A s (.ref l) (.int b u) false := fun prog w E Q h => by
  obtain ⟨cls, dd, data, sl⟩ := o
  simp only at hc hd
  subst hc hd
  unfold eqBool
  refine wpAny_holding ?_
  refine wpAny_ite_split (fun hz => absurd (eq_of_beq hz) nofun) (fun _ => ?_)
  refine wpAny_bind ?_
  exact SeqAt.rc_eq_decline_or (k := false) ⟨_, ho, rfl⟩ (typeIs_int s b u) (by decide) F.sub_int_dict F.slot_dict_eq F.slot_int_eq_refl
    (fun _ hq => call_meets F.slot_dict_eq ⟨_, ho, rfl⟩ F.entry_dict_eq (F.args_dict_eq_2 _ _) (dict_no_int l es ep dd sl b u) ⟨ho, hq⟩)
    (fun _ hq => call_meets F.slot_int_eq_refl (typeIs_int s b u) F.entry_int_eq (F.args_int_eq_2 _ _) (int_no_dict b u l es ep dd sl) ⟨ho, hq⟩)
    (fun _ hq => wpAny_of_eq (rfl : isSame (.ref l) (.int b u) = pure false) hq) (.inr hu) (wpAny_truthy_bool h)
/-- a thing is like a number -/
def eqI (k : Int) : PyData → Bool
  | .int i => i == k
  | .bool b => (if b then 1 else 0) == k
  | _ => false
def eqW (k : Int) : Value → Bool
  | .int i _ => i == k
  | .bool b => (if b then 1 else 0) == k
  | _ => false
theorem reads_eq {u : Value} {d : PyData} {as : List Addr} (k : Int) (t : Tok) (hu : A.units < cLine) (h : Reads s.heap u d as) : SeqAt.EqAt A s u (.int k t) (eqW k u) ∧ eqW k u = eqI k d := by
  cases h with
  | none => exact ⟨SeqAt.EqAt.none_int k t, rfl⟩
  | bool b => exact ⟨SeqAt.EqAt.bool_int b k t, rfl⟩
  | int i t' => exact ⟨SeqAt.EqAt.int_int i t' k t, rfl⟩
  | str x t' => exact ⟨SeqAt.EqAt.str_int x t' k t, rfl⟩
  | list ho hc hd _ => exact ⟨SeqAt.EqAt.list_int k t ⟨_, ho, hc, _, hd⟩ hu, rfl⟩
  | tuple ho hc hd _ => exact ⟨SeqAt.EqAt.tuple_int k t ⟨_, ho, hc, _, hd⟩ hu, rfl⟩
  | dict ho hc hd _ _ => exact ⟨eqAt_dict k t ho hc hd hu, rfl⟩
theorem readsAll_eq {us : List Value} {ds : List PyData} {as : List Addr} (k : Int) (t : Tok) (hu : A.units < cLine) (h : ReadsAll s.heap us ds as) : (∀ y ∈ us, SeqAt.EqAt A s y (.int k t) (eqW k y)) ∧ us.countP (eqW k) = ds.countP (eqI k) := by
  induction us generalizing ds as with
  | nil => cases h; exact ⟨(fun y hy => by cases hy), rfl⟩
  | cons u us ih =>
    cases h with
    | cons h1 h2 =>
      obtain ⟨a1, a2⟩ := reads_eq (A := A) k t hu h1
      obtain ⟨b1, b2⟩ := ih h2
      refine ⟨fun y hy => ?_, by rw [List.countP_cons, List.countP_cons, a2, b2]⟩
      rcases List.mem_cons.mp hy with ey | ey
      · rw [ey]; exact a1
      · exact b1 y ey
end
/-! ### x.m(y) of a tuple -/
section
variable {X : Cx}
theorem TX.at {pins : List (Addr × Obj)} {σ : L2.St} {H : Hp} {s : Shared} {a : Addr} {vs : List V} (I : Inv X pins σ H s) (h : TX X.kw H a vs) : s.TypeIs (.ref a) "tuple" ∧ ∃ o, s.heap.get? a = some o ∧ o.dict = none := by
  rcases h with ⟨o, h, hd⟩ | ⟨o, its, n, hk, hc, hd, _⟩
  · obtain ⟨ho, _, its, _, ht⟩ := I.hok a _ h
    exact ⟨ht.typeIs, o, ho, hd⟩
  · exact ⟨⟨o, I.kIn a o hk, hc⟩, o, I.kIn a o hk, hd⟩
def tTM (K : KW) (r : V → List V → Hp → VK → Prop) (to : TE) (t : TA) : TE := fun σ H Q => to σ H fun x H1 => (∃ a vs, x = .ref a ∧ TX K H1 a vs) ∧ t σ H1 fun xs H2 => r x xs H2 Q
theorem pe_tm {o a : Expr} {to : TE} {t : TA} {name : Str} {apos cpos : Pos} {id : String} {r : V → List V → Hp → VK → Prop} (slot : Slot "tuple" name id) (hty : typeOf (.builtin id) = pure (.type "method_descriptor")) (hm : MtR X id r) (ho : PE X o to) (ha : PA X [a] t)
    (hbase : attributeBase o name X.env (eval o X.env) = eval o X.env) (hline : (apos.endLine == cpos.line) = true) (hs : starEach [a] X.env = (false, eval a X.env) :: starEach [] X.env) :
    PE X (.Call (.Attribute o name apos) [a] [] cpos) (tTM X.kw r to t) := by
  refine ⟨fun pins s σ H Q I h => ?_⟩
  refine wpAny_Call_method_late hbase (few1 hs) hline rfl (thn (ho.run pins s σ H _ I h) fun v s1 ⟨x, H1, I1, r1, ty, q1⟩ => ?_)
  obtain ⟨p, vs, rfl, hp⟩ := ty
  cases r1
  obtain ⟨h1, o1, h2, h3⟩ := hp.at I1
  refine ⟨"tuple", id, F.plainAttrs_tuple, slot, hty, h1, fun b e => by cases e; exact ⟨o1, h2, h3⟩, ?_⟩
  have hrun := ha.run cpos pins s1 σ H1 _ I1 q1
  rw [hs] at hrun ⊢
  refine Calls.callWith_builtin rfl (Calls.evalArgs_plain ?_)
  exact thn hrun fun us s2 ⟨vs, H2, I2, r2, q2⟩ => hm pins s2 σ H2 (.ref p) vs (.ref p) us Q I2 rfl r2 q2
/-- x.count(y), y a number -/
def rCnt (K : KW) : V → List V → Hp → VK → Prop := fun x xs H Q => ∃ (p : Addr) (F : Fz) (vs : List V) (ds : List PyData) (k : Int), x = .ref p ∧ xs = [.int k] ∧ SqT K H p vs ∧ Reps K F H vs ds ∧ Q (.int (ds.countP (eqI k) : Nat)) H
theorem mt_tcount (hu : X.A.units + 64 < cLine) : MtR X "tuple.count" (rCnt X.kw) := by
  intro pins s σ H x xs v us Q I rx rxs h
  obtain ⟨p, F, vs, ds, k, rfl, rfl, hs, rr, q⟩ := h
  cases rx
  obtain ⟨u1, rfl, ru⟩ := rxs.one
  obtain ⟨t, rfl⟩ := ru
  obtain ⟨its, rv, ⟨⟨cls, dd, data, sl⟩, ho, hc, n, hd⟩, hlen⟩ := I.tuple hs
  simp only at hc hd
  subst hc hd
  obtain ⟨as, hr, _⟩ := Reps.reads I rr rv
  have key := fun (A : Around) (hA : A.units < cLine) => readsAll_eq (A := A) (s := s) k t hA hr
  refine call_meets PySem.F.slot_tuple_count ⟨_, ho, rfl⟩ PySem.F.entry_tuple_count (PySem.F.args_tuple_count_2 _ _)
    (SeqAt.tuple_countAt p its.toArray n dd sl (.int k t) (eqW k)) ⟨ho, fun y hy => (key _ ?_).1 y (by simpa using hy), ?_⟩
  · simp only [Around.in1_units]; omega
  have ec := (key X.A (by omega)).2
  refine ⟨.int (ds.countP (eqI k) : Nat), H, I.tok _, ⟨s.toks, ?_⟩, q⟩
  show Value.int ((its.toArray.toList.countP (eqW k) : Nat) : Int) s.toks = Value.int ((ds.countP (eqI k) : Nat) : Int) s.toks
  rw [← ec]
end
def eCnt (x a : Ev Val) : Ev Val := fun σ h => match x σ h with
  | none => none
  | some (v, h1) => match rd h1 v with
    | some (.tuple _) => (match a σ h1 with
      | none => none
      | some (w, h2) => match rd h2 v with
        | some (.tuple xs) => (match rd h2 w with
          | some (.int k) => some (.t (.int (xs.countP (eqI k) : Nat)), h2)
          | _ => none)
        | _ => none)
    | _ => none
section
variable {K : KW} {X : Cx} {σc : L2.St} {H : Hp} {Q : VK} {D : Ends}
theorem eCnt_tr {ex ea : Ev Val} (h : tS K (eCnt ex ea) σc H Q) : tTM K (rCnt K) (tS K ex) (tSA K (aCons ea aNil)) σc H Q := by
  obtain ⟨F, β, σ, h, hs, sr, x, h', e, q⟩ := h
  unfold eCnt at e
  rcases qa : ex σ h with _ | ⟨v, h1⟩ <;> simp only [qa] at e
  · cases e
  rcases q1 : rd h1 v with _ | d1
  · rw [q1] at e; cases e
  rw [q1] at e
  cases d1 <;> simp only at e <;> try cases e
  rename_i xs1
  rcases qb : ea σ h1 with _ | ⟨w, h2⟩ <;> simp only [qb] at e
  · cases e
  rcases q2 : rd h2 v with _ | d2
  · rw [q2] at e; cases e
  rw [q2] at e
  cases d2 <;> simp only at e <;> try cases e
  rename_i xs
  rcases q3 : rd h2 w with _ | d
  · rw [q3] at e; cases e
  rw [q3] at e
  cases d <;> simp only at e <;> try cases e
  rename_i k
  refine ⟨F, β, σ, h, hs, sr, v, h1, qa, fun F1 β1 H1 u hs1 x1 r1 => ?_⟩
  obtain ⟨a, ws, rfl, hq, _⟩ := (RB.of_rd hs1 r1 q1).tup
  refine ⟨⟨a, ws, rfl, hq⟩, F1, β1, σ, h1, hs1, sr.ext x1, [w], h', by simp only [aCons, qb, aNil], fun F2 β2 H2 us hs2 x2 r2 => ?_⟩
  cases r2 with
  | cons r2 r3 =>
    cases r3
    obtain ⟨a', ws', e', hq', rr⟩ := (RB.of_rd hs2 (r1.ext x2) q2).tup
    cases e'
    have rw := RB.of_rd hs2 r2 q3
    cases rw.int
    exact ⟨a, _, ws', xs, k, rfl, rfl, hq'.sq, rr, q F2 β2 H2 _ hs2 (x1.seq hs1 x2) (.int _)⟩
theorem pe_count1 {o a : Expr} {eo ea : Ev Val} {apos cpos : Pos} (hu : X.A.units + 64 < cLine) (ho : PE X o (tS X.kw eo)) (ha : PA X [a] (tSA X.kw (aCons ea aNil))) (hs : starEach [a] X.env = (false, eval a X.env) :: starEach [] X.env)
    (hbase : attributeBase o "count" X.env (eval o X.env) = eval o X.env) (hline : (apos.endLine == cpos.line) = true) : PE X (.Call (.Attribute o "count" apos) [a] [] cpos) (tS X.kw (eCnt eo ea)) :=
  pe_mono (pe_tm F.slot_tuple_count (by first | rfl | kernel_rfl) (mt_tcount hu) ho ha hbase hline hs) fun _ _ _ _ _ _ h => eCnt_tr h
/-! ### a, b = x, y -/
def sPar (i j : Nat) (a b : Ev Val) : Ex1 := fun σ h => match a σ h with
  | none => none
  | some (v, h1) => match b σ h1 with
    | none => none
    | some (w, h2) => some (.nx ((σ.set i (some v)).set j (some w)) h2)
theorem sPar_tr {i j : Nat} {a b : Ev Val} (h : tSS K (sPar i j a b) D σc H) : tPar i j (tSA K (aCons a (aCons b aNil))) D σc H := by
  obtain ⟨F, β, σ, h, hs, sr, o, e, q⟩ := h
  rcases qa : a σ h with _ | ⟨v, h1⟩ <;> simp only [sPar, qa] at e
  · cases e
  rcases qb : b σ h1 with _ | ⟨w, h2⟩ <;> simp only [qb] at e
  · cases e
  cases e
  refine ⟨F, β, σ, h, hs, sr, [v, w], h2, by simp only [aCons, qa, qb, aNil], fun F1 β1 H1 us hs1 x1 r1 => ?_⟩
  cases r1 with
  | cons r1 r2 =>
    cases r2 with
    | cons r2 r3 =>
      cases r3
      exact ⟨_, _, rfl, q F1 β1 _ H1 hs1 (((sr.ext x1).set r1).set r2) x1⟩
def okPar (sc : Scope) (x : Str) (px : Pos) (y : Str) (py : Pos) (a b : Expr) : Bool :=
  (sc.names.lookup x == some .local) && (sc.names.lookup y == some .local) && !(x == y) && (py.line == px.line) && (sc.kind == .function) && !([a, b].all (foldedForSure 8)) && !([a, b].all (constantsAlone 8))
/-! ### sum(xs) -/
def gSum (d : PyData) : Option PyData := match d with
  | .list xs => (match intsOf xs with | some ns => some (.int ns.sum) | none => none)
  | _ => none
theorem cd_sum (hc : X.calm = true) : CallR X (.builtin "sum") (rGN X.kw true (g1 gSum)) := call1r (cr_sum hc) fun H x Q F d o rx hg q => by
  cases d <;> simp only [gSum] at hg <;> try cases hg
  split at hg <;> cases hg
  rename_i ns hns
  have e := intsOf_map hns
  subst e
  obtain ⟨a, vs, rfl, hq, rr⟩ := rx.list
  rw [reps_ints rr] at hq
  exact ⟨a, ns, rfl, hq, q _ _ (.same (.inr rfl) (.int _))⟩
end
end DE
end
section
set_option Elab.async false
set_option linter.all false
set_option maxRecDepth 100000
set_option maxHeartbeats 1000000
/-! tuples with one changeable thing among their parts -/
namespace DE
open PySem PySem.Spec PyProof.Rows L2
def allT : List Val → Option (List PyData)
  | [] => some []
  | .t d :: vs => (match allT vs with | some ds => some (d :: ds) | none => none)
  | _ :: _ => none
def oneRef : List Val → Option (List PyData × Nat × List PyData)
  | [] => none
  | .t d :: vs => (match oneRef vs with | some (ds, n, es) => some (d :: ds, n, es) | none => none)
  | .r n :: vs => (match allT vs with | some es => some ([], n, es) | none => none)
  | .tp _ _ _ :: _ => none
def eTupM (as : Ev (List Val)) : Ev Val := fun σ h => match as σ h with
  | none => none
  | some (vs, h1) => match oneRef vs with
    | none => none
    | some (ds, n, es) => if ds.length + (es.length + 1) ≤ sizeLine then some (.tp ds n es, h1) else none
/-- a tuple, and behind it one with such a part -/
def eCatM (a b : Ev Val) : Ev Val := fun σ h => match a σ h with
  | some (.t (.tuple xs), h1) => (match b σ h1 with
    | some (.tp ds n es, h2) => if xs.length + (ds.length + (es.length + 1)) ≤ sizeLine then some (.tp (xs ++ ds) n es, h2) else none
    | _ => none)
  | _ => none
def eIdxM (a i : Ev Val) : Ev Val := fun σ h => match a σ h with
  | some (.tp ds n es, h1) => (match i σ h1 with
    | some (.t (.int k), h2) => if k = ds.length then some (.r n, h2) else if 0 ≤ k ∧ k < ds.length then (match ds[k.toNat]? with | some d => some (.t d, h2) | none => none) else none
    | _ => none)
  | _ => none
def eReprM (a : Ev Val) : Ev Val := fun σ h => match a σ h with
  | some (.tp ds n es, h1) => (match rd h1 (.r n) with
    | none => none
    | some d => match gRepr (.tuple (ds ++ d :: es)) with
      | none => none
      | some r => some (.t r, h1))
  | _ => none
section
variable {K : KW} {X : Cx} {F : Fz} {β : List Addr} {H : Hp} {h : MH} {σc : L2.St} {Q : VK}
theorem allT_ok : ∀ {vs : List V} {xs : List Val} {ds : List PyData}, RVs K F β H vs xs → allT xs = some ds → Reps K F H vs ds
  | _, _, _, .nil, e => by cases e; exact .nil
  | _, _, _, .cons (x := x) a b, e => by
    cases x with
    | t d =>
      simp only [allT] at e
      split at e
      · rename_i hl; cases e; exact .cons a (allT_ok b hl)
      · cases e
    | r n => cases e
    | tp d n e' => cases e
theorem oneRef_ok : ∀ {vs : List V} {xs : List Val} {ds es : List PyData} {n : Nat}, RVs K F β H vs xs → oneRef xs = some (ds, n, es) → ∃ us b ws, vs = us ++ .ref b :: ws ∧ Reps K F H us ds ∧ β[n]? = some b ∧ Reps K F H ws es
  | _, _, _, _, _, .nil, e => by cases e
  | _, _, _, _, _, .cons (x := x) a b, e => by
    cases x with
    | t d =>
      simp only [oneRef] at e
      split at e
      · rename_i hl
        cases e
        obtain ⟨us, c, ws, rfl, q1, q2, q3⟩ := oneRef_ok b hl
        exact ⟨_ :: us, c, ws, rfl, .cons a q1, q2, q3⟩
      · cases e
    | r n =>
      simp only [oneRef] at e
      split at e
      · rename_i hl
        cases e
        obtain ⟨c, hc, rfl⟩ := a
        exact ⟨[], c, _, rfl, .nil, hc, allT_ok b hl⟩
      · cases e
    | tp d n e' => cases e
theorem eTupM_tr {ea : Ev (List Val)} (h : tS K (eTupM ea) σc H Q) : tTupX (tSA K ea) σc H Q := by
  obtain ⟨F, β, σ, h, hs, sr, x, h', e, q⟩ := h
  rcases qa : ea σ h with _ | ⟨y, h1⟩ <;> simp only [eTupM, qa] at e
  · cases e
  refine ⟨F, β, σ, h, hs, sr, y, h1, qa, fun F1 β1 H1 vs hs1 x1 r1 => ?_⟩
  rcases qd : oneRef y with _ | ⟨ds, n, es⟩ <;> simp only [qd] at e
  · cases e
  split at e
  · rename_i hl
    cases e
    obtain ⟨us, b, ws, rfl, q1, q2, q3⟩ := oneRef_ok r1 qd
    refine ⟨by rw [List.length_append, List.length_cons, q1.length, q3.length]; exact hl, fun p ob hp hd => q F1 β1 _ _ (hs1.new hp) (x1.seq hs1 (hs1.ext_new hp)) ?_⟩
    exact ⟨p, b, us, ws, rfl, .inl ⟨_, upd_same, hd⟩, Reps.ex (hs1.ext_new hp).ex q1, q2, Reps.ex (hs1.ext_new hp).ex q3⟩
  · cases e
theorem eCatM_tr {ea eb : Ev Val} (h : tS K (eCatM ea eb) σc H Q) : tOp (rCatX K) (tS K ea) (tS K eb) σc H Q := by
  obtain ⟨F, β, σ, h, hs, sr, x, h', e, q⟩ := h
  unfold eCatM at e
  rcases qa : ea σ h with _ | ⟨y, h1⟩
  · rw [qa] at e; cases e
  rw [qa] at e
  cases y with
  | r n => cases e
  | tp a b c => cases e
  | t d =>
    cases d <;> simp only at e <;> try cases e
    rename_i xs
    refine ⟨F, β, σ, h, hs, sr, _, h1, qa, fun F1 β1 H1 v hs1 x1 r1 => ?_⟩
    rcases qb : eb σ h1 with _ | ⟨z, h2⟩
    · rw [qb] at e; cases e
    rw [qb] at e
    cases z with
    | r n => cases e
    | t d => cases e
    | tp ds n es =>
      simp only at e
      split at e
      rotate_left
      · cases e
      rename_i hl
      cases e
      refine ⟨F1, β1, σ, h1, hs1, sr.ext x1, _, h', qb, fun F2 β2 H2 u hs2 x2 r2 => ?_⟩
      have r1' : Rep K F2 H2 v (.tuple xs) := r1.ext x2
      obtain ⟨a, b, us, ws, rfl, tx, q1, q2, q3⟩ := r2
      cases r1' with
      | tup t1 p1 =>
        rename_i c vs
        have lx := p1.length
        have l1 := q1.length
        have l3 := q3.length
        refine ⟨c, a, vs, us ++ .ref b :: ws, rfl, rfl, t1.sq, tx.sq, by rw [List.length_append, List.length_cons]; omega, ⟨fun z => ?_, fun _ z => by simp at z⟩, fun _ _ p o hp hd => ?_⟩
        · subst z
          have : xs = [] := List.eq_nil_of_length_eq_zero (by rw [← lx]; rfl)
          subst this
          exact q F2 β2 H2 _ hs2 (x1.seq hs1 x2) ⟨a, b, us, ws, rfl, tx, q1, q2, q3⟩
        · refine q F2 β2 _ _ (hs2.new hp) ((x1.seq hs1 x2).seq hs2 (hs2.ext_new hp)) ?_
          have ex := (hs2.ext_new (o := .frz o (.tup (vs ++ (us ++ .ref b :: ws)))) hp).ex
          exact ⟨p, b, vs ++ us, ws, rfl, .inl ⟨_, by rw [List.append_assoc]; exact upd_same, hd⟩, Reps.ex ex (p1.append q1), q2, Reps.ex ex q3⟩
theorem eIdxM_tr {ea eb : Ev Val} (h : tS K (eIdxM ea eb) σc H Q) : tOp (rIxT K) (tS K ea) (tS K eb) σc H Q := by
  obtain ⟨F, β, σ, h, hs, sr, x, h', e, q⟩ := h
  unfold eIdxM at e
  rcases qa : ea σ h with _ | ⟨y, h1⟩
  · rw [qa] at e; cases e
  rw [qa] at e
  cases y with
  | r n => cases e
  | t d => cases e
  | tp ds n es =>
    simp only at e
    refine ⟨F, β, σ, h, hs, sr, _, h1, qa, fun F1 β1 H1 v hs1 x1 r1 => ?_⟩
    rcases qb : eb σ h1 with _ | ⟨z, h2⟩
    · rw [qb] at e; cases e
    rw [qb] at e
    cases z with
    | r n => cases e
    | tp a b c => cases e
    | t d =>
      cases d <;> simp only at e <;> try cases e
      rename_i k
      refine ⟨F1, β1, σ, h1, hs1, sr.ext x1, _, h2, qb, fun F2 β2 H2 u hs2 x2 r2 => ?_⟩
      obtain ⟨a, b, us, ws, rfl, tx, q1, q2, q3⟩ := r1.ext x2
      have hu : u = .int k := by
        have r2' : Rep K F2 H2 u (.int k) := r2
        cases r2'; rfl
      subst hu
      have l1 := q1.length
      split at e
      · rename_i hk
        cases e
        refine ⟨a, _, k, .ref b, rfl, rfl, tx.sq, ?_, q F2 β2 H2 _ hs2 (x1.seq hs1 x2) ⟨b, q2, rfl⟩⟩
        subst hk
        unfold atI ixN
        rw [if_pos (by omega), if_pos (by simp; omega)]
        simp only [Int.toNat_natCast]
        show (us ++ .ref b :: ws)[ds.length]? = some (.ref b)
        rw [List.getElem?_append_right (by omega)]
        simp [l1]
      · split at e
        rotate_left
        · cases e
        rename_i hk
        split at e
        rotate_left
        · cases e
        rename_i d hd
        cases e
        obtain ⟨w, hw, rw'⟩ := q1.get hd
        refine ⟨a, _, k, w, rfl, rfl, tx.sq, ?_, q F2 β2 H2 _ hs2 (x1.seq hs1 x2) rw'⟩
        unfold atI ixN
        rw [if_pos (by omega), if_pos (by simp; omega)]
        have := (List.getElem?_eq_some_iff.mp hw).1
        show (us ++ .ref b :: ws)[k.toNat]? = some w
        rw [List.getElem?_append_left this]
        exact hw
theorem eReprM_tr {ea : Ev Val} (h : tS K (eReprM ea) σc H Q) : tCB (rGN K true (g1 gRepr)) (tSA K (aCons ea aNil)) σc H Q := by
  obtain ⟨F, β, σ, h, hs, sr, x, h', e, q⟩ := h
  unfold eReprM at e
  rcases qa : ea σ h with _ | ⟨y, h1⟩
  · rw [qa] at e; cases e
  rw [qa] at e
  cases y with
  | r n => cases e
  | t d => cases e
  | tp ds n es =>
    simp only at e
    rcases qd : rd h1 (.r n) with _ | d0 <;> simp only [qd] at e
    · cases e
    rcases qg : gRepr (.tuple (ds ++ d0 :: es)) with _ | r <;> simp only [qg] at e
    · cases e
    cases e
    refine ⟨F, β, σ, h, hs, sr, [_], h', by unfold aCons aNil; rw [qa], fun F1 β1 H1 vs hs1 x1 r1 => ?_⟩
    cases r1 with
    | cons r1 r2 =>
      cases r2
      obtain ⟨a, b, us, ws, rfl, tx, q1, q2, q3⟩ := r1
      have rb := RB.of_rd hs1 (x := .r n) ⟨b, q2, rfl⟩ qd
      have ex : Ex F1 H1 (fun c => F1 c ∨ c = b) H1 := ⟨fun _ z => .inl z, fun _ _ => rfl, fun _ _ z => z, fun _ _ _ z => z⟩
      have rp : Rep K (fun c => F1 c ∨ c = b) H1 (.ref b) d0 := by
        cases rb with
        | rep z => exact Rep.ex ex z
        | l z1 z2 => exact .lst (.inl ⟨.inr rfl, z1⟩) (Reps.ex ex z2)
        | d z1 z2 => exact .dct (.inr rfl) z1 (Reps.ex ex z2.1) (Reps.ex ex z2.2)
      have hr : ∃ z, r = .str z := by
        unfold gRepr at qg
        split at qg
        · cases qg; exact ⟨_, rfl⟩
        · cases qg
      obtain ⟨z, rfl⟩ := hr
      refine ⟨_, [.tuple (ds ++ d0 :: es)], _, .cons (.rep (.tup tx ((Reps.ex ex q1).append (.cons rp (Reps.ex ex q3))))) .nil, qg, fun w H2 gt => ?_⟩
      cases gt with
      | same _ rr =>
        cases rr
        exact q F1 β1 H1 _ hs1 x1 (.str _)
/-! ### x.reverse() -/
def gReverse : List PyData → List PyData → Option (PyData × List PyData)
  | xs, [] => some (.none, xs.reverse)
  | _, _ => none
theorem reverse_ok : MOk K rReverse gReverse := by
  intro F H a ws us xs ds xs' d Q hH rw ru e q
  cases ru with
  | cons _ _ => cases e
  | nil =>
    cases e
    exact ⟨a, ws, rfl, rfl, hH, q _ _ .non rw.reverse⟩
theorem eRev_tr {ex : Ev Val} (h : tS K (eMethL gReverse ex aNil) σc H Q) : tBM0 K "list" rReverse (tS K ex) σc H Q := by
  have h2 := eMethL_tr reverse_ok h
  obtain ⟨F, β, σ, h, hs, sr, x, h', e, q⟩ := h2
  refine ⟨F, β, σ, h, hs, sr, x, h', e, fun F1 β1 H1 v hs1 x1 r1 => ?_⟩
  obtain ⟨ty, F2, β2, σ2, h3, hs2, sr2, xs, h4, e3, q3⟩ := q F1 β1 H1 v hs1 x1 r1
  cases e3
  exact ⟨ty, q3 F2 β2 H1 [] hs2 .refl .nil⟩
theorem pe_reverse0 {o : Expr} {eo : Ev Val} {apos cpos : Pos} (ho : PE X o (tS X.kw eo)) (hbase : attributeBase o "reverse" X.env (eval o X.env) = eval o X.env) (hline : (apos.endLine == cpos.line) = true) :
    PE X (.Call (.Attribute o "reverse" apos) [] [] cpos) (tS X.kw (eMethL gReverse eo aNil)) :=
  pe_mono (pe_bm0 F.plainAttrs_list F.slot_list_reverse (by first | rfl | kernel_rfl) mt_reverse ho hbase hline) fun _ _ _ _ _ _ h => eRev_tr h
end
end DE
end
section
set_option Elab.async false
set_option linter.all false
set_option maxRecDepth 100000
set_option maxHeartbeats 2000000
/-! sets whose members are tuples: what the search asks of a member -/
namespace DE
open PySem PySem.Spec PyProof.Rows L2
section
variable {P : Program} {w : World}
/-- v is of no class that the program states -/
def NoCl (P : Program) (w : World) (n : Nat) (s : Shared) (v : Value) : Prop := ∀ (A : Around) (E : Value → Shared → Prop) (Q : Bool → Shared → Prop), Q false s → wpAny (model P w) A (ofAClassStatement n v) Q E s
/-- asking how v is hashed changes nothing -/
def HashB (P : Program) (w : World) (n : Nat) (s : Shared) (v : Value) : Prop := ∀ (A : Around) (E : Value → Shared → Prop) (Q : Bool → Shared → Prop), (∀ b, Q b s) → wpAny (model P w) A (hashByValue n v) Q E s
theorem NoCl.tup {n : Nat} {s : Shared} {a : Addr} {o : Obj} {vs : Array Value} {m : Nat} (ho : s.heap.get? a = some o) (hc : o.cls = .type "tuple") (hd : o.data = .seq vs m) (q : ∀ v ∈ vs.toList, NoCl P w n s v) : NoCl P w (n + 1) s (.ref a) := fun A E Q h => by
  have hT : s.TypeIs (.ref a) "tuple" := ⟨o, ho, hc⟩
  unfold ofAClassStatement
  refine wpAny_bind (wpAny_typeOf hT ?_)
  simp only [show (("tuple" : String) == "tuple") = true from by decide, if_true]
  try refine wpAny_bind (wpAny_pure ?_)
  simp only [Bool.not_true, Bool.false_eq_true, if_false]
  refine wpAny_bind (m := seqItems? (.ref a)) (wpAny_seqItems ho hd ?_)
  refine wpAny_bind (m := forIn vs _ _) ?_
  rw [← Array.forIn_toList]
  refine wpAny_forIn_list _ (fun rest r s' => r.1 = none ∧ s' = s ∧ ∀ v ∈ rest, NoCl P w n s v) _ (fun v rest r s' I => ?_) (fun r s' I => ?_) _ _ ⟨rfl, rfl, q⟩
  · obtain ⟨_, rfl, I⟩ := I
    refine wpAny_bind (I v (by simp) _ _ _ ?_)
    simp only [Bool.false_eq_true, if_false]
    exact wpAny_pure ⟨rfl, rfl, fun u hu => I u (by simp [hu])⟩
  · obtain ⟨r1, r2⟩ := r
    obtain ⟨e, rfl, _⟩ := I
    cases e
    exact wpAny_pure h
theorem HashB.tup {n : Nat} {s : Shared} {a : Addr} {o : Obj} {vs : Array Value} {m : Nat} (ho : s.heap.get? a = some o) (hc : o.cls = .type "tuple") (hd : o.data = .seq vs m) (q : ∀ v ∈ vs.toList, HashB P w n s v) : HashB P w (n + 1) s (.ref a) := fun A E Q h => by
  have hT : s.TypeIs (.ref a) "tuple" := ⟨o, ho, hc⟩
  unfold hashByValue
  refine wpAny_bind (wpAny_specialOf hT F.slot_tuple_hash.lookup ?_)
  refine wpAny_bind (m := seqItems? (.ref a)) (wpAny_seqItems ho hd ?_)
  refine wpAny_bind (m := forIn vs _ _) ?_
  rw [← Array.forIn_toList]
  refine wpAny_forIn_list _ (fun rest r s' => s' = s ∧ ∀ v ∈ rest, HashB P w n s v) _ (fun v rest r s' I => ?_) (fun r s' I => ?_) _ _ ⟨rfl, q⟩
  · obtain ⟨rfl, I⟩ := I
    refine wpAny_bind (I v (by simp) _ _ _ fun b => ?_)
    cases b with
    | true =>
      simp only [Bool.not_true, Bool.false_eq_true, if_false]
      exact wpAny_pure ⟨rfl, fun u hu => I u (by simp [hu])⟩
    | false =>
      simp only [Bool.not_false, if_true]
      exact wpAny_pure (wpAny_pure (h _))
  · obtain ⟨r1, r2⟩ := r
    obtain ⟨rfl, _⟩ := I
    cases r1 with
    | none => exact wpAny_pure (h _)
    | some b => exact wpAny_pure (h _)
mutual
theorem noCl_of : ∀ (k : NestedKey) (v : Value) (n : Nat) (s : Shared), NestedIs s.heap k v → k.depth ≤ n → NoCl P w n s v
  | .none, _, n, s, x, _ => by cases x; intro A E Q h; cases n <;> exact wpAny_pure h
  | .num i, _, n, s, x, _ => by cases x <;> (intro A E Q h; cases n <;> exact wpAny_pure h)
  | .text y, _, n, s, x, _ => by cases x; intro A E Q h; cases n <;> exact wpAny_pure h
  | .tup ks, _, n, s, x, hn => by
    cases x with
    | tup hg hc hd hk =>
      simp only [NestedKey.depth] at hn
      cases n with
      | zero => omega
      | succ n => exact .tup hg hc hd (noCls_of ks _ n s hk (by omega))
theorem noCls_of : ∀ (ks : List NestedKey) (vs : List Value) (n : Nat) (s : Shared), NestedAll s.heap ks vs → NestedKey.depthAll ks ≤ n → ∀ v ∈ vs, NoCl P w n s v
  | [], _, n, s, x, _, v, hv => by cases x; cases hv
  | k :: ks, _, n, s, x, hn, v, hv => by
    cases x with
    | cons x1 x2 =>
      simp only [NestedKey.depthAll] at hn
      rcases List.mem_cons.mp hv with e | hv
      · subst e; exact noCl_of k _ n s x1 (by omega)
      · exact noCls_of ks _ n s x2 (by omega) v hv
end
mutual
theorem hashB_of : ∀ (k : NestedKey) (v : Value) (n : Nat) (s : Shared), NestedIs s.heap k v → k.depth ≤ n → HashB P w n s v
  | .none, _, n, s, x, _ => by cases x; intro A E Q h; cases n <;> exact wpAny_pure (h _)
  | .num i, _, n, s, x, _ => by cases x <;> (intro A E Q h; cases n <;> exact wpAny_pure (h _))
  | .text y, _, n, s, x, _ => by cases x; intro A E Q h; cases n <;> exact wpAny_pure (h _)
  | .tup ks, _, n, s, x, hn => by
    cases x with
    | tup hg hc hd hk =>
      simp only [NestedKey.depth] at hn
      cases n with
      | zero => omega
      | succ n => exact .tup hg hc hd (hashBs_of ks _ n s hk (by omega))
theorem hashBs_of : ∀ (ks : List NestedKey) (vs : List Value) (n : Nat) (s : Shared), NestedAll s.heap ks vs → NestedKey.depthAll ks ≤ n → ∀ v ∈ vs, HashB P w n s v
  | [], _, n, s, x, _, v, hv => by cases x; cases hv
  | k :: ks, _, n, s, x, hn, v, hv => by
    cases x with
    | cons x1 x2 =>
      simp only [NestedKey.depthAll] at hn
      rcases List.mem_cons.mp hv with e | hv
      · subst e; exact hashB_of k _ n s x1 (by omega)
      · exact hashBs_of ks _ n s x2 (by omega) v hv
end
abbrev Row := Addr × NestedKey
/-- the tuple of a row lies in h -/
def KeyAt (h : Heap) (p : Row) : Prop := NestedIs h p.2 (.ref p.1) ∧ p.2.depth ≤ 8
theorem KeyAt.keep {h h' : Heap} {p : Row} (x : KeyAt h p) (hk : ∀ b o vs n, h.get? b = some o → o.data = .seq vs n → h'.get? b = some o) : KeyAt h' p := ⟨NestedIs.at hk _ _ x.1, x.2⟩
variable {A : Around} {E : Value → Shared → Prop} {s : Shared}
/-- a search among such tuples shows nothing of the table -/
theorem unseen {p : Row} {ys : List Value} {Q : Bool → Shared → Prop} (hp : KeyAt s.heap p) (hy : ∀ y ∈ ys, ∃ q : Row, y = .ref q.1 ∧ KeyAt s.heap q) (h : Q false s) : wpAny (model P w) A (searchCouldBeSeen (.ref p.1) ys) Q E s := by
  unfold searchCouldBeSeen
  refine wpAny_bind ?_
  refine wpAny_forIn_list _ (fun rest r s' => r.1 = none ∧ s' = s ∧ ∀ y ∈ rest, ∃ q : Row, y = .ref q.1 ∧ KeyAt s.heap q) _ (fun v rest r s' I => ?_) (fun r s' I => ?_) _ _ ⟨rfl, rfl, hy⟩
  · obtain ⟨_, rfl, I⟩ := I
    obtain ⟨q, rfl, hq⟩ := I v (by simp)
    have I2 : ∀ y ∈ rest, ∃ q : Row, y = .ref q.1 ∧ KeyAt s'.heap q := fun u hu => I u (by simp [hu])
    by_cases c : (p.1 == q.1 || (carriedByValue (.ref p.1) && carriedByValue (.ref q.1))) = true
    · exact wp_if_pos c (wpAny_pure ⟨rfl, rfl, I2⟩)
    · refine wp_if_neg c (wpAny_bind ((nestedKind P w).quiet hp ?_))
      simp only [Bool.not_true, Bool.false_eq_true, if_false]
      refine wpAny_bind ((nestedKind P w).quiet hq ?_)
      simp only [Bool.not_true, Bool.false_eq_true, if_false]
      refine wpAny_bind (noCl_of _ _ 8 s' hp.1 hp.2 _ _ _ ?_)
      simp only [Bool.false_eq_true, if_false]
      refine wpAny_bind (noCl_of _ _ 8 s' hq.1 hq.2 _ _ _ ?_)
      simp only [Bool.false_eq_true, if_false]
      exact wpAny_pure ⟨rfl, rfl, I2⟩
  · obtain ⟨r1, r2⟩ := r
    obtain ⟨e, rfl, _⟩ := I
    cases e
    exact wpAny_pure h
end
end DE
end
section
set_option Elab.async false
set_option linter.all false
set_option maxRecDepth 100000
set_option maxHeartbeats 2000000
/-! sets whose members are tuples: search and adding -/
namespace DE
open PySem PySem.Spec PyProof.Rows L2
def hsh (w : World) (p : Row) : Int := p.2.hash w
def rowE (w : World) (p : Row) : Int × Value := (hsh w p, .ref p.1)
/-- the set at a has the rows L -/
structure SetN (w : World) (h : Heap) (a : Addr) (L : List Row) (es : Array (Int × Value)) (ep : Nat) (t : SetTable) : Prop where
  ob : ∃ o, h.get? a = some o ∧ o.ExactSet ∧ o.data = .set es ep t
  rows : es.toList = L.map (rowE w)
  tab : TabOk t (L.map (hsh w))
  nd : (L.map (·.2)).Nodup
  key : ∀ p ∈ L, KeyAt h p
  led : w.params.followText "set-order" = true ∨ t.led = true
  room : L.length * 5 < t.mask * 3
  few : L.length < 64
section
variable {P : Program} {w : World} {A : Around} {E : Value → Shared → Prop} {s : Shared} {a : Addr} {L : List Row} {es : Array (Int × Value)} {ep : Nat} {t : SetTable}
theorem rows_size (h : es.toList = L.map (rowE w)) : es.size = L.length := by rw [← Array.length_toList, h, List.length_map]
theorem rows_at (h : es.toList = L.map (rowE w)) {i : Nat} {p : Row} (e : L[i]? = some p) : es[i]? = some (hsh w p, .ref p.1) := by
  rw [← Array.getElem?_toList, h, List.getElem?_map, e]
  rfl
theorem fits_of (h1 : t.place.size = es.size) (h2 : t.dummies = #[]) (h3 : es.size ≤ t.mask) : t.fits es.size = true := by
  unfold SetTable.fits SetTable.fill
  simp only [h2, Bool.and_eq_true, beq_iff_eq, decide_eq_true_eq]
  exact ⟨h1, by rw [h1]; exact h3⟩
theorem SetN.fits (R : SetN w s.heap a L es ep t) : t.fits es.size = true := by
  have h1 := R.tab.sz
  rw [List.length_map] at h1
  have h2 := rows_size R.rows
  have h3 := R.room
  exact fits_of (by omega) R.tab.dm (by omega)
theorem SetN.keep {h h' : Heap} (R : SetN w h a L es ep t) (ha : ∀ o, h.get? a = some o → h'.get? a = some o) (hk : ∀ p ∈ L, KeyAt h' p) : SetN w h' a L es ep t := by
  obtain ⟨o, ho, z⟩ := R.ob
  exact { R with ob := ⟨o, ha o ho, z⟩, key := hk }
theorem KeyAt.but {h h' : Heap} {p : Row} {o : Obj} (x : KeyAt h p) (ho : h.get? a = some o) (hd : o.data = .set es ep t) (hs : Heap.SameBut a h h') : KeyAt h' p :=
  x.keep fun b u vs n e1 e2 => by
    rw [← e1]
    refine hs.2 b ?_
    rintro rfl
    rw [ho] at e1
    cases e1
    rw [hd] at e2
    cases e2
theorem dummy_nth (m : Nat) : ∀ (n : Nat) (p : SetTable.Probe), p.dummy = none → (nth m p n).dummy = none
  | 0, p, h => h
  | n + 1, p, h => dummy_nth m n (adv m p) (by unfold adv; split <;> exact h)
/-- the way of a hash through a table -/
abbrev walk (m : Nat) (h : Int) (c : Nat) : SetTable.Probe := nth m (runAt m (SetTable.bits h % (m + 1)) (SetTable.bits h)) c
theorem find_from (R : SetN w s.heap a L es ep t) {p : Row} (hp : KeyAt s.heap p) (hu : A.units + 8 < cLine) {K : Nat} (k1 : K < 10 * SetTable.turns t.mask) (k2 : way t.mask (hsh w p) K ∉ t.place.toList) (k3 : ∀ c, c < K → way t.mask (hsh w p) c ∈ t.place.toList) {Q : SetFound → Shared → Prop}
    (yes : p.2 ∈ L.map (·.2) → Q (.there none) s) (no : p.2 ∉ L.map (·.2) → Q (.free (way t.mask (hsh w p) K) false) s) :
    ∀ (f c : Nat) (st : Option SetTable.Probe), st.getD (t.probeStart (hsh w p)) = walk t.mask (hsh w p) c → c ≤ K → K - c < f →
      (∀ (i : Nat) (q : Row), L[i]? = some q → q.2 = p.2 → ∃ c', c ≤ c' ∧ c' < K ∧ t.place.toList[i]? = some (way t.mask (hsh w p) c')) → wpAny (model P w) A (setSearchFrom a (.ref p.1) (hsh w p) true f st) Q E s := by
  intro f
  induction f with
  | zero => intro c st _ _ h; omega
  | succ f ih =>
    intro c st e0 hc hf ahead
    obtain ⟨o, ho, hx, hd⟩ := R.ob
    rw [setSearchFrom_succ]
    refine wpAny_bind (wpAny_setState_of ho hd R.fits ?_)
    dsimp only
    refine wp_if_neg (by unfold SetTable.gaveWay; rw [mask_odd R.tab.mok]; decide) ?_
    try refine wpAny_bind (wpAny_pure ?_)
    have on : ∀ q, nth t.mask (walk t.mask (hsh w p) c) q = walk t.mask (hsh w p) (c + q) := fun q => (nth_add t.mask c _ q).symm
    have hat : ∀ (i : Nat) (q : Row), L[i]? = some q → (es[i]?.map (·.1)).getD 0 = hsh w q := fun i q e => by rw [rows_at R.rows e]; rfl
    have spec := go_spec t R.tab.ris R.tab.dm (fun i => (es[i]?.map (·.1)).getD 0) (hsh w p) (10 * SetTable.turns t.mask) (K - c) (walk t.mask (hsh w p) c) (dummy_nth _ c _ rfl) (by omega)
      (fun q hq => by rw [on]; exact k3 _ (by omega)) (by rw [on, show c + (K - c) = K by omega]; exact k2)
    simp only [on] at spec
    rcases spec with ⟨q, i, hq, hi, hh, fst, hpr⟩ | ⟨fst, hpr⟩
    · have hpr2 : t.probe (fun i => (es[i]?.map (·.1)).getD 0) (hsh w p) (st.getD (t.probeStart (hsh w p))) = some (.candidate (way t.mask (hsh w p) (c + q)) i (walk t.mask (hsh w p) (c + (q + 1)))) := by
        rw [e0]; exact hpr
      rw [hpr2]
      dsimp only
      have hil : i < L.length := by
        have z := (List.getElem?_eq_some_iff.mp hi).1
        have z2 := R.tab.sz
        rw [List.length_map] at z2
        rw [Array.length_toList] at z
        omega
      obtain ⟨r, hr⟩ : ∃ r, L[i]? = some r := ⟨_, List.getElem?_eq_getElem hil⟩
      have hrm := List.mem_of_getElem? hr
      have live : t.slot (way t.mask (hsh w p) (c + q)) = .live i := slot_live R.tab.ris hi
      have tail : wpAny (model P w) A (searchRest a (.ref p.1) (hsh w p) true f es t (way t.mask (hsh w p) (c + q)) i (walk t.mask (hsh w p) (c + (q + 1)))) Q E s := by
        unfold searchRest
        rw [rows_at R.rows hr]
        dsimp only
        refine wpAny_bind (wpAny_holding ((nestedKind P w).eqBool hu (R.key r hrm) hp ?_))
        refine wpAny_bind (wpAny_setState_of ho hd R.fits ?_)
        dsimp only
        by_cases same : r.2 = p.2
        · exact wp_if_pos (by simp [same]) (wpAny_pure (yes (List.mem_map.mpr ⟨r, hrm, same⟩)))
        refine wp_if_neg (by simp [same]) ?_
        try refine wpAny_bind (wpAny_pure ?_)
        rw [sameMem]
        dsimp only
        simp only [if_true, live, rows_at R.rows hr]
        refine wpAny_bind (wpAny_isSame_ref_self (wpAny_bind (wpAny_pure ?_)))
        simp only [if_true]
        refine wp_if_neg (by simp [same]) (ih (c + (q + 1)) _ rfl (by omega) (by omega) fun j z hz ez => ?_)
        obtain ⟨c', b1, b2, b3⟩ := ahead j z hz ez
        rcases Nat.lt_trichotomy c' (c + q) with lt | ec | gt
        · exact (fst (c' - c) j (by omega) (by rw [show c + (c' - c) = c' by omega]; exact b3) ((hat j z hz).trans (by unfold hsh; rw [ez]))).elim
        · rw [ec] at b3
          have z2 := slot_live R.tab.ris b3
          rw [live] at z2
          cases z2
          rw [hr] at hz
          cases hz
          exact absurd ez same
        · exact ⟨c', by omega, b2, b3⟩
      by_cases hl : t.led = true
      · refine wp_if_neg (by simp [hl]) ?_
        try refine wpAny_bind (wpAny_pure ?_)
        exact tail
      · refine wp_if_pos (by simp [hl]) (wpAny_bind (unseen hp (fun y hy => ?_) ?_))
        · obtain ⟨e, he, rfl⟩ := List.mem_map.mp hy
          have he2 : e ∈ es.toList := by have z : e ∈ es ∧ e.1 = hsh w p := by simpa using he
                                         simpa using z.1
          rw [R.rows] at he2
          obtain ⟨r2, hr2, rfl⟩ := List.mem_map.mp he2
          exact ⟨r2, rfl, R.key r2 hr2⟩
        · refine wp_if_neg (by decide) ?_
          try refine wpAny_bind (wpAny_pure ?_)
          exact tail
    · have hpr2 : t.probe (fun i => (es[i]?.map (·.1)).getD 0) (hsh w p) (st.getD (t.probeStart (hsh w p))) = some (.empty (way t.mask (hsh w p) K) none) := by
        rw [show c + (K - c) = K by omega] at hpr
        rw [e0]; exact hpr
      rw [hpr2]
      dsimp only
      refine wpAny_pure (no fun hm => ?_)
      obtain ⟨z, hz, ez⟩ := List.mem_map.mp hm
      obtain ⟨j, hj, e⟩ := List.getElem_of_mem hz
      have hz2 : L[j]? = some z := by rw [List.getElem?_eq_getElem hj, e]
      obtain ⟨c', b1, b2, b3⟩ := ahead j z hz2 ez
      exact fst (c' - c) j (by omega) (by rw [show c + (c' - c) = c' by omega]; exact b3) ((hat j z hz2).trans (by unfold hsh; rw [ez]))
theorem find_at (R : SetN w s.heap a L es ep t) {p : Row} (hp : KeyAt s.heap p) (hu : A.units + 8 < cLine) {Q : SetFound → Shared → Prop} (yes : p.2 ∈ L.map (·.2) → Q (.there none) s)
    (no : ∀ K, p.2 ∉ L.map (·.2) → way t.mask (hsh w p) K ∉ t.place.toList → (∀ c, c < K → way t.mask (hsh w p) c ∈ t.place.toList) → Q (.free (way t.mask (hsh w p) K) false) s) :
    wpAny (model P w) A (setSearch a (.ref p.1) (hsh w p) true) Q E s := by
  have hro := R.room
  have hsz := R.tab.sz
  rw [List.length_map] at hsz
  obtain ⟨K, k1, k2, k3⟩ := R.tab.first (by rw [List.length_map]; omega) (hsh w p)
  have k4 : K < 100000 := by
    have z : SetTable.turns t.mask ≤ 142 := by
      unfold SetTable.turns
      rcases R.tab.mok with e | e | e <;> omega
    omega
  unfold setSearch
  refine find_from R hp hu k1 k2 k3 yes (fun z => no K z k2 k3) 100000 0 none rfl (Nat.zero_le _) (by omega) fun i q hq eq => ?_
  have hi : i < t.place.toList.length := by
    have := (List.getElem?_eq_some_iff.mp hq).1
    rw [Array.length_toList]
    omega
  obtain ⟨c, hc, e⟩ := R.tab.before (h := hsh w p) (i := i) k2 (by rw [List.getElem?_map, hq]; show some (hsh w q) = _; unfold hsh; rw [eq]) (List.getElem?_eq_getElem hi)
  exact ⟨c, Nat.zero_le _, hc, by rw [List.getElem?_eq_getElem hi, e]⟩
end
end DE
end
section
set_option Elab.async false
set_option linter.all false
set_option maxRecDepth 100000
set_option maxHeartbeats 3200000
/-! sets whose members are tuples: adding, set(xs) -/
namespace DE
open PySem PySem.Spec PyProof.Rows L2
theorem picked : ∀ (L : List Row), (List.range L.length).filterMap (fun i => L[i]?) = L
  | [] => rfl
  | x :: L => by
    rw [List.length_cons, List.range_succ_eq_map, List.filterMap_cons_some (f := fun i => (x :: L)[i]?) (a := 0) (b := x) rfl, List.filterMap_map]
    exact congrArg (x :: ·) (picked L)
theorem rows_all {w : World} {L : List Row} {es : Array (Int × Value)} (h : es.toList = L.map (rowE w)) (i : Nat) : es[i]? = (L[i]?).map (rowE w) := by rw [← Array.getElem?_toList, h, List.getElem?_map]
theorem reordered {w : World} {L : List Row} {es : Array (Int × Value)} {order : Array Nat} (h : es.toList = L.map (rowE w)) (hp : order.toList.Perm (List.range L.length)) :
    ∃ M : List Row, (order.filterMap (es[·]?)).toList = M.map (rowE w) ∧ M.Perm L ∧ M.map (hsh w) = order.toList.map fun i => (es.map (·.1)).getD i 0 := by
  refine ⟨order.toList.filterMap fun i => L[i]?, ?_, ?_, ?_⟩
  · rw [Array.toList_filterMap, List.map_filterMap]
    exact congrArg (fun f => List.filterMap f order.toList) (funext fun i => rows_all h i)
  · have z := hp.filterMap fun i => L[i]?
    rw [picked] at z
    exact z
  · have lt : ∀ i ∈ order.toList, i < L.length := fun i hi => List.mem_range.mp (hp.mem_iff.mp hi)
    generalize order.toList = l at lt
    induction l with
    | nil => rfl
    | cons i l ih =>
      have hi := lt i (by simp)
      rw [List.filterMap_cons_some (b := L[i]) (List.getElem?_eq_getElem hi), List.map_cons, List.map_cons, ih fun j hj => lt j (by simp [hj])]
      congr 1
      have e : (es.map (·.1))[i]? = some (hsh w L[i]) := by rw [Array.getElem?_map, rows_all h, List.getElem?_eq_getElem hi]; rfl
      rw [Array.getD_eq_getD_getElem?, e]
      rfl
section
variable {P : Program} {w : World} {A : Around} {E : Value → Shared → Prop} {s : Shared} {a : Addr} {L : List Row} {es : Array (Int × Value)} {ep : Nat} {t : SetTable}
/-- what a set is behind a store, ahead of laying it anew -/
structure Raw (w : World) (h : Heap) (a : Addr) (L : List Row) (es : Array (Int × Value)) (ep : Nat) (t : SetTable) : Prop where
  ob : ∃ o, h.get? a = some o ∧ o.ExactSet ∧ o.data = .set es ep t
  rows : es.toList = L.map (rowE w)
  tab : TabOk t (L.map (hsh w))
  nd : (L.map (·.2)).Nodup
  key : ∀ p ∈ L, KeyAt h p
  led : w.params.followText "set-order" = true ∨ t.led = true
  few : L.length < 64
theorem relay_n (R : Raw w s.heap a L es ep t) (fl : es.size ≤ t.mask) {wanted M : Nat} (hw : SetTable.sizeAbove wanted - 1 = M) (hM : MaskOk M) (hw2 : SetTable.sizeAbove wanted ≤ 128) (hn : L.length * 5 < M * 3) {Q : Unit → Shared → Prop}
    (q : ∀ h' L' es' ep' t', Heap.SameBut a s.heap h' → SetN w h' a L' es' ep' t' → L'.Perm L → Q () { s with heap := h' }) : wpAny (model P w) A (setRelay a wanted) Q E s := by
  obtain ⟨o, ho, hx, hd⟩ := R.ob
  have hl := rows_size R.rows
  have hs := R.tab.sz
  rw [List.length_map] at hs
  have hfew := R.few
  obtain ⟨t2, order, e, hp, T, em, el, _, _⟩ := relaid_ok t (hs := es.map (·.1)) (wanted := wanted) hw hM (by rw [Array.size_map]; omega)
  rw [Array.size_map, hl] at hp
  obtain ⟨M2, r1, r2, r3⟩ := reordered R.rows hp
  rw [← r3] at T
  have hs2 : (order.filterMap (es[·]?)).size = es.size := by rw [rows_size r1, r2.length_eq, hl]
  rw [setRelay_eq]
  refine wpAny_bind (wpAny_setState_of ho hd (fits_of (by omega) R.tab.dm fl) ?_)
  dsimp only
  refine wp_if_neg (by rw [sizeLine_eq]; omega) ?_
  try refine wpAny_bind (wpAny_pure ?_)
  rw [e]
  dsimp only
  refine wpAny_bind (wp_if_neg (by rw [hs2]; simp) ?_)
  try refine wpAny_bind (wpAny_pure ?_)
  refine wpAny_pure ?_
  dsimp only
  refine wpAny_storeSet_of ho hd ?_ (by rw [hs2, sizeLine_eq]; omega)
  have sb : Heap.SameBut a s.heap (s.heap.update a (Obj.putSet (order.filterMap (es[·]?)) t2)) := Heap.SameBut.update ..
  exact q _ M2 _ _ t2 sb ⟨⟨_, store_at ho hd, ⟨hx.1, hx.2.1, hx.2.2⟩, rfl⟩, r1, T, (r2.map _).nodup_iff.mpr R.nd, fun p hp => (R.key p (r2.mem_iff.mp hp)).but ho hd sb, by rw [el]; exact R.led, by rw [r2.length_eq, em]; exact hn, by rw [r2.length_eq]; exact hfew⟩ r2
theorem ins_perm {α : Type} (l : List α) (n : Nat) (x : α) : (l.take n ++ x :: l.drop n).Perm (x :: l) := by
  refine List.perm_middle.trans (.cons x ?_)
  rw [List.take_append_drop]
theorem map_ins {α β : Type} (f : α → β) (l : List α) (n : Nat) (x : α) : (l.take n ++ x :: l.drop n).map f = (l.map f).take n ++ f x :: (l.map f).drop n := by rw [List.map_append, List.map_cons, List.map_take, List.map_drop]
/-- p is added -/
theorem add_n (R : SetN w s.heap a L es ep t) {p : Row} (hp : KeyAt s.heap p) (hu : A.units + 8 < cLine) (hfew : p.2 ∉ L.map (·.2) → L.length + 1 < 64) {Q : Bool → Shared → Prop}
    (q : ∀ b h' L' es' ep' t', Heap.SameBut a s.heap h' → SetN w h' a L' es' ep' t' → ((p.2 ∈ L.map (·.2) ∧ L' = L) ∨ (p.2 ∉ L.map (·.2) ∧ L'.Perm (p :: L))) → Q b { s with heap := h' }) :
    wpAny (model P w) A (setAddHashed a (.ref p.1) (hsh w p)) Q E s := by
  obtain ⟨o, ho, hx, hd⟩ := R.ob
  have hl := rows_size R.rows
  have hro := R.room
  unfold setAddHashed
  refine wpAny_holding ?_
  rw [show (100000 : Nat) = 99999 + 1 from rfl, setAddHashedIn_succ]
  refine wpAny_bind (wpAny_setState_of ho hd R.fits ?_)
  dsimp only
  refine wp_if_neg (by simp [byScan, Value.scannable]) ?_
  try refine wpAny_bind (wpAny_pure ?_)
  refine wpAny_bind (find_at R hp hu (fun hm => ?_) fun K hm hK hb => ?_)
  · exact wpAny_pure (q false s.heap L es ep t (Heap.SameBut.refl a s.heap) R (.inl ⟨hm, rfl⟩))
  have hfew := hfew hm
  dsimp only
  refine wpAny_bind (wpAny_setState_of ho hd R.fits ?_)
  dsimp only
  obtain ⟨q1, q2, q3, q4, q5, _, _, _, q9⟩ := R.tab.put hK hb
  generalize t.put (way t.mask (hsh w p) K) = pt at q1 q3 q4 q5 q9 ⊢
  obtain ⟨t1, n⟩ := pt
  simp only at q1 q3 q4 q5 q9
  rw [← q1] at q3
  rw [List.length_map] at q9
  rw [← map_ins] at q3
  have hin : (SetTable.insertAt es n (hsh w p, Value.ref p.1)).toList = (L.take n ++ p :: L.drop n).map (rowE w) := by
    rw [SetTable.toList_insertAt, map_ins, R.rows]
    rfl
  have pm := ins_perm L n p
  generalize L.take n ++ p :: L.drop n = L1 at q3 hin pm
  generalize SetTable.insertAt es n (hsh w p, Value.ref p.1) = es1 at hin
  have hl1 : L1.length = L.length + 1 := by rw [pm.length_eq]; rfl
  have nd1 : (L1.map (·.2)).Nodup := (pm.map (·.2)).nodup_iff.mpr (List.nodup_cons.mpr ⟨hm, R.nd⟩)
  have hes : es1.size = L.length + 1 := by rw [rows_size hin, hl1]
  have fin : ∀ t2 : SetTable, TabOk t2 (L1.map (hsh w)) → t2.mask = t.mask → t2.led = t.led → t2.fill = L.length + 1 →
      wpAny (model P w) A (do
        storeSet a es1 t2
        if !false && t2.tooFull then
          setRelay a (SetTable.grown (es.size + 1))
        return true) Q E s := fun t2 T em el ef => by
    refine wpAny_bind (wpAny_storeSet_of ho hd ?_ (by rw [hes, sizeLine_eq]; omega))
    have sb : Heap.SameBut a s.heap (s.heap.update a (Obj.putSet es1 t2)) := Heap.SameBut.update ..
    have ho1 := store_at (es' := es1) (t' := t2) ho hd
    generalize s.heap.update a (Obj.putSet es1 t2) = h1 at sb ho1 ⊢
    have key1 : ∀ r ∈ L1, KeyAt h1 r := fun r hr => by
      rcases List.mem_cons.mp (pm.mem_iff.mp hr) with rfl | hr
      · exact hp.but ho hd sb
      · exact (R.key r hr).but ho hd sb
    have raw : Raw w h1 a L1 es1 (ep + 1) t2 := ⟨⟨_, ho1, ⟨hx.1, hx.2.1, hx.2.2⟩, rfl⟩, hin, T, nd1, key1, by rw [el]; exact R.led, by omega⟩
    by_cases hf : t2.tooFull = true
    · have full : (L.length + 1) * 5 ≥ t.mask * 3 := by
        have z := hf
        unfold SetTable.tooFull at z
        rw [decide_eq_true_eq, ef, em] at z
        exact z
      have two : (t.mask = 7 ∧ L.length = 4) ∨ (t.mask = 31 ∧ L.length = 18) := by
        rcases R.tab.mok with e | e | e <;> rw [e] at full hro
        · exact .inl ⟨e, by omega⟩
        · exact .inr ⟨e, by omega⟩
        · omega
      have go : ∀ M, SetTable.sizeAbove (SetTable.grown (es.size + 1)) - 1 = M → MaskOk M → SetTable.sizeAbove (SetTable.grown (es.size + 1)) ≤ 128 → (L.length + 1) * 5 < M * 3 →
          wpAny (model P w) A (setRelay a (SetTable.grown (es.size + 1)) >>= fun _ => pure true) Q E { s with heap := h1 } := fun M z1 z2 z3 z4 =>
        wpAny_bind (relay_n (s := { s with heap := h1 }) raw (by rw [hes, em]; rcases two with ⟨e, e2⟩ | ⟨e, e2⟩ <;> omega) z1 z2 z3 (by rw [hl1]; exact z4) fun h2 L2 es2 ep2 t2 sb2 R2 pm2 => wpAny_pure (q true h2 L2 es2 ep2 t2 (sb.trans sb2) R2 (.inr ⟨hm, pm2.trans pm⟩)))
      have gg : wpAny (model P w) A (setRelay a (SetTable.grown (es.size + 1)) >>= fun _ => pure true) Q E { s with heap := h1 } := by
        rw [hl] at go ⊢
        rcases two with ⟨_, e2⟩ | ⟨_, e2⟩
        · exact go 31 (by rw [e2, size_20]) (.inr (.inl rfl)) (by rw [e2, size_20]; decide) (by omega)
        · exact go 127 (by rw [e2, size_76]) (.inr (.inr rfl)) (by rw [e2, size_76]; decide) (by omega)
      first
        | exact wp_if_pos (by simp [hf]) gg
        | (refine wpAny_bind (wp_if_pos (by simp [hf]) ?_); exact wpAny_mono gg (fun _ _ z => z) fun _ _ z => z)
    · have rm : L1.length * 5 < t2.mask * 3 := by
        have z := hf
        unfold SetTable.tooFull at z
        rw [decide_eq_true_eq, ef, em] at z
        rw [hl1, em]
        omega
      have sn : SetN w h1 a L1 es1 (ep + 1) t2 := ⟨raw.ob, raw.rows, raw.tab, raw.nd, raw.key, raw.led, rm, raw.few⟩
      first
        | exact wp_if_neg (by simp [hf]) (wpAny_pure (q true h1 L1 es1 _ t2 sb sn (.inr ⟨hm, pm⟩)))
        | (refine wpAny_bind (wp_if_neg (by simp [hf]) (wpAny_pure ?_)); exact wpAny_pure (q true h1 L1 es1 _ t2 sb sn (.inr ⟨hm, pm⟩)))
  have both : ∀ b : Bool, wpAny (model P w) A (do
      storeSet a es1 (if b = true then t1 else { t1 with plain := false })
      if !false && (if b = true then t1 else { t1 with plain := false }).tooFull then
        setRelay a (SetTable.grown (es.size + 1))
      return true) Q E s := fun b => by
    cases b with
    | true => exact fin t1 q3 q4 q5 q9
    | false => exact fin { t1 with plain := false } ⟨q3.ris, q3.dm, q3.sz, q3.mok, q3.bd, q3.reach⟩ q4 q5 q9
  by_cases pl : t1.plain = true
  · first
      | (refine wpAny_bind (wp_if_pos pl ?_); exact hashB_of _ _ 8 s hp.1 hp.2 _ _ _ both)
      | (refine wp_if_pos pl (wpAny_bind ?_); exact hashB_of _ _ 8 s hp.1 hp.2 _ _ _ both)
  · first
      | (refine wpAny_bind (wp_if_neg pl (wpAny_pure ?_)); exact both true)
      | (refine wp_if_neg pl ?_; exact both true)
      | (refine wp_if_neg pl (wpAny_bind (wpAny_pure ?_)); exact both true)
end
end DE
end
section
set_option Elab.async false
set_option linter.all false
set_option maxRecDepth 100000
set_option maxHeartbeats 3200000
/-! set(xs), xs a tuple of tuples -/
namespace DE
open PySem PySem.Spec PyProof.Rows L2
/-- the set has each of the first i once -/
structure Has (ks : List Row) (i : Nat) (L : List Row) : Prop where
  sub : ∀ p ∈ L, p ∈ ks.take i
  all : ∀ p ∈ ks.take i, p.2 ∈ L.map (·.2)
  len : L.length ≤ i
theorem Has.nx {ks L L' : List Row} {i : Nat} {p : Row} (g : Has ks i L) (e : ks[i]? = some p) (c : (p.2 ∈ L.map (·.2) ∧ L' = L) ∨ (p.2 ∉ L.map (·.2) ∧ L'.Perm (p :: L))) : Has ks (i + 1) L' := by
  have et : ks.take (i + 1) = ks.take i ++ [p] := by rw [List.take_add_one, e]; rfl
  rcases c with ⟨hm, rfl⟩ | ⟨_, pm⟩
  · refine ⟨fun q hq => by rw [et]; exact List.mem_append_left _ (g.sub q hq), fun q hq => ?_, Nat.le_succ_of_le g.len⟩
    rw [et] at hq
    rcases List.mem_append.mp hq with hq | hq
    · exact g.all q hq
    · simp only [List.mem_cons, List.not_mem_nil, or_false] at hq; subst hq; exact hm
  · refine ⟨fun q hq => ?_, fun q hq => ?_, by rw [pm.length_eq]; exact Nat.succ_le_succ g.len⟩
    · rw [et]
      rcases List.mem_cons.mp (pm.mem_iff.mp hq) with rfl | hq
      · simp
      · exact List.mem_append_left _ (g.sub q hq)
    · rw [(pm.map (·.2)).mem_iff, List.map_cons]
      rw [et] at hq
      rcases List.mem_append.mp hq with hq | hq
      · exact List.mem_cons_of_mem _ (g.all q hq)
      · simp only [List.mem_cons, List.not_mem_nil, or_false] at hq; subst hq; simp
section
variable {P : Program} {w : World} {A : Around} {E : Value → Shared → Prop} {s : Shared}
theorem freshN {h : Heap} {a : Addr} (ho : h.get? a = some (newSet w)) : SetN w h a [] #[] 0 (.fresh 0 0 (!w.params.followText "set-order")) :=
  ⟨⟨_, ho, ⟨rfl, rfl, rfl⟩, rfl⟩, rfl, ⟨List.Pairwise.nil, rfl, rfl, .inl rfl, (fun x hx => by cases hx), (fun i h j hi => by simp at hi)⟩, List.nodup_nil, (fun p hp => by cases hp),
    (by show _ ∨ (!w.params.followText "set-order") = true; cases w.params.followText "set-order" <;> simp), (by show 0 * 5 < 7 * 3; decide), (by show 0 < 64; decide)⟩
theorem loopN {I : Addr} {fp wr : List Addr} {G : Array GenState → Array GenState → Prop} {n : Nat} {Pv : Nat → Value → Prop} {St : Nat → Shared → Prop} {R : Result → Shared → Prop}
    (W : WalksS P w A.in1 I fp wr G n Pv St) (S : Addr) (nS : S ∉ fp) (ks : List Row) (en : n = ks.length) (few : ∀ M : List NestedKey, M.Nodup → (∀ k ∈ M, k ∈ ks.map (·.2)) → M.length < 64) (val : ∀ i v, Pv i v → ∃ p, ks[i]? = some p ∧ v = .ref p.1)
    (h0 : Heap) (hk : ∀ p ∈ ks, KeyAt h0 p) (S0 : h0.get? S = none) (w0 : ∀ b ∈ wr, h0.get? b = none) (hu : A.in1.units + 8 < cLine) :
    ∀ (m i : Nat) (s : Shared), n - i = m → i ≤ n → St i s → (∀ b o, h0.get? b = some o → s.heap.get? b = some o) → (∃ L es ep t, SetN w s.heap S L es ep t ∧ Has ks i L) →
      (∀ s' L es ep t, Moved (S :: wr) G s s' → SetN w s'.heap S L es ep t → Has ks n L → R (.ok (.ret .none)) s') →
      codeAny (model P w) A (.builtin "set.update.loop" ⟨[Value.ref S, Value.ref I], []⟩) R s := by
  have nw : S ∉ wr := fun z => nS (W.sub _ z)
  have sb : ∀ b ∈ wr, b ∈ S :: wr := fun b z => List.mem_cons_of_mem _ z
  have kp : ∀ {s s' : Shared}, Moved wr G s s' → (∀ b o, h0.get? b = some o → s.heap.get? b = some o) → ∀ b o, h0.get? b = some o → s'.heap.get? b = some o := fun mv k b o e =>
    mv.heap b o (fun hb => by rw [w0 b hb] at e; cases e) (k b o e)
  have ke : ∀ {h : Heap}, (∀ b o, h0.get? b = some o → h.get? b = some o) → ∀ p ∈ ks, KeyAt h p := fun k p hp => (hk p hp).keep fun b o _ _ e _ => k b o e
  intro m
  induction m with
  | zero =>
    intro i s em hi st k hS out
    have ei : i = n := by omega
    subst ei
    obtain ⟨L, es, ep, t, hS, g⟩ := hS
    refine codeAny_builtin (PyProof.Rows.F.entry_set_update_loop) ?_
    rw [Around.under_plainId (PyProof.Rows.F.plain_set_update_loop) _]
    show wpAny _ A.in1 (pyNext (Value.ref I) >>= _) _ _ s
    refine wpAny_bind (W.done s _ _ st fun s' mv => ?_)
    show wpAny _ (A.in1) (ret Value.none) _ _ s'
    exact wpAny_pure (out s' L es ep t (mv.mono sb) (hS.keep (fun o e => mv.heap S o nw e) fun p hp => ke (kp mv k) p (List.mem_of_mem_take (g.sub p hp))) g)
  | succ m ih =>
    intro i s em hi st k hS out
    have lt : i < n := by omega
    obtain ⟨L, es, ep, t, hS, g⟩ := hS
    refine codeAny_builtin (PyProof.Rows.F.entry_set_update_loop) ?_
    rw [Around.under_plainId (PyProof.Rows.F.plain_set_update_loop) _]
    show wpAny _ A.in1 (pyNext (Value.ref I) >>= _) _ _ s
    refine wpAny_bind (W.item i s _ _ lt st fun v s' pv st' mv => ?_)
    obtain ⟨p, ez, rfl⟩ := val i v pv
    have k1 := kp mv k
    have hS1 : SetN w s'.heap S L es ep t := hS.keep (fun o e => mv.heap S o nw e) fun q hq => ke k1 q (List.mem_of_mem_take (g.sub q hq))
    have hp := ke k1 p (List.mem_of_getElem? ez)
    show wpAny _ A.in1 (holding [Value.ref p.1] (setAdd S (.ref p.1)) >>= _) _ _ s'
    refine wpAny_bind (m := holding _ _) (wpAny_holding ?_)
    unfold setAdd
    refine wpAny_holding ?_
    refine wpAny_bind ((nestedKind P w).pyHash (k := p.2) hu hp ?_)
    refine add_n (s := { s' with toks := s'.toks + p.2.draws }) hS1 hp hu (fun hm => ?_) fun b h' L' es' ep' t' same hS2 c => ?_
    · have z := few (p.2 :: L.map (·.2)) (List.nodup_cons.mpr ⟨hm, hS1.nd⟩) fun k hk => by
        rcases List.mem_cons.mp hk with rfl | hk
        · exact List.mem_map_of_mem (List.mem_of_getElem? ez)
        · obtain ⟨y, hy, rfl⟩ := List.mem_map.mp hk
          exact List.mem_map_of_mem (List.mem_of_mem_take (g.sub y hy))
      simpa using z
    refine wpAny_pure ⟨plainId_quiet PyProof.Rows.F.plain_set_update_loop _, ih (i + 1) _ (by omega) lt (W.frame _ s' _ _ st' (Nat.le_add_right _ _) fun b hb o e => ?_) (fun b o e => ?_) ⟨L', es', ep', t', hS2, g.nx ez c⟩ fun s'' L2 es2 ep2 t2 mv2 hS4 g2 => ?_⟩
    · rw [same.2 b (fun z : b = S => nS (by rw [← z]; exact hb))]; exact e
    · exact (same.2 b fun z => by rw [z, S0] at e; cases e).trans (k1 b o e)
    · refine out s'' L2 es2 ep2 t2 (Moved.trans W.gtrans ((mv.mono sb).then_heap (Nat.le_add_right _ _) fun b o hb e => ?_) mv2) hS4 g2
      rw [same.2 b (fun z : b = S => hb (by rw [z]; exact List.mem_cons_self))]; exact e
theorem set_of_tuples {l : Addr} {items : Array Value} (ks : List Row) {Q : Value → Shared → Prop} (hh : A.handled = none) (hl : s.heap.IsTuple l items) (hit : items.toList = ks.map fun p => Value.ref p.1) (hk : ∀ p ∈ ks, KeyAt s.heap p) (few : ∀ M : List NestedKey, M.Nodup → (∀ k ∈ M, k ∈ ks.map (·.2)) → M.length < 64) (hu : A.units + 64 < cLine)
    (h : ∀ (h' : Heap) (tk : Nat) L es ep t, SetN w h' s.heap.objs.size L es ep t → Has ks ks.length L → (∀ b o, s.heap.get? b = some o → h'.get? b = some o) → Q (.ref s.heap.objs.size) { s with heap := h', toks := tk }) :
    wpAny (model P w) A (call (.type "set") [.ref l]) Q E s := by
  have hisz : items.size = ks.length := by rw [← Array.length_toList, hit, List.length_map]
  obtain ⟨_, _, _⟩ := F.called_set.mro
  have a1 := F.called_set.made
  have a2 := F.called_set.sub
  refine wpAny_call (codeAny_of_tree ?_)
  show wpAny _ _ (callAny (.type "set") _) _ _ _
  refine wpAny_pure ⟨Code.quiet_builtin _ (by decide +kernel), codeAny_builtin F.entry_type_call ?_⟩
  rw [Around.under_plain (weight_type_call_type "set" [.ref l] []) rfl]
  have a3 := F.called_set.notType
  have a4 := F.called_set.canCreate
  have a5 := F.typeCall_set_1 (.ref l)
  repeat (any_goals (first | assumption | wp_step))
  refine codeAny_mono (code_set_led1 (.ref l) (E := E) (Q₁ := fun obj s₁ => obj = .ref s.heap.objs.size ∧ s₁ = { s with heap := s.heap.push (newSet w) }) ⟨rfl, rfl⟩) fun r s₁ hr => ?_
  rcases r with e | fl
  · exact hr
  rcases fl with obj | _ | _ | _ <;> try exact hr.elim
  obtain ⟨rfl, rfl⟩ := hr
  have hS : (s.heap.push (newSet w)).get? s.heap.objs.size = some (newSet w) := Heap.get?_push_size _ rfl
  have hT : Shared.TypeIs { s with heap := s.heap.push (newSet w) } (.ref s.heap.objs.size) "set" := ⟨_, hS, rfl⟩
  have a6 := F.called_set.init.lookup
  have a7 := F.called_set.init.bind (.ref s.heap.objs.size)
  repeat (any_goals (first | assumption | wp_step))
  refine codeAny_mono (codeAny_call_builtin (R := wants (fun r s₂ => r = .none ∧ ∃ h' tk L es ep t, s₂ = { s with heap := h', toks := tk } ∧ SetN w h' s.heap.objs.size L es ep t ∧ Has ks ks.length L ∧
      (∀ b o, s.heap.get? b = some o → h'.get? b = some o)) E) F.called_set.init.plain F.entry_set_init (check_set_init_1 hT ?_)) fun r₂ s₂ hr₂ => ?_
  · obtain ⟨⟨ocls, odict, odata, oslots⟩, hol, hcl, nl, hdl⟩ := hl
    simp only at hcl hdl
    subst hcl; subst hdl
    have hol' : (s.heap.push (newSet w)).get? l = some { cls := .type "tuple", dict := odict, data := .seq items nl, slots := oslots } := Heap.get?_push_of_some _ hol
    have a8 := F.sub_tuple_set
    have a9 := F.sub_tuple_frozenset
    have a10 : (Value.type "tuple" == Value.type "dict") = false := by decide
    have hl1 : (s.heap.push (newSet w)).IsTuple l items := ⟨_, hol', rfl, nl, rfl⟩
    unfold Builtin.«set.__init__» noKeywords Builtin.Frozenset.updateFrom
    generalize hPI : pyIter = PI
    wp_walk
    subst hPI
    refine wpAny_pyIter_tuple hl1 ?_
    refine wpAny_bind (wpAny_runValue ?_)
    have hlS : l < s.heap.objs.size := Heap.lt_size hol
    have hz : (s.heap.push (newSet w)).objs.size = s.heap.objs.size + 1 := Heap.size_push ..
    have gone : ∀ b, s.heap.objs.size ≤ b → s.heap.get? b = none := fun b hb => by
      cases e : s.heap.get? b with
      | none => rfl
      | some o => exact absurd (Heap.lt_size e) (Nat.not_lt.mpr hb)
    refine loopN ((Walks.tuple (by simp [hh]) _ l (by rw [hz]; exact Nat.ne_of_lt (Nat.lt_succ_of_lt hlS)) items).toS) s.heap.objs.size
      (by rw [hz]; simp only [List.mem_cons, List.not_mem_nil, or_false, not_or]; exact ⟨Nat.ne_of_lt (Nat.lt_succ_self _), Nat.ne_of_gt hlS⟩) ks hisz few (fun i v hv => ?_) s.heap hk (gone _ (Nat.le_refl _)) (fun b hb => gone b ?_) ?_ (items.size - 0) 0 _ (by omega) (Nat.zero_le _)
      ⟨⟨_, Heap.get?_push_size _ rfl, rfl, rfl⟩, (hl1.push _)⟩ (fun b o e => Heap.get?_push_of_some _ (Heap.get?_push_of_some _ e)) ⟨[], _, _, _, freshN (Heap.get?_push_of_some _ hS), ⟨(fun p hp => by cases hp), (fun p hp => by simp at hp), Nat.le_refl _⟩⟩ fun s' L es ep t hm hS' g => ?_
    · have e : items.toList[i]? = some v := by rw [Array.getElem?_toList]; exact hv
      rw [hit, List.getElem?_map] at e
      obtain ⟨p, hp, rfl⟩ := Option.map_eq_some_iff.mp e
      exact ⟨p, hp, rfl⟩
    · rw [hz] at hb
      simp only [List.mem_cons, List.not_mem_nil, or_false] at hb
      rw [hb]
      exact Nat.le_succ _
    · show A.units + 1 + 1 + 1 + 8 < cLine
      omega
    · obtain ⟨h', g2, d', tk', os'⟩ := s'
      obtain rfl : g2 = s.gens := hm.gens
      obtain rfl : d' = s.drawn := hm.drawn
      obtain rfl : os' = s.os := hm.os
      show wpAny _ _ _ _ _ _
      refine wpAny_pure ?_
      show wpAny _ _ (ret Value.none) _ _ _
      refine wpAny_pure ⟨rfl, h', tk', L, es, ep, t, rfl, hS', by rw [hisz] at g; exact g, fun b o e => ?_⟩
      have hb0 : b < s.heap.objs.size := Heap.lt_size e
      refine hm.heap b o ?_ (Heap.get?_push_of_some _ (Heap.get?_push_of_some _ e))
      rw [hz]
      simp only [List.mem_cons, List.not_mem_nil, or_false, not_or]
      exact ⟨Nat.ne_of_lt hb0, Nat.ne_of_lt (Nat.lt_succ_of_lt hb0)⟩
  · rcases r₂ with e | fl
    · exact hr₂
    rcases fl with obj | _ | _ | _ <;> try exact hr₂.elim
    obtain ⟨rfl, h', tk, L, es, ep, t, rfl, sS, g, hk'⟩ := hr₂
    repeat (any_goals (first | assumption | wp_step))
    exact h _ _ L es ep t sS g hk'
end
end DE
end
section
set_option Elab.async false
set_option linter.all false
set_option maxRecDepth 100000
set_option maxHeartbeats 2000000
/-! sorted(set(xs)), xs a tuple of pairs of a text and a number -/
namespace DE
open PySem PySem.Spec PyProof.Rows L2
theorem perm_lift {α β : Type} {f : α → β} {out l : List β} (h : out.Perm l) : ∀ L : List α, l = L.map f → ∃ M : List α, M.Perm L ∧ out = M.map f := by
  induction h with
  | nil =>
    intro L e
    cases L with
    | nil => exact ⟨[], .nil, rfl⟩
    | cons a L => cases e
  | cons x h ih =>
    intro L e
    cases L with
    | nil => cases e
    | cons a L =>
      rw [List.map_cons, List.cons.injEq] at e
      obtain ⟨M, p, e2⟩ := ih L e.2
      exact ⟨a :: M, .cons a p, by rw [List.map_cons, e.1, e2]⟩
  | swap x y l =>
    intro L e
    match L, e with
    | a :: b :: L, e =>
      simp only [List.map_cons, List.cons.injEq] at e
      exact ⟨b :: a :: L, .swap a b L, by simp only [List.map_cons, e]⟩
  | trans h1 h2 ih1 ih2 =>
    intro L e
    obtain ⟨M2, p2, e2⟩ := ih2 L e
    obtain ⟨M, p, e3⟩ := ih1 M2 e2
    exact ⟨M, p.trans p2, e3⟩
theorem nd_le {α : Type} [DecidableEq α] : ∀ {l r : List α}, l.Nodup → (∀ k ∈ l, k ∈ r) → l.length ≤ r.length
  | [], _, _, _ => Nat.zero_le _
  | a :: l, r, h, m => by
    obtain ⟨h1, h2⟩ := List.nodup_cons.mp h
    have ha := m a (by simp)
    have z := nd_le (r := r.erase a) h2 fun k hk => (List.mem_erase_of_ne (fun (e : k = a) => h1 (e ▸ hk))).mpr (m k (by simp [hk]))
    rw [List.length_erase_of_mem ha] at z
    have := List.length_pos_of_mem ha
    simp only [List.length_cons]
    omega
/-- a pair of a text and a number -/
def pSI (p : Str × Int) : PyData := .tuple [.str p.1, .int p.2]
def kSI (p : Str × Int) : NestedKey := .tup [.text p.1, .num p.2]
theorem nk_pSI {p : Str × Int} : nk (pSI p) = some (kSI p) := by simp [pSI, kSI, nk, nks]
theorem kSI_inj {p q : Str × Int} (h : kSI p = kSI q) : p = q := by
  simp only [kSI, NestedKey.tup.injEq, List.cons.injEq, NestedKey.text.injEq, NestedKey.num.injEq, and_true] at h
  exact Prod.ext h.1 h.2
theorem kSI_depth {p : Str × Int} : (kSI p).depth ≤ 8 := by simp [kSI, NestedKey.depth, NestedKey.depthAll]
theorem ltP (p q : Str × Int) : PySem.W.dataLt (pSI p) (pSI q) = decide (p.1.cps.toList < q.1.cps.toList ∨ (p.1 = q.1 ∧ p.2 < q.2)) := by
  unfold pSI
  rw [PySem.W.dataLt_pair (by simp [PySem.W.alike]) (by simp [PySem.W.alike]), PySem.W.dataLt_str, PySem.W.dataLt_int]
  simp only [PyData.eqv, beq_iff_eq]
  by_cases h1 : p.1 = q.1
  · by_cases h2 : p.2 = q.2 <;> simp [h1, h2, List.lt_irrefl]
  · simp [h1]
theorem cps_inj {x y : Str} (h : x.cps.toList = y.cps.toList) : x = y := by
  cases x; cases y
  simp only [Str.mk.injEq]
  exact Array.ext' h
def leP (p q : Str × Int) : Bool := leD (pSI p) (pSI q)
theorem leP_iff {p q : Str × Int} : leP p q = true ↔ ¬ (q.1.cps.toList < p.1.cps.toList ∨ (q.1 = p.1 ∧ q.2 < p.2)) := by
  show (!PySem.W.dataLt (pSI q) (pSI p)) = true ↔ _
  rw [ltP, Bool.not_eq_true', decide_eq_false_iff_not]
theorem leP_anti {p q : Str × Int} (h1 : leP p q = true) (h2 : leP q p = true) : p = q := by
  rw [leP_iff] at h1 h2
  have e : p.1 = q.1 := cps_inj (List.le_antisymm (List.not_lt.mp fun z => h1 (.inl z)) (List.not_lt.mp fun z => h2 (.inl z)))
  refine Prod.ext e ?_
  have a1 : ¬ q.2 < p.2 := fun z => h1 (.inr ⟨e.symm, z⟩)
  have a2 : ¬ p.2 < q.2 := fun z => h2 (.inr ⟨e, z⟩)
  omega
theorem leP_total (p q : Str × Int) : (leP p q || leP q p) = true := by
  rw [Bool.or_eq_true, leP_iff, leP_iff]
  by_cases h : q.1.cps.toList < p.1.cps.toList ∨ (q.1 = p.1 ∧ q.2 < p.2)
  · right
    rintro (z | ⟨z1, z2⟩)
    · rcases h with h | ⟨h1, h2⟩
      · exact List.lt_asymm h z
      · rw [h1] at z; exact List.lt_irrefl _ z
    · rcases h with h | ⟨h1, h2⟩
      · rw [z1] at h; exact List.lt_irrefl _ h
      · omega
  · exact .inl h
theorem leP_trans (p q r : Str × Int) (h1 : leP p q = true) (h2 : leP q r = true) : leP p r = true := by
  rw [leP_iff] at h1 h2 ⊢
  have a1 : p.1.cps.toList ≤ q.1.cps.toList := List.not_lt.mp fun z => h1 (.inl z)
  have a2 : q.1.cps.toList ≤ r.1.cps.toList := List.not_lt.mp fun z => h2 (.inl z)
  rintro (z | ⟨z1, z2⟩)
  · exact List.not_lt.mpr (List.le_trans a1 a2) z
  · rw [z1] at a2
    have e : p.1 = q.1 := cps_inj (List.le_antisymm a1 a2)
    have b1 : ¬ q.2 < p.2 := fun z => h1 (.inr ⟨e.symm, z⟩)
    have b2 : ¬ r.2 < q.2 := fun z => h2 (.inr ⟨by rw [z1, e], z⟩)
    omega
theorem sort_perm {l m : List (Str × Int)} (p : l.Perm m) : l.mergeSort leP = m.mergeSort leP := by
  refine List.Perm.eq_of_pairwise (le := fun a b => leP a b = true) (fun a b _ _ h1 h2 => leP_anti h1 h2) (List.pairwise_mergeSort leP_trans leP_total l) (List.pairwise_mergeSort leP_trans leP_total m) ?_
  exact (List.mergeSort_perm l leP).trans (p.trans (List.mergeSort_perm m leP).symm)
/-- each once, the first of it -/
def ddP (l : List (Str × Int)) : List (Str × Int) := l.foldl (fun acc p => if p ∈ acc then acc else acc ++ [p]) []
theorem ddP_facts : ∀ (l acc : List (Str × Int)), acc.Nodup → (l.foldl (fun acc p => if p ∈ acc then acc else acc ++ [p]) acc).Nodup ∧ ∀ p, p ∈ l.foldl (fun acc p => if p ∈ acc then acc else acc ++ [p]) acc ↔ p ∈ acc ∨ p ∈ l
  | [], acc, h => ⟨h, fun p => by simp⟩
  | x :: l, acc, h => by
    rw [List.foldl_cons]
    by_cases hx : x ∈ acc
    · rw [if_pos hx]
      obtain ⟨h1, h2⟩ := ddP_facts l acc h
      refine ⟨h1, fun p => (h2 p).trans ?_⟩
      rw [List.mem_cons]
      constructor
      · rintro (z | z)
        · exact .inl z
        · exact .inr (.inr z)
      · rintro (z | rfl | z)
        · exact .inl z
        · exact .inl hx
        · exact .inr z
    · rw [if_neg hx]
      obtain ⟨h1, h2⟩ := ddP_facts l (acc ++ [x]) (List.nodup_append.mpr ⟨h, by simp, fun a ha b hb e => by simp at hb; subst hb; subst e; exact hx ha⟩)
      refine ⟨h1, fun p => (h2 p).trans ?_⟩
      rw [List.mem_append, List.mem_cons, List.mem_cons]
      simp only [List.not_mem_nil, or_false]
      constructor
      · rintro ((z | z) | z)
        · exact .inl z
        · exact .inr (.inl z)
        · exact .inr (.inr z)
      · rintro (z | z | z)
        · exact .inl (.inl z)
        · exact .inl (.inr z)
        · exact .inr z
theorem ddP_nodup {l : List (Str × Int)} : (ddP l).Nodup := (ddP_facts l [] List.nodup_nil).1
theorem ddP_mem {l : List (Str × Int)} {p : Str × Int} : p ∈ ddP l ↔ p ∈ l := by rw [ddP, (ddP_facts l [] List.nodup_nil).2]; simp
theorem ddP_perm {l m : List (Str × Int)} (h : m.Nodup) (e : ∀ p, p ∈ m ↔ p ∈ l) : m.Perm (ddP l) := (List.perm_ext_iff_of_nodup h ddP_nodup).mpr fun p => by rw [e, ddP_mem]
end DE
end
section
set_option Elab.async false
set_option linter.all false
set_option maxRecDepth 100000
set_option maxHeartbeats 2000000
/-! sorted(set(xs)), xs a tuple of pairs: the rule -/
namespace DE
open PySem PySem.Spec PyProof.Rows L2
theorem reps_rows {K : KW} {F : Fz} {H : Hp} {dat : Row → PyData} : ∀ {M : List Row}, (∀ p ∈ M, Rep K F H (.ref p.1) (dat p)) → Reps K F H (M.map fun p => V.ref p.1) (M.map dat)
  | [], _ => .nil
  | p :: M, h => .cons (h p (by simp)) (reps_rows fun q hq => h q (by simp [hq]))
theorem vals_rows : ∀ (M : List Row), Vals (M.map fun p => V.ref p.1) (M.map fun p => Value.ref p.1)
  | [] => .nil
  | p :: M => .cons rfl (vals_rows M)
section
variable {X : Cx} {pins : List (Addr × Obj)} {σ : L2.St} {F : Fz} {H : Hp} {s : Shared} {a : Addr} {L : List Row} {es : Array (Int × Value)} {ep : Nat} {t : SetTable}
theorem sorted_rows (I : Inv X pins σ H s) (hc : X.calm = true) (hu : X.A.units + 70 < cLine) (R : SetN X.w s.heap a L es ep t) (dat : Row → PyData) (hrep : ∀ p ∈ L, Rep X.kw F H (.ref p.1) (dat p)) (hso : ∀ M : List Row, M.Perm L → sortOk (M.map dat) = true) {Q : VK}
    (q : ∀ M : List Row, M.Perm L → ∀ w H1, Got X.kw F true H H1 w (.list ((M.map dat).mergeSort leD)) → Q w H1) :
    wpAny (model X.prog X.w) X.A (call (.builtin "sorted") [.ref a]) (EP X pins σ Q) X.xe s := by
  obtain ⟨o, ho, hex, hd⟩ := R.ob
  have hsz := rows_size R.rows
  have hfew := R.few
  refine Calls.call_function_entry PyProof.Rows.kind_sorted PyProof.Rows.plain_sorted PyProof.Rows.entry_sorted (PyProof.Rows.args_sorted1 _) ?_
  unfold Builtin.«sorted»
  refine wpAny_bind (m := checkCount "sorted" 1 1 _) (wpAny_pure ?_)
  refine wpAny_bind (collect_set (A := X.A.in1) (I.ok.hd hc) ⟨o, ho, hex.1, hd⟩ R.fits (by unfold scanBound; omega) R.tab.ris R.led fun s1 acc k1 hz g1 o1 pm => ?_)
  rw [R.rows, List.map_map] at pm
  obtain ⟨M, pM, rfl⟩ := perm_lift (f := fun p : Row => Value.ref p.1) pm L rfl
  have I1 : Inv X pins σ H s1 := I.call' (ch := []) o1 (Un.kept k1) (I.hok.kept k1) (by rw [g1]; exact I.bare) (fun _ z => nomatch z)
  have hM : M.length = L.length := pM.length_eq
  obtain ⟨h1, h2, h3⟩ := sortOk_ok (hso M pM)
  have rv := vals_rows M
  have rr := reps_rows (M := M) fun p hp => hrep p (pM.mem_iff.mp hp)
  have hle := rr.length
  have hlen : M.length ≤ sizeLine := by rw [sizeLine_eq]; omega
  have em : ((M.map fun p => V.ref p.1).zip (M.map dat)).map (·.2) = M.map dat := List.map_snd_zip (by simp)
  have el : ((M.map fun p => V.ref p.1).zip (M.map dat)).length = M.length := by simp
  refine wpAny_bind (wpAny_newList ?_ (by rw [List.length_map]; exact hlen))
  generalize hvs : (M.map fun p => Value.ref p.1) = vs at rv
  have hoL : (s1.heap.push (seqObj "list" vs.toArray 0)).get? s1.heap.objs.size = some (seqObj "list" vs.toArray 0) := Heap.get?_push_size _ rfl
  have er' : PySem.W.EachIs (fun u (b : V × PyData) => ∃ as, Reads (s1.heap.push (seqObj "list" vs.toArray 0)) u b.2 as ∧ s1.heap.objs.size ∉ as) vs ((M.map fun p => V.ref p.1).zip (M.map dat)) :=
    (each_reads I1 rv rr).mono fun u b ⟨as, r⟩ => ⟨as, PyProof.Rows.Reads.keeps (fun _ _ e => Heap.get?_push_of_some _ e) r, fun hm => by
      obtain ⟨o, e⟩ := PyProof.On.reads_mem_get r _ hm
      exact absurd (Heap.lt_size e) (Nat.lt_irrefl _)⟩
  have hub : ∀ b, b ∈ (M.map fun p => V.ref p.1).zip (M.map dat) → X.A.in1.units + 1 + b.2.depth < cLine := fun b hb => by
    have : b.2 ∈ M.map dat := by rw [← em]; exact List.mem_map_of_mem hb
    have := h3 _ this
    show X.A.units + 1 + 1 + _ < cLine
    omega
  refine wpAny_bind (wpAny_holding (PySem.W.list_sort_data (s := { s1 with heap := s1.heap.push (seqObj "list" vs.toArray 0) }) (R := fun u (b : V × PyData) => RelV b.1 u) (enc := fun b => b.2) (bs := (M.map fun p => V.ref p.1).zip (M.map dat)) (vs := vs) hoL (each_vals rv hle)
    er' (by rw [em]; exact h1) (by rw [em]; exact h2) (by rw [el]; exact hlen) hub fun out hol heo => ?_))
  obtain ⟨e', he'⟩ := PyProof.Rows.sortedHeap_at (vs := vs) (out := out.toArray) hoL
  have rep : ∀ b ∈ ((M.map fun p => V.ref p.1).zip (M.map dat)).mergeSort (PySem.W.dataLe false fun b => b.2), Rep X.kw F H b.1 b.2 := fun b hb => reps_pairs rr b ((List.mergeSort_perm _ _).subset hb)
  have esm : (((M.map fun p => V.ref p.1).zip (M.map dat)).mergeSort (PySem.W.dataLe false fun b => b.2)).map (·.2) = (M.map dat).mergeSort leD := by
    have z := List.map_mergeSort (r := PySem.W.dataLe false fun b : V × PyData => b.2) (s := leD) (f := fun b : V × PyData => b.2) (l := (M.map fun p => V.ref p.1).zip (M.map dat)) (fun _ _ _ _ => rfl)
    rw [em] at z
    exact z
  have gt : Got X.kw F true H (upd H s1.heap.objs.size (.lst ((((M.map fun p => V.ref p.1).zip (M.map dat)).mergeSort (PySem.W.dataLe false fun b => b.2)).map (·.1)))) (.ref s1.heap.objs.size) (.list ((M.map dat).mergeSort leD)) := by
    rw [← esm]
    exact .lst (I1.hok.fresh (Nat.le_refl _)) (reps_of rep)
  refine wpAny_pure ⟨_, rfl, .ref s1.heap.objs.size, _, I1.laid (t' := s1.toks) (fun b u e => ?_) (Nat.le_refl _) ?_, rfl, q M pM _ _ gt⟩
  · have hb : b < s1.heap.objs.size := Heap.lt_size e
    rw [PyProof.Rows.sortedHeap_old (Nat.ne_of_lt hb) (by rw [size_push']; exact Nat.lt_succ_of_lt hb)]
    exact Heap.get?_push_of_some _ e
  · refine ⟨?_, out, e', vals_each heo, he'⟩
    rw [List.length_map, List.length_mergeSort, el]
    exact hlen
end
end DE
end
section
set_option Elab.async false
set_option linter.all false
set_option maxRecDepth 100000
set_option maxHeartbeats 2000000
/-! sorted(set(xs)), xs a tuple of pairs of a text and a number: in a word -/
namespace DE
open PySem PySem.Spec PyProof.Rows L2
def tSetP (K : KW) (ta : TE) : TE := fun σ H Q => ta σ H fun x H1 => ∃ F l vs ps, x = .ref l ∧ SqT K H1 l vs ∧ Reps K F H1 vs (List.map pSI ps) ∧ (ddP ps).length < 64 ∧ ∀ w H2, Got K F true H1 H2 w (.list (((ddP ps).mergeSort leP).map pSI)) → Q w H2
def decP (p : Row) : Str × Int := match p.2 with
  | .tup [.text x, .num i] => (x, i)
  | _ => (Str.empty, 0)
theorem decP_k {a : Addr} {p : Str × Int} : decP (a, kSI p) = p := rfl
theorem sortOk_SI (l : List (Str × Int)) : sortOk (l.map pSI) = true := by
  have : (l.map pSI).all isSI = true := List.all_eq_true.mpr fun x hx => by
    obtain ⟨p, _, rfl⟩ := List.mem_map.mp hx
    rfl
  unfold sortOk
  rw [this]
  simp
section
variable {X : Cx} {pins : List (Addr × Obj)} {σ : L2.St} {F : Fz} {H : Hp} {s : Shared}
theorem rows_of : ∀ {ps : List (Str × Int)} {vs : List V} {us : List Value}, Reps X.kw F H vs (ps.map pSI) → Vals vs us → ∃ rs : List (Addr × (Str × Int)), ps = rs.map (·.2) ∧ us = rs.map (fun r => Value.ref r.1) ∧ ∀ r ∈ rs, Rep X.kw F H (.ref r.1) (pSI r.2)
  | [], _, _, .nil, .nil => ⟨[], rfl, rfl, by simp⟩
  | p :: ps, _, _, .cons a b, .cons r1 r2 => by
    obtain ⟨rs, e1, e2, h⟩ := rows_of b r2
    have a' := a
    cases a with
    | tup t1 t2 =>
      rename_i c ws
      cases r1
      refine ⟨(c, p) :: rs, by rw [List.map_cons, ← e1], by rw [List.map_cons, ← e2], fun r hr => ?_⟩
      rcases List.mem_cons.mp hr with rfl | hr
      · exact a'
      · exact h r hr
theorem pe_setP {a : Expr} {ta : TE} {p p2 q pos : Pos} (hc : X.calm = true) (hu : X.A.units + 70 < cLine) (hg : Gl X "sorted") (hm : X.mg "sorted" = none) (hg2 : Gl X "set") (hm2 : X.mg "set" = none) (ha : PE X a ta)
    (na : starEach [a] X.env = (false, eval a X.env) :: starEach [] X.env) : PE X (.Call (.Name "sorted" p) [.Call (.Name "set" p2) [a] [] q] [] pos) (tSetP X.kw ta) := by
  refine ⟨fun pins s σ H Q I h => ?_⟩
  refine Call_ (ld_blt I hg hm (u := .builtin "sorted") (by decide +kernel) ?_ (by decide) (by decide))
  refine PyProof.Rows.callWith_builtin1 (PyProof.Rows.args_cons ?_ rfl) rfl rfl
  refine Call_ (ld_blt I hg2 hm2 boot_set ?_)
  refine PyProof.Rows.callWith_type1 (PyProof.Rows.args_cons (thn (ha.run pins s σ H _ I h) fun v s1 ⟨x, H1, I1, r1, q1⟩ => PyProof.Rows.args_nil ?_) na) na rfl
  obtain ⟨F, l, vs, ps, rfl, hq, rr, few, q1⟩ := q1
  cases r1
  obtain ⟨its, rv, pl, hz⟩ := I1.tuple hq
  obtain ⟨rs, rfl, e2, hr⟩ := rows_of rr rv
  have inK : ∀ y ∈ rs.map (fun r => ((r.1, kSI r.2) : Row)), ∃ r ∈ rs, y = (r.1, kSI r.2) := fun y hy => by
    obtain ⟨r, hr1, rfl⟩ := List.mem_map.mp hy
    exact ⟨r, hr1, rfl⟩
  refine set_of_tuples (rs.map fun r => ((r.1, kSI r.2) : Row)) (I1.ok.hd hc) pl (by rw [List.map_map]; exact e2) (fun y hy => ?_) (fun M nd hM => ?_) (by omega) fun h' tk L es ep t R g hk => ?_
  · obtain ⟨r, hr1, rfl⟩ := inK y hy
    exact ⟨nested_of I1 (hr r hr1) rfl nk_pSI, kSI_depth⟩
  · refine Nat.lt_of_le_of_lt ?_ few
    have z : (M.map fun k => decP (0, k)).Nodup := by
      rw [List.Nodup, List.pairwise_map]
      refine nd.imp_of_mem fun {y z} hy hz ne e => ne ?_
      obtain ⟨y', hy', rfl⟩ := List.mem_map.mp (hM y hy)
      obtain ⟨z', hz', rfl⟩ := List.mem_map.mp (hM z hz)
      obtain ⟨r1, _, rfl⟩ := inK y' hy'
      obtain ⟨r2, _, rfl⟩ := inK z' hz'
      rw [decP_k, decP_k] at e
      show kSI r1.2 = kSI r2.2
      rw [e]
    have le := nd_le z (r := ddP (rs.map (·.2))) fun x hx => ?_
    · rwa [List.length_map] at le
    · obtain ⟨y, hy, rfl⟩ := List.mem_map.mp hx
      obtain ⟨y', hy', rfl⟩ := List.mem_map.mp (hM y hy)
      obtain ⟨r1, h1, rfl⟩ := inK y' hy'
      rw [ddP_mem, decP_k]
      exact List.mem_map_of_mem h1
  refine PyProof.Rows.args_nil ?_
  have I2 : Inv X pins σ H1 { s1 with heap := h', toks := tk } := I1.kept hk
  have sub : ∀ y ∈ L, ∃ r ∈ rs, y = (r.1, kSI r.2) := fun y hy => inK y (List.mem_of_mem_take (g.sub y hy))
  refine sorted_rows (s := { s1 with heap := h', toks := tk }) I2 hc hu R (fun y => pSI (decP y)) (F := F) (fun y hy => ?_) (fun M pM => ?_) fun M pM w H2 gt => ?_
  · obtain ⟨r, hr1, rfl⟩ := sub y hy
    exact hr r hr1
  · have z := sortOk_SI (M.map decP)
    rw [List.map_map] at z
    exact z
  · refine q1 w H2 ?_
    have e3 : (M.map fun y => pSI (decP y)).mergeSort leD = ((M.map decP).mergeSort leP).map pSI := by
      have z := List.map_mergeSort (r := leP) (s := leD) (f := pSI) (l := M.map decP) (fun _ _ _ _ => rfl)
      rw [List.map_map] at z
      exact z.symm
    rw [e3, sort_perm (m := ddP (rs.map (·.2))) (ddP_perm ?_ fun x => ?_)] at gt
    · exact gt
    · have nd := (pM.map (·.2)).nodup_iff.mpr R.nd
      rw [List.Nodup, List.pairwise_map] at nd ⊢
      refine nd.imp_of_mem fun {y z} hy hz ne e => ne ?_
      obtain ⟨r1, _, rfl⟩ := sub y (pM.mem_iff.mp hy)
      obtain ⟨r2, _, rfl⟩ := sub z (pM.mem_iff.mp hz)
      rw [decP_k, decP_k] at e
      show kSI r1.2 = kSI r2.2
      rw [e]
    · constructor
      · intro hx
        obtain ⟨y, hy, rfl⟩ := List.mem_map.mp hx
        obtain ⟨r, hr1, rfl⟩ := sub y (pM.mem_iff.mp hy)
        exact List.mem_map_of_mem hr1
      · intro hx
        obtain ⟨r, hr1, rfl⟩ := List.mem_map.mp hx
        have z := g.all (r.1, kSI r.2) (by rw [List.take_length]; exact List.mem_map_of_mem (f := fun r => ((r.1, kSI r.2) : Row)) hr1)
        obtain ⟨y, hy, ey⟩ := List.mem_map.mp z
        refine List.mem_map.mpr ⟨y, pM.mem_iff.mpr hy, ?_⟩
        obtain ⟨r2, _, rfl⟩ := sub y hy
        exact kSI_inj ey
end
end DE
end
section
set_option Elab.async false
set_option linter.all false
set_option maxRecDepth 100000
set_option maxHeartbeats 2000000
/-! sorted(set(xs)), len(set(xs)): all together -/
namespace DE
open PySem PySem.Spec PyProof.Rows L2
def siOf : List PyData → Option (List (Str × Int))
  | [] => some []
  | .tuple [.str x, .int i] :: r => (match siOf r with | some l => some ((x, i) :: l) | none => none)
  | _ :: _ => none
theorem siOf_map : ∀ {xs : List PyData} {ps : List (Str × Int)}, siOf xs = some ps → xs = ps.map pSI
  | [], ps, h => by simp only [siOf, Option.some.injEq] at h; subst h; rfl
  | x :: xs, ps, h => by
    unfold siOf at h
    split at h
    · rename_i z; cases z
    · rename_i z
      cases z
      split at h
      · rename_i hl; cases h; rw [siOf_map hl]; rfl
      · cases h
    · cases h
theorem si_some : ∀ {ps : List (Str × Int)}, siOf (ps.map pSI) = some ps
  | [] => rfl
  | p :: ps => by
    show (match siOf (ps.map pSI) with | some l => some ((p.1, p.2) :: l) | none => none) = _
    rw [si_some]
def gSetP : PyData → Option PyData
  | .tuple xs => (match siOf xs with
    | some ps => if (ddP ps).length < 64 then some (.list (((ddP ps).mergeSort leP).map pSI)) else none
    | none => none)
  | _ => none
def gSetX : Ss → PyData → Option PyData
  | .len, d => gSet Ss.len.out d
  | .sorted, d => (match gSet Ss.sorted.out d with
    | some r => some r
    | none => gSetP d)
theorem gSetX_of {b : Ss} {d r : PyData} (h : gSet b.out d = some r) : gSetX b d = some r := by
  cases b <;> simp only [gSetX, h]
section
variable {X : Cx}
theorem pe_ssetX (b : Ss) {m : Bool} {a : Expr} {ea : Ev Val} {p p2 q pos : Pos} (hc : X.calm = true) (hu : X.A.units + 70 < cLine) (hg : Gl X b.nm) (hm : X.mg b.nm = none) (hg2 : Gl X "set") (hm2 : X.mg "set" = none) (ha : PE X a (tS X.kw ea))
    (na : starEach [a] X.env = (false, eval a X.env) :: starEach [] X.env) : PE X (.Call (.Name b.nm p) [.Call (.Name "set" p2) [a] [] q] [] pos) (tS X.kw (e1 m (gSetX b) ea)) := by
  cases b with
  | len =>
    have e : gSetX .len = gSet Ss.len.out := funext fun _ => rfl
    rw [e]
    exact pe_mono (pe_sset .len hc hg hm hg2 hm2 ha na) fun _ _ _ _ _ _ h => sset_tr .len h
  | sorted =>
    refine pe_mono (pe_or (pe_sset .sorted hc hg hm hg2 hm2 ha na) (pe_setP hc hu hg hm hg2 hm2 ha na)) fun pins s σc H Q I h => ?_
    obtain ⟨F, β, σ, h, hs, sr, x, h', e, q⟩ := h
    rcases qa : ea σ h with _ | ⟨y, h1⟩ <;> simp only [DE.e1, qa] at e
    · cases e
    rcases qd : rd h1 y with _ | d <;> simp only [qd] at e
    · cases e
    rcases qg : gSetX .sorted d with _ | r <;> simp only [qg] at e
    · cases e
    cases qs : gSet Ss.sorted.out d with
    | some r' =>
      simp only [gSetX, qs, Option.some.injEq] at qg
      subst qg
      exact .inl (sset_tr .sorted ⟨F, β, σ, h, hs, sr, x, h', by simp only [DE.e1, qa, qd, qs]; exact e, q⟩)
    | none =>
      simp only [gSetX, qs] at qg
      obtain ⟨rfl, rfl⟩ := mk_eq e
      unfold gSetP at qg
      split at qg
      rotate_left
      · cases qg
      rename_i xs
      split at qg
      rotate_left
      · cases qg
      rename_i ps hps
      split at qg
      rotate_left
      · cases qg
      rename_i few
      cases qg
      refine .inr ⟨F, β, σ, h, hs, sr, y, h1, qa, fun F1 β1 H1 v hs1 x1 r1 => ?_⟩
      obtain ⟨a, vs, rfl, hq, rr⟩ := (RB.of_rd hs1 r1 qd).tup
      rw [siOf_map hps] at rr
      refine ⟨F1, a, vs, ps, rfl, hq.sq, rr, few, fun w H2 g => ?_⟩
      obtain ⟨F2, β2, hs2, x2, r2⟩ := got_mk (m := m) hs1 (fun _ => rfl) g
      exact q F2 β2 H2 w hs2 (x1.seq hs1 x2) r2
end
end DE
end
section
set_option Elab.async false
set_option linter.all false
set_option maxRecDepth 100000
set_option maxHeartbeats 1000000
/-! a list display times a number -/
namespace DE
open PySem PySem.Spec PyProof.Rows L2
def eRepN (m : Bool) (n : Int) (as : Ev (List Val)) : Ev Val := fun σ h => match as σ h with
  | none => none
  | some (vs, h1) => match fzs h1 vs with
    | none => none
    | some (ds, h2) => if (0 ≤ n ∧ n ≤ 1000) ∧ ds.length ≤ 1000 then some (mk m (.list (List.replicate n.toNat ds).flatten) h2) else none
section
variable {K : KW} {X : Cx} {F : Fz} {H : Hp} {σc : L2.St} {Q : VK}
theorem reps_many {vs : List V} {ds : List PyData} (h : Reps K F H vs ds) : ∀ n, Reps K F H (List.replicate n vs).flatten (List.replicate n ds).flatten
  | 0 => .nil
  | n + 1 => by
    rw [List.replicate_succ, List.replicate_succ, List.flatten_cons, List.flatten_cons]
    exact h.append (reps_many h n)
theorem eRepN_tr {m : Bool} {n : Int} {ea : Ev (List Val)} (h : tS K (eRepN m n ea) σc H Q) : tOp rRep (tLst (tSA K ea)) (tC (.int n)) σc H Q := by
  obtain ⟨F, β, σ, h, hs, sr, x, h', e, q⟩ := h
  rcases qa : ea σ h with _ | ⟨y, h1⟩ <;> simp only [eRepN, qa] at e
  · cases e
  refine ⟨F, β, σ, h, hs, sr, y, h1, qa, fun F1 β1 H1 vs hs1 x1 r1 => ?_⟩
  rcases qd : fzs h1 y with _ | ⟨ds, h2⟩ <;> simp only [qd] at e
  · cases e
  split at e
  · rename_i hl
    obtain ⟨⟨l0, l1⟩, l2⟩ := hl
    obtain ⟨rfl, rfl⟩ := mk_eq e
    obtain ⟨F2, hs2, x2, r2⟩ := fzs_ok hs1 r1 qd
    have hlen := r2.length
    have hn : n.toNat ≤ 1000 := by omega
    have hm : vs.length * n.toNat ≤ 1000 * 1000 := Nat.mul_le_mul (by omega) hn
    refine ⟨by rw [hlen, sizeLine_eq]; omega, fun p hp => ⟨p, n, vs, rfl, rfl, upd_same, by omega, by omega, by rw [sizeLine_eq]; omega, fun p2 hp2 => ?_⟩⟩
    have hs3 := hs2.new (o := .lst vs) hp
    have x3 := hs2.ext_new (o := .lst vs) hp
    obtain ⟨F4, β4, hs4, x4, rv⟩ := got_mk (nw := true) (m := m) hs3 (fun _ => rfl) (.lst hp2 (reps_many (Reps.ex x3.ex r2) n.toNat))
    exact q F4 β4 _ _ hs4 (((x1.seq hs1 x2).seq hs2 x3).seq hs3 x4) rv
  · cases e
end
end DE
end
section
set_option Elab.async false
set_option linter.all false
set_option maxRecDepth 100000
set_option maxHeartbeats 1000000
/-! from the program's syntax to the evaluator -/
namespace DE
open PySem PySem.Spec PyProof.Rows L2

structure Cg where
  N : List Str
  mv : List Str
  cst : List (Str × PyData)
  fns : List Str
  Φ : Bool → Str → Fn
/-- a def whose dicts have tuples as keys -/
def tl (c : Cg) : Bool := decide (("~" : Str) ∈ c.mv)
/-- a def that has tuples with a changeable part -/
def tm (c : Cg) : Bool := decide (("^" : Str) ∈ c.mv)
def isAdd : Operator → Bool
  | .Add => true
  | _ => false
def stk {α : Type} : Ev α := fun _ _ => none
def stkS : Ex1 := fun _ _ => none
def vis (sc : Scope) (x : Str) : Bool := match sc.names.lookup x with
  | some .local => true
  | some .cell => true
  | some .free => true
  | _ => false
def loc (sc : Scope) (x : Str) : Bool := match sc.names.lookup x with
  | some .local => true
  | some .cell => true
  | _ => false
def glb (sc : Scope) (x : Str) : Bool := match sc.names.lookup x with
  | some .globalImplicit => true
  | _ => false
def slotOf : List Str → Str → Option Nat
  | [], _ => none
  | y :: r, x => if y = x then some 0 else (match slotOf r x with | some i => some (i + 1) | none => none)
inductive B1 where
  | len | all | any | abs | int | bool | str | repr | list | tuple | dict | sorted | sum
def B1.nm : B1 → Str
  | .len => "len"
  | .all => "all"
  | .any => "any"
  | .abs => "abs"
  | .int => "int"
  | .bool => "bool"
  | .str => "str"
  | .repr => "repr"
  | .list => "list"
  | .tuple => "tuple"
  | .dict => "dict"
  | .sorted => "sorted"
  | .sum => "sum"
def B1.g : B1 → PyData → Option PyData
  | .len => gLen
  | .all => gAll
  | .any => gAny
  | .abs => gAbs
  | .int => gInt
  | .bool => gBool
  | .str => gStr
  | .repr => gRepr
  | .list => gList
  | .tuple => gTuple
  | .dict => gDict
  | .sorted => gSorted
  | .sum => gSum
def b1s : List B1 := [.len, .all, .any, .abs, .int, .bool, .str, .repr, .list, .tuple, .dict, .sorted, .sum]
def b1Of (x : Str) : Option B1 := b1s.find? fun b => decide (b.nm = x)
def tyOf (x : Str) : Option Ty := if x = "int" then some .int else if x = "str" then some .str else if x = "bool" then some .bool else if x = "tuple" then some .tuple else if x = "list" then some .list else if x = "dict" then some .dict else none
def blts : List Str := ["len", "all", "any", "abs", "int", "bool", "str", "repr", "list", "tuple", "isinstance", "range", "dict", "min", "max", "enumerate", "zip", "sorted", "set", "sum"]
def noStar : Expr → Bool
  | .Starred _ _ => false
  | _ => true
def noSet : Expr → Bool
  | .Set _ _ _ => false
  | _ => true
def noComp : Expr → Bool
  | .ListComp _ _ _ _ => false
  | .SetComp _ _ _ _ => false
  | .DictComp _ _ _ _ _ => false
  | _ => true
def noDC : Expr → Bool
  | .DictComp _ _ _ _ _ => false
  | _ => true
def noSlice : Expr → Bool
  | .Slice _ _ _ _ => false
  | _ => true
def noCall0 : Expr → Bool
  | .Call _ [] [] _ => false
  | _ => true
def gNo2 : PyData → PyData → Option PyData := fun _ _ => none
def gOp : Operator → PyData → PyData → Option PyData
  | .Add => gAdd
  | .Sub => gSub
  | .Mult => gMul
  | .FloorDiv => gDiv
  | .Mod => gMod
  | .Pow => gPow
  | _ => gNo2
def gCmp : CmpOp → PyData → PyData → Option PyData
  | .Eq => gEq
  | .NotEq => gNe
  | .Lt => gLt
  | .LtE => gLe
  | .Gt => gGt
  | .GtE => gGe
  | .Is => gIsN
  | .IsNot => gNotN
  | .In => gInD
  | .NotIn => gNotInD
def cBool (op : BoolOp) : List (Ev Val) → Ev Val
  | [] => stk
  | [a] => a
  | a :: r => match op with
    | .And => eAnd a (cBool op r)
    | .Or => eOr a (cBool op r)
def cBoolT (op : BoolOp) : List (Ev Bool) → Ev Bool
  | [] => stk
  | [a] => a
  | a :: r => match op with
    | .And => tAnd a (cBoolT op r)
    | .Or => tOr a (cBoolT op r)
def keyNames : List (Option Expr) → Option (List Str)
  | [] => some []
  | some (.Constant (.str x) _ _) :: r => (match keyNames r with | some l => some (x :: l) | none => none)
  | _ :: _ => none
def ownOf (N : List Str) (scope : Scope) : List (Str × Nat) := scope.names.filterMap fun p => match p.2 with
  | .local => (slotOf N p.1).map fun i => (p.1, i)
  | .cell => (slotOf N p.1).map fun i => (p.1, i)
  | _ => none
/-- targets: names, tuples of targets -/
def cTgL (f : Expr → Option (Bd × List Nat)) : List Expr → Option (List Bd × List Nat)
  | [] => some ([], [])
  | e :: es => (match f e, cTgL f es with
    | some (b, is), some (bs, js) => some (b :: bs, is ++ js)
    | _, _ => none)
def cTg (N : List Str) (lc : Str → Bool) : Nat → Expr → Option (Bd × List Nat)
  | 0, _ => none
  | n + 1, e => (match e with
    | .Name x _ => if lc x = true then (match slotOf N x with
      | some i => some (bName i, [i])
      | none => none) else none
    | .Tuple ts _ _ => (match cTgL (cTg N lc n) ts with
      | some (bs, is) => some (bTup bs, is)
      | none => none)
    | _ => none)
def isT : Expr → Bool
  | .Tuple _ _ _ => true
  | _ => false
def okVal : Expr → Bool
  | .Tuple vs _ _ => vs.all (foldedForSure 8)
  | _ => true
section
variable (c : Cg) (r : Bool → Scope → Expr → Ev Val) (rt : Scope → Expr → Ev Bool)
def cName (sc : Scope) (x : Str) : Ev Val :=
  if (x == ("__debug__" : Str)) = true ∨ (x == ("__classdict__" : Str)) = true then stk
  else if vis sc x = true then (match slotOf c.N x with
    | some i => eV i
    | none => stk)
  else if glb sc x = true then (match c.cst.lookup x with
    | some d => eC d
    | none => stk)
  else stk
def cO (sc : Scope) : Option Expr → Ev (Option Int)
  | none => oNone
  | some e => oSome (r false sc e)
def nmM : Expr → Bool
  | .Name x _ => tm c && decide (x ∈ c.mv)
  | _ => false
def cBin0 (m : Bool) (sc : Scope) (a : Expr) (op : Operator) (b : Expr) : Ev Val :=
  bif tm c && isAdd op then (bif m then eCatM (r false sc a) (r true sc b) else e2 m (gOp op) (r false sc a) (r false sc b)) else e2 m (gOp op) (r false sc a) (r false sc b)
def cBin (m : Bool) (sc : Scope) (a : Expr) (op : Operator) (b : Expr) : Ev Val := match a, op, b with
  | .List es _, .Mult, .Constant (.int n) _ _ => if es.all noStar = true then eRepN m n (aList (es.map (r false sc))) else stk
  | a, op, b => cBin0 c r m sc a op b
def cTup (m : Bool) (es : List (Ev Val)) : Ev Val := bif tm c && m then eTupM (aList es) else eTup (aList es)
def cSub (m : Bool) (sc : Scope) (a : Expr) : Expr → Ev Val
  | .Slice lo hi none _ => eSl m (r false sc a) (cO r sc lo) (cO r sc hi)
  | .Slice none none (some (.UnaryOp .USub (.Constant (.int 1) _ _) _)) _ => e1 m gRev (r false sc a)
  | .Slice _ _ _ _ => stk
  | i => bif nmM c a then eIdxM (r false sc a) (r false sc i) else e2 false gIdx (r false sc a) (r false sc i)
def setArg (x : Str) : List Expr → Option (Ss × Expr)
  | [.Call (.Name y _) [a] [] _] => if y = "set" then (if x = "sorted" then some (.sorted, a) else if x = "len" then some (.len, a) else none) else none
  | _ => none
def srtE : B1 → Expr → Bool
  | .sorted, .Name y _ => tl c && decide (y ∈ c.mv)
  | _, _ => false
def repM : B1 → Expr → Bool
  | .repr, a => nmM c a
  | _, _ => false
def cCallN (m : Bool) (sc : Scope) (x : Str) (args : List Expr) : Ev Val :=
  if glb sc x = true ∧ args.all noStar = true ∧ (x == ("__debug__" : Str)) = false then
    (match setArg x args with
    | some (b, a) => if glb sc "set" = true ∧ noStar a = true then e1 m (gSetX b) (r false sc a) else stk
    | none => match b1Of x, args with
      | some b, [a] => if srtE c b a = true then eSrtE m (r false sc a) else if repM c b a = true then eReprM (r false sc a) else e1 m b.g (r false sc a)
      | _, _ => if x = "isinstance" then (match args with
          | [a, .Name T _] => (match tyOf T with
            | some t => if glb sc T = true then e1 false (fun d => some (.bool (isi t d))) (r false sc a) else stk
            | none => stk)
          | _ => stk)
        else if x = "min" then (match args with
          | [a, b] => eN false gMin (aList [r false sc a, r false sc b])
          | _ => stk)
        else if x = "max" then (match args with
          | [a, b] => eN false gMax (aList [r false sc a, r false sc b])
          | _ => stk)
        else if x ∈ c.fns then (match kwOf x with
          | none => eCall (c.Φ m x) (aList (args.map (r false sc)))
          | some (_, d) => (match args with
            | [a] => eCall (c.Φ m x) (aList [r false sc a, eC d])
            | _ => stk)) else stk)
  else stk
def cCallK (m : Bool) (sc : Scope) (x : Str) (a : Expr) (kn : Str) (b : Expr) : Ev Val :=
  if glb sc x = true ∧ noStar a = true ∧ (x == ("__debug__" : Str)) = false ∧ x ∈ c.fns then
    (match kwOf x with
    | none => stk
    | some (kn', _) => if kn = kn' then eCall (c.Φ m x) (aList [r false sc a, r false sc b]) else stk)
  else stk
def cMeth (sc : Scope) (o : Expr) (nm : Str) (args : List Expr) (ok : Bool) : Ev Val :=
  if ok = true ∧ args.all noStar = true ∧ noCall0 o = true then
    (match args with
      | [a] => if nm = "join" then eM1 mJoin (r false sc o) (r false sc a)
        else if nm = "append" then eMethL gAppend (r false sc o) (aList [r false sc a])
        else if nm = "pop" then eMethL gPopAt (r false sc o) (aList [r false sc a])
        else if nm = "index" then eMethQ gIndex (r false sc o) (r false sc a)
        else if nm = "count" then eCnt (r false sc o) (r false sc a)
        else if nm = "update" then eMethD gUpdate (r false sc o) (aList [r false sc a])
        else if nm = "get" then eGet2 (r false sc o) (r false sc a) (eC .none) else stk
      | [a, b] => if nm = "get" then eGet2 (r false sc o) (r false sc a) (r false sc b) else stk
      | [] => if nm = "upper" then eM0 mUpper (r false sc o) else if nm = "reverse" then eMethL gReverse (r false sc o) aNil else stk
      | _ => stk)
  else stk
/-- zip(a, b), enumerate(a): where the target is a tuple -/
def cIterT (sc : Scope) (e : Expr) : Option (Ev (List PyData)) := match e with
  | .Call (.Name x _) [a, b] [] _ => if x = "zip" ∧ glb sc x = true ∧ ([a, b].all noStar) = true then some (itZ (r false sc a) (r false sc b)) else none
  | .Call (.Name x _) [a] [] _ => if x = "enumerate" ∧ glb sc x = true ∧ noStar a = true then some (itE (r false sc a)) else none
  | _ => none
def cIter (sc : Scope) (e : Expr) : Ev (List PyData) := match e with
  | .Call (.Name x _) [a] [] _ => if x = "range" ∧ glb sc x = true ∧ noStar a = true then itR (r false sc a) else itV (r false sc e)
  | .Call (.Name x _) [a, b] [] _ => if x = "range" ∧ glb sc x = true ∧ ([a, b].all noStar) = true then itR2 (r false sc a) (r false sc b) else itV (r false sc e)
  | _ => if noSet e = true then itV (r false sc e) else stk
def cItT (tg : Expr) (sc : Scope) (e : Expr) : Ev (List PyData) := if isT tg = true then (match cIterT r sc e with
    | some i => i
    | none => cIter r sc e) else cIter r sc e
def cComp (m : Bool) (sc : Scope) (elt : Expr) (gens : List Comprehension) (scope : Scope) : Ev Val := match gens with
  | [⟨tg, iter, ifs, a⟩] => (match cTg c.N (loc scope) 3 tg with
    | some (b, is) => if a = 0 ∧ noSet iter = true ∧ blkC c.N sc scope (ownOf c.N scope) = true ∧ (∀ i ∈ is, i ∈ (ownOf c.N scope).map (·.2)) then
        (match ifs with
          | [] => eComp m (cItT r tg sc iter) b ((ownOf c.N scope).map (·.2)) tYes (r false (relS scope sc) elt)
          | [t] => eComp m (cItT r tg sc iter) b ((ownOf c.N scope).map (·.2)) (rt (relS scope sc) t) (r false (relS scope sc) elt)
          | _ => stk)
      else stk
    | none => stk)
  | _ => stk
def cDComp (m : Bool) (sc : Scope) (kx vx : Expr) (gens : List Comprehension) (scope : Scope) : Ev Val := match gens with
  | [⟨tg, iter, ifs, a⟩] => (match cTg c.N (loc scope) 3 tg with
    | some (b, is) => if a = 0 ∧ noSet iter = true ∧ blkC c.N sc scope (ownOf c.N scope) = true ∧ (∀ i ∈ is, i ∈ (ownOf c.N scope).map (·.2)) then
        (match ifs with
          | [] => eDComp m (cItT r tg sc iter) b ((ownOf c.N scope).map (·.2)) tYes (r false (relS scope sc) kx) (r false (relS scope sc) vx)
          | [t] => eDComp m (cItT r tg sc iter) b ((ownOf c.N scope).map (·.2)) (rt (relS scope sc) t) (r false (relS scope sc) kx) (r false (relS scope sc) vx)
          | _ => stk)
      else stk
    | none => stk)
  | _ => stk
def cLenK (sc : Scope) (x : Str) (elt : Expr) (gens : List Comprehension) (scope : Scope) : Ev Val := if x = "len" ∧ glb sc x = true then (match gens with
  | [⟨tg, iter, ifs, a⟩] => (match cTg c.N (loc scope) 3 tg with
    | some (b, is) => if a = 0 ∧ noSet iter = true ∧ blkC c.N sc scope (ownOf c.N scope) = true ∧ (∀ i ∈ is, i ∈ (ownOf c.N scope).map (·.2)) then
        (match ifs with
          | [] => eSetLen (cItT r tg sc iter) b ((ownOf c.N scope).map (·.2)) tYes (r false (relS scope sc) elt)
          | _ => stk)
      else stk
    | none => stk)
  | _ => stk) else stk
def hE (m : Bool) (sc : Scope) : Expr → Ev Val
  | .Constant (.int i) _ _ => eC (.int i)
  | .Constant (.str x) _ _ => eC (.str x)
  | .Constant (.bool b) _ _ => eC (.bool b)
  | .Constant .none _ _ => eC .none
  | .Name x _ => cName c sc x
  | .BinOp a op b _ => cBin c r m sc a op b
  | .UnaryOp .USub a _ => e1 false gNeg (r false sc a)
  | .UnaryOp .Not a _ => eNot (r false sc a)
  | .BoolOp op es _ => cBool op (es.map (r false sc))
  | .Compare a [op] [b] _ => if noSet b = true then e2 false (gCmp op) (r false sc a) (r false sc b) else stk
  | .Compare a [op, op'] [b, d] _ => if noSet d = true then eChain (gCmp op) (gCmp op') (r false sc a) (r false sc b) (r false sc d) else stk
  | .IfExp t a b _ => eIf (rt sc t) (r m sc a) (r m sc b)
  | .Call (.Name x _) [.SetComp elt gens scope _] [] _ => cLenK c r sc x elt gens scope
  | .Call (.Name x _) args [] _ => cCallN c r m sc x args
  | .Call (.Name x _) [a] [⟨some kn, b, _⟩] _ => cCallK c r m sc x a kn b
  | .Call (.Attribute o nm apos) args [] pos => cMeth r sc o nm args (apos.endLine == pos.line)
  | .Subscript a i _ => cSub c r m sc a i
  | .Tuple es _ _ => if es.all noStar = true then cTup c m (es.map (r false sc)) else stk
  | .List es _ => if es.all noStar = true then eLst m (aList (es.map (r false sc))) else stk
  | .Dict ks vs _ => if m = true ∧ tl c = true ∧ ks.isEmpty = true ∧ vs.isEmpty = true then eNewE else (match keyNames ks with
    | some l => if l.Nodup ∧ l.length = vs.length ∧ l.length ≤ 15 then eDct m ((l.zip (vs.map (r false sc))).map (·.1)) (aList ((l.zip (vs.map (r false sc))).map (·.2))) else stk
    | none => stk)
  | .ListComp elt gens scope _ => cComp c r rt m sc elt gens scope
  | .DictComp kx vx gens scope _ => cDComp c r rt m sc kx vx gens scope
  | _ => stk
def hT (sc : Scope) : Expr → Ev Bool
  | .BoolOp op es _ => cBoolT op (es.map (rt sc))
  | .UnaryOp .Not a _ => tNot (rt sc a)
  | .Compare a [op] [b] _ => if noSet b = true then tB (e2 false (gCmp op) (r false sc a) (r false sc b)) else stk
  | .Compare a [op, op'] [b, d] _ => if noSet d = true then tB (eChain (gCmp op) (gCmp op') (r false sc a) (r false sc b) (r false sc d)) else stk
  | .Call f as ks p => tB (r false sc (.Call f as ks p))
  | .Name x p => tB (r false sc (.Name x p))
  | .Constant k j p => tB (r false sc (.Constant k j p))
  | .Subscript a i p => tB (r false sc (.Subscript a i p))
  | _ => stk
end
structure CC where
  e : Bool → Scope → Expr → Ev Val
  t : Scope → Expr → Ev Bool
def cc (c : Cg) : Nat → CC
  | 0 => ⟨fun _ _ _ => stk, fun _ _ => stk⟩
  | n + 1 => ⟨hE c (cc c n).e (cc c n).t, hT (cc c n).e (cc c n).t⟩
/-! ### statements -/
def foldS (f : Stmt → Ex1) : List Stmt → Ex1
  | [] => sNil
  | s :: r => sSeq (f s) (foldS f r)
section
variable (c : Cg) (k : CC) (rs : Stmt → Ex1) (rm : Bool) (sc : Scope)
def cSet (x : Str) (e : Expr) : Ex1 :=
  if loc sc x = true ∧ noDC e = true then (match slotOf c.N x with
    | some i => sSet i (k.e (decide (x ∈ c.mv)) sc e)
    | none => stkS) else stkS
def cAsgT (ts : List Expr) (tk : Nat) (tp : Pos) (e : Expr) : Ex1 := if okVal e = true then (match cTg c.N (loc sc) 3 (.Tuple ts tk tp) with
    | some (b, _) => sSetB b (k.e false sc e)
    | none => stkS) else stkS
def hS : Stmt → Ex1
  | .Expr e _ => if noComp e = true then sExpr (k.e false sc e) else stkS
  | .Assign [.Name x _] e _ => cSet c k sc x e
  | .Assign [.Subscript o (.Constant (.int n) kk q) _] e _ => if noComp e = true then sPut gPutL (k.e false sc o) (k.e false sc (.Constant (.int n) kk q)) (k.e false sc e) else stkS
  | .Assign [.Subscript o i _] e _ => if noComp e = true then (if tl c = true then sPut gPutE (k.e false sc o) (k.e false sc i) (k.e false sc e) else sPut gPutD (k.e false sc o) (k.e false sc i) (k.e false sc e)) else stkS
  | .Return (some e) _ => sRet (k.e rm sc e)
  | .Return none _ => sRet (eC .none)
  | .If t a b _ => sIf (k.t sc t) (foldS rs a) (foldS rs b)
  | .For (.Name x _) iter body [] _ => if loc sc x = true ∧ noSet iter = true then (match slotOf c.N x with
    | some i => sFor (cIter k.e sc iter) (bName i) (foldS rs body)
    | none => stkS) else stkS
  | .Pass _ => sNil
  | .Assign [.Tuple [.Name x px, .Name y py] tk tp] (.Tuple [a, b] k2 p2) _ => if okPar sc x px y py a b = true ∧ ([a, b].all noStar) = true then (match slotOf c.N x, slotOf c.N y with
    | some i, some j => sPar i j (k.e false sc a) (k.e false sc b)
    | _, _ => stkS) else cAsgT c k sc [.Name x px, .Name y py] tk tp (.Tuple [a, b] k2 p2)
  | .Assign [.Tuple ts tk tp] e _ => cAsgT c k sc ts tk tp e
  | .For (.Tuple ts tk tp) iter body [] _ => if noSet iter = true then (match cTg c.N (loc sc) 3 (.Tuple ts tk tp) with
    | some (b, _) => sFor (cItT k.e (.Tuple ts tk tp) sc iter) b (foldS rs body)
    | none => stkS) else stkS
  | .While t body [] _ => sWhile 100000 (k.t sc t) (foldS rs body)
  | _ => stkS
end
def cS (c : Cg) (f : Nat) (rm : Bool) (sc : Scope) : Nat → Stmt → Ex1
  | 0 => fun _ => stkS
  | n + 1 => hS c (cc c f) (cS c f rm sc n) rm sc
/-- a def's body -/
def cB (c : Cg) (rm : Bool) (sc : Scope) (body : List Stmt) : Ex1 := foldS (cS c 40 rm sc 20) body
end DE
end
section
set_option Elab.async false
set_option linter.all false
set_option maxRecDepth 100000
set_option maxHeartbeats 1000000
/-! the evaluator is right -/
namespace DE
open PySem PySem.Spec PyProof.Rows L2

structure Good (c : Cg) (k : Nat) (X : Cx) (sc : Scope) : Prop where
  calm : X.calm = true
  N : X.N = c.N
  nd : c.N.Nodup
  scope : X.env.scope = sc
  room : Room k X.A
  gd : X.A.guards = some []
  xe : X.xe = fun _ _ => False
  cst : ∀ x d, c.cst.lookup x = some d → ∃ v u, X.mg x = some u ∧ RelV v u ∧ ∀ F H, Rep X.kw F H v d
  blt : ∀ x ∈ blts, X.mg x = none
  fns : ∀ x ∈ c.fns, ∃ f fd ps, X.mg x = some (.ref f) ∧ PySem.W.keepIn X.kw (.ref f) = true ∧ BindX X.kw fd ps (kwOf x) ∧ (∀ m xs h y, c.Φ m x xs h = some y → xs.length = ps.length) ∧ ∀ m, FnG X.prog X.w X.kw X.mg X.base k f fd ps (spOf X.kw ps.length (c.Φ m x))

section
variable {c : Cg} {k : Nat} {X : Cx} {sc : Scope}
theorem Good.hu (G : Good c k X sc) : X.A.units + 64 < cLine := G.room.units
theorem Good.hu1 (G : Good c k X sc) : X.A.units + 1 < cLine := hu_of G.room
theorem Good.hu70 (G : Good c k X sc) : X.A.units + 70 < cLine := by have := G.room.un; omega
theorem pe_stk {e : Expr} : PE X e (tS X.kw stk) := ⟨fun pins s σ H Q I h => by obtain ⟨_, _, _, _, _, _, _, _, e, _⟩ := h; cases e⟩
theorem pt_stk {e : Expr} : PT X e (tST X.kw stk) := ⟨fun pins s σ H Q I h => by obtain ⟨_, _, _, _, _, _, _, _, e, _⟩ := h; cases e⟩
theorem pi_stk {w : Bool} {tg e : Expr} : PI X tg e (tSI X.kw w stk) := ⟨fun pins s σ H Q I h => by obtain ⟨_, _, _, _, _, _, _, _, e, _⟩ := h; cases e⟩
theorem ps_stk {e : Stmt} : PS X e (tSS X.kw stkS) := ⟨fun pins s σ H Q I h => by obtain ⟨_, _, _, _, _, _, _, e, _⟩ := h; cases e⟩
theorem vis_ok {x : Str} (h : vis sc x = true) : Vis sc x := by
  unfold vis at h
  split at h
  · exact .inl (by assumption)
  · exact .inr (.inl (by assumption))
  · exact .inr (.inr (by assumption))
  · cases h
theorem loc_ok {x : Str} (h : loc sc x = true) : Loc sc x := by
  unfold loc at h
  split at h
  · exact .inl (by assumption)
  · exact .inr (by assumption)
  · cases h
theorem glb_ok (G : Good c k X sc) {x : Str} (h : glb sc x = true) : Gl X x := by
  show X.env.scope.names.lookup x = _
  rw [G.scope]
  unfold glb at h
  split at h
  · assumption
  · cases h
theorem slotOf_ok : ∀ {N : List Str} {x : Str} {i : Nat}, slotOf N x = some i → N[i]? = some x
  | [], _, _, h => by cases h
  | y :: r, x, i, h => by
    simp only [slotOf] at h
    split at h
    · cases h; rename_i e; rw [e]; rfl
    · split at h
      · cases h; rename_i j hj; simpa using slotOf_ok hj
      · cases h
theorem star_map : ∀ {es : List Expr} {env : Env}, es.all noStar = true → starEach es env = es.map fun e => (false, eval e env)
  | [], _, _ => rfl
  | e :: es, env, h => by
    simp only [List.all_cons, Bool.and_eq_true] at h
    have ih := star_map (es := es) (env := env) h.2
    cases e <;> first
      | (simp only [starEach, List.map_cons, ih]; done)
      | (simp [noStar] at h)
theorem star_cons {e : Expr} {es : List Expr} {env : Env} (h : (e :: es).all noStar = true) : starEach (e :: es) env = (false, eval e env) :: starEach es env := by
  rw [star_map h, star_map (by simp only [List.all_cons, Bool.and_eq_true] at h; exact h.2)]
  rfl
theorem star_any {es : List Expr} {env : Env} {pos : Pos} (h : es.all noStar = true) : (backTo pos (starEach es env)).any (·.1) = false := by
  rw [star_map h]
  unfold backTo
  simp
variable {r : Bool → Scope → Expr → Ev Val} {rt : Scope → Expr → Ev Bool}
theorem pa_list (hr : ∀ e, PE X e (tS X.kw (r false sc e))) : ∀ {es : List Expr}, es.all noStar = true → PA X es (tSA X.kw (aList (es.map (r false sc))))
  | [], _ => pa_mono pa_nil fun _ _ _ _ _ _ h => aNil_tr h
  | e :: es, h => pa_mono (pa_cons (hr e) (pa_list hr (by simp only [List.all_cons, Bool.and_eq_true] at h; exact h.2)) (star_cons h)) fun _ _ _ _ _ _ h => aCons_tr h
theorem cName_ok (G : Good c k X sc) {x : Str} {pos : Pos} : PE X (.Name x pos) (tS X.kw (cName c sc x)) := by
  unfold cName
  split
  · exact pe_stk
  · rename_i hd
    have h1 : (x == ("__debug__" : Str)) = false := by simpa using fun z => hd (.inl (by simpa using z))
    have h2 : (x == ("__classdict__" : Str)) = false := by simpa using fun z => hd (.inr (by simpa using z))
    split
    · rename_i hv
      split
      · rename_i i hi
        refine pe_mono (pe_var (i := i) (by rw [G.N]; exact slotOf_ok hi) (by rw [G.scope]; exact vis_ok hv) h1 h2) fun _ _ _ _ _ _ h => v_tr h
      · exact pe_stk
    · split
      · rename_i hg
        split
        · rename_i d hdd
          obtain ⟨v, u, e1, e2, e3⟩ := G.cst x d hdd
          exact pe_mono (pe_glob (glb_ok G hg) e1 e2 h1) fun _ _ _ _ _ _ h => c_tr e3 h
        · exact pe_stk
      · exact pe_stk
theorem od_ops (op : Operator) : OpR X (binaryOp op) (rG2 X.kw true (gOp op)) := by
  cases op
  case Add => exact od_add
  case Sub => exact od_sub
  case Mult => exact od_mul
  case FloorDiv => exact od_div
  case Mod => exact od_mod
  case Pow => exact od_pow
  all_goals (intro pins s σ H x y v u Q I rx ry q; obtain ⟨F, d, e, r, h1, h2, h3, q⟩ := q; cases h3)
theorem oc_ops (hu : X.A.units + 70 < cLine) (op : CmpOp) : OpR X (compareOp op) (rCmp X.kw (gCmp op)) := by
  cases op
  case Eq => exact oc_eq (by omega)
  case NotEq => exact oc_ne (by omega)
  case Lt => exact oc_lt
  case LtE => exact oc_le
  case Gt => exact oc_gt
  case GtE => exact oc_ge
  case Is => exact oc_is
  case IsNot => exact oc_isnot
  case In => exact oc_inD hu
  case NotIn => exact oc_notinD hu
theorem gCmp_bool {op : CmpOp} {d e o : PyData} (h : gCmp op d e = some o) : ∃ b, o = .bool b := by
  cases op <;> simp only [gCmp] at h
  · unfold gEq at h; repeat' split at h
    all_goals first | exact ⟨_, (Option.some.inj h).symm⟩ | cases h
  · unfold gNe at h; split at h
    · exact ⟨_, (Option.some.inj h).symm⟩
    · cases h
  · cases d <;> cases e <;> simp only [gLt] at h <;> first | exact ⟨_, (Option.some.inj h).symm⟩ | cases h
  · cases d <;> cases e <;> simp only [gLe] at h <;> first | exact ⟨_, (Option.some.inj h).symm⟩ | cases h
  · cases d <;> cases e <;> simp only [gGt] at h <;> first | exact ⟨_, (Option.some.inj h).symm⟩ | cases h
  · cases d <;> cases e <;> simp only [gGe] at h <;> first | exact ⟨_, (Option.some.inj h).symm⟩ | cases h
  · cases e <;> simp only [gIsN] at h <;> first | exact ⟨_, (Option.some.inj h).symm⟩ | cases h | (cases d <;> simp only at h <;> first | exact ⟨_, (Option.some.inj h).symm⟩ | cases h)
  · cases e <;> simp only [gNotN] at h <;> first | exact ⟨_, (Option.some.inj h).symm⟩ | cases h | (cases d <;> simp only at h <;> first | exact ⟨_, (Option.some.inj h).symm⟩ | cases h)
  · unfold gInD gIn at h; repeat' split at h
    all_goals first | exact ⟨_, (Option.some.inj h).symm⟩ | cases h
  · unfold gNotInD at h; split at h
    · exact ⟨_, (Option.some.inj h).symm⟩
    · cases h
theorem cmp_got (hu : X.A.units + 70 < cLine) (op : CmpOp) : OpR X (compareOp op) (rG2 X.kw true (gCmp op)) := by
  intro pins s σ H x y v u Q I rx ry q
  obtain ⟨F, d, e, o, h1, h2, h3, q⟩ := q
  obtain ⟨b, rfl⟩ := gCmp_bool h3
  exact oc_ops hu op pins s σ H x y v u Q I rx ry ⟨F, d, e, b, h1, h2, h3, q _ _ (.same (.inr rfl) (.bl b))⟩
theorem noMark {op : CmpOp} {b : Expr} (h : noSet b = true) : behindInMarks op b = false := by
  cases b <;> first | rfl | (simp [noSet] at h)
theorem cBool_ok {op : BoolOp} {pos : Pos} (hr : ∀ e, PE X e (tS X.kw (r false sc e))) : ∀ {es : List Expr}, PE X (.BoolOp op es pos) (tS X.kw (cBool op (es.map (r false sc))))
  | [] => pe_stk
  | [a] => pe_one (hr a)
  | a :: b :: es => by
    have ih := cBool_ok (op := op) (pos := pos) hr (es := b :: es)
    cases op with
    | And => exact pe_mono (pe_and (hr a) ih) fun _ _ _ _ _ _ h => eAnd_tr h
    | Or => exact pe_mono (L2.pe_or (hr a) ih) fun _ _ _ _ _ _ h => eOr_tr h
theorem cBoolT_ok {op : BoolOp} {pos : Pos} (hr : ∀ e, PT X e (tST X.kw (rt sc e))) : ∀ {es : List Expr}, es ≠ [] → PW X (.BoolOp op es pos) (tST X.kw (cBoolT op (es.map (rt sc))))
  | [], h => absurd rfl h
  | [a], _ => by
    cases op with
    | And => exact pw_and1 (hr a)
    | Or => exact pw_or1 (hr a)
  | a :: b :: es, _ => by
    have ih := cBoolT_ok (op := op) (pos := pos) hr (es := b :: es) (by simp)
    cases op with
    | And => exact pw_mono (pw_and (hr a) ih) fun _ _ _ _ _ _ h => tAnd_tr h
    | Or => exact pw_mono (pw_or (hr a) ih) fun _ _ _ _ _ _ h => tOr_tr h
theorem e1N_tr {K : KW} {m : Bool} {g : PyData → Option PyData} {ea : Ev Val} {σc : L2.St} {H : Hp} {Q : VK} (h : tS K (e1 m g ea) σc H Q) : tCB (rGN K true (g1 g)) (tSA K (aCons ea aNil)) σc H Q := by
  have h := e1_tr (nw := true) (fun _ => rfl) h
  obtain ⟨F, β, σ, h, hs, sr, x, h', e, q⟩ := h
  refine ⟨F, β, σ, h, hs, sr, [x], h', by unfold aCons aNil; rw [e], fun F1 β1 H1 vs hs1 x1 r1 => ?_⟩
  cases r1 with
  | cons r1 r2 =>
    cases r2
    obtain ⟨F2, d, o, h1, h2, q⟩ := q F1 β1 H1 _ hs1 x1 r1
    exact ⟨F2, [d], o, .cons h1 .nil, h2, q⟩
theorem b1Of_nm {x : Str} {b : B1} (h : b1Of x = some b) : b.nm = x := of_decide_eq_true (by simpa using List.find?_some h)
theorem b1_ok (G : Good c k X sc) (b : B1) {a : Expr} {p pos : Pos} {ea : Ev Val} {m : Bool} (hg : Gl X b.nm) (ha : PA X [a] (tSA X.kw (aCons ea aNil))) (he : starEach [a] X.env = (false, eval a X.env) :: starEach [] X.env) :
    PE X (.Call (.Name b.nm p) [a] [] pos) (tS X.kw (e1 m b.g ea)) := by
  cases b
  case len => exact pe_mono (pe_callB cd_len hg (G.blt _ (by decide)) (by decide +kernel) ha (by decide) (by decide) he rfl) fun _ _ _ _ _ _ h => e1N_tr h
  case all => exact pe_mono (pe_callB (cd_all G.calm) hg (G.blt _ (by decide)) (by decide +kernel) ha (by decide) (by decide) he rfl) fun _ _ _ _ _ _ h => e1N_tr h
  case any => exact pe_mono (pe_callB (cd_any G.calm) hg (G.blt _ (by decide)) (by decide +kernel) ha (by decide) (by decide) he rfl) fun _ _ _ _ _ _ h => e1N_tr h
  case abs => exact pe_mono (pe_callB cd_abs hg (G.blt _ (by decide)) (by decide +kernel) ha (by decide) (by decide) he rfl) fun _ _ _ _ _ _ h => e1N_tr h
  case int => exact pe_mono (pe_callTy cd_int hg (G.blt _ (by decide)) (by decide +kernel) ha (by decide) (by decide) he rfl) fun _ _ _ _ _ _ h => e1N_tr h
  case bool => exact pe_mono (pe_callTy cd_bool hg (G.blt _ (by decide)) (by decide +kernel) ha (by decide) (by decide) he rfl) fun _ _ _ _ _ _ h => e1N_tr h
  case str => exact pe_mono (pe_callTy cd_str hg (G.blt _ (by decide)) (by decide +kernel) ha (by decide) (by decide) he rfl) fun _ _ _ _ _ _ h => e1N_tr h
  case repr => exact pe_mono (pe_callB (cd_repr G.gd G.hu70) hg (G.blt _ (by decide)) (by decide +kernel) ha (by decide) (by decide) he rfl) fun _ _ _ _ _ _ h => e1N_tr h
  case list => exact pe_mono (pe_callTy cd_list hg (G.blt _ (by decide)) (by decide +kernel) ha (by decide) (by decide) he rfl) fun _ _ _ _ _ _ h => e1N_tr h
  case tuple => exact pe_mono (pe_callTy cd_tuple hg (G.blt _ (by decide)) (by decide +kernel) ha (by decide) (by decide) he rfl) fun _ _ _ _ _ _ h => e1N_tr h
  case dict => exact pe_mono (pe_callTy (cd_dict G.calm) hg (G.blt _ (by decide)) (by decide +kernel) ha (by decide) (by decide) he rfl) fun _ _ _ _ _ _ h => e1N_tr h
  case sum => exact pe_mono (pe_callB (cd_sum G.calm) hg (G.blt _ (by decide)) (by decide +kernel) ha (by decide) (by decide) he rfl) fun _ _ _ _ _ _ h => e1N_tr h
  case sorted => exact pe_mono (pe_callB (cd_sorted (by have := G.hu70; omega)) hg (G.blt _ (by decide)) (by decide +kernel) ha (by decide) (by decide) he rfl) fun _ _ _ _ _ _ h => e1N_tr h
theorem get1_M {o a : Expr} {ap pos : Pos} (hb : attributeBase o "get" X.env (eval o X.env) = eval o X.env) (hl : (ap.endLine == pos.line) = true) (hs : ([a] : List Expr).all noStar = true) : M1 X o "get" ap a pos := by
  refine ⟨hb, ?_, hl, ?_⟩ <;> rw [star_map hs] <;> rfl
theorem get2_M {o a b : Expr} {ap pos : Pos} (hb : attributeBase o "get" X.env (eval o X.env) = eval o X.env) (hl : (ap.endLine == pos.line) = true) (hs : ([a, b] : List Expr).all noStar = true) : M2 X o "get" ap a b pos := by
  refine ⟨hb, ?_, hl, ?_⟩ <;> rw [star_map hs] <;> rfl
theorem tyOf_ok {T : Str} {t : Ty} (h : tyOf T = some t) : T ∈ blts ∧ bootBuiltins T = some (.type t.name) ∧ T ≠ "__name__" ∧ (T == ("__debug__" : Str)) = false := by
  unfold tyOf at h
  repeat' split at h
  all_goals first
    | (cases h; rename_i e; subst e; exact ⟨by decide, by decide +kernel, by decide, by decide⟩)
    | cases h
theorem isi_ok (G : Good c k X sc) {T : Str} {t : Ty} {a : Expr} {p p2 pos : Pos} {ea : Ev Val} (hT : tyOf T = some t) (hg : Gl X "isinstance") (hg2 : Gl X T) (ha : PE X a (tS X.kw ea)) (hs : noStar a = true) :
    PE X (.Call (.Name "isinstance" p) [a, .Name T p2] [] pos) (tS X.kw (e1 false (fun d => some (.bool (isi t d))) ea)) := by
  obtain ⟨h1, h2, h3, h4⟩ := tyOf_ok hT
  have hst : ([a, .Name T p2] : List Expr).all noStar = true := by simp only [List.all_cons, List.all_nil, hs, Bool.and_true]; rfl
  have hb : PE X (.Name T p2) (tC (.ty t.name)) := pe_bltn hg2 (G.blt T h1) h2 rfl h3 h4
  refine pe_mono (pe_callB call_isi hg (G.blt _ (by decide)) (by decide +kernel) (pa_cons ha (pa_cons hb pa_nil rfl) (star_cons hst)) (by decide) (by decide) (star_cons hst) (star_any (by simp [noStar]))) fun pins s σc H Q I h => ?_
  obtain ⟨F, β, σ, h, hs, sr, x, h', e, q⟩ := e1_tr (nw := true) (fun _ => rfl) h
  refine ⟨F, β, σ, h, hs, sr, x, h', e, fun F1 β1 H1 v hs1 x1 r1 => ?_⟩
  obtain ⟨F2, d, o, r2, e2, q⟩ := q F1 β1 H1 v hs1 x1 r1
  cases e2
  exact ⟨v, .ty t.name, _, _, _, rfl, .ty _, r2.ty, kit_ty (kit_isi t d), q _ _ (.same (.inr rfl) (.bl _))⟩
end
section
variable {c : Cg} {k : Nat} {X : Cx} {sc : Scope}
theorem eCall_tr {K : KW} {f : Fn} {ea : Ev (List Val)} {σc : L2.St} {H : Hp} {Q : VK} (h : tS K (eCall f ea) σc H Q) : tSA K ea σc H fun vs H1 => ∃ n, spOf K n f vs H1 Q E0 := by
  obtain ⟨F, β, σ, h, hs, sr, x, h', e, q⟩ := h
  rcases qa : ea σ h with _ | ⟨y, h1⟩ <;> simp only [eCall, qa] at e
  · cases e
  exact ⟨F, β, σ, h, hs, sr, y, h1, qa, fun F1 β1 H1 vs hs1 x1 r1 => ⟨_, callIn_ok hs1 r1 e fun F2 β2 H2 v hs2 x2 rv => q F2 β2 H2 v hs2 (x1.seq hs1 x2) rv⟩⟩
end
end DE
end
section
set_option Elab.async false
set_option linter.all false
set_option maxRecDepth 100000
set_option maxHeartbeats 1000000
/-! the evaluator is right: calls, comprehensions, statements -/
namespace DE
open PySem PySem.Spec PyProof.Rows L2

section
variable {c : Cg} {k : Nat} {X : Cx} {sc : Scope} {r : Bool → Scope → Expr → Ev Val} {rt : Scope → Expr → Ev Bool}
theorem Good.blk (G : Good c k X sc) (s : Shared) (H : Hp) (scope : Scope) (C : Addr) (cl : List (Str × Addr)) (fp : List Addr) : Good c k (X.blk s H scope (compEnvC scope cl C X.env) fp) (relS scope sc) where
  calm := G.calm
  N := G.N
  nd := G.nd
  scope := by rw [← G.scope]; rfl
  room := G.room
  gd := G.gd
  xe := rfl
  cst := G.cst
  blt := G.blt
  fns := G.fns
theorem sp_len {K : KW} {n m : Nat} {f : Fn} {vs : List V} {H : Hp} {Q : VK} {E : XK} (h : spOf K n f vs H Q E) (hl : ∀ xs h y, f xs h = some y → xs.length = m) : spOf K m f vs H Q E := by
  obtain ⟨_, F, β, h, xs, x, h', hs, rv, e, q⟩ := h
  exact ⟨by rw [rv.length]; exact hl _ _ _ e, F, β, h, xs, x, h', hs, rv, e, q⟩
theorem setArg_ok {x : Str} {args : List Expr} {b : Ss} {a : Expr} (h : setArg x args = some (b, a)) : x = b.nm ∧ ∃ p q, args = [.Call (.Name "set" p) [a] [] q] := by
  unfold setArg at h
  split at h
  · split at h
    · rename_i e
      subst e
      split at h
      · rename_i e; cases h; exact ⟨e, _, _, rfl⟩
      · split at h
        · rename_i e; cases h; exact ⟨e, _, _, rfl⟩
        · cases h
    · cases h
  · cases h
theorem cCallN_ok (G : Good c k X sc) (hr : ∀ m e, PE X e (tS X.kw (r m sc e))) {m : Bool} {x : Str} {args : List Expr} {p pos : Pos} : PE X (.Call (.Name x p) args [] pos) (tS X.kw (cCallN c r m sc x args)) := by
  unfold cCallN
  split
  rotate_left
  · exact pe_stk
  rename_i h
  obtain ⟨h1, h2, h3⟩ := h
  split
  · rename_i b a hb
    obtain ⟨rfl, p1, p2, rfl⟩ := setArg_ok hb
    split
    · rename_i hg
      exact pe_ssetX b G.calm G.hu70 (glb_ok G h1) (G.blt _ (by cases b <;> decide)) (glb_ok G hg.1) (G.blt _ (by decide)) (hr false a) (star_cons (by simp [hg.2]))
    · exact pe_stk
  rename_i hno
  clear hno
  split
  · rename_i b a hb
    have e := b1Of_nm hb
    subst e
    split
    · rename_i hse
      cases b <;> try (unfold srtE at hse; cases hse)
      exact pe_mono (pe_callB (cr_srtE G.calm (by have := G.hu70; omega)) (glb_ok G h1) (G.blt _ (by decide)) (by decide +kernel) (pa_list (sc := sc) (fun e => hr false e) h2) (by decide) (by decide) (star_cons h2) rfl) fun _ _ _ _ _ _ h => eSrtE_tr h
    split
    · rename_i hse
      cases b <;> try (unfold repM at hse; cases hse)
      exact pe_mono (pe_callB (cd_repr G.gd G.hu70) (glb_ok G h1) (G.blt _ (by decide)) (by decide +kernel) (pa_list (sc := sc) (fun e => hr false e) h2) (by decide) (by decide) (star_cons h2) rfl) fun _ _ _ _ _ _ h => eReprM_tr h
    exact b1_ok G b (glb_ok G h1) (pa_list (sc := sc) (fun e => hr false e) h2) (star_cons h2)
  · split
    · rename_i e
      subst e
      split
      · split
        · rename_i t ht
          split
          · rename_i hg
            simp only [List.all_cons, Bool.and_eq_true] at h2
            exact isi_ok G ht (glb_ok G h1) (glb_ok G hg) (hr false _) h2.1
          · exact pe_stk
        · exact pe_stk
      · exact pe_stk
    · split
      · rename_i e
        subst e
        split
        · exact pe_mono (pe_callB (cd_min G.calm) (glb_ok G h1) (G.blt _ (by decide)) (by decide +kernel) (pa_list (sc := sc) (fun e => hr false e) h2) (by decide) (by decide) (star_cons h2) (star_any (by simp only [List.all_cons, Bool.and_eq_true] at h2; simp [h2.2]))) fun _ _ _ _ _ _ h => eN_tr (fun _ => rfl) h
        · exact pe_stk
      split
      · rename_i e
        subst e
        split
        · exact pe_mono (pe_callB (cd_max G.calm) (glb_ok G h1) (G.blt _ (by decide)) (by decide +kernel) (pa_list (sc := sc) (fun e => hr false e) h2) (by decide) (by decide) (star_cons h2) (star_any (by simp only [List.all_cons, Bool.and_eq_true] at h2; simp [h2.2]))) fun _ _ _ _ _ _ h => eN_tr (fun _ => rfl) h
        · exact pe_stk
      split
      · rename_i args _ _ _ _ _ _ hf
        obtain ⟨f, fd, ps, g1, g2, g3, gl, g4⟩ := G.fns x hf
        cases hkw : kwOf x with
        | some pd =>
          obtain ⟨kn, d⟩ := pd
          rw [hkw] at g3
          simp only
          split
          rotate_left
          · exact pe_stk
          obtain ⟨v, u, e1, e2, e3⟩ := g3.dfl
          refine pe_mono (pe_callGD (g4 m) G.room G.gd (glb_ok G h1) g1 g2 e1 e3 (pa_list (sc := sc) (fun e => hr false e) h2) h3 (star_cons h2)) fun pins s σc H Q I h => ?_
          obtain ⟨F, β, σ, h, hs, sr, xs, h', e, q⟩ := dfl_tr e2 (eCall_tr h)
          refine ⟨F, β, σ, h, hs, sr, xs, h', e, fun F1 β1 H1 vs hs1 x1 r1 => ?_⟩
          obtain ⟨z, ez, n, q⟩ := q F1 β1 H1 vs hs1 x1 r1
          exact ⟨z, ez, sp_len q (gl m)⟩
        | none =>
        rw [hkw] at g3
        simp only
        cases args with
        | nil =>
          refine pe_mono (pe_callG0 (g4 m) G.room G.gd (glb_ok G h1) g1 g2 g3 h3) fun pins s σc H Q I h => ?_
          obtain ⟨F, β, σ, h, hs, sr, xs, h', e, q⟩ := eCall_tr h
          cases e
          obtain ⟨n, q⟩ := q F β H [] hs .refl .nil
          exact sp_len q (gl m)
        | cons a as =>
          refine pe_mono (pe_callG (g4 m) G.room G.gd (glb_ok G h1) g1 g2 g3 (pa_list (sc := sc) (fun e => hr false e) h2) h3 (star_cons h2) (star_any (by simp only [List.all_cons, Bool.and_eq_true] at h2; exact h2.2))) fun pins s σc H Q I h => ?_
          obtain ⟨F, β, σ, h, hs, sr, xs, h', e, q⟩ := eCall_tr h
          refine ⟨F, β, σ, h, hs, sr, xs, h', e, fun F1 β1 H1 vs hs1 x1 r1 => ?_⟩
          obtain ⟨n, q⟩ := q F1 β1 H1 vs hs1 x1 r1
          exact sp_len q (gl m)
      · exact pe_stk
theorem cCallK_ok (G : Good c k X sc) (hr : ∀ m e, PE X e (tS X.kw (r m sc e))) {m : Bool} {x kn : Str} {a b : Expr} {p pos kpos : Pos} : PE X (.Call (.Name x p) [a] [⟨some kn, b, kpos⟩] pos) (tS X.kw (cCallK c r m sc x a kn b)) := by
  unfold cCallK
  split
  rotate_left
  · exact pe_stk
  rename_i h
  obtain ⟨h1, h2, h3, hf⟩ := h
  obtain ⟨f, fd, ps, g1, g2, g3, gl, g4⟩ := G.fns x hf
  cases hkw : kwOf x with
  | none => exact pe_stk
  | some pd =>
    obtain ⟨kn', d⟩ := pd
    rw [hkw] at g3
    simp only
    split
    rotate_left
    · exact pe_stk
    rename_i e
    subst e
    have h2' : ([a] : List Expr).all noStar = true := by simp [h2]
    refine pe_mono (pe_callGK (g4 m) G.room G.gd (glb_ok G h1) g1 g2 g3.kw (pa_list (sc := sc) (fun e => hr false e) h2') (hr false b) h3 (star_cons h2')) fun pins s σc H Q I h => ?_
    obtain ⟨F, β, σ, h, hs, sr, xs, h', e, q⟩ := two_tr (eCall_tr h)
    refine ⟨F, β, σ, h, hs, sr, xs, h', e, fun F1 β1 H1 vs hs1 x1 r1 => ?_⟩
    obtain ⟨z, ez, q⟩ := q F1 β1 H1 vs hs1 x1 r1
    obtain ⟨F, β, σ, h, hs, sr, xs, h', e, q⟩ := q
    refine ⟨z, ez, F, β, σ, h, hs, sr, xs, h', e, fun F2 β2 H2 w hs2 x2 r2 => ?_⟩
    obtain ⟨w', ew, n, q⟩ := q F2 β2 H2 w hs2 x2 r2
    exact ⟨w', ew, sp_len q (gl m)⟩
theorem base_ok {o : Expr} {nm : Str} {env : Env} {w : Sem Value} (h : noCall0 o = true) : attributeBase o nm env w = w := by
  unfold attributeBase
  split
  · simp [noCall0] at h
  · rfl
theorem cMeth_ok (G : Good c k X sc) (hr : ∀ m e, PE X e (tS X.kw (r m sc e))) {o : Expr} {nm : Str} {args : List Expr} {ap pos : Pos} : PE X (.Call (.Attribute o nm ap) args [] pos) (tS X.kw (cMeth r sc o nm args (ap.endLine == pos.line))) := by
  unfold cMeth
  split
  rotate_left
  · exact pe_stk
  rename_i h
  obtain ⟨h1, h2, h3⟩ := h
  split
  · split
    · rename_i e
      subst e
      exact pe_mono (pe_join (hr false o) (hr false _) (star_cons h2) (base_ok h3) h1) fun _ _ _ _ _ _ h => join_tr h
    · split
      · rename_i e
        subst e
        exact pe_append1 (hr false o) (pa_list (sc := sc) (fun e => hr false e) h2) (star_cons h2) (base_ok h3) h1
      · split
        · rename_i e
          subst e
          exact pe_pop1 (hr false o) (pa_list (sc := sc) (fun e => hr false e) h2) (star_cons h2) (base_ok h3) h1
        · split
          · rename_i e
            subst e
            exact pe_index1 (hr false o) (pa_list (sc := sc) (fun e => hr false e) h2) (star_cons h2) (base_ok h3) h1
          · split
            · rename_i e
              subst e
              exact pe_count1 G.hu (hr false o) (pa_list (sc := sc) (fun e => hr false e) h2) (star_cons h2) (base_ok h3) h1
            split
            · rename_i e
              subst e
              exact pe_update1 (hr false o) (pa_list (sc := sc) (fun e => hr false e) h2) (star_cons h2) (base_ok h3) h1
            · split
              · rename_i e
                subst e
                exact pe_mono (pe_dget1 G.hu1 (hr false o) (hr false _) (get1_M (base_ok h3) h1 h2)) fun _ _ _ _ _ _ h => eGet1_tr h
              · exact pe_stk
  · split
    · rename_i e
      subst e
      exact pe_mono (pe_dget2 G.hu1 (hr false o) (hr false _) (hr false _) (get2_M (base_ok h3) h1 h2)) fun _ _ _ _ _ _ h => eGet2_tr h
    · exact pe_stk
  · split
    · rename_i e
      subst e
      exact pe_mono (pe_upper (hr false o) (base_ok h3) h1) fun _ _ _ _ _ _ h => upper_tr h
    · split
      · rename_i e
        subst e
        exact pe_reverse0 (hr false o) (base_ok h3) h1
      · exact pe_stk
  · exact pe_stk
theorem cO_ok (hr : ∀ m e, PE X e (tS X.kw (r m sc e))) : ∀ o : Option Expr, PO X o (tSO X.kw (cO r sc o))
  | none => po_mono po_none fun _ _ _ _ _ _ h => oNone_tr h
  | some e => po_mono (po_some (hr false e)) fun _ _ _ _ _ _ h => oSome_tr h
theorem cSub_ok (G : Good c k X sc) (hr : ∀ m e, PE X e (tS X.kw (r m sc e))) {m : Bool} {a i : Expr} {pos : Pos} : PE X (.Subscript a i pos) (tS X.kw (cSub c r m sc a i)) := by
  unfold cSub
  split
  · exact pe_sl (hr false a) (cO_ok hr _) (cO_ok hr _)
  · exact pe_rev (hr false a)
  · exact pe_stk
  · rename_i h1 h2 h3
    have hsu : PlainIx i := fun o j => by
      unfold subscripted
      cases i <;> first | rfl | (exact (h3 _ _ _ _ rfl).elim)
    cases nmM c a with
    | true => exact pe_mono (pe_ix ix_tup (hr false a) (hr false i) hsu) fun _ _ _ _ _ _ h => eIdxM_tr h
    | false => exact pe_idx G.hu1 (hr false a) (hr false i) hsu
theorem cBin0_ok (hr : ∀ m e, PE X e (tS X.kw (r m sc e))) {m : Bool} {a b : Expr} {op : Operator} {pos : Pos} : PE X (.BinOp a op b pos) (tS X.kw (cBin0 c r m sc a op b)) := by
  have z : PE X (.BinOp a op b pos) (tS X.kw (e2 m (gOp op) (r false sc a) (r false sc b))) := pe_mono (pe_op (od_ops _) (hr _ _) (hr _ _)) fun _ _ _ _ _ _ h => e2_tr (fun _ => rfl) h
  unfold cBin0
  cases tm c with
  | false => exact z
  | true =>
    cases op <;> try exact z
    cases m with
    | false => exact z
    | true => exact pe_mono (pe_op op_catX (hr _ _) (hr _ _)) fun _ _ _ _ _ _ h => eCatM_tr h
theorem cBin_ok (hr : ∀ m e, PE X e (tS X.kw (r m sc e))) {m : Bool} {a b : Expr} {op : Operator} {pos : Pos} : PE X (.BinOp a op b pos) (tS X.kw (cBin c r m sc a op b)) := by
  unfold cBin
  split
  · split
    · rename_i hn
      exact pe_mono (pe_op op_rep (pe_lst (pa_list (sc := sc) (fun e => hr false e) hn)) pe_int) fun _ _ _ _ _ _ h => eRepN_tr h
    · exact pe_stk
  · exact cBin0_ok hr
theorem cTup_ok (hr : ∀ m e, PE X e (tS X.kw (r m sc e))) {m : Bool} {es : List Expr} {k : Nat} {pos : Pos} (hn : es.all noStar = true) : PE X (.Tuple es k pos) (tS X.kw (cTup c m (es.map (r false sc)))) := by
  have z : PE X (.Tuple es k pos) (tS X.kw (eTup (aList (es.map (r false sc))))) := pe_mono (pe_tupX (pa_list (sc := sc) (fun e => hr false e) hn)) fun _ _ _ _ _ _ h => eTup_tr h
  unfold cTup
  cases tm c with
  | false => exact z
  | true =>
    cases m with
    | false => exact z
    | true => exact pe_mono (pe_tupX (pa_list (sc := sc) (fun e => hr false e) hn)) fun _ _ _ _ _ _ h => eTupM_tr h
theorem set_ok {e : Expr} {env : Env} (h : noSet e = true) : ∀ x, foldedSetIterable e env x = pure x := by
  intro x
  cases e <;> first | rfl | (simp [noSet] at h)
theorem cIter_ok (G : Good c k X sc) (hr : ∀ m e, PE X e (tS X.kw (r m sc e))) {w : Bool} {tg e : Expr} : PI X tg e (tSI X.kw w (cIter r sc e)) := by
  unfold cIter
  split
  · split
    · rename_i h
      obtain ⟨rfl, h2, h3⟩ := h
      have hst : ∀ a : Expr, noStar a = true → ([a] : List Expr).all noStar = true := fun a z => by simp only [List.all_cons, List.all_nil, z, Bool.and_true]
      exact pi_R (glb_ok G h2) (G.blt _ (by decide)) (pa_list (sc := sc) (fun e => hr false e) (hst _ h3)) (star_cons (hst _ h3))
    · exact pi_V (hr false _)
  · split
    · rename_i h
      obtain ⟨rfl, h2, h3⟩ := h
      have h4 := h3
      simp only [List.all_cons, List.all_nil, Bool.and_true, Bool.and_eq_true] at h4
      have h5 : ∀ b : Expr, noStar b = true → ([b] : List Expr).all noStar = true := fun b z => by simp only [List.all_cons, List.all_nil, z, Bool.and_true]
      exact pi_R2 (glb_ok G h2) (G.blt _ (by decide)) (pa_list (sc := sc) (fun e => hr false e) h3) (by rw [star_cons h3, star_cons (h5 _ h4.2)]; rfl) (star_cons (h5 _ h4.2))
    · exact pi_V (hr false _)
  · split
    · exact pi_V (hr false _)
    · exact pi_stk
theorem relS_loc {scope : Scope} {x : Str} (h : loc scope x = true) : Loc (relS scope sc) x := by
  rcases loc_ok h with q | q
  · exact .inl (lookup_relS_keep (by decide) q)
  · exact .inr (lookup_relS_keep (by decide) q)
theorem tgt_ok (G : Good c k X sc) {scope : Scope} {x : Str} {i : Nat} {p : Pos} (hi : slotOf c.N x = some i) (hl : loc scope x = true) (s : Shared) (H : Hp) (C : Addr) (cl : List (Str × Addr)) (fp : List Addr) :
    PG (X.blk s H scope (compEnvC scope cl C X.env) fp) (.Name x p) (gName i) := by
  have Gb := G.blk s H scope C cl fp
  have hl2 : Loc (X.blk s H scope (compEnvC scope cl C X.env) fp).env.scope x := by rw [Gb.scope]; exact relS_loc hl
  refine pg_name (by rw [Gb.N]; exact G.nd) (by rw [Gb.N]; exact slotOf_ok hi) hl2 ?_
  rcases loc_ok hl with q | q
  · right; rw [Gb.scope]; exact lookup_relS_keep (by decide) q
  · left; show (scope.names.lookup x == some .cell) = true; rw [q]; rfl
theorem cItT_ok (G : Good c k X sc) (hr : ∀ m e, PE X e (tS X.kw (r m sc e))) {tg e : Expr} : PI X tg e (tSI X.kw (isT tg) (cItT r tg sc e)) := by
  unfold cItT
  split
  rotate_left
  · exact cIter_ok G hr
  rename_i ht
  have hb : isT tg = true := ht
  rw [hb]
  split
  rotate_left
  · exact cIter_ok G hr
  rename_i it hit
  cases tg <;> first | (simp [isT] at ht; done) | skip
  rename_i ts tk tp
  unfold cIterT at hit
  split at hit
  · split at hit
    · rename_i hc
      obtain ⟨rfl, h2, h3⟩ := hc
      cases hit
      exact pi_Z (glb_ok G h2) (G.blt _ (by decide)) (pa_list (sc := sc) (fun e => hr false e) h3) (star_cons h3) (star_any (by simp only [List.all_cons, Bool.and_eq_true] at h3; simp [h3.2]))
    · cases hit
  · split at hit
    · rename_i hc
      obtain ⟨rfl, h2, h3⟩ := hc
      cases hit
      have hst : ∀ a : Expr, noStar a = true → ([a] : List Expr).all noStar = true := fun a z => by simp only [List.all_cons, List.all_nil, z, Bool.and_true]
      exact pi_En (glb_ok G h2) (G.blt _ (by decide)) (pa_list (sc := sc) (fun e => hr false e) (hst _ h3)) (star_cons (hst _ h3))
    · cases hit
  · cases hit
/-- the targets' reading -/
def gTgL (f : Expr → TG) : List Expr → TGs
  | [] => gNil
  | e :: es => gCons (f e) (gTgL f es)
def gTg (K : KW) (N : List Str) : Nat → Expr → TG
  | 0, _ => fun _ _ _ _ => False
  | n + 1, e => (match e with
    | .Name x _ => (match slotOf N x with
      | some i => gName i
      | none => fun _ _ _ _ => False)
    | .Tuple ts _ _ => gAny2 K ts.length (gTgL (gTg K N n) ts)
    | _ => fun _ _ _ _ => False)
theorem cTg_star {N : List Str} {lc : Str → Bool} : ∀ {n : Nat} {e : Expr} {q : Bd × List Nat}, cTg N lc n e = some q → noStar e = true
  | 0, _, _, h => by cases h
  | n + 1, e, q, h => by cases e <;> first | rfl | (simp [cTg] at h)
theorem cTgL_len {f : Expr → Option (Bd × List Nat)} : ∀ {es : List Expr} {bs : List Bd} {is : List Nat}, cTgL f es = some (bs, is) → bs.length = es.length
  | [], _, _, h => by cases h; rfl
  | e :: es, bs, is, h => by
    simp only [cTgL] at h
    split at h
    · rename_i b is' bs' js h1 h2
      cases h
      simp only [List.length_cons, cTgL_len h2]
    · cases h
theorem each_map : ∀ {es : List Expr} {env : Env}, es.all noStar = true → assignEach es env = es.map fun e => (false, assign e env)
  | [], _, _ => rfl
  | e :: es, env, h => by
    simp only [List.all_cons, Bool.and_eq_true] at h
    have ih := each_map (es := es) (env := env) h.2
    cases e <;> first
      | (simp only [assignEach, List.map_cons, ih]; done)
      | (simp [noStar] at h)
theorem cTgL_star {N : List Str} {lc : Str → Bool} {n : Nat} : ∀ {es : List Expr} {q : List Bd × List Nat}, cTgL (cTg N lc n) es = some q → es.all noStar = true
  | [], _, _ => rfl
  | e :: es, q, h => by
    simp only [cTgL] at h
    split at h
    · rename_i h1 h2
      simp only [List.all_cons, cTg_star h1, cTgL_star h2, Bool.and_self]
    · cases h
theorem cTg_pg {N : List Str} {lc : Str → Bool} (hc : X.calm = true) (hn : ∀ x i p, slotOf N x = some i → lc x = true → PG X (.Name x p) (gName i)) : ∀ {n : Nat} {e : Expr} {q : Bd × List Nat}, cTg N lc n e = some q → PG X e (gTg X.kw N n e)
  | 0, _, _, h => by cases h
  | n + 1, e, q, h => by
    cases e <;> first | (simp [cTg] at h; done) | skip
    case Name x p =>
      simp only [cTg] at h
      split at h
      · rename_i hl
        split at h
        · rename_i i hi
          simp only [gTg, hi]
          exact hn x i p hi hl
        · cases h
      · cases h
    case Tuple ts k p =>
      simp only [cTg] at h
      split at h
      · rename_i bs is hL
        simp only [gTg]
        have hst := cTgL_star hL
        have pgs : ∀ {es : List Expr} {q : List Bd × List Nat}, cTgL (cTg N lc n) es = some q → PGs X es (gTgL (gTg X.kw N n) es) := by
          intro es
          induction es with
          | nil => intro q _; exact pgs_nil
          | cons e es ih =>
            intro q hq
            have hall := cTgL_star hq
            simp only [cTgL] at hq
            split at hq
            · rename_i h1 h2
              refine pgs_cons (cTg_pg hc hn h1) (ih h2) ?_
              rw [each_map hall, each_map (by simp only [List.all_cons, Bool.and_eq_true] at hall; exact hall.2)]
              rfl
            · cases hq
        refine pg_any2 hc (pgs hL) (by rw [each_map hst]; simp) ?_
        rw [each_map hst, List.findIdx?_eq_none_iff]
        intro x hx
        obtain ⟨e, _, rfl⟩ := List.mem_map.mp hx
        rfl
      · cases h
theorem cTg_g {K : KW} {N : List Str} {lc : Str → Bool} {own : List Nat} : ∀ {n : Nat} {e : Expr} {b : Bd} {is : List Nat} {w : Bool}, cTg N lc n e = some (b, is) → (w = true → isT e = true) → (∀ i ∈ is, i ∈ own) → GOk K w own (gTg K N n e) b
  | 0, _, _, _, _, h, _, _ => by cases h
  | n + 1, e, b, is, w, h, hw, ho => by
    cases e <;> first | (simp [cTg] at h; done) | skip
    case Name x p =>
      simp only [cTg] at h
      split at h
      · split at h
        · rename_i i hi
          cases h
          simp only [gTg, hi]
          have : w = false := by
            cases w with
            | false => rfl
            | true => exact absurd (hw rfl) (by simp [isT])
          subst this
          exact gName_ok (ho i (by simp))
        · cases h
      · cases h
    case Tuple ts k p =>
      simp only [cTg] at h
      split at h
      · rename_i bs js hL
        cases h
        simp only [gTg]
        have gs : ∀ {es : List Expr} {bs : List Bd} {is : List Nat}, cTgL (cTg N lc n) es = some (bs, is) → (∀ i ∈ is, i ∈ own) → GsOk K own (gTgL (gTg K N n) es) bs := by
          intro es
          induction es with
          | nil => intro bs is hq _; cases hq; exact gsNil_ok
          | cons e es ih =>
            intro bs is hq ho
            simp only [cTgL] at hq
            split at hq
            · rename_i h1 h2
              cases hq
              exact gsCons_ok (cTg_g (w := false) h1 (fun z => Bool.noConfusion z) fun i hi => ho i (List.mem_append_left _ hi)) (ih h2 fun i hi => ho i (List.mem_append_right _ hi))
            · cases hq
        exact bTup_ok (cTgL_len hL) (gs hL ho)
      · cases h
/-- a comprehension, and one that is stored -/
theorem cComp_ok (G : Good c k X sc) (hr : ∀ m sc' e X', Good c k X' sc' → PE X' e (tS X'.kw (r m sc' e))) (ht : ∀ sc' e X', Good c k X' sc' → PT X' e (tST X'.kw (rt sc' e))) {m : Bool} {elt : Expr} {gens : List Comprehension} {scope : Scope} {pos : Pos} :
    PE X (.ListComp elt gens scope pos) (tS X.kw (cComp c r rt m sc elt gens scope)) ∧
    ∀ (i : Nat) (y : Str) (py spos : Pos), X.N[i]? = some y → X.env.scope.names.lookup y = some .local → swapsWith (.ListComp elt gens scope pos) (some (.Name y py)) spos.line X.env = pure true →
      PS X (.Assign [.Name y py] (.ListComp elt gens scope pos) spos) (tSS X.kw (sSet i (cComp c r rt m sc elt gens scope))) := by
  unfold cComp
  have none : PE X (.ListComp elt gens scope pos) (tS X.kw stk) ∧ ∀ (i : Nat) (y : Str) (py spos : Pos), X.N[i]? = some y → X.env.scope.names.lookup y = some .local → swapsWith (.ListComp elt gens scope pos) (some (.Name y py)) spos.line X.env = pure true →
      PS X (.Assign [.Name y py] (.ListComp elt gens scope pos) spos) (tSS X.kw (sSet i stk)) :=
    ⟨pe_stk, fun i y py spos _ _ _ => ⟨fun pins s σ H D I h => by obtain ⟨_, _, _, _, _, _, _, e, _⟩ := h; cases e⟩⟩
  split
  rotate_left
  · exact none
  split
  rotate_left
  · exact none
  rename_i tg iter ifs a _ bd is hi
  split
  rotate_left
  · exact none
  rename_i hc
  obtain ⟨rfl, hns, hbl, hix⟩ := hc
  have ok : BlkOk X.N X.env.scope scope (ownOf c.N scope) := by rw [G.N, G.scope]; exact blkOk_by hbl
  have hit : PI X tg iter (tSI X.kw (isT tg) (cItT r tg sc iter)) := cItT_ok G fun m e => hr m sc e X G
  have hN : X.N.Nodup := by rw [G.N]; exact G.nd
  have he : ∀ (s : Shared) (H : Hp) (C : Addr) (cl : List (Str × Addr)) (fp : List Addr), PE (X.blk s H scope (compEnvC scope cl C X.env) fp) elt (tS X.kw (r false (relS scope sc) elt)) := fun s H C cl fp => hr false _ elt _ (G.blk s H scope C cl fp)
  have htg : ∀ (s : Shared) (H : Hp) (C : Addr) (cl : List (Str × Addr)) (fp : List Addr), PG (X.blk s H scope (compEnvC scope cl C X.env) fp) tg (gTg X.kw c.N 3 tg) := fun s H C cl fp => cTg_pg (X := X.blk s H scope (compEnvC scope cl C X.env) fp) (G.blk s H scope C cl fp).calm (fun x i p a b => tgt_ok G a b s H C cl fp) hi
  have fin : ∀ (tst : Ev Bool), (∀ (s : Shared) (H : Hp) (C : Addr) (cl : List (Str × Addr)) (fp : List Addr), PTs (X.blk s H scope (compEnvC scope cl C X.env) fp) ifs (tST X.kw tst)) →
      PE X (.ListComp elt [⟨tg, iter, ifs, 0⟩] scope pos) (tS X.kw (eComp m (cItT r tg sc iter) bd ((ownOf c.N scope).map (·.2)) tst (r false (relS scope sc) elt))) ∧
      ∀ (j : Nat) (y : Str) (py spos : Pos), X.N[j]? = some y → X.env.scope.names.lookup y = some .local → swapsWith (.ListComp elt [⟨tg, iter, ifs, 0⟩] scope pos) (some (.Name y py)) spos.line X.env = pure true →
        PS X (.Assign [.Name y py] (.ListComp elt [⟨tg, iter, ifs, 0⟩] scope pos) spos) (tSS X.kw (sSet j (eComp m (cItT r tg sc iter) bd ((ownOf c.N scope).map (·.2)) tst (r false (relS scope sc) elt)))) := fun tst hts => by
    refine ⟨pe_mono (pe_lc G.calm hN hit ok htg hts he (set_ok hns)) fun pins s σc H Q I h => eComp_tr (cTg_g hi (fun z => z) hix) h, fun j y py spos hy hyl hsw => ?_⟩
    refine ps_mono (ps_setLc (i := j) G.calm hN hy hyl hsw hit ok htg hts he (set_ok hns)) fun pins s σc H D I h => ?_
    have h := sSet_tr h
    exact eComp_tr (cTg_g hi (fun z => z) hix) h
  split
  · refine fin tYes fun s H C cl fp => ?_
    refine ⟨fun pins s σ H Q I h => pts_nil.run pins s σ H Q I (tYes_tr h)⟩
  · exact fin _ fun s H C cl fp => pts_one (ht _ _ _ (G.blk s H scope C cl fp))
  · exact none
theorem cDComp_ok (G : Good c k X sc) (hr : ∀ m sc' e X', Good c k X' sc' → PE X' e (tS X'.kw (r m sc' e))) (ht : ∀ sc' e X', Good c k X' sc' → PT X' e (tST X'.kw (rt sc' e))) {m : Bool} {kx vx : Expr} {gens : List Comprehension} {scope : Scope} {pos : Pos} :
    PE X (.DictComp kx vx gens scope pos) (tS X.kw (cDComp c r rt m sc kx vx gens scope)) := by
  unfold cDComp
  split
  rotate_left
  · exact pe_stk
  split
  rotate_left
  · exact pe_stk
  rename_i tg iter ifs a _ bd is hi
  split
  rotate_left
  · exact pe_stk
  rename_i hc
  obtain ⟨rfl, hns, hbl, hix⟩ := hc
  have ok : BlkOk X.N X.env.scope scope (ownOf c.N scope) := by rw [G.N, G.scope]; exact blkOk_by hbl
  have hit : PI X tg iter (tSI X.kw (isT tg) (cItT r tg sc iter)) := cItT_ok G fun m e => hr m sc e X G
  have hN : X.N.Nodup := by rw [G.N]; exact G.nd
  have he : ∀ (e : Expr) (s : Shared) (H : Hp) (C : Addr) (cl : List (Str × Addr)) (fp : List Addr), PE (X.blk s H scope (compEnvC scope cl C X.env) fp) e (tS X.kw (r false (relS scope sc) e)) := fun e s H C cl fp => hr false _ e _ (G.blk s H scope C cl fp)
  have htg : ∀ (s : Shared) (H : Hp) (C : Addr) (cl : List (Str × Addr)) (fp : List Addr), PG (X.blk s H scope (compEnvC scope cl C X.env) fp) tg (gTg X.kw c.N 3 tg) := fun s H C cl fp => cTg_pg (X := X.blk s H scope (compEnvC scope cl C X.env) fp) (G.blk s H scope C cl fp).calm (fun x i p a b => tgt_ok G a b s H C cl fp) hi
  have fin : ∀ (tst : Ev Bool), (∀ (s : Shared) (H : Hp) (C : Addr) (cl : List (Str × Addr)) (fp : List Addr), PTs (X.blk s H scope (compEnvC scope cl C X.env) fp) ifs (tST X.kw tst)) →
      PE X (.DictComp kx vx [⟨tg, iter, ifs, 0⟩] scope pos) (tS X.kw (eDComp m (cItT r tg sc iter) bd ((ownOf c.N scope).map (·.2)) tst (r false (relS scope sc) kx) (r false (relS scope sc) vx))) := fun tst hts =>
    pe_mono (pe_dc G.calm hN hit ok htg hts (he kx) (he vx) (set_ok hns)) fun pins s σc H Q I h => eDComp_tr (cTg_g hi (fun z => z) hix) h
  split
  · refine fin tYes fun s H C cl fp => ?_
    refine ⟨fun pins s σ H Q I h => pts_nil.run pins s σ H Q I (tYes_tr h)⟩
  · exact fin _ fun s H C cl fp => pts_one (ht _ _ _ (G.blk s H scope C cl fp))
  · exact pe_stk
theorem cLenK_ok (G : Good c k X sc) (hr : ∀ m sc' e X', Good c k X' sc' → PE X' e (tS X'.kw (r m sc' e))) {x : Str} {elt : Expr} {gens : List Comprehension} {scope : Scope} {p pos cpos : Pos} :
    PE X (.Call (.Name x p) [.SetComp elt gens scope pos] [] cpos) (tS X.kw (cLenK c r sc x elt gens scope)) := by
  unfold cLenK
  split
  rotate_left
  · exact pe_stk
  rename_i hx
  obtain ⟨rfl, hgl⟩ := hx
  split
  rotate_left
  · exact pe_stk
  split
  rotate_left
  · exact pe_stk
  rename_i tg iter ifs a _ bd is hi
  split
  rotate_left
  · exact pe_stk
  rename_i hc
  obtain ⟨rfl, hns, hbl, hix⟩ := hc
  have ok : BlkOk X.N X.env.scope scope (ownOf c.N scope) := by rw [G.N, G.scope]; exact blkOk_by hbl
  have hit : PI X tg iter (tSI X.kw (isT tg) (cItT r tg sc iter)) := cItT_ok G fun m e => hr m sc e X G
  have hN : X.N.Nodup := by rw [G.N]; exact G.nd
  have he : ∀ (e : Expr) (s : Shared) (H : Hp) (C : Addr) (cl : List (Str × Addr)) (fp : List Addr), PE (X.blk s H scope (compEnvC scope cl C X.env) fp) e (tS X.kw (r false (relS scope sc) e)) := fun e s H C cl fp => hr false _ e _ (G.blk s H scope C cl fp)
  have htg : ∀ (s : Shared) (H : Hp) (C : Addr) (cl : List (Str × Addr)) (fp : List Addr), PG (X.blk s H scope (compEnvC scope cl C X.env) fp) tg (gTg X.kw c.N 3 tg) := fun s H C cl fp => cTg_pg (X := X.blk s H scope (compEnvC scope cl C X.env) fp) (G.blk s H scope C cl fp).calm (fun x i p a b => tgt_ok G a b s H C cl fp) hi
  split
  · have hts : ∀ (s : Shared) (H : Hp) (C : Addr) (cl : List (Str × Addr)) (fp : List Addr), PTs (X.blk s H scope (compEnvC scope cl C X.env) fp) [] (tST X.kw tYes) := fun s H C cl fp => ⟨fun pins s σ H Q I h => pts_nil.run pins s σ H Q I (tYes_tr h)⟩
    exact pe_mono (pe_lenK (glb_ok G hgl) (G.blt _ (by decide)) G.calm hN hit ok htg hts (he elt) (set_ok hns)) fun pins s σc H Q I h => eSetLen_tr (cTg_g hi (fun z => z) hix) h
  · exact pe_stk
theorem cmpT {a b : Expr} {op : CmpOp} {ea eb : Ev Val} {pos : Pos} (G : Good c k X sc) (ha : PE X a (tS X.kw ea)) (hb : PE X b (tS X.kw eb)) (hn : noSet b = true) : PT X (.Compare a [op] [b] pos) (tST X.kw (DE.tB (e2 false (gCmp op) ea eb))) := by
  refine pt_mono (pt_cmpR (cmp_got G.hu70 op) ha hb (noMark hn)) fun pins s σc H Q I h => ?_
  exact e2_tr (nw := true) (fun _ => rfl) (show tS X.kw (e2 false (gCmp op) ea eb) σc H fun x H' => ∃ k, x = .bl k ∧ Q k H' by
    obtain ⟨F, β, σ, h, hs, sr, x, h', e, q⟩ := h
    rcases qa : e2 false (gCmp op) ea eb σ h with _ | ⟨y, h1⟩ <;> simp only [DE.tB, qa] at e
    · cases e
    refine ⟨F, β, σ, h, hs, sr, y, h1, qa, fun F1 β1 H1 v hs1 x1 r1 => ?_⟩
    rcases qd : asB y with _ | d <;> simp only [qd] at e
    · cases e
    obtain ⟨rfl, rfl⟩ := asB_ok qd r1
    cases e
    exact ⟨_, rfl, q F1 β1 H1 hs1 x1⟩)
theorem marks2 {op op' : CmpOp} {b d : Expr} (h : noSet d = true) : lastMarks [op, op'] [b, d] = false := noMark h
theorem chainT {a b d : Expr} {op op' : CmpOp} {ea eb ed : Ev Val} {pos : Pos} (G : Good c k X sc) (ha : PE X a (tS X.kw ea)) (hb : PE X b (tS X.kw eb)) (hd : PE X d (tS X.kw ed)) (hn : noSet d = true) :
    PT X (.Compare a [op, op'] [b, d] pos) (tST X.kw (DE.tB (eChain (gCmp op) (gCmp op') ea eb ed))) := by
  refine pt_mono (pt_chain (oc_ops G.hu70 op) (oc_ops G.hu70 op') ha hb hd (marks2 hn)) fun pins s σc H Q I h => ?_
  exact eChain_tr (show tS X.kw (eChain (gCmp op) (gCmp op') ea eb ed) σc H fun x H' => ∃ k, x = .bl k ∧ Q k H' by
    obtain ⟨F, β, σ, h, hs, sr, x, h', e, q⟩ := h
    rcases qa : eChain (gCmp op) (gCmp op') ea eb ed σ h with _ | ⟨y, h1⟩ <;> simp only [DE.tB, qa] at e
    · cases e
    refine ⟨F, β, σ, h, hs, sr, y, h1, qa, fun F1 β1 H1 v hs1 x1 r1 => ?_⟩
    rcases qd : asB y with _ | d <;> simp only [qd] at e
    · cases e
    obtain ⟨rfl, rfl⟩ := asB_ok qd r1
    cases e
    exact ⟨_, rfl, q F1 β1 H1 hs1 x1⟩)
theorem pairs_ok {pos : Pos} (hr : ∀ m e, PE X e (tS X.kw (r m sc e))) : ∀ {ks : List (Option Expr)} {vs : List Expr} {l : List Str}, keyNames ks = some l → l.length = vs.length → PPs X pos ks vs (trOf X.kw (l.zip (vs.map (r false sc)))) ∧ ks.all (·.isSome) = true ∧ ks.length = l.length
  | [], [], l, h, e => by cases h; exact ⟨pps_nil, rfl, rfl⟩
  | [], _ :: _, l, h, e => by cases h; cases e
  | k :: ks, [], l, h, e => by
    cases l with
    | nil =>
      unfold keyNames at h
      split at h
      · rename_i z; cases z
      · split at h <;> cases h
      · cases h
    | cons x l => cases e
  | k :: ks, v :: vs, l, h, e => by
    unfold keyNames at h
    split at h
    · rename_i z; cases z
    · rename_i x kk pp rr z
      cases z
      split at h
      · rename_i l' hl'
        cases h
        obtain ⟨i1, i2, i3⟩ := pairs_ok (pos := pos) hr hl' (by simpa using e)
        refine ⟨pps_cons pe_str (hr false v) i1, by simp [i2], by simp [i3]⟩
      · cases h
    · cases h
theorem hE_ok (G : Good c k X sc) (hr : ∀ m sc' e X', Good c k X' sc' → PE X' e (tS X'.kw (r m sc' e))) (ht : ∀ sc' e X', Good c k X' sc' → PT X' e (tST X'.kw (rt sc' e))) (m : Bool) (e : Expr) : PE X e (tS X.kw (hE c r rt m sc e)) := by
  have h1 : ∀ m e, PE X e (tS X.kw (r m sc e)) := fun m e => hr m sc e X G
  unfold hE
  split
  · exact pe_mono pe_int fun _ _ _ _ _ _ h => c_tr (fun _ _ => .int _) h
  · exact pe_mono pe_str fun _ _ _ _ _ _ h => c_tr (fun _ _ => .str _) h
  · exact pe_mono pe_bl fun _ _ _ _ _ _ h => c_tr (fun _ _ => .bl _) h
  · exact pe_mono pe_non fun _ _ _ _ _ _ h => c_tr (fun _ _ => .non) h
  · exact cName_ok G
  · exact cBin_ok h1
  · exact pe_mono (pe_un od_neg (h1 _ _)) fun _ _ _ _ _ _ h => e1_tr (fun _ => rfl) h
  · exact pe_mono (pe_not (h1 _ _)) fun _ _ _ _ _ _ h => eNot_tr h
  · exact cBool_ok fun e => h1 false e
  · split
    · rename_i hn
      exact pe_mono (pe_cmpR (cmp_got G.hu70 _) (h1 _ _) (h1 _ _) (noMark hn)) fun _ _ _ _ _ _ h => e2_tr (fun _ => rfl) h
    · exact pe_stk
  · split
    · rename_i hn
      exact pe_mono (pe_chain (oc_ops G.hu70 _) (oc_ops G.hu70 _) (h1 _ _) (h1 _ _) (h1 _ _) (marks2 hn)) fun _ _ _ _ _ _ h => eChain_tr h
    · exact pe_stk
  · exact pe_mono (pe_ifExp (ht _ _ X G) (h1 _ _) (h1 _ _)) fun _ _ _ _ _ _ h => eIf_tr h
  · exact cLenK_ok G hr
  · exact cCallN_ok G h1
  · exact cCallK_ok G h1
  · exact cMeth_ok G h1
  · exact cSub_ok G h1
  · split
    · rename_i hn
      exact cTup_ok h1 hn
    · exact pe_stk
  · split
    · rename_i hn
      exact pe_mono (pe_lst (pa_list (sc := sc) (fun e => h1 false e) hn)) fun _ _ _ _ _ _ h => eLst_tr h
    · exact pe_stk
  · rename_i ks vs pos
    split
    · rename_i hne
      obtain ⟨rfl, _, e1, e2⟩ := hne
      cases ks with
      | cons a b => cases e1
      | nil =>
        cases vs with
        | cons a b => cases e2
        | nil => exact pe_newE
    split
    · rename_i l hl
      split
      · rename_i hc
        obtain ⟨c1, c2, c3⟩ := hc
        obtain ⟨p1, p2, p3⟩ := pairs_ok (pos := pos) h1 hl c2
        have z1 : (l.zip (vs.map (r false sc))).map (·.1) = l := List.map_fst_zip (by simp [c2])
        have z2 : (l.zip (vs.map (r false sc))).length = l.length := by simp [c2]
        cases ks with
        | nil =>
          cases hl
          cases vs with
          | nil =>
            refine pe_mono pe_dnewK fun pins s σc H Q I h => ?_
            intro p hp
            have h := eDct_tr (ps := []) (by simp) (by simp) h p hp
            obtain ⟨_, kvs, e, _, q⟩ := h
            cases kvs with
            | nil =>
              have q : Q (.ref p) (upd (upd H p (.dK [])) p (.dK [])) := q
              rw [upd_upd] at q
              exact q
            | cons a b => cases e
          | cons a b => cases c2
        | cons a b =>
          refine pe_mono (pe_disp p1 p2 (by rw [p3, c2]) (by simp) (by rw [p3]; exact c3)) fun pins s σc H Q I h => ?_
          exact eDct_tr (by rw [z1]; exact c1) (by rw [z2]; exact c3) h
      · exact pe_stk
    · exact pe_stk
  · exact (cComp_ok G hr ht).1
  · exact cDComp_ok G hr ht
  · exact pe_stk
theorem hT_ok (G : Good c k X sc) (hr : ∀ m sc' e X', Good c k X' sc' → PE X' e (tS X'.kw (r m sc' e))) (ht : ∀ sc' e X', Good c k X' sc' → PT X' e (tST X'.kw (rt sc' e))) (e : Expr) : PT X e (tST X.kw (hT r rt sc e)) := by
  have h1 : ∀ m e, PE X e (tS X.kw (r m sc e)) := fun m e => hr m sc e X G
  unfold hT
  split
  · rename_i op es pos
    cases es with
    | nil => exact pt_stk
    | cons a b => exact (cBoolT_ok (fun e => ht sc e X G) (by simp)).pt
  · exact pt_mono (pt_not (ht sc _ X G)) fun _ _ _ _ _ _ h => tNot_tr h
  · split
    · rename_i hn
      exact cmpT G (h1 _ _) (h1 _ _) hn
    · exact pt_stk
  · split
    · rename_i hn
      exact chainT G (h1 _ _) (h1 _ _) (h1 _ _) hn
    · exact pt_stk
  · exact pt_mono (pt_val (h1 _ _) (by intro _; rfl)) fun _ _ _ _ _ _ h => tB_tr h
  · exact pt_mono (pt_val (h1 _ _) (by intro _; rfl)) fun _ _ _ _ _ _ h => tB_tr h
  · exact pt_mono (pt_val (h1 _ _) (by intro _; rfl)) fun _ _ _ _ _ _ h => tB_tr h
  · exact pt_mono (pt_val (h1 _ _) (by intro _; rfl)) fun _ _ _ _ _ _ h => tB_tr h
  · exact pt_stk
end
theorem cc_ok (c : Cg) (k : Nat) : ∀ n, (∀ m sc e X, Good c k X sc → PE X e (tS X.kw ((cc c n).e m sc e))) ∧ ∀ sc e X, Good c k X sc → PT X e (tST X.kw ((cc c n).t sc e))
  | 0 => ⟨fun _ _ _ _ _ => pe_stk, fun _ _ _ _ => pt_stk⟩
  | n + 1 => ⟨fun m sc e X G => hE_ok G (cc_ok c k n).1 (cc_ok c k n).2 m e, fun sc e X G => hT_ok G (cc_ok c k n).1 (cc_ok c k n).2 e⟩
end DE
end
section
set_option Elab.async false
set_option linter.all false
set_option maxRecDepth 100000
set_option maxHeartbeats 1000000
/-! statements, defs, the law's end -/
namespace DE
open PySem PySem.Spec PyProof.Rows L2

section
variable {c : Cg} {k : Nat} {X : Cx} {sc : Scope}
theorem foldS_ok {f : Stmt → Ex1} (h : ∀ s, PS X s (tSS X.kw (f s))) : ∀ l : List Stmt, PSs X l (tSS X.kw (foldS f l))
  | [] => pss_mono pss_nil fun _ _ _ _ _ _ h => sNil_tr h
  | s :: l => pss_mono (pss_cons (h s) (foldS_ok h l)) fun _ _ _ _ _ _ h => sSeq_tr h
theorem noComp_sw {e : Expr} {t : Option Expr} {line : Nat} {env : Env} (h : noComp e = true) : swapsWith e t line env = pure false := by
  cases e <;> first | rfl | (simp [noComp] at h)
theorem set_stk {x : Str} {p pos : Pos} {e : Expr} {i : Nat} : PS X (.Assign [.Name x p] e pos) (tSS X.kw (sSet i stk)) :=
  ⟨fun pins s σ H D I h => by obtain ⟨_, _, _, _, _, _, _, e, _⟩ := h; cases e⟩
theorem cSet_ok (G : Good c k X sc) (hfn : ∀ x, X.fn x = true) {n : Nat} {x : Str} {e : Expr} {p pos : Pos} : PS X (.Assign [.Name x p] e pos) (tSS X.kw (cSet c (cc c (n + 1)) sc x e)) := by
  unfold cSet
  split
  rotate_left
  · exact ps_stk
  rename_i hl
  obtain ⟨hl, hdc⟩ := hl
  split
  rotate_left
  · exact ps_stk
  rename_i i hi
  have hN : X.N.Nodup := by rw [G.N]; exact G.nd
  have hi' : X.N[i]? = some x := by rw [G.N]; exact slotOf_ok hi
  have hl' : Loc X.env.scope x := by rw [G.scope]; exact loc_ok hl
  have plain : ∀ {e : Expr} {m : Bool}, swapsWith e (some (.Name x p)) pos.line X.env = pure false → PS X (.Assign [.Name x p] e pos) (tSS X.kw (sSet i ((cc c (n + 1)).e m sc e))) := fun {e m} hs =>
    ps_mono (ps_set hN hi' hl' ((cc_ok c k (n + 1)).1 m sc e X G) hs (.inl (hfn x))) fun _ _ _ _ _ _ h => sSet_tr h
  by_cases hc : noComp e = true
  · exact plain (noComp_sw hc)
  · cases e with
    | ListComp elt gens scope cp =>
      have sw : swapsWith (.ListComp elt gens scope cp) (some (.Name x p)) pos.line X.env = pure (X.env.blockKind == .function && X.env.kindOf x == some .local && p.line == (Expr.ListComp elt gens scope cp).pos.line
        && !(scope.names.any fun (n, k) => n == x && (k == .local || k == .cell))) := rfl
      generalize hb : (X.env.blockKind == .function && X.env.kindOf x == some .local && p.line == (Expr.ListComp elt gens scope cp).pos.line
        && !(scope.names.any fun (n, k) => n == x && (k == .local || k == .cell))) = b at sw
      cases b with
      | false => exact plain sw
      | true =>
        simp only [Bool.and_eq_true] at hb
        have hlx : X.env.scope.names.lookup x = some .local := by
          have z := hb.1.1.2
          exact eq_of_beq z
        exact (cComp_ok G (cc_ok c k n).1 (cc_ok c k n).2).2 i x p pos hi' hlx sw
    | _ => first | (exact absurd rfl hc) | (cases hdc; done) | exact set_stk
theorem tup_sw {ts : List Expr} {tk : Nat} {tp : Pos} {line : Nat} {env : Env} (e : Expr) : swapsWithSole [.Tuple ts tk tp] e line env = pure false := by
  cases e <;> rfl
theorem tup_ss {ts : List Expr} {tk : Nat} {tp : Pos} {env : Env} {e : Expr} (h : okVal e = true) : swappedStores [.Tuple ts tk tp] e env = pure none := by
  cases e <;> first | rfl | skip
  case Tuple vs k p =>
    have h : vs.all (foldedForSure 8) = true := h
    unfold swappedStores
    simp only [h, if_true]
    repeat' split
    all_goals rfl
theorem okPar_ss {x y : Str} {px py pt : Pos} {kt : Nat} {a b : Expr} {k2 : Nat} {pt2 : Pos} (hs : ([a, b] : List Expr).all noStar = true) (h : okPar X.env.scope x px y py a b = true) :
    swappedStores [.Tuple [.Name x px, .Name y py] kt pt] (.Tuple [a, b] k2 pt2) X.env = pure (some [x, y]) := by
  unfold okPar at h
  simp only [Bool.and_eq_true, Bool.not_eq_true', beq_iff_eq] at h
  obtain ⟨⟨⟨⟨⟨⟨h1, h2⟩, h3⟩, h4⟩, h5⟩, h6⟩, h7⟩ := id h
  unfold swappedStores
  have hb : X.env.blockKind = .function := by
    unfold Env.blockKind
    rw [h5]
    rfl
  have hx : (x == y) = false := by simpa using h3
  have hy : (y == x) = false := by rw [Bool.eq_false_iff]; intro z; rw [eq_of_beq z] at hx; simp at hx
  have hp : (Expr.Name x px).pos = px := rfl
  simp only [hb, h6, h7, Env.kindOf, h1, h2, h4, List.length_cons, List.length_nil, List.head?_cons, Option.map_some, Option.getD_some, hp, List.filterMap_cons, List.filterMap_nil]
  simp [List.eraseDups, List.eraseDupsBy, List.eraseDupsBy.loop, hx, hy]
  simp only [List.all_cons, List.all_nil, Bool.and_true, Bool.and_eq_true] at hs
  intro z
  exfalso
  rcases z with z | z
  · have h := hs.1
    cases a <;> first | (cases z; done) | (cases h; done)
  · have h := hs.2
    cases b <;> first | (cases z; done) | (cases h; done)
theorem cAsgT_ok (G : Good c k X sc) (hfn : ∀ x, X.fn x = true) {n : Nat} {ts : List Expr} {tk : Nat} {tp pos : Pos} {e : Expr} : PS X (.Assign [.Tuple ts tk tp] e pos) (tSS X.kw (cAsgT c (cc c (n + 1)) sc ts tk tp e)) := by
  have h1 : ∀ m e, PE X e (tS X.kw ((cc c (n + 1)).e m sc e)) := fun m e => (cc_ok c k (n + 1)).1 m sc e X G
  have hnm : ∀ x i p, slotOf c.N x = some i → loc sc x = true → PG X (.Name x p) (gName i) := fun x i p hi hl =>
    pg_name (i := i) (by rw [G.N]; exact G.nd) (by rw [G.N]; exact slotOf_ok hi) (by rw [G.scope]; exact loc_ok hl) (.inl (hfn _))
  unfold cAsgT
  split
  · rename_i hv
    split
    · rename_i b is hb
      refine ps_mono (ps_asg (h1 false _) (cTg_pg G.calm hnm hb) (tup_sw _) (tup_ss hv) rfl) fun _ _ _ _ _ _ h => sSetB_tr (cTg_g (own := is) (w := false) hb (fun z => Bool.noConfusion z) fun _ z => z) h
    · exact ps_stk
  · exact ps_stk
theorem hS_ok (G : Good c k X sc) (hfn : ∀ x, X.fn x = true) {n : Nat} {rs : Stmt → Ex1} {rm : Bool} (hrs : ∀ s, PS X s (tSS X.kw (rs s))) (s : Stmt) : PS X s (tSS X.kw (hS c (cc c (n + 1)) rs rm sc s)) := by
  have h1 : ∀ m e, PE X e (tS X.kw ((cc c (n + 1)).e m sc e)) := fun m e => (cc_ok c k (n + 1)).1 m sc e X G
  have h2 : ∀ e, PT X e (tST X.kw ((cc c (n + 1)).t sc e)) := fun e => (cc_ok c k (n + 1)).2 sc e X G
  have hp : PassesOwn (model X.prog X.w) X.A X.env X.xe := by rw [G.xe]; exact PassesOwn.never
  have hnm : ∀ x i p, slotOf c.N x = some i → loc sc x = true → PG X (.Name x p) (gName i) := fun x i p hi hl =>
    pg_name (i := i) (by rw [G.N]; exact G.nd) (by rw [G.N]; exact slotOf_ok hi) (by rw [G.scope]; exact loc_ok hl) (.inl (hfn _))
  unfold hS
  split
  · split
    · rename_i hc
      exact ps_mono (ps_expr (h1 _ _) (noComp_sw hc)) fun _ _ _ _ _ _ h => sExpr_tr h
    · exact ps_stk
  · exact cSet_ok G hfn
  · split
    · rename_i hc
      exact pe_setL (h1 _ _) (h1 _ _) (h1 _ _) (noComp_sw hc)
    · exact ps_stk
  · split
    · rename_i hc
      split
      · exact ps_mono (ps_dput2 (by have := G.hu; omega) (h1 _ _) (h1 _ _) (h1 _ _) (noComp_sw hc)) fun _ _ _ _ _ _ h => sPutE_tr h
      · exact ps_mono (ps_dput G.hu1 (h1 _ _) (h1 _ _) (h1 _ _) (noComp_sw hc)) fun _ _ _ _ _ _ h => sPutD_tr h
    · exact ps_stk
  · exact ps_mono (ps_ret (h1 _ _)) fun _ _ _ _ _ _ h => sRet_tr h
  · refine ps_mono ps_retN fun pins s σc H D I h => ?_
    have h := sRet_tr h
    exact c_tr (fun _ _ => .non) h
  · exact ps_mono (ps_if (h2 _) (foldS_ok hrs _) (foldS_ok hrs _)) fun _ _ _ _ _ _ h => sIf_tr h
  · split
    · rename_i hc
      split
      · rename_i i hi
        refine ps_mono (ps_for hp G.calm (cIter_ok (w := false) G h1) (pg_name (i := i) (by rw [G.N]; exact G.nd) (by rw [G.N]; exact slotOf_ok hi) (by rw [G.scope]; exact loc_ok hc.1) (.inl (hfn _))) (foldS_ok hrs _) (set_ok hc.2)) fun _ _ _ _ _ _ h => ?_
        exact sFor_tr (gName_ok (own := [i]) (by simp)) h
      · exact ps_stk
    · exact ps_stk
  · exact ps_mono ps_pass fun _ _ _ _ _ _ h => sNil_tr h
  · split
    · rename_i hv
      obtain ⟨hv, hst⟩ := hv
      split
      · rename_i i j hi hj
        have hv' := hv
        rw [← G.scope] at hv'
        have hv2 := hv'
        unfold okPar at hv'
        simp only [Bool.and_eq_true, Bool.not_eq_true', beq_iff_eq] at hv'
        obtain ⟨⟨⟨⟨⟨⟨z1, z2⟩, z3⟩, z4⟩, z5⟩, z6⟩, z7⟩ := hv'
        have hi' := slotOf_ok hi
        have hj' := slotOf_ok hj
        refine ps_mono (ps_par G.calm (by rw [G.N]; exact G.nd) (by rw [G.N]; exact hi') (by rw [G.N]; exact hj') (fun e => ?_) z1 z2 (pa_list (sc := sc) (fun e => h1 false e) hst) (okPar_ss hst hv2) (tup_sw _)) fun _ _ _ _ _ _ h => sPar_tr h
        subst e
        rw [hi'] at hj'
        cases hj'
        simp at z3
      · exact ps_stk
    · exact cAsgT_ok G hfn
  · exact cAsgT_ok G hfn
  · split
    · rename_i hc
      split
      · rename_i b is hb
        refine ps_mono (ps_for hp G.calm (cItT_ok G h1) (cTg_pg G.calm hnm hb) (foldS_ok hrs _) (set_ok hc)) fun _ _ _ _ _ _ h => ?_
        exact sFor_tr (cTg_g (own := is) (w := true) hb (fun _ => rfl) fun _ z => z) h
      · exact ps_stk
    · exact ps_stk
  · exact ps_mono (ps_while hp (h2 _) (foldS_ok hrs _)) fun _ _ _ _ _ _ h => sWhile_tr h
  · exact ps_stk
theorem cS_ok (G : Good c k X sc) (hfn : ∀ x, X.fn x = true) {f : Nat} {rm : Bool} : ∀ (n : Nat) (s : Stmt), PS X s (tSS X.kw (cS c (f + 1) rm sc n s))
  | 0, _ => ps_stk
  | n + 1, s => hS_ok G hfn (cS_ok G hfn n) s
theorem cB_ok (G : Good c k X sc) (hfn : ∀ x, X.fn x = true) {rm : Bool} (body : List Stmt) : PSs X body (tSS X.kw (cB c rm sc body)) := foldS_ok (cS_ok G hfn 20) body
end
/-! ### the defs of a text -/
structure FD where
  name : Str
  st : Stmt
  N : List Str
  ps : List Str
  mv : List Str
def fnAt (cst : List (Str × PyData)) (T : List FD) : Nat → Bool → Str → Fn
  | 0, _, _ => fun _ _ => none
  | k + 1, m, x => fun xs h => match T.find? fun fd => decide (fd.name = x) with
    | none => none
    | some fd => if xs.length = fd.ps.length then runFn fd.N.length (cB ⟨fd.N, fd.mv, cst, T.map (·.name), fnAt cst T k⟩ m (defScope fd.st) (defBody fd.st)) xs h else none
theorem fnAt_len {cst : List (Str × PyData)} {T : List FD} {fd : FD} (hf : T.find? (fun g => decide (g.name = fd.name)) = some fd) : ∀ {k : Nat} {m : Bool} {xs : List Val} {h : MH} {y : Val × MH}, fnAt cst T k m fd.name xs h = some y → xs.length = fd.ps.length
  | 0, _, _, _, _, e => by cases e
  | k + 1, m, xs, h, y, e => by
    simp only [fnAt, hf] at e
    split at e
    · assumption
    · cases e
theorem find_self {T : List FD} (nd : (T.map (·.name)).Nodup) {fd : FD} (h : fd ∈ T) : T.find? (fun g => decide (g.name = fd.name)) = some fd := by
  induction T with
  | nil => cases h
  | cons a T ih =>
    rw [List.map_cons] at nd
    obtain ⟨h1, h2⟩ := List.nodup_cons.mp nd
    rcases List.mem_cons.mp h with rfl | h
    · rw [List.find?_cons_of_pos (by simp)]
    · rw [List.find?_cons_of_neg (by simp only [decide_eq_true_eq]; intro e; exact h1 (List.mem_map.mpr ⟨fd, h, e.symm⟩))]
      exact ih h2 h
section
variable {P : Program} {w : World} {K : PySem.W.Frag} {mg : Str → Option Value} {base : Heap} {cst : List (Str × PyData)} {T : List FD}
/-- what the top has left of a def -/
structure Left (K : KW) (mg : Str → Option Value) (fd : FD) (f : Addr) (fn : FuncData) : Prop where
  fu : Fun K fd.name fd.name fd.st f fn
  at_ : mg fd.name = some (.ref f)
  bd : BindX K fn fd.ps (kwOf fd.name)
  sc : FnScope fd.N fd.ps (defScope fd.st)
theorem start_sr {K : KW} {F : Fz} {β : List Addr} {H : Hp} {N : List Str} {vs : List V} {xs : List Val} (r : RVs K F β H vs xs) : SR K F β H (L2.start N vs) (xs.map some ++ List.replicate (N.length - xs.length) none) := by
  have e := r.length
  refine ⟨by unfold L2.start; simp [e], fun i x hx => ?_⟩
  unfold L2.start
  by_cases hi : i < xs.length
  · rw [List.getElem?_append_left (by simpa using hi), List.getElem?_map] at hx
    obtain ⟨y, h1, h2⟩ := Option.map_eq_some_iff.mp hx
    cases h2
    rw [List.getElem?_append_left (by simpa [e] using hi), List.getElem?_map]
    clear hx
    induction r generalizing i with
    | nil => simp at h1
    | cons a b ih =>
      cases i with
      | zero => simp at h1; subst h1; exact ⟨_, rfl, a⟩
      | succ i => simpa using ih (by simpa using e) i (by simpa using hi) (by simpa using h1)
  · rw [List.getElem?_append_right (by simpa using hi), List.getElem?_replicate] at hx
    split at hx <;> cases hx
theorem fns_ok (nd : (T.map (·.name)).Nodup) (hcst : ∀ x d, cst.lookup x = some d → ∃ v u, mg x = some u ∧ RelV v u ∧ ∀ F H, Rep ⟨K, w⟩ F H v d) (hblt : ∀ x ∈ blts, mg x = none)
    (hT : ∀ fd ∈ T, ∃ f fn, Left ⟨K, w⟩ mg fd f fn) : ∀ (k : Nat) (fd : FD), fd ∈ T → ∀ f fn, Left ⟨K, w⟩ mg fd f fn → ∀ m, FnG P w ⟨K, w⟩ mg base k f fn fd.ps (spOf ⟨K, w⟩ fd.ps.length (fnAt cst T k m fd.name))
  | 0, fd, hfd, f, fn, L, m => ⟨fun vs H Q E h => h.1, fun A outer s H args us vs Q _ _ _ _ _ h => by obtain ⟨_, _, _, _, _, _, _, _, _, e, _⟩ := h; cases e⟩
  | k + 1, fd, hfd, f, fn, L, m => by
    have ih := fns_ok nd hcst hblt hT k
    have hfind := find_self nd hfd
    obtain ⟨oc, od, kV, doc, pm, an, cdv, ct, osl, rfl, lk, hcd⟩ := L.fu.ex
    refine fnG_of lk hcd L.sc (fun vs H Q E h => h.1) fun A outer s H vs Q hr hgd hsp => ?_
    obtain ⟨hlen, F, β, h, xs, x, h', hs, rv, e, q⟩ := hsp
    simp only [fnAt, hfind] at e
    split at e
    rotate_left
    · cases e
    have G : Good ⟨fd.N, fd.mv, cst, T.map (·.name), fnAt cst T k⟩ k (cxOf CX0 P w K mg base fd.N fd.name (defScope fd.st) f cdv A outer s H E0).nox (defScope fd.st) := by
      refine ⟨rfl, rfl, L.sc.nd, rfl, hr, hgd, rfl, hcst, hblt, fun y hy => ?_⟩
      obtain ⟨gd, hg, rfl⟩ := List.mem_map.mp hy
      obtain ⟨f2, fn2, L'⟩ := hT gd hg
      exact ⟨f2, fn2, gd.ps, L'.at_, L'.fu.kp, L'.bd, fun m xs h y e => fnAt_len (find_self nd hg) e, fun m => ih gd hg f2 fn2 L' m⟩
    refine pss_mono (cB_ok G (fun _ => rfl) (rm := m) (defBody fd.st)) fun pins s' σ H' D I hw => ?_
    obtain ⟨rfl, rfl, rfl⟩ := hw
    unfold runFn at e
    split at e
    · rename_i v h1 eb
      cases e
      exact ⟨F, β, _, h, hs, start_sr rv, _, eb, fun F' β' H' v hs' x' rv' => q F' β' H' v hs' x' rv'⟩
    · rename_i s1 h1 eb
      cases e
      exact ⟨F, β, _, h, hs, start_sr rv, _, eb, fun F' β' σc' H' hs' sr' x' => q F' β' H' .non hs' x' .non⟩
    · cases e
end
/-! ### the law's own call -/
theorem lawG_call {P : Program} {w : World} {K : PySem.W.Frag} {mg mb : Str → Option Value} {k : Nat} {fa a : Addr} {fd : FuncData} {x : Str} {fn : Fn} {s₁ : Shared} {vs : List Value} {ns : List Int}
    (KX : K.In s₁.heap) (hns : s₁.heap.Ns mainGlobals mg) (hb : s₁.heap.Ns builtinsNs mb) (hbb : ∀ x : Str, x ≠ "__name__" → mb x = bootBuiltins x) (hlim : s₁.heap.NoLimit) (hg : s₁.gens = #[])
    (ha : s₁.heap.get? a = some { cls := .type "list", data := .seq vs.toArray }) (hi : IntsAre vs ns) (hl : ns.length ≤ sizeLine) (hr : Room k callerA)
    (F : ∀ base : Heap, FnG P w ⟨K, w⟩ mg base k fa fd [x] (spOf ⟨K, w⟩ 1 fn)) (hbind : ∀ (s : Shared) (u : Value), BindsTo s fd ⟨[u], []⟩ [(x, u)])
    (hlaw : ∃ h', fn [.t (.list (ns.map PyData.int))] [] = some (.t (.bool true), h')) :
    codeAny (model P w) callerA (.call (.ref fa) ⟨[.ref a], []⟩) (fun r s' => r = .ok (.ret (.bool true)) ∧ OldK s₁.heap s'.heap ∧ s'.os = s₁.os ∧ AllBare s'.gens) s₁ := by
  have rv := vals_ints hi
  have lenV := hi.length
  have rints : ∀ (F : Fz) (H : Hp) (ns : List Int), Reps ⟨K, w⟩ F H (ns.map V.int) (ns.map PyData.int) := fun F H ns => by
    induction ns with
    | nil => exact .nil
    | cons n ns ih => exact .cons (.int n) ih
  obtain ⟨hE, elaw⟩ := hlaw
  have core : ∀ H : Hp, (∀ b, H b = none ∨ ∃ o xs, H b = some (.frz o (.lst xs))) → FL ⟨K, w⟩ (fun _ => False) H a (ns.map V.int) → HOk P w H s₁.heap → (∀ b, H b ≠ none → b = a) → (H a ≠ none → K.lookup a = none) →
      codeAny (model P w) callerA (.call (.ref fa) ⟨[.ref a], []⟩) (fun r s' => r = .ok (.ret (.bool true)) ∧ OldK s₁.heap s'.heap ∧ s'.os = s₁.os ∧ AllBare s'.gens) s₁ := by
    intro H hO hS hok hA hK
    have noA : ∀ {b : Addr} {o : Obj} {es : Array DictEntry} {ep : Nat}, s₁.heap.get? b = some o → o.data = .dict es ep → H b = none := fun {b o es ep} e d => by
      cases q : H b with
      | none => rfl
      | some u =>
        have e' : b = a := hA b (by rw [q]; simp)
        rw [e', ha] at e
        cases e
        cases d
    have nsK : ∀ {b : Addr} {m : Str → Option Value}, s₁.heap.Ns b m → (hidT s₁.heap H).Ns b m := fun {b m} ⟨o, es, ep, e, d, r⟩ => ⟨o, es, ep, hidT_get e (noA e d), d, r⟩
    have hKb : K.In (hidT s₁.heap H) := fun b o e => hidT_get (KX b o e) (by
      cases q : H b with
      | none => rfl
      | some u =>
        have e' : b = a := hA b (by rw [q]; simp)
        rw [e', hK (by rw [← e', q]; simp)] at e
        cases e)
    have hM : Mod K mg (hidT s₁.heap H) := ⟨hKb, nsK hns, ⟨mb, nsK hb, hbb⟩, let ⟨mc, h1, h2⟩ := hlim; ⟨mc, nsK h1, h2⟩⟩
    have e0 : Env0 P w K mg (hidT s₁.heap H) callerA [] s₁ H := ⟨rfl, hM, fun b o e => of_hidT e, Nat.le_of_eq (hidT_size _ _), trivial, fun b hb => (nomatch (show b ∈ ([] : List Addr) from hb)), hok, .of_eq hg⟩
    have hsp : spOf ⟨K, w⟩ 1 fn [.ref a] H (fun v _ => v = .bl true) E0 := by
      refine ⟨rfl, fun _ => False, [], [], [.t (.list (ns.map PyData.int))], _, hE, ⟨rfl, List.nodup_nil, fun n b o z => by simp at z, fun b z => z.elim⟩, .cons (.lst hS (rints _ _ _)) .nil, elaw, fun F' β' H' v hs' x' r => ?_⟩
      cases r
      rfl
    refine codeAny_mono ((F _).run callerA [] s₁ H ⟨[.ref a], []⟩ [.ref a] [.ref a] _ hr rfl e0 (hbind s₁ (.ref a)) (.cons rfl .nil) hsp) fun r s' h => ?_
    cases r with
    | error e => exact h.elim
    | ok fl =>
      cases fl with
      | next => exact h.elim
      | brk => exact h.elim
      | cont => exact h.elim
      | ret u =>
        obtain ⟨v, H', os, bare, un, hok', r', q⟩ := h
        have q' : v = .bl true := q
        subst q'
        obtain rfl : u = Value.bool true := r'
        refine ⟨rfl, OldK.of_keep fun b o e => ?_, os, bare⟩
        cases q : H b with
        | none => exact un.keep b o e q (fun z => nomatch (show b ∈ ([] : List Addr) from z)) (by simp)
        | some u =>
          rcases hO b with z | ⟨ob, xs, z⟩
          · rw [q] at z; cases z
          · obtain ⟨e1, _⟩ := hok b _ z
            obtain ⟨e2, _⟩ := hok' b _ (un.frzs b ob _ z)
            rw [e] at e1
            cases e1
            exact e2
  cases hk : K.lookup a with
  | some o =>
    have e := KX a o hk
    rw [ha] at e
    cases e
    exact core (fun _ => none) (fun _ => .inl rfl) (.inr (.inr ⟨vs.toArray, _, hk, by rw [List.size_toArray, lenV]; exact hl, by simpa using rv⟩)) (fun b u z => nomatch (show (none : Option HO) = some u from z)) (fun b z => absurd rfl z) fun z => absurd rfl z
  | none =>
    refine core (fun b => if b = a then some (.frz { cls := .type "list", data := .seq vs.toArray } (.lst (ns.map V.int))) else none) (fun b => ?_) (.inr (.inl ⟨{ cls := .type "list", data := .seq vs.toArray }, if_pos rfl⟩)) (fun b u z => ?_) (fun b z => ?_) fun _ => hk
    · by_cases hb : b = a
      · exact .inr ⟨_, _, if_pos hb⟩
      · exact .inl (if_neg hb)
    · by_cases hb : b = a
      · have z' := (if_pos hb).symm.trans z
        cases z'
        subst hb
        exact ⟨ha, by rw [List.length_map]; exact hl, vs, _, rv, ha⟩
      · have z' := (if_neg hb).symm.trans z
        cases z'
    · by_cases hb : b = a
      · exact hb
      · exact absurd (if_neg hb) z
/-- the goal behind the head -/
theorem walk_G {l : PySem.W.OpenLaw} {n k : Nat} {q : Program} {loose : List Str} {XP : (Str → Option Value) → Heap → Prop} {YP : World → Heap → Prop} {d : DefRec} {K : Params → PySem.W.Frag} {x : Str} {fn : Fn}
    (hn : l.most = some n) (hn2 : n ≤ sizeLine) (hdf : d.params.defaults = []) (hr : Room k callerA) (hY : ∀ (w : World) (h : Heap), YP w h → (K w.params).In h)
    (F : ∀ (w : World) (mg : Str → Option Value) (fa : Addr) (h : Heap), (K w.params).In h → h.Ns mainGlobals mg → mg d.name = some (.ref fa) →
      ∃ fd : FuncData, (∀ (s : Shared) (u : Value), BindsTo s fd ⟨[u], []⟩ [(x, u)]) ∧ ∀ base : Heap, FnG l.prog w ⟨K w.params, w⟩ mg base k fa fd [x] (spOf ⟨K w.params, w⟩ 1 fn))
    (hlaw : ∀ ns : List Int, ns.length ≤ n → (∀ i ∈ ns, Builtin.Int.intBits i ≤ 1048576) → ∃ h', fn [.t (.list (ns.map PyData.int))] [] = some (.t (.bool true), h')) :
    PySem.W.WalkO q loose XP YP l.row.toRowW d [] (fun f vs => PySem.call f vs) := by
  refine Att.attach_callB hn hdf fun w s₀ s₁ mg mb fa o pm cd doc a vs ns G Y ho hd hcd hmg hobj hints hlen hbits hg => ?_
  obtain ⟨fd, hb, hF⟩ := F w mg fa _ (hY w _ Y) G.T.g hmg
  exact lawG_call (hY w _ Y) G.T.g G.T.b G.T.builtins G.T.nolimit hg hobj hints (Nat.le_trans hlen hn2) hr hF hb (hlaw ns hlen hbits)
end DE
end
section
set_option Elab.async false
set_option linter.all false
set_option maxRecDepth 100000
set_option maxHeartbeats 1000000
/-! reasoning about runs of the evaluator -/
namespace DE
open PySem PySem.Spec PyProof.Rows L2

/-- it gives something of which P holds -/
def W {α : Type} (o : Option α) (P : α → Prop) : Prop := ∃ a, o = some a ∧ P a
section
variable {α β : Type} {P Q : α → Prop} {o : Option α}
theorem W_some {a : α} : W (some a) P ↔ P a := ⟨fun ⟨_, e, h⟩ => by cases e; exact h, fun h => ⟨a, rfl, h⟩⟩
theorem W_none : W (none : Option α) P ↔ False := ⟨fun ⟨_, e, _⟩ => (by cases e), fun h => h.elim⟩
theorem W.mono (h : W o P) (q : ∀ a, P a → Q a) : W o Q := let ⟨a, e, p⟩ := h; ⟨a, e, q a p⟩
theorem W.of {a : α} (e : o = some a) (h : P a) : W o P := ⟨a, e, h⟩
theorem W_ite {c : Prop} [Decidable c] {a : α} : W (if c then some a else none) P ↔ c ∧ P a := by
  by_cases h : c
  · rw [if_pos h, W_some]; exact ⟨fun q => ⟨h, q⟩, fun q => q.2⟩
  · rw [if_neg h, W_none]; exact ⟨fun q => q.elim, fun q => h q.1⟩
end
variable {P : Val × MH → Prop} {PL : List Val × MH → Prop} {PB : Bool × MH → Prop} {PD : List PyData × MH → Prop} {PO : Out → Prop} {POI : Option Int × MH → Prop} {σ : Sg} {h : MH}
theorem mk_false {d : PyData} : mk false d h = (.t d, h) := mk_no (.inl rfl)
theorem mk_tl {ds : List PyData} : mk true (.list ds) h = (.r h.length, h ++ [.l ds]) := rfl
theorem mk_td {ds : List (PyData × PyData)} : mk true (.dict ds) h = (.r h.length, h ++ [.d ds]) := rfl
theorem W_eC {d : PyData} : W (eC d σ h) P ↔ P (.t d, h) := W_some
theorem W_eV {i : Nat} : W (eV i σ h) P ↔ ∃ v, σ[i]? = some (some v) ∧ P (v, h) := by
  unfold eV
  split
  · rename_i v e
    rw [W_some]
    exact ⟨fun q => ⟨v, e, q⟩, fun ⟨w, z, q⟩ => by rw [e] at z; cases z; exact q⟩
  · rename_i e
    rw [W_none]
    exact ⟨fun q => q.elim, fun ⟨w, z, q⟩ => e w z⟩
theorem W_aNil : W (aNil σ h) PL ↔ PL ([], h) := W_some
theorem W_aCons {a : Ev Val} {b : Ev (List Val)} : W (aCons a b σ h) PL ↔ W (a σ h) fun p => W (b σ p.2) fun q => PL (p.1 :: q.1, q.2) := by
  unfold aCons
  rcases a σ h with _ | ⟨x, h1⟩
  · simp only [W_none]
  · simp only [W_some]
    rcases b σ h1 with _ | ⟨y, h2⟩
    · simp only [W_none]
    · simp only [W_some]
theorem W_e1 {m : Bool} {g : PyData → Option PyData} {a : Ev Val} : W (e1 m g a σ h) P ↔ W (a σ h) fun p => W (rd p.2 p.1) fun d => W (g d) fun r => P (mk m r p.2) := by
  unfold DE.e1
  rcases a σ h with _ | ⟨x, h1⟩
  · simp only [W_none]
  · simp only [W_some]
    rcases rd h1 x with _ | d
    · simp only [W_none]
    · simp only [W_some]
      rcases g d with _ | r
      · simp only [W_none]
      · simp only [W_some]
theorem W_e2 {m : Bool} {g : PyData → PyData → Option PyData} {a b : Ev Val} : W (e2 m g a b σ h) P ↔ W (a σ h) fun p => W (b σ p.2) fun q => W (rd q.2 p.1) fun d => W (rd q.2 q.1) fun e => W (g d e) fun r => P (mk m r q.2) := by
  unfold DE.e2
  rcases a σ h with _ | ⟨x, h1⟩
  · simp only [W_none]
  · simp only [W_some]
    rcases b σ h1 with _ | ⟨y, h2⟩
    · simp only [W_none]
    · simp only [W_some]
      rcases rd h2 x with _ | d
      · simp only [W_none]
      · simp only [W_some]
        rcases rd h2 y with _ | e
        · simp only [W_none]
        · simp only [W_some]
          rcases g d e with _ | r
          · simp only [W_none]
          · simp only [W_some]
theorem W_eTup {a : Ev (List Val)} : W (eTup a σ h) P ↔ W (a σ h) fun p => W (fzs p.2 p.1) fun q => q.1.length ≤ sizeLine ∧ P (.t (.tuple q.1), q.2) := by
  unfold eTup
  rcases a σ h with _ | ⟨x, h1⟩
  · simp only [W_none]
  · simp only [W_some]
    rcases fzs h1 x with _ | ⟨d, h2⟩
    · simp only [W_none]
    · simp only [W_some, W_ite]
theorem W_eLst {m : Bool} {a : Ev (List Val)} : W (eLst m a σ h) P ↔ W (a σ h) fun p => W (fzs p.2 p.1) fun q => q.1.length ≤ sizeLine ∧ P (mk m (.list q.1) q.2) := by
  unfold eLst
  rcases a σ h with _ | ⟨x, h1⟩
  · simp only [W_none]
  · simp only [W_some]
    rcases fzs h1 x with _ | ⟨d, h2⟩
    · simp only [W_none]
    · simp only [W_some, W_ite]
theorem W_eDct {m : Bool} {ks : List Str} {a : Ev (List Val)} : W (eDct m ks a σ h) P ↔ W (a σ h) fun p => W (fzs p.2 p.1) fun q => q.1.length = ks.length ∧ P (mk m (.dict ((ks.map PyData.str).zip q.1)) q.2) := by
  unfold eDct
  rcases a σ h with _ | ⟨x, h1⟩
  · simp only [W_none]
  · simp only [W_some]
    rcases fzs h1 x with _ | ⟨d, h2⟩
    · simp only [W_none]
    · simp only [W_some, W_ite]
theorem asB_b {b : Bool} : asB (.t (.bool b)) = some b := rfl
theorem W_eAnd {a b : Ev Val} : W (eAnd a b σ h) P ↔ W (a σ h) fun p => W (asB p.1) fun c => if c = true then W (b σ p.2) P else P (.t (.bool false), p.2) := by
  unfold eAnd
  rcases a σ h with _ | ⟨x, h1⟩
  · simp only [W_none]
  · simp only [W_some]
    rcases asB x with _ | c
    · simp only [W_none]
    · cases c <;> simp [W_some]
theorem W_eOr {a b : Ev Val} : W (eOr a b σ h) P ↔ W (a σ h) fun p => W (asB p.1) fun c => if c = true then P (.t (.bool true), p.2) else W (b σ p.2) P := by
  unfold eOr
  rcases a σ h with _ | ⟨x, h1⟩
  · simp only [W_none]
  · simp only [W_some]
    rcases asB x with _ | c
    · simp only [W_none]
    · cases c <;> simp [W_some]
theorem W_eNot {a : Ev Val} : W (eNot a σ h) P ↔ W (a σ h) fun p => W (asB p.1) fun c => P (.t (.bool !c), p.2) := by
  unfold eNot
  rcases a σ h with _ | ⟨x, h1⟩
  · simp only [W_none]
  · simp only [W_some]
    rcases asB x with _ | c
    · simp only [W_none]
    · simp only [W_some]
theorem W_tB {a : Ev Val} : W (DE.tB a σ h) PB ↔ W (a σ h) fun p => W (asB p.1) fun c => PB (c, p.2) := by
  unfold DE.tB
  rcases a σ h with _ | ⟨x, h1⟩
  · simp only [W_none]
  · simp only [W_some]
    rcases asB x with _ | c
    · simp only [W_none]
    · simp only [W_some]
theorem W_tAnd {a b : Ev Bool} : W (DE.tAnd a b σ h) PB ↔ W (a σ h) fun p => if p.1 = true then W (b σ p.2) PB else PB (false, p.2) := by
  unfold DE.tAnd
  rcases a σ h with _ | ⟨x, h1⟩
  · simp only [W_none]
  · cases x <;> simp [W_some]
theorem W_tOr {a b : Ev Bool} : W (DE.tOr a b σ h) PB ↔ W (a σ h) fun p => if p.1 = true then PB (true, p.2) else W (b σ p.2) PB := by
  unfold DE.tOr
  rcases a σ h with _ | ⟨x, h1⟩
  · simp only [W_none]
  · cases x <;> simp [W_some]
theorem W_tNot {a : Ev Bool} : W (DE.tNot a σ h) PB ↔ W (a σ h) fun p => PB (!p.1, p.2) := by
  unfold DE.tNot
  rcases a σ h with _ | ⟨x, h1⟩
  · simp only [W_none]
  · simp only [W_some]
theorem W_tYes : W (DE.tYes σ h) PB ↔ PB (true, h) := W_some
theorem W_eIf {t : Ev Bool} {a b : Ev Val} : W (eIf t a b σ h) P ↔ W (t σ h) fun p => if p.1 = true then W (a σ p.2) P else W (b σ p.2) P := by
  unfold eIf
  rcases t σ h with _ | ⟨x, h1⟩
  · simp only [W_none]
  · cases x <;> simp [W_some]
theorem W_eChain {g g' : PyData → PyData → Option PyData} {a b c : Ev Val} : W (eChain g g' a b c σ h) P ↔ W (a σ h) fun p => W (b σ p.2) fun q => W (rd q.2 p.1) fun d => W (rd q.2 q.1) fun e => W (g d e) fun r =>
    W (asB (.t r)) fun k => if k = true then (W (c σ q.2) fun z => W (rd z.2 q.1) fun e' => W (rd z.2 z.1) fun f => W (g' e' f) fun r' => W (asB (.t r')) fun k' => P (.t (.bool k'), z.2)) else P (.t (.bool false), q.2) := by
  unfold eChain
  rcases a σ h with _ | ⟨x, h1⟩
  · simp only [W_none]
  simp only [W_some]
  rcases b σ h1 with _ | ⟨y, h2⟩
  · simp only [W_none]
  simp only [W_some]
  rcases rd h2 x with _ | d
  · simp only [W_none]
  simp only [W_some]
  rcases rd h2 y with _ | e
  · simp only [W_none]
  simp only [W_some]
  rcases g d e with _ | r
  · simp only [W_none]
  cases r <;> simp only [W_some, asB, W_none]
  rename_i k
  cases k
  · simp [W_some]
  · simp only [if_true]
    rcases c σ h2 with _ | ⟨z, h3⟩
    · simp only [W_none]
    simp only [W_some]
    rcases rd h3 y with _ | e'
    · simp only [W_none]
    simp only [W_some]
    rcases rd h3 z with _ | f
    · simp only [W_none]
    simp only [W_some]
    rcases g' e' f with _ | r'
    · simp only [W_none]
    cases r' <;> simp only [W_some, asB, W_none]
theorem W_oNone : W (oNone σ h) POI ↔ POI (none, h) := W_some
theorem W_oSome {a : Ev Val} : W (oSome a σ h) POI ↔ W (a σ h) fun p => W (asI p.1) fun i => POI (some i, p.2) := by
  unfold oSome
  rcases a σ h with _ | ⟨x, h1⟩
  · simp only [W_none]
  · simp only [W_some]
    rcases asI x with _ | c
    · simp only [W_none]
    · simp only [W_some]
theorem asI_i {i : Int} : asI (.t (.int i)) = some i := rfl
theorem W_eSl {m : Bool} {a : Ev Val} {lo hi : Ev (Option Int)} : W (eSl m a lo hi σ h) P ↔ W (a σ h) fun p => W (lo σ p.2) fun l => W (hi σ l.2) fun u => W (rd u.2 p.1) fun d => W (gSl d l.1 u.1) fun r => P (mk m r u.2) := by
  unfold eSl
  rcases a σ h with _ | ⟨x, h1⟩
  · simp only [W_none]
  simp only [W_some]
  rcases lo σ h1 with _ | ⟨l, h2⟩
  · simp only [W_none]
  simp only [W_some]
  rcases hi σ h2 with _ | ⟨u, h3⟩
  · simp only [W_none]
  simp only [W_some]
  rcases rd h3 x with _ | d
  · simp only [W_none]
  simp only [W_some]
  rcases gSl d l u with _ | r
  · simp only [W_none]
  · simp only [W_some]
theorem W_itV {a : Ev Val} : W (itV a σ h) PD ↔ W (a σ h) fun p => W (fz p.2 p.1) fun q => W (itD q.1) fun ds => PD (ds, q.2) := by
  unfold itV
  rcases a σ h with _ | ⟨x, h1⟩
  · simp only [W_none]
  simp only [W_some]
  rcases fz h1 x with _ | ⟨d, h2⟩
  · simp only [W_none]
  simp only [W_some]
  rcases itD d with _ | ds
  · simp only [W_none]
  · simp only [W_some]
theorem W_itR {a : Ev Val} : W (itR a σ h) PD ↔ W (a σ h) fun p => W (asI p.1) fun j => (-(2 ^ 62) ≤ j ∧ j < 2 ^ 62) ∧ PD (upTo j.toNat, p.2) := by
  unfold itR
  rcases a σ h with _ | ⟨x, h1⟩
  · simp only [W_none]
  simp only [W_some]
  rcases asI x with _ | j
  · simp only [W_none]
  · simp only [W_some, W_ite]
theorem W_eComp {m : Bool} {it : Ev (List PyData)} {bind : PyData → Sg → Option Sg} {own : List Nat} {tst : Ev Bool} {elt : Ev Val} : W (eComp m it bind own tst elt σ h) P ↔ W (it σ h) fun p => p.1.length ≤ sizeLine ∧
    W (compGo bind (wipeS σ own) tst elt p.1 [] p.2) fun q => P (mk m (.list q.1) q.2) := by
  unfold eComp
  rcases it σ h with _ | ⟨ds, h1⟩
  · simp only [W_none]
  simp only [W_some]
  by_cases hl : ds.length ≤ sizeLine
  · rw [if_pos hl]
    rcases compGo bind (wipeS σ own) tst elt ds [] h1 with _ | ⟨acc, h2⟩
    · simp only [W_none, and_false]
    · simp only [W_some, hl, true_and]
  · rw [if_neg hl]; simp only [W_none, hl, false_and]
theorem W_eM0 {g : Str → Option PyData} {a : Ev Val} : W (eM0 g a σ h) P ↔ W (a σ h) fun p => W (asS p.1) fun s => W (g s) fun r => P (.t r, p.2) := by
  unfold eM0
  rcases a σ h with _ | ⟨x, h1⟩
  · simp only [W_none]
  simp only [W_some]
  rcases asS x with _ | s
  · simp only [W_none]
  simp only [W_some]
  rcases g s with _ | r
  · simp only [W_none]
  · simp only [W_some]
theorem W_eM1 {g : Str → PyData → Option PyData} {a b : Ev Val} : W (eM1 g a b σ h) P ↔ W (a σ h) fun p => W (asS p.1) fun s => W (b σ p.2) fun q => W (rd q.2 q.1) fun d => W (g s d) fun r => P (.t r, q.2) := by
  unfold eM1
  rcases a σ h with _ | ⟨x, h1⟩
  · simp only [W_none]
  simp only [W_some]
  rcases asS x with _ | s
  · simp only [W_none]
  simp only [W_some]
  rcases b σ h1 with _ | ⟨y, h2⟩
  · simp only [W_none]
  simp only [W_some]
  rcases rd h2 y with _ | d
  · simp only [W_none]
  simp only [W_some]
  rcases g s d with _ | r
  · simp only [W_none]
  · simp only [W_some]
theorem asS_s {s : Str} : asS (.t (.str s)) = some s := rfl
theorem W_eCall {f : Fn} {a : Ev (List Val)} : W (eCall f a σ h) P ↔ W (a σ h) fun p => W (callIn f p.1 p.2) P := by
  unfold eCall
  rcases a σ h with _ | ⟨x, h1⟩
  · simp only [W_none]
  · simp only [W_some]
/-! ### statements -/
def nxt (P : Out → Prop) (k : Sg → MH → Prop) : Out → Prop
  | .nx σ h => k σ h
  | o => P o
theorem nxt_nx {PO : Out → Prop} {k : Sg → MH → Prop} : nxt PO k (.nx σ h) = k σ h := rfl
theorem nxt_rt {PO : Out → Prop} {k : Sg → MH → Prop} {v : Val} : nxt PO k (.rt v h) = PO (.rt v h) := rfl
theorem W_sNil : W (sNil σ h) PO ↔ PO (.nx σ h) := W_some
theorem W_sSeq {a b : Ex1} : W (sSeq a b σ h) PO ↔ W (a σ h) (nxt PO fun σ1 h1 => W (b σ1 h1) PO) := by
  unfold sSeq
  rcases a σ h with _ | o
  · simp only [W_none]
  · cases o <;> simp only [W_some, nxt]
theorem seq_K {a b : Ex1} (q : ∀ K : Sg → MH → Prop, (∀ σ1 h1, W (b σ1 h1) PO → K σ1 h1) → W (a σ h) (nxt PO K)) : W (sSeq a b σ h) PO := W_sSeq.mpr (q _ fun _ _ z => z)
theorem W_sSet {i : Nat} {a : Ev Val} : W (sSet i a σ h) PO ↔ W (a σ h) fun p => PO (.nx (σ.set i (some p.1)) p.2) := by
  unfold sSet
  rcases a σ h with _ | ⟨x, h1⟩
  · simp only [W_none]
  · simp only [W_some]
theorem W_sExpr {a : Ev Val} : W (sExpr a σ h) PO ↔ W (a σ h) fun p => PO (.nx σ p.2) := by
  unfold sExpr
  rcases a σ h with _ | ⟨x, h1⟩
  · simp only [W_none]
  · simp only [W_some]
theorem W_sRet {a : Ev Val} : W (sRet a σ h) PO ↔ W (a σ h) fun p => PO (.rt p.1 p.2) := by
  unfold sRet
  rcases a σ h with _ | ⟨x, h1⟩
  · simp only [W_none]
  · simp only [W_some]
theorem W_sIf {t : Ev Bool} {a b : Ex1} : W (sIf t a b σ h) PO ↔ W (t σ h) fun p => if p.1 = true then W (a σ p.2) PO else W (b σ p.2) PO := by
  unfold sIf
  rcases t σ h with _ | ⟨x, h1⟩
  · simp only [W_none]
  · cases x <;> simp [W_some]
theorem W_sFor {it : Ev (List PyData)} {bind : PyData → Sg → Option Sg} {body : Ex1} : W (sFor it bind body σ h) PO ↔ W (it σ h) fun p => W (forGo bind body p.1 σ p.2) PO := by
  unfold sFor
  rcases it σ h with _ | ⟨ds, h1⟩
  · simp only [W_none]
  · simp only [W_some]
theorem W_sPut {g : MO → PyData → PyData → Option MO} {x k e : Ev Val} : W (sPut g x k e σ h) PO ↔ W (e σ h) fun v => W (x σ v.2) fun y => ∃ n, y.1 = .r n ∧ W (k σ y.2) fun z => W (rd z.2 z.1) fun kd => W (fz z.2 v.1) fun q => W (q.2[n]?) fun o =>
    W (g o kd q.1) fun o' => PO (.nx σ (q.2.set n o')) := by
  unfold sPut
  rcases e σ h with _ | ⟨v, h1⟩
  · simp only [W_none]
  simp only [W_some]
  rcases x σ h1 with _ | ⟨y, h2⟩
  · simp only [W_none]
  simp only [W_some]
  cases y with
  | t d => simp only [W_none]; exact ⟨fun q => q.elim, fun ⟨n, z, _⟩ => by cases z⟩
  | tp d => simp only [W_none]; exact ⟨fun q => q.elim, fun ⟨n, z, _⟩ => by cases z⟩
  | r n =>
    have : ∀ {Q : Nat → Prop}, (∃ k, (Val.r n) = .r k ∧ Q k) ↔ Q n := fun {Q} => ⟨fun ⟨k, z, q⟩ => by cases z; exact q, fun q => ⟨n, rfl, q⟩⟩
    rw [this]
    rcases q1 : k σ h2 with _ | ⟨z, h3⟩ <;> simp only [q1, W_none, W_some]
    rcases q2 : rd h3 z with _ | kd <;> simp only [q2, W_none, W_some]
    rcases q3 : fz h3 v with _ | ⟨d, h4⟩ <;> simp only [q3, W_none, W_some]
    rcases q4 : h4[n]? with _ | o <;> simp only [q4, W_none, W_some]
    rcases q5 : g o kd d with _ | o' <;> simp only [q5, W_none, W_some]
/-- what a body gives -/
def ofOut : Out → Option (Val × MH)
  | .rt v h => some (v, h)
  | .nx _ h => some (.t .none, h)
  | _ => none
theorem runFn_eq {n : Nat} {body : Ex1} {xs : List Val} : runFn n body xs h = (body (xs.map some ++ List.replicate (n - xs.length) none) h).bind ofOut := by
  unfold runFn
  rcases body (xs.map some ++ List.replicate (n - xs.length) none) h with _ | o
  · rfl
  · cases o <;> rfl
theorem W_obind {α β : Type} {o : Option α} {f : α → Option β} {Q : β → Prop} : W (o.bind f) Q ↔ W o fun a => W (f a) Q := by
  cases o with
  | none => simp only [Option.bind_none, W_none]
  | some a => simp only [Option.bind_some, W_some]
theorem W_rt {v : Val} : W (ofOut (.rt v h)) P ↔ P (v, h) := W_some
theorem W_nx : W (ofOut (.nx σ h)) P ↔ P (.t .none, h) := W_some
theorem forGo_W {bind : PyData → Sg → Option Sg} {body : Ex1} (N : Nat) (I : Nat → Sg → MH → Prop) (PO : Out → Prop) : ∀ {ds : List PyData} {n : Nat} {σ : Sg} {h : MH}, n + ds.length ≤ N → I n σ h →
    (∀ d ∈ ds, ∀ n σ h, n < N → I n σ h → W (bind d σ) fun σ2 => W (body σ2 h) fun o => match o with | .nx σ3 h3 => I (n + 1) σ3 h3 | .ct σ3 h3 => I (n + 1) σ3 h3 | .bk σ3 h3 => PO (.nx σ3 h3) | .rt v h3 => PO (.rt v h3)) →
    (∀ σ h, I (n + ds.length) σ h → PO (.nx σ h)) → W (forGo bind body ds σ h) PO
  | [], n, σ, h, hN, hi, _, fin => by simp only [forGo, W_some]; exact fin σ h hi
  | d :: ds, n, σ, h, hN, hi, step, fin => by
    rw [List.length_cons] at hN
    obtain ⟨σ2, e1, o, e2, q⟩ := step d (by simp) n σ h (by omega) hi
    have ih := fun {σ : Sg} {h : MH} (hi1 : I (n + 1) σ h) => forGo_W N I PO (ds := ds) (by omega) hi1 (fun d hd => step d (List.mem_cons_of_mem _ hd)) fun σ h z => fin σ h (by rw [List.length_cons, show n + (ds.length + 1) = n + 1 + ds.length by omega]; exact z)
    simp only [forGo, e1, e2]
    cases o with
    | nx σ3 h3 => exact ih q
    | ct σ3 h3 => exact ih q
    | bk σ3 h3 => exact W_some.mpr q
    | rt v h3 => exact W_some.mpr q
theorem bName_W {i : Nat} {d : PyData} {Q : Sg → Prop} : W (bName i d σ) Q ↔ Q (σ.set i (some (.t d))) := W_some
theorem W_eMethL {g : List PyData → List PyData → Option (PyData × List PyData)} {x : Ev Val} {as : Ev (List Val)} : W (eMethL g x as σ h) P ↔ W (x σ h) fun p => ∃ n, p.1 = .r n ∧ ∃ ys, p.2[n]? = some (.l ys) ∧ W (as σ p.2) fun q => W (fzs q.2 q.1) fun z =>
    ∃ xs, z.2[n]? = some (.l xs) ∧ W (g xs z.1) fun r => P (.t r.1, z.2.set n (.l r.2)) := by
  unfold eMethL
  rcases x σ h with _ | ⟨v, h1⟩
  · simp only [W_none]
  simp only [W_some]
  cases v with
  | t d => simp only [W_none]; exact ⟨fun q => q.elim, fun ⟨n, z, _⟩ => by cases z⟩
  | tp d => simp only [W_none]; exact ⟨fun q => q.elim, fun ⟨n, z, _⟩ => by cases z⟩
  | r n =>
    have : ∀ {Q : Nat → Prop}, (∃ k, (Val.r n) = .r k ∧ Q k) ↔ Q n := fun {Q} => ⟨fun ⟨k, z, q⟩ => by cases z; exact q, fun q => ⟨n, rfl, q⟩⟩
    rw [this]
    have nl : ∀ {o : MO} {A : Option (Val × MH)} {C : List PyData → Prop}, (∀ ys, o ≠ .l ys) → A = none → (W A P ↔ ∃ ys, (some o : Option MO) = some (.l ys) ∧ C ys) := fun {o A C} ho hA => by
      rw [hA, W_none]
      exact ⟨fun q => q.elim, fun ⟨ys, z, _⟩ => ho ys (Option.some.inj z)⟩
    rcases q1 : h1[n]? with _ | o1
    · simp only [q1, W_none]; exact ⟨fun q => q.elim, fun ⟨_, z, _⟩ => by cases z⟩
    cases o1 with
    | d es => exact nl (fun _ z => nomatch z) (by simp only [q1])
    | f es => exact nl (fun _ z => nomatch z) (by simp only [q1])
    | e es => exact nl (fun _ z => nomatch z) (by simp only [q1])
    | l ys =>
      have : ∀ {Q : Prop}, (∃ zs, some (MO.l ys) = some (.l zs) ∧ Q) ↔ Q := fun {Q} => ⟨fun ⟨k, _, q⟩ => q, fun q => ⟨ys, rfl, q⟩⟩
      rw [this]
      simp only [q1]
      rcases q2 : as σ h1 with _ | ⟨vs, h2⟩ <;> simp only [q2, W_none, W_some]
      rcases q3 : fzs h2 vs with _ | ⟨ds, h3⟩ <;> simp only [q3, W_none, W_some]
      rcases q4 : h3[n]? with _ | o3
      · simp only [q4, W_none]; exact ⟨fun q => q.elim, fun ⟨_, z, _⟩ => by cases z⟩
      cases o3 with
      | d es => exact nl (fun _ z => nomatch z) (by simp only [q4])
      | f es => exact nl (fun _ z => nomatch z) (by simp only [q4])
      | e es => exact nl (fun _ z => nomatch z) (by simp only [q4])
      | l xs =>
        have : ∀ {Q : List PyData → Prop}, (∃ zs, some (MO.l xs) = some (.l zs) ∧ Q zs) ↔ Q xs := fun {Q} => ⟨fun ⟨k, z, q⟩ => by cases z; exact q, fun q => ⟨xs, rfl, q⟩⟩
        rw [this]
        simp only [q4]
        rcases q5 : g xs ds with _ | ⟨d, xs'⟩ <;> simp only [q5, W_none, W_some]
theorem W_eN {m : Bool} {g : List PyData → Option PyData} {as : Ev (List Val)} : W (eN m g as σ h) P ↔ W (as σ h) fun p => W (rds p.2 p.1) fun ds => W (g ds) fun r => P (mk m r p.2) := by
  unfold DE.eN
  rcases as σ h with _ | ⟨v, h1⟩
  · simp only [W_none]
  simp only [W_some]
  rcases rds h1 v with _ | ds
  · simp only [W_none]
  simp only [W_some]
  rcases g ds with _ | r
  · simp only [W_none]
  · simp only [W_some]
theorem W_sSetB {b : Bd} {a : Ev Val} : W (sSetB b a σ h) PO ↔ W (a σ h) fun p => W (fz p.2 p.1) fun q => W (b q.1 σ) fun σ' => PO (.nx σ' q.2) := by
  unfold sSetB
  rcases a σ h with _ | ⟨v, h1⟩
  · simp only [W_none]
  simp only [W_some]
  rcases fz h1 v with _ | ⟨d, h2⟩
  · simp only [W_none]
  simp only [W_some]
  rcases b d σ with _ | σ'
  · simp only [W_none]
  · simp only [W_some]
theorem W_bTup {bs : List Bd} {d : PyData} {Q : Sg → Prop} : W (bTup bs d σ) Q ↔ W (seqD d) fun ds => W (bAll bs ds σ) Q := by
  unfold bTup
  rcases seqD d with _ | ds
  · simp only [W_none]
  · simp only [W_some]
theorem W_bNil {Q : Sg → Prop} : W (bAll [] [] σ) Q ↔ Q σ := W_some
theorem W_bCons {b : Bd} {bs : List Bd} {d : PyData} {ds : List PyData} {Q : Sg → Prop} : W (bAll (b :: bs) (d :: ds) σ) Q ↔ W (b d σ) fun σ1 => W (bAll bs ds σ1) Q := by
  simp only [bAll]
  rcases b d σ with _ | σ'
  · simp only [W_none]
  · simp only [W_some]
/-- a comprehension with what it has so far -/
theorem compGo_A {bind : PyData → Sg → Option Sg} {tst : Ev Bool} {elt : Ev Val} (N : Nat) (I : Nat → List PyData → MH → Prop) : ∀ {ds acc : List PyData} {n : Nat} {h : MH}, n + ds.length ≤ N → I n acc h →
    (∀ d ∈ ds, ∀ n acc h, n < N → I n acc h → W (bind d σ) fun σ2 => W (tst σ2 h) fun p => if p.1 = true then (W (elt σ2 p.2) fun q => W (fz q.2 q.1) fun z => I (n + 1) (acc ++ [z.1]) z.2) else I (n + 1) acc p.2) →
    W (compGo bind σ tst elt ds acc h) fun p => I (n + ds.length) p.1 p.2
  | [], acc, n, h, hN, hi, _ => by
    simp only [compGo, W_some]
    exact hi
  | d :: ds, acc, n, h, hN, hi, step => by
    rw [List.length_cons] at hN
    obtain ⟨σ2, e1, q⟩ := step d (by simp) n acc h (by omega) hi
    obtain ⟨⟨b, h1⟩, e2, q⟩ := q
    have ih := fun {acc : List PyData} {h1 : MH} (hi1 : I (n + 1) acc h1) => compGo_A (tst := tst) (elt := elt) N I (ds := ds) (acc := acc) (by omega) hi1 fun d hd => step d (List.mem_cons_of_mem _ hd)
    rw [List.length_cons, show n + (ds.length + 1) = n + 1 + ds.length by omega]
    cases b with
    | false =>
      simp only [Bool.false_eq_true, if_false] at q
      simp only [compGo, e1, e2]
      exact ih q
    | true =>
      simp only [if_true] at q
      obtain ⟨⟨v, h2⟩, e3, ⟨e, h3⟩, e4, q⟩ := q
      simp only [compGo, e1, e2, e3, e4]
      exact ih q
theorem whileGo_W {t : Ev Bool} {body : Ex1} (I : Nat → Sg → MH → Prop) (PO : Out → Prop) : ∀ {m n : Nat} {σ : Sg} {h : MH}, n < m → I n σ h →
    (∀ n σ h, I n σ h → W (t σ h) fun p => if p.1 = true then (W (body σ p.2) fun o => match o with | .nx σ3 h3 => ∃ k, k < n ∧ I k σ3 h3 | .ct σ3 h3 => ∃ k, k < n ∧ I k σ3 h3 | .bk σ3 h3 => PO (.nx σ3 h3) | .rt v h3 => PO (.rt v h3)) else PO (.nx σ p.2)) →
    W (whileGo t body m σ h) PO
  | 0, n, _, _, hm, _, _ => by omega
  | m + 1, n, σ, h, hm, hi, step => by
    obtain ⟨⟨b, h1⟩, e1, q⟩ := step n σ h hi
    cases b with
    | false =>
      simp only [Bool.false_eq_true, if_false] at q
      simp only [whileGo, e1, W_some]
      exact q
    | true =>
      simp only [if_true] at q
      obtain ⟨o, e2, q⟩ := q
      simp only [whileGo, e1, e2]
      cases o with
      | nx σ3 h3 => obtain ⟨k, hk, q⟩ := q; exact whileGo_W I PO (by omega) q step
      | ct σ3 h3 => obtain ⟨k, hk, q⟩ := q; exact whileGo_W I PO (by omega) q step
      | bk σ3 h3 => exact W_some.mpr q
      | rt v h3 => exact W_some.mpr q
theorem W_eMethD {g : List (PyData × PyData) → List PyData → Option (PyData × List (PyData × PyData))} {x : Ev Val} {as : Ev (List Val)} : W (eMethD g x as σ h) P ↔ W (x σ h) fun p => ∃ n, p.1 = .r n ∧ ∃ ys, p.2[n]? = some (.d ys) ∧ W (as σ p.2) fun q => W (fzs q.2 q.1) fun z =>
    ∃ xs, z.2[n]? = some (.d xs) ∧ W (g xs z.1) fun r => P (.t r.1, z.2.set n (.d r.2)) := by
  unfold eMethD
  rcases x σ h with _ | ⟨v, h1⟩
  · simp only [W_none]
  simp only [W_some]
  cases v with
  | t d => simp only [W_none]; exact ⟨fun q => q.elim, fun ⟨n, z, _⟩ => by cases z⟩
  | tp d => simp only [W_none]; exact ⟨fun q => q.elim, fun ⟨n, z, _⟩ => by cases z⟩
  | r n =>
    have : ∀ {Q : Nat → Prop}, (∃ k, (Val.r n) = .r k ∧ Q k) ↔ Q n := fun {Q} => ⟨fun ⟨k, z, q⟩ => by cases z; exact q, fun q => ⟨n, rfl, q⟩⟩
    rw [this]
    have nl : ∀ {o : MO} {A : Option (Val × MH)} {C : List (PyData × PyData) → Prop}, (∀ ys, o ≠ .d ys) → A = none → (W A P ↔ ∃ ys, (some o : Option MO) = some (.d ys) ∧ C ys) := fun {o A C} ho hA => by
      rw [hA, W_none]
      exact ⟨fun q => q.elim, fun ⟨ys, z, _⟩ => ho ys (Option.some.inj z)⟩
    rcases q1 : h1[n]? with _ | o1
    · simp only [q1, W_none]; exact ⟨fun q => q.elim, fun ⟨_, z, _⟩ => by cases z⟩
    cases o1 with
    | l es => exact nl (fun _ z => nomatch z) (by simp only [q1])
    | f es => exact nl (fun _ z => nomatch z) (by simp only [q1])
    | e es => exact nl (fun _ z => nomatch z) (by simp only [q1])
    | d ys =>
      have : ∀ {Q : Prop}, (∃ zs, some (MO.d ys) = some (.d zs) ∧ Q) ↔ Q := fun {Q} => ⟨fun ⟨k, _, q⟩ => q, fun q => ⟨ys, rfl, q⟩⟩
      rw [this]
      simp only [q1]
      rcases q2 : as σ h1 with _ | ⟨vs, h2⟩ <;> simp only [q2, W_none, W_some]
      rcases q3 : fzs h2 vs with _ | ⟨ds, h3⟩ <;> simp only [q3, W_none, W_some]
      rcases q4 : h3[n]? with _ | o3
      · simp only [q4, W_none]; exact ⟨fun q => q.elim, fun ⟨_, z, _⟩ => by cases z⟩
      cases o3 with
      | l es => exact nl (fun _ z => nomatch z) (by simp only [q4])
      | f es => exact nl (fun _ z => nomatch z) (by simp only [q4])
      | e es => exact nl (fun _ z => nomatch z) (by simp only [q4])
      | d xs =>
        have : ∀ {Q : List (PyData × PyData) → Prop}, (∃ zs, some (MO.d xs) = some (.d zs) ∧ Q zs) ↔ Q xs := fun {Q} => ⟨fun ⟨k, z, q⟩ => by cases z; exact q, fun q => ⟨xs, rfl, q⟩⟩
        rw [this]
        simp only [q4]
        rcases q5 : g xs ds with _ | ⟨d, xs'⟩ <;> simp only [q5, W_none, W_some]
def listOf : PyData → Option (List PyData)
  | .list xs => some xs
  | _ => none
theorem W_eMethQ {g : List PyData → PyData → Option PyData} {x a : Ev Val} : W (eMethQ g x a σ h) P ↔ W (x σ h) fun p => W (rd p.2 p.1) fun d => W (listOf d) fun _ => W (a σ p.2) fun q => W (rd q.2 p.1) fun d2 => W (listOf d2) fun xs => W (rd q.2 q.1) fun e => W (g xs e) fun r => P (.t r, q.2) := by
  unfold eMethQ
  rcases x σ h with _ | ⟨v, h1⟩
  · simp only [W_none]
  simp only [W_some]
  rcases rd h1 v with _ | d1
  · simp only [W_none]
  simp only [W_some]
  cases d1 <;> simp only [listOf, W_none, W_some]
  rcases a σ h1 with _ | ⟨w, h2⟩
  · simp only [W_none]
  simp only [W_some]
  rcases rd h2 v with _ | d2
  · simp only [W_none]
  simp only [W_some]
  cases d2 <;> simp only [listOf, W_none, W_some]
  rcases rd h2 w with _ | d
  · simp only [W_none]
  simp only [W_some]
  rename_i xs1 xs
  rcases g xs d with _ | r
  · simp only [W_none]
  · simp only [W_some]
end DE
end
section
set_option Elab.async false
set_option linter.all false
set_option maxRecDepth 100000
set_option maxHeartbeats 4000000
/-! the pen of the laws -/
namespace DE
open PySem PySem.Spec L2 PyProof.Rows
def bPen (m : Bool) : Ex1 :=
  (sSeq (sRet (eDct m ["cells", "at", "left"] (aList [(e1 false gList (eSl false (eV 0) oNone (oSome (eC (.int 63))))), (eC (.int 0)), (eC (.int 0))])))
    sNil)
def bDraw (m : Bool) : Ex1 :=
  (sSeq (sIf (DE.tB (e2 false gGt (e2 false gIdx (eV 0) (eC (.str "left"))) (eC (.int 0)))) (sSeq (sSet 2 (e2 false gMod (e2 false gIdx (eV 0) (eC (.str "left"))) (eV 1)))
    (sSeq (sPut gPutD (eV 0) (eC (.str "left")) (e2 false gDiv (e2 false gIdx (eV 0) (eC (.str "left"))) (eV 1)))
    (sSeq (sRet (eV 2))
    sNil))) sNil)
    (sSeq (sSet 3 (e2 false gIdx (eV 0) (eC (.str "at"))))
    (sSeq (sPut gPutD (eV 0) (eC (.str "at")) (e2 false gAdd (eV 3) (eC (.int 1))))
    (sSeq (sSet 4 (e2 false gAdd (e2 false gMul (eC (.int 1951)) (eV 3)) (eC (.int 701))))
    (sSeq (sIf (DE.tB (e2 false gNe (e2 false gIdx (eV 0) (eC (.str "cells"))) (eLst false (aList [])))) (sSeq (sSet 4 (e2 false gIdx (e2 false gIdx (eV 0) (eC (.str "cells"))) (e2 false gMod (eV 3) (e1 false gLen (e2 false gIdx (eV 0) (eC (.str "cells")))))))
    sNil) sNil)
    (sSeq (sIf (DE.tAnd (DE.tB (e2 false gLt (eV 3) (e1 false gLen (e2 false gIdx (eV 0) (eC (.str "cells")))))) (DE.tB (e2 false gGe (e1 false gAbs (eV 4)) (e2 false gPow (eC (.int 10)) (eC (.int 18)))))) (sSeq (sSet 5 (e2 false gAdd (e2 false gMul (eC (.int 2)) (e1 false gAbs (eV 4))) (e1 false gInt (e2 false gLt (eV 4) (eC (.int 0))))))
    (sSeq (sPut gPutD (eV 0) (eC (.str "left")) (e2 false gDiv (eV 5) (eV 1)))
    (sSeq (sRet (e2 m gMod (eV 5) (eV 1)))
    sNil))) sNil)
    (sSeq (sSet 6 (e2 false gMod (e2 false gPow (e2 false gAdd (e2 false gAdd (e2 false gMod (eV 4) (eC (.int 2147483563))) (e2 false gMul (eC (.int 70997)) (eV 3))) (eC (.int 79))) (eC (.int 5))) (eC (.int 2147483647))))
    (sSeq (sSet 7 (e2 false gMod (e2 false gPow (e2 false gAdd (e2 false gMul (eV 6) (e2 false gAdd (eV 3) (eC (.int 65539)))) (e2 false gMul (e2 false gMul (eC (.int 85009)) (eV 3)) (eV 3))) (eC (.int 3))) (eC (.int 2147483399))))
    (sSeq (sRet (e2 m gMod (e2 false gDiv (eV 7) (eC (.int 32))) (eV 1)))
    sNil)))))))))

def penD (cells : List Int) (a l : Int) : List (PyData × PyData) := [(.str "cells", .list (cells.map PyData.int)), (.str "at", .int a), (.str "left", .int l)]
theorem pen_cells {c : List Int} {a l : Int} : gIdx (.dict (penD c a l)) (.str "cells") = some (.list (c.map PyData.int)) := by kernel_rfl
theorem pen_at {c : List Int} {a l : Int} : gIdx (.dict (penD c a l)) (.str "at") = some (.int a) := by kernel_rfl
theorem pen_left {c : List Int} {a l : Int} : gIdx (.dict (penD c a l)) (.str "left") = some (.int l) := by kernel_rfl
theorem put_at {c : List Int} {a l x : Int} : gPutD (.d (penD c a l)) (.str "at") (.int x) = some (.d (penD c x l)) := by kernel_rfl
theorem put_left {c : List Int} {a l x : Int} : gPutD (.d (penD c a l)) (.str "left") (.int x) = some (.d (penD c a x)) := by kernel_rfl
/-- a pen that has drawn at most b times from its cells -/
def PenOk (b : Nat) (es : List (PyData × PyData)) : Prop := ∃ (c : List Int) (a : Nat) (l : Int), es = penD c a l ∧ c.length ≤ 63 ∧ a ≤ b ∧ 0 ≤ l
theorem PenOk.more {b b' : Nat} {es : List (PyData × PyData)} (h : PenOk b es) (hb : b ≤ b') : PenOk b' es := by
  obtain ⟨c, a, l, e, h1, h2, h3⟩ := h
  exact ⟨c, a, l, e, h1, by omega, h3⟩
theorem ne_nil_ints {c : List Int} : gNe (.list (c.map PyData.int)) (.list []) = some (.bool (!c.isEmpty)) := by
  have h : gEq (.list (c.map PyData.int)) (.list []) = some (.bool c.isEmpty) := by
    cases c with
    | nil => rfl
    | cons a c => rfl
  unfold gNe
  rw [h]
theorem mod_bounds {x m : Int} (h : 0 < m) : 0 ≤ x % m ∧ x % m < m := ⟨Int.emod_nonneg _ (by omega), Int.emod_lt_of_pos _ h⟩
theorem idx_ints {c : List Int} {i : Int} (hc : c ≠ []) (h1 : 0 ≤ i) (h2 : i < (c.length : Int)) : ∃ x, gIdx (.list (c.map PyData.int)) (.int i) = some (.int x) := by
  have hl : i.toNat < c.length := by omega
  refine ⟨c[i.toNat], ?_⟩
  show atI (c.map PyData.int) i = _
  unfold atI ixN
  rw [if_pos h1, List.length_map, if_pos h2]
  show (c.map PyData.int)[i.toNat]? = _
  rw [List.getElem?_map, List.getElem?_eq_getElem hl]
  rfl
theorem log_lt {j : Int} (h0 : 0 < j) (h : j < 1000000000) : j.natAbs.log2 < 9000 := by
  have : j.natAbs < 2 ^ 30 := by omega
  exact Nat.lt_of_lt_of_le (PySem.Flt.log2_lt_of (by decide) this) (by decide)
local macro_rules | `(tactic| walk_at "ev") => `(tactic| try simp only [W_some, W_none, W_ite, W_eC, W_eV, W_aNil, W_aCons, W_e1, W_e2, W_eTup, W_eLst, W_eDct, W_eAnd, W_eOr, W_eNot, W_tB, W_tAnd, W_tOr, W_tNot, W_tYes, W_eIf, W_eChain, W_oNone, W_oSome, W_eSl, W_itV, W_itR, W_eComp,
  W_eM0, W_eM1, W_eCall, W_sNil, W_sSet, W_sExpr, W_sRet, W_sIf, W_sFor, W_sPut, nxt_nx, nxt_rt, W_rt, W_nx, W_obind, aList, rd, fz, fzs, mk_false, asB_b, asI_i, asS_s,
  List.getElem?_cons_zero, List.getElem?_cons_succ, List.set_cons_zero, List.set_cons_succ, Option.some.injEq, exists_eq_left', exists_eq_left, Val.r.injEq, List.length_cons, List.length_nil, wipeS, Bool.not_true, Bool.not_false, if_true, if_false, Bool.false_eq_true, reduceIte, gAdd, gSub, gLt, gLe, gGt, gGe, gNeg, gMod, gDiv, gMul, gPow, gAbs, gInt, gLen, pen_cells, pen_at, pen_left, put_at, put_left, ne_nil_ints])
theorem draw_W {m : Bool} {many : Int} {es : List (PyData × PyData)} {b : Nat} (hp : PenOk b es) (hb : b ≤ 1000000) (h0 : 0 < many) (h9 : many < 1000000000) {P : Val × MH → Prop}
    (q : ∀ (n : Int) (es' : List (PyData × PyData)), 0 ≤ n → n < many → PenOk (b + 1) es' → P (.t (.int n), [.d es'])) : W (runFn 8 (bDraw m) [.r 0, .t (.int many)] [.d es]) P := by
  obtain ⟨c, a, l, rfl, hc, ha, hl⟩ := hp
  have hlog := log_lt h0 h9
  have mki : ∀ (i : Int) (h : MH), mk m (.int i) h = (.t (.int i), h) := fun i h => mk_no (.inr rfl)
  rw [runFn_eq]
  show W (Option.bind (bDraw m [some (.r 0), some (.t (.int many)), none, none, none, none, none, none] [.d (penD c a l)]) _) _
  unfold bDraw
  rw [W_obind]
  refine seq_K fun K hK => ?_
  walk_at "ev"
  by_cases hl0 : 0 < l
  · simp only [hl0, decide_true, if_true]
    refine seq_K fun K2 hK2 => ?_
    walk_at "ev"
    refine ⟨h0, hK2 _ _ ?_⟩
    refine seq_K fun K3 hK3 => ?_
    walk_at "ev"
    refine ⟨⟨h0, hlog⟩, hK3 _ _ ?_⟩
    refine seq_K fun K4 hK4 => ?_
    walk_at "ev"
    exact q _ _ (mod_bounds h0).1 (mod_bounds h0).2 ⟨c, a, _, rfl, hc, by omega, Int.ediv_nonneg hl (by omega)⟩
  · simp only [hl0, decide_false, Bool.false_eq_true, if_false]
    walk_at "ev"
    refine hK _ _ ?_
    clear hK
    refine seq_K fun K hK => ?_
    walk_at "ev"
    refine hK _ _ ?_
    clear hK
    refine seq_K fun K hK => ?_
    walk_at "ev"
    refine hK _ _ ?_
    clear hK
    refine seq_K fun K hK => ?_
    walk_at "ev"
    refine ⟨by omega, hK _ _ ?_⟩
    clear hK
    refine seq_K fun K hK => ?_
    walk_at "ev"
    refine ⟨Nat.zero_le _, ?_⟩
    have go : ∀ cell : Int, K [some (Val.r 0), some (Val.t (.int many)), none, some (Val.t (.int a)), some (Val.t (.int cell)), none, none, none] [MO.d (penD c (a + 1) l)] := by
      intro cell
      refine hK _ _ ?_
      clear hK
      refine seq_K fun K hK => ?_
      walk_at "ev"
      rw [List.length_map]
      have habs : (0 : Int) ≤ (if cell < 0 then -cell else cell) := by split <;> omega
      have last : K [some (Val.r 0), some (Val.t (.int many)), none, some (Val.t (.int a)), some (Val.t (.int cell)), none, none, none] [MO.d (penD c (a + 1) l)] := by
        refine hK _ _ ?_
        clear hK
        have b1 := mod_bounds (x := cell) (m := 2147483563) (by decide)
        refine seq_K fun K hK => ?_
        walk_at "ev"
        refine ⟨by decide, by omega, ⟨by decide, by decide, ?_⟩, by decide, hK _ _ ?_⟩
        · omega
        clear hK
        generalize hone : (cell % 2147483563 + 70997 * (a : Int) + 79) ^ (5 : Int).toNat % 2147483647 = one
        have b2 : 0 ≤ one ∧ one < 2147483647 := by rw [← hone]; exact mod_bounds (by decide)
        refine seq_K fun K hK => ?_
        walk_at "ev"
        have ha' : (a : Int) ≤ 1000000 := by omega
        have m1 : one * ((a : Int) + 65539) ≤ 2147483647 * 1065539 := Int.mul_le_mul (by omega) (by omega) (by omega) (by decide)
        have m2 : 0 ≤ one * ((a : Int) + 65539) := Int.mul_nonneg b2.1 (by omega)
        have m3 : 85009 * (a : Int) * a ≤ 85009000000 * 1000000 := Int.mul_le_mul (by omega) ha' (by omega) (by decide)
        have m4 : 0 ≤ 85009 * (a : Int) * a := Int.mul_nonneg (by omega) (by omega)
        refine ⟨by omega, by omega, by omega, ⟨by decide, by decide, by omega⟩, by decide, hK _ _ ?_⟩
        clear hK
        refine seq_K fun K hK => ?_
        walk_at "ev"
        refine ⟨⟨by decide, by decide⟩, h0, ?_⟩
        rw [mki]
        walk_at "ev"
        exact q _ _ (mod_bounds h0).1 (mod_bounds h0).2 ⟨c, a + 1, l, rfl, hc, by omega, hl⟩
      generalize (if cell < 0 then -cell else cell) = ab at habs ⊢
      split
      · refine ⟨by decide, ?_⟩
        split
        · refine seq_K fun K2 hK2 => ?_
          walk_at "ev"
          refine ⟨by omega, hK2 _ _ ?_⟩
          refine seq_K fun K3 hK3 => ?_
          walk_at "ev"
          refine ⟨⟨h0, hlog⟩, hK3 _ _ ?_⟩
          refine seq_K fun K4 hK4 => ?_
          walk_at "ev"
          rw [mki]
          walk_at "ev"
          refine ⟨h0, q _ _ (mod_bounds h0).1 (mod_bounds h0).2 ⟨c, a + 1, _, rfl, hc, by omega, Int.ediv_nonneg ?_ (by omega)⟩⟩
          split <;> split <;> omega
        · exact last
      · exact last
    cases c with
    | nil => exact go _
    | cons x c =>
      simp only [List.isEmpty_cons, Bool.not_false, if_true]
      refine seq_K fun K2 hK2 => ?_
      walk_at "ev"
      obtain ⟨y, hy⟩ := idx_ints (c := x :: c) (i := (a : Int) % ((x :: c).length : Int)) (by simp) (mod_bounds (by simp only [List.length_cons]; omega)).1 (mod_bounds (by simp only [List.length_cons]; omega)).2
      rw [List.length_map]
      refine ⟨by simp only [List.length_cons]; omega, ?_⟩
      rw [hy, W_some]
      refine hK2 _ _ ?_
      walk_at "ev"
      exact go y
end DE
end
section
set_option Elab.async false
set_option linter.all false
set_option maxRecDepth 100000
set_option maxHeartbeats 4000000
/-! data that repr takes; calls with a pen -/
namespace DE
open PySem PySem.Spec L2 PyProof.Rows
/-- a text of at most L signs, each below 128 -/
def Asc (L : Nat) (x : Str) : Prop := x.length ≤ L ∧ ∀ c ∈ x.cps.toList, c < 128
def txtOk (L : Nat) (x : Str) : Bool := decide (x.length ≤ L) && x.cps.toList.all fun c => decide (c < 16 ^ 8)
mutual
def okd (L : Nat) : PyData → Bool
  | .none => true
  | .bool _ => true
  | .int i => decide (i.natAbs.log2 < 1920)
  | .str x => txtOk L x
  | .list xs => okds L xs
  | .tuple xs => okds L xs
  | .dict kvs => kvs.isEmpty
def okds (L : Nat) : List PyData → Bool
  | [] => true
  | x :: xs => okd L x && okds L xs
end
mutual
def cnt : PyData → Nat
  | .none => 1
  | .bool _ => 1
  | .int _ => 1
  | .str _ => 1
  | .list xs => cnts xs + 1
  | .tuple xs => cnts xs + 1
  | .dict _ => 1
def cnts : List PyData → Nat
  | [] => 0
  | x :: xs => cnt x + cnts xs
end
theorem shownAll_len : ∀ xs : List PyData, (PyData.shownAll xs).length = xs.length
  | [] => rfl
  | _ :: xs => by simp only [PyData.shownAll, List.length_cons, shownAll_len xs]
theorem cnt_pos : ∀ d : PyData, 1 ≤ cnt d := by intro d; cases d <;> simp [cnt]
theorem len_cnts : ∀ xs : List PyData, xs.length ≤ cnts xs
  | [] => Nat.le_refl _
  | x :: xs => by
    have := len_cnts xs
    have := cnt_pos x
    simp only [List.length_cons, cnts]
    omega
mutual
theorem okd_show {L : Nat} : ∀ {d : PyData}, okd L d = true → d.showable = true ∧ d.depth ≤ cnt d ∧ d.shown.length + 2 ≤ cnt d * (10 * L + 2010)
  | .none, _ => ⟨rfl, Nat.zero_le _, by show 4 + 2 ≤ 1 * _; omega⟩
  | .bool b, _ => ⟨rfl, Nat.zero_le _, by cases b <;> (first | (show 4 + 2 ≤ 1 * _; omega) | (show 5 + 2 ≤ 1 * _; omega))⟩
  | .int i, h => ⟨h, Nat.zero_le _, by
      have h' : i.natAbs.log2 < 1920 := by simpa [okd] using h
      have := int_text_length_le (a := i) (by decide) h'
      show (Str.ofString (toString i)).length + 2 ≤ 1 * _
      rw [PySem.ofString_length]
      omega⟩
  | .str x, h => by
    have h0 : txtOk L x = true := h
    unfold txtOk at h0
    rw [Bool.and_eq_true, List.all_eq_true] at h0
    have h1 : x.length ≤ L := by simpa using h0.1
    refine ⟨rfl, Nat.zero_le _, ?_⟩
    have := StrLaws.reprText_len x fun c hc => of_decide_eq_true (h0.2 c hc)
    show (reprText x).length + 2 ≤ 1 * _
    omega
  | .list xs, h => by
    obtain ⟨h1, h2, h3⟩ := okds_show (xs := xs) (by simpa [okd] using h)
    refine ⟨by simpa [PyData.showable] using h1, by simp only [PyData.depth, cnt]; omega, ?_⟩
    have := listText_len_le (PyData.shownAll xs)
    rw [shownAll_len] at this
    show (listText (PyData.shownAll xs)).length + 2 ≤ (cnts xs + 1) * _
    rw [Nat.succ_mul]
    omega
  | .tuple xs, h => by
    obtain ⟨h1, h2, h3⟩ := okds_show (xs := xs) (by simpa [okd] using h)
    refine ⟨by simpa [PyData.showable] using h1, by simp only [PyData.depth, cnt]; omega, ?_⟩
    have := tupleText_len_le (PyData.shownAll xs)
    rw [shownAll_len] at this
    show (tupleText (PyData.shownAll xs)).length + 2 ≤ (cnts xs + 1) * _
    rw [Nat.succ_mul]
    omega
  | .dict kvs, h => by
    have : kvs = [] := by simpa [okd] using h
    subst this
    exact ⟨rfl, by simp [PyData.depth, PyData.depthKv, cnt], by show 2 + 2 ≤ 1 * _; omega⟩
theorem okds_show {L : Nat} : ∀ {xs : List PyData}, okds L xs = true → PyData.showableAll xs = true ∧ PyData.depthAll xs ≤ cnts xs ∧ ((PyData.shownAll xs).map (·.length)).sum + 2 * xs.length ≤ cnts xs * (10 * L + 2010)
  | [], _ => ⟨rfl, Nat.zero_le _, by simp [PyData.shownAll, cnts]⟩
  | x :: xs, h => by
    simp only [okds, Bool.and_eq_true] at h
    obtain ⟨a1, a2, a3⟩ := okd_show h.1
    obtain ⟨b1, b2, b3⟩ := okds_show h.2
    refine ⟨by simp [PyData.showableAll, a1, b1], by simp only [PyData.depthAll, cnts]; omega, ?_⟩
    simp only [PyData.shownAll, List.map_cons, List.sum_cons, List.length_cons, cnts]
    rw [Nat.add_mul]
    omega
end
/-- data that repr takes: small, with short texts -/
def Gd (L N : Nat) (d : PyData) : Prop := okd L d = true ∧ cnt d ≤ N
theorem Gd.repr {L N : Nat} {d : PyData} (h : Gd L N d) (hN : N ≤ 64) (hs : N * (10 * L + 2010) ≤ 16777216) : gRepr d = some (.str d.shown) := by
  obtain ⟨h1, h2, h3⟩ := okd_show h.1
  unfold gRepr
  have := h.2
  have hm : cnt d * (10 * L + 2010) ≤ N * (10 * L + 2010) := Nat.mul_le_mul_right _ this
  rw [if_pos ⟨h1, by omega, by rw [sizeLine_eq]; omega⟩]
theorem Asc.more {L M : Nat} {a : Str} (ha : Asc L a) (h : L ≤ M) : Asc M a := ⟨by have := ha.1; omega, ha.2⟩
theorem cut_len {a : Str} {lo hi : Option Int} : (cutS a lo hi).length ≤ a.length := by
  show (((a.cps.toList.drop _).take _).toArray).size ≤ _
  rw [List.size_toArray, List.length_take, List.length_drop]
  have : a.cps.toList.length = a.length := by simp [Str.length]
  omega
theorem cut_mem {a : Str} {lo hi : Option Int} {c : Nat} (h : c ∈ (cutS a lo hi).cps.toList) : c ∈ a.cps.toList := by
  have h' : c ∈ ((a.cps.toList.drop (HT.sIx a.length 0 lo)).take (HT.sIx a.length a.length hi - HT.sIx a.length 0 lo)) := h
  exact List.mem_of_mem_drop (List.mem_of_mem_take h')
theorem Asc.cut {L : Nat} {a : Str} (ha : Asc L a) {lo hi : Option Int} : Asc L (cutS a lo hi) := ⟨Nat.le_trans cut_len ha.1, fun c hc => ha.2 c (cut_mem hc)⟩
theorem foldl_rep_mem {a : Array Nat} {c : Nat} : ∀ (n : Nat) (acc : Array Nat), c ∈ ((List.replicate n a).foldl (· ++ ·) acc).toList → c ∈ acc.toList ∨ c ∈ a.toList
  | 0, acc, h => .inl h
  | n + 1, acc, h => by
    rcases foldl_rep_mem n (acc ++ a) h with h | h
    · rw [Array.toList_append] at h
      exact List.mem_append.mp h
    · exact .inr h
theorem mul_mem {a : Str} {n : Int} {c : Nat} (h : c ∈ (Txt.mul a n).cps.toList) : c ∈ a.cps.toList := by
  unfold Txt.mul at h
  split at h
  · cases h
  · split at h
    · exact h
    · rcases foldl_rep_mem _ _ h with h | h
      · cases h
      · exact h
theorem Asc.mul {L N : Nat} {a : Str} (ha : Asc L a) {n : Int} (hn : n ≤ (N : Int)) : Asc (L * N) (Txt.mul a n) := ⟨len_mul_leN ha.1 hn, fun c hc => ha.2 c (mul_mem hc)⟩
theorem upper_asc : ∀ c < 128, ∀ d ∈ Unicode.upperOf c, d < 128 := by decide +kernel
theorem Asc.upper {L : Nat} {a : Str} (ha : Asc L a) : Asc (3 * L) (Txt.upper a) := by
  refine ⟨by have := len_upper a; have := ha.1; omega, fun c hc => ?_⟩
  have hc' : c ∈ ((a.cps.mapIdx fun i c => (Unicode.upperOf c).toArray).flatten).toList := hc
  rw [Array.mem_toList_iff, Array.mem_flatten] at hc'
  obtain ⟨xs, hx, hc2⟩ := hc'
  rw [Array.mem_mapIdx] at hx
  obtain ⟨i, hi, e⟩ := hx
  subst e
  exact upper_asc _ (ha.2 (a.cps[i]) (Array.mem_toList_iff.mpr (Array.getElem_mem hi))) c (by simpa using hc2)
theorem Asc.ok {L : Nat} {a : Str} (ha : Asc L a) : txtOk L a = true := by
  unfold txtOk
  rw [Bool.and_eq_true, List.all_eq_true]
  exact ⟨decide_eq_true ha.1, fun c hc => decide_eq_true (Nat.lt_trans (ha.2 c hc) (by decide))⟩
theorem asc_lit {L : Nat} {a : Str} (h : (decide (a.length ≤ L) && a.cps.toList.all fun c => decide (c < 128)) = true) : Asc L a := by
  rw [Bool.and_eq_true, List.all_eq_true] at h
  exact ⟨of_decide_eq_true h.1, fun c hc => of_decide_eq_true (h.2 c hc)⟩
theorem txt_len {L : Nat} {x : Str} (h : txtOk L x = true) : x.length ≤ L := by
  unfold txtOk at h
  rw [Bool.and_eq_true] at h
  exact of_decide_eq_true h.1
/-! ### items -/
theorem idx_mem {xs : List PyData} {i : Int} (h1 : 0 ≤ i) (h2 : i < (xs.length : Int)) : ∃ d ∈ xs, gIdx (.list xs) (.int i) = some d := by
  have hl : i.toNat < xs.length := by omega
  refine ⟨xs[i.toNat], List.getElem_mem hl, ?_⟩
  show atI xs i = _
  unfold atI ixN
  rw [if_pos h1, if_pos h2]
  show xs[i.toNat]? = _
  rw [List.getElem?_eq_getElem hl]
/-! ### calls -/
theorem refs_t : ∀ ds : List PyData, refsOf (ds.map Val.t) = []
  | [] => rfl
  | _ :: ds => refs_t ds
theorem rens_t {ns : List Nat} : ∀ ds : List PyData, rens ns (ds.map Val.t) = some (ds.map Val.t)
  | [] => rfl
  | d :: ds => by simp only [List.map_cons, rens, ren, rens_t ds]
/-- a call with a pen and trees -/
theorem callP {f : Fn} (ds : List PyData) {h : MH} {P : Val × MH → Prop} {n : Nat} {o : MO} (hn : h[n]? = some o)
    (q : W (f (.r 0 :: ds.map Val.t) [o]) fun p => ∃ d' o' os, p = (.t d', o' :: os) ∧ P (.t d', h.set n o')) : W (callIn f (.r n :: ds.map Val.t) h) P := by
  obtain ⟨p, e, d', o', os, rfl, z⟩ := q
  unfold callIn
  have hr : refsOf (.r n :: ds.map Val.t) = [n] := by simp [refsOf, refs_t]
  rw [hr]
  have h2 : rens [n] (.r n :: ds.map Val.t) = some (.r 0 :: ds.map Val.t) := by
    have : List.idxOf n [n] = 0 := by simp
    simp only [rens, ren, rens_t, this]
  simp only [subHp, hn, h2, e, W_some]
  exact z
/-- a draw -/
theorem drawP {f : Fn} {m : Bool} (hf : ∀ xs h, xs.length = 2 → f xs h = runFn 8 (bDraw m) xs h) {many : Int} {h : MH} {n : Nat} {es : List (PyData × PyData)} {b : Nat} (hn : h[n]? = some (.d es)) (hp : PenOk b es) (hb : b ≤ 1000000) (h0 : 0 < many)
    (h9 : many < 1000000000) {P : Val × MH → Prop} (q : ∀ (i : Int) (es' : List (PyData × PyData)), 0 ≤ i → i < many → PenOk (b + 1) es' → P (.t (.int i), h.set n (.d es'))) : W (callIn f [.r n, .t (.int many)] h) P := by
  refine callP [.int many] hn ?_
  rw [hf _ _ rfl]
  exact draw_W hp hb h0 h9 fun i es' a1 a2 a3 => ⟨_, _, _, rfl, q i es' a1 a2 a3⟩
/-- the new pen -/
theorem penNew {f : Fn} (hf : ∀ xs h, xs.length = 1 → f xs h = runFn 1 (bPen true) xs h) {ns : List Int} {h : MH} {P : Val × MH → Prop} (q : ∀ es, PenOk 0 es → P (.r h.length, h ++ [.d es])) : W (callIn f [.t (.list (ns.map PyData.int))] h) P := by
  have e : runFn 1 (bPen true) [.t (.list (ns.map PyData.int))] [] = some (.r 0, [.d (penD (ns.take 63) 0 0)]) := by
    have z : cutD (ns.map PyData.int) none (some 63) = (ns.take 63).map PyData.int := by
      unfold cutD
      have : HT.sIx (ns.map PyData.int).length 0 none = 0 := rfl
      rw [this]
      have h2 : HT.sIx (ns.map PyData.int).length (ns.map PyData.int).length (some 63) = min 63 (ns.map PyData.int).length := by
        simp [HT.sIx]
        try omega
      rw [h2, List.drop_zero, List.map_take, Nat.sub_zero, ← List.take_take, List.take_length]
    show (match bPen true [some (.t (.list (ns.map PyData.int)))] [] with | some (.rt v h1) => some (v, h1) | some (.nx _ h1) => some (.t .none, h1) | _ => none) = _
    unfold bPen
    simp only [sSeq, sRet, eDct, aList, aCons, aNil, DE.e1, eSl, eV, eC, oNone, oSome, List.getElem?_cons_zero, rd, gSl, z, gList, mk_false, fzs, fz, asI]
    rfl
  unfold callIn
  simp only [refsOf, subHp, rens, ren, hf _ _ (rfl : [Val.t (.list (ns.map PyData.int))].length = 1), e, W_some]
  refine W_some.mpr ?_
  exact q _ ⟨ns.take 63, 0, 0, rfl, by rw [List.length_take]; omega, Nat.le_refl _, Int.le_refl _⟩
end DE
end
section
set_option Elab.async false
set_option linter.all false
set_option maxRecDepth 100000
set_option maxHeartbeats 4000000
/-! defs that many laws have: the kinds, the worths -/
namespace DE
open PySem PySem.Spec L2 PyProof.Rows
local macro_rules | `(tactic| walk_at "ev") => `(tactic| try simp only [W_some, W_none, W_ite, W_eC, W_eV, W_aNil, W_aCons, W_e1, W_e2, W_eN, W_eTup, W_eLst, W_eDct, W_eAnd, W_eOr, W_eNot, W_tB, W_tAnd, W_tOr, W_tNot, W_tYes, W_eIf, W_eChain, W_oNone, W_oSome, W_eSl, W_itV, W_itR, W_eComp,
  W_eM0, W_eM1, W_eMethL, W_eCall, W_sNil, W_sSet, W_sSetB, W_bTup, W_bNil, W_bCons, bName_W, W_sExpr, W_sRet, W_sIf, W_sFor, W_sPut, nxt_nx, nxt_rt, W_rt, W_nx, W_obind, aList, rd, rds, fz, fzs, mk_false, asB_b, asI_i, asS_s,
  List.getElem?_cons_zero, List.getElem?_cons_succ, List.set_cons_zero, List.set_cons_succ, Option.some.injEq, exists_eq_left', exists_eq_left, Val.r.injEq, MO.l.injEq, List.length_cons, List.length_nil, wipeS, Bool.not_true, Bool.not_false, if_true, if_false, Bool.false_eq_true, reduceIte, isi, sizeLine_eq, Nat.reduceAdd, Nat.reduceLeDiff, Nat.zero_le, true_and, and_true, List.map_nil, List.zip_nil_left, eq_self_iff_true, seqD, mk_tl, List.cons_append, List.nil_append])
def K12 : List Str := ["a", "aa", "b", "ba", "c", "k", "l", "o", "zz", "zzzzzzzz", "m", "ma"]
def W8 : List Int := [0, 1, 2, 3, 7, 10, 9999, 5000]
def bKinds (dr : Fn) (m : Bool) : Ex1 :=
  (sSeq (sSet 2 (eLst true (aList [(eC (.str "a")), (eC (.str "aa")), (eC (.str "b")), (eC (.str "ba")), (eC (.str "c")), (eC (.str "k")), (eC (.str "l")), (eC (.str "o")), (eC (.str "zz")), (eC (.str "zzzzzzzz")), (eC (.str "m")), (eC (.str "ma"))])))
    (sSeq (sRet (eComp m (itR (eV 1)) (bName 3) [3] tYes (eMethL gPopAt (eV 2) (aList [(eCall dr (aList [(eV 0), (e1 false gLen (eV 2))]))]))))
    sNil))
def bWorths (dr : Fn) (m : Bool) : Ex1 :=
  (sSeq (sSet 2 (eLst true (aList [(eC (.int 0)), (eC (.int 1)), (eC (.int 2)), (eC (.int 3)), (eC (.int 7)), (eC (.int 10)), (eC (.int 9999)), (eC (.int 5000))])))
    (sSeq (sSet 3 (eLst true (aList [])))
    (sSeq (sFor (itR (e2 false gAdd (eC (.int 1)) (eCall dr (aList [(eV 0), (eV 1)])))) (bName 4) (sSeq (sExpr (eMethL gAppend (eV 3) (aList [(eMethL gPopAt (eV 2) (aList [(eCall dr (aList [(eV 0), (e2 false gIdx (eLst false (aList [(e1 false gLen (eV 2)), (eN false gMin (aList [(eC (.int 4)), (e1 false gLen (eV 2))]))])) (eCall dr (aList [(eV 0), (eC (.int 2))])))]))]))])))
    sNil))
    (sSeq (sRet (e1 m gTuple (eV 3)))
    sNil))))
theorem erase_map {α β : Type} (f : α → β) : ∀ (l : List α) (i : Nat), (l.map f).eraseIdx i = (l.eraseIdx i).map f
  | [], _ => rfl
  | _ :: _, 0 => rfl
  | a :: l, i + 1 => by simp only [List.map_cons, List.eraseIdx_cons_succ, erase_map f l i]
theorem erase_perm {α : Type} : ∀ (l : List α) (i : Nat) (h : i < l.length), (l[i] :: l.eraseIdx i).Perm l
  | a :: l, 0, _ => List.Perm.refl _
  | a :: l, i + 1, h => by
    simp only [List.getElem_cons_succ, List.eraseIdx_cons_succ]
    exact (List.Perm.swap _ _ _).trans (List.Perm.cons a (erase_perm l i (by simpa using h)))
/-- one thing is taken out of a list -/
theorem pop_take {α : Type} (f : α → PyData) {rest : List α} {i : Int} {P : PyData × List PyData → Prop} (h0 : 0 ≤ i) (h1 : i < (rest.length : Int)) (hl : rest.length ≤ 1000000) (q : ∀ y rest', (y :: rest').Perm rest → P (f y, rest'.map f)) : W (gPopAt (rest.map f) [.int i]) P := by
  have hk : i.toNat < rest.length := by omega
  have e : gPopAt (rest.map f) [.int i] = some (f rest[i.toNat], (rest.eraseIdx i.toNat).map f) := by
    simp only [gPopAt]
    rw [if_pos ⟨by omega, by omega⟩]
    have : ixN (rest.map f).length i = some i.toNat := by
      unfold ixN
      rw [if_pos h0, List.length_map, if_pos h1]
    rw [this]
    simp only [List.getElem?_map, List.getElem?_eq_getElem hk, Option.map_some, erase_map]
  rw [e, W_some]
  exact q _ _ (erase_perm _ _ hk)
theorem kinds_W {dr : Fn} (hf : ∀ xs h, xs.length = 2 → dr xs h = runFn 8 (bDraw false) xs h) {es : List (PyData × PyData)} {b : Nat} (hp : PenOk b es) (hb : b ≤ 900000) {many : Int} (h0 : 0 ≤ many) (h1 : many ≤ 12) {P : Val × MH → Prop}
    (q : ∀ (ks : List Str) (es' : List (PyData × PyData)) (os : MH), (ks.length : Int) = many → ks.Nodup → (∀ x ∈ ks, x ∈ K12) → PenOk (b + 12) es' → P (.t (.list (ks.map PyData.str)), .d es' :: os)) :
    W (runFn 4 (bKinds dr false) [.r 0, .t (.int many)] [.d es]) P := by
  rw [runFn_eq]
  show W (Option.bind (bKinds _ _ [some (.r 0), some (.t (.int many)), none, none] [.d es]) _) _
  unfold bKinds
  rw [W_obind]
  refine seq_K fun K hK => ?_
  walk_at "ev"
  refine hK _ _ ?_
  clear hK
  rw [W_sSeq]
  walk_at "ev"
  refine ⟨⟨by omega, by omega⟩, by simp only [DE.upTo, List.length_map, List.length_range]; omega, ?_⟩
  refine (compGo_A 12 (fun n acc h => ∃ (ks rest : List Str) (es : List (PyData × PyData)), acc = ks.map PyData.str ∧ h = [.d es, .l (rest.map PyData.str)] ∧ PenOk (b + n) es ∧ ks.length = n ∧ (ks ++ rest).Perm K12) (n := 0)
    (by simp only [DE.upTo, List.length_map, List.length_range]; omega) ⟨[], K12, es, rfl, rfl, hp, rfl, List.Perm.refl _⟩ ?_).mono ?_
  · rintro d hd n acc h hn ⟨ks, rest, es, rfl, rfl, hp, hl, hperm⟩
    have hlen := hperm.length_eq
    rw [List.length_append, hl] at hlen
    have hlen : n + rest.length = 12 := hlen
    walk_at "ev"
    simp only [gLen, W_some]
    rw [List.length_map]
    refine drawP hf rfl hp (by omega) (by omega) (by omega) fun i es' i0 i1 hp' => ?_
    walk_at "ev"
    refine pop_take _ i0 i1 (by omega) fun y rest' hpm => ?_
    walk_at "ev"
    refine ⟨ks ++ [y], rest', es', by simp, rfl, hp', by simp [hl], ?_⟩
    refine List.Perm.trans ?_ hperm
    rw [List.append_assoc]
    exact List.Perm.append_left _ hpm
  · rintro ⟨ds, h⟩ ⟨ks, rest, es, rfl, rfl, hp, hl, hperm⟩
    walk_at "ev"
    have hn : (ks ++ rest).Nodup := hperm.nodup_iff.mpr (by decide)
    refine q ks es _ ?_ (List.nodup_append.mp hn).1 (fun x hx => hperm.subset (List.mem_append_left _ hx)) (hp.more ?_)
    · rw [hl]; simp only [DE.upTo, List.length_map, List.length_range]; omega
    · simp only [DE.upTo, List.length_map, List.length_range]; omega
theorem worths_W {dr : Fn} (hf : ∀ xs h, xs.length = 2 → dr xs h = runFn 8 (bDraw false) xs h) {es : List (PyData × PyData)} {b : Nat} (hp : PenOk b es) (hb : b ≤ 900000) {most : Int} (h0 : 1 ≤ most) (h1 : most ≤ 8) {P : Val × MH → Prop}
    (q : ∀ (ws : List Int) (es' : List (PyData × PyData)) (os : MH), 1 ≤ ws.length → (ws.length : Int) ≤ most → ws.Nodup → (∀ x ∈ ws, x ∈ W8) → PenOk (b + 17) es' → P (.t (.tuple (ws.map PyData.int)), .d es' :: os)) :
    W (runFn 5 (bWorths dr false) [.r 0, .t (.int most)] [.d es]) P := by
  rw [runFn_eq]
  show W (Option.bind (bWorths _ _ [some (.r 0), some (.t (.int most)), none, none, none] [.d es]) _) _
  unfold bWorths
  rw [W_obind]
  refine seq_K fun K hK => ?_
  walk_at "ev"
  refine hK _ _ ?_
  clear hK
  refine seq_K fun K hK => ?_
  walk_at "ev"
  refine hK _ _ ?_
  clear hK
  refine seq_K fun K hK => ?_
  walk_at "ev"
  refine drawP hf rfl hp (by omega) (by omega) (by omega) fun t es1 t0 t1 hp1 => ?_
  walk_at "ev"
  simp only [gAdd.eq_1, W_some]
  walk_at "ev"
  refine ⟨⟨by omega, by omega⟩, ?_⟩
  refine forGo_W 8 (fun n σ h => ∃ (ws rest : List Int) (es : List (PyData × PyData)) (s4 : Option Val), h = [.d es, .l (rest.map PyData.int), .l (ws.map PyData.int)] ∧ σ = [some (.r 0), some (.t (.int most)), some (.r 1), some (.r 2), s4] ∧ PenOk (b + 1 + 2 * n) es ∧ ws.length = n ∧ (ws ++ rest).Perm W8) _ (n := 0)
    (by simp only [DE.upTo, List.length_map, List.length_range]; omega) ⟨[], W8, es1, none, rfl, rfl, hp1, rfl, List.Perm.refl _⟩ ?_ ?_
  · rintro d hd n σ h hn ⟨ws, rest, es, s4, rfl, rfl, hp, hl, hperm⟩
    have hlen := hperm.length_eq
    rw [List.length_append, hl] at hlen
    have hlen : n + rest.length = 8 := hlen
    walk_at "ev"
    rw [W_sSeq]
    walk_at "ev"
    refine ⟨_, rfl, _, rfl, ?_⟩
    simp only [gLen, W_some, gMin, List.length_map]
    walk_at "ev"
    refine drawP hf rfl hp (by omega) (by decide) (by decide) fun z es2 z0 z1 hp2 => ?_
    walk_at "ev"
    obtain ⟨d, hd, e⟩ := idx_mem (xs := [.int (rest.length : Int), .int (if (rest.length : Int) < 4 then (rest.length : Int) else 4)]) (i := z) z0 (by simpa using z1)
    rw [e, W_some]
    obtain ⟨mm, rfl, m0, m1⟩ : ∃ mm : Int, d = .int mm ∧ 0 < mm ∧ mm ≤ (rest.length : Int) := by
      simp only [List.mem_cons, List.not_mem_nil, or_false] at hd
      rcases hd with rfl | rfl
      · exact ⟨_, rfl, by omega, by omega⟩
      · refine ⟨_, rfl, ?_, ?_⟩ <;> split <;> omega
    refine drawP hf rfl hp2 (by omega) m0 (by omega) fun i es3 i0 i1 hp3 => ?_
    walk_at "ev"
    refine pop_take _ i0 (by omega) (by omega) fun y rest' hpm => ?_
    walk_at "ev"
    simp only [gAppend, List.length_map, sizeLine_eq, show ws.length < 16777216 by omega, if_true, W_some]
    walk_at "ev"
    refine ⟨ws ++ [y], rest', es3, _, by simp, rfl, hp3.more (by omega), by simp [hl], ?_⟩
    refine List.Perm.trans ?_ hperm
    rw [List.append_assoc]
    exact List.Perm.append_left _ hpm
  · rintro σ h ⟨ws, rest, es, s4, rfl, rfl, hp, hl, hperm⟩
    refine hK _ _ ?_
    rw [W_sSeq]
    walk_at "ev"
    simp only [gTuple, W_some]
    walk_at "ev"
    have hn : (ws ++ rest).Nodup := hperm.nodup_iff.mpr (by decide)
    have hz : ws.length = (1 + t).toNat := by rw [hl]; simp only [DE.upTo, List.length_map, List.length_range]; omega
    refine q ws es _ (by omega) (by omega) (List.nodup_append.mp hn).1 (fun x hx => hperm.subset (List.mem_append_left _ hx)) (hp.more ?_)
    simp only [DE.upTo, List.length_map, List.length_range]; omega
end DE
end
section
set_option Elab.async false
set_option linter.all false
set_option maxRecDepth 100000
set_option maxHeartbeats 4000000
/-! defs by their names, operations of data that are told by what they are made of -/
namespace DE
open PySem PySem.Spec L2 PyProof.Rows

/-- a def of the table -/
class Is (F : Nat → Bool → Str → Fn) (nm : Str) (n slots : Nat) (b : (Bool → Str → Fn) → Bool → Ex1) : Prop where
  eq : ∀ k m xs h, xs.length = n → F (k + 1) m nm xs h = runFn slots (b (F k) m) xs h
/-- a def that takes trees and gives a tree -/
def Ret (f : Fn) (ds : List PyData) (r : PyData) : Prop := ∃ h', f (ds.map Val.t) [] = some (.t r, h')
section
variable {F : Nat → Bool → Str → Fn} {nm : Str} {n slots k : Nat} {b : (Bool → Str → Fn) → Bool → Ex1} {f : Fn} {ds : List PyData} {r a c d e : PyData} {h : MH} {P : Val × MH → Prop}
theorem Ret.w (q : Ret f ds r) : W (callIn f (ds.map Val.t) h) P ↔ P (.t r, h) := by
  obtain ⟨h', e⟩ := q
  unfold callIn
  rw [refs_t]
  simp only [subHp, rens_t, e, W_some, backHp]
theorem Ret.w1 (q : Ret f [a] r) : W (callIn f [.t a] h) P ↔ P (.t r, h) := q.w
theorem Ret.w2 (q : Ret f [a, c] r) : W (callIn f [.t a, .t c] h) P ↔ P (.t r, h) := q.w
theorem Ret.w3 (q : Ret f [a, c, d] r) : W (callIn f [.t a, .t c, .t d] h) P ↔ P (.t r, h) := q.w
theorem Is.ret [i : Is F nm n slots b] (hl : ds.length = n) (q : W (b (F k) false (ds.map (fun d => some (Val.t d)) ++ List.replicate (slots - ds.length) none) []) fun o => W (ofOut o) fun p => p.1 = .t r) : Ret (F (k + 1) false nm) ds r := by
  have e := i.eq k false (ds.map Val.t) [] (by rw [List.length_map]; exact hl)
  obtain ⟨o, e1, ⟨v, h'⟩, e2, e3⟩ := q
  cases e3
  refine ⟨h', ?_⟩
  rw [e, runFn_eq, List.map_map, List.length_map]
  rw [show (some ∘ Val.t) = (fun d => some (Val.t d)) from rfl, e1]
  exact e2
/-- a def with a pen (or another thing that is changed) ahead -/
theorem Is.pen [i : Is F nm n slots b] {o : MO} (hl : ds.length + 1 = n) {P : Val × MH → Prop} (q : W (b (F k) false (some (.r 0) :: (ds.map (fun d => some (Val.t d)) ++ List.replicate (slots - (ds.length + 1)) none)) [o]) fun o => W (ofOut o) P) :
    W (F (k + 1) false nm (.r 0 :: ds.map Val.t) [o]) P := by
  have e := i.eq k false (.r 0 :: ds.map Val.t) [o] (by rw [List.length_cons, List.length_map]; exact hl)
  rw [e, runFn_eq, List.map_cons, List.map_map, List.length_cons, List.length_map, List.cons_append, W_obind]
  exact q
end
/-! ### operations -/
theorem beqd {α : Type} [BEq α] [LawfulBEq α] [DecidableEq α] (a b : α) : (a == b) = decide (a = b) := by rw [Bool.eq_iff_iff]; simp
section
variable {a b c d e g : PyData} {l xs ys : List PyData} {i j : Int} {x y : Str} {p q : Bool}
theorem atI_0 {α : Type} {a : α} {l : List α} : atI (a :: l) 0 = some a := by
  unfold atI ixN
  rw [if_pos (by decide), if_pos (by simp)]
  rfl
theorem atI_n {α : Type} {l : List α} {n : Nat} : atI l (n : Int) = l[n]? := by
  unfold atI ixN
  rw [if_pos (by omega)]
  by_cases h : (n : Int) < l.length
  · rw [if_pos h]; simp
  · rw [if_neg h]
    have : l.length ≤ n := by omega
    simp [List.getElem?_eq_none this]
theorem atI_s {α : Type} {a : α} {l : List α} {n : Nat} : atI (a :: l) ((n + 1 : Nat) : Int) = atI l n := by
  rw [atI_n, atI_n, List.getElem?_cons_succ]
theorem atI_1 {α : Type} {a b : α} {l : List α} : atI (a :: b :: l) 1 = some b := (atI_s (n := 0)).trans atI_0
theorem atI_2 {α : Type} {a b c : α} {l : List α} : atI (a :: b :: c :: l) 2 = some c := (atI_s (n := 1)).trans atI_1
theorem atI_3 {α : Type} {a b c d : α} {l : List α} : atI (a :: b :: c :: d :: l) 3 = some d := (atI_s (n := 2)).trans atI_2
theorem atI_4 {α : Type} {a b c d e : α} {l : List α} : atI (a :: b :: c :: d :: e :: l) 4 = some e := (atI_s (n := 3)).trans atI_3
theorem atI_5 {α : Type} {a b c d e g : α} {l : List α} : atI (a :: b :: c :: d :: e :: g :: l) 5 = some g := (atI_s (n := 4)).trans atI_4
theorem atI_enc {α β : Type} (f : α → β) {as : List α} {i : Int} (h0 : 0 ≤ i) (h1 : i < (as.length : Int)) : ∃ a ∈ as, atI (as.map f) i = some (f a) := by
  obtain ⟨n, rfl⟩ := Int.eq_ofNat_of_zero_le h0
  have hn : n < as.length := by omega
  exact ⟨as[n], List.getElem_mem hn, by rw [atI_n, List.getElem?_map, List.getElem?_eq_getElem hn]; rfl⟩
theorem gIdx_t : gIdx (.tuple xs) (.int i) = atI xs i := rfl
theorem gIdx_l : gIdx (.list xs) (.int i) = atI xs i := rfl
theorem gAdd_i : gAdd (.int i) (.int j) = some (.int (i + j)) := rfl
theorem gSub_i : gSub (.int i) (.int j) = some (.int (i - j)) := rfl
theorem gNeg_i : gNeg (.int i) = some (.int (-i)) := rfl
theorem gEq_i : gEq (.int i) (.int j) = some (.bool (decide (i = j))) := rfl
theorem gEq_s : gEq (.str x) (.str y) = some (.bool (decide (x = y))) := rfl
theorem gEq_b : gEq (.bool p) (.bool q) = some (.bool (decide (p = q))) := rfl
theorem gNe_i : gNe (.int i) (.int j) = some (.bool (!decide (i = j))) := rfl
theorem gNe_s : gNe (.str x) (.str y) = some (.bool (!decide (x = y))) := rfl
theorem gNe_b : gNe (.bool p) (.bool q) = some (.bool (!decide (p = q))) := rfl
theorem gLt_i : gLt (.int i) (.int j) = some (.bool (decide (i < j))) := rfl
theorem gLe_i : gLe (.int i) (.int j) = some (.bool (decide (i ≤ j))) := rfl
theorem gGt_i : gGt (.int i) (.int j) = some (.bool (decide (j < i))) := rfl
theorem gGe_i : gGe (.int i) (.int j) = some (.bool (decide (j ≤ i))) := rfl
theorem gIsN_n : gIsN d .none = some (.bool (isN d)) := rfl
theorem gNotN_n : gNotN d .none = some (.bool !(isN d)) := rfl
theorem gIsN_b : gIsN (.bool p) (.bool q) = some (.bool (decide (p = q))) := rfl
theorem gNotN_b : gNotN (.bool p) (.bool q) = some (.bool !(decide (p = q))) := rfl
theorem gLen_l : gLen (.list xs) = some (.int xs.length) := rfl
theorem gLen_t : gLen (.tuple xs) = some (.int xs.length) := rfl
theorem gTuple_l : gTuple (.list xs) = some (.tuple xs) := rfl
theorem gTuple_t : gTuple (.tuple xs) = some (.tuple xs) := rfl
theorem gList_l : gList (.list xs) = some (.list xs) := rfl
theorem gList_t : gList (.tuple xs) = some (.list xs) := rfl
theorem gRev_l : gRev (.list xs) = some (.list xs.reverse) := rfl
theorem gRev_t : gRev (.tuple xs) = some (.tuple xs.reverse) := rfl
theorem gInt_b : gInt (.bool p) = some (.int (if p then 1 else 0)) := rfl
theorem gInt_i : gInt (.int i) = some (.int i) := rfl
theorem isN_none : isN .none = true := rfl
theorem isN_int : isN (.int i) = false := rfl
theorem isN_str : isN (.str x) = false := rfl
theorem isN_bool : isN (.bool p) = false := rfl
theorem isN_tup : isN (.tuple xs) = false := rfl
theorem isN_list : isN (.list xs) = false := rfl
theorem itD_l : itD (.list xs) = some xs := rfl
theorem itD_t : itD (.tuple xs) = some xs := rfl
section
variable {es : List (PyData × PyData)}
theorem isi_int_none : isi .int .none = false := rfl
theorem isi_int_bool : isi .int (.bool p) = true := rfl
theorem isi_int_int : isi .int (.int i) = true := rfl
theorem isi_int_str : isi .int (.str x) = false := rfl
theorem isi_int_list : isi .int (.list xs) = false := rfl
theorem isi_int_tuple : isi .int (.tuple xs) = false := rfl
theorem isi_int_dict : isi .int (.dict es) = false := rfl
theorem isi_bool_none : isi .bool .none = false := rfl
theorem isi_bool_bool : isi .bool (.bool p) = true := rfl
theorem isi_bool_int : isi .bool (.int i) = false := rfl
theorem isi_bool_str : isi .bool (.str x) = false := rfl
theorem isi_bool_list : isi .bool (.list xs) = false := rfl
theorem isi_bool_tuple : isi .bool (.tuple xs) = false := rfl
theorem isi_bool_dict : isi .bool (.dict es) = false := rfl
theorem isi_str_none : isi .str .none = false := rfl
theorem isi_str_bool : isi .str (.bool p) = false := rfl
theorem isi_str_int : isi .str (.int i) = false := rfl
theorem isi_str_str : isi .str (.str x) = true := rfl
theorem isi_str_list : isi .str (.list xs) = false := rfl
theorem isi_str_tuple : isi .str (.tuple xs) = false := rfl
theorem isi_str_dict : isi .str (.dict es) = false := rfl
theorem isi_tuple_none : isi .tuple .none = false := rfl
theorem isi_tuple_bool : isi .tuple (.bool p) = false := rfl
theorem isi_tuple_int : isi .tuple (.int i) = false := rfl
theorem isi_tuple_str : isi .tuple (.str x) = false := rfl
theorem isi_tuple_list : isi .tuple (.list xs) = false := rfl
theorem isi_tuple_tuple : isi .tuple (.tuple xs) = true := rfl
theorem isi_tuple_dict : isi .tuple (.dict es) = false := rfl
theorem isi_list_none : isi .list .none = false := rfl
theorem isi_list_bool : isi .list (.bool p) = false := rfl
theorem isi_list_int : isi .list (.int i) = false := rfl
theorem isi_list_str : isi .list (.str x) = false := rfl
theorem isi_list_list : isi .list (.list xs) = true := rfl
theorem isi_list_tuple : isi .list (.tuple xs) = false := rfl
theorem isi_list_dict : isi .list (.dict es) = false := rfl
theorem isi_dict_none : isi .dict .none = false := rfl
theorem isi_dict_bool : isi .dict (.bool p) = false := rfl
theorem isi_dict_int : isi .dict (.int i) = false := rfl
theorem isi_dict_str : isi .dict (.str x) = false := rfl
theorem isi_dict_list : isi .dict (.list xs) = false := rfl
theorem isi_dict_tuple : isi .dict (.tuple xs) = false := rfl
theorem isi_dict_dict : isi .dict (.dict es) = true := rfl
end
theorem gEq_plain (h1 : d.plain = true) (h2 : e.plain = true) (h3 : d.depth ≤ 64) : gEq d e = some (.bool (PyData.eqv d e)) := by
  unfold gEq
  split
  · simp [PyData.eqv, beqd]
  · simp [PyData.eqv, beqd]
  · simp [PyData.eqv, beqd]
  · simp [PyData.eqv, PyData.eqvAll]
  · simp [PyData.eqv, PyData.eqvAll]
  · rw [if_pos (by simp [h1, h2, h3])]
theorem gNe_of {t : Bool} (h : gEq d e = some (.bool t)) : gNe d e = some (.bool !t) := by unfold gNe; rw [h]
theorem gNotInD_of {t : Bool} (h : gInD d e = some (.bool t)) : gNotInD d e = some (.bool !t) := by unfold gNotInD; rw [h]
end
/-! ### data of a kind -/
class EncF {α : Type} [DecidableEq α] (f : α → PyData) : Prop where
  eqv : ∀ a b, PyData.eqv (f a) (f b) = decide (a = b)
  plain : ∀ a, (f a).plain = true
  depth : ∀ a, (f a).depth ≤ 20
section
variable {α : Type} [DecidableEq α] {f : α → PyData} [E : EncF f] {a : α} {as bs : List α} {d : PyData}
theorem enc_plains (f : α → PyData) [E : EncF f] : ∀ as : List α, PyData.plainAll (as.map f) = true
  | [] => rfl
  | a :: as => by simp only [List.map_cons, PyData.plainAll, E.plain a, enc_plains f as, Bool.and_self]
theorem enc_depths (f : α → PyData) [E : EncF f] : ∀ as : List α, PyData.depthAll (as.map f) ≤ 20
  | [] => by simp [PyData.depthAll]
  | a :: as => by
    have := E.depth a
    have := enc_depths f as
    simp only [List.map_cons, PyData.depthAll]
    omega
theorem enc_eqvs (f : α → PyData) [E : EncF f] : ∀ as bs : List α, PyData.eqvAll (as.map f) (bs.map f) = decide (as = bs)
  | [], [] => rfl
  | [], _ :: _ => rfl
  | _ :: _, [] => rfl
  | a :: as, b :: bs => by
    simp only [List.map_cons, PyData.eqvAll, E.eqv, enc_eqvs f as bs, List.cons.injEq]
    by_cases h1 : a = b <;> by_cases h2 : as = bs <;> simp [h1, h2]
theorem enc_any (f : α → PyData) [E : EncF f] (a : α) : ∀ as : List α, ((as.map f).any fun y => PyData.eqv y (f a)) = decide (a ∈ as)
  | [] => by simp
  | b :: as => by
    simp only [List.map_cons, List.any_cons, E.eqv, enc_any f a as, List.mem_cons]
    by_cases h1 : b = a
    · simp [h1]
    · have : ¬ a = b := fun z => h1 z.symm
      simp [h1, this]
theorem enc_inT [Decidable (a ∈ as)] : gInD (f a) (.tuple (as.map f)) = some (.bool (decide (a ∈ as))) := by
  show gIn (f a) (.tuple (as.map f)) = _
  simp only [gIn]
  rw [if_pos ⟨enc_plains f as, E.plain a, Nat.le_trans (E.depth a) (by decide)⟩, enc_any]
  exact congrArg (fun b => some (PyData.bool b)) (by simp only [decide_eq_decide])
theorem enc_inL [Decidable (a ∈ as)] : gInD (f a) (.list (as.map f)) = some (.bool (decide (a ∈ as))) := by
  show gIn (f a) (.list (as.map f)) = _
  simp only [gIn]
  rw [if_pos ⟨enc_plains f as, E.plain a, Nat.le_trans (E.depth a) (by decide)⟩, enc_any]
  exact congrArg (fun b => some (PyData.bool b)) (by simp only [decide_eq_decide])
theorem enc_ninT [Decidable (a ∈ as)] : gNotInD (f a) (.tuple (as.map f)) = some (.bool !(decide (a ∈ as))) := gNotInD_of enc_inT
theorem enc_ninL [Decidable (a ∈ as)] : gNotInD (f a) (.list (as.map f)) = some (.bool !(decide (a ∈ as))) := gNotInD_of enc_inL
theorem enc_eqT [Decidable (as = bs)] : gEq (.tuple (as.map f)) (.tuple (bs.map f)) = some (.bool (decide (as = bs))) := by
  have h := enc_depths f as
  rw [gEq_plain (by simp only [PyData.plain]; exact enc_plains f as) (by simp only [PyData.plain]; exact enc_plains f bs) (by simp only [PyData.depth]; omega)]
  simp only [PyData.eqv, enc_eqvs]
  try exact congrArg (fun b => some (PyData.bool b)) (by simp only [decide_eq_decide])
theorem enc_eqL [Decidable (as = bs)] : gEq (.list (as.map f)) (.list (bs.map f)) = some (.bool (decide (as = bs))) := by
  have h := enc_depths f as
  rw [gEq_plain (by simp only [PyData.plain]; exact enc_plains f as) (by simp only [PyData.plain]; exact enc_plains f bs) (by simp only [PyData.depth]; omega)]
  simp only [PyData.eqv, enc_eqvs]
  try exact congrArg (fun b => some (PyData.bool b)) (by simp only [decide_eq_decide])
theorem enc_neT [Decidable (as = bs)] : gNe (.tuple (as.map f)) (.tuple (bs.map f)) = some (.bool !(decide (as = bs))) := gNe_of enc_eqT
theorem enc_neL [Decidable (as = bs)] : gNe (.list (as.map f)) (.list (bs.map f)) = some (.bool !(decide (as = bs))) := gNe_of enc_eqL
theorem enc_eqT0 [Decidable (as = [])] : gEq (.tuple (as.map f)) (.tuple []) = some (.bool (decide (as = []))) := enc_eqT (bs := [])
theorem enc_eqL0 [Decidable (as = [])] : gEq (.list (as.map f)) (.list []) = some (.bool (decide (as = []))) := enc_eqL (bs := [])
theorem enc_neT0 [Decidable (as = [])] : gNe (.tuple (as.map f)) (.tuple []) = some (.bool !(decide (as = []))) := gNe_of enc_eqT0
theorem enc_neL0 [Decidable (as = [])] : gNe (.list (as.map f)) (.list []) = some (.bool !(decide (as = []))) := gNe_of enc_eqL0
end
instance : EncF PyData.int := ⟨fun a b => by simp [PyData.eqv, beqd], fun _ => rfl, fun _ => by simp [PyData.depth]⟩
instance : EncF PyData.str := ⟨fun a b => by simp [PyData.eqv, beqd], fun _ => rfl, fun _ => by simp [PyData.depth]⟩
instance : EncF PyData.bool := ⟨fun a b => by simp [PyData.eqv, beqd], fun _ => rfl, fun _ => by simp [PyData.depth]⟩
def iD (ws : List Int) : PyData := .tuple (ws.map PyData.int)
instance : EncF iD := ⟨fun a b => by simp only [iD, PyData.eqv, enc_eqvs], fun a => by simp only [iD, PyData.plain, enc_plains], fun a => by
  have : ∀ ws : List Int, PyData.depthAll (ws.map PyData.int) = 0 := fun ws => by
    induction ws with
    | nil => rfl
    | cons w ws ih => simp only [List.map_cons, PyData.depthAll, PyData.depth, ih]; rfl
  simp only [iD, PyData.depth, this]; decide⟩
/-! ### loops over data of a kind -/
section
variable {σ : Sg} {h : MH} {α β : Type}
theorem compGo_enc {bind : PyData → Sg → Option Sg} {tst : Ev Bool} {elt : Ev Val} (f : α → PyData) (p : α → Bool) (g : α → PyData) : ∀ {as : List α} {acc : List PyData},
    (∀ a ∈ as, W (bind (f a) σ) fun σ2 => W (tst σ2 h) fun t => t = (p a, h) ∧ (p a = true → W (elt σ2 h) fun v => v = (.t (g a), h))) →
    compGo bind σ tst elt (as.map f) acc h = some (acc ++ (as.filter p).map g, h)
  | [], acc, _ => by simp [compGo]
  | a :: as, acc, step => by
    obtain ⟨σ2, e1, t, e2, rfl, e3⟩ := step a (by simp)
    have ih := fun {acc : List PyData} => compGo_enc f p g (as := as) (acc := acc) (bind := bind) (tst := tst) (elt := elt) fun d hd => step d (List.mem_cons_of_mem _ hd)
    cases ht : p a with
    | false =>
      rw [ht] at e2
      simp only [List.map_cons, compGo, e1, e2, ih]
      rw [List.filter_cons_of_neg (by simp [ht])]
    | true =>
      obtain ⟨v, e4, rfl⟩ := e3 ht
      rw [ht] at e2
      simp only [List.map_cons, compGo, e1, e2, e4, fz, ih]
      rw [List.filter_cons_of_pos ht]
      simp
/-- a comprehension without changes -/
theorem comp_enc {m : Bool} {it : Ev (List PyData)} {bind : PyData → Sg → Option Sg} {own : List Nat} {tst : Ev Bool} {elt : Ev Val} {P : Val × MH → Prop} {as : List α} (f : α → PyData) (p : α → Bool) (g : α → PyData)
    (hit : W (it σ h) fun q => q = (as.map f, h)) (hl : as.length ≤ 16777216)
    (step : ∀ a ∈ as, W (bind (f a) (wipeS σ own)) fun σ2 => W (tst σ2 h) fun t => t = (p a, h) ∧ (p a = true → W (elt σ2 h) fun v => v = (.t (g a), h))) :
    W (eComp m it bind own tst elt σ h) P ↔ P (mk m (.list ((as.filter p).map g)) h) := by
  obtain ⟨q, e, rfl⟩ := hit
  rw [W_eComp, e, W_some, compGo_enc f p g step, W_some]
  simp only [List.length_map, List.nil_append, sizeLine_eq, hl, true_and]
theorem comp_to {m : Bool} {it : Ev (List PyData)} {bind : PyData → Sg → Option Sg} {own : List Nat} {tst : Ev Bool} {elt : Ev Val} {P : Val × MH → Prop} {as : List α} (f : α → PyData) (p : α → Bool) (g : α → PyData)
    (hit : W (it σ h) fun q => q = (as.map f, h)) (hl : as.length ≤ 16777216)
    (step : ∀ a ∈ as, W (bind (f a) (wipeS σ own)) fun σ2 => W (tst σ2 h) fun t => t = (p a, h) ∧ (p a = true → W (elt σ2 h) fun v => v = (.t (g a), h)))
    (q : P (mk m (.list ((as.filter p).map g)) h)) : W (eComp m it bind own tst elt σ h) P := (comp_enc f p g hit hl step).mpr q
/-- what comes behind a statement -/
def Cont (b : Ex1) (PO : Out → Prop) (σ : Sg) (h : MH) : Prop := W (b σ h) PO
theorem Cont.mk {b : Ex1} {PO : Out → Prop} (q : W (b σ h) PO) : Cont b PO σ h := q
theorem Cont.set {i : Nat} {a : Ev Val} {b : Ex1} {PO : Out → Prop} (q : W (sSeq (sSet i a) b σ h) PO) : Cont (sSeq (sSet i a) b) PO σ h := q
theorem Cont.setB {i : Bd} {a : Ev Val} {b : Ex1} {PO : Out → Prop} (q : W (sSeq (sSetB i a) b σ h) PO) : Cont (sSeq (sSetB i a) b) PO σ h := q
theorem Cont.expr {a : Ev Val} {b : Ex1} {PO : Out → Prop} (q : W (sSeq (sExpr a) b σ h) PO) : Cont (sSeq (sExpr a) b) PO σ h := q
theorem Cont.ret {a : Ev Val} {b : Ex1} {PO : Out → Prop} (q : W (sSeq (sRet a) b σ h) PO) : Cont (sSeq (sRet a) b) PO σ h := q
theorem Cont.put {g : MO → PyData → PyData → Option MO} {x k e : Ev Val} {b : Ex1} {PO : Out → Prop} (q : W (sSeq (sPut g x k e) b σ h) PO) : Cont (sSeq (sPut g x k e) b) PO σ h := q
theorem Cont.for {it : Ev (List PyData)} {bd : Bd} {body b : Ex1} {PO : Out → Prop} (q : W (sSeq (sFor it bd body) b σ h) PO) : Cont (sSeq (sFor it bd body) b) PO σ h := q
theorem Cont.while {n : Nat} {t : Ev Bool} {body b : Ex1} {PO : Out → Prop} (q : W (sSeq (sWhile n t body) b σ h) PO) : Cont (sSeq (sWhile n t body) b) PO σ h := q
theorem Cont.nil {PO : Out → Prop} (q : PO (.nx σ h)) : Cont sNil PO σ h := W_sNil.mpr q
/-- an if with what comes behind it -/
theorem Cont.join {a b : Ex1} {PO : Out → Prop} (J : Sg → MH → Prop) (q1 : W (a σ h) (nxt PO J)) (q2 : ∀ σ h, J σ h → W (b σ h) PO) : Cont (sSeq a b) PO σ h :=
  W_sSeq.mpr (q1.mono fun o z => by cases o with
    | nx σ1 h1 => exact q2 σ1 h1 z
    | ct σ1 h1 => exact z
    | bk σ1 h1 => exact z
    | rt v h1 => exact z)
theorem seqC {a b : Ex1} {PO : Out → Prop} (q : W (a σ h) (nxt PO (Cont b PO))) : W (sSeq a b σ h) PO := W_sSeq.mpr q
/-- a loop that goes through -/
theorem forGo_fold {bind : PyData → Sg → Option Sg} {body : Ex1} {PO : Out → Prop} (f : α → PyData) (st : β → α → β) (I : List α → β → Sg → MH → Prop) : ∀ {as : List α} {b : β} {σ : Sg} {h : MH}, I as b σ h →
    (∀ a rem b σ h, I (a :: rem) b σ h → W (bind (f a) σ) fun σ2 => W (body σ2 h) (nxt (fun _ => False) fun σ3 h3 => I rem (st b a) σ3 h3)) →
    (∀ σ h, I [] (as.foldl st b) σ h → PO (.nx σ h)) → W (forGo bind body (as.map f) σ h) PO
  | [], b, σ, h, hi, _, fin => by simp only [List.map_nil, forGo, W_some]; exact fin σ h hi
  | a :: as, b, σ, h, hi, step, fin => by
    obtain ⟨σ2, e1, o, e2, q⟩ := step a as b σ h hi
    simp only [List.map_cons, forGo, e1, e2]
    cases o with
    | nx σ3 h3 => exact forGo_fold f st I q step fin
    | ct σ3 h3 => exact q.elim
    | bk σ3 h3 => exact q.elim
    | rt v h3 => exact q.elim
/-- a loop that may return -/
def rtP (PO : Out → Prop) : Out → Prop
  | .rt v h => PO (.rt v h)
  | _ => False
theorem rtP_rt {PO : Out → Prop} {v : Val} : rtP PO (.rt v h) = PO (.rt v h) := rfl
theorem forGo_ret {bind : PyData → Sg → Option Sg} {body : Ex1} {PO : Out → Prop} (f : α → PyData) (I : List α → Sg → MH → Prop) : ∀ {as : List α} {σ : Sg} {h : MH}, I as σ h →
    (∀ a rem σ h, I (a :: rem) σ h → W (bind (f a) σ) fun σ2 => W (body σ2 h) (nxt (rtP PO) fun σ3 h3 => I rem σ3 h3)) →
    (∀ σ h, I [] σ h → PO (.nx σ h)) → W (forGo bind body (as.map f) σ h) PO
  | [], σ, h, hi, _, fin => by simp only [List.map_nil, forGo, W_some]; exact fin σ h hi
  | a :: as, σ, h, hi, step, fin => by
    obtain ⟨σ2, e1, o, e2, q⟩ := step a as σ h hi
    simp only [List.map_cons, forGo, e1, e2]
    cases o with
    | nx σ3 h3 => exact forGo_ret f I q step fin
    | ct σ3 h3 => exact q.elim
    | bk σ3 h3 => exact q.elim
    | rt v h3 => exact W_some.mpr q
theorem whileGo_ret {t : Ev Bool} {body : Ex1} {PO : Out → Prop} (I : Nat → Sg → MH → Prop) {m n : Nat} {σ : Sg} {h : MH} (hm : n < m) (hi : I n σ h)
    (step : ∀ n σ h, I n σ h → W (t σ h) fun p => if p.1 = true then (W (body σ p.2) (nxt (rtP PO) fun σ3 h3 => ∃ k, k < n ∧ I k σ3 h3)) else PO (.nx σ p.2)) : W (sWhile m t body σ h) PO := by
  refine whileGo_W I PO hm hi fun n σ h hi => (step n σ h hi).mono fun p q => ?_
  split at q
  · rename_i hp
    rw [if_pos hp]
    refine q.mono fun o z => ?_
    cases o with
    | nx σ3 h3 => exact z
    | ct σ3 h3 => exact z.elim
    | bk σ3 h3 => exact z.elim
    | rt v h3 => exact z
  · rename_i hp
    rw [if_neg hp]
    exact q
end
/-! ### zip, enumerate -/
section
variable {σ : Sg} {h : MH} {PD : List PyData × MH → Prop}
def twoD : List PyData → Option (PyData × PyData)
  | [d, e] => some (d, e)
  | _ => none
theorem W_itZ {a b : Ev Val} : W (itZ a b σ h) PD ↔ W (aCons a (aCons b aNil) σ h) fun p => W (fzs p.2 p.1) fun q => W (twoD q.1) fun z => W (zip2 z.1 z.2) fun ds => PD (ds, q.2) := by
  unfold itZ
  rcases aCons a (aCons b aNil) σ h with _ | ⟨vs, h1⟩
  · simp only [W_none]
  simp only [W_some]
  rcases fzs h1 vs with _ | ⟨ds, h2⟩
  · simp only [W_none]
  simp only [W_some]
  match ds with
  | [] => simp only [twoD, W_none]
  | [_] => simp only [twoD, W_none]
  | [d, e] =>
    simp only [twoD, W_some]
    rcases zip2 d e with _ | xs
    · simp only [W_none]
    · simp only [W_some]
  | _ :: _ :: _ :: _ => simp only [twoD, W_none]
theorem two_some {d e : PyData} : twoD [d, e] = some (d, e) := rfl
theorem zipD_map {α β : Type} (f : α → PyData) (g : β → PyData) : ∀ (as : List α) (bs : List β), zipD (as.map f) (bs.map g) = (as.zip bs).map fun p => .tuple [f p.1, g p.2]
  | [], _ => by simp [zipD]
  | _ :: _, [] => by simp [zipD]
  | a :: as, b :: bs => by simp only [List.map_cons, zipD, zipD_map f g as bs, List.zip_cons_cons]
theorem zip2_t {α β : Type} {f : α → PyData} {g : β → PyData} {as : List α} {bs : List β} : zip2 (.tuple (as.map f)) (.tuple (bs.map g)) = some ((as.zip bs).map fun p => .tuple [f p.1, g p.2]) := by
  simp only [zip2, zipD_map]
theorem zip2_l {α β : Type} {f : α → PyData} {g : β → PyData} {as : List α} {bs : List β} : zip2 (.list (as.map f)) (.list (bs.map g)) = some ((as.zip bs).map fun p => .tuple [f p.1, g p.2]) := by
  simp only [zip2, zipD_map]
end
end DE
end
section
set_option Elab.async false
set_option linter.all false
set_option maxRecDepth 100000
set_option maxHeartbeats 4000000
/-! bodies of defs that several laws have -/
namespace LB
open PySem PySem.Spec L2 DE PyProof.Rows
def b_answer (Φ : Bool → Str → Fn) (m : Bool) : Ex1 :=
  (sSeq (sSet 2 (e1 false gDict (eV 0)))
    (sSeq (sSet 3 (e1 false gTuple (eComp false (itV (eV 1)) (bName 4) [4] (DE.tB (e2 false gNotInD (e2 false gIdx (eV 4) (eC (.int 0))) (eV 2))) (eV 4))))
    (sSeq (sIf (DE.tB (e2 false gNe (eV 3) (eTup (aList [])))) (sSeq (sRet (eTup (aList [(eC (.str "no")), (eV 3)])))
    sNil) sNil)
    (sSeq (sSet 5 (e1 false gTuple (eComp false (itV (eV 1)) (bTup [(bName 6), (bName 7)]) [6, 7] (DE.tB (e2 false gNotInD (eV 7) (e2 false gIdx (eV 2) (eV 6)))) (eTup (aList [(eV 6), (e2 false gIdx (e2 false gIdx (eV 2) (eV 6)) (eC (.int 0)))])))))
    (sSeq (sRet (eIf (DE.tB (e2 false gNe (eV 5) (eTup (aList [])))) (eTup (aList [(eC (.str "rather")), (eV 5)])) (eTup (aList [(eC (.str "yes")), (eV 1)]))))
    sNil)))))
def b__law_pen (Φ : Bool → Str → Fn) (m : Bool) : Ex1 :=
  (sSeq (sRet (eDct m ["cells", "at", "left"] (aList [(e1 false gList (eSl false (eV 0) oNone (oSome (eC (.int 63))))), (eC (.int 0)), (eC (.int 0))])))
    sNil)
def b__law_draw (Φ : Bool → Str → Fn) (m : Bool) : Ex1 :=
  (sSeq (sIf (DE.tB (e2 false gGt (e2 false gIdx (eV 0) (eC (.str "left"))) (eC (.int 0)))) (sSeq (sSet 2 (e2 false gMod (e2 false gIdx (eV 0) (eC (.str "left"))) (eV 1)))
    (sSeq (sPut gPutD (eV 0) (eC (.str "left")) (e2 false gDiv (e2 false gIdx (eV 0) (eC (.str "left"))) (eV 1)))
    (sSeq (sRet (eV 2))
    sNil))) sNil)
    (sSeq (sSet 3 (e2 false gIdx (eV 0) (eC (.str "at"))))
    (sSeq (sPut gPutD (eV 0) (eC (.str "at")) (e2 false gAdd (eV 3) (eC (.int 1))))
    (sSeq (sSet 4 (e2 false gAdd (e2 false gMul (eC (.int 1951)) (eV 3)) (eC (.int 701))))
    (sSeq (sIf (DE.tB (e2 false gNe (e2 false gIdx (eV 0) (eC (.str "cells"))) (eLst false (aList [])))) (sSeq (sSet 4 (e2 false gIdx (e2 false gIdx (eV 0) (eC (.str "cells"))) (e2 false gMod (eV 3) (e1 false gLen (e2 false gIdx (eV 0) (eC (.str "cells")))))))
    sNil) sNil)
    (sSeq (sIf (DE.tAnd (DE.tB (e2 false gLt (eV 3) (e1 false gLen (e2 false gIdx (eV 0) (eC (.str "cells")))))) (DE.tB (e2 false gGe (e1 false gAbs (eV 4)) (e2 false gPow (eC (.int 10)) (eC (.int 18)))))) (sSeq (sSet 5 (e2 false gAdd (e2 false gMul (eC (.int 2)) (e1 false gAbs (eV 4))) (e1 false gInt (e2 false gLt (eV 4) (eC (.int 0))))))
    (sSeq (sPut gPutD (eV 0) (eC (.str "left")) (e2 false gDiv (eV 5) (eV 1)))
    (sSeq (sRet (e2 m gMod (eV 5) (eV 1)))
    sNil))) sNil)
    (sSeq (sSet 6 (e2 false gMod (e2 false gPow (e2 false gAdd (e2 false gAdd (e2 false gMod (eV 4) (eC (.int 2147483563))) (e2 false gMul (eC (.int 70997)) (eV 3))) (eC (.int 79))) (eC (.int 5))) (eC (.int 2147483647))))
    (sSeq (sSet 7 (e2 false gMod (e2 false gPow (e2 false gAdd (e2 false gMul (eV 6) (e2 false gAdd (eV 3) (eC (.int 65539)))) (e2 false gMul (e2 false gMul (eC (.int 85009)) (eV 3)) (eV 3))) (eC (.int 3))) (eC (.int 2147483399))))
    (sSeq (sRet (e2 m gMod (e2 false gDiv (eV 7) (eC (.int 32))) (eV 1)))
    sNil)))))))))
def b__law_kinds (Φ : Bool → Str → Fn) (m : Bool) : Ex1 :=
  (sSeq (sSet 2 (eLst true (aList [(eC (.str "a")), (eC (.str "aa")), (eC (.str "b")), (eC (.str "ba")), (eC (.str "c")), (eC (.str "k")), (eC (.str "l")), (eC (.str "o")), (eC (.str "zz")), (eC (.str "zzzzzzzz")), (eC (.str "m")), (eC (.str "ma"))])))
    (sSeq (sRet (eComp m (itR (eV 1)) (bName 3) [3] tYes (eMethL gPopAt (eV 2) (aList [(eCall (Φ false "_law_draw") (aList [(eV 0), (e1 false gLen (eV 2))]))]))))
    sNil))
def b__law_worths (Φ : Bool → Str → Fn) (m : Bool) : Ex1 :=
  (sSeq (sSet 2 (eLst true (aList [(eC (.int 0)), (eC (.int 1)), (eC (.int 2)), (eC (.int 3)), (eC (.int 7)), (eC (.int 10)), (eC (.int 9999)), (eC (.int 5000))])))
    (sSeq (sSet 3 (eLst true (aList [])))
    (sSeq (sFor (itR (e2 false gAdd (eC (.int 1)) (eCall (Φ false "_law_draw") (aList [(eV 0), (eV 1)])))) (bName 4) (sSeq (sExpr (eMethL gAppend (eV 3) (aList [(eMethL gPopAt (eV 2) (aList [(eCall (Φ false "_law_draw") (aList [(eV 0), (e2 false gIdx (eLst false (aList [(e1 false gLen (eV 2)), (eN false gMin (aList [(eC (.int 4)), (e1 false gLen (eV 2))]))])) (eCall (Φ false "_law_draw") (aList [(eV 0), (eC (.int 2))])))]))]))])))
    sNil))
    (sSeq (sRet (e1 m gTuple (eV 3)))
    sNil))))
def b__law_wishes (Φ : Bool → Str → Fn) (m : Bool) : Ex1 :=
  (sSeq (sSet 3 (e1 true gList (eV 1)))
    (sSeq (sSet 4 (eLst true (aList [])))
    (sSeq (sWhile 100000 (DE.tB (e2 false gNe (eV 3) (eLst false (aList [])))) (sSeq (sSet 5 (eMethL gPopAt (eV 3) (aList [(eCall (Φ false "_law_draw") (aList [(eV 0), (e1 false gLen (eV 3))]))])))
    (sSeq (sSet 6 (eC .none))
    (sSeq (sIf (DE.tAnd (DE.tB (e2 false gNe (eV 4) (eLst false (aList [])))) (DE.tB (e2 false gEq (eCall (Φ false "_law_draw") (aList [(eV 0), (eC (.int 3))])) (eC (.int 0))))) (sSeq (sSet 7 (e2 false gIdx (eV 4) (eCall (Φ false "_law_draw") (aList [(eV 0), (e1 false gLen (eV 4))]))))
    (sSeq (sSet 6 (eTup (aList [(e2 false gIdx (eV 7) (eC (.int 0))), (e2 false gIdx (e2 false gAdd (e2 false gIdx (eV 7) (eC (.int 1))) (eTup (aList [(eC (.int 4))]))) (eCall (Φ false "_law_draw") (aList [(eV 0), (e2 false gAdd (e1 false gLen (e2 false gIdx (eV 7) (eC (.int 1)))) (eC (.int 1)))])))])))
    sNil)) sNil)
    (sSeq (sExpr (eMethL gAppend (eV 4) (aList [(eTup (aList [(eV 5), (eCall (Φ false "_law_worths") (aList [(eV 0), (eV 2)])), (e2 false gEq (eCall (Φ false "_law_draw") (aList [(eV 0), (eC (.int 3))])) (eC (.int 0))), (eV 6)]))])))
    sNil)))))
    (sSeq (sRet (e1 m gTuple (eV 4)))
    sNil))))
def b__law_bounds (Φ : Bool → Str → Fn) (m : Bool) : Ex1 :=
  (sSeq (sSet 3 (eLst true (aList [])))
    (sSeq (sFor (itV (eV 1)) (bName 4) (sSeq (sIf (DE.tB (e2 false gGt (eCall (Φ false "_law_draw") (aList [(eV 0), (eC (.int 5))])) (eC (.int 0)))) (sSeq (sExpr (eMethL gAppend (eV 3) (aList [(eTup (aList [(eV 4), (eCall (Φ false "_law_worths") (aList [(eV 0), (eV 2)]))]))])))
    sNil) sNil)
    sNil))
    (sSeq (sIf (DE.tB (e2 false gEq (eCall (Φ false "_law_draw") (aList [(eV 0), (eC (.int 4))])) (eC (.int 0)))) (sSeq (sExpr (eMethL gAppend (eV 3) (aList [(eTup (aList [(eC (.str "qq")), (eTup (aList [(eC (.int 1))]))]))])))
    sNil) sNil)
    (sSeq (sRet (e1 m gTuple (eV 3)))
    sNil))))
def b__law_plan (Φ : Bool → Str → Fn) (m : Bool) : Ex1 :=
  (sSeq (sSet 2 (eLst true (aList [])))
    (sSeq (sFor (itV (eV 0)) (bTup [(bName 3), (bName 4), (bName 5), (bName 6)]) (sSeq (sSet 7 (eComp false (itV (eV 4)) (bName 8) [8] (DE.tAnd (DE.tB (e2 false gNotInD (eTup (aList [(eV 3), (eV 8)])) (eV 1))) (DE.tB (e2 false gNotInD (eTup (aList [(eV 3), (e1 false gNeg (eC (.int 1)))])) (eV 1)))) (eV 8)))
    (sSeq (sExpr (eMethL gAppend (eV 2) (aList [(eTup (aList [(eV 3), (e1 false gTuple (eV 7))]))])))
    sNil)))
    (sSeq (sRet (e1 m gTuple (eV 2)))
    sNil)))
def b__law_ask (Φ : Bool → Str → Fn) (m : Bool) : Ex1 :=
  (sSeq (sSet 2 (eLst true (aList [])))
    (sSeq (sFor (itZ (eV 0) (eV 1)) (bTup [(bName 3), (bName 4)]) (sSeq (sIf (DE.tAnd (DE.tB (e2 false gNe (e2 false gIdx (eV 4) (eC (.int 1))) (eTup (aList [])))) (DE.tOr (DE.tB (e2 false gIsN (e2 false gIdx (eV 3) (eC (.int 3))) (eC .none))) (DE.tB (e2 false gInD (e2 false gIdx (eV 3) (eC (.int 3))) (eV 2))))) (sSeq (sExpr (eMethL gAppend (eV 2) (aList [(eTup (aList [(e2 false gIdx (eV 4) (eC (.int 0))), (e2 false gIdx (e2 false gIdx (eV 4) (eC (.int 1))) (eC (.int 0)))]))])))
    sNil) sNil)
    sNil))
    (sSeq (sRet (e1 m gTuple (eV 2)))
    sNil)))
def b__law_answer (Φ : Bool → Str → Fn) (m : Bool) : Ex1 :=
  (sSeq (sSet 2 (e1 false gDict (eV 0)))
    (sSeq (sSet 3 (e1 false gTuple (eComp false (itV (eV 1)) (bName 4) [4] (DE.tB (e2 false gNotInD (e2 false gIdx (eV 4) (eC (.int 0))) (eV 2))) (eV 4))))
    (sSeq (sIf (DE.tB (e2 false gNe (eV 3) (eTup (aList [])))) (sSeq (sRet (eTup (aList [(eC (.str "no")), (eV 3)])))
    sNil) sNil)
    (sSeq (sSet 5 (e1 false gTuple (eComp false (itV (eV 1)) (bTup [(bName 6), (bName 7)]) [6, 7] (DE.tB (e2 false gNotInD (eV 7) (e2 false gIdx (eV 2) (eV 6)))) (eTup (aList [(eV 6), (e2 false gIdx (e2 false gIdx (eV 2) (eV 6)) (eC (.int 0)))])))))
    (sSeq (sRet (eIf (DE.tB (e2 false gNe (eV 5) (eTup (aList [])))) (eTup (aList [(eC (.str "rather")), (eV 5)])) (eTup (aList [(eC (.str "yes")), (eV 1)]))))
    sNil)))))
def b__law_case (Φ : Bool → Str → Fn) (m : Bool) : Ex1 :=
  (sSeq (sSet 1 (eCall (Φ false "_law_draw") (aList [(eV 0), (eC (.int 5))])))
    (sSeq (sSet 2 (e2 false gIdx (eLst false (aList [(eC (.int 2)), (eC (.int 3)), (eC (.int 6))])) (eCall (Φ false "_law_draw") (aList [(eV 0), (eC (.int 3))]))))
    (sSeq (sIf (DE.tB (e2 false gEq (eCall (Φ false "_law_draw") (aList [(eV 0), (eC (.int 8))])) (eC (.int 0)))) (sSeq (sSetB (bTup [(bName 1), (bName 2)]) (eTup (aList [(eC (.int 6)), (eC (.int 6))])))
    sNil) sNil)
    (sSeq (sSet 3 (eCall (Φ false "_law_kinds") (aList [(eV 0), (eV 1)])))
    (sSeq (sSet 4 (e1 true gList (eCall (Φ false "_law_bounds") (aList [(eV 0), (eV 3), (eV 2)]))))
    (sSeq (sSet 5 (eComp false (itR (e1 false gLen (eV 4))) (bName 6) [6] tYes (eMethL gPopAt (eV 4) (aList [(eCall (Φ false "_law_draw") (aList [(eV 0), (e1 false gLen (eV 4))]))]))))
    (sSeq (sRet (eTup (aList [(eCall (Φ false "_law_wishes") (aList [(eV 0), (eV 3), (eV 2)])), (e1 false gTuple (eV 5))])))
    sNil)))))))
def b_law_12 (Φ : Bool → Str → Fn) (m : Bool) : Ex1 :=
  (sSeq (sSet 1 (eCall (Φ true "_law_pen") (aList [(eV 0)])))
    (sSeq (sFor (itR (eC (.int 4))) (bName 2) (sSeq (sSet 3 (eCall (Φ false "_law_some_wishes") (aList [(eV 1)])))
    (sSeq (sPar 4 5 (eCall (Φ false "_law_gone") (aList [(eV 1), (eV 3)])) (eCall (Φ false "_law_gone") (aList [(eV 1), (eV 3)])))
    (sSeq (sIf (DE.tOr (DE.tNot (DE.tB (eCall (Φ false "_law_plans_right") (aList [(eV 3), (eV 4), (eV 5)])))) (DE.tNot (DE.tB (eCall (Φ false "_law_plans_right") (aList [(eV 3), (eV 5), (eV 4)]))))) (sSeq (sRet (eC (.bool false)))
    sNil) sNil)
    (sSeq (sFor (itV (eTup (aList [(eTup (aList [])), (eV 4), (eV 5)]))) (bName 6) (sSeq (sIf (DE.tOr (DE.tNot (DE.tB (eCall (Φ false "_law_asks_right") (aList [(eV 3), (eV 6)])))) (DE.tNot (DE.tB (eCall (Φ false "_law_without_right") (aList [(eV 3), (eV 6)]))))) (sSeq (sRet (eC (.bool false)))
    sNil) sNil)
    sNil))
    (sSeq (sSet 7 (e1 false gTuple (eComp false (itV (eV 3)) (bTup [(bName 8), (bName 9), (bName 10), (bName 11)]) [8, 9, 10, 11] tYes (eTup (aList [(eV 8), (eV 9), (eV 10), (eC .none)])))))
    (sSeq (sIf (DE.tB (e2 false gNe (eCall (Φ false "ask_of") (aList [(eV 7), (eCall (Φ false "plan_of") (aList [(eV 7), (eC (.tuple []))]))])) (e1 false gTuple (eComp false (itV (eV 3)) (bName 12) [12] tYes (eTup (aList [(e2 false gIdx (eV 12) (eC (.int 0))), (e2 false gIdx (e2 false gIdx (eV 12) (eC (.int 1))) (eC (.int 0)))])))))) (sSeq (sRet (eC (.bool false)))
    sNil) sNil)
    (sSeq (sIf (DE.tOr (DE.tB (e2 false gNotN (eCall (Φ false "are_wishes") (aList [(eV 7)])) (eC (.bool true)))) (DE.tB (e2 false gNotN (eCall (Φ false "are_wishes") (aList [(eSl false (eV 3) oNone (oSome (eC (.int 2))))])) (eC (.bool true))))) (sSeq (sRet (eC (.bool false)))
    sNil) sNil)
    sNil))))))))
    (sSeq (sRet (eC (.bool true)))
    sNil)))
def b_is_name (Φ : Bool → Str → Fn) (m : Bool) : Ex1 :=
  (sSeq (sRet (eAnd (e1 false (fun d => some (.bool (isi .str d))) (eV 0)) (eAnd (eChain gLe gLe (eC (.int 1)) (e1 false gLen (eV 0)) (eC (.int (8)))) (e1 false gAll (eComp false (itV (eV 0)) (bName 1) [1] tYes (e2 false gInD (eV 1) (eC (.str "abcdefghijklmnopqrstuvwxyz"))))))))
    sNil)
def b_is_worth (Φ : Bool → Str → Fn) (m : Bool) : Ex1 :=
  (sSeq (sRet (eAnd (e1 false (fun d => some (.bool (isi .int d))) (eV 0)) (eAnd (eNot (e1 false (fun d => some (.bool (isi .bool d))) (eV 0))) (eChain gLe gLe (eC (.int 0)) (eV 0) (eC (.int (9999)))))))
    sNil)
def b__law_odd (Φ : Bool → Str → Fn) (m : Bool) : Ex1 :=
  (sSeq (sSet 2 (eLst false (aList [(eC .none), (eC (.bool true)), (eC (.bool false)), (eC (.int 0)), (eC (.int 1)), (e1 false gNeg (eC (.int 1))), (eC (.int 9999)), (eC (.int 10000)), (e2 false gPow (eC (.int 10)) (eC (.int 60))), (eC (.str "")), (eC (.str "a")), (eC (.str "A")), (eC (.str "a1")), (eC (.str "zzzzzzzz")), (eC (.str "aaaaaaaaa")), (eC (.str " ")), (eC (.str "~"))])))
    (sSeq (sSet 2 (e2 false gAdd (eV 2) (eLst false (aList [(eTup (aList [])), (eLst false (aList [])), (eDct false [] (aList [])), (eLst false (aList [(eV 1)])), (eTup (aList [(eV 1)])), (eTup (aList [(eC (.str "a")), (eC (.int 1))])), (eTup (aList [(eC (.str "a")), (eTup (aList [(eC (.int 1))]))])), (eTup (aList [(eC (.int 1)), (eC (.int 1))])), (eC (.str "a\n"))]))))
    (sSeq (sIf (DE.tAnd (DE.tB (e1 false (fun d => some (.bool (isi .int d))) (eV 1))) (DE.tNot (DE.tB (e1 false (fun d => some (.bool (isi .bool d))) (eV 1))))) (sSeq (sSet 2 (e2 false gAdd (eV 2) (eLst false (aList [(e2 false gAdd (eV 1) (eC (.int 1))), (e2 false gSub (eV 1) (eC (.int 1))), (e2 false gSub (e1 false gNeg (eV 1)) (eC (.int 1))), (e1 false gStr (eV 1)), (e1 false gBool (eV 1))]))))
    sNil) sNil)
    (sSeq (sIf (DE.tB (e1 false (fun d => some (.bool (isi .str d))) (eV 1))) (sSeq (sSet 2 (e2 false gAdd (eV 2) (eLst false (aList [(e2 false gAdd (eV 1) (eC (.str "a"))), (eSl false (eV 1) (oSome (eC (.int 1))) oNone), (eM0 mUpper (eV 1)), (e2 false gAdd (eV 1) (eC (.str " "))), (eTup (aList [(eV 1)])), (e2 false gMul (eV 1) (eC (.int 9)))]))))
    sNil) sNil)
    (sSeq (sIf (DE.tB (e1 false (fun d => some (.bool (isi .tuple d))) (eV 1))) (sSeq (sSet 2 (e2 false gAdd (eV 2) (eLst false (aList [(e1 false gList (eV 1)), (e2 false gAdd (eV 1) (eV 1)), (e1 false gRev (eV 1)), (e2 false gAdd (eV 1) (eTup (aList [(eC (.int 0))]))), (eSl false (eV 1) (oSome (eC (.int 1))) oNone), (e2 false gAdd (eV 1) (eSl false (eV 1) oNone (oSome (eC (.int 1)))))]))))
    sNil) sNil)
    (sSeq (sRet (e2 false gIdx (eV 2) (eCall (Φ false "_law_draw") (aList [(eV 0), (e1 false gLen (eV 2))]))))
    sNil))))))
def b__law_is_name (Φ : Bool → Str → Fn) (m : Bool) : Ex1 :=
  (sSeq (sSet 1 (eC (.str "abcdefghijklmnopqrstuvwxyz")))
    (sSeq (sRet (eAnd (e1 false (fun d => some (.bool (isi .str d))) (eV 0)) (eAnd (eChain gLt gLt (eC (.int 0)) (e1 false gLen (eV 0)) (eC (.int 9))) (e2 false gEq (eComp false (itV (eV 0)) (bName 2) [2] (DE.tB (e2 false gNotInD (eV 2) (eV 1))) (eV 2)) (eLst false (aList []))))))
    sNil))
def b__law_is_worth (Φ : Bool → Str → Fn) (m : Bool) : Ex1 :=
  (sSeq (sRet (eAnd (e1 false (fun d => some (.bool (isi .int d))) (eV 0)) (eAnd (eNot (e1 false (fun d => some (.bool (isi .bool d))) (eV 0))) (eChain gLe gLe (eC (.int 0)) (eV 0) (eC (.int 9999))))))
    sNil)
def b_is_pair_2 (Φ : Bool → Str → Fn) (m : Bool) : Ex1 :=
  (sSeq (sRet (eAnd (eCall (Φ false "is_tuple") (aList [(eV 0), (eC (.int 2)), (eC (.int 2))])) (eAnd (eCall (Φ false "is_name") (aList [(e2 false gIdx (eV 0) (eC (.int 0)))])) (eCall (Φ false "is_worth") (aList [(e2 false gIdx (eV 0) (eC (.int 1)))])))))
    sNil)
def b_are_pairs_2 (Φ : Bool → Str → Fn) (m : Bool) : Ex1 :=
  (sSeq (sRet (eAnd (e1 false (fun d => some (.bool (isi .tuple d))) (eV 0)) (e1 false gAll (eComp false (itV (eV 0)) (bName 1) [1] tYes (eCall (Φ false "is_pair") (aList [(eV 1)]))))))
    sNil)
def b_is_tuple (Φ : Bool → Str → Fn) (m : Bool) : Ex1 :=
  (sSeq (sRet (eAnd (e1 false (fun d => some (.bool (isi .tuple d))) (eV 0)) (eChain gLe gLe (eV 1) (e1 false gLen (eV 0)) (eV 2))))
    sNil)
def b_is_said (Φ : Bool → Str → Fn) (m : Bool) : Ex1 :=
  (sSeq (sRet (eAnd (eCall (Φ false "is_tuple") (aList [(eV 0), (eC (.int 2)), (eC (.int 2))])) (eAnd (e1 false (fun d => some (.bool (isi .str d))) (e2 false gIdx (eV 0) (eC (.int 0)))) (eCall (Φ false "are_pairs") (aList [(e2 false gIdx (eV 0) (eC (.int 1)))])))))
    sNil)
def b_kinds_in (Φ : Bool → Str → Fn) (m : Bool) : Ex1 :=
  (sSeq (sRet (eComp m (itV (eV 0)) (bTup [(bName 1), (bName 2)]) [1, 2] tYes (eV 1)))
    sNil)
def b_is_answer (Φ : Bool → Str → Fn) (m : Bool) : Ex1 :=
  (sSeq (sIf (DE.tNot (DE.tB (eCall (Φ false "is_said") (aList [(eV 2)])))) (sSeq (sRet (eC (.bool false)))
    sNil) sNil)
    (sSeq (sSet 3 (eCall (Φ false "answer") (aList [(eV 0), (eV 1)])))
    (sSeq (sIf (DE.tB (e2 false gNe (e2 false gIdx (eV 3) (eC (.int 0))) (eC (.str "rather")))) (sSeq (sRet (e2 false gEq (eV 2) (eV 3)))
    sNil) sNil)
    (sSeq (sSet 4 (e1 false gDict (eV 0)))
    (sSeq (sSetB (bTup [(bName 5), (bName 6)]) (eV 2))
    (sSeq (sIf (DE.tOr (DE.tB (e2 false gNe (eV 5) (eC (.str "rather")))) (DE.tB (e2 false gNe (eCall (Φ false "kinds_in") (aList [(eV 6)])) (eCall (Φ false "kinds_in") (aList [(e2 false gIdx (eV 3) (eC (.int 1)))]))))) (sSeq (sRet (eC (.bool false)))
    sNil) sNil)
    (sSeq (sRet (e1 m gAll (eComp false (itV (eV 6)) (bTup [(bName 7), (bName 8)]) [7, 8] tYes (e2 false gInD (eV 8) (e2 false gIdx (eV 4) (eV 7))))))
    sNil)))))))
def b__law_freely (Φ : Bool → Str → Fn) (m : Bool) : Ex1 :=
  (sSeq (sSetB (bTup [(bName 3), (bName 4)]) (eCall (Φ false "_law_answer") (aList [(eV 1), (eV 2)])))
    (sSeq (sIf (DE.tB (e2 false gEq (eV 3) (eC (.str "rather")))) (sSeq (sSet 5 (e1 false gDict (eV 1)))
    (sSeq (sSet 4 (e1 false gTuple (eComp false (itV (eV 4)) (bTup [(bName 6), (bName 7)]) [6, 7] tYes (eTup (aList [(eV 6), (e2 false gIdx (e2 false gIdx (eV 5) (eV 6)) (eCall (Φ false "_law_draw") (aList [(eV 0), (e1 false gLen (e2 false gIdx (eV 5) (eV 6)))])))])))))
    sNil)) sNil)
    (sSeq (sRet (eTup (aList [(eV 3), (eV 4)])))
    sNil)))
def b__law_bent (Φ : Bool → Str → Fn) (m : Bool) : Ex1 :=
  (sSeq (sSet 2 (eCall (Φ false "_law_draw") (aList [(eV 0), (eC (.int 12))])))
    (sSeq (sIf (DE.tAnd (DE.tB (e1 false (fun d => some (.bool (isi .tuple d))) (eV 1))) (DE.tAnd (DE.tB (e2 false gNe (eV 1) (eTup (aList [])))) (DE.tB (e2 false gGt (eV 2) (eC (.int 1)))))) (sSeq (sSet 3 (eCall (Φ false "_law_draw") (aList [(eV 0), (e1 false gLen (eV 1))])))
    (sSeq (sIf (DE.tB (e2 false gLt (eV 2) (eC (.int 8)))) (sSeq (sRet (e2 m gAdd (e2 false gAdd (eSl false (eV 1) oNone (oSome (eV 3))) (eTup (aList [(eCall (Φ false "_law_bent") (aList [(eV 0), (e2 false gIdx (eV 1) (eV 3))]))]))) (eSl false (eV 1) (oSome (e2 false gAdd (eV 3) (eC (.int 1)))) oNone)))
    sNil) sNil)
    (sSeq (sSet 4 (eLst false (aList [(e2 false gAdd (eSl false (eV 1) oNone (oSome (eV 3))) (eSl false (eV 1) (oSome (e2 false gAdd (eV 3) (eC (.int 1)))) oNone)), (e2 false gAdd (eSl false (eV 1) oNone (oSome (e2 false gAdd (eV 3) (eC (.int 1))))) (eSl false (eV 1) (oSome (eV 3)) oNone)), (e1 false gRev (eV 1)), (e2 false gAdd (eSl false (eV 1) (oSome (eV 3)) oNone) (eSl false (eV 1) oNone (oSome (eV 3))))])))
    (sSeq (sRet (e2 false gIdx (eV 4) (e2 false gSub (eV 2) (eC (.int 8)))))
    sNil)))) sNil)
    (sSeq (sSet 5 (eLst false (aList [(eC .none), (eC (.bool true)), (eC (.bool false)), (eC (.int 0)), (eC (.int 1)), (eC (.int 2)), (eC (.int 9999)), (eC (.int 10000)), (e1 false gNeg (eC (.int 1))), (eC (.str "")), (eC (.str "a")), (eC (.str "A")), (eC (.str "yes")), (eC (.str "no")), (eC (.str "rather")), (eTup (aList [])), (eLst false (aList [])), (eDct false [] (aList [])), (eTup (aList [(eC (.str "a")), (eC (.int 1))]))])))
    (sSeq (sSet 5 (e2 false gAdd (eV 5) (eLst false (aList [(eTup (aList [(eTup (aList [(eC (.str "a")), (eC (.int 1))]))])), (eLst false (aList [(eV 1)])), (eTup (aList [(eV 1)])), (eTup (aList [(eV 1), (eV 1)])), (eC (.str "zz")), (e2 false gPow (eC (.int 10)) (eC (.int 60)))]))))
    (sSeq (sIf (DE.tB (e1 false (fun d => some (.bool (isi .tuple d))) (eV 1))) (sSeq (sSet 5 (e2 false gAdd (eV 5) (eLst false (aList [(e1 false gList (eV 1)), (e2 false gAdd (eV 1) (eTup (aList [(eTup (aList [(eC (.str "yy")), (eC (.int 3))]))]))), (e2 false gAdd (eV 1) (eTup (aList [(eTup (aList [(eC (.str "yy")), (eC (.int 3)), (eC (.int 3))]))])))]))))
    sNil) sNil)
    (sSeq (sIf (DE.tAnd (DE.tB (e1 false (fun d => some (.bool (isi .int d))) (eV 1))) (DE.tNot (DE.tB (e1 false (fun d => some (.bool (isi .bool d))) (eV 1))))) (sSeq (sSet 5 (e2 false gAdd (eV 5) (eLst false (aList [(e2 false gAdd (eV 1) (eC (.int 1))), (e2 false gSub (eV 1) (eC (.int 1))), (e2 false gEq (eV 1) (eC (.int 1))), (e1 false gStr (eV 1)), (eTup (aList [(eV 1)]))]))))
    sNil) sNil)
    (sSeq (sIf (DE.tB (e1 false (fun d => some (.bool (isi .str d))) (eV 1))) (sSeq (sSet 5 (e2 false gAdd (eV 5) (eLst false (aList [(e2 false gAdd (eV 1) (eC (.str "a"))), (eSl false (eV 1) (oSome (eC (.int 1))) oNone), (eM0 mUpper (eV 1)), (eLst false (aList [(eV 1)]))]))))
    sNil) sNil)
    (sSeq (sRet (e2 false gIdx (eV 5) (eCall (Φ false "_law_draw") (aList [(eV 0), (e1 false gLen (eV 5))]))))
    sNil))))))))
def b__law_bent_3 (Φ : Bool → Str → Fn) (m : Bool) : Ex1 :=
  (sSeq (sSet 2 (eCall (Φ false "_law_draw") (aList [(eV 0), (eC (.int 12))])))
    (sSeq (sIf (DE.tAnd (DE.tB (e1 false (fun d => some (.bool (isi .tuple d))) (eV 1))) (DE.tAnd (DE.tB (e2 false gNe (eV 1) (eTup (aList [])))) (DE.tB (e2 false gGt (eV 2) (eC (.int 0)))))) (sSeq (sSet 3 (eCall (Φ false "_law_draw") (aList [(eV 0), (e1 false gLen (eV 1))])))
    (sSeq (sIf (DE.tB (e2 false gLt (eV 2) (eC (.int 8)))) (sSeq (sRet (e2 m gAdd (e2 false gAdd (eSl false (eV 1) oNone (oSome (eV 3))) (eTup (aList [(eCall (Φ false "_law_bent") (aList [(eV 0), (e2 false gIdx (eV 1) (eV 3))]))]))) (eSl false (eV 1) (oSome (e2 false gAdd (eV 3) (eC (.int 1)))) oNone)))
    sNil) sNil)
    (sSeq (sSet 4 (eLst false (aList [(e2 false gAdd (eSl false (eV 1) oNone (oSome (eV 3))) (eSl false (eV 1) (oSome (e2 false gAdd (eV 3) (eC (.int 1)))) oNone)), (e2 false gAdd (eSl false (eV 1) oNone (oSome (e2 false gAdd (eV 3) (eC (.int 1))))) (eSl false (eV 1) (oSome (eV 3)) oNone)), (e1 false gRev (eV 1)), (e2 false gAdd (eSl false (eV 1) (oSome (eV 3)) oNone) (eSl false (eV 1) oNone (oSome (eV 3))))])))
    (sSeq (sRet (e2 false gIdx (eV 4) (e2 false gSub (eV 2) (eC (.int 8)))))
    sNil)))) sNil)
    (sSeq (sRet (eCall (Φ m "_law_odd") (aList [(eV 0), (eV 1)])))
    sNil)))
def b__law_are_pairs (Φ : Bool → Str → Fn) (m : Bool) : Ex1 :=
  (sSeq (sIf (DE.tNot (DE.tB (e1 false (fun d => some (.bool (isi .tuple d))) (eV 0)))) (sSeq (sRet (eC (.bool false)))
    sNil) sNil)
    (sSeq (sFor (itV (eV 0)) (bName 1) (sSeq (sIf (DE.tOr (DE.tNot (DE.tB (e1 false (fun d => some (.bool (isi .tuple d))) (eV 1)))) (DE.tOr (DE.tB (e2 false gNe (e1 false gLen (eV 1)) (eC (.int 2)))) (DE.tOr (DE.tNot (DE.tB (e1 false (fun d => some (.bool (isi .str d))) (e2 false gIdx (eV 1) (eC (.int 0)))))) (DE.tNot (DE.tB (eChain gLe gLe (eC (.int 1)) (e1 false gLen (e2 false gIdx (eV 1) (eC (.int 0)))) (eC (.int 8)))))))) (sSeq (sRet (eC (.bool false)))
    sNil) sNil)
    (sSeq (sIf (DE.tB (e2 false gNe (eComp false (itV (e2 false gIdx (eV 1) (eC (.int 0)))) (bName 2) [2] (DE.tB (e2 false gNotInD (eV 2) (eC (.str "abcdefghijklmnopqrstuvwxyz")))) (eV 2)) (eLst false (aList [])))) (sSeq (sRet (eC (.bool false)))
    sNil) sNil)
    (sSeq (sIf (DE.tOr (DE.tNot (DE.tB (e1 false (fun d => some (.bool (isi .int d))) (e2 false gIdx (eV 1) (eC (.int 1)))))) (DE.tOr (DE.tB (e1 false (fun d => some (.bool (isi .bool d))) (e2 false gIdx (eV 1) (eC (.int 1))))) (DE.tNot (DE.tB (eChain gLe gLe (eC (.int 0)) (e2 false gIdx (eV 1) (eC (.int 1))) (eC (.int 9999))))))) (sSeq (sRet (eC (.bool false)))
    sNil) sNil)
    sNil))))
    (sSeq (sRet (eC (.bool true)))
    sNil)))
def b__law_is_said (Φ : Bool → Str → Fn) (m : Bool) : Ex1 :=
  (sSeq (sIf (DE.tOr (DE.tNot (DE.tB (e1 false (fun d => some (.bool (isi .tuple d))) (eV 0)))) (DE.tOr (DE.tB (e2 false gNe (e1 false gLen (eV 0)) (eC (.int 2)))) (DE.tNot (DE.tB (e1 false (fun d => some (.bool (isi .str d))) (e2 false gIdx (eV 0) (eC (.int 0)))))))) (sSeq (sRet (eC (.bool false)))
    sNil) sNil)
    (sSeq (sRet (eCall (Φ m "_law_are_pairs") (aList [(e2 false gIdx (eV 0) (eC (.int 1)))])))
    sNil))
def b__law_is_answer (Φ : Bool → Str → Fn) (m : Bool) : Ex1 :=
  (sSeq (sSet 3 (eCall (Φ false "_law_answer") (aList [(eV 0), (eV 1)])))
    (sSeq (sIf (DE.tOr (DE.tNot (DE.tB (eCall (Φ false "_law_is_said") (aList [(eV 2)])))) (DE.tB (e2 false gNe (e2 false gIdx (eV 2) (eC (.int 0))) (e2 false gIdx (eV 3) (eC (.int 0)))))) (sSeq (sRet (eC (.bool false)))
    sNil) sNil)
    (sSeq (sIf (DE.tB (e2 false gNe (e2 false gIdx (eV 3) (eC (.int 0))) (eC (.str "rather")))) (sSeq (sRet (e2 false gEq (e2 false gIdx (eV 2) (eC (.int 1))) (e2 false gIdx (eV 3) (eC (.int 1)))))
    sNil) sNil)
    (sSeq (sSet 4 (e1 false gDict (eV 0)))
    (sSeq (sIf (DE.tB (e2 false gNe (eComp false (itV (e2 false gIdx (eV 2) (eC (.int 1)))) (bTup [(bName 5), (bName 6)]) [5, 6] tYes (eV 5)) (eComp false (itV (e2 false gIdx (eV 3) (eC (.int 1)))) (bTup [(bName 5), (bName 6)]) [5, 6] tYes (eV 5)))) (sSeq (sRet (eC (.bool false)))
    sNil) sNil)
    (sSeq (sRet (e2 false gEq (eComp false (itV (e2 false gIdx (eV 2) (eC (.int 1)))) (bName 7) [7] (DE.tB (e2 false gNotInD (e2 false gIdx (eV 7) (eC (.int 1))) (e2 false gIdx (eV 4) (e2 false gIdx (eV 7) (eC (.int 0)))))) (eV 7)) (eLst false (aList []))))
    sNil))))))
def b_ask_of (Φ : Bool → Str → Fn) (m : Bool) : Ex1 :=
  (sSeq (sSet 2 (eLst true (aList [])))
    (sSeq (sFor (itZ (eV 0) (eV 1)) (bTup [(bTup [(bName 3), (bName 4), (bName 5), (bName 6)]), (bTup [(bName 7), (bName 8)])]) (sSeq (sIf (DE.tAnd (DE.tB (e2 false gNe (eV 8) (eTup (aList [])))) (DE.tOr (DE.tB (e2 false gIsN (eV 6) (eC .none))) (DE.tB (e2 false gInD (eV 6) (eV 2))))) (sSeq (sExpr (eMethL gAppend (eV 2) (aList [(eTup (aList [(eV 3), (e2 false gIdx (eV 8) (eC (.int 0)))]))])))
    sNil) sNil)
    sNil))
    (sSeq (sRet (e1 m gTuple (eV 2)))
    sNil)))
def b_are_refusals (Φ : Bool → Str → Fn) (m : Bool) : Ex1 :=
  (sSeq (sSet 3 (eCall (Φ false "kinds_in") (aList [(eV 2)])))
    (sSeq (sIf (DE.tOr (DE.tB (e2 false gEq (eV 1) (eTup (aList [])))) (DE.tNot (DE.tB (e1 false gAll (eComp false (itV (eCall (Φ false "kinds_in") (aList [(eV 1)]))) (bName 4) [4] tYes (e2 false gInD (eV 4) (eV 3))))))) (sSeq (sRet (eC (.bool false)))
    sNil) sNil)
    (sSeq (sSet 5 (eComp false (itV (eCall (Φ false "kinds_in") (aList [(eV 1)]))) (bName 4) [4] tYes (eMethQ gIndex (eV 3) (eV 4))))
    (sSeq (sIf (DE.tNot (DE.tB (e1 false gAll (eComp false (itZ (eV 5) (eSl false (eV 5) (oSome (eC (.int 1))) oNone)) (bTup [(bName 6), (bName 7)]) [6, 7] tYes (e2 false gLt (eV 6) (eV 7)))))) (sSeq (sRet (eC (.bool false)))
    sNil) sNil)
    (sSeq (sRet (e1 m gAll (eComp false (itV (eV 1)) (bName 8) [8] tYes (e2 false gEq (e2 false gInD (eV 8) (eV 2)) (e2 false gEq (eV 0) (eC (.str "no")))))))
    sNil)))))
def b_left_behind (Φ : Bool → Str → Fn) (m : Bool) : Ex1 :=
  (sSeq (sIf (DE.tB (e2 false gEq (eV 0) (eC (.str "no")))) (sSeq (sRet (eTup (aList [])))
    sNil) sNil)
    (sSeq (sSet 3 (eSl false (eV 2) (oSome (eC (.int 1))) oNone))
    (sSeq (sIf (DE.tB (e2 false gNotInD (eV 1) (eV 3))) (sSeq (sRet (eV 3))
    sNil) sNil)
    (sSeq (sRet (e2 m gAdd (eTup (aList [(eV 1)])) (e1 false gTuple (eComp false (itV (eV 3)) (bName 4) [4] (DE.tB (e2 false gNe (eV 4) (eV 1))) (eV 4)))))
    sNil))))
def b_behind (Φ : Bool → Str → Fn) (m : Bool) : Ex1 :=
  (sSeq (sIf (DE.tNot (DE.tB (eCall (Φ false "is_said") (aList [(eV 2)])))) (sSeq (sRet (eC .none))
    sNil) sNil)
    (sSeq (sSetB (bTup [(bName 3), (bName 4)]) (eV 2))
    (sSeq (sSet 5 (eCall (Φ false "ask_of") (aList [(eV 0), (eV 1)])))
    (sSeq (sIf (DE.tB (e2 false gEq (eV 3) (eC (.str "yes")))) (sSeq (sRet (eIf (DE.tB (e2 false gEq (eV 4) (eV 5))) (eTup (aList [(eC (.str "agreed")), (eV 5)])) (eC .none)))
    sNil) sNil)
    (sSeq (sIf (DE.tOr (DE.tB (e2 false gNotInD (eV 3) (eTup (aList [(eC (.str "no")), (eC (.str "rather"))])))) (DE.tNot (DE.tB (eCall (Φ false "are_refusals") (aList [(eV 3), (eV 4), (eV 5)]))))) (sSeq (sRet (eC .none))
    sNil) sNil)
    (sSeq (sSet 6 (e1 true gDict (eV 1)))
    (sSeq (sExpr (eMethD gUpdate (eV 6) (aList [(eDComp false (itV (eV 4)) (bTup [(bName 7), (bName 8)]) [7, 8] tYes (eV 7) (eCall (Φ false "left_behind") (aList [(eV 3), (eV 8), (e2 false gIdx (eV 6) (eV 7))])))])))
    (sSeq (sSet 9 (eComp false (itV (eV 0)) (bTup [(bName 7), (bName 10), (bName 11), (bName 12)]) [7, 10, 11, 12] (DE.tAnd (DE.tB (eV 11)) (DE.tB (e2 false gEq (e2 false gIdx (eV 6) (eV 7)) (eTup (aList []))))) (eV 7)))
    (sSeq (sIf (DE.tB (e2 false gNe (eV 9) (eLst false (aList [])))) (sSeq (sRet (eTup (aList [(eC (.str "failed")), (e2 false gIdx (eV 9) (eC (.int 0)))])))
    sNil) sNil)
    (sSeq (sSet 13 (e1 false gDict (eV 5)))
    (sSeq (sSet 14 (e1 false gSorted (eComp false (itV (eV 4)) (bTup [(bName 7), (bName 8)]) [7, 8] tYes (eTup (aList [(eV 7), (eIf (DE.tB (e2 false gEq (eV 3) (eC (.str "no")))) (eC (.int (-1))) (e2 false gIdx (eV 13) (eV 7)))])))))
    (sSeq (sRet (eTup (aList [(eC (.str "plan")), (e1 false gTuple (eComp false (itV (eV 1)) (bTup [(bName 7), (bName 15)]) [7, 15] tYes (eTup (aList [(eV 7), (e2 false gIdx (eV 6) (eV 7))])))), (e1 false gTuple (eV 14))])))
    sNil))))))))))))
def b__law_behind (Φ : Bool → Str → Fn) (m : Bool) : Ex1 :=
  (sSeq (sSet 4 (eCall (Φ false "_law_ask") (aList [(eV 0), (eV 1)])))
    (sSeq (sIf (DE.tB (e2 false gEq (eV 2) (eC (.str "yes")))) (sSeq (sRet (eIf (DE.tB (e2 false gEq (eV 3) (eV 4))) (eTup (aList [(eC (.str "agreed")), (eV 4)])) (eC .none)))
    sNil) sNil)
    (sSeq (sSet 5 (eComp false (itV (eV 3)) (bTup [(bName 7), (bName 8)]) [7, 8] tYes (eIf (DE.tB (e2 false gInD (eV 7) (e1 false gDict (eV 4)))) (eMethQ gIndex (eComp false (itV (eV 4)) (bName 6) [6] tYes (e2 false gIdx (eV 6) (eC (.int 0)))) (eV 7)) (e1 false gNeg (eC (.int 1))))))
    (sSeq (sIf (DE.tOr (DE.tB (e2 false gNotInD (eV 2) (eTup (aList [(eC (.str "no")), (eC (.str "rather"))])))) (DE.tOr (DE.tB (e2 false gEq (eV 3) (eTup (aList [])))) (DE.tOr (DE.tB (e2 false gNe (eV 5) (e1 false (gSetX Ss.sorted) (eV 5)))) (DE.tB (e2 false gLt (e2 false gIdx (eV 5) (eC (.int 0))) (eC (.int 0))))))) (sSeq (sRet (eC .none))
    sNil) sNil)
    (sSeq (sIf (DE.tB (e2 false gNe (eComp false (itV (eV 3)) (bName 6) [6] (DE.tB (e2 false gNe (e2 false gInD (eV 6) (eV 4)) (e2 false gEq (eV 2) (eC (.str "no"))))) (eV 6)) (eLst false (aList [])))) (sSeq (sRet (eC .none))
    sNil) sNil)
    (sSeq (sSet 9 (e1 true gDict (eV 1)))
    (sSeq (sSet 10 (eLst true (aList [])))
    (sSeq (sFor (itV (eV 3)) (bTup [(bName 7), (bName 8)]) (sSeq (sExpr (eMethL gAppend (eV 10) (aList [(eTup (aList [(eV 7), (eIf (DE.tB (e2 false gEq (eV 2) (eC (.str "rather")))) (e2 false gIdx (e1 false gDict (eV 4)) (eV 7)) (e1 false gNeg (eC (.int 1))))]))])))
    (sSeq (sSet 11 (eComp false (itV (eSl false (e2 false gIdx (eV 9) (eV 7)) (oSome (eC (.int 1))) oNone)) (bName 12) [12] (DE.tB (e2 false gEq (eV 2) (eC (.str "rather")))) (eV 12)))
    (sSeq (sIf (DE.tB (e2 false gInD (eV 8) (eV 11))) (sSeq (sSet 11 (e2 false gAdd (eLst false (aList [(eV 8)])) (eComp false (itV (eV 11)) (bName 12) [12] (DE.tB (e2 false gNe (eV 12) (eV 8))) (eV 12))))
    sNil) sNil)
    (sSeq (sPut gPutD (eV 9) (eV 7) (e1 false gTuple (eV 11)))
    (sSeq (sIf (DE.tAnd (DE.tB (e2 false gEq (eV 11) (eLst false (aList [])))) (DE.tB (e2 false gNe (eComp false (itV (eV 0)) (bName 13) [13] (DE.tAnd (DE.tB (e2 false gEq (e2 false gIdx (eV 13) (eC (.int 0))) (eV 7))) (DE.tB (e2 false gIdx (eV 13) (eC (.int 2))))) (eV 13)) (eLst false (aList []))))) (sSeq (sRet (eTup (aList [(eC (.str "failed")), (eV 7)])))
    sNil) sNil)
    sNil))))))
    (sSeq (sRet (eTup (aList [(eC (.str "plan")), (e1 false gTuple (eComp false (itV (eV 1)) (bTup [(bName 7), (bName 12)]) [7, 12] tYes (eTup (aList [(eV 7), (e2 false gIdx (eV 9) (eV 7))])))), (e1 false gTuple (e1 false gSorted (eV 10)))])))
    sNil)))))))))
def b__law_told (Φ : Bool → Str → Fn) (m : Bool) : Ex1 :=
  (sSeq (sSet 4 (eCall (Φ false "_law_draw") (aList [(eV 0), (eC (.int 4))])))
    (sSeq (sSet 5 (eComp false (itV (eV 3)) (bName 6) [6] (DE.tB (e2 false gGt (eCall (Φ false "_law_draw") (aList [(eV 0), (eC (.int 3))])) (eC (.int 0)))) (eV 6)))
    (sSeq (sIf (DE.tOr (DE.tB (e2 false gLt (eV 4) (eC (.int 2)))) (DE.tB (e2 false gEq (eV 5) (eLst false (aList []))))) (sSeq (sRet (eCall (Φ m "_law_freely") (aList [(eV 0), (eV 1), (eV 3)])))
    sNil) sNil)
    (sSeq (sIf (DE.tB (e2 false gEq (eV 4) (eC (.int 2)))) (sSeq (sRet (eTup (aList [(eC (.str "no")), (e1 false gTuple (eSl false (eV 5) oNone (oSome (e2 false gAdd (eC (.int 1)) (eCall (Φ false "_law_draw") (aList [(eV 0), (eC (.int 2))]))))))])))
    sNil) sNil)
    (sSeq (sSet 7 (eLst true (aList [])))
    (sSeq (sFor (itV (eV 5)) (bTup [(bName 8), (bName 9)]) (sSeq (sSet 10 (eComp false (itV (e2 false gAdd (e2 false gIdx (e1 false gDict (eV 2)) (eV 8)) (eTup (aList [(eC (.int 4444))])))) (bName 11) [11] (DE.tB (e2 false gNe (eV 11) (eV 9))) (eV 11)))
    (sSeq (sExpr (eMethL gAppend (eV 7) (aList [(eTup (aList [(eV 8), (e2 false gIdx (eV 10) (e2 false gIdx (eLst false (aList [(eC (.int 0)), (e1 false gNeg (eC (.int 1))), (eCall (Φ false "_law_draw") (aList [(eV 0), (e1 false gLen (eV 10))]))])) (eCall (Φ false "_law_draw") (aList [(eV 0), (eC (.int 3))]))))]))])))
    sNil)))
    (sSeq (sRet (eTup (aList [(eC (.str "rather")), (e1 false gTuple (eV 7))])))
    sNil)))))))
def b_left_of (Φ : Bool → Str → Fn) (m : Bool) : Ex1 :=
  (sSeq (sIf (DE.tB (e2 false gInD (eTup (aList [(eV 0), (eC (.int (-1)))])) (eV 2))) (sSeq (sRet (eTup (aList [])))
    sNil) sNil)
    (sSeq (sRet (e1 m gTuple (eComp false (itV (eV 1)) (bName 3) [3] (DE.tB (e2 false gNotInD (eTup (aList [(eV 0), (eV 3)])) (eV 2))) (eV 3))))
    sNil))
def b_plan_of (Φ : Bool → Str → Fn) (m : Bool) : Ex1 :=
  (sSeq (sRet (e1 m gTuple (eComp false (itV (eV 0)) (bTup [(bName 2), (bName 3), (bName 4), (bName 5)]) [2, 3, 4, 5] tYes (eTup (aList [(eV 2), (eCall (Φ false "left_of") (aList [(eV 2), (eV 3), (eV 1)]))])))))
    sNil)
def b_course_2 (Φ : Bool → Str → Fn) (m : Bool) : Ex1 :=
  (sSeq (sSet 2 (eCall (Φ false "plan_of") (aList [(eV 0), (eC (.tuple []))])))
    (sSeq (sSet 3 (eLst true (aList [])))
    (sSeq (sWhile 100000 (DE.tB (eC (.bool true))) (sSeq (sSet 4 (eCall (Φ false "ask_of") (aList [(eV 0), (eV 2)])))
    (sSeq (sSet 5 (eCall (Φ false "answer") (aList [(eV 1), (eV 4)])))
    (sSeq (sExpr (eMethL gAppend (eV 3) (aList [(eTup (aList [(eV 4), (eV 5)]))])))
    (sSeq (sSet 6 (eCall (Φ false "behind") (aList [(eV 0), (eV 2), (eV 5)])))
    (sSeq (sIf (DE.tB (e2 false gNe (e2 false gIdx (eV 6) (eC (.int 0))) (eC (.str "plan")))) (sSeq (sRet (e2 m gAdd (eV 6) (eTup (aList [(eV 3)]))))
    sNil) sNil)
    (sSeq (sSet 2 (e2 false gIdx (eV 6) (eC (.int 1))))
    sNil)))))))
    sNil)))
def b_is_step (Φ : Bool → Str → Fn) (m : Bool) : Ex1 :=
  (sSeq (sIf (DE.tNot (DE.tB (eCall (Φ false "is_tuple") (aList [(eV 2), (eC (.int 2)), (eC (.int 2))])))) (sSeq (sRet (eC (.bool false)))
    sNil) sNil)
    (sSeq (sRet (eAnd (eCall (Φ false "are_pairs") (aList [(e2 false gIdx (eV 2) (eC (.int 0)))])) (eAnd (e2 false gEq (e2 false gIdx (eV 2) (eC (.int 0))) (eV 1)) (eCall (Φ false "is_answer") (aList [(eV 0), (eV 1), (e2 false gIdx (eV 2) (eC (.int 1)))])))))
    sNil))
def b_comes_to_2 (Φ : Bool → Str → Fn) (m : Bool) : Ex1 :=
  (sSeq (sIf (DE.tNot (DE.tB (e1 false (fun d => some (.bool (isi .list d))) (eV 2)))) (sSeq (sRet (eC .none))
    sNil) sNil)
    (sSeq (sSet 3 (eCall (Φ false "plan_of") (aList [(eV 0), (eC (.tuple []))])))
    (sSeq (sSet 4 (eC .none))
    (sSeq (sFor (itV (eV 2)) (bName 5) (sSeq (sIf (DE.tOr (DE.tB (e2 false gIsN (eV 3) (eC .none))) (DE.tNot (DE.tB (eCall (Φ false "is_step") (aList [(eV 1), (eCall (Φ false "ask_of") (aList [(eV 0), (eV 3)])), (eV 5)]))))) (sSeq (sRet (eC .none))
    sNil) sNil)
    (sSeq (sSet 4 (eCall (Φ false "behind") (aList [(eV 0), (eV 3), (e2 false gIdx (eV 5) (eC (.int 1)))])))
    (sSeq (sSet 3 (eIf (DE.tB (e2 false gEq (e2 false gIdx (eV 4) (eC (.int 0))) (eC (.str "plan")))) (e2 false gIdx (eV 4) (eC (.int 1))) (eC .none)))
    sNil))))
    (sSeq (sRet (eIf (DE.tB (e2 false gIsN (eV 3) (eC .none))) (eV 4) (eC .none)))
    sNil)))))
def b__law_course (Φ : Bool → Str → Fn) (m : Bool) : Ex1 :=
  (sSeq (sSet 3 (eCall (Φ false "_law_plan") (aList [(eV 1), (eTup (aList []))])))
    (sSeq (sSet 4 (eLst true (aList [])))
    (sSeq (sFor (itR (eC (.int 40))) (bName 5) (sSeq (sSet 6 (eCall (Φ false "_law_ask") (aList [(eV 1), (eV 3)])))
    (sSeq (sSet 7 (eCall (Φ false "_law_freely") (aList [(eV 0), (eV 2), (eV 6)])))
    (sSeq (sExpr (eMethL gAppend (eV 4) (aList [(eTup (aList [(eV 6), (eV 7)]))])))
    (sSeq (sSet 8 (eCall (Φ false "_law_behind") (aList [(eV 1), (eV 3), (e2 false gIdx (eV 7) (eC (.int 0))), (e2 false gIdx (eV 7) (eC (.int 1)))])))
    (sSeq (sIf (DE.tB (e2 false gNe (e2 false gIdx (eV 8) (eC (.int 0))) (eC (.str "plan")))) (sSeq (sRet (eTup (aList [(eV 4), (eV 8)])))
    sNil) sNil)
    (sSeq (sSet 3 (e2 false gIdx (eV 8) (eC (.int 1))))
    sNil)))))))
    (sSeq (sRet (eTup (aList [(eV 4), (eC .none)])))
    sNil))))
def b__law_due (Φ : Bool → Str → Fn) (m : Bool) : Ex1 :=
  (sSeq (sIf (DE.tOr (DE.tNot (DE.tB (e1 false (fun d => some (.bool (isi .list d))) (eV 2)))) (DE.tB (e2 false gEq (eV 2) (eLst false (aList []))))) (sSeq (sRet (eC .none))
    sNil) sNil)
    (sSeq (sSet 3 (eCall (Φ false "_law_plan") (aList [(eV 0), (eTup (aList []))])))
    (sSeq (sFor (itE (eV 2)) (bTup [(bName 4), (bName 5)]) (sSeq (sIf (DE.tOr (DE.tNot (DE.tB (e1 false (fun d => some (.bool (isi .tuple d))) (eV 5)))) (DE.tOr (DE.tB (e2 false gNe (e1 false gLen (eV 5)) (eC (.int 2)))) (DE.tNot (DE.tB (eCall (Φ false "_law_are_pairs") (aList [(e2 false gIdx (eV 5) (eC (.int 0)))])))))) (sSeq (sRet (eC .none))
    sNil) sNil)
    (sSeq (sSet 6 (eCall (Φ false "_law_ask") (aList [(eV 0), (eV 3)])))
    (sSeq (sIf (DE.tOr (DE.tB (e2 false gNe (e2 false gIdx (eV 5) (eC (.int 0))) (eV 6))) (DE.tNot (DE.tB (eCall (Φ false "_law_is_answer") (aList [(eV 1), (eV 6), (e2 false gIdx (eV 5) (eC (.int 1)))]))))) (sSeq (sRet (eC .none))
    sNil) sNil)
    (sSeq (sSet 7 (eCall (Φ false "_law_behind") (aList [(eV 0), (eV 3), (e2 false gIdx (e2 false gIdx (eV 5) (eC (.int 1))) (eC (.int 0))), (e2 false gIdx (e2 false gIdx (eV 5) (eC (.int 1))) (eC (.int 1)))])))
    (sSeq (sIf (DE.tB (e2 false gNe (e2 false gEq (e2 false gIdx (eV 7) (eC (.int 0))) (eC (.str "plan"))) (e2 false gLt (e2 false gAdd (eV 4) (eC (.int 1))) (e1 false gLen (eV 2))))) (sSeq (sRet (eC .none))
    sNil) sNil)
    (sSeq (sSet 3 (e2 false gIdx (eV 7) (eC (.int 1))))
    sNil)))))))
    (sSeq (sRet (eV 7))
    sNil))))
def b__law_due_2 (Φ : Bool → Str → Fn) (m : Bool) : Ex1 :=
  (sSeq (sSet 2 (eDct true [] (aList [])))
    (sSeq (sFor (itZ (eV 0) (eV 1)) (bTup [(bTup [(bName 3), (bName 4), (bName 5), (bName 6)]), (bName 7)]) (sSeq (sSet 8 (eOr (e2 false gIsN (eV 6) (eC .none)) (e2 false gEq (eGet2 (eV 2) (e2 false gIdx (eV 6) (eC (.int 0))) (eC .none)) (e2 false gIdx (eV 6) (eC (.int 1))))))
    (sSeq (sIf (DE.tAnd (DE.tB (eV 8)) (DE.tB (e2 false gNe (e2 false gIdx (eV 7) (eC (.int 1))) (eTup (aList []))))) (sSeq (sPut gPutD (eV 2) (eV 3) (e2 false gIdx (e2 false gIdx (eV 7) (eC (.int 1))) (eC (.int 0))))
    sNil) sNil)
    sNil)))
    (sSeq (sRet (e1 m gTuple (eComp false (itV (eV 0)) (bName 9) [9] (DE.tB (e2 false gInD (e2 false gIdx (eV 9) (eC (.int 0))) (eV 2))) (eTup (aList [(e2 false gIdx (eV 9) (eC (.int 0))), (e2 false gIdx (eV 2) (e2 false gIdx (eV 9) (eC (.int 0))))])))))
    sNil)))
def b__law_chain_2 (Φ : Bool → Str → Fn) (m : Bool) : Ex1 :=
  (sSeq (sSet 1 (eLst true (aList [])))
    (sSeq (sSet 2 (eLst true (aList [])))
    (sSeq (sSet 3 (eC .none))
    (sSeq (sFor (itV (eCall (Φ false "_law_kinds") (aList [(eV 0), (eC (.int 6))]))) (bName 4) (sSeq (sSet 5 (eLst true (aList [(eC (.int 0)), (eC (.int 1)), (eC (.int 2)), (eC (.int 7)), (eC (.int 10)), (eC (.int 9999))])))
    (sSeq (sSet 6 (e1 false gTuple (eComp false (itR (eC (.int 6))) (bName 7) [7] tYes (eMethL gPopAt (eV 5) (aList [(eCall (Φ false "_law_draw") (aList [(eV 0), (e1 false gLen (eV 5))]))])))))
    (sSeq (sExpr (eMethL gAppend (eV 1) (aList [(eTup (aList [(eV 4), (eV 6), (e2 false gEq (eCall (Φ false "_law_draw") (aList [(eV 0), (eC (.int 4))])) (eC (.int 0))), (eV 3)]))])))
    (sSeq (sSet 3 (eTup (aList [(eV 4), (e2 false gIdx (eV 6) (eC (.int 5)))])))
    (sSeq (sExpr (eMethL gAppend (eV 2) (aList [(eTup (aList [(eV 4), (eTup (aList [(eC (.int 8888)), (eC (.int 8887)), (eC (.int 8886)), (eC (.int 8885)), (eC (.int 8884)), (e2 false gIdx (eV 6) (eC (.int 5)))]))]))])))
    sNil))))))
    (sSeq (sIf (DE.tB (e2 false gEq (eCall (Φ false "_law_draw") (aList [(eV 0), (eC (.int 2))])) (eC (.int 0)))) (sSeq (sPut gPutL (eV 2) (eC (.int 5)) (eTup (aList [(e2 false gIdx (e2 false gIdx (eV 2) (eC (.int 5))) (eC (.int 0))), (eTup (aList [(eC (.int 8888)), (eC (.int 8887))]))])))
    sNil) sNil)
    (sSeq (sRet (eTup (aList [(e1 false gTuple (eV 1)), (e1 false gTuple (eV 2))])))
    sNil))))))
def b__law_great (Φ : Bool → Str → Fn) (m : Bool) : Ex1 :=
  (sSeq (sSet 1 (eCall (Φ false "_law_kinds") (aList [(eV 0), (eC (.int 6))])))
    (sSeq (sSet 2 (eLst false (aList [(eC (.int 0)), (eC (.int 9999)), (eC (.int 1)), (eC (.int 5000)), (eC (.int 10)), (eC (.int 7))])))
    (sSeq (sSet 3 (eLst true (aList [])))
    (sSeq (sFor (itE (eV 1)) (bTup [(bName 4), (bName 5)]) (sSeq (sSet 6 (eCall (Φ false "_law_draw") (aList [(eV 0), (eC (.int 6))])))
    (sSeq (sSet 7 (eC .none))
    (sSeq (sIf (DE.tAnd (DE.tB (e2 false gGt (eV 4) (eC (.int 0)))) (DE.tB (e2 false gEq (eCall (Φ false "_law_draw") (aList [(eV 0), (eC (.int 2))])) (eC (.int 0))))) (sSeq (sSet 7 (eTup (aList [(e2 false gIdx (eV 1) (eCall (Φ false "_law_draw") (aList [(eV 0), (eV 4)]))), (e2 false gIdx (eV 2) (eCall (Φ false "_law_draw") (aList [(eV 0), (eC (.int 6))])))])))
    sNil) sNil)
    (sSeq (sExpr (eMethL gAppend (eV 3) (aList [(eTup (aList [(eV 5), (e1 false gTuple (e2 false gAdd (eSl false (eV 2) (oSome (eV 6)) oNone) (eSl false (eV 2) oNone (oSome (eV 6))))), (e2 false gEq (eCall (Φ false "_law_draw") (aList [(eV 0), (eC (.int 2))])) (eC (.int 0))), (eV 7)]))])))
    sNil)))))
    (sSeq (sRet (e1 m gTuple (eV 3)))
    sNil)))))
def b__law_some_wishes (Φ : Bool → Str → Fn) (m : Bool) : Ex1 :=
  (sSeq (sIf (DE.tB (e2 false gEq (eCall (Φ false "_law_draw") (aList [(eV 0), (eC (.int 8))])) (eC (.int 0)))) (sSeq (sRet (eCall (Φ m "_law_great") (aList [(eV 0)])))
    sNil) sNil)
    (sSeq (sRet (eCall (Φ m "_law_wishes") (aList [(eV 0), (eCall (Φ false "_law_kinds") (aList [(eV 0), (eCall (Φ false "_law_draw") (aList [(eV 0), (eC (.int 5))]))])), (eC (.int 4))])))
    sNil))
def b__law_gone_2 (Φ : Bool → Str → Fn) (m : Bool) : Ex1 :=
  (sSeq (sSet 2 eNewE)
    (sSeq (sFor (itV (eV 1)) (bTup [(bName 3), (bName 4), (bName 5), (bName 6)]) (sSeq (sFor (itV (e2 false gAdd (eV 4) (eTup (aList [(e1 false gNeg (eC (.int 1))), (eC (.int 4))])))) (bName 7) (sSeq (sIf (DE.tB (e2 false gEq (eCall (Φ false "_law_draw") (aList [(eV 0), (e2 false gIdx (eLst false (aList [(eC (.int 2)), (eC (.int 4)), (eC (.int 9))])) (eCall (Φ false "_law_draw") (aList [(eV 0), (eC (.int 3))])))])) (eC (.int 0)))) (sSeq (sPut gPutE (eV 2) (eTup (aList [(eV 3), (eV 7)])) (eC (.bool true)))
    sNil) sNil)
    sNil))
    sNil))
    (sSeq (sFor (itV (eTup (aList [(eTup (aList [(eC (.str "qq")), (e1 false gNeg (eC (.int 1)))])), (eTup (aList [(eC (.str "qq")), (eC (.int 1))])), (eTup (aList [(eC (.str "zzz")), (eC (.int 0))]))]))) (bName 8) (sSeq (sIf (DE.tB (e2 false gEq (eCall (Φ false "_law_draw") (aList [(eV 0), (eC (.int 4))])) (eC (.int 0)))) (sSeq (sPut gPutE (eV 2) (eV 8) (eC (.bool true)))
    sNil) sNil)
    sNil))
    (sSeq (sRet (e1 m gTuple (eSrtE false (eV 2))))
    sNil))))
def b__law_mixed (Φ : Bool → Str → Fn) (m : Bool) : Ex1 :=
  (sSeq (sSet 2 (eLst true (aList [])))
    (sSeq (sFor (itV (eV 1)) (bTup [(bName 3), (bName 4)]) (sSeq (sSet 5 (e1 true gList (eV 4)))
    (sSeq (sSet 6 (e2 false gIdx (eLst false (aList [(e1 false gLen (eV 5)), (e1 false gLen (eV 5)), (eCall (Φ false "_law_draw") (aList [(eV 0), (e2 false gAdd (e1 false gLen (eV 5)) (eC (.int 1)))])), (eC (.int 0))])) (eCall (Φ false "_law_draw") (aList [(eV 0), (eC (.int 4))]))))
    (sSeq (sExpr (eMethL gAppend (eV 2) (aList [(eTup (aList [(eV 3), (e1 false gTuple (eComp false (itR (eV 6)) (bName 7) [7] tYes (eMethL gPopAt (eV 5) (aList [(eCall (Φ false "_law_draw") (aList [(eV 0), (e1 false gLen (eV 5))]))]))))]))])))
    sNil))))
    (sSeq (sRet (e1 m gTuple (eV 2)))
    sNil)))
def b_are_worths (Φ : Bool → Str → Fn) (m : Bool) : Ex1 :=
  (sSeq (sRet (eAnd (eCall (Φ false "is_tuple") (aList [(eV 0), (eC (.int 1)), (eC (.int (6)))])) (eAnd (e1 false gAll (eComp false (itV (eV 0)) (bName 1) [1] tYes (eCall (Φ false "is_worth") (aList [(eV 1)])))) (e2 false gEq (e1 false (gSetX Ss.len) (eV 0)) (e1 false gLen (eV 0))))))
    sNil)
def b_is_wish (Φ : Bool → Str → Fn) (m : Bool) : Ex1 :=
  (sSeq (sIf (DE.tNot (DE.tB (eCall (Φ false "is_tuple") (aList [(eV 0), (eC (.int 4)), (eC (.int 4))])))) (sSeq (sRet (eC (.bool false)))
    sNil) sNil)
    (sSeq (sSetB (bTup [(bName 1), (bName 2), (bName 3), (bName 4)]) (eV 0))
    (sSeq (sRet (eAnd (eCall (Φ false "is_name") (aList [(eV 1)])) (eAnd (eCall (Φ false "are_worths") (aList [(eV 2)])) (eAnd (e1 false (fun d => some (.bool (isi .bool d))) (eV 3)) (eOr (e2 false gIsN (eV 4) (eC .none)) (eCall (Φ false "is_pair") (aList [(eV 4)])))))))
    sNil)))
def b_are_wishes (Φ : Bool → Str → Fn) (m : Bool) : Ex1 :=
  (sSeq (sIf (DE.tOr (DE.tNot (DE.tB (eCall (Φ false "is_tuple") (aList [(eV 0), (eC (.int 0)), (eC (.int (6)))])))) (DE.tNot (DE.tB (e1 false gAll (eComp false (itV (eV 0)) (bName 1) [1] tYes (eCall (Φ false "is_wish") (aList [(eV 1)]))))))) (sSeq (sRet (eC (.bool false)))
    sNil) sNil)
    (sSeq (sSet 2 (eLst true (aList [])))
    (sSeq (sFor (itV (eV 0)) (bTup [(bName 3), (bName 4), (bName 5), (bName 6)]) (sSeq (sIf (DE.tOr (DE.tB (e2 false gInD (eV 3) (eV 2))) (DE.tAnd (DE.tB (e2 false gNotN (eV 6) (eC .none))) (DE.tB (e2 false gNotInD (e2 false gIdx (eV 6) (eC (.int 0))) (eV 2))))) (sSeq (sRet (eC (.bool false)))
    sNil) sNil)
    (sSeq (sExpr (eMethL gAppend (eV 2) (aList [(eV 3)])))
    sNil)))
    (sSeq (sRet (eC (.bool true)))
    sNil))))
def b__law_are_worths (Φ : Bool → Str → Fn) (m : Bool) : Ex1 :=
  (sSeq (sIf (DE.tOr (DE.tNot (DE.tB (e1 false (fun d => some (.bool (isi .tuple d))) (eV 0)))) (DE.tNot (DE.tB (eChain gLe gLe (eC (.int 1)) (e1 false gLen (eV 0)) (eC (.int 6)))))) (sSeq (sRet (eC (.bool false)))
    sNil) sNil)
    (sSeq (sRet (e2 false gEq (eComp false (itV (eV 0)) (bName 1) [1] (DE.tOr (DE.tNot (DE.tB (eCall (Φ false "_law_is_worth") (aList [(eV 1)])))) (DE.tB (e2 false gGt (eCnt (eV 0) (eV 1)) (eC (.int 1))))) (eV 1)) (eLst false (aList []))))
    sNil))
def b__law_is_wish (Φ : Bool → Str → Fn) (m : Bool) : Ex1 :=
  (sSeq (sIf (DE.tOr (DE.tNot (DE.tB (e1 false (fun d => some (.bool (isi .tuple d))) (eV 0)))) (DE.tOr (DE.tB (e2 false gNe (e1 false gLen (eV 0)) (eC (.int 4)))) (DE.tOr (DE.tNot (DE.tB (eCall (Φ false "_law_is_name") (aList [(e2 false gIdx (eV 0) (eC (.int 0)))])))) (DE.tNot (DE.tB (eCall (Φ false "_law_are_worths") (aList [(e2 false gIdx (eV 0) (eC (.int 1)))]))))))) (sSeq (sRet (eC (.bool false)))
    sNil) sNil)
    (sSeq (sIf (DE.tNot (DE.tB (e1 false (fun d => some (.bool (isi .bool d))) (e2 false gIdx (eV 0) (eC (.int 2)))))) (sSeq (sRet (eC (.bool false)))
    sNil) sNil)
    (sSeq (sIf (DE.tB (e2 false gIsN (e2 false gIdx (eV 0) (eC (.int 3))) (eC .none))) (sSeq (sRet (eC (.bool true)))
    sNil) sNil)
    (sSeq (sSet 1 (e2 false gIdx (eV 0) (eC (.int 3))))
    (sSeq (sRet (eAnd (e1 false (fun d => some (.bool (isi .tuple d))) (eV 1)) (eAnd (e2 false gEq (e1 false gLen (eV 1)) (eC (.int 2))) (eAnd (eCall (Φ false "_law_is_name") (aList [(e2 false gIdx (eV 1) (eC (.int 0)))])) (eCall (Φ false "_law_is_worth") (aList [(e2 false gIdx (eV 1) (eC (.int 1)))]))))))
    sNil)))))
def b__law_are_wishes (Φ : Bool → Str → Fn) (m : Bool) : Ex1 :=
  (sSeq (sIf (DE.tOr (DE.tNot (DE.tB (e1 false (fun d => some (.bool (isi .tuple d))) (eV 0)))) (DE.tOr (DE.tB (e2 false gGt (e1 false gLen (eV 0)) (eC (.int 6)))) (DE.tB (e2 false gNe (eComp false (itV (eV 0)) (bName 1) [1] (DE.tNot (DE.tB (eCall (Φ false "_law_is_wish") (aList [(eV 1)])))) (eV 1)) (eLst false (aList [])))))) (sSeq (sRet (eC (.bool false)))
    sNil) sNil)
    (sSeq (sSet 2 (eComp false (itV (eV 0)) (bName 1) [1] tYes (e2 false gIdx (eV 1) (eC (.int 0)))))
    (sSeq (sFor (itE (eV 0)) (bTup [(bName 3), (bName 1)]) (sSeq (sIf (DE.tOr (DE.tB (e2 false gInD (e2 false gIdx (eV 1) (eC (.int 0))) (eSl false (eV 2) oNone (oSome (eV 3))))) (DE.tAnd (DE.tB (e2 false gNotN (e2 false gIdx (eV 1) (eC (.int 3))) (eC .none))) (DE.tB (e2 false gNotInD (e2 false gIdx (e2 false gIdx (eV 1) (eC (.int 3))) (eC (.int 0))) (eSl false (eV 2) oNone (oSome (eV 3))))))) (sSeq (sRet (eC (.bool false)))
    sNil) sNil)
    sNil))
    (sSeq (sRet (eC (.bool true)))
    sNil))))
def b__law_asks_right (Φ : Bool → Str → Fn) (m : Bool) : Ex1 :=
  (sSeq (sSet 2 (eCall (Φ false "plan_of") (aList [(eV 0), (eV 1)])))
    (sSeq (sSet 3 (eCall (Φ false "ask_of") (aList [(eV 0), (eV 2)])))
    (sSeq (sSet 4 (eComp false (itV (eV 3)) (bTup [(bName 5), (bName 6)]) [5, 6] tYes (eV 5)))
    (sSeq (sIf (DE.tB (e2 false gNe (eV 4) (eComp false (itV (eV 0)) (bName 7) [7] (DE.tB (e2 false gInD (e2 false gIdx (eV 7) (eC (.int 0))) (eV 4))) (e2 false gIdx (eV 7) (eC (.int 0)))))) (sSeq (sRet (eC (.bool false)))
    sNil) sNil)
    (sSeq (sFor (itZ (eV 0) (eV 2)) (bTup [(bTup [(bName 5), (bName 8), (bName 9), (bName 10)]), (bTup [(bName 11), (bName 12)])]) (sSeq (sSet 13 (eAnd (e2 false gNe (eV 12) (eTup (aList []))) (eOr (e2 false gIsN (eV 10) (eC .none)) (e2 false gInD (eV 10) (eV 3)))))
    (sSeq (sIf (DE.tOr (DE.tB (e2 false gNe (e2 false gInD (eV 5) (eV 4)) (eV 13))) (DE.tAnd (DE.tB (eV 13)) (DE.tB (e2 false gNotInD (eTup (aList [(eV 5), (e2 false gIdx (eV 12) (eC (.int 0)))])) (eV 3))))) (sSeq (sRet (eC (.bool false)))
    sNil) sNil)
    sNil)))
    (sSeq (sRet (eC (.bool true)))
    sNil))))))
def b__law_without_right (Φ : Bool → Str → Fn) (m : Bool) : Ex1 :=
  (sSeq (sFor (itE (eV 0)) (bTup [(bName 2), (bName 3)]) (sSeq (sSet 4 (e1 false gTuple (e1 false (gSetX Ss.sorted) (e2 false gAdd (eV 1) (eTup (aList [(eTup (aList [(e2 false gIdx (eV 3) (eC (.int 0))), (e1 false gNeg (eC (.int 1)))]))]))))))
    (sSeq (sSet 5 (eCall (Φ false "ask_of") (aList [(eV 0), (eCall (Φ false "plan_of") (aList [(eV 0), (eV 4)]))])))
    (sSeq (sSet 6 (eLst true (aList [(e2 false gIdx (eV 3) (eC (.int 0)))])))
    (sSeq (sFor (itV (eV 0)) (bTup [(bName 7), (bName 8), (bName 9), (bName 10)]) (sSeq (sIf (DE.tAnd (DE.tB (e2 false gNotN (eV 10) (eC .none))) (DE.tB (e2 false gInD (e2 false gIdx (eV 10) (eC (.int 0))) (eV 6)))) (sSeq (sExpr (eMethL gAppend (eV 6) (aList [(eV 7)])))
    sNil) sNil)
    sNil))
    (sSeq (sIf (DE.tB (e2 false gNe (eComp false (itV (eV 5)) (bName 11) [11] (DE.tB (e2 false gInD (e2 false gIdx (eV 11) (eC (.int 0))) (eV 6))) (eV 11)) (eLst false (aList [])))) (sSeq (sRet (eC (.bool false)))
    sNil) sNil)
    (sSeq (sSet 12 (eCall (Φ false "ask_of") (aList [(eSl false (eV 0) oNone (oSome (eV 2))), (eCall (Φ false "plan_of") (aList [(eSl false (eV 0) oNone (oSome (eV 2))), (eV 4)]))])))
    (sSeq (sIf (DE.tB (e2 false gNe (eSl false (eV 5) oNone (oSome (e1 false gLen (eV 12)))) (eV 12))) (sSeq (sRet (eC (.bool false)))
    sNil) sNil)
    sNil))))))))
    (sSeq (sRet (eC (.bool true)))
    sNil))
def b__law_plans_right (Φ : Bool → Str → Fn) (m : Bool) : Ex1 :=
  (sSeq (sSet 3 (e1 false gTuple (e1 false (gSetX Ss.sorted) (e2 false gAdd (eV 1) (eV 2)))))
    (sSeq (sSet 4 (eComp false (itV (eTup (aList [(eTup (aList [])), (eV 1), (eV 2), (eV 3)]))) (bName 5) [5] tYes (eCall (Φ false "plan_of") (aList [(eV 0), (eV 5)]))))
    (sSeq (sFor (itE (eV 0)) (bTup [(bName 6), (bName 7)]) (sSeq (sSet 8 (eComp false (itV (eV 4)) (bName 9) [9] tYes (e2 false gIdx (eV 9) (eV 6))))
    (sSeq (sIf (DE.tOr (DE.tB (e2 false gNe (eComp false (itV (eV 8)) (bName 10) [10] tYes (e2 false gIdx (eV 10) (eC (.int 0)))) (eRepN false 4 (aList [(e2 false gIdx (eV 7) (eC (.int 0)))])))) (DE.tB (e2 false gNe (e2 false gIdx (e2 false gIdx (eV 8) (eC (.int 0))) (eC (.int 1))) (e2 false gIdx (eV 7) (eC (.int 1)))))) (sSeq (sRet (eC (.bool false)))
    sNil) sNil)
    (sSeq (sIf (DE.tB (e2 false gNe (e2 false gIdx (e2 false gIdx (eV 8) (eC (.int 3))) (eC (.int 1))) (e1 false gTuple (eComp false (itV (e2 false gIdx (e2 false gIdx (eV 8) (eC (.int 1))) (eC (.int 1)))) (bName 11) [11] (DE.tB (e2 false gInD (eV 11) (e2 false gIdx (e2 false gIdx (eV 8) (eC (.int 2))) (eC (.int 1))))) (eV 11))))) (sSeq (sRet (eC (.bool false)))
    sNil) sNil)
    (sSeq (sSet 12 (e1 false gTuple (eComp false (itV (eV 3)) (bName 13) [13] (DE.tB (e2 false gEq (e2 false gIdx (eV 13) (eC (.int 0))) (e2 false gIdx (eV 7) (eC (.int 0))))) (eV 13))))
    (sSeq (sIf (DE.tB (e2 false gNe (eCall (Φ false "plan_of") (aList [(eTup (aList [(e2 false gAdd (eSl false (eV 7) oNone (oSome (eC (.int 3)))) (eTup (aList [(eC .none)])))])), (eV 12)])) (eTup (aList [(e2 false gIdx (eV 8) (eC (.int 3)))])))) (sSeq (sRet (eC (.bool false)))
    sNil) sNil)
    sNil))))))
    (sSeq (sRet (eC (.bool true)))
    sNil))))
end LB
end
section
set_option Elab.async false
set_option linter.all false
set_option maxRecDepth 100000
set_option maxHeartbeats 4000000
/-! the defs of the text -/
namespace L06
open PySem PySem.Spec L2 DE PyProof.Rows
def topS (i : Nat) : Stmt := PySem.Challenge.pw_crossedwishes_k06_whole_refusals_add_up.main.body.getD i (.Pass ⟨0, 0, 0, 0⟩)
def fd_is_name : FD := ⟨"is_name", topS 7, ["thing", "sign"], ["thing"], []⟩
def fd_is_worth : FD := ⟨"is_worth", topS 8, ["thing"], ["thing"], []⟩
def fd_is_tuple : FD := ⟨"is_tuple", topS 9, ["thing", "least", "most"], ["thing", "least", "most"], []⟩
def fd_are_worths : FD := ⟨"are_worths", topS 10, ["thing", "one"], ["thing"], []⟩
def fd_is_pair : FD := ⟨"is_pair", topS 11, ["thing"], ["thing"], []⟩
def fd_is_wish : FD := ⟨"is_wish", topS 12, ["thing", "kind", "worths", "must", "needs"], ["thing"], []⟩
def fd_are_wishes : FD := ⟨"are_wishes", topS 13, ["thing", "wish", "kinds", "kind", "worths", "must", "needs"], ["thing"], ["kinds"]⟩
def fd_left_of : FD := ⟨"left_of", topS 14, ["kind", "worths", "refused", "worth"], ["kind", "worths", "refused"], []⟩
def fd_plan_of : FD := ⟨"plan_of", topS 15, ["wishes", "refused", "kind", "worths", "must", "needs"], ["wishes", "refused"], []⟩
def fd_ask_of : FD := ⟨"ask_of", topS 16, ["wishes", "plan", "found", "kind", "worths", "must", "needs", "planned", "left"], ["wishes", "plan"], ["found"]⟩
def fd__law_pen : FD := ⟨"_law_pen", topS 18, ["_law_script"], ["_law_script"], []⟩
def fd__law_draw : FD := ⟨"_law_draw", topS 19, ["_law_pen_here", "_law_many", "_law_found", "_law_at", "_law_cell", "_law_whole", "_law_one", "_law_two"], ["_law_pen_here", "_law_many"], []⟩
def fd__law_kinds : FD := ⟨"_law_kinds", topS 20, ["_law_pen_here", "_law_many", "_law_some", "_law_k"], ["_law_pen_here", "_law_many"], ["_law_some"]⟩
def fd__law_worths : FD := ⟨"_law_worths", topS 21, ["_law_pen_here", "_law_most", "_law_some", "_law_found", "_law_k"], ["_law_pen_here", "_law_most"], ["_law_some", "_law_found"]⟩
def fd__law_wishes : FD := ⟨"_law_wishes", topS 22, ["_law_pen_here", "_law_kinds_here_here", "_law_most", "_law_left", "_law_found", "_law_kind", "_law_needs", "_law_ahead"], ["_law_pen_here", "_law_kinds_here_here", "_law_most"], ["_law_left", "_law_found"]⟩
def fd__law_great : FD := ⟨"_law_great", topS 23, ["_law_pen_here", "_law_kinds_here_here", "_law_worths_here", "_law_found", "_law_k", "_law_kind", "_law_turn", "_law_needs"], ["_law_pen_here"], ["_law_found"]⟩
def fd__law_some_wishes : FD := ⟨"_law_some_wishes", topS 24, ["_law_pen_here"], ["_law_pen_here"], []⟩
def fd__law_gone : FD := ⟨"_law_gone", topS 25, ["_law_pen_here", "_law_wishes_here", "_law_found", "_law_kind", "_law_worths_here", "_law_must", "_law_needs", "_law_worth", "_law_pair"], ["_law_pen_here", "_law_wishes_here"], ["_law_found", "~"]⟩
def fd__law_plans_right : FD := ⟨"_law_plans_right", topS 26, ["_law_some", "_law_one", "_law_other", "_law_both", "_law_plans", "_law_gone_here", "_law_at", "_law_wish", "_law_rows", "_law_plan", "_law_row", "_law_worth", "_law_alone", "_law_pair"], ["_law_some", "_law_one", "_law_other"], []⟩
def fd__law_asks_right : FD := ⟨"_law_asks_right", topS 27, ["_law_some", "_law_gone_here", "_law_plan", "_law_told_so", "_law_kinds_here", "_law_kind", "_law_worth", "_law_wish", "_law_worths_here", "_law_must", "_law_needs", "_law_again", "_law_left", "_law_due"], ["_law_some", "_law_gone_here"], []⟩
def fd__law_without_right : FD := ⟨"_law_without_right", topS 28, ["_law_some", "_law_gone_here", "_law_at", "_law_wish", "_law_lot", "_law_told_so", "_law_barred", "_law_kind", "_law_worths_here", "_law_must", "_law_needs", "_law_pair", "_law_ahead"], ["_law_some", "_law_gone_here"], ["_law_barred"]⟩
def fd_law : FD := ⟨"law", topS 29, ["_law_script", "_law_pen_here", "_law_turn", "_law_some", "_law_one", "_law_other", "_law_gone_here", "_law_free", "_law_kind", "_law_worths_here", "_law_must", "_law_needs", "_law_wish"], ["_law_script"], ["_law_pen_here"]⟩
def cst : List (Str × PyData) := [("LETTERS", (.str "abcdefghijklmnopqrstuvwxyz")), ("LONGEST", (.int (8))), ("GREATEST", (.int (9999))), ("MOST_WORTHS", (.int (6))), ("MOST_WISHES", (.int (6))), ("ALL", (.int (-1)))]
def T : List FD := [fd_is_name, fd_is_worth, fd_is_tuple, fd_are_worths, fd_is_pair, fd_is_wish, fd_are_wishes, fd_left_of, fd_plan_of, fd_ask_of, fd__law_pen, fd__law_draw, fd__law_kinds, fd__law_worths, fd__law_wishes, fd__law_great, fd__law_some_wishes, fd__law_gone, fd__law_plans_right, fd__law_asks_right, fd__law_without_right, fd_law]

theorem c_is_name (Φ : Bool → Str → Fn) : cB ⟨fd_is_name.N, fd_is_name.mv, cst, T.map (·.name), Φ⟩ false (defScope fd_is_name.st) (defBody fd_is_name.st) = LB.b_is_name Φ false := by kernel_rfl
theorem ct_is_name (Φ : Bool → Str → Fn) : cB ⟨fd_is_name.N, fd_is_name.mv, cst, T.map (·.name), Φ⟩ true (defScope fd_is_name.st) (defBody fd_is_name.st) = LB.b_is_name Φ true := by kernel_rfl
theorem at_is_name : T.find? (fun fd => decide (fd.name = ("is_name" : Str))) = some fd_is_name := by kernel_rfl
theorem r_is_name (k : Nat) (m : Bool) (xs : List Val) (h : MH) (hl : xs.length = 1) : fnAt cst T (k + 1) m "is_name" xs h = runFn 2 (LB.b_is_name (fnAt cst T k) m) xs h := by
  show (match T.find? (fun fd => decide (fd.name = ("is_name" : Str))) with | none => none | some fd => _) = _
  rw [at_is_name]
  show (if xs.length = 1 then _ else none) = _
  rw [if_pos hl]
  cases m
  · exact congrArg (fun b => runFn 2 b xs h) (c_is_name _)
  · exact congrArg (fun b => runFn 2 b xs h) (ct_is_name _)
instance i_is_name : Is (fnAt cst T) "is_name" 1 2 LB.b_is_name := ⟨r_is_name⟩
theorem c_is_worth (Φ : Bool → Str → Fn) : cB ⟨fd_is_worth.N, fd_is_worth.mv, cst, T.map (·.name), Φ⟩ false (defScope fd_is_worth.st) (defBody fd_is_worth.st) = LB.b_is_worth Φ false := by kernel_rfl
theorem ct_is_worth (Φ : Bool → Str → Fn) : cB ⟨fd_is_worth.N, fd_is_worth.mv, cst, T.map (·.name), Φ⟩ true (defScope fd_is_worth.st) (defBody fd_is_worth.st) = LB.b_is_worth Φ true := by kernel_rfl
theorem at_is_worth : T.find? (fun fd => decide (fd.name = ("is_worth" : Str))) = some fd_is_worth := by kernel_rfl
theorem r_is_worth (k : Nat) (m : Bool) (xs : List Val) (h : MH) (hl : xs.length = 1) : fnAt cst T (k + 1) m "is_worth" xs h = runFn 1 (LB.b_is_worth (fnAt cst T k) m) xs h := by
  show (match T.find? (fun fd => decide (fd.name = ("is_worth" : Str))) with | none => none | some fd => _) = _
  rw [at_is_worth]
  show (if xs.length = 1 then _ else none) = _
  rw [if_pos hl]
  cases m
  · exact congrArg (fun b => runFn 1 b xs h) (c_is_worth _)
  · exact congrArg (fun b => runFn 1 b xs h) (ct_is_worth _)
instance i_is_worth : Is (fnAt cst T) "is_worth" 1 1 LB.b_is_worth := ⟨r_is_worth⟩
theorem c_is_tuple (Φ : Bool → Str → Fn) : cB ⟨fd_is_tuple.N, fd_is_tuple.mv, cst, T.map (·.name), Φ⟩ false (defScope fd_is_tuple.st) (defBody fd_is_tuple.st) = LB.b_is_tuple Φ false := by kernel_rfl
theorem ct_is_tuple (Φ : Bool → Str → Fn) : cB ⟨fd_is_tuple.N, fd_is_tuple.mv, cst, T.map (·.name), Φ⟩ true (defScope fd_is_tuple.st) (defBody fd_is_tuple.st) = LB.b_is_tuple Φ true := by kernel_rfl
theorem at_is_tuple : T.find? (fun fd => decide (fd.name = ("is_tuple" : Str))) = some fd_is_tuple := by kernel_rfl
theorem r_is_tuple (k : Nat) (m : Bool) (xs : List Val) (h : MH) (hl : xs.length = 3) : fnAt cst T (k + 1) m "is_tuple" xs h = runFn 3 (LB.b_is_tuple (fnAt cst T k) m) xs h := by
  show (match T.find? (fun fd => decide (fd.name = ("is_tuple" : Str))) with | none => none | some fd => _) = _
  rw [at_is_tuple]
  show (if xs.length = 3 then _ else none) = _
  rw [if_pos hl]
  cases m
  · exact congrArg (fun b => runFn 3 b xs h) (c_is_tuple _)
  · exact congrArg (fun b => runFn 3 b xs h) (ct_is_tuple _)
instance i_is_tuple : Is (fnAt cst T) "is_tuple" 3 3 LB.b_is_tuple := ⟨r_is_tuple⟩
theorem c_are_worths (Φ : Bool → Str → Fn) : cB ⟨fd_are_worths.N, fd_are_worths.mv, cst, T.map (·.name), Φ⟩ false (defScope fd_are_worths.st) (defBody fd_are_worths.st) = LB.b_are_worths Φ false := by kernel_rfl
theorem ct_are_worths (Φ : Bool → Str → Fn) : cB ⟨fd_are_worths.N, fd_are_worths.mv, cst, T.map (·.name), Φ⟩ true (defScope fd_are_worths.st) (defBody fd_are_worths.st) = LB.b_are_worths Φ true := by kernel_rfl
theorem at_are_worths : T.find? (fun fd => decide (fd.name = ("are_worths" : Str))) = some fd_are_worths := by kernel_rfl
theorem r_are_worths (k : Nat) (m : Bool) (xs : List Val) (h : MH) (hl : xs.length = 1) : fnAt cst T (k + 1) m "are_worths" xs h = runFn 2 (LB.b_are_worths (fnAt cst T k) m) xs h := by
  show (match T.find? (fun fd => decide (fd.name = ("are_worths" : Str))) with | none => none | some fd => _) = _
  rw [at_are_worths]
  show (if xs.length = 1 then _ else none) = _
  rw [if_pos hl]
  cases m
  · exact congrArg (fun b => runFn 2 b xs h) (c_are_worths _)
  · exact congrArg (fun b => runFn 2 b xs h) (ct_are_worths _)
instance i_are_worths : Is (fnAt cst T) "are_worths" 1 2 LB.b_are_worths := ⟨r_are_worths⟩
theorem c_is_pair (Φ : Bool → Str → Fn) : cB ⟨fd_is_pair.N, fd_is_pair.mv, cst, T.map (·.name), Φ⟩ false (defScope fd_is_pair.st) (defBody fd_is_pair.st) = LB.b_is_pair_2 Φ false := by kernel_rfl
theorem ct_is_pair (Φ : Bool → Str → Fn) : cB ⟨fd_is_pair.N, fd_is_pair.mv, cst, T.map (·.name), Φ⟩ true (defScope fd_is_pair.st) (defBody fd_is_pair.st) = LB.b_is_pair_2 Φ true := by kernel_rfl
theorem at_is_pair : T.find? (fun fd => decide (fd.name = ("is_pair" : Str))) = some fd_is_pair := by kernel_rfl
theorem r_is_pair (k : Nat) (m : Bool) (xs : List Val) (h : MH) (hl : xs.length = 1) : fnAt cst T (k + 1) m "is_pair" xs h = runFn 1 (LB.b_is_pair_2 (fnAt cst T k) m) xs h := by
  show (match T.find? (fun fd => decide (fd.name = ("is_pair" : Str))) with | none => none | some fd => _) = _
  rw [at_is_pair]
  show (if xs.length = 1 then _ else none) = _
  rw [if_pos hl]
  cases m
  · exact congrArg (fun b => runFn 1 b xs h) (c_is_pair _)
  · exact congrArg (fun b => runFn 1 b xs h) (ct_is_pair _)
instance i_is_pair : Is (fnAt cst T) "is_pair" 1 1 LB.b_is_pair_2 := ⟨r_is_pair⟩
theorem c_is_wish (Φ : Bool → Str → Fn) : cB ⟨fd_is_wish.N, fd_is_wish.mv, cst, T.map (·.name), Φ⟩ false (defScope fd_is_wish.st) (defBody fd_is_wish.st) = LB.b_is_wish Φ false := by kernel_rfl
theorem ct_is_wish (Φ : Bool → Str → Fn) : cB ⟨fd_is_wish.N, fd_is_wish.mv, cst, T.map (·.name), Φ⟩ true (defScope fd_is_wish.st) (defBody fd_is_wish.st) = LB.b_is_wish Φ true := by kernel_rfl
theorem at_is_wish : T.find? (fun fd => decide (fd.name = ("is_wish" : Str))) = some fd_is_wish := by kernel_rfl
theorem r_is_wish (k : Nat) (m : Bool) (xs : List Val) (h : MH) (hl : xs.length = 1) : fnAt cst T (k + 1) m "is_wish" xs h = runFn 5 (LB.b_is_wish (fnAt cst T k) m) xs h := by
  show (match T.find? (fun fd => decide (fd.name = ("is_wish" : Str))) with | none => none | some fd => _) = _
  rw [at_is_wish]
  show (if xs.length = 1 then _ else none) = _
  rw [if_pos hl]
  cases m
  · exact congrArg (fun b => runFn 5 b xs h) (c_is_wish _)
  · exact congrArg (fun b => runFn 5 b xs h) (ct_is_wish _)
instance i_is_wish : Is (fnAt cst T) "is_wish" 1 5 LB.b_is_wish := ⟨r_is_wish⟩
theorem c_are_wishes (Φ : Bool → Str → Fn) : cB ⟨fd_are_wishes.N, fd_are_wishes.mv, cst, T.map (·.name), Φ⟩ false (defScope fd_are_wishes.st) (defBody fd_are_wishes.st) = LB.b_are_wishes Φ false := by kernel_rfl
theorem ct_are_wishes (Φ : Bool → Str → Fn) : cB ⟨fd_are_wishes.N, fd_are_wishes.mv, cst, T.map (·.name), Φ⟩ true (defScope fd_are_wishes.st) (defBody fd_are_wishes.st) = LB.b_are_wishes Φ true := by kernel_rfl
theorem at_are_wishes : T.find? (fun fd => decide (fd.name = ("are_wishes" : Str))) = some fd_are_wishes := by kernel_rfl
theorem r_are_wishes (k : Nat) (m : Bool) (xs : List Val) (h : MH) (hl : xs.length = 1) : fnAt cst T (k + 1) m "are_wishes" xs h = runFn 7 (LB.b_are_wishes (fnAt cst T k) m) xs h := by
  show (match T.find? (fun fd => decide (fd.name = ("are_wishes" : Str))) with | none => none | some fd => _) = _
  rw [at_are_wishes]
  show (if xs.length = 1 then _ else none) = _
  rw [if_pos hl]
  cases m
  · exact congrArg (fun b => runFn 7 b xs h) (c_are_wishes _)
  · exact congrArg (fun b => runFn 7 b xs h) (ct_are_wishes _)
instance i_are_wishes : Is (fnAt cst T) "are_wishes" 1 7 LB.b_are_wishes := ⟨r_are_wishes⟩
theorem c_left_of (Φ : Bool → Str → Fn) : cB ⟨fd_left_of.N, fd_left_of.mv, cst, T.map (·.name), Φ⟩ false (defScope fd_left_of.st) (defBody fd_left_of.st) = LB.b_left_of Φ false := by kernel_rfl
theorem ct_left_of (Φ : Bool → Str → Fn) : cB ⟨fd_left_of.N, fd_left_of.mv, cst, T.map (·.name), Φ⟩ true (defScope fd_left_of.st) (defBody fd_left_of.st) = LB.b_left_of Φ true := by kernel_rfl
theorem at_left_of : T.find? (fun fd => decide (fd.name = ("left_of" : Str))) = some fd_left_of := by kernel_rfl
theorem r_left_of (k : Nat) (m : Bool) (xs : List Val) (h : MH) (hl : xs.length = 3) : fnAt cst T (k + 1) m "left_of" xs h = runFn 4 (LB.b_left_of (fnAt cst T k) m) xs h := by
  show (match T.find? (fun fd => decide (fd.name = ("left_of" : Str))) with | none => none | some fd => _) = _
  rw [at_left_of]
  show (if xs.length = 3 then _ else none) = _
  rw [if_pos hl]
  cases m
  · exact congrArg (fun b => runFn 4 b xs h) (c_left_of _)
  · exact congrArg (fun b => runFn 4 b xs h) (ct_left_of _)
instance i_left_of : Is (fnAt cst T) "left_of" 3 4 LB.b_left_of := ⟨r_left_of⟩
theorem c_plan_of (Φ : Bool → Str → Fn) : cB ⟨fd_plan_of.N, fd_plan_of.mv, cst, T.map (·.name), Φ⟩ false (defScope fd_plan_of.st) (defBody fd_plan_of.st) = LB.b_plan_of Φ false := by kernel_rfl
theorem ct_plan_of (Φ : Bool → Str → Fn) : cB ⟨fd_plan_of.N, fd_plan_of.mv, cst, T.map (·.name), Φ⟩ true (defScope fd_plan_of.st) (defBody fd_plan_of.st) = LB.b_plan_of Φ true := by kernel_rfl
theorem at_plan_of : T.find? (fun fd => decide (fd.name = ("plan_of" : Str))) = some fd_plan_of := by kernel_rfl
theorem r_plan_of (k : Nat) (m : Bool) (xs : List Val) (h : MH) (hl : xs.length = 2) : fnAt cst T (k + 1) m "plan_of" xs h = runFn 6 (LB.b_plan_of (fnAt cst T k) m) xs h := by
  show (match T.find? (fun fd => decide (fd.name = ("plan_of" : Str))) with | none => none | some fd => _) = _
  rw [at_plan_of]
  show (if xs.length = 2 then _ else none) = _
  rw [if_pos hl]
  cases m
  · exact congrArg (fun b => runFn 6 b xs h) (c_plan_of _)
  · exact congrArg (fun b => runFn 6 b xs h) (ct_plan_of _)
instance i_plan_of : Is (fnAt cst T) "plan_of" 2 6 LB.b_plan_of := ⟨r_plan_of⟩
theorem c_ask_of (Φ : Bool → Str → Fn) : cB ⟨fd_ask_of.N, fd_ask_of.mv, cst, T.map (·.name), Φ⟩ false (defScope fd_ask_of.st) (defBody fd_ask_of.st) = LB.b_ask_of Φ false := by kernel_rfl
theorem ct_ask_of (Φ : Bool → Str → Fn) : cB ⟨fd_ask_of.N, fd_ask_of.mv, cst, T.map (·.name), Φ⟩ true (defScope fd_ask_of.st) (defBody fd_ask_of.st) = LB.b_ask_of Φ true := by kernel_rfl
theorem at_ask_of : T.find? (fun fd => decide (fd.name = ("ask_of" : Str))) = some fd_ask_of := by kernel_rfl
theorem r_ask_of (k : Nat) (m : Bool) (xs : List Val) (h : MH) (hl : xs.length = 2) : fnAt cst T (k + 1) m "ask_of" xs h = runFn 9 (LB.b_ask_of (fnAt cst T k) m) xs h := by
  show (match T.find? (fun fd => decide (fd.name = ("ask_of" : Str))) with | none => none | some fd => _) = _
  rw [at_ask_of]
  show (if xs.length = 2 then _ else none) = _
  rw [if_pos hl]
  cases m
  · exact congrArg (fun b => runFn 9 b xs h) (c_ask_of _)
  · exact congrArg (fun b => runFn 9 b xs h) (ct_ask_of _)
instance i_ask_of : Is (fnAt cst T) "ask_of" 2 9 LB.b_ask_of := ⟨r_ask_of⟩
theorem c__law_pen (Φ : Bool → Str → Fn) : cB ⟨fd__law_pen.N, fd__law_pen.mv, cst, T.map (·.name), Φ⟩ false (defScope fd__law_pen.st) (defBody fd__law_pen.st) = LB.b__law_pen Φ false := by kernel_rfl
theorem ct__law_pen (Φ : Bool → Str → Fn) : cB ⟨fd__law_pen.N, fd__law_pen.mv, cst, T.map (·.name), Φ⟩ true (defScope fd__law_pen.st) (defBody fd__law_pen.st) = LB.b__law_pen Φ true := by kernel_rfl
theorem at__law_pen : T.find? (fun fd => decide (fd.name = ("_law_pen" : Str))) = some fd__law_pen := by kernel_rfl
theorem r__law_pen (k : Nat) (m : Bool) (xs : List Val) (h : MH) (hl : xs.length = 1) : fnAt cst T (k + 1) m "_law_pen" xs h = runFn 1 (LB.b__law_pen (fnAt cst T k) m) xs h := by
  show (match T.find? (fun fd => decide (fd.name = ("_law_pen" : Str))) with | none => none | some fd => _) = _
  rw [at__law_pen]
  show (if xs.length = 1 then _ else none) = _
  rw [if_pos hl]
  cases m
  · exact congrArg (fun b => runFn 1 b xs h) (c__law_pen _)
  · exact congrArg (fun b => runFn 1 b xs h) (ct__law_pen _)
instance i__law_pen : Is (fnAt cst T) "_law_pen" 1 1 LB.b__law_pen := ⟨r__law_pen⟩
theorem c__law_draw (Φ : Bool → Str → Fn) : cB ⟨fd__law_draw.N, fd__law_draw.mv, cst, T.map (·.name), Φ⟩ false (defScope fd__law_draw.st) (defBody fd__law_draw.st) = LB.b__law_draw Φ false := by kernel_rfl
theorem ct__law_draw (Φ : Bool → Str → Fn) : cB ⟨fd__law_draw.N, fd__law_draw.mv, cst, T.map (·.name), Φ⟩ true (defScope fd__law_draw.st) (defBody fd__law_draw.st) = LB.b__law_draw Φ true := by kernel_rfl
theorem at__law_draw : T.find? (fun fd => decide (fd.name = ("_law_draw" : Str))) = some fd__law_draw := by kernel_rfl
theorem r__law_draw (k : Nat) (m : Bool) (xs : List Val) (h : MH) (hl : xs.length = 2) : fnAt cst T (k + 1) m "_law_draw" xs h = runFn 8 (LB.b__law_draw (fnAt cst T k) m) xs h := by
  show (match T.find? (fun fd => decide (fd.name = ("_law_draw" : Str))) with | none => none | some fd => _) = _
  rw [at__law_draw]
  show (if xs.length = 2 then _ else none) = _
  rw [if_pos hl]
  cases m
  · exact congrArg (fun b => runFn 8 b xs h) (c__law_draw _)
  · exact congrArg (fun b => runFn 8 b xs h) (ct__law_draw _)
instance i__law_draw : Is (fnAt cst T) "_law_draw" 2 8 LB.b__law_draw := ⟨r__law_draw⟩
theorem c__law_kinds (Φ : Bool → Str → Fn) : cB ⟨fd__law_kinds.N, fd__law_kinds.mv, cst, T.map (·.name), Φ⟩ false (defScope fd__law_kinds.st) (defBody fd__law_kinds.st) = LB.b__law_kinds Φ false := by kernel_rfl
theorem ct__law_kinds (Φ : Bool → Str → Fn) : cB ⟨fd__law_kinds.N, fd__law_kinds.mv, cst, T.map (·.name), Φ⟩ true (defScope fd__law_kinds.st) (defBody fd__law_kinds.st) = LB.b__law_kinds Φ true := by kernel_rfl
theorem at__law_kinds : T.find? (fun fd => decide (fd.name = ("_law_kinds" : Str))) = some fd__law_kinds := by kernel_rfl
theorem r__law_kinds (k : Nat) (m : Bool) (xs : List Val) (h : MH) (hl : xs.length = 2) : fnAt cst T (k + 1) m "_law_kinds" xs h = runFn 4 (LB.b__law_kinds (fnAt cst T k) m) xs h := by
  show (match T.find? (fun fd => decide (fd.name = ("_law_kinds" : Str))) with | none => none | some fd => _) = _
  rw [at__law_kinds]
  show (if xs.length = 2 then _ else none) = _
  rw [if_pos hl]
  cases m
  · exact congrArg (fun b => runFn 4 b xs h) (c__law_kinds _)
  · exact congrArg (fun b => runFn 4 b xs h) (ct__law_kinds _)
instance i__law_kinds : Is (fnAt cst T) "_law_kinds" 2 4 LB.b__law_kinds := ⟨r__law_kinds⟩
theorem c__law_worths (Φ : Bool → Str → Fn) : cB ⟨fd__law_worths.N, fd__law_worths.mv, cst, T.map (·.name), Φ⟩ false (defScope fd__law_worths.st) (defBody fd__law_worths.st) = LB.b__law_worths Φ false := by kernel_rfl
theorem ct__law_worths (Φ : Bool → Str → Fn) : cB ⟨fd__law_worths.N, fd__law_worths.mv, cst, T.map (·.name), Φ⟩ true (defScope fd__law_worths.st) (defBody fd__law_worths.st) = LB.b__law_worths Φ true := by kernel_rfl
theorem at__law_worths : T.find? (fun fd => decide (fd.name = ("_law_worths" : Str))) = some fd__law_worths := by kernel_rfl
theorem r__law_worths (k : Nat) (m : Bool) (xs : List Val) (h : MH) (hl : xs.length = 2) : fnAt cst T (k + 1) m "_law_worths" xs h = runFn 5 (LB.b__law_worths (fnAt cst T k) m) xs h := by
  show (match T.find? (fun fd => decide (fd.name = ("_law_worths" : Str))) with | none => none | some fd => _) = _
  rw [at__law_worths]
  show (if xs.length = 2 then _ else none) = _
  rw [if_pos hl]
  cases m
  · exact congrArg (fun b => runFn 5 b xs h) (c__law_worths _)
  · exact congrArg (fun b => runFn 5 b xs h) (ct__law_worths _)
instance i__law_worths : Is (fnAt cst T) "_law_worths" 2 5 LB.b__law_worths := ⟨r__law_worths⟩
theorem c__law_wishes (Φ : Bool → Str → Fn) : cB ⟨fd__law_wishes.N, fd__law_wishes.mv, cst, T.map (·.name), Φ⟩ false (defScope fd__law_wishes.st) (defBody fd__law_wishes.st) = LB.b__law_wishes Φ false := by kernel_rfl
theorem ct__law_wishes (Φ : Bool → Str → Fn) : cB ⟨fd__law_wishes.N, fd__law_wishes.mv, cst, T.map (·.name), Φ⟩ true (defScope fd__law_wishes.st) (defBody fd__law_wishes.st) = LB.b__law_wishes Φ true := by kernel_rfl
theorem at__law_wishes : T.find? (fun fd => decide (fd.name = ("_law_wishes" : Str))) = some fd__law_wishes := by kernel_rfl
theorem r__law_wishes (k : Nat) (m : Bool) (xs : List Val) (h : MH) (hl : xs.length = 3) : fnAt cst T (k + 1) m "_law_wishes" xs h = runFn 8 (LB.b__law_wishes (fnAt cst T k) m) xs h := by
  show (match T.find? (fun fd => decide (fd.name = ("_law_wishes" : Str))) with | none => none | some fd => _) = _
  rw [at__law_wishes]
  show (if xs.length = 3 then _ else none) = _
  rw [if_pos hl]
  cases m
  · exact congrArg (fun b => runFn 8 b xs h) (c__law_wishes _)
  · exact congrArg (fun b => runFn 8 b xs h) (ct__law_wishes _)
instance i__law_wishes : Is (fnAt cst T) "_law_wishes" 3 8 LB.b__law_wishes := ⟨r__law_wishes⟩
theorem c__law_great (Φ : Bool → Str → Fn) : cB ⟨fd__law_great.N, fd__law_great.mv, cst, T.map (·.name), Φ⟩ false (defScope fd__law_great.st) (defBody fd__law_great.st) = LB.b__law_great Φ false := by kernel_rfl
theorem ct__law_great (Φ : Bool → Str → Fn) : cB ⟨fd__law_great.N, fd__law_great.mv, cst, T.map (·.name), Φ⟩ true (defScope fd__law_great.st) (defBody fd__law_great.st) = LB.b__law_great Φ true := by kernel_rfl
theorem at__law_great : T.find? (fun fd => decide (fd.name = ("_law_great" : Str))) = some fd__law_great := by kernel_rfl
theorem r__law_great (k : Nat) (m : Bool) (xs : List Val) (h : MH) (hl : xs.length = 1) : fnAt cst T (k + 1) m "_law_great" xs h = runFn 8 (LB.b__law_great (fnAt cst T k) m) xs h := by
  show (match T.find? (fun fd => decide (fd.name = ("_law_great" : Str))) with | none => none | some fd => _) = _
  rw [at__law_great]
  show (if xs.length = 1 then _ else none) = _
  rw [if_pos hl]
  cases m
  · exact congrArg (fun b => runFn 8 b xs h) (c__law_great _)
  · exact congrArg (fun b => runFn 8 b xs h) (ct__law_great _)
instance i__law_great : Is (fnAt cst T) "_law_great" 1 8 LB.b__law_great := ⟨r__law_great⟩
theorem c__law_some_wishes (Φ : Bool → Str → Fn) : cB ⟨fd__law_some_wishes.N, fd__law_some_wishes.mv, cst, T.map (·.name), Φ⟩ false (defScope fd__law_some_wishes.st) (defBody fd__law_some_wishes.st) = LB.b__law_some_wishes Φ false := by kernel_rfl
theorem ct__law_some_wishes (Φ : Bool → Str → Fn) : cB ⟨fd__law_some_wishes.N, fd__law_some_wishes.mv, cst, T.map (·.name), Φ⟩ true (defScope fd__law_some_wishes.st) (defBody fd__law_some_wishes.st) = LB.b__law_some_wishes Φ true := by kernel_rfl
theorem at__law_some_wishes : T.find? (fun fd => decide (fd.name = ("_law_some_wishes" : Str))) = some fd__law_some_wishes := by kernel_rfl
theorem r__law_some_wishes (k : Nat) (m : Bool) (xs : List Val) (h : MH) (hl : xs.length = 1) : fnAt cst T (k + 1) m "_law_some_wishes" xs h = runFn 1 (LB.b__law_some_wishes (fnAt cst T k) m) xs h := by
  show (match T.find? (fun fd => decide (fd.name = ("_law_some_wishes" : Str))) with | none => none | some fd => _) = _
  rw [at__law_some_wishes]
  show (if xs.length = 1 then _ else none) = _
  rw [if_pos hl]
  cases m
  · exact congrArg (fun b => runFn 1 b xs h) (c__law_some_wishes _)
  · exact congrArg (fun b => runFn 1 b xs h) (ct__law_some_wishes _)
instance i__law_some_wishes : Is (fnAt cst T) "_law_some_wishes" 1 1 LB.b__law_some_wishes := ⟨r__law_some_wishes⟩
theorem c__law_gone (Φ : Bool → Str → Fn) : cB ⟨fd__law_gone.N, fd__law_gone.mv, cst, T.map (·.name), Φ⟩ false (defScope fd__law_gone.st) (defBody fd__law_gone.st) = LB.b__law_gone_2 Φ false := by kernel_rfl
theorem ct__law_gone (Φ : Bool → Str → Fn) : cB ⟨fd__law_gone.N, fd__law_gone.mv, cst, T.map (·.name), Φ⟩ true (defScope fd__law_gone.st) (defBody fd__law_gone.st) = LB.b__law_gone_2 Φ true := by kernel_rfl
theorem at__law_gone : T.find? (fun fd => decide (fd.name = ("_law_gone" : Str))) = some fd__law_gone := by kernel_rfl
theorem r__law_gone (k : Nat) (m : Bool) (xs : List Val) (h : MH) (hl : xs.length = 2) : fnAt cst T (k + 1) m "_law_gone" xs h = runFn 9 (LB.b__law_gone_2 (fnAt cst T k) m) xs h := by
  show (match T.find? (fun fd => decide (fd.name = ("_law_gone" : Str))) with | none => none | some fd => _) = _
  rw [at__law_gone]
  show (if xs.length = 2 then _ else none) = _
  rw [if_pos hl]
  cases m
  · exact congrArg (fun b => runFn 9 b xs h) (c__law_gone _)
  · exact congrArg (fun b => runFn 9 b xs h) (ct__law_gone _)
instance i__law_gone : Is (fnAt cst T) "_law_gone" 2 9 LB.b__law_gone_2 := ⟨r__law_gone⟩
theorem c__law_plans_right (Φ : Bool → Str → Fn) : cB ⟨fd__law_plans_right.N, fd__law_plans_right.mv, cst, T.map (·.name), Φ⟩ false (defScope fd__law_plans_right.st) (defBody fd__law_plans_right.st) = LB.b__law_plans_right Φ false := by kernel_rfl
theorem ct__law_plans_right (Φ : Bool → Str → Fn) : cB ⟨fd__law_plans_right.N, fd__law_plans_right.mv, cst, T.map (·.name), Φ⟩ true (defScope fd__law_plans_right.st) (defBody fd__law_plans_right.st) = LB.b__law_plans_right Φ true := by kernel_rfl
theorem at__law_plans_right : T.find? (fun fd => decide (fd.name = ("_law_plans_right" : Str))) = some fd__law_plans_right := by kernel_rfl
theorem r__law_plans_right (k : Nat) (m : Bool) (xs : List Val) (h : MH) (hl : xs.length = 3) : fnAt cst T (k + 1) m "_law_plans_right" xs h = runFn 14 (LB.b__law_plans_right (fnAt cst T k) m) xs h := by
  show (match T.find? (fun fd => decide (fd.name = ("_law_plans_right" : Str))) with | none => none | some fd => _) = _
  rw [at__law_plans_right]
  show (if xs.length = 3 then _ else none) = _
  rw [if_pos hl]
  cases m
  · exact congrArg (fun b => runFn 14 b xs h) (c__law_plans_right _)
  · exact congrArg (fun b => runFn 14 b xs h) (ct__law_plans_right _)
instance i__law_plans_right : Is (fnAt cst T) "_law_plans_right" 3 14 LB.b__law_plans_right := ⟨r__law_plans_right⟩
theorem c__law_asks_right (Φ : Bool → Str → Fn) : cB ⟨fd__law_asks_right.N, fd__law_asks_right.mv, cst, T.map (·.name), Φ⟩ false (defScope fd__law_asks_right.st) (defBody fd__law_asks_right.st) = LB.b__law_asks_right Φ false := by kernel_rfl
theorem ct__law_asks_right (Φ : Bool → Str → Fn) : cB ⟨fd__law_asks_right.N, fd__law_asks_right.mv, cst, T.map (·.name), Φ⟩ true (defScope fd__law_asks_right.st) (defBody fd__law_asks_right.st) = LB.b__law_asks_right Φ true := by kernel_rfl
theorem at__law_asks_right : T.find? (fun fd => decide (fd.name = ("_law_asks_right" : Str))) = some fd__law_asks_right := by kernel_rfl
theorem r__law_asks_right (k : Nat) (m : Bool) (xs : List Val) (h : MH) (hl : xs.length = 2) : fnAt cst T (k + 1) m "_law_asks_right" xs h = runFn 14 (LB.b__law_asks_right (fnAt cst T k) m) xs h := by
  show (match T.find? (fun fd => decide (fd.name = ("_law_asks_right" : Str))) with | none => none | some fd => _) = _
  rw [at__law_asks_right]
  show (if xs.length = 2 then _ else none) = _
  rw [if_pos hl]
  cases m
  · exact congrArg (fun b => runFn 14 b xs h) (c__law_asks_right _)
  · exact congrArg (fun b => runFn 14 b xs h) (ct__law_asks_right _)
instance i__law_asks_right : Is (fnAt cst T) "_law_asks_right" 2 14 LB.b__law_asks_right := ⟨r__law_asks_right⟩
theorem c__law_without_right (Φ : Bool → Str → Fn) : cB ⟨fd__law_without_right.N, fd__law_without_right.mv, cst, T.map (·.name), Φ⟩ false (defScope fd__law_without_right.st) (defBody fd__law_without_right.st) = LB.b__law_without_right Φ false := by kernel_rfl
theorem ct__law_without_right (Φ : Bool → Str → Fn) : cB ⟨fd__law_without_right.N, fd__law_without_right.mv, cst, T.map (·.name), Φ⟩ true (defScope fd__law_without_right.st) (defBody fd__law_without_right.st) = LB.b__law_without_right Φ true := by kernel_rfl
theorem at__law_without_right : T.find? (fun fd => decide (fd.name = ("_law_without_right" : Str))) = some fd__law_without_right := by kernel_rfl
theorem r__law_without_right (k : Nat) (m : Bool) (xs : List Val) (h : MH) (hl : xs.length = 2) : fnAt cst T (k + 1) m "_law_without_right" xs h = runFn 13 (LB.b__law_without_right (fnAt cst T k) m) xs h := by
  show (match T.find? (fun fd => decide (fd.name = ("_law_without_right" : Str))) with | none => none | some fd => _) = _
  rw [at__law_without_right]
  show (if xs.length = 2 then _ else none) = _
  rw [if_pos hl]
  cases m
  · exact congrArg (fun b => runFn 13 b xs h) (c__law_without_right _)
  · exact congrArg (fun b => runFn 13 b xs h) (ct__law_without_right _)
instance i__law_without_right : Is (fnAt cst T) "_law_without_right" 2 13 LB.b__law_without_right := ⟨r__law_without_right⟩
theorem c_law (Φ : Bool → Str → Fn) : cB ⟨fd_law.N, fd_law.mv, cst, T.map (·.name), Φ⟩ false (defScope fd_law.st) (defBody fd_law.st) = LB.b_law_12 Φ false := by kernel_rfl
theorem ct_law (Φ : Bool → Str → Fn) : cB ⟨fd_law.N, fd_law.mv, cst, T.map (·.name), Φ⟩ true (defScope fd_law.st) (defBody fd_law.st) = LB.b_law_12 Φ true := by kernel_rfl
theorem at_law : T.find? (fun fd => decide (fd.name = ("law" : Str))) = some fd_law := by kernel_rfl
theorem r_law (k : Nat) (m : Bool) (xs : List Val) (h : MH) (hl : xs.length = 1) : fnAt cst T (k + 1) m "law" xs h = runFn 13 (LB.b_law_12 (fnAt cst T k) m) xs h := by
  show (match T.find? (fun fd => decide (fd.name = ("law" : Str))) with | none => none | some fd => _) = _
  rw [at_law]
  show (if xs.length = 1 then _ else none) = _
  rw [if_pos hl]
  cases m
  · exact congrArg (fun b => runFn 13 b xs h) (c_law _)
  · exact congrArg (fun b => runFn 13 b xs h) (ct_law _)
instance i_law : Is (fnAt cst T) "law" 1 13 LB.b_law_12 := ⟨r_law⟩
end L06
end
section
set_option Elab.async false
set_option linter.all false
set_option maxRecDepth 100000
set_option maxHeartbeats 4000000
/-! wishes, bounds, asks, answers -/
namespace DE
open PySem PySem.Spec L2 PyProof.Rows
local macro_rules | `(tactic| walk_at "ev") => `(tactic| simp only [W_some, W_none, W_ite, W_eC, W_eV, W_aNil, W_aCons, W_e1, W_e2, W_eN, W_eTup, W_eLst, W_eDct, W_eAnd, W_eOr, W_eNot, W_tB, W_tAnd, W_tOr, W_tNot, W_tYes, W_eIf, W_eChain, W_oNone, W_oSome, W_eSl, W_itV, W_itR,
  W_eM0, W_eM1, W_eMethL, W_eCall, W_sNil, W_sSet, W_sSetB, W_bTup, W_bNil, W_bCons, bName_W, W_sExpr, W_sRet, W_sIf, W_sFor, W_sPut, nxt_nx, nxt_rt, W_rt, W_nx, W_obind, aList, rd, rds, fz, fzs, mk_false, asB_b, asI_i, asS_s,
  List.getElem?_cons_zero, List.getElem?_cons_succ, List.set_cons_zero, List.set_cons_succ, Option.some.injEq, exists_eq_left', exists_eq_left, Val.r.injEq, MO.l.injEq, List.length_cons, List.length_nil, wipeS, Bool.not_true, Bool.not_false, if_true, if_false, Bool.false_eq_true, reduceIte, isi_int_none, isi_int_bool, isi_int_int, isi_int_str, isi_int_list, isi_int_tuple, isi_int_dict, isi_bool_none, isi_bool_bool, isi_bool_int, isi_bool_str, isi_bool_list, isi_bool_tuple, isi_bool_dict, isi_str_none, isi_str_bool, isi_str_int, isi_str_str, isi_str_list, isi_str_tuple, isi_str_dict, isi_tuple_none, isi_tuple_bool, isi_tuple_int, isi_tuple_str, isi_tuple_list, isi_tuple_tuple, isi_tuple_dict, isi_list_none, isi_list_bool, isi_list_int, isi_list_str, isi_list_list, isi_list_tuple, isi_list_dict, isi_dict_none, isi_dict_bool, isi_dict_int, isi_dict_str, isi_dict_list, isi_dict_tuple, isi_dict_dict, sizeLine_eq, Nat.reduceAdd, Nat.reduceSub, List.reduceReplicate, Nat.reduceLeDiff, Nat.zero_le, true_and, and_true, List.map_cons, List.map_nil, List.zip_nil_left, eq_self_iff_true, seqD, mk_tl, List.cons_append, List.nil_append, itD_l, itD_t,
  gIdx_t, gIdx_l, atI_0, atI_1, atI_2, atI_3, atI_4, atI_5, gAdd_i, gSub_i, gNeg_i, gEq_i, gEq_s, gEq_b, gNe_i, gNe_s, gNe_b, gLt_i, gLe_i, gGt_i, gGe_i, gIsN_n, gNotN_n, gIsN_b, gNotN_b, gLen_l, gLen_t, gTuple_l, gTuple_t, gList_l, gList_t, gRev_l, gRev_t, gInt_b, gInt_i, isN_none, isN_int, isN_str, isN_bool, isN_tup, isN_list, Val.t.injEq, PyData.bool.injEq, enc_eqT, enc_neT, enc_eqT0, enc_neT0, enc_eqL, enc_neL, enc_eqL0, enc_neL0, rtP_rt, W_itZ, two_some, zip2_t, zip2_l, List.length_map, Int.cast_ofNat_Int, decide_true, decide_false, Int.reduceLE, Int.reduceLT, Int.reduceEq, Int.reduceNeg, Int.reduceAdd, Int.reduceSub, Bool.and_self, Bool.true_and, Bool.and_true, Bool.false_and, Bool.and_false])
local macro_rules | `(tactic| walk_at "go") => `(tactic| repeat (first | walk_at "ev" | with_reducible refine seqC ?_ | with_reducible refine Cont.set ?_ | with_reducible refine Cont.expr ?_ | with_reducible refine Cont.ret ?_ | with_reducible refine Cont.nil ?_ | with_reducible refine Cont.put ?_ | with_reducible refine Cont.for ?_ | with_reducible refine Cont.while ?_ | with_reducible refine Cont.setB ?_))
local macro_rules | `(tactic| walk_at "if") => `(tactic| (refine Cont.mk ?_; walk_at "go"))
abbrev BB := List (Str × List Int)
abbrev AA := List (Str × Int)
def b1 (p : Str × List Int) : PyData := .tuple [.str p.1, .tuple (p.2.map PyData.int)]
def a1 (p : Str × Int) : PyData := .tuple [.str p.1, .int p.2]
instance : EncF a1 := ⟨fun a b => by
    obtain ⟨a, c⟩ := a; obtain ⟨b, d⟩ := b
    by_cases h1 : a = b <;> by_cases h2 : c = d <;> simp [a1, PyData.eqv, PyData.eqvAll, h1, h2], fun _ => rfl, fun _ => by simp [a1, PyData.depth, PyData.depthAll]⟩
theorem depth_ints0 (ws : List Int) : PyData.depthAll (ws.map PyData.int) = 0 := by
  induction ws with
  | nil => rfl
  | cons w ws ih => simp only [List.map_cons, PyData.depthAll, PyData.depth, ih]; rfl
instance : EncF b1 := ⟨fun a b => by
    obtain ⟨a, c⟩ := a; obtain ⟨b, d⟩ := b
    have := enc_eqvs PyData.int c d
    by_cases h1 : a = b <;> by_cases h2 : c = d <;> simp [b1, PyData.eqv, PyData.eqvAll, h1, h2, this, enc_eqvs], fun a => by simp [b1, PyData.plain, PyData.plainAll, enc_plains], fun a => by
    simp only [b1, PyData.depth, PyData.depthAll, depth_ints0]; decide⟩
theorem in_a1T {k : Str} {w : Int} {as : AA} : gInD (.tuple [.str k, .int w]) (.tuple (as.map a1)) = some (.bool (decide ((k, w) ∈ as))) := enc_inT (f := a1) (a := (k, w))
theorem nin_a1T {k : Str} {w : Int} {as : AA} : gNotInD (.tuple [.str k, .int w]) (.tuple (as.map a1)) = some (.bool !(decide ((k, w) ∈ as))) := enc_ninT (f := a1) (a := (k, w))
theorem in_a1L {k : Str} {w : Int} {as : AA} : gInD (.tuple [.str k, .int w]) (.list (as.map a1)) = some (.bool (decide ((k, w) ∈ as))) := enc_inL (f := a1) (a := (k, w))
theorem nin_a1L {k : Str} {w : Int} {as : AA} : gNotInD (.tuple [.str k, .int w]) (.list (as.map a1)) = some (.bool !(decide ((k, w) ∈ as))) := enc_ninL (f := a1) (a := (k, w))
theorem in_iT {w : Int} {as : List Int} : gInD (.int w) (.tuple (as.map PyData.int)) = some (.bool (decide (w ∈ as))) := enc_inT
theorem nin_iT {w : Int} {as : List Int} : gNotInD (.int w) (.tuple (as.map PyData.int)) = some (.bool !(decide (w ∈ as))) := enc_ninT
theorem in_iL {w : Int} {as : List Int} : gInD (.int w) (.list (as.map PyData.int)) = some (.bool (decide (w ∈ as))) := enc_inL
theorem nin_iL {w : Int} {as : List Int} : gNotInD (.int w) (.list (as.map PyData.int)) = some (.bool !(decide (w ∈ as))) := enc_ninL
theorem in_sT {w : Str} {as : List Str} : gInD (.str w) (.tuple (as.map PyData.str)) = some (.bool (decide (w ∈ as))) := enc_inT
theorem nin_sT {w : Str} {as : List Str} : gNotInD (.str w) (.tuple (as.map PyData.str)) = some (.bool !(decide (w ∈ as))) := enc_ninT
theorem in_sL {w : Str} {as : List Str} : gInD (.str w) (.list (as.map PyData.str)) = some (.bool (decide (w ∈ as))) := enc_inL
theorem nin_sL {w : Str} {as : List Str} : gNotInD (.str w) (.list (as.map PyData.str)) = some (.bool !(decide (w ∈ as))) := enc_ninL
/-! ### dicts of bounds, of pairs -/
section
variable {β : Type} {v : β → PyData}
def look (bs : List (Str × β)) (k : Str) : Option β := (bs.find? fun p => decide (p.1 = k)).map (·.2)
def ent (v : β → PyData) (bs : List (Str × β)) : List (PyData × PyData) := bs.map fun p => (PyData.str p.1, v p.2)
theorem look_mem {bs : List (Str × β)} (h : (bs.map (·.1)).Nodup) {k : Str} {w : β} : look bs k = some w ↔ (k, w) ∈ bs := by
  unfold look
  constructor
  · intro e
    obtain ⟨p, hp, rfl⟩ := Option.map_eq_some_iff.mp e
    have h1 := List.mem_of_find?_eq_some hp
    have h2 : p.1 = k := by have z := List.find?_some hp; simpa using z
    rw [← h2]
    exact h1
  · intro hm
    induction bs with
    | nil => cases hm
    | cons p cs ih =>
      rw [List.find?_cons]
      rw [List.map_cons, List.nodup_cons] at h
      rcases List.mem_cons.mp hm with e | hm
      · subst e
        simp
      · have : ¬ p.1 = k := fun z => h.1 (z ▸ List.mem_map_of_mem (f := fun q : Str × β => q.1) hm)
        simp only [this, decide_false]
        exact ih h.2 hm
theorem look_some {bs : List (Str × β)} {k : Str} {w : β} (e : look bs k = some w) : (k, w) ∈ bs := by
  unfold look at e
  obtain ⟨p, hp, rfl⟩ := Option.map_eq_some_iff.mp e
  have h2 : p.1 = k := by have z := List.find?_some hp; simpa using z
  rw [← h2]
  exact List.mem_of_find?_eq_some hp
end
def strange (bs : BB) (as : AA) : AA := as.filter fun p => !(look bs p.1).isSome
def bad (bs : BB) (as : AA) : AA := (as.filter fun p => !(decide (p.2 ∈ (look bs p.1).getD []))).map fun p => (p.1, ((look bs p.1).getD []).headD 0)
/-- the word and the pairs of an answer -/
def ans (bs : BB) (as : AA) : Str × AA := if strange bs as = [] then (if bad bs as = [] then ("yes", as) else ("rather", bad bs as)) else ("no", strange bs as)
def sD (p : Str × AA) : PyData := .tuple [.str p.1, .tuple (p.2.map a1)]
section
variable {F : Nat → Bool → Str → Fn}
end
end DE
end
section
set_option Elab.async false
set_option linter.all false
set_option maxRecDepth 100000
set_option maxHeartbeats 4000000
/-! what laws draw: kinds, worths, wishes, bounds -/
namespace DE
open PySem PySem.Spec L2 PyProof.Rows
local macro_rules | `(tactic| walk_at "ev") => `(tactic| simp only [W_some, W_none, W_ite, W_eC, W_eV, W_aNil, W_aCons, W_e1, W_e2, W_eN, W_eTup, W_eLst, W_eDct, W_eAnd, W_eOr, W_eNot, W_tB, W_tAnd, W_tOr, W_tNot, W_tYes, W_eIf, W_eChain, W_oNone, W_oSome, W_eSl, W_itV, W_itR,
  W_eM0, W_eM1, W_eMethL, W_eCall, W_sNil, W_sSet, W_sSetB, W_bTup, W_bNil, W_bCons, bName_W, W_sExpr, W_sRet, W_sIf, W_sFor, W_sPut, nxt_nx, nxt_rt, W_rt, W_nx, W_obind, aList, rd, rds, fz, fzs, mk_false, asB_b, asI_i, asS_s,
  List.getElem?_cons_zero, List.getElem?_cons_succ, List.set_cons_zero, List.set_cons_succ, Option.some.injEq, exists_eq_left', exists_eq_left, Val.r.injEq, MO.l.injEq, List.length_cons, List.length_nil, wipeS, Bool.not_true, Bool.not_false, if_true, if_false, Bool.false_eq_true, reduceIte, isi_int_none, isi_int_bool, isi_int_int, isi_int_str, isi_int_list, isi_int_tuple, isi_int_dict, isi_bool_none, isi_bool_bool, isi_bool_int, isi_bool_str, isi_bool_list, isi_bool_tuple, isi_bool_dict, isi_str_none, isi_str_bool, isi_str_int, isi_str_str, isi_str_list, isi_str_tuple, isi_str_dict, isi_tuple_none, isi_tuple_bool, isi_tuple_int, isi_tuple_str, isi_tuple_list, isi_tuple_tuple, isi_tuple_dict, isi_list_none, isi_list_bool, isi_list_int, isi_list_str, isi_list_list, isi_list_tuple, isi_list_dict, isi_dict_none, isi_dict_bool, isi_dict_int, isi_dict_str, isi_dict_list, isi_dict_tuple, isi_dict_dict, sizeLine_eq, Nat.reduceAdd, Nat.reduceSub, List.reduceReplicate, Nat.reduceLeDiff, Nat.zero_le, true_and, and_true, List.map_cons, List.map_nil, List.zip_nil_left, eq_self_iff_true, seqD, mk_tl, List.cons_append, List.nil_append, itD_l, itD_t,
  gIdx_t, gIdx_l, atI_0, atI_1, atI_2, atI_3, atI_4, atI_5, gAdd_i, gSub_i, gNeg_i, gEq_i, gEq_s, gEq_b, gNe_i, gNe_s, gNe_b, gLt_i, gLe_i, gGt_i, gGe_i, gIsN_n, gNotN_n, gIsN_b, gNotN_b, gLen_l, gLen_t, gTuple_l, gTuple_t, gList_l, gList_t, gRev_l, gRev_t, gInt_b, gInt_i, isN_none, isN_int, isN_str, isN_bool, isN_tup, isN_list, Val.t.injEq, PyData.bool.injEq, enc_eqT, enc_neT, enc_eqT0, enc_neT0, enc_eqL, enc_neL, enc_eqL0, enc_neL0, rtP_rt, W_itZ, two_some, zip2_t, zip2_l, List.length_map, Int.cast_ofNat_Int, decide_true, decide_false, Int.reduceLE, Int.reduceLT, Int.reduceEq, Int.reduceNeg, Int.reduceAdd, Int.reduceSub, Bool.and_self, Bool.true_and, Bool.and_true, Bool.false_and, Bool.and_false, in_a1T, nin_a1T, in_a1L, nin_a1L, in_iT, nin_iT, in_iL, nin_iL, in_sT, nin_sT, in_sL, nin_sL])
local macro_rules | `(tactic| walk_at "go") => `(tactic| repeat (first | walk_at "ev" | with_reducible refine seqC ?_ | with_reducible refine Cont.set ?_ | with_reducible refine Cont.expr ?_ | with_reducible refine Cont.ret ?_ | with_reducible refine Cont.nil ?_ | with_reducible refine Cont.put ?_ | with_reducible refine Cont.for ?_ | with_reducible refine Cont.while ?_ | with_reducible refine Cont.setB ?_))
local macro_rules | `(tactic| walk_at "if") => `(tactic| (refine Cont.mk ?_; walk_at "go"))
structure Wish where
  k : Str
  ws : List Int
  must : Bool
  nd : Option (Str × Int)
deriving DecidableEq
def ndD : Option (Str × Int) → PyData
  | none => .none
  | some p => a1 p
def wD (w : Wish) : PyData := .tuple [.str w.k, .tuple (w.ws.map PyData.int), .bool w.must, ndD w.nd]
instance : EncF ndD := ⟨fun a b => by
    cases a <;> cases b <;> simp only [ndD]
    · rfl
    · rfl
    · rfl
    · rw [EncF.eqv]; simp, fun a => by cases a <;> rfl, fun a => by cases a <;> simp [ndD, a1, PyData.depth, PyData.depthAll]⟩
instance : EncF wD := ⟨fun a b => by
    obtain ⟨a1, a2, a3, a4⟩ := a; obtain ⟨b1, b2, b3, b4⟩ := b
    have h4 := EncF.eqv (f := ndD) a4 b4
    simp only [wD, PyData.eqv, PyData.eqvAll, enc_eqvs, h4, Bool.and_true, beqd, Wish.mk.injEq, Bool.decide_and], fun a => by
    have := EncF.plain (f := ndD) a.nd
    simp only [wD, PyData.plain, PyData.plainAll, enc_plains, this, Bool.and_self], fun a => by
    have := EncF.depth (f := ndD) a.nd
    have : (ndD a.nd).depth ≤ 1 := by cases a.nd <;> simp [ndD, a1, PyData.depth, PyData.depthAll]
    simp only [wD, PyData.depth, PyData.depthAll, depth_ints0]
    omega⟩
inductive NdOk : List Wish → Prop
  | nil : NdOk []
  | snoc {ws : List Wish} {w : Wish} : NdOk ws → (∀ p, w.nd = some p → ∃ v ∈ ws, p.1 = v.k ∧ p.2 ∈ v.ws ++ [4]) → NdOk (ws ++ [w])
/-- one to so many unlike worths -/
def WW : List Int := W8 ++ [8888, 8887, 8886, 8885, 8884]
theorem w8_WW {x : Int} (h : x ∈ W8) : x ∈ WW := List.mem_append_left _ h
def WsOk (most : Int) (ws : List Int) : Prop := ws ≠ [] ∧ (ws.length : Int) ≤ most ∧ ws.Nodup ∧ ∀ x ∈ ws, x ∈ WW
structure OkW (ks : List Str) (most : Int) (ws : List Wish) : Prop where
  kinds : (ws.map (·.k)).Perm ks
  worths : ∀ w ∈ ws, WsOk most w.ws
  needs : NdOk ws
section
variable {F : Nat → Bool → Str → Fn} [Is F "_law_draw" 2 8 LB.b__law_draw] {k n b : Nat} {h : MH} {es : List (PyData × PyData)} {P : Val × MH → Prop}
theorem hdrawF : ∀ xs h, xs.length = 2 → F (k + 1) false "_law_draw" xs h = runFn 8 (bDraw false) xs h := fun xs h hl => Is.eq (b := LB.b__law_draw) k false xs h hl
theorem drawF {many : Int} (hn : h[n]? = some (.d es)) (hp : PenOk b es) (hb : b ≤ 1000000) (h0 : 0 < many) (h9 : many < 1000000000)
    (q : ∀ (i : Int) (es' : List (PyData × PyData)), 0 ≤ i → i < many → PenOk (b + 1) es' → P (.t (.int i), h.set n (.d es'))) : W (callIn (F (k + 1) false "_law_draw") [.r n, .t (.int many)] h) P :=
  drawP hdrawF hn hp hb h0 h9 q
theorem kindsF [Is F "_law_kinds" 2 4 LB.b__law_kinds] (hn : h[n]? = some (.d es)) (hp : PenOk b es) (hb : b ≤ 900000) {many : Int} (h0 : 0 ≤ many) (h1 : many ≤ 12)
    (q : ∀ (ks : List Str) (es' : List (PyData × PyData)), (ks.length : Int) = many → ks.Nodup → (∀ x ∈ ks, x ∈ K12) → PenOk (b + 12) es' → P (.t (.list (ks.map PyData.str)), h.set n (.d es'))) :
    W (callIn (F (k + 2) false "_law_kinds") [.r n, .t (.int many)] h) P := by
  refine callP [.int many] hn ?_
  rw [Is.eq (b := LB.b__law_kinds) (F := F) (n := 2) (slots := 4) (k + 1) false _ _ rfl]
  exact kinds_W hdrawF hp hb h0 h1 fun ks es' os a1 a2 a3 a4 => ⟨_, _, _, rfl, q ks es' a1 a2 a3 a4⟩
theorem worthsF [Is F "_law_worths" 2 5 LB.b__law_worths] (hn : h[n]? = some (.d es)) (hp : PenOk b es) (hb : b ≤ 900000) {most : Int} (h0 : 1 ≤ most) (h1 : most ≤ 8)
    (q : ∀ (ws : List Int) (es' : List (PyData × PyData)), WsOk most ws → PenOk (b + 17) es' → P (.t (.tuple (ws.map PyData.int)), h.set n (.d es'))) :
    W (callIn (F (k + 2) false "_law_worths") [.r n, .t (.int most)] h) P := by
  refine callP [.int most] hn ?_
  rw [Is.eq (b := LB.b__law_worths) (F := F) (n := 2) (slots := 5) (k + 1) false _ _ rfl]
  exact worths_W hdrawF hp hb h0 h1 fun ks es' os a1 a2 a3 a4 a5 => ⟨_, _, _, rfl, q ks es' ⟨by intro z; subst z; simp at a1, a2, a3, fun x hx => w8_WW (a4 x hx)⟩ a5⟩
theorem append_W {xs : List PyData} {d : PyData} {P : PyData × List PyData → Prop} (hl : xs.length < 16777216) : W (gAppend xs [d]) P ↔ P (.none, xs ++ [d]) := by
  simp only [gAppend, sizeLine_eq, hl, if_true, W_some]
end
end DE
end
section
set_option Elab.async false
set_option linter.all false
set_option maxRecDepth 100000
set_option maxHeartbeats 4000000
/-! wishes and bounds drawn -/
namespace DE
open PySem PySem.Spec L2 PyProof.Rows
local macro_rules | `(tactic| walk_at "ev") => `(tactic| simp only [W_some, W_none, W_ite, W_eC, W_eV, W_aNil, W_aCons, W_e1, W_e2, W_eN, W_eTup, W_eLst, W_eDct, W_eAnd, W_eOr, W_eNot, W_tB, W_tAnd, W_tOr, W_tNot, W_tYes, W_eIf, W_eChain, W_oNone, W_oSome, W_eSl, W_itV, W_itR,
  W_eM0, W_eM1, W_eMethL, W_eCall, W_sNil, W_sSet, W_sSetB, W_bTup, W_bNil, W_bCons, bName_W, W_sExpr, W_sRet, W_sIf, W_sFor, W_sPut, nxt_nx, nxt_rt, W_rt, W_nx, W_obind, aList, rd, rds, fz, fzs, mk_false, asB_b, asI_i, asS_s,
  List.getElem?_cons_zero, List.getElem?_cons_succ, List.set_cons_zero, List.set_cons_succ, Option.some.injEq, exists_eq_left', exists_eq_left, Val.r.injEq, MO.l.injEq, List.length_cons, List.length_nil, wipeS, Bool.not_true, Bool.not_false, if_true, if_false, Bool.false_eq_true, reduceIte, isi_int_none, isi_int_bool, isi_int_int, isi_int_str, isi_int_list, isi_int_tuple, isi_int_dict, isi_bool_none, isi_bool_bool, isi_bool_int, isi_bool_str, isi_bool_list, isi_bool_tuple, isi_bool_dict, isi_str_none, isi_str_bool, isi_str_int, isi_str_str, isi_str_list, isi_str_tuple, isi_str_dict, isi_tuple_none, isi_tuple_bool, isi_tuple_int, isi_tuple_str, isi_tuple_list, isi_tuple_tuple, isi_tuple_dict, isi_list_none, isi_list_bool, isi_list_int, isi_list_str, isi_list_list, isi_list_tuple, isi_list_dict, isi_dict_none, isi_dict_bool, isi_dict_int, isi_dict_str, isi_dict_list, isi_dict_tuple, isi_dict_dict, sizeLine_eq, Nat.reduceAdd, Nat.reduceSub, List.reduceReplicate, Nat.reduceLeDiff, Nat.zero_le, true_and, and_true, List.map_cons, List.map_nil, List.zip_nil_left, eq_self_iff_true, seqD, mk_tl, List.cons_append, List.nil_append, itD_l, itD_t,
  gIdx_t, gIdx_l, atI_0, atI_1, atI_2, atI_3, atI_4, atI_5, gAdd_i, gSub_i, gNeg_i, gEq_i, gEq_s, gEq_b, gNe_i, gNe_s, gNe_b, gLt_i, gLe_i, gGt_i, gGe_i, gIsN_n, gNotN_n, gIsN_b, gNotN_b, gLen_l, gLen_t, gTuple_l, gTuple_t, gList_l, gList_t, gRev_l, gRev_t, gInt_b, gInt_i, isN_none, isN_int, isN_str, isN_bool, isN_tup, isN_list, Val.t.injEq, PyData.bool.injEq, enc_eqT, enc_neT, enc_eqT0, enc_neT0, enc_eqL, enc_neL, enc_eqL0, enc_neL0, rtP_rt, W_itZ, two_some, zip2_t, zip2_l, List.length_map, Int.cast_ofNat_Int, decide_true, decide_false, Int.reduceLE, Int.reduceLT, Int.reduceEq, Int.reduceNeg, Int.reduceAdd, Int.reduceSub, Bool.and_self, Bool.true_and, Bool.and_true, Bool.false_and, Bool.and_false, in_a1T, nin_a1T, in_a1L, nin_a1L, in_iT, nin_iT, in_iL, nin_iL, in_sT, nin_sT, in_sL, nin_sL])
local macro_rules | `(tactic| walk_at "go") => `(tactic| repeat (first | walk_at "ev" | with_reducible refine seqC ?_ | with_reducible refine Cont.set ?_ | with_reducible refine Cont.expr ?_ | with_reducible refine Cont.ret ?_ | with_reducible refine Cont.nil ?_ | with_reducible refine Cont.put ?_ | with_reducible refine Cont.for ?_ | with_reducible refine Cont.while ?_ | with_reducible refine Cont.setB ?_))
local macro_rules | `(tactic| walk_at "if") => `(tactic| (refine Cont.mk ?_; walk_at "go"))
structure OkB (bs : BB) : Prop where
  nd : (bs.map (·.1)).Nodup
  len : bs.length ≤ 8
  ok : ∀ p ∈ bs, (p.1 ∈ K12 ∨ p.1 = "qq") ∧ WsOk 8 p.2
theorem WsOk.more {m m' : Int} {ws : List Int} (h : WsOk m ws) (hm : m ≤ m') : WsOk m' ws := ⟨h.1, by have := h.2.1; omega, h.2.2.1, h.2.2.2⟩
section
variable {F : Nat → Bool → Str → Fn} [Is F "_law_draw" 2 8 LB.b__law_draw] [Is F "_law_worths" 2 5 LB.b__law_worths] {k n b : Nat} {h : MH} {es : List (PyData × PyData)} {P : Val × MH → Prop}
theorem wishesF [Is F "_law_wishes" 3 8 LB.b__law_wishes] (hn : h[n]? = some (.d es)) (hp : PenOk b es) (hb : b ≤ 800000) {ks : List Str} (hkk : ∀ x ∈ ks, x ∈ K12) (hkl : ks.length ≤ 6) {most : Int} (m0 : 1 ≤ most) (m1 : most ≤ 8)
    (q : ∀ (ws : List Wish) (es' : List (PyData × PyData)), OkW ks most ws → PenOk (b + 300) es' → P (.t (.tuple (ws.map wD)), h.set n (.d es'))) :
    W (callIn (F (k + 3) false "_law_wishes") [.r n, .t (.list (ks.map PyData.str)), .t (.int most)] h) P := by
  refine callP [.list (ks.map PyData.str), .int most] hn (Is.pen (b := LB.b__law_wishes) (slots := 8) rfl ?_)
  unfold LB.b__law_wishes
  walk_at "go"
  refine whileGo_ret (fun n σ h => ∃ (rem : List Str) (fs : List Wish) (es : List (PyData × PyData)) (s5 s6 s7 : Option Val), h = [.d es, .l (rem.map PyData.str), .l (fs.map wD)] ∧ σ = [some (.r 0), some (.t (.list (ks.map PyData.str))), some (.t (.int most)), some (.r 1), some (.r 2), s5, s6, s7] ∧
    rem.length = n ∧ (fs.map (·.k) ++ rem).Perm ks ∧ (∀ w ∈ fs, WsOk most w.ws) ∧ NdOk fs ∧ PenOk (b + 40 * (6 - rem.length)) es) (n := ks.length) (by omega) ⟨ks, [], es, none, none, none, rfl, rfl, rfl, by simp, by simp, .nil, hp.more (by omega)⟩ ?_
  rintro n σ h ⟨rem, fs, es, s5, s6, s7, rfl, rfl, rfl, hpm, hws, hnd, hp⟩
  have hlen := hpm.length_eq
  rw [List.length_append, List.length_map] at hlen
  walk_at "go"
  cases rem with
  | nil =>
    simp only [decide_true]
    walk_at "go"
    rw [List.append_nil] at hpm
    exact ⟨_, _, _, rfl, q fs es ⟨hpm, hws, hnd⟩ (hp.more (by omega))⟩
  | cons x rem =>
    simp only [List.length_cons] at hlen hp
    simp only [reduceCtorEq, decide_false]
    walk_at "go"
    refine drawF rfl hp (by omega) (by omega) (by omega) fun i es1 i0 i1 hp1 => ?_
    walk_at "go"
    rw [← List.map_cons]
    refine pop_take PyData.str (rest := x :: rem) i0 (by simpa using i1) (by simp only [List.length_cons]; omega) fun y rest' hpr => ?_
    have hpm2 : (fs.map (·.k) ++ y :: rest').Perm ks := (List.Perm.append_left _ hpr).trans hpm
    have hrl : rest'.length = rem.length := by have := hpr.length_eq; simpa using this
    walk_at "go"
    refine Cont.join (fun σ h => ∃ es2 nd s7, σ = [some (.r 0), some (.t (.list (ks.map PyData.str))), some (.t (.int most)), some (.r 1), some (.r 2), some (.t (.str y)), some (.t (ndD nd)), s7] ∧ h = [.d es2, .l (rest'.map PyData.str), .l (fs.map wD)] ∧
      (∀ p, nd = some p → ∃ v ∈ fs, p.1 = v.k ∧ p.2 ∈ v.ws ++ [4]) ∧ PenOk (b + 40 * (6 - (rem.length + 1)) + 4) es2) ?_ ?_
    rotate_left
    · rintro σ h ⟨es2, nd, s7, rfl, rfl, hnd2, hp2⟩
      walk_at "go"
      refine worthsF rfl hp2 (by omega) m0 m1 fun ws es3 okw hp3 => ?_
      walk_at "go"
      refine drawF rfl hp3 (by omega) (by omega) (by omega) fun j es4 j0 j1 hp4 => ?_
      walk_at "go"
      rw [append_W (by rw [List.length_map]; omega)]
      walk_at "go"
      refine ⟨rem.length, by omega, rest', fs ++ [⟨y, ws, decide (j = 0), nd⟩], es4, _, _, _, by simp [wD], rfl, hrl, ?_, ?_, .snoc hnd hnd2, hp4.more (by omega)⟩
      · simpa [List.append_assoc] using hpm2
      · intro w hw
        rcases List.mem_append.mp hw with hw | hw
        · exact hws w hw
        · simp only [List.mem_cons, List.not_mem_nil, or_false] at hw
          subst hw
          exact okw
    walk_at "go"
    by_cases hfe : fs = []
    · simp only [hfe, decide_true]
      walk_at "go"
      exact ⟨es1, none, _, rfl, rfl, by simp, hp1.more (by omega)⟩
    simp only [hfe, decide_false]
    walk_at "go"
    refine drawF rfl hp1 (by omega) (by omega) (by omega) fun j es2 j0 j1 hp2 => ?_
    walk_at "go"
    by_cases hj : j = 0
    rotate_left
    · simp only [hj, decide_false]
      walk_at "go"
      exact ⟨es2, none, _, rfl, rfl, by simp, hp2.more (by omega)⟩
    simp only [hj, decide_true]
    walk_at "go"
    have hfl : 1 ≤ fs.length := by
      cases fs with
      | nil => exact absurd rfl hfe
      | cons a b => simp
    refine drawF rfl hp2 (by omega) (by omega) (by omega) fun l es3 l0 l1 hp3 => ?_
    walk_at "go"
    obtain ⟨v, hv, e⟩ := atI_enc wD (as := fs) l0 (by simpa using l1)
    rw [e]
    have hvl := (hws v hv).2.1
    have hadd : gAdd (.tuple (v.ws.map PyData.int)) (.tuple [.int 4]) = some (.tuple ((v.ws ++ [4]).map PyData.int)) := by
      simp only [gAdd]
      rw [if_pos (by rw [sizeLine_eq]; simp only [List.length_map, List.length_cons, List.length_nil]; omega)]
      simp
    simp only [wD]
    walk_at "go"
    simp only [hadd]
    walk_at "go"
    refine drawF rfl hp3 (by omega) (by omega) (by omega) fun z es4 z0 z1 hp4 => ?_
    walk_at "go"
    obtain ⟨u, hu, e⟩ := atI_enc PyData.int (as := v.ws ++ [4]) z0 (by simp only [List.length_append, List.length_cons, List.length_nil]; omega)
    rw [e]
    walk_at "go"
    exact ⟨es4, some (v.k, u), _, rfl, rfl, fun p hp => by cases hp; exact ⟨v, hv, rfl, hu⟩, hp4.more (by omega)⟩
end
end DE
end
section
set_option Elab.async false
set_option linter.all false
set_option maxRecDepth 100000
set_option maxHeartbeats 4000000
/-! plans, asks, cases -/
namespace DE
open PySem PySem.Spec L2 PyProof.Rows
local macro_rules | `(tactic| walk_at "ev") => `(tactic| simp only [W_some, W_none, W_ite, W_eC, W_eV, W_aNil, W_aCons, W_e1, W_e2, W_eN, W_eTup, W_eLst, W_eDct, W_eAnd, W_eOr, W_eNot, W_tB, W_tAnd, W_tOr, W_tNot, W_tYes, W_eIf, W_eChain, W_oNone, W_oSome, W_eSl, W_itV, W_itR,
  W_eM0, W_eM1, W_eMethL, W_eCall, W_sNil, W_sSet, W_sSetB, W_bTup, W_bNil, W_bCons, bName_W, W_sExpr, W_sRet, W_sIf, W_sFor, W_sPut, nxt_nx, nxt_rt, W_rt, W_nx, W_obind, aList, rd, rds, fz, fzs, mk_false, asB_b, asI_i, asS_s,
  List.getElem?_cons_zero, List.getElem?_cons_succ, List.set_cons_zero, List.set_cons_succ, Option.some.injEq, exists_eq_left', exists_eq_left, Val.r.injEq, MO.l.injEq, List.length_cons, List.length_nil, wipeS, Bool.not_true, Bool.not_false, if_true, if_false, Bool.false_eq_true, reduceIte, isi_int_none, isi_int_bool, isi_int_int, isi_int_str, isi_int_list, isi_int_tuple, isi_int_dict, isi_bool_none, isi_bool_bool, isi_bool_int, isi_bool_str, isi_bool_list, isi_bool_tuple, isi_bool_dict, isi_str_none, isi_str_bool, isi_str_int, isi_str_str, isi_str_list, isi_str_tuple, isi_str_dict, isi_tuple_none, isi_tuple_bool, isi_tuple_int, isi_tuple_str, isi_tuple_list, isi_tuple_tuple, isi_tuple_dict, isi_list_none, isi_list_bool, isi_list_int, isi_list_str, isi_list_list, isi_list_tuple, isi_list_dict, isi_dict_none, isi_dict_bool, isi_dict_int, isi_dict_str, isi_dict_list, isi_dict_tuple, isi_dict_dict, sizeLine_eq, Nat.reduceAdd, Nat.reduceSub, List.reduceReplicate, Nat.reduceLeDiff, Nat.zero_le, true_and, and_true, List.map_cons, List.map_nil, List.zip_nil_left, eq_self_iff_true, seqD, mk_tl, List.cons_append, List.nil_append, itD_l, itD_t,
  gIdx_t, gIdx_l, atI_0, atI_1, atI_2, atI_3, atI_4, atI_5, gAdd_i, gSub_i, gNeg_i, gEq_i, gEq_s, gEq_b, gNe_i, gNe_s, gNe_b, gLt_i, gLe_i, gGt_i, gGe_i, gIsN_n, gNotN_n, gIsN_b, gNotN_b, gLen_l, gLen_t, gTuple_l, gTuple_t, gList_l, gList_t, gRev_l, gRev_t, gInt_b, gInt_i, isN_none, isN_int, isN_str, isN_bool, isN_tup, isN_list, Val.t.injEq, PyData.bool.injEq, enc_eqT, enc_neT, enc_eqT0, enc_neT0, enc_eqL, enc_neL, enc_eqL0, enc_neL0, rtP_rt, W_itZ, two_some, zip2_t, zip2_l, List.length_map, Int.cast_ofNat_Int, decide_true, decide_false, Int.reduceLE, Int.reduceLT, Int.reduceEq, Int.reduceNeg, Int.reduceAdd, Int.reduceSub, Bool.and_self, Bool.true_and, Bool.and_true, Bool.false_and, Bool.and_false, in_a1T, nin_a1T, in_a1L, nin_a1L, in_iT, nin_iT, in_iL, nin_iL, in_sT, nin_sT, in_sL, nin_sL])
local macro_rules | `(tactic| walk_at "go") => `(tactic| repeat (first | walk_at "ev" | with_reducible refine seqC ?_ | with_reducible refine Cont.set ?_ | with_reducible refine Cont.expr ?_ | with_reducible refine Cont.ret ?_ | with_reducible refine Cont.nil ?_ | with_reducible refine Cont.put ?_ | with_reducible refine Cont.for ?_ | with_reducible refine Cont.while ?_ | with_reducible refine Cont.setB ?_))
local macro_rules | `(tactic| walk_at "if") => `(tactic| (refine Cont.mk ?_; walk_at "go"))
/-- the plan of wishes without what is refused -/
def planOf (ws : List Wish) (ref : AA) : BB := ws.map fun w => (w.k, w.ws.filter fun x => !decide ((w.k, x) ∈ ref) && !decide ((w.k, -1) ∈ ref))
def askSt (acc : AA) (p : Wish × (Str × List Int)) : AA := match p.2.2 with
  | [] => acc
  | x :: _ => if (p.1.nd.all fun q => decide (q ∈ acc)) = true then acc ++ [(p.2.1, x)] else acc
/-- the ask of a plan -/
def askOf (ws : List Wish) (pl : BB) : AA := (ws.zip pl).foldl askSt []
theorem askSt_len (acc : AA) (p : Wish × (Str × List Int)) : (askSt acc p).length ≤ acc.length + 1 := by
  unfold askSt
  split
  · omega
  · split
    · simp
    · omega
section
variable {F : Nat → Bool → Str → Fn} {k n b : Nat} {h : MH} {es : List (PyData × PyData)} {P : Val × MH → Prop}
end
end DE
end
section
set_option Elab.async false
set_option linter.all false
set_option maxRecDepth 100000
set_option maxHeartbeats 4000000
/-! cases, free answers -/
namespace DE
open PySem PySem.Spec L2 PyProof.Rows
local macro_rules | `(tactic| walk_at "ev") => `(tactic| simp only [W_some, W_none, W_ite, W_eC, W_eV, W_aNil, W_aCons, W_e1, W_e2, W_eN, W_eTup, W_eLst, W_eDct, W_eAnd, W_eOr, W_eNot, W_tB, W_tAnd, W_tOr, W_tNot, W_tYes, W_eIf, W_eChain, W_oNone, W_oSome, W_eSl, W_itV, W_itR,
  W_eM0, W_eM1, W_eMethL, W_eCall, W_sNil, W_sSet, W_sSetB, W_bTup, W_bNil, W_bCons, bName_W, W_sExpr, W_sRet, W_sIf, W_sFor, W_sPut, nxt_nx, nxt_rt, W_rt, W_nx, W_obind, aList, rd, rds, fz, fzs, mk_false, asB_b, asI_i, asS_s,
  List.getElem?_cons_zero, List.getElem?_cons_succ, List.set_cons_zero, List.set_cons_succ, Option.some.injEq, exists_eq_left', exists_eq_left, Val.r.injEq, MO.l.injEq, List.length_cons, List.length_nil, wipeS, Bool.not_true, Bool.not_false, if_true, if_false, Bool.false_eq_true, reduceIte, isi_int_none, isi_int_bool, isi_int_int, isi_int_str, isi_int_list, isi_int_tuple, isi_int_dict, isi_bool_none, isi_bool_bool, isi_bool_int, isi_bool_str, isi_bool_list, isi_bool_tuple, isi_bool_dict, isi_str_none, isi_str_bool, isi_str_int, isi_str_str, isi_str_list, isi_str_tuple, isi_str_dict, isi_tuple_none, isi_tuple_bool, isi_tuple_int, isi_tuple_str, isi_tuple_list, isi_tuple_tuple, isi_tuple_dict, isi_list_none, isi_list_bool, isi_list_int, isi_list_str, isi_list_list, isi_list_tuple, isi_list_dict, isi_dict_none, isi_dict_bool, isi_dict_int, isi_dict_str, isi_dict_list, isi_dict_tuple, isi_dict_dict, sizeLine_eq, Nat.reduceAdd, Nat.reduceSub, List.reduceReplicate, Nat.reduceLeDiff, Nat.zero_le, true_and, and_true, List.map_cons, List.map_nil, List.zip_nil_left, eq_self_iff_true, seqD, mk_tl, List.cons_append, List.nil_append, itD_l, itD_t,
  gIdx_t, gIdx_l, atI_0, atI_1, atI_2, atI_3, atI_4, atI_5, gAdd_i, gSub_i, gNeg_i, gEq_i, gEq_s, gEq_b, gNe_i, gNe_s, gNe_b, gLt_i, gLe_i, gGt_i, gGe_i, gIsN_n, gNotN_n, gIsN_b, gNotN_b, gLen_l, gLen_t, gTuple_l, gTuple_t, gList_l, gList_t, gRev_l, gRev_t, gInt_b, gInt_i, isN_none, isN_int, isN_str, isN_bool, isN_tup, isN_list, Val.t.injEq, PyData.bool.injEq, enc_eqT, enc_neT, enc_eqT0, enc_neT0, enc_eqL, enc_neL, enc_eqL0, enc_neL0, rtP_rt, W_itZ, two_some, zip2_t, zip2_l, List.length_map, Int.cast_ofNat_Int, decide_true, decide_false, Int.reduceLE, Int.reduceLT, Int.reduceEq, Int.reduceNeg, Int.reduceAdd, Int.reduceSub, Bool.and_self, Bool.true_and, Bool.and_true, Bool.false_and, Bool.and_false, in_a1T, nin_a1T, in_a1L, nin_a1L, in_iT, nin_iT, in_iL, nin_iL, in_sT, nin_sT, in_sL, nin_sL])
local macro_rules | `(tactic| walk_at "go") => `(tactic| repeat (first | walk_at "ev" | with_reducible refine seqC ?_ | with_reducible refine Cont.set ?_ | with_reducible refine Cont.expr ?_ | with_reducible refine Cont.ret ?_ | with_reducible refine Cont.nil ?_ | with_reducible refine Cont.put ?_ | with_reducible refine Cont.for ?_ | with_reducible refine Cont.while ?_ | with_reducible refine Cont.setB ?_))
local macro_rules | `(tactic| walk_at "if") => `(tactic| (refine Cont.mk ?_; walk_at "go"))
structure OkWs (ws : List Wish) : Prop where
  nd : (ws.map (·.k)).Nodup
  kinds : ∀ w ∈ ws, w.k ∈ K12
  len : ws.length ≤ 6
  worths : ∀ w ∈ ws, WsOk 8 w.ws
  needs : NdOk ws
theorem OkW.all {ks : List Str} {most : Int} {ws : List Wish} (h : OkW ks most ws) (hn : ks.Nodup) (hk : ∀ x ∈ ks, x ∈ K12) (hl : ks.length ≤ 6) (hm : most ≤ 8) : OkWs ws :=
  ⟨h.kinds.nodup_iff.mpr hn, fun w hw => hk _ (h.kinds.subset (List.mem_map_of_mem hw)), by have := h.kinds.length_eq; simp at this; omega, fun w hw => (h.worths w hw).more hm, h.needs⟩
section
variable {F : Nat → Bool → Str → Fn} [Is F "_law_draw" 2 8 LB.b__law_draw] [Is F "_law_worths" 2 5 LB.b__law_worths] [Is F "_law_kinds" 2 4 LB.b__law_kinds] [Is F "_law_bounds" 3 5 LB.b__law_bounds] [Is F "_law_wishes" 3 8 LB.b__law_wishes] {k n b : Nat} {h : MH} {es : List (PyData × PyData)} {P : Val × MH → Prop}
end
end DE
end
section
set_option Elab.async false
set_option linter.all false
set_option maxRecDepth 100000
set_option maxHeartbeats 4000000
/-! looks at any thing -/
namespace DE
open PySem PySem.Spec L2 PyProof.Rows
theorem gAll_map {α : Type} (g : α → Bool) (l : List α) : gAll (.list (l.map fun c => PyData.bool (g c))) = some (.bool (l.all g)) := by
  have : ∀ l : List α, asBools (l.map fun c => PyData.bool (g c)) = some (l.map g) := by
    intro l
    induction l with
    | nil => rfl
    | cons a l ih => simp only [List.map_cons, asBools, ih]
  simp only [gAll, this, List.all_map]
  rfl
theorem gAny_map {α : Type} (g : α → Bool) (l : List α) : gAny (.list (l.map fun c => PyData.bool (g c))) = some (.bool (l.any g)) := by
  have : ∀ l : List α, asBools (l.map fun c => PyData.bool (g c)) = some (l.map g) := by
    intro l
    induction l with
    | nil => rfl
    | cons a l ih => simp only [List.map_cons, asBools, ih]
  simp only [gAny, this, List.any_map]
  rfl
theorem in_S {c : Nat} {y : Str} : gInD (.str ⟨#[c]⟩) (.str y) = some (.bool (decide (c ∈ y.cps.toList))) := rfl
theorem nin_S {c : Nat} {y : Str} : gNotInD (.str ⟨#[c]⟩) (.str y) = some (.bool !(decide (c ∈ y.cps.toList))) := rfl
theorem filter_tt {α : Type} (l : List α) : l.filter (fun _ => true) = l := List.filter_eq_self.mpr fun _ _ => rfl
local macro_rules | `(tactic| walk_at "ev") => `(tactic| simp only [W_some, W_none, W_ite, W_eC, W_eV, W_aNil, W_aCons, W_e1, W_e2, W_eN, W_eTup, W_eLst, W_eDct, W_eAnd, W_eOr, W_eNot, W_tB, W_tAnd, W_tOr, W_tNot, W_tYes, W_eIf, W_eChain, W_oNone, W_oSome, W_eSl, W_itV, W_itR,
  W_eM0, W_eM1, W_eMethL, W_eCall, W_sNil, W_sSet, W_sSetB, W_bTup, W_bNil, W_bCons, bName_W, W_sExpr, W_sRet, W_sIf, W_sFor, W_sPut, nxt_nx, nxt_rt, W_rt, W_nx, W_obind, aList, rd, rds, fz, fzs, mk_false, asB_b, asI_i, asS_s,
  List.getElem?_cons_zero, List.getElem?_cons_succ, List.set_cons_zero, List.set_cons_succ, Option.some.injEq, exists_eq_left', exists_eq_left, Val.r.injEq, MO.l.injEq, List.length_cons, List.length_nil, wipeS, Bool.not_true, Bool.not_false, if_true, if_false, Bool.false_eq_true, reduceIte, isi_int_none, isi_int_bool, isi_int_int, isi_int_str, isi_int_list, isi_int_tuple, isi_int_dict, isi_bool_none, isi_bool_bool, isi_bool_int, isi_bool_str, isi_bool_list, isi_bool_tuple, isi_bool_dict, isi_str_none, isi_str_bool, isi_str_int, isi_str_str, isi_str_list, isi_str_tuple, isi_str_dict, isi_tuple_none, isi_tuple_bool, isi_tuple_int, isi_tuple_str, isi_tuple_list, isi_tuple_tuple, isi_tuple_dict, isi_list_none, isi_list_bool, isi_list_int, isi_list_str, isi_list_list, isi_list_tuple, isi_list_dict, isi_dict_none, isi_dict_bool, isi_dict_int, isi_dict_str, isi_dict_list, isi_dict_tuple, isi_dict_dict, sizeLine_eq, Nat.reduceAdd, Nat.reduceSub, List.reduceReplicate, Nat.reduceLeDiff, Nat.zero_le, true_and, and_true, List.map_cons, List.map_nil, List.zip_nil_left, eq_self_iff_true, seqD, mk_tl, List.cons_append, List.nil_append, itD_l, itD_t,
  gIdx_t, gIdx_l, atI_0, atI_1, atI_2, atI_3, atI_4, atI_5, gAdd_i, gSub_i, gNeg_i, gEq_i, gEq_s, gEq_b, gNe_i, gNe_s, gNe_b, gLt_i, gLe_i, gGt_i, gGe_i, gIsN_n, gNotN_n, gIsN_b, gNotN_b, gLen_l, gLen_t, gTuple_l, gTuple_t, gList_l, gList_t, gRev_l, gRev_t, gInt_b, gInt_i, isN_none, isN_int, isN_str, isN_bool, isN_tup, isN_list, Val.t.injEq, PyData.bool.injEq, enc_eqT, enc_neT, enc_eqT0, enc_neT0, enc_eqL, enc_neL, enc_eqL0, enc_neL0, rtP_rt, W_itZ, two_some, zip2_t, zip2_l, List.length_map, Int.cast_ofNat_Int, decide_true, decide_false, Int.reduceLE, Int.reduceLT, Int.reduceEq, Int.reduceNeg, Int.reduceAdd, Int.reduceSub, Bool.and_self, Bool.true_and, Bool.and_true, Bool.false_and, Bool.and_false, in_a1T, nin_a1T, in_a1L, nin_a1L, in_iT, nin_iT, in_iL, nin_iL, in_sT, nin_sT, in_sL, nin_sL, gAll_map, gAny_map, in_S, nin_S, filter_tt])
local macro_rules | `(tactic| walk_at "go") => `(tactic| repeat (first | walk_at "ev" | with_reducible refine seqC ?_ | with_reducible refine Cont.set ?_ | with_reducible refine Cont.expr ?_ | with_reducible refine Cont.ret ?_ | with_reducible refine Cont.nil ?_ | with_reducible refine Cont.put ?_ | with_reducible refine Cont.for ?_ | with_reducible refine Cont.while ?_ | with_reducible refine Cont.setB ?_))
local macro_rules | `(tactic| walk_at "if") => `(tactic| (refine Cont.mk ?_; walk_at "go"))
def sg (c : Nat) : PyData := .str ⟨#[c]⟩
instance : EncF sg := ⟨fun a b => by
    have h : ((⟨#[a]⟩ : Str) = ⟨#[b]⟩) ↔ a = b := by simp
    simp only [sg, PyData.eqv, beqd, h], fun _ => rfl, fun _ => by simp [sg, PyData.depth]⟩
theorem in_sg {c : Nat} {y : Str} : gInD (sg c) (.str y) = some (.bool (decide (c ∈ y.cps.toList))) := rfl
theorem nin_sg {c : Nat} {y : Str} : gNotInD (sg c) (.str y) = some (.bool !(decide (c ∈ y.cps.toList))) := rfl
local macro_rules | `(tactic| walk_at "ev") => `(tactic| simp only [W_some, W_none, W_ite, W_eC, W_eV, W_aNil, W_aCons, W_e1, W_e2, W_eN, W_eTup, W_eLst, W_eDct, W_eAnd, W_eOr, W_eNot, W_tB, W_tAnd, W_tOr, W_tNot, W_tYes, W_eIf, W_eChain, W_oNone, W_oSome, W_eSl, W_itV, W_itR,
  W_eM0, W_eM1, W_eMethL, W_eCall, W_sNil, W_sSet, W_sSetB, W_bTup, W_bNil, W_bCons, bName_W, W_sExpr, W_sRet, W_sIf, W_sFor, W_sPut, nxt_nx, nxt_rt, W_rt, W_nx, W_obind, aList, rd, rds, fz, fzs, mk_false, asB_b, asI_i, asS_s,
  List.getElem?_cons_zero, List.getElem?_cons_succ, List.set_cons_zero, List.set_cons_succ, Option.some.injEq, exists_eq_left', exists_eq_left, Val.r.injEq, MO.l.injEq, List.length_cons, List.length_nil, wipeS, Bool.not_true, Bool.not_false, if_true, if_false, Bool.false_eq_true, reduceIte, isi_int_none, isi_int_bool, isi_int_int, isi_int_str, isi_int_list, isi_int_tuple, isi_int_dict, isi_bool_none, isi_bool_bool, isi_bool_int, isi_bool_str, isi_bool_list, isi_bool_tuple, isi_bool_dict, isi_str_none, isi_str_bool, isi_str_int, isi_str_str, isi_str_list, isi_str_tuple, isi_str_dict, isi_tuple_none, isi_tuple_bool, isi_tuple_int, isi_tuple_str, isi_tuple_list, isi_tuple_tuple, isi_tuple_dict, isi_list_none, isi_list_bool, isi_list_int, isi_list_str, isi_list_list, isi_list_tuple, isi_list_dict, isi_dict_none, isi_dict_bool, isi_dict_int, isi_dict_str, isi_dict_list, isi_dict_tuple, isi_dict_dict, sizeLine_eq, Nat.reduceAdd, Nat.reduceSub, List.reduceReplicate, Nat.reduceLeDiff, Nat.zero_le, true_and, and_true, List.map_cons, List.map_nil, List.zip_nil_left, eq_self_iff_true, seqD, mk_tl, List.cons_append, List.nil_append, itD_l, itD_t,
  gIdx_t, gIdx_l, atI_0, atI_1, atI_2, atI_3, atI_4, atI_5, gAdd_i, gSub_i, gNeg_i, gEq_i, gEq_s, gEq_b, gNe_i, gNe_s, gNe_b, gLt_i, gLe_i, gGt_i, gGe_i, gIsN_n, gNotN_n, gIsN_b, gNotN_b, gLen_l, gLen_t, gTuple_l, gTuple_t, gList_l, gList_t, gRev_l, gRev_t, gInt_b, gInt_i, isN_none, isN_int, isN_str, isN_bool, isN_tup, isN_list, Val.t.injEq, PyData.bool.injEq, enc_eqT, enc_neT, enc_eqT0, enc_neT0, enc_eqL, enc_neL, enc_eqL0, enc_neL0, rtP_rt, W_itZ, two_some, zip2_t, zip2_l, List.length_map, Int.cast_ofNat_Int, decide_true, decide_false, Int.reduceLE, Int.reduceLT, Int.reduceEq, Int.reduceNeg, Int.reduceAdd, Int.reduceSub, Bool.and_self, Bool.true_and, Bool.and_true, Bool.false_and, Bool.and_false, in_a1T, nin_a1T, in_a1L, nin_a1L, in_iT, nin_iT, in_iL, nin_iL, in_sT, nin_sT, in_sL, nin_sL, gAll_map, gAny_map, in_S, nin_S, filter_tt, in_sg, nin_sg])
local macro_rules | `(tactic| walk_at "go") => `(tactic| repeat (first | walk_at "ev" | with_reducible refine seqC ?_ | with_reducible refine Cont.set ?_ | with_reducible refine Cont.expr ?_ | with_reducible refine Cont.ret ?_ | with_reducible refine Cont.nil ?_ | with_reducible refine Cont.put ?_ | with_reducible refine Cont.for ?_ | with_reducible refine Cont.while ?_ | with_reducible refine Cont.setB ?_))
local macro_rules | `(tactic| walk_at "if") => `(tactic| (refine Cont.mk ?_; walk_at "go"))
def abc : Str := "abcdefghijklmnopqrstuvwxyz"
def isWo (d : PyData) : Bool := match d with
  | .int i => decide (0 ≤ i) && decide (i ≤ 9999)
  | _ => false
def nameOk (x : Str) : Bool := decide (1 ≤ x.length) && (decide (x.length ≤ 8) && x.cps.toList.all fun c => decide (c ∈ abc.cps.toList))
def isNm (d : PyData) : Bool := match d with
  | .str x => nameOk x
  | _ => false
def isPr (d : PyData) : Bool := match d with
  | .tuple [a, b] => isNm a && isWo b
  | _ => false
def arePrs (d : PyData) : Bool := match d with
  | .tuple xs => xs.all isPr
  | _ => false
def isSd (d : PyData) : Bool := match d with
  | .tuple [.str _, b] => arePrs b
  | _ => false
theorem Gd.tup {L N : Nat} {xs : List PyData} (h : Gd L N (.tuple xs)) : xs.length ≤ N ∧ ∀ x ∈ xs, Gd L N x := by
  obtain ⟨h1, h2⟩ := h
  simp only [okd, DE.cnt] at h1 h2
  have := len_cnts xs
  refine ⟨by omega, ?_⟩
  clear this
  induction xs with
  | nil => intro x hx; cases hx
  | cons y xs ih =>
    simp only [okds, Bool.and_eq_true, DE.cnts] at h1 h2
    intro x hx
    rcases List.mem_cons.mp hx with rfl | hx
    · exact ⟨h1.1, by omega⟩
    · exact ih h1.2 (by omega) x hx
theorem Gd.strLen {L N : Nat} {x : Str} (h : Gd L N (.str x)) : x.length ≤ L := txt_len h.1
section
variable {F : Nat → Bool → Str → Fn} {k L N : Nat} {d : PyData}
theorem is_worth_ret [Is F "is_worth" 1 1 LB.b_is_worth] : Ret (F (k + 1) false "is_worth") [d] (.bool (isWo d)) := by
  refine Is.ret (slots := 1) (b := LB.b_is_worth) rfl ?_
  unfold LB.b_is_worth
  walk_at "go"
  cases d <;> walk_at "go"
  all_goals try rfl
  rename_i i
  by_cases h1 : 0 ≤ i <;> simp [h1, isWo]
theorem is_name_ret [Is F "is_name" 1 2 LB.b_is_name] (h : Gd L N d) (hL : L ≤ 16777216) : Ret (F (k + 1) false "is_name") [d] (.bool (isNm d)) := by
  refine Is.ret (slots := 2) (b := LB.b_is_name) rfl ?_
  unfold LB.b_is_name
  walk_at "go"
  cases d <;> walk_at "go"
  all_goals try rfl
  rename_i x
  have hl : x.length ≤ 16777216 := Nat.le_trans h.strLen hL
  simp only [gLen, sizeLine_eq, hl]
  walk_at "go"
  have h1 : (1 : Int) ≤ (x.length : Int) ↔ 1 ≤ x.length := by omega
  have h2 : (x.length : Int) ≤ 8 ↔ x.length ≤ 8 := by omega
  simp only [h1, h2]
  by_cases c1 : 1 ≤ x.length
  rotate_left
  · simp [c1, isNm, nameOk]
  by_cases c2 : x.length ≤ 8
  rotate_left
  · simp [c1, c2, isNm, nameOk]
  simp only [c1, c2, decide_true]
  walk_at "go"
  have e0 : x.cps.toList.length = x.length := by simp [Str.length]
  refine comp_to (fun c => PyData.str ⟨#[c]⟩) (fun _ => true) (fun c => PyData.bool (decide (c ∈ abc.cps.toList))) (as := x.cps.toList) ?_ (by rw [e0]; omega) (fun c hc => ?_) ?_
  · walk_at "go"
    simp only [itD, sizeLine_eq, hl, if_true, W_some]
    rfl
  · walk_at "go"
    exact fun _ => rfl
  walk_at "go"
  simp [isNm, nameOk, c1, c2]
theorem is_tuple_ret [Is F "is_tuple" 3 3 LB.b_is_tuple] {lo hi : Int} : Ret (F (k + 1) false "is_tuple") [d, .int lo, .int hi] (.bool (match d with | .tuple xs => decide (lo ≤ (xs.length : Int)) && decide ((xs.length : Int) ≤ hi) | _ => false)) := by
  refine Is.ret (slots := 3) (b := LB.b_is_tuple) rfl ?_
  unfold LB.b_is_tuple
  walk_at "go"
  cases d <;> walk_at "go"
  rename_i xs
  by_cases h1 : lo ≤ (xs.length : Int) <;> simp [h1]
theorem two_or {xs : List PyData} : (∃ a b, xs = [a, b]) ∨ xs.length ≠ 2 := by
  match xs with
  | [] => exact .inr (by simp)
  | [_] => exact .inr (by simp)
  | [a, b] => exact .inl ⟨a, b, rfl⟩
  | _ :: _ :: _ :: _ => exact .inr (by simp)
theorem is_pair_ret [Is F "is_tuple" 3 3 LB.b_is_tuple] [Is F "is_name" 1 2 LB.b_is_name] [Is F "is_worth" 1 1 LB.b_is_worth] [Is F "is_pair" 1 1 LB.b_is_pair_2] (h : Gd L N d) (hL : L ≤ 16777216) : Ret (F (k + 2) false "is_pair") [d] (.bool (isPr d)) := by
  refine Is.ret (slots := 1) (b := LB.b_is_pair_2) rfl ?_
  unfold LB.b_is_pair_2
  walk_at "go"
  rw [is_tuple_ret.w3]
  walk_at "go"
  cases d with
  | tuple xs =>
    rcases two_or (xs := xs) with ⟨a, b, rfl⟩ | hx
    · walk_at "go"
      rw [(is_name_ret (h.tup.2 a (by simp)) hL).w1]
      walk_at "go"
      rw [is_worth_ret.w1]
      cases hq : isNm a <;> simp [isPr, hq]
    · have : (decide ((2 : Int) ≤ (xs.length : Int)) && decide ((xs.length : Int) ≤ 2)) = false := by
        rw [Bool.eq_false_iff]; intro z; simp at z; omega
      simp only [this]
      walk_at "go"
      match xs, hx with
      | [], _ => rfl
      | [_], _ => rfl
      | _ :: _ :: _ :: _, _ => rfl
  | _ => walk_at "go"; rfl
end
end DE
end
section
set_option Elab.async false
set_option linter.all false
set_option maxRecDepth 100000
set_option maxHeartbeats 4000000
/-! what is an answer -/
namespace DE
open PySem PySem.Spec L2 PyProof.Rows
local macro_rules | `(tactic| walk_at "ev") => `(tactic| simp only [W_some, W_none, W_ite, W_eC, W_eV, W_aNil, W_aCons, W_e1, W_e2, W_eN, W_eTup, W_eLst, W_eDct, W_eAnd, W_eOr, W_eNot, W_tB, W_tAnd, W_tOr, W_tNot, W_tYes, W_eIf, W_eChain, W_oNone, W_oSome, W_eSl, W_itV, W_itR,
  W_eM0, W_eM1, W_eMethL, W_eCall, W_sNil, W_sSet, W_sSetB, W_bTup, W_bNil, W_bCons, bName_W, W_sExpr, W_sRet, W_sIf, W_sFor, W_sPut, nxt_nx, nxt_rt, W_rt, W_nx, W_obind, aList, rd, rds, fz, fzs, mk_false, asB_b, asI_i, asS_s,
  List.getElem?_cons_zero, List.getElem?_cons_succ, List.set_cons_zero, List.set_cons_succ, Option.some.injEq, exists_eq_left', exists_eq_left, Val.r.injEq, MO.l.injEq, List.length_cons, List.length_nil, wipeS, Bool.not_true, Bool.not_false, if_true, if_false, Bool.false_eq_true, reduceIte, isi_int_none, isi_int_bool, isi_int_int, isi_int_str, isi_int_list, isi_int_tuple, isi_int_dict, isi_bool_none, isi_bool_bool, isi_bool_int, isi_bool_str, isi_bool_list, isi_bool_tuple, isi_bool_dict, isi_str_none, isi_str_bool, isi_str_int, isi_str_str, isi_str_list, isi_str_tuple, isi_str_dict, isi_tuple_none, isi_tuple_bool, isi_tuple_int, isi_tuple_str, isi_tuple_list, isi_tuple_tuple, isi_tuple_dict, isi_list_none, isi_list_bool, isi_list_int, isi_list_str, isi_list_list, isi_list_tuple, isi_list_dict, isi_dict_none, isi_dict_bool, isi_dict_int, isi_dict_str, isi_dict_list, isi_dict_tuple, isi_dict_dict, sizeLine_eq, Nat.reduceAdd, Nat.reduceSub, List.reduceReplicate, Nat.reduceLeDiff, Nat.zero_le, true_and, and_true, List.map_cons, List.map_nil, List.zip_nil_left, eq_self_iff_true, seqD, mk_tl, List.cons_append, List.nil_append, itD_l, itD_t,
  gIdx_t, gIdx_l, atI_0, atI_1, atI_2, atI_3, atI_4, atI_5, gAdd_i, gSub_i, gNeg_i, gEq_i, gEq_s, gEq_b, gNe_i, gNe_s, gNe_b, gLt_i, gLe_i, gGt_i, gGe_i, gIsN_n, gNotN_n, gIsN_b, gNotN_b, gLen_l, gLen_t, gTuple_l, gTuple_t, gList_l, gList_t, gRev_l, gRev_t, gInt_b, gInt_i, isN_none, isN_int, isN_str, isN_bool, isN_tup, isN_list, Val.t.injEq, PyData.bool.injEq, enc_eqT, enc_neT, enc_eqT0, enc_neT0, enc_eqL, enc_neL, enc_eqL0, enc_neL0, rtP_rt, W_itZ, two_some, zip2_t, zip2_l, List.length_map, Int.cast_ofNat_Int, decide_true, decide_false, Int.reduceLE, Int.reduceLT, Int.reduceEq, Int.reduceNeg, Int.reduceAdd, Int.reduceSub, Bool.and_self, Bool.true_and, Bool.and_true, Bool.false_and, Bool.and_false, in_a1T, nin_a1T, in_a1L, nin_a1L, in_iT, nin_iT, in_iL, nin_iL, in_sT, nin_sT, in_sL, nin_sL, gAll_map, gAny_map, in_S, nin_S, filter_tt, in_sg, nin_sg])
local macro_rules | `(tactic| walk_at "go") => `(tactic| repeat (first | walk_at "ev" | with_reducible refine seqC ?_ | with_reducible refine Cont.set ?_ | with_reducible refine Cont.expr ?_ | with_reducible refine Cont.ret ?_ | with_reducible refine Cont.nil ?_ | with_reducible refine Cont.put ?_ | with_reducible refine Cont.for ?_ | with_reducible refine Cont.while ?_ | with_reducible refine Cont.setB ?_))
local macro_rules | `(tactic| walk_at "if") => `(tactic| (refine Cont.mk ?_; walk_at "go"))
instance : EncF sD := ⟨fun a b => by
    obtain ⟨a, c⟩ := a; obtain ⟨b, d⟩ := b
    simp only [sD, PyData.eqv, PyData.eqvAll, enc_eqvs, beqd, Bool.and_true, Prod.mk.injEq, Bool.decide_and], fun a => by simp only [sD, PyData.plain, PyData.plainAll, enc_plains, Bool.and_self], fun a => by
    have : ∀ ps : AA, PyData.depthAll (ps.map a1) ≤ 1 := fun ps => by
      induction ps with
      | nil => simp [PyData.depthAll]
      | cons p ps ih => simp only [List.map_cons, PyData.depthAll, a1, PyData.depth] at *; omega
    have := this a.2
    simp only [sD, PyData.depth, PyData.depthAll]
    omega⟩
def isAnT (bs : BB) (as : AA) (w : Str) (ps : AA) : Bool :=
  if (ans bs as).1 = "rather" then decide (w = "rather") && (decide (ps.map (·.1) = (ans bs as).2.map (·.1)) && ps.all fun p => decide (p.2 ∈ (look bs p.1).getD [])) else decide ((w, ps) = ans bs as)
section
variable {F : Nat → Bool → Str → Fn} {k L N : Nat} {d : PyData} [Is F "is_tuple" 3 3 LB.b_is_tuple] [Is F "is_name" 1 2 LB.b_is_name] [Is F "is_worth" 1 1 LB.b_is_worth] [Is F "is_pair" 1 1 LB.b_is_pair_2] [Is F "are_pairs" 1 2 LB.b_are_pairs_2] [Is F "is_said" 1 1 LB.b_is_said]
end
end DE
end
section
set_option Elab.async false
set_option linter.all false
set_option maxRecDepth 100000
set_option maxHeartbeats 4000000
set_option exponentiation.threshold 3000
/-! things bent -/
namespace DE
open PySem PySem.Spec L2 PyProof.Rows
local macro_rules | `(tactic| walk_at "ev") => `(tactic| simp only [W_some, W_none, W_ite, W_eC, W_eV, W_aNil, W_aCons, W_e1, W_e2, W_eN, W_eTup, W_eLst, W_eDct, W_eAnd, W_eOr, W_eNot, W_tB, W_tAnd, W_tOr, W_tNot, W_tYes, W_eIf, W_eChain, W_oNone, W_oSome, W_eSl, W_itV, W_itR,
  W_eM0, W_eM1, W_eMethL, W_eCall, W_sNil, W_sSet, W_sSetB, W_bTup, W_bNil, W_bCons, bName_W, W_sExpr, W_sRet, W_sIf, W_sFor, W_sPut, nxt_nx, nxt_rt, W_rt, W_nx, W_obind, aList, rd, rds, fz, fzs, mk_false, asB_b, asI_i, asS_s,
  List.getElem?_cons_zero, List.getElem?_cons_succ, List.set_cons_zero, List.set_cons_succ, Option.some.injEq, exists_eq_left', exists_eq_left, Val.r.injEq, MO.l.injEq, List.length_cons, List.length_nil, wipeS, Bool.not_true, Bool.not_false, if_true, if_false, Bool.false_eq_true, reduceIte, isi_int_none, isi_int_bool, isi_int_int, isi_int_str, isi_int_list, isi_int_tuple, isi_int_dict, isi_bool_none, isi_bool_bool, isi_bool_int, isi_bool_str, isi_bool_list, isi_bool_tuple, isi_bool_dict, isi_str_none, isi_str_bool, isi_str_int, isi_str_str, isi_str_list, isi_str_tuple, isi_str_dict, isi_tuple_none, isi_tuple_bool, isi_tuple_int, isi_tuple_str, isi_tuple_list, isi_tuple_tuple, isi_tuple_dict, isi_list_none, isi_list_bool, isi_list_int, isi_list_str, isi_list_list, isi_list_tuple, isi_list_dict, isi_dict_none, isi_dict_bool, isi_dict_int, isi_dict_str, isi_dict_list, isi_dict_tuple, isi_dict_dict, sizeLine_eq, Nat.reduceAdd, Nat.reduceSub, List.reduceReplicate, Nat.reduceLeDiff, Nat.zero_le, true_and, and_true, List.map_cons, List.map_nil, List.zip_nil_left, eq_self_iff_true, seqD, mk_tl, List.cons_append, List.nil_append, itD_l, itD_t,
  gIdx_t, gIdx_l, atI_0, atI_1, atI_2, atI_3, atI_4, atI_5, gAdd_i, gSub_i, gNeg_i, gEq_i, gEq_s, gEq_b, gNe_i, gNe_s, gNe_b, gLt_i, gLe_i, gGt_i, gGe_i, gIsN_n, gNotN_n, gIsN_b, gNotN_b, gLen_l, gLen_t, gTuple_l, gTuple_t, gList_l, gList_t, gRev_l, gRev_t, gInt_b, gInt_i, isN_none, isN_int, isN_str, isN_bool, isN_tup, isN_list, Val.t.injEq, PyData.bool.injEq, enc_eqT, enc_neT, enc_eqT0, enc_neT0, enc_eqL, enc_neL, enc_eqL0, enc_neL0, rtP_rt, W_itZ, two_some, zip2_t, zip2_l, List.length_map, Int.cast_ofNat_Int, decide_true, decide_false, Int.reduceLE, Int.reduceLT, Int.reduceEq, Int.reduceNeg, Int.reduceAdd, Int.reduceSub, Bool.and_self, Bool.true_and, Bool.and_true, Bool.false_and, Bool.and_false, in_a1T, nin_a1T, in_a1L, nin_a1L, in_iT, nin_iT, in_iL, nin_iL, in_sT, nin_sT, in_sL, nin_sL, gAll_map, gAny_map, in_S, nin_S, filter_tt, in_sg, nin_sg])
local macro_rules | `(tactic| walk_at "go") => `(tactic| repeat (first | walk_at "ev" | with_reducible refine seqC ?_ | with_reducible refine Cont.set ?_ | with_reducible refine Cont.expr ?_ | with_reducible refine Cont.ret ?_ | with_reducible refine Cont.nil ?_ | with_reducible refine Cont.put ?_ | with_reducible refine Cont.for ?_ | with_reducible refine Cont.while ?_ | with_reducible refine Cont.setB ?_))
local macro_rules | `(tactic| walk_at "if") => `(tactic| (refine Cont.mk ?_; walk_at "go"))
mutual
/-- short texts of plain signs, numbers that aren't great, empty dicts -/
def asd (L M : Nat) : PyData → Bool
  | .none => true
  | .bool _ => true
  | .int i => decide (i.natAbs ≤ M)
  | .str x => decide (x.length ≤ L) && x.cps.toList.all fun c => decide (c < 128)
  | .list xs => asds L M xs
  | .tuple xs => asds L M xs
  | .dict kvs => kvs.isEmpty
def asds (L M : Nat) : List PyData → Bool
  | [] => true
  | x :: xs => asd L M x && asds L M xs
end
theorem asds_iff {L M : Nat} : ∀ {xs : List PyData}, asds L M xs = true ↔ ∀ x ∈ xs, asd L M x = true
  | [] => by simp [asds]
  | x :: xs => by simp only [asds, Bool.and_eq_true, asds_iff (xs := xs), List.mem_cons, forall_eq_or_imp]
theorem asd_str {L M : Nat} {x : Str} : asd L M (.str x) = true ↔ Asc L x := by
  simp only [asd, Bool.and_eq_true, decide_eq_true_eq, List.all_eq_true, Asc]
mutual
theorem asd_mono {L M L' M' : Nat} (hL : L ≤ L') (hM : M ≤ M') : ∀ {d : PyData}, asd L M d = true → asd L' M' d = true
  | .none, _ => rfl
  | .bool _, _ => rfl
  | .int i, h => by simp only [asd, decide_eq_true_eq] at *; omega
  | .str x, h => by rw [asd_str] at *; exact h.more hL
  | .list xs, h => by simp only [asd] at *; exact asds_mono hL hM h
  | .tuple xs, h => by simp only [asd] at *; exact asds_mono hL hM h
  | .dict kvs, h => by simp only [asd] at *; exact h
theorem asds_mono {L M L' M' : Nat} (hL : L ≤ L') (hM : M ≤ M') : ∀ {xs : List PyData}, asds L M xs = true → asds L' M' xs = true
  | [], _ => rfl
  | x :: xs, h => by
    simp only [asds, Bool.and_eq_true] at *
    exact ⟨asd_mono hL hM h.1, asds_mono hL hM h.2⟩
end
mutual
theorem asd_okd {L M : Nat} (hM : M < 2 ^ 1900) : ∀ {d : PyData}, asd L M d = true → okd L d = true
  | .none, _ => rfl
  | .bool _, _ => rfl
  | .int i, h => by
    simp only [asd, okd, decide_eq_true_eq] at *
    have h2 : i.natAbs < 2 ^ 1900 := by omega
    exact Nat.lt_of_lt_of_le (PySem.Flt.log2_lt_of (by decide) h2) (by decide)
  | .str x, h => by rw [asd_str] at h; exact h.ok
  | .list xs, h => by simp only [asd, okd] at *; exact asds_okds hM h
  | .tuple xs, h => by simp only [asd, okd] at *; exact asds_okds hM h
  | .dict kvs, h => by simp only [asd, okd] at *; exact h
theorem asds_okds {L M : Nat} (hM : M < 2 ^ 1900) : ∀ {xs : List PyData}, asds L M xs = true → okds L xs = true
  | [], _ => rfl
  | x :: xs, h => by
    simp only [asds, okds, Bool.and_eq_true] at *
    exact ⟨asd_okd hM h.1, asds_okds hM h.2⟩
end
/-- a thing that is told small -/
def Sm (L M N : Nat) (d : PyData) : Prop := asd L M d = true ∧ cnt d ≤ N
theorem Sm.gd {L M N : Nat} {d : PyData} (h : Sm L M N d) (hM : M < 2 ^ 1900) : Gd L N d := ⟨asd_okd hM h.1, h.2⟩
theorem Sm.mono {L M N L' M' N' : Nat} {d : PyData} (h : Sm L M N d) (hL : L ≤ L') (hM : M ≤ M') (hN : N ≤ N') : Sm L' M' N' d := ⟨asd_mono hL hM h.1, Nat.le_trans h.2 hN⟩
theorem cut_lo (xs : List PyData) {n : Nat} (hn : n ≤ xs.length) : cutD xs none (some (n : Int)) = xs.take n := by
  unfold cutD
  have h1 : HT.sIx xs.length 0 none = 0 := rfl
  have h2 : HT.sIx xs.length xs.length (some (n : Int)) = n := by
    simp only [HT.sIx]
    split <;> omega
  rw [h1, h2]; simp
theorem cut_hi (xs : List PyData) {n : Nat} (hn : n ≤ xs.length) : cutD xs (some (n : Int)) none = xs.drop n := by
  unfold cutD
  have h1 : HT.sIx xs.length xs.length none = xs.length := rfl
  have h2 : HT.sIx xs.length 0 (some (n : Int)) = n := by
    simp only [HT.sIx]
    split <;> omega
  rw [h1, h2]
  exact List.take_of_length_le (by simp)
theorem asc_int {i : Int} {k : Nat} (hk : 0 < k) (h : i.natAbs < 10 ^ k) : Asc (k + 1) (Str.ofString (toString i)) := by
  refine ⟨by rw [PySem.ofString_length]; exact int_text_length_le10 hk h, fun c hc => ?_⟩
  rw [signs_ofString] at hc
  obtain ⟨ch, hch, rfl⟩ := List.mem_map.mp hc
  exact int_ascii i ch hch
theorem addL_W {xs ys : List PyData} {P : PyData → Prop} (h : xs.length + ys.length ≤ 16777216) : W (gAdd (.list xs) (.list ys)) P ↔ P (.list (xs ++ ys)) := by
  show W (if _ then _ else _) _ ↔ _
  rw [if_pos (by rw [sizeLine_eq]; exact h), W_some]
theorem addT_W {xs ys : List PyData} {P : PyData → Prop} (h : xs.length + ys.length ≤ 16777216) : W (gAdd (.tuple xs) (.tuple ys)) P ↔ P (.tuple (xs ++ ys)) := by
  show W (if _ then _ else _) _ ↔ _
  rw [if_pos (by rw [sizeLine_eq]; exact h), W_some]
theorem gSl_t {xs : List PyData} {lo hi : Option Int} : gSl (.tuple xs) lo hi = some (.tuple (cutD xs lo hi)) := rfl
theorem gSl_l {xs : List PyData} {lo hi : Option Int} : gSl (.list xs) lo hi = some (.list (cutD xs lo hi)) := rfl
section
variable {F : Nat → Bool → Str → Fn} [Is F "_law_draw" 2 8 LB.b__law_draw] {k n b : Nat} {h : MH} {es : List (PyData × PyData)}
end
end DE
end
section
set_option Elab.async false
set_option linter.all false
set_option maxRecDepth 100000
set_option maxHeartbeats 4000000
set_option exponentiation.threshold 3000
/-! asks, free answers -/
namespace DE
open PySem PySem.Spec L2 PyProof.Rows
local macro_rules | `(tactic| walk_at "ev") => `(tactic| simp only [W_some, W_none, W_ite, W_eC, W_eV, W_aNil, W_aCons, W_e1, W_e2, W_eN, W_eTup, W_eLst, W_eDct, W_eAnd, W_eOr, W_eNot, W_tB, W_tAnd, W_tOr, W_tNot, W_tYes, W_eIf, W_eChain, W_oNone, W_oSome, W_eSl, W_itV, W_itR,
  W_eM0, W_eM1, W_eMethL, W_eCall, W_sNil, W_sSet, W_sSetB, W_bTup, W_bNil, W_bCons, bName_W, W_sExpr, W_sRet, W_sIf, W_sFor, W_sPut, nxt_nx, nxt_rt, W_rt, W_nx, W_obind, aList, rd, rds, fz, fzs, mk_false, asB_b, asI_i, asS_s,
  List.getElem?_cons_zero, List.getElem?_cons_succ, List.set_cons_zero, List.set_cons_succ, Option.some.injEq, exists_eq_left', exists_eq_left, Val.r.injEq, MO.l.injEq, List.length_cons, List.length_nil, wipeS, Bool.not_true, Bool.not_false, if_true, if_false, Bool.false_eq_true, reduceIte, isi_int_none, isi_int_bool, isi_int_int, isi_int_str, isi_int_list, isi_int_tuple, isi_int_dict, isi_bool_none, isi_bool_bool, isi_bool_int, isi_bool_str, isi_bool_list, isi_bool_tuple, isi_bool_dict, isi_str_none, isi_str_bool, isi_str_int, isi_str_str, isi_str_list, isi_str_tuple, isi_str_dict, isi_tuple_none, isi_tuple_bool, isi_tuple_int, isi_tuple_str, isi_tuple_list, isi_tuple_tuple, isi_tuple_dict, isi_list_none, isi_list_bool, isi_list_int, isi_list_str, isi_list_list, isi_list_tuple, isi_list_dict, isi_dict_none, isi_dict_bool, isi_dict_int, isi_dict_str, isi_dict_list, isi_dict_tuple, isi_dict_dict, sizeLine_eq, Nat.reduceAdd, Nat.reduceSub, List.reduceReplicate, Nat.reduceLeDiff, Nat.zero_le, true_and, and_true, List.map_cons, List.map_nil, List.zip_nil_left, eq_self_iff_true, seqD, mk_tl, List.cons_append, List.nil_append, itD_l, itD_t,
  gIdx_t, gIdx_l, atI_0, atI_1, atI_2, atI_3, atI_4, atI_5, gAdd_i, gSub_i, gNeg_i, gEq_i, gEq_s, gEq_b, gNe_i, gNe_s, gNe_b, gLt_i, gLe_i, gGt_i, gGe_i, gIsN_n, gNotN_n, gIsN_b, gNotN_b, gLen_l, gLen_t, gTuple_l, gTuple_t, gList_l, gList_t, gRev_l, gRev_t, gInt_b, gInt_i, isN_none, isN_int, isN_str, isN_bool, isN_tup, isN_list, Val.t.injEq, PyData.bool.injEq, enc_eqT, enc_neT, enc_eqT0, enc_neT0, enc_eqL, enc_neL, enc_eqL0, enc_neL0, rtP_rt, W_itZ, two_some, zip2_t, zip2_l, List.length_map, Int.cast_ofNat_Int, decide_true, decide_false, Int.reduceLE, Int.reduceLT, Int.reduceEq, Int.reduceNeg, Int.reduceAdd, Int.reduceSub, Bool.and_self, Bool.true_and, Bool.and_true, Bool.false_and, Bool.and_false, in_a1T, nin_a1T, in_a1L, nin_a1L, in_iT, nin_iT, in_iL, nin_iL, in_sT, nin_sT, in_sL, nin_sL, gAll_map, gAny_map, in_S, nin_S, filter_tt, in_sg, nin_sg])
local macro_rules | `(tactic| walk_at "go") => `(tactic| repeat (first | walk_at "ev" | with_reducible refine seqC ?_ | with_reducible refine Cont.set ?_ | with_reducible refine Cont.expr ?_ | with_reducible refine Cont.ret ?_ | with_reducible refine Cont.nil ?_ | with_reducible refine Cont.put ?_ | with_reducible refine Cont.for ?_ | with_reducible refine Cont.while ?_ | with_reducible refine Cont.setB ?_))
local macro_rules | `(tactic| walk_at "if") => `(tactic| (refine Cont.mk ?_; walk_at "go"))
structure OkA (as : AA) : Prop where
  len : as.length ≤ 6
  ok : ∀ p ∈ as, (p.1 ∈ K12 ∨ p.1 = "qq") ∧ 0 ≤ p.2 ∧ p.2 ≤ 9999
theorem w8_range {i : Int} (h : i ∈ WW) : 0 ≤ i ∧ i ≤ 9999 := by
  have : ∀ i ∈ WW, 0 ≤ i ∧ i ≤ 9999 := by decide
  exact this i h
theorem kq_name {x : Str} (h : x ∈ K12 ∨ x = "qq") : nameOk x = true ∧ Asc 8 x := by
  have h1 : ∀ x ∈ K12 ++ [("qq" : Str)], nameOk x = true ∧ (decide (x.length ≤ 8) && x.cps.toList.all fun c => decide (c < 128)) = true := by decide +kernel
  have := h1 x (by rcases h with h | h; exact List.mem_append_left _ h; subst h; exact List.mem_append_right _ (by simp))
  exact ⟨this.1, asc_lit this.2⟩
def cutA {α : Type} (as : List α) (lo hi : Option Int) : List α := (as.drop (HT.sIx as.length 0 lo)).take (HT.sIx as.length as.length hi - HT.sIx as.length 0 lo)
theorem cutD_map {α : Type} (f : α → PyData) (as : List α) (lo hi : Option Int) : cutD (as.map f) lo hi = (cutA as lo hi).map f := by
  unfold cutD cutA
  rw [List.length_map, List.map_take, List.map_drop]
theorem smI {ws : List Int} (h : ∀ x ∈ ws, 0 ≤ x ∧ x ≤ 9999) : asds 20 (10 ^ 61) (ws.map PyData.int) = true ∧ cnts (ws.map PyData.int) = ws.length := by
  constructor
  · rw [asds_iff]
    intro d hd
    obtain ⟨x, hx, rfl⟩ := List.mem_map.mp hd
    obtain ⟨z1, z2⟩ := h x hx
    simp only [asd, decide_eq_true_eq]
    have : (9999 : Nat) ≤ 10 ^ 61 := by decide
    omega
  · clear h
    induction ws with
    | nil => rfl
    | cons x ws ih => simp only [List.map_cons, cnts, DE.cnt, ih, List.length_cons]; omega
theorem repr_ok {L N : Nat} {d : PyData} (h1 : okd L d = true) (h2 : DE.cnt d ≤ N) (h4 : d.depth ≤ 64) (h5 : N * (10 * L + 2010) ≤ 16777216) : gRepr d = some (.str d.shown) := by
  obtain ⟨s1, _, s3⟩ := okd_show h1
  have hm : DE.cnt d * (10 * L + 2010) ≤ N * (10 * L + 2010) := Nat.mul_le_mul_right _ h2
  unfold gRepr
  rw [if_pos ⟨s1, h4, by rw [sizeLine_eq]; omega⟩]
theorem Sm.depth {L M N : Nat} {d : PyData} (h : Sm L M N d) (hM : M < 2 ^ 1900) : d.depth ≤ N := Nat.le_trans (okd_show (asd_okd hM h.1)).2.1 h.2
theorem depthAll_le {n : Nat} : ∀ {xs : List PyData}, (∀ x ∈ xs, x.depth ≤ n) → PyData.depthAll xs ≤ n
  | [], _ => by simp [PyData.depthAll]
  | x :: xs, h => by
    have := h x (by simp)
    have := depthAll_le (xs := xs) fun x hx => h x (by simp [hx])
    simp only [PyData.depthAll]
    omega
theorem cnts_le {n : Nat} : ∀ {xs : List PyData}, (∀ x ∈ xs, DE.cnt x ≤ n) → cnts xs ≤ n * xs.length
  | [], _ => by simp [cnts]
  | x :: xs, h => by
    have := h x (by simp)
    have := cnts_le (xs := xs) fun x hx => h x (by simp [hx])
    simp only [cnts, List.length_cons, Nat.mul_succ]
    omega
theorem askOf_mem {ws : List Wish} {pl : BB} : ∀ p ∈ askOf ws pl, ∃ r ∈ pl, p.1 = r.1 ∧ p.2 ∈ r.2 := by
  have key : ∀ (l : List (Wish × (Str × List Int))) (acc : AA), (∀ p ∈ acc, ∃ r ∈ pl, p.1 = r.1 ∧ p.2 ∈ r.2) → (∀ z ∈ l, z.2 ∈ pl) → ∀ p ∈ l.foldl askSt acc, ∃ r ∈ pl, p.1 = r.1 ∧ p.2 ∈ r.2 := by
    intro l
    induction l with
    | nil => intro acc h _; exact h
    | cons z l ih =>
      intro acc h hz
      refine ih _ ?_ fun y hy => hz y (List.mem_cons_of_mem _ hy)
      intro p hp
      unfold askSt at hp
      split at hp
      · exact h p hp
      · rename_i x xs e
        split at hp
        · rcases List.mem_append.mp hp with hp | hp
          · exact h p hp
          · simp only [List.mem_cons, List.not_mem_nil, or_false] at hp
            subst hp
            exact ⟨z.2, hz z (by simp), rfl, by rw [e]; simp⟩
        · exact h p hp
  exact key _ [] (by simp) fun z hz => (List.of_mem_zip hz).2
theorem askOf_len {ws : List Wish} {pl : BB} : (askOf ws pl).length ≤ ws.length := by
  have key : ∀ (l : List (Wish × (Str × List Int))) (acc : AA), (l.foldl askSt acc).length ≤ acc.length + l.length := by
    intro l
    induction l with
    | nil => intro acc; simp
    | cons z l ih =>
      intro acc
      have := ih (askSt acc z)
      have := askSt_len acc z
      simp only [List.foldl_cons, List.length_cons]
      omega
  have := key (ws.zip pl) []
  simp only [List.length_nil, List.length_zip] at this
  unfold askOf
  omega
theorem OkB.look {bs : BB} (h : OkB bs) {k : Str} {ws : List Int} (e : look bs k = some ws) : ws ≠ [] ∧ ws.length ≤ 8 ∧ ∀ x ∈ ws, 0 ≤ x ∧ x ≤ 9999 := by
  obtain ⟨_, h2⟩ := h.ok _ (look_some e)
  exact ⟨h2.1, by have := h2.2.1; simp at this; omega, fun x hx => w8_range (h2.2.2.2 x hx)⟩
/-- an answer given freely -/
structure Free (bs : BB) (as : AA) (w : Str) (ps : AA) : Prop where
  ok : OkA ps
  word : w = (ans bs as).1
  kinds : ps.map (·.1) = (ans bs as).2.map (·.1)
  rest : w ≠ "rather" → ps = (ans bs as).2
  worths : w = "rather" → ∀ p ∈ ps, ∃ ws, look bs p.1 = some ws ∧ p.2 ∈ ws
section
variable {F : Nat → Bool → Str → Fn} [Is F "_law_draw" 2 8 LB.b__law_draw] {k n b : Nat} {h : MH} {es : List (PyData × PyData)} {P : Val × MH → Prop}
end
end DE
end
section
set_option Elab.async false
set_option linter.all false
set_option maxRecDepth 100000
set_option maxHeartbeats 4000000
/-! more of the evaluator's laws: dictionary comprehensions, update, index, sorted -/
namespace DE
open PySem PySem.Spec L2 PyProof.Rows
section
variable {α β : Type} {σ : Sg} {h : MH}
/-- one key anew -/
def setK (bs : List (Str × β)) (k : Str) (w : β) : List (Str × β) := bs.map fun p => if p.1 = k then (p.1, w) else p
theorem setK_keys {bs : List (Str × β)} {k : Str} {w : β} : (setK bs k w).map (·.1) = bs.map (·.1) := by
  simp only [setK, List.map_map]
  refine List.map_congr_left fun p _ => ?_
  simp only [Function.comp]
  split <;> rfl
/-- many keys anew -/
def setKs (bs : List (Str × β)) (cs : List (Str × β)) : List (Str × β) := cs.foldl (fun acc p => setK acc p.1 p.2) bs
theorem setKs_keys : ∀ {cs bs : List (Str × β)}, (setKs bs cs).map (·.1) = bs.map (·.1)
  | [], _ => rfl
  | c :: cs, bs => by
    show (setKs (setK bs c.1 c.2) cs).map (·.1) = _
    rw [setKs_keys, setK_keys]
/-- the order of pairs -/
def sortA (as : AA) : AA := as.mergeSort fun a b => leD (a1 a) (a1 b)
theorem sortA_len {as : AA} : (sortA as).length = as.length := List.length_mergeSort _
theorem sortA_mem {as : AA} {p : Str × Int} : p ∈ sortA as ↔ p ∈ as := (List.mergeSort_perm _ _).mem_iff
end
end DE
end
section
set_option Elab.async false
set_option linter.all false
set_option maxRecDepth 100000
set_option maxHeartbeats 4000000
/-! ask_of, are_refusals, left_behind -/
namespace DE
open PySem PySem.Spec L2 PyProof.Rows
theorem cut_1 {α : Type} (f : α → PyData) (as : List α) : cutD (as.map f) (some 1) none = as.tail.map f := by
  cases as with
  | nil => simp [cutD]
  | cons a as => exact cut_hi (n := 1) _ (by simp)
local macro_rules | `(tactic| walk_at "ev") => `(tactic| simp only [W_some, W_none, W_ite, W_eC, W_eV, W_aNil, W_aCons, W_e1, W_e2, W_eN, W_eTup, W_eLst, W_eDct, W_eAnd, W_eOr, W_eNot, W_tB, W_tAnd, W_tOr, W_tNot, W_tYes, W_eIf, W_eChain, W_oNone, W_oSome, W_eSl, W_itV, W_itR,
  W_eM0, W_eM1, W_eMethL, W_eCall, W_sNil, W_sSet, W_sSetB, W_bTup, W_bNil, W_bCons, bName_W, W_sExpr, W_sRet, W_sIf, W_sFor, W_sPut, nxt_nx, nxt_rt, W_rt, W_nx, W_obind, aList, rd, rds, fz, fzs, mk_false, asB_b, asI_i, asS_s,
  List.getElem?_cons_zero, List.getElem?_cons_succ, List.set_cons_zero, List.set_cons_succ, Option.some.injEq, exists_eq_left', exists_eq_left, Val.r.injEq, MO.l.injEq, List.length_cons, List.length_nil, wipeS, Bool.not_true, Bool.not_false, if_true, if_false, Bool.false_eq_true, reduceIte, isi_int_none, isi_int_bool, isi_int_int, isi_int_str, isi_int_list, isi_int_tuple, isi_int_dict, isi_bool_none, isi_bool_bool, isi_bool_int, isi_bool_str, isi_bool_list, isi_bool_tuple, isi_bool_dict, isi_str_none, isi_str_bool, isi_str_int, isi_str_str, isi_str_list, isi_str_tuple, isi_str_dict, isi_tuple_none, isi_tuple_bool, isi_tuple_int, isi_tuple_str, isi_tuple_list, isi_tuple_tuple, isi_tuple_dict, isi_list_none, isi_list_bool, isi_list_int, isi_list_str, isi_list_list, isi_list_tuple, isi_list_dict, isi_dict_none, isi_dict_bool, isi_dict_int, isi_dict_str, isi_dict_list, isi_dict_tuple, isi_dict_dict, sizeLine_eq, Nat.reduceAdd, Nat.reduceSub, List.reduceReplicate, Nat.reduceLeDiff, Nat.zero_le, true_and, and_true, List.map_cons, List.map_nil, List.zip_nil_left, eq_self_iff_true, seqD, mk_tl, List.cons_append, List.nil_append, itD_l, itD_t,
  gIdx_t, gIdx_l, atI_0, atI_1, atI_2, atI_3, atI_4, atI_5, gAdd_i, gSub_i, gNeg_i, gEq_i, gEq_s, gEq_b, gNe_i, gNe_s, gNe_b, gLt_i, gLe_i, gGt_i, gGe_i, gIsN_n, gNotN_n, gIsN_b, gNotN_b, gLen_l, gLen_t, gTuple_l, gTuple_t, gList_l, gList_t, gRev_l, gRev_t, gInt_b, gInt_i, isN_none, isN_int, isN_str, isN_bool, isN_tup, isN_list, Val.t.injEq, PyData.bool.injEq, enc_eqT, enc_neT, enc_eqT0, enc_neT0, enc_eqL, enc_neL, enc_eqL0, enc_neL0, rtP_rt, W_itZ, two_some, zip2_t, zip2_l, List.length_map, Int.cast_ofNat_Int, decide_true, decide_false, Int.reduceLE, Int.reduceLT, Int.reduceEq, Int.reduceNeg, Int.reduceAdd, Int.reduceSub, Bool.and_self, Bool.true_and, Bool.and_true, Bool.false_and, Bool.and_false, in_a1T, nin_a1T, in_a1L, nin_a1L, in_iT, nin_iT, in_iL, nin_iL, in_sT, nin_sT, in_sL, nin_sL, W_eMethD, W_eMethQ, listOf, gSl_t, gSl_l, cut_1])
local macro_rules | `(tactic| walk_at "go") => `(tactic| repeat (first | walk_at "ev" | with_reducible refine seqC ?_ | with_reducible refine Cont.set ?_ | with_reducible refine Cont.expr ?_ | with_reducible refine Cont.ret ?_ | with_reducible refine Cont.nil ?_ | with_reducible refine Cont.put ?_ | with_reducible refine Cont.for ?_ | with_reducible refine Cont.while ?_ | with_reducible refine Cont.setB ?_))
local macro_rules | `(tactic| walk_at "if") => `(tactic| (refine Cont.mk ?_; walk_at "go"))
section
variable {F : Nat → Bool → Str → Fn} {k n b : Nat} {h : MH} {es : List (PyData × PyData)} {P : Val × MH → Prop}
theorem ask_of_ret [Is F "ask_of" 2 9 LB.b_ask_of] {ws : List Wish} {pl : BB} (hl : ws.length ≤ 1000000) (hk : ∀ p ∈ ws.zip pl, p.1.k = p.2.1) : Ret (F (k + 1) false "ask_of") [.tuple (ws.map wD), .tuple (pl.map b1)] (.tuple ((askOf ws pl).map a1)) := by
  refine Is.ret (slots := 9) (b := LB.b_ask_of) rfl ?_
  unfold LB.b_ask_of
  walk_at "go"
  refine forGo_fold (fun p : Wish × (Str × List Int) => .tuple [wD p.1, b1 p.2]) askSt (b := [])
    (fun rem (acc : AA) σ h => ∃ s3 s4 s5 s6 s7 s8, h = [.l (acc.map a1)] ∧ σ = [some (.t (.tuple (ws.map wD))), some (.t (.tuple (pl.map b1))), some (.r 0), s3, s4, s5, s6, s7, s8] ∧ acc.length + rem.length ≤ 1000000 ∧ ∀ p ∈ rem, p.1.k = p.2.1)
    ⟨none, none, none, none, none, none, rfl, rfl, by simp only [List.length_zip, List.length_nil]; omega, hk⟩ ?_ ?_
  · rintro ⟨⟨wk, wws, wm, wn⟩, r⟩ rem acc σ h ⟨s3, s4, s5, s6, s7, s8, rfl, rfl, hl, hk⟩
    have hk' : ∀ p ∈ rem, p.1.k = p.2.1 := fun p hp => hk p (by simp [hp])
    have ek : wk = r.1 := hk (⟨wk, wws, wm, wn⟩, r) (by simp)
    subst ek
    simp only [List.length_cons] at hl
    walk_at "go"
    simp only [wD, b1]
    walk_at "go"
    rcases r with ⟨rk, _ | ⟨x, xs⟩⟩
    · simp only [decide_true]
      walk_at "go"
      exact ⟨_, _, _, _, _, _, rfl, rfl, by show acc.length + _ ≤ _; omega, hk'⟩
    · simp only [reduceCtorEq, decide_false]
      walk_at "go"
      have hlen := askSt_len acc (⟨rk, wws, wm, wn⟩, (rk, x :: xs))
      rcases wn with _ | q
      · simp only [ndD]
        walk_at "go"
        rw [append_W (by rw [List.length_map]; omega)]
        walk_at "go"
        exact ⟨_, _, _, _, _, _, by simp [askSt, a1], rfl, by omega, hk'⟩
      · simp only [ndD, a1]
        walk_at "go"
        by_cases hq : (q.1, q.2) ∈ acc
        · simp only [hq, decide_true]
          walk_at "go"
          rw [append_W (by rw [List.length_map]; omega)]
          walk_at "go"
          exact ⟨_, _, _, _, _, _, by simp [askSt, a1, hq], rfl, by omega, hk'⟩
        · simp only [hq, decide_false]
          walk_at "go"
          exact ⟨_, _, _, _, _, _, by simp [askSt, hq], rfl, by omega, hk'⟩
  · rintro σ h ⟨s3, s4, s5, s6, s7, s8, rfl, rfl, hl, _⟩
    walk_at "go"
    rfl
/-- what is left behind a refusal -/
def leftF (word : Str) (w : Int) (left : List Int) : List Int :=
  if word = "no" then [] else if w ∈ left.tail then w :: left.tail.filter (fun x => !decide (x = w)) else left.tail
/-- rising places -/
def incr (l : List Nat) : Bool := (l.zip l.tail).all fun q => decide (q.1 < q.2)
theorem incr_iff : ∀ {l : List Nat}, incr l = true ↔ l.Pairwise (· < ·)
  | [] => by simp [incr]
  | [a] => by simp [incr]
  | a :: b :: l => by
    have ih := incr_iff (l := b :: l)
    have e : incr (a :: b :: l) = (decide (a < b) && incr (b :: l)) := rfl
    rw [e, Bool.and_eq_true, ih, decide_eq_true_eq, List.pairwise_cons (a := a)]
    constructor
    · rintro ⟨h1, h2⟩
      refine ⟨fun c hc => ?_, h2⟩
      rcases List.mem_cons.mp hc with rfl | hc
      · exact h1
      · have := (List.pairwise_cons.mp h2).1 c hc
        omega
    · exact fun h => ⟨h.1 b (by simp), h.2⟩
def places (ps as : AA) : List Nat := ps.map fun p => (as.map (·.1)).idxOf p.1
def refusals (word : Str) (ps as : AA) : Bool :=
  (!decide (ps = []) && ps.all fun p => decide (p.1 ∈ as.map (·.1))) && (incr (places ps as) && ps.all fun p => decide (decide (p ∈ as) = decide (word = "no")))
end
end DE
end
section
set_option Elab.async false
set_option linter.all false
set_option maxRecDepth 100000
set_option maxHeartbeats 4000000
/-! behind -/
namespace DE
open PySem PySem.Spec L2 PyProof.Rows
structure PlOk (ws : List Wish) (pl : BB) : Prop where
  keys : pl.map (·.1) = ws.map (·.k)
  nd : (ws.map (·.k)).Nodup
  len : ws.length ≤ 1000
  row : ∀ r ∈ pl, r.2.length ≤ 1000
theorem PlOk.nd' {ws : List Wish} {pl : BB} (h : PlOk ws pl) : (pl.map (·.1)).Nodup := by rw [h.keys]; exact h.nd
theorem ask_go : ∀ (l : List (Wish × (Str × List Int))) (acc : AA), ∃ m : AA, l.foldl askSt acc = acc ++ m ∧ (m.map (·.1)).Sublist (l.map (·.2.1))
  | [], acc => ⟨[], by simp, by simp⟩
  | p :: l, acc => by
    rw [List.foldl_cons]
    obtain ⟨m, e, s⟩ := ask_go l (askSt acc p)
    rw [e]
    unfold askSt
    split
    · exact ⟨m, rfl, s.cons _⟩
    · rename_i x xs hx
      split
      · exact ⟨(p.2.1, x) :: m, by simp, by simpa using s.cons₂ p.2.1⟩
      · exact ⟨m, rfl, s.cons _⟩
theorem askOf_sub {ws : List Wish} {pl : BB} : ((askOf ws pl).map (·.1)).Sublist (pl.map (·.1)) := by
  obtain ⟨m, e, s⟩ := ask_go (ws.zip pl) []
  unfold askOf
  rw [e, List.nil_append]
  refine s.trans ?_
  have : ∀ (ws : List Wish) (pl : BB), ((ws.zip pl).map (·.2.1)).Sublist (pl.map (·.1)) := by
    intro ws
    induction ws with
    | nil => intro pl; simp
    | cons w ws ih =>
      intro pl
      cases pl with
      | nil => simp
      | cons r pl => simpa using (ih pl).cons₂ r.1
  exact this ws pl
def nextC (word : Str) (ps : AA) (pl : BB) : BB := ps.map fun p => (p.1, leftF word p.2 ((look pl p.1).getD []))
def nextPl (word : Str) (ps : AA) (pl : BB) : BB := setKs pl (nextC word ps pl)
def refd (word : Str) (ps as : AA) : AA := ps.map fun p => (p.1, if word = "no" then -1 else (look as p.1).getD 0)
def lacks (nx : BB) (w : Wish) : Bool := w.must && decide (look nx w.k = some [])
def behindF (ws : List Wish) (pl : BB) (word : Str) (ps : AA) : PyData :=
  if word = "yes" then (if ps = askOf ws pl then .tuple [.str "agreed", .tuple ((askOf ws pl).map a1)] else .none)
  else if (word = "no" ∨ word = "rather") ∧ refusals word ps (askOf ws pl) = true then
    (match ws.find? (lacks (nextPl word ps pl)) with
      | some w => .tuple [.str "failed", .str w.k]
      | none => .tuple [.str "plan", .tuple ((nextPl word ps pl).map b1), .tuple ((sortA (refd word ps (askOf ws pl))).map a1)])
  else .none
theorem refusals_iff {word : Str} {ps as : AA} : refusals word ps as = true ↔ ps ≠ [] ∧ (∀ p ∈ ps, p.1 ∈ as.map (·.1)) ∧ (places ps as).Pairwise (· < ·) ∧ ∀ p ∈ ps, (p ∈ as ↔ word = "no") := by
  simp only [refusals, Bool.and_eq_true, incr_iff, List.all_eq_true, decide_eq_true_eq, Bool.not_eq_true', decide_eq_false_iff_not, decide_eq_decide, and_assoc, ne_eq]
theorem nin_NR {w : Str} : gNotInD (.str w) (.tuple [.str "no", .str "rather"]) = some (.bool !(decide (w = "no" ∨ w = "rather"))) := by
  have := nin_sT (w := w) (as := ["no", "rather"])
  simp only [List.map_cons, List.map_nil, List.mem_cons, List.not_mem_nil, or_false] at this
  exact this
local macro_rules | `(tactic| walk_at "ev") => `(tactic| simp only [W_some, W_none, W_ite, W_eC, W_eV, W_aNil, W_aCons, W_e1, W_e2, W_eN, W_eTup, W_eLst, W_eDct, W_eAnd, W_eOr, W_eNot, W_tB, W_tAnd, W_tOr, W_tNot, W_tYes, W_eIf, W_eChain, W_oNone, W_oSome, W_eSl, W_itV, W_itR,
  W_eM0, W_eM1, W_eMethL, W_eCall, W_sNil, W_sSet, W_sSetB, W_bTup, W_bNil, W_bCons, bName_W, W_sExpr, W_sRet, W_sIf, W_sFor, W_sPut, nxt_nx, nxt_rt, W_rt, W_nx, W_obind, aList, rd, rds, fz, fzs, mk_false, asB_b, asI_i, asS_s,
  List.getElem?_cons_zero, List.getElem?_cons_succ, List.set_cons_zero, List.set_cons_succ, Option.some.injEq, exists_eq_left', exists_eq_left, Val.r.injEq, MO.l.injEq, List.length_cons, List.length_nil, wipeS, Bool.not_true, Bool.not_false, if_true, if_false, Bool.false_eq_true, reduceIte, isi_int_none, isi_int_bool, isi_int_int, isi_int_str, isi_int_list, isi_int_tuple, isi_int_dict, isi_bool_none, isi_bool_bool, isi_bool_int, isi_bool_str, isi_bool_list, isi_bool_tuple, isi_bool_dict, isi_str_none, isi_str_bool, isi_str_int, isi_str_str, isi_str_list, isi_str_tuple, isi_str_dict, isi_tuple_none, isi_tuple_bool, isi_tuple_int, isi_tuple_str, isi_tuple_list, isi_tuple_tuple, isi_tuple_dict, isi_list_none, isi_list_bool, isi_list_int, isi_list_str, isi_list_list, isi_list_tuple, isi_list_dict, isi_dict_none, isi_dict_bool, isi_dict_int, isi_dict_str, isi_dict_list, isi_dict_tuple, isi_dict_dict, sizeLine_eq, Nat.reduceAdd, Nat.reduceSub, List.reduceReplicate, Nat.reduceLeDiff, Nat.zero_le, true_and, and_true, List.map_cons, List.map_nil, List.zip_nil_left, eq_self_iff_true, seqD, mk_tl, List.cons_append, List.nil_append, itD_l, itD_t,
  gIdx_t, gIdx_l, atI_0, atI_1, atI_2, atI_3, atI_4, atI_5, gAdd_i, gSub_i, gNeg_i, gEq_i, gEq_s, gEq_b, gNe_i, gNe_s, gNe_b, gLt_i, gLe_i, gGt_i, gGe_i, gIsN_n, gNotN_n, gIsN_b, gNotN_b, gLen_l, gLen_t, gTuple_l, gTuple_t, gList_l, gList_t, gRev_l, gRev_t, gInt_b, gInt_i, isN_none, isN_int, isN_str, isN_bool, isN_tup, isN_list, Val.t.injEq, PyData.bool.injEq, enc_eqT, enc_neT, enc_eqT0, enc_neT0, enc_eqL, enc_neL, enc_eqL0, enc_neL0, rtP_rt, W_itZ, two_some, zip2_t, zip2_l, List.length_map, Int.cast_ofNat_Int, decide_true, decide_false, Int.reduceLE, Int.reduceLT, Int.reduceEq, Int.reduceNeg, Int.reduceAdd, Int.reduceSub, Bool.and_self, Bool.true_and, Bool.and_true, Bool.false_and, Bool.and_false, mk_td, MO.d.injEq, nin_NR, in_a1T, nin_a1T, in_a1L, nin_a1L, in_iT, nin_iT, in_iL, nin_iL, in_sT, nin_sT, in_sL, nin_sL, W_eMethD, W_eMethQ, listOf, gSl_t, gSl_l, cut_1])
local macro_rules | `(tactic| walk_at "go") => `(tactic| repeat (first | walk_at "ev" | with_reducible refine seqC ?_ | with_reducible refine Cont.set ?_ | with_reducible refine Cont.expr ?_ | with_reducible refine Cont.ret ?_ | with_reducible refine Cont.nil ?_ | with_reducible refine Cont.put ?_ | with_reducible refine Cont.for ?_ | with_reducible refine Cont.while ?_ | with_reducible refine Cont.setB ?_))
local macro_rules | `(tactic| walk_at "if") => `(tactic| (refine Cont.mk ?_; walk_at "go"))
section
variable {F : Nat → Bool → Str → Fn} {k n b L N : Nat} {h : MH} {es : List (PyData × PyData)} {P : Val × MH → Prop}
end
end DE
end
section
set_option Elab.async false
set_option linter.all false
set_option maxRecDepth 100000
set_option maxHeartbeats 4000000
/-! the law's own behind -/
namespace DE
open PySem PySem.Spec L2 PyProof.Rows
def placesZ (ps as : AA) : List Int := ps.map fun p => if p.1 ∈ as.map (·.1) then ((as.map (·.1)).idxOf p.1 : Nat) else -1
theorem placesZ_of {ps as : AA} (h : ∀ p ∈ ps, p.1 ∈ as.map (·.1)) : placesZ ps as = (places ps as).map fun i : Nat => (i : Int) := by
  simp only [placesZ, places, List.map_map]
  refine List.map_congr_left fun p hp => ?_
  rw [if_pos (h p hp)]
  rfl
theorem rising {ps as : AA} {p0 : Str × Int} (h0 : ps.head? = some p0) : (sset (placesZ ps as) = placesZ ps as ∧ ¬ (placesZ ps as).headD 0 < 0) ↔ (∀ p ∈ ps, p.1 ∈ as.map (·.1)) ∧ (places ps as).Pairwise (· < ·) := by
  constructor
  · rintro ⟨h1, h2⟩
    have h3 := sset_self.mp h1
    have h4 : ∀ p ∈ ps, p.1 ∈ as.map (·.1) := by
      cases ps with
      | nil => cases h0
      | cons q ps =>
        have e : (placesZ (q :: ps) as) = (if q.1 ∈ as.map (·.1) then (((as.map (·.1)).idxOf q.1 : Nat) : Int) else -1) :: placesZ ps as := rfl
        rw [e] at h2 h3
        simp only [List.headD_cons] at h2
        have hq : q.1 ∈ as.map (·.1) := by
          by_cases c : q.1 ∈ as.map (·.1)
          · exact c
          · rw [if_neg c] at h2
            exact absurd (by decide) h2
        intro p hp
        rcases List.mem_cons.mp hp with rfl | hp
        · exact hq
        · have := (List.pairwise_cons.mp h3).1 _ (List.mem_map_of_mem hp)
          by_cases c : p.1 ∈ as.map (·.1)
          · exact c
          · rw [if_neg c, if_pos hq] at this
            omega
    refine ⟨h4, ?_⟩
    rw [placesZ_of h4, List.pairwise_map] at h3
    exact h3.imp fun h => by omega
  · rintro ⟨h1, h2⟩
    rw [placesZ_of h1]
    refine ⟨sset_self.mpr ?_, ?_⟩
    · rw [List.pairwise_map]
      exact h2.imp fun h => by omega
    · cases ps with
      | nil => cases h0
      | cons q ps =>
        simp only [places, List.map_cons, List.headD_cons]
        omega
end DE
end
section
set_option Elab.async false
set_option linter.all false
set_option maxRecDepth 100000
set_option maxHeartbeats 4000000
/-! the law's own behind: its run -/
namespace DE
open PySem PySem.Spec L2 PyProof.Rows
local macro_rules | `(tactic| walk_at "ev") => `(tactic| simp only [W_some, W_none, W_ite, W_eC, W_eV, W_aNil, W_aCons, W_e1, W_e2, W_eN, W_eTup, W_eLst, W_eDct, W_eAnd, W_eOr, W_eNot, W_tB, W_tAnd, W_tOr, W_tNot, W_tYes, W_eIf, W_eChain, W_oNone, W_oSome, W_eSl, W_itV, W_itR,
  W_eM0, W_eM1, W_eMethL, W_eCall, W_sNil, W_sSet, W_sSetB, W_bTup, W_bNil, W_bCons, bName_W, W_sExpr, W_sRet, W_sIf, W_sFor, W_sPut, nxt_nx, nxt_rt, W_rt, W_nx, W_obind, aList, rd, rds, fz, fzs, mk_false, asB_b, asI_i, asS_s,
  List.getElem?_cons_zero, List.getElem?_cons_succ, List.set_cons_zero, List.set_cons_succ, Option.some.injEq, exists_eq_left', exists_eq_left, Val.r.injEq, MO.l.injEq, List.length_cons, List.length_nil, wipeS, Bool.not_true, Bool.not_false, if_true, if_false, Bool.false_eq_true, reduceIte, isi_int_none, isi_int_bool, isi_int_int, isi_int_str, isi_int_list, isi_int_tuple, isi_int_dict, isi_bool_none, isi_bool_bool, isi_bool_int, isi_bool_str, isi_bool_list, isi_bool_tuple, isi_bool_dict, isi_str_none, isi_str_bool, isi_str_int, isi_str_str, isi_str_list, isi_str_tuple, isi_str_dict, isi_tuple_none, isi_tuple_bool, isi_tuple_int, isi_tuple_str, isi_tuple_list, isi_tuple_tuple, isi_tuple_dict, isi_list_none, isi_list_bool, isi_list_int, isi_list_str, isi_list_list, isi_list_tuple, isi_list_dict, isi_dict_none, isi_dict_bool, isi_dict_int, isi_dict_str, isi_dict_list, isi_dict_tuple, isi_dict_dict, sizeLine_eq, Nat.reduceAdd, Nat.reduceSub, List.reduceReplicate, Nat.reduceLeDiff, Nat.zero_le, true_and, and_true, List.map_cons, List.map_nil, List.zip_nil_left, eq_self_iff_true, seqD, mk_tl, List.cons_append, List.nil_append, itD_l, itD_t,
  gIdx_t, gIdx_l, atI_0, atI_1, atI_2, atI_3, atI_4, atI_5, gAdd_i, gSub_i, gNeg_i, gEq_i, gEq_s, gEq_b, gNe_i, gNe_s, gNe_b, gLt_i, gLe_i, gGt_i, gGe_i, gIsN_n, gNotN_n, gIsN_b, gNotN_b, gLen_l, gLen_t, gTuple_l, gTuple_t, gList_l, gList_t, gRev_l, gRev_t, gInt_b, gInt_i, isN_none, isN_int, isN_str, isN_bool, isN_tup, isN_list, Val.t.injEq, PyData.bool.injEq, enc_eqT, enc_neT, enc_eqT0, enc_neT0, enc_eqL, enc_neL, enc_eqL0, enc_neL0, rtP_rt, W_itZ, two_some, zip2_t, zip2_l, List.length_map, Int.cast_ofNat_Int, decide_true, decide_false, Int.reduceLE, Int.reduceLT, Int.reduceEq, Int.reduceNeg, Int.reduceAdd, Int.reduceSub, Bool.and_self, Bool.true_and, Bool.and_true, Bool.false_and, Bool.and_false, mk_td, MO.d.injEq, nin_NR, in_a1T, nin_a1T, in_a1L, nin_a1L, in_iT, nin_iT, in_iL, nin_iL, in_sT, nin_sT, in_sL, nin_sL, W_eMethD, W_eMethQ, listOf, gSl_t, gSl_l, cut_1])
local macro_rules | `(tactic| walk_at "go") => `(tactic| repeat (first | walk_at "ev" | with_reducible refine seqC ?_ | with_reducible refine Cont.set ?_ | with_reducible refine Cont.expr ?_ | with_reducible refine Cont.ret ?_ | with_reducible refine Cont.nil ?_ | with_reducible refine Cont.put ?_ | with_reducible refine Cont.for ?_ | with_reducible refine Cont.while ?_ | with_reducible refine Cont.setB ?_))
local macro_rules | `(tactic| walk_at "if") => `(tactic| (refine Cont.mk ?_; walk_at "go"))
section
variable {F : Nat → Bool → Str → Fn} {k n b L N : Nat} {h : MH} {es : List (PyData × PyData)} {P : Val × MH → Prop}
end
end DE
end
section
set_option Elab.async false
set_option linter.all false
set_option maxRecDepth 100000
set_option maxHeartbeats 4000000
set_option exponentiation.threshold 3000
/-! told answers -/
namespace DE
open PySem PySem.Spec L2 PyProof.Rows
structure Told (as : AA) (w : Str) (ps : AA) : Prop where
  ok : OkA ps
  said : (w = "yes" ∧ ps = as) ∨ ((w = "no" ∨ w = "rather") ∧ refusals w ps as = true)
/-- a plan as it may come -/
structure PlG (ws : List Wish) (pl : BB) : Prop where
  keys : pl.map (·.1) = ws.map (·.k)
  must : ∀ w ∈ ws, w.must = true → look pl w.k ≠ some []
  row : ∀ r ∈ pl, r.2.length ≤ 8 ∧ ∀ x ∈ r.2, x ∈ WW
theorem PlG.ok {ws : List Wish} {pl : BB} (h : PlG ws pl) (ow : OkWs ws) : PlOk ws pl := ⟨h.keys, ow.nd, by have := ow.len; omega, fun r hr => by have := (h.row r hr).1; omega⟩
theorem PlG.first {ws : List Wish} (ow : OkWs ws) : PlG ws (planOf ws []) := by
  have e : planOf ws [] = ws.map fun w => (w.k, w.ws) := by
    unfold planOf
    refine List.map_congr_left fun w _ => ?_
    simp
  rw [e]
  refine ⟨by rw [List.map_map]; rfl, fun w hw _ z => ?_, fun r hr => ?_⟩
  · have nd := ow.nd
    have z2 : look (ws.map fun w => (w.k, w.ws)) w.k = some w.ws := (look_mem (by rw [List.map_map]; exact nd)).mpr (List.mem_map_of_mem (f := fun w : Wish => (w.k, w.ws)) hw)
    rw [z2] at z
    exact (ow.worths w hw).1 (Option.some.inj z)
  · obtain ⟨w, hw, rfl⟩ := List.mem_map.mp hr
    have := ow.worths w hw
    exact ⟨by have := this.2.1; simp only; omega, this.2.2.2⟩
theorem PlG.ask {ws : List Wish} {pl : BB} (h : PlG ws pl) (ow : OkWs ws) : OkA (askOf ws pl) ∧ ((askOf ws pl).map (·.1)).Nodup ∧ ∀ p ∈ askOf ws pl, p.2 ∈ WW := by
  have h3 : ∀ p ∈ askOf ws pl, p.2 ∈ WW := fun p hp => by
    obtain ⟨r, hr, e1, e2⟩ := askOf_mem p hp
    exact (h.row r hr).2 _ e2
  refine ⟨⟨by have := askOf_len (ws := ws) (pl := pl); have := ow.len; omega, fun p hp => ⟨.inl ?_, w8_range (h3 p hp)⟩⟩, askOf_sub.nodup (h.ok ow).nd', h3⟩
  have : p.1 ∈ ws.map (·.k) := by rw [← h.keys]; exact askOf_sub.subset (List.mem_map_of_mem hp)
  obtain ⟨w, hw, e⟩ := List.mem_map.mp this
  rw [← e]
  exact ow.kinds w hw
theorem setK_mem {β : Type} {bs : List (Str × β)} {k : Str} {w : β} {r : Str × β} (h : r ∈ setK bs k w) : r ∈ bs ∨ r.2 = w := by
  obtain ⟨p, hp, rfl⟩ := List.mem_map.mp h
  split
  · exact .inr rfl
  · exact .inl hp
theorem setKs_mem {β : Type} : ∀ {cs bs : List (Str × β)} {r : Str × β}, r ∈ setKs bs cs → r ∈ bs ∨ ∃ c ∈ cs, r.2 = c.2
  | [], _, r, h => .inl h
  | c :: cs, bs, r, h => by
    rcases setKs_mem (cs := cs) (bs := setK bs c.1 c.2) h with h | ⟨d, hd, e⟩
    · rcases setK_mem h with h | h
      · exact .inl h
      · exact .inr ⟨c, by simp, h⟩
    · exact .inr ⟨d, by simp [hd], e⟩
theorem leftF_ok {word : Str} {w : Int} {left : List Int} : (leftF word w left).length ≤ left.length ∧ ∀ x ∈ leftF word w left, x ∈ left := by
  have ht : ∀ x ∈ left.tail, x ∈ left := fun x hx => List.mem_of_mem_tail hx
  unfold leftF
  split
  · exact ⟨by simp, by simp⟩
  · split
    · rename_i h2
      constructor
      · have : (left.tail.filter fun x => !decide (x = w)).length < left.tail.length := by
          rw [List.length_filter_lt_length_iff_exists]
          exact ⟨w, h2, by simp⟩
        rw [List.length_tail] at this
        rw [List.length_cons]
        omega
      · intro x hx
        rcases List.mem_cons.mp hx with rfl | hx
        · exact ht _ h2
        · exact ht _ (List.mem_filter.mp hx).1
    · exact ⟨by rw [List.length_tail]; omega, ht⟩
theorem next_row {word : Str} {ps : AA} {pl : BB} (h : ∀ r ∈ pl, r.2.length ≤ 8 ∧ ∀ x ∈ r.2, x ∈ WW) : ∀ r ∈ nextPl word ps pl, r.2.length ≤ 8 ∧ ∀ x ∈ r.2, x ∈ WW := by
  intro r hr
  rcases setKs_mem hr with hr | ⟨c, hc, e⟩
  · exact h r hr
  · obtain ⟨p, hp, rfl⟩ := List.mem_map.mp hc
    rw [e]
    obtain ⟨l1, l2⟩ := leftF_ok (word := word) (w := p.2) (left := (look pl p.1).getD [])
    simp only
    cases el : look pl p.1 with
    | none =>
      rw [el] at l1 l2
      exact ⟨by simp at l1; simp [l1], fun x hx => absurd (l2 x hx) (by simp)⟩
    | some left =>
      rw [el] at l1 l2
      have := h _ (look_some el)
      exact ⟨Nat.le_trans l1 this.1, fun x hx => this.2 x (l2 x hx)⟩
/-- what is told behind a told answer -/
inductive Due (ws : List Wish) (pl : BB) (w : Str) (ps : AA) : PyData → Prop
  | agreed : Due ws pl w ps (.tuple [.str "agreed", .tuple ((askOf ws pl).map a1)])
  | failed (j : Str) (h : j ∈ K12) : Due ws pl w ps (.tuple [.str "failed", .str j])
  | plan (nx : BB) (rf : AA) (h : PlG ws nx) (h2 : rf.length ≤ 6 ∧ ∀ p ∈ rf, p.1 ∈ K12 ∧ -1 ≤ p.2 ∧ p.2 ≤ 9999) : Due ws pl w ps (.tuple [.str "plan", .tuple (nx.map b1), .tuple (rf.map a1)])
theorem due {ws : List Wish} {pl : BB} {w : Str} {ps : AA} (ow : OkWs ws) (hp : PlG ws pl) (ht : Told (askOf ws pl) w ps) : Due ws pl w ps (behindF ws pl w ps) := by
  unfold behindF
  rcases ht.said with ⟨rfl, e⟩ | ⟨hw, hr⟩
  · rw [if_pos rfl, if_pos e]
    exact .agreed
  · have hy : ¬ w = "yes" := by rcases hw with rfl | rfl <;> decide +kernel
    rw [if_neg hy, if_pos ⟨hw, hr⟩]
    split
    · rename_i w0 e
      exact .failed _ (ow.kinds _ (List.mem_of_find?_eq_some e))
    · rename_i e
      obtain ⟨oa, nda, h8⟩ := hp.ask ow
      refine .plan _ _ ⟨?_, ?_, next_row hp.row⟩ ⟨?_, fun p hm => ?_⟩
      · rw [nextPl, setKs_keys]; exact hp.keys
      · intro v hv hmu z
        have := List.find?_eq_none.mp e v hv
        simp [lacks, hmu, z] at this
      · rw [sortA_len, refd, List.length_map]
        exact ht.ok.len
      · rw [sortA_mem] at hm
        obtain ⟨q, hq, rfl⟩ := List.mem_map.mp hm
        obtain ⟨_, r2, _, _⟩ := refusals_iff.mp hr
        have hk := r2 q hq
        obtain ⟨a, ha, e1⟩ := List.mem_map.mp hk
        have : q.1 ∈ ws.map (·.k) := by rw [← hp.keys]; exact askOf_sub.subset hk
        obtain ⟨v, hv, e2⟩ := List.mem_map.mp this
        refine ⟨by simp only; rw [← e2]; exact ow.kinds v hv, ?_⟩
        simp only
        split
        · decide
        · rw [← e1, (look_mem nda).mpr (show (a.1, a.2) ∈ askOf ws pl from ha)]
          have := oa.ok a ha
          simp only [Option.getD_some]
          omega
end DE
end
section
set_option Elab.async false
set_option linter.all false
set_option maxRecDepth 100000
set_option maxHeartbeats 4000000
set_option exponentiation.threshold 3000
/-! sizes of what is shown; told answers, drawn -/
namespace DE
open PySem PySem.Spec L2 PyProof.Rows
theorem NdOk.mem {ws : List Wish} (h : NdOk ws) : ∀ w ∈ ws, ∀ p, w.nd = some p → ∃ v ∈ ws, p.1 = v.k ∧ p.2 ∈ v.ws ++ [4] := by
  induction h with
  | nil => intro w hw; cases hw
  | @snoc ws w0 h0 h1 ih =>
    intro w hw p e
    rcases List.mem_append.mp hw with hw | hw
    · obtain ⟨v, hv, z⟩ := ih w hw p e
      exact ⟨v, List.mem_append_left _ hv, z⟩
    · simp only [List.mem_cons, List.not_mem_nil, or_false] at hw
      subst hw
      obtain ⟨v, hv, z⟩ := h1 p e
      exact ⟨v, List.mem_append_left _ hv, z⟩
theorem asd_i {i : Int} (h0 : -1 ≤ i) (h1 : i ≤ 9999) : asd 20 (10 ^ 61) (.int i) = true := by
  simp only [asd, decide_eq_true_eq]
  have : (9999 : Nat) ≤ 10 ^ 61 := by decide
  omega
theorem asd_k {x : Str} (h : x ∈ K12 ∨ x = "qq") : asd 20 (10 ^ 61) (.str x) = true := asd_str.mpr ((kq_name h).2.more (by decide))
theorem asd_t {L M : Nat} {xs : List PyData} : asd L M (.tuple xs) = asds L M xs := by simp only [asd]
theorem asds_c {L M : Nat} {x : PyData} {xs : List PyData} (h1 : asd L M x = true) (h2 : asds L M xs = true) : asds L M (x :: xs) = true := by simp only [asds, h1, h2, Bool.and_self]
theorem asds_n {L M : Nat} : asds L M [] = true := rfl
theorem smW {ws : List Wish} (ow : OkWs ws) : asds 20 (10 ^ 61) (ws.map wD) = true ∧ cnts (ws.map wD) ≤ 96 ∧ PyData.depthAll (ws.map wD) ≤ 2 := by
  have hnd := ow.needs.mem
  have key : ∀ d ∈ ws.map wD, asd 20 (10 ^ 61) d = true ∧ DE.cnt d ≤ 16 ∧ d.depth ≤ 2 := by
    intro d hd
    obtain ⟨w, hw, rfl⟩ := List.mem_map.mp hd
    obtain ⟨j1, j2⟩ := smI fun x hx => w8_range ((ow.worths w hw).2.2.2 x hx)
    have j3 := (ow.worths w hw).2.1
    have e1 := asd_k (.inl (ow.kinds w hw))
    have n1 : asd 20 (10 ^ 61) (ndD w.nd) = true ∧ DE.cnt (ndD w.nd) ≤ 3 ∧ (ndD w.nd).depth ≤ 1 := by
      cases e : w.nd with
      | none => exact ⟨rfl, by simp [ndD, DE.cnt], by simp [ndD, PyData.depth]⟩
      | some p =>
        obtain ⟨v, hv, z1, z2⟩ := hnd w hw p e
        have r : 0 ≤ p.2 ∧ p.2 ≤ 9999 := by
          rcases List.mem_append.mp z2 with z | z
          · exact w8_range ((ow.worths v hv).2.2.2 _ z)
          · simp only [List.mem_cons, List.not_mem_nil, or_false] at z
            rw [z]
            decide
        have kk := asd_k (x := p.1) (.inl (by rw [z1]; exact ow.kinds v hv))
        refine ⟨?_, ?_, ?_⟩
        · show asd 20 (10 ^ 61) (.tuple [.str p.1, .int p.2]) = true
          rw [asd_t]
          exact asds_c kk (asds_c (asd_i (by omega) r.2) asds_n)
        · simp [ndD, a1, DE.cnt, cnts]
        · simp [ndD, a1, PyData.depth, PyData.depthAll]
    refine ⟨?_, ?_, ?_⟩
    · unfold wD
      rw [asd_t]
      exact asds_c e1 (asds_c (by rw [asd_t]; exact j1) (asds_c rfl (asds_c n1.1 asds_n)))
    · simp only [wD, DE.cnt, cnts, j2]
      omega
    · simp only [wD, PyData.depth, PyData.depthAll, depth_ints0]
      omega
  refine ⟨asds_iff.mpr fun d hd => (key d hd).1, ?_, depthAll_le fun d hd => (key d hd).2.2⟩
  have := cnts_le fun d hd => (key d hd).2.1
  have := ow.len
  rw [List.length_map] at *
  omega
theorem shows {N : Nat} {d : PyData} (h1 : asd 20 (10 ^ 61) d = true) (h2 : DE.cnt d ≤ 500) (h4 : d.depth ≤ 64) : gRepr d = some (.str d.shown) :=
  repr_ok (L := 20) (N := 500) (asd_okd (M := 10 ^ 61) (by decide) h1) h2 h4 (by decide)
end DE
end
section
set_option Elab.async false
set_option linter.all false
set_option maxRecDepth 100000
set_option maxHeartbeats 4000000
set_option exponentiation.threshold 3000
/-! told answers, drawn -/
namespace DE
open PySem PySem.Spec L2 PyProof.Rows
local macro_rules | `(tactic| walk_at "ev") => `(tactic| simp only [W_some, W_none, W_ite, W_eC, W_eV, W_aNil, W_aCons, W_e1, W_e2, W_eN, W_eTup, W_eLst, W_eDct, W_eAnd, W_eOr, W_eNot, W_tB, W_tAnd, W_tOr, W_tNot, W_tYes, W_eIf, W_eChain, W_oNone, W_oSome, W_eSl, W_itV, W_itR,
  W_eM0, W_eM1, W_eMethL, W_eCall, W_sNil, W_sSet, W_sSetB, W_bTup, W_bNil, W_bCons, bName_W, W_sExpr, W_sRet, W_sIf, W_sFor, W_sPut, nxt_nx, nxt_rt, W_rt, W_nx, W_obind, aList, rd, rds, fz, fzs, mk_false, asB_b, asI_i, asS_s,
  List.getElem?_cons_zero, List.getElem?_cons_succ, List.set_cons_zero, List.set_cons_succ, Option.some.injEq, exists_eq_left', exists_eq_left, Val.r.injEq, MO.l.injEq, List.length_cons, List.length_nil, wipeS, Bool.not_true, Bool.not_false, if_true, if_false, Bool.false_eq_true, reduceIte, isi_int_none, isi_int_bool, isi_int_int, isi_int_str, isi_int_list, isi_int_tuple, isi_int_dict, isi_bool_none, isi_bool_bool, isi_bool_int, isi_bool_str, isi_bool_list, isi_bool_tuple, isi_bool_dict, isi_str_none, isi_str_bool, isi_str_int, isi_str_str, isi_str_list, isi_str_tuple, isi_str_dict, isi_tuple_none, isi_tuple_bool, isi_tuple_int, isi_tuple_str, isi_tuple_list, isi_tuple_tuple, isi_tuple_dict, isi_list_none, isi_list_bool, isi_list_int, isi_list_str, isi_list_list, isi_list_tuple, isi_list_dict, isi_dict_none, isi_dict_bool, isi_dict_int, isi_dict_str, isi_dict_list, isi_dict_tuple, isi_dict_dict, sizeLine_eq, Nat.reduceAdd, Nat.reduceSub, List.reduceReplicate, Nat.reduceLeDiff, Nat.zero_le, true_and, and_true, List.map_cons, List.map_nil, List.zip_nil_left, eq_self_iff_true, seqD, mk_tl, List.cons_append, List.nil_append, itD_l, itD_t,
  gIdx_t, gIdx_l, atI_0, atI_1, atI_2, atI_3, atI_4, atI_5, gAdd_i, gSub_i, gNeg_i, gEq_i, gEq_s, gEq_b, gNe_i, gNe_s, gNe_b, gLt_i, gLe_i, gGt_i, gGe_i, gIsN_n, gNotN_n, gIsN_b, gNotN_b, gLen_l, gLen_t, gTuple_l, gTuple_t, gList_l, gList_t, gRev_l, gRev_t, gInt_b, gInt_i, isN_none, isN_int, isN_str, isN_bool, isN_tup, isN_list, Val.t.injEq, PyData.bool.injEq, enc_eqT, enc_neT, enc_eqT0, enc_neT0, enc_eqL, enc_neL, enc_eqL0, enc_neL0, rtP_rt, W_itZ, two_some, zip2_t, zip2_l, List.length_map, Int.cast_ofNat_Int, decide_true, decide_false, Int.reduceLE, Int.reduceLT, Int.reduceEq, Int.reduceNeg, Int.reduceAdd, Int.reduceSub, Bool.and_self, Bool.true_and, Bool.and_true, Bool.false_and, Bool.and_false, mk_td, MO.d.injEq, in_a1T, nin_a1T, in_a1L, nin_a1L, in_iT, nin_iT, in_iL, nin_iL, in_sT, nin_sT, in_sL, nin_sL, W_eMethD, W_eMethQ, listOf, gSl_t, gSl_l])
local macro_rules | `(tactic| walk_at "go") => `(tactic| repeat (first | walk_at "ev" | with_reducible refine seqC ?_ | with_reducible refine Cont.set ?_ | with_reducible refine Cont.expr ?_ | with_reducible refine Cont.ret ?_ | with_reducible refine Cont.nil ?_ | with_reducible refine Cont.put ?_ | with_reducible refine Cont.for ?_ | with_reducible refine Cont.while ?_ | with_reducible refine Cont.setB ?_))
local macro_rules | `(tactic| walk_at "if") => `(tactic| (refine Cont.mk ?_; walk_at "go"))
section
variable {F : Nat → Bool → Str → Fn} [Is F "_law_draw" 2 8 LB.b__law_draw] {k n b : Nat} {h : MH} {es : List (PyData × PyData)} {P : Val × MH → Prop}
end
end DE
end
section
set_option Elab.async false
set_option linter.all false
set_option maxRecDepth 100000
set_option maxHeartbeats 4000000
set_option exponentiation.threshold 3000
/-! behind anything -/
namespace DE
open PySem PySem.Spec L2 PyProof.Rows
local macro_rules | `(tactic| walk_at "ev") => `(tactic| simp only [W_some, W_none, W_ite, W_eC, W_eV, W_aNil, W_aCons, W_e1, W_e2, W_eN, W_eTup, W_eLst, W_eDct, W_eAnd, W_eOr, W_eNot, W_tB, W_tAnd, W_tOr, W_tNot, W_tYes, W_eIf, W_eChain, W_oNone, W_oSome, W_eSl, W_itV, W_itR,
  W_eM0, W_eM1, W_eMethL, W_eCall, W_sNil, W_sSet, W_sSetB, W_bTup, W_bNil, W_bCons, bName_W, W_sExpr, W_sRet, W_sIf, W_sFor, W_sPut, nxt_nx, nxt_rt, W_rt, W_nx, W_obind, aList, rd, rds, fz, fzs, mk_false, asB_b, asI_i, asS_s,
  List.getElem?_cons_zero, List.getElem?_cons_succ, List.set_cons_zero, List.set_cons_succ, Option.some.injEq, exists_eq_left', exists_eq_left, Val.r.injEq, MO.l.injEq, List.length_cons, List.length_nil, wipeS, Bool.not_true, Bool.not_false, if_true, if_false, Bool.false_eq_true, reduceIte, isi_int_none, isi_int_bool, isi_int_int, isi_int_str, isi_int_list, isi_int_tuple, isi_int_dict, isi_bool_none, isi_bool_bool, isi_bool_int, isi_bool_str, isi_bool_list, isi_bool_tuple, isi_bool_dict, isi_str_none, isi_str_bool, isi_str_int, isi_str_str, isi_str_list, isi_str_tuple, isi_str_dict, isi_tuple_none, isi_tuple_bool, isi_tuple_int, isi_tuple_str, isi_tuple_list, isi_tuple_tuple, isi_tuple_dict, isi_list_none, isi_list_bool, isi_list_int, isi_list_str, isi_list_list, isi_list_tuple, isi_list_dict, isi_dict_none, isi_dict_bool, isi_dict_int, isi_dict_str, isi_dict_list, isi_dict_tuple, isi_dict_dict, sizeLine_eq, Nat.reduceAdd, Nat.reduceSub, List.reduceReplicate, Nat.reduceLeDiff, Nat.zero_le, true_and, and_true, List.map_cons, List.map_nil, List.zip_nil_left, eq_self_iff_true, seqD, mk_tl, List.cons_append, List.nil_append, itD_l, itD_t,
  gIdx_t, gIdx_l, atI_0, atI_1, atI_2, atI_3, atI_4, atI_5, gAdd_i, gSub_i, gNeg_i, gEq_i, gEq_s, gEq_b, gNe_i, gNe_s, gNe_b, gLt_i, gLe_i, gGt_i, gGe_i, gIsN_n, gNotN_n, gIsN_b, gNotN_b, gLen_l, gLen_t, gTuple_l, gTuple_t, gList_l, gList_t, gRev_l, gRev_t, gInt_b, gInt_i, isN_none, isN_int, isN_str, isN_bool, isN_tup, isN_list, Val.t.injEq, PyData.bool.injEq, enc_eqT, enc_neT, enc_eqT0, enc_neT0, enc_eqL, enc_neL, enc_eqL0, enc_neL0, rtP_rt, W_itZ, two_some, zip2_t, zip2_l, List.length_map, Int.cast_ofNat_Int, decide_true, decide_false, Int.reduceLE, Int.reduceLT, Int.reduceEq, Int.reduceNeg, Int.reduceAdd, Int.reduceSub, Bool.and_self, Bool.true_and, Bool.and_true, Bool.false_and, Bool.and_false, mk_td, MO.d.injEq, in_a1T, nin_a1T, in_a1L, nin_a1L, in_iT, nin_iT, in_iL, nin_iL, in_sT, nin_sT, in_sL, nin_sL, W_eMethD, W_eMethQ, listOf, gSl_t, gSl_l])
local macro_rules | `(tactic| walk_at "go") => `(tactic| repeat (first | walk_at "ev" | with_reducible refine seqC ?_ | with_reducible refine Cont.set ?_ | with_reducible refine Cont.expr ?_ | with_reducible refine Cont.ret ?_ | with_reducible refine Cont.nil ?_ | with_reducible refine Cont.put ?_ | with_reducible refine Cont.for ?_ | with_reducible refine Cont.while ?_ | with_reducible refine Cont.setB ?_))
local macro_rules | `(tactic| walk_at "if") => `(tactic| (refine Cont.mk ?_; walk_at "go"))
section
variable {F : Nat → Bool → Str → Fn} {k n b L N : Nat} {h : MH} {es : List (PyData × PyData)} {P : Val × MH → Prop} {d : PyData}
end
end DE
end
section
set_option Elab.async false
set_option linter.all false
set_option maxRecDepth 100000
set_option maxHeartbeats 4000000
set_option exponentiation.threshold 3000
/-! bent things, with their depth -/
namespace DE
open PySem PySem.Spec L2 PyProof.Rows
local macro_rules | `(tactic| walk_at "ev") => `(tactic| simp only [W_some, W_none, W_ite, W_eC, W_eV, W_aNil, W_aCons, W_e1, W_e2, W_eN, W_eTup, W_eLst, W_eDct, W_eAnd, W_eOr, W_eNot, W_tB, W_tAnd, W_tOr, W_tNot, W_tYes, W_eIf, W_eChain, W_oNone, W_oSome, W_eSl, W_itV, W_itR,
  W_eM0, W_eM1, W_eMethL, W_eCall, W_sNil, W_sSet, W_sSetB, W_bTup, W_bNil, W_bCons, bName_W, W_sExpr, W_sRet, W_sIf, W_sFor, W_sPut, nxt_nx, nxt_rt, W_rt, W_nx, W_obind, aList, rd, rds, fz, fzs, mk_false, asB_b, asI_i, asS_s,
  List.getElem?_cons_zero, List.getElem?_cons_succ, List.set_cons_zero, List.set_cons_succ, Option.some.injEq, exists_eq_left', exists_eq_left, Val.r.injEq, MO.l.injEq, List.length_cons, List.length_nil, wipeS, Bool.not_true, Bool.not_false, if_true, if_false, Bool.false_eq_true, reduceIte, isi_int_none, isi_int_bool, isi_int_int, isi_int_str, isi_int_list, isi_int_tuple, isi_int_dict, isi_bool_none, isi_bool_bool, isi_bool_int, isi_bool_str, isi_bool_list, isi_bool_tuple, isi_bool_dict, isi_str_none, isi_str_bool, isi_str_int, isi_str_str, isi_str_list, isi_str_tuple, isi_str_dict, isi_tuple_none, isi_tuple_bool, isi_tuple_int, isi_tuple_str, isi_tuple_list, isi_tuple_tuple, isi_tuple_dict, isi_list_none, isi_list_bool, isi_list_int, isi_list_str, isi_list_list, isi_list_tuple, isi_list_dict, isi_dict_none, isi_dict_bool, isi_dict_int, isi_dict_str, isi_dict_list, isi_dict_tuple, isi_dict_dict, sizeLine_eq, Nat.reduceAdd, Nat.reduceSub, List.reduceReplicate, Nat.reduceLeDiff, Nat.zero_le, true_and, and_true, List.map_cons, List.map_nil, List.zip_nil_left, eq_self_iff_true, seqD, mk_tl, List.cons_append, List.nil_append, itD_l, itD_t,
  gIdx_t, gIdx_l, atI_0, atI_1, atI_2, atI_3, atI_4, atI_5, gAdd_i, gSub_i, gNeg_i, gEq_i, gEq_s, gEq_b, gNe_i, gNe_s, gNe_b, gLt_i, gLe_i, gGt_i, gGe_i, gIsN_n, gNotN_n, gIsN_b, gNotN_b, gLen_l, gLen_t, gTuple_l, gTuple_t, gList_l, gList_t, gRev_l, gRev_t, gInt_b, gInt_i, isN_none, isN_int, isN_str, isN_bool, isN_tup, isN_list, Val.t.injEq, PyData.bool.injEq, enc_eqT, enc_neT, enc_eqT0, enc_neT0, enc_eqL, enc_neL, enc_eqL0, enc_neL0, rtP_rt, W_itZ, two_some, zip2_t, zip2_l, List.length_map, Int.cast_ofNat_Int, decide_true, decide_false, Int.reduceLE, Int.reduceLT, Int.reduceEq, Int.reduceNeg, Int.reduceAdd, Int.reduceSub, Bool.and_self, Bool.true_and, Bool.and_true, Bool.false_and, Bool.and_false, in_a1T, nin_a1T, in_a1L, nin_a1L, in_iT, nin_iT, in_iL, nin_iL, in_sT, nin_sT, in_sL, nin_sL, gAll_map, gAny_map, in_S, nin_S, filter_tt, in_sg, nin_sg])
local macro_rules | `(tactic| walk_at "go") => `(tactic| repeat (first | walk_at "ev" | with_reducible refine seqC ?_ | with_reducible refine Cont.set ?_ | with_reducible refine Cont.expr ?_ | with_reducible refine Cont.ret ?_ | with_reducible refine Cont.nil ?_ | with_reducible refine Cont.put ?_ | with_reducible refine Cont.for ?_ | with_reducible refine Cont.while ?_ | with_reducible refine Cont.setB ?_))
local macro_rules | `(tactic| walk_at "if") => `(tactic| (refine Cont.mk ?_; walk_at "go"))
def Sd (N D : Nat) (d : PyData) : Prop := Sm 80 (10 ^ 62) N d ∧ d.depth ≤ D
section
variable {F : Nat → Bool → Str → Fn} [Is F "_law_draw" 2 8 LB.b__law_draw] {k n b : Nat} {h : MH} {es : List (PyData × PyData)}
end
end DE
end
section
set_option Elab.async false
set_option linter.all false
set_option maxRecDepth 100000
set_option maxHeartbeats 4000000
set_option exponentiation.threshold 3000
/-! courses, plainly -/
namespace DE
open PySem PySem.Spec L2 PyProof.Rows
/-- how many worths are left -/
def tot (pl : BB) : Nat := (pl.map fun r => r.2.length).sum
/-- what comes behind a told answer: an end, or a plan with less -/
inductive DueT (ws : List Wish) (pl : BB) : PyData → Prop
  | fin (word : Str) (x : PyData) (h : ¬ word = "plan") : DueT ws pl (.tuple [.str word, x])
  | plan (nx : BB) (rf : AA) (h : PlG ws nx) (ht : tot nx < tot pl) : DueT ws pl (.tuple [.str "plan", .tuple (nx.map b1), .tuple (rf.map a1)])
/-- a step of a course -/
def stD (as : AA) (w : Str) (ps : AA) : PyData := .tuple [.tuple (as.map a1), sD (w, ps)]
/-- what a list comes to, as a course, from a plan on -/
inductive Cm (ws : List Wish) (bs : BB) : BB → List PyData → PyData → Prop
  | nil {pl : BB} : Cm ws bs pl [] .none
  | bad {pl : BB} {x : PyData} {xs : List PyData} (h : ∀ w ps, x = stD (askOf ws pl) w ps → isAnT bs (askOf ws pl) w ps = false) : Cm ws bs pl (x :: xs) .none
  | fin {pl : BB} {w word : Str} {ps : AA} {x : PyData} (h : isAnT bs (askOf ws pl) w ps = true) (e : behindF ws pl w ps = .tuple [.str word, x]) (hn : ¬ word = "plan") : Cm ws bs pl [stD (askOf ws pl) w ps] (.tuple [.str word, x])
  | over {pl : BB} {w word : Str} {ps : AA} {x y : PyData} {xs : List PyData} (h : isAnT bs (askOf ws pl) w ps = true) (e : behindF ws pl w ps = .tuple [.str word, x]) (hn : ¬ word = "plan") : Cm ws bs pl (stD (askOf ws pl) w ps :: y :: xs) .none
  | go {pl nx : BB} {w : Str} {ps rf : AA} {xs : List PyData} {r : PyData} (h : isAnT bs (askOf ws pl) w ps = true) (e : behindF ws pl w ps = .tuple [.str "plan", .tuple (nx.map b1), .tuple (rf.map a1)]) (g : PlG ws nx) (c : Cm ws bs nx xs r) : Cm ws bs pl (stD (askOf ws pl) w ps :: xs) r
end DE
end
section
set_option Elab.async false
set_option linter.all false
set_option maxRecDepth 100000
set_option maxHeartbeats 4000000
set_option exponentiation.threshold 3000
/-! courses: what looks at them -/
namespace DE
open PySem PySem.Spec L2 PyProof.Rows
theorem idx_s0' {w : Str} {ps : AA} : gIdx (sD (w, ps)) (.int 0) = some (.str w) := rfl
theorem idx_s1' {w : Str} {ps : AA} : gIdx (sD (w, ps)) (.int 1) = some (.tuple (ps.map a1)) := rfl
theorem idx_st0 {w : Str} {as ps : AA} : gIdx (stD as w ps) (.int 0) = some (.tuple (as.map a1)) := rfl
theorem idx_st1 {w : Str} {as ps : AA} : gIdx (stD as w ps) (.int 1) = some (sD (w, ps)) := rfl
local macro_rules | `(tactic| walk_at "ev") => `(tactic| simp only [W_some, W_none, W_ite, W_eC, W_eV, W_aNil, W_aCons, W_e1, W_e2, W_eN, W_eTup, W_eLst, W_eDct, W_eAnd, W_eOr, W_eNot, W_tB, W_tAnd, W_tOr, W_tNot, W_tYes, W_eIf, W_eChain, W_oNone, W_oSome, W_eSl, W_itV, W_itR,
  W_eM0, W_eM1, W_eMethL, W_eCall, W_sNil, W_sSet, W_sSetB, W_bTup, W_bNil, W_bCons, bName_W, W_sExpr, W_sRet, W_sIf, W_sFor, W_sPut, nxt_nx, nxt_rt, W_rt, W_nx, W_obind, aList, rd, rds, fz, fzs, mk_false, asB_b, asI_i, asS_s,
  List.getElem?_cons_zero, List.getElem?_cons_succ, List.set_cons_zero, List.set_cons_succ, Option.some.injEq, exists_eq_left', exists_eq_left, Val.r.injEq, MO.l.injEq, List.length_cons, List.length_nil, wipeS, Bool.not_true, Bool.not_false, if_true, if_false, Bool.false_eq_true, reduceIte, isi_int_none, isi_int_bool, isi_int_int, isi_int_str, isi_int_list, isi_int_tuple, isi_int_dict, isi_bool_none, isi_bool_bool, isi_bool_int, isi_bool_str, isi_bool_list, isi_bool_tuple, isi_bool_dict, isi_str_none, isi_str_bool, isi_str_int, isi_str_str, isi_str_list, isi_str_tuple, isi_str_dict, isi_tuple_none, isi_tuple_bool, isi_tuple_int, isi_tuple_str, isi_tuple_list, isi_tuple_tuple, isi_tuple_dict, isi_list_none, isi_list_bool, isi_list_int, isi_list_str, isi_list_list, isi_list_tuple, isi_list_dict, isi_dict_none, isi_dict_bool, isi_dict_int, isi_dict_str, isi_dict_list, isi_dict_tuple, isi_dict_dict, sizeLine_eq, Nat.reduceAdd, Nat.reduceSub, List.reduceReplicate, Nat.reduceLeDiff, Nat.zero_le, true_and, and_true, List.map_cons, List.map_nil, List.zip_nil_left, eq_self_iff_true, seqD, mk_tl, List.cons_append, List.nil_append, itD_l, itD_t,
  gIdx_t, gIdx_l, atI_0, atI_1, atI_2, atI_3, atI_4, atI_5, gAdd_i, gSub_i, gNeg_i, gEq_i, gEq_s, gEq_b, gNe_i, gNe_s, gNe_b, gLt_i, gLe_i, gGt_i, gGe_i, gIsN_n, gNotN_n, gIsN_b, gNotN_b, gLen_l, gLen_t, gTuple_l, gTuple_t, gList_l, gList_t, gRev_l, gRev_t, gInt_b, gInt_i, isN_none, isN_int, isN_str, isN_bool, isN_tup, isN_list, Val.t.injEq, PyData.bool.injEq, enc_eqT, enc_neT, enc_eqT0, enc_neT0, enc_eqL, enc_neL, enc_eqL0, enc_neL0, rtP_rt, W_itZ, two_some, zip2_t, zip2_l, List.length_map, Int.cast_ofNat_Int, decide_true, decide_false, Int.reduceLE, Int.reduceLT, Int.reduceEq, Int.reduceNeg, Int.reduceAdd, Int.reduceSub, Bool.and_self, Bool.true_and, Bool.and_true, Bool.false_and, Bool.and_false, mk_td, MO.d.injEq, in_a1T, nin_a1T, in_a1L, nin_a1L, in_iT, nin_iT, in_iL, nin_iL, in_sT, nin_sT, in_sL, nin_sL, W_eMethD, W_eMethQ, listOf, gSl_t, gSl_l, idx_s0', idx_s1', idx_st0, idx_st1, filter_tt])
local macro_rules | `(tactic| walk_at "go") => `(tactic| repeat (first | walk_at "ev" | with_reducible refine seqC ?_ | with_reducible refine Cont.set ?_ | with_reducible refine Cont.expr ?_ | with_reducible refine Cont.ret ?_ | with_reducible refine Cont.nil ?_ | with_reducible refine Cont.put ?_ | with_reducible refine Cont.for ?_ | with_reducible refine Cont.while ?_ | with_reducible refine Cont.setB ?_))
local macro_rules | `(tactic| walk_at "if") => `(tactic| (refine Cont.mk ?_; walk_at "go"))
section
variable {F : Nat → Bool → Str → Fn} {k n b L N : Nat} {h : MH} {es : List (PyData × PyData)} {P : Val × MH → Prop}
theorem left_of_ret [Is F "left_of" 3 4 LB.b_left_of] {kd : Str} {wl : List Int} {ref : AA} (hl : wl.length ≤ 1000000) :
    Ret (F (k + 1) false "left_of") [.str kd, .tuple (wl.map PyData.int), .tuple (ref.map a1)] (.tuple ((wl.filter fun x => !decide ((kd, x) ∈ ref) && !decide ((kd, -1) ∈ ref)).map PyData.int)) := by
  refine Is.ret (slots := 4) (b := LB.b_left_of) rfl ?_
  unfold LB.b_left_of
  walk_at "if"
  by_cases h1 : (kd, -1) ∈ ref
  · simp only [h1, decide_true]
    walk_at "go"
    simp
  · simp only [h1, decide_false]
    walk_at "go"
    refine comp_to (as := wl) PyData.int (fun x => !decide ((kd, x) ∈ ref)) PyData.int (by walk_at "go") (by omega) (fun x hx => ?_) ?_
    · walk_at "go"
      exact fun _ => trivial
    walk_at "go"
theorem plan_of_ret [Is F "left_of" 3 4 LB.b_left_of] [Is F "plan_of" 2 6 LB.b_plan_of] {ws : List Wish} {ref : AA} (hl : ws.length ≤ 1000000) (hw : ∀ w ∈ ws, w.ws.length ≤ 1000000) :
    Ret (F (k + 2) false "plan_of") [.tuple (ws.map wD), .tuple (ref.map a1)] (.tuple ((planOf ws ref).map b1)) := by
  refine Is.ret (slots := 6) (b := LB.b_plan_of) rfl ?_
  unfold LB.b_plan_of
  walk_at "go"
  refine comp_to (as := ws) wD (fun _ => true) (fun w => b1 (w.k, w.ws.filter fun x => !decide ((w.k, x) ∈ ref) && !decide ((w.k, -1) ∈ ref))) (by walk_at "go") (by omega) (fun w hwm => ?_) ?_
  · simp only [wD, b1]
    walk_at "go"
    rw [(left_of_ret (F := F) (k := k) (hw w hwm)).w3]
    walk_at "go"
    exact fun _ => trivial
  walk_at "go"
  simp only [planOf, List.map_map]
  rfl
variable [Is F "is_tuple" 3 3 LB.b_is_tuple] [Is F "is_name" 1 2 LB.b_is_name] [Is F "is_worth" 1 1 LB.b_is_worth] [Is F "is_pair" 1 1 LB.b_is_pair_2] [Is F "are_pairs" 1 2 LB.b_are_pairs_2] [Is F "is_said" 1 1 LB.b_is_said] [Is F "is_answer" 3 9 LB.b_is_answer] [Is F "answer" 2 8 LB.b_answer] [Is F "kinds_in" 1 3 LB.b_kinds_in]
end
end DE
end
section
set_option Elab.async false
set_option linter.all false
set_option maxRecDepth 100000
set_option maxHeartbeats 4000000
set_option exponentiation.threshold 3000
/-! what courses come to -/
namespace DE
open PySem PySem.Spec L2 PyProof.Rows
theorem W_itE {a : Ev Val} {σ : Sg} {h : MH} {PD : List PyData × MH → Prop} : W (itE a σ h) PD ↔ W (a σ h) fun p => W (fz p.2 p.1) fun q => W (seqD q.1) fun xs => PD (enumD 0 xs, q.2) := by
  unfold itE
  rcases a σ h with _ | ⟨v, h1⟩
  · simp only [W_none]
  simp only [W_some]
  rcases fz h1 v with _ | ⟨d, h2⟩
  · simp only [W_none]
  simp only [W_some]
  cases d <;> simp only [W_none, W_some, seqD]
def enE (p : Nat × PyData) : PyData := .tuple [.int p.1, p.2]
def enL (n : Nat) : List PyData → List (Nat × PyData)
  | [] => []
  | x :: xs => (n, x) :: enL (n + 1) xs
local macro_rules | `(tactic| walk_at "ev") => `(tactic| simp only [W_some, W_none, W_ite, W_eC, W_eV, W_aNil, W_aCons, W_e1, W_e2, W_eN, W_eTup, W_eLst, W_eDct, W_eAnd, W_eOr, W_eNot, W_tB, W_tAnd, W_tOr, W_tNot, W_tYes, W_eIf, W_eChain, W_oNone, W_oSome, W_eSl, W_itV, W_itR,
  W_eM0, W_eM1, W_eMethL, W_eCall, W_sNil, W_sSet, W_sSetB, W_bTup, W_bNil, W_bCons, bName_W, W_sExpr, W_sRet, W_sIf, W_sFor, W_sPut, nxt_nx, nxt_rt, W_rt, W_nx, W_obind, aList, rd, rds, fz, fzs, mk_false, asB_b, asI_i, asS_s,
  List.getElem?_cons_zero, List.getElem?_cons_succ, List.set_cons_zero, List.set_cons_succ, Option.some.injEq, exists_eq_left', exists_eq_left, Val.r.injEq, MO.l.injEq, List.length_cons, List.length_nil, wipeS, Bool.not_true, Bool.not_false, if_true, if_false, Bool.false_eq_true, reduceIte, isi_int_none, isi_int_bool, isi_int_int, isi_int_str, isi_int_list, isi_int_tuple, isi_int_dict, isi_bool_none, isi_bool_bool, isi_bool_int, isi_bool_str, isi_bool_list, isi_bool_tuple, isi_bool_dict, isi_str_none, isi_str_bool, isi_str_int, isi_str_str, isi_str_list, isi_str_tuple, isi_str_dict, isi_tuple_none, isi_tuple_bool, isi_tuple_int, isi_tuple_str, isi_tuple_list, isi_tuple_tuple, isi_tuple_dict, isi_list_none, isi_list_bool, isi_list_int, isi_list_str, isi_list_list, isi_list_tuple, isi_list_dict, isi_dict_none, isi_dict_bool, isi_dict_int, isi_dict_str, isi_dict_list, isi_dict_tuple, isi_dict_dict, sizeLine_eq, Nat.reduceAdd, Nat.reduceSub, List.reduceReplicate, Nat.reduceLeDiff, Nat.zero_le, true_and, and_true, List.map_cons, List.map_nil, List.zip_nil_left, eq_self_iff_true, seqD, mk_tl, List.cons_append, List.nil_append, itD_l, itD_t,
  gIdx_t, gIdx_l, atI_0, atI_1, atI_2, atI_3, atI_4, atI_5, gAdd_i, gSub_i, gNeg_i, gEq_i, gEq_s, gEq_b, gNe_i, gNe_s, gNe_b, gLt_i, gLe_i, gGt_i, gGe_i, gIsN_n, gNotN_n, gIsN_b, gNotN_b, gLen_l, gLen_t, gTuple_l, gTuple_t, gList_l, gList_t, gRev_l, gRev_t, gInt_b, gInt_i, isN_none, isN_int, isN_str, isN_bool, isN_tup, isN_list, Val.t.injEq, PyData.bool.injEq, enc_eqT, enc_neT, enc_eqT0, enc_neT0, enc_eqL, enc_neL, enc_eqL0, enc_neL0, rtP_rt, W_itZ, two_some, zip2_t, zip2_l, List.length_map, Int.cast_ofNat_Int, decide_true, decide_false, Int.reduceLE, Int.reduceLT, Int.reduceEq, Int.reduceNeg, Int.reduceAdd, Int.reduceSub, Bool.and_self, Bool.true_and, Bool.and_true, Bool.false_and, Bool.and_false, mk_td, MO.d.injEq, in_a1T, nin_a1T, in_a1L, nin_a1L, in_iT, nin_iT, in_iL, nin_iL, in_sT, nin_sT, in_sL, nin_sL, W_eMethD, W_eMethQ, listOf, gSl_t, gSl_l, idx_s0', idx_s1', idx_st0, idx_st1, filter_tt, W_itE])
local macro_rules | `(tactic| walk_at "go") => `(tactic| repeat (first | walk_at "ev" | with_reducible refine seqC ?_ | with_reducible refine Cont.set ?_ | with_reducible refine Cont.expr ?_ | with_reducible refine Cont.ret ?_ | with_reducible refine Cont.nil ?_ | with_reducible refine Cont.put ?_ | with_reducible refine Cont.for ?_ | with_reducible refine Cont.while ?_ | with_reducible refine Cont.setB ?_))
local macro_rules | `(tactic| walk_at "if") => `(tactic| (refine Cont.mk ?_; walk_at "go"))
section
variable {F : Nat → Bool → Str → Fn} {k n b L N : Nat} {h : MH} {es : List (PyData × PyData)} {P : Val × MH → Prop}
variable [Is F "is_tuple" 3 3 LB.b_is_tuple] [Is F "is_name" 1 2 LB.b_is_name] [Is F "is_worth" 1 1 LB.b_is_worth] [Is F "is_pair" 1 1 LB.b_is_pair_2] [Is F "are_pairs" 1 2 LB.b_are_pairs_2] [Is F "is_said" 1 1 LB.b_is_said] [Is F "is_answer" 3 9 LB.b_is_answer] [Is F "answer" 2 8 LB.b_answer] [Is F "kinds_in" 1 3 LB.b_kinds_in]
  [Is F "left_of" 3 4 LB.b_left_of] [Is F "plan_of" 2 6 LB.b_plan_of] [Is F "ask_of" 2 9 LB.b_ask_of] [Is F "are_refusals" 3 9 LB.b_are_refusals] [Is F "left_behind" 3 5 LB.b_left_behind] [Is F "behind" 3 16 LB.b_behind] [Is F "is_step" 3 3 LB.b_is_step]
variable [Is F "_law_are_pairs" 1 3 LB.b__law_are_pairs] [Is F "_law_is_said" 1 1 LB.b__law_is_said] [Is F "_law_answer" 2 8 LB.b__law_answer] [Is F "_law_is_answer" 3 8 LB.b__law_is_answer] [Is F "_law_plan" 2 9 LB.b__law_plan] [Is F "_law_ask" 2 5 LB.b__law_ask] [Is F "_law_behind" 4 14 LB.b__law_behind]
end
end DE
end
section
set_option Elab.async false
set_option linter.all false
set_option maxRecDepth 100000
set_option maxHeartbeats 4000000
set_option exponentiation.threshold 3000
/-! some wishes, pairs that are refused -/
namespace DE
open PySem PySem.Spec L2 PyProof.Rows
theorem W_eNewE {σ : Sg} {h : MH} {P : Val × MH → Prop} : W (eNewE σ h) P ↔ P (.r h.length, h ++ [.e []]) := by unfold eNewE; rw [W_some]
theorem W_eSrtE {m : Bool} {x : Ev Val} {σ : Sg} {h : MH} {P : Val × MH → Prop} : W (eSrtE m x σ h) P ↔ W (x σ h) fun p => ∃ n, p.1 = .r n ∧ ∃ es, p.2[n]? = some (.e es) ∧ sortOk (es.map (·.1)) = true ∧ P (mk m (.list ((es.map (·.1)).mergeSort leD)) p.2) := by
  unfold eSrtE
  rcases x σ h with _ | ⟨v, h1⟩
  · simp only [W_none]
  simp only [W_some]
  cases v with
  | t d => simp only [W_none]; exact ⟨fun z => z.elim, fun ⟨n, z, _⟩ => by cases z⟩
  | tp d => simp only [W_none]; exact ⟨fun z => z.elim, fun ⟨n, z, _⟩ => by cases z⟩
  | r n =>
    simp only
    constructor
    · intro z
      rcases q : h1[n]? with _ | o
      · rw [q] at z; exact (W_none.mp z).elim
      · rw [q] at z
        cases o with
        | e es =>
          simp only at z
          split at z
          · rename_i hs; exact ⟨n, rfl, es, q, hs, by rw [W_some] at z; exact z⟩
          · exact (W_none.mp z).elim
        | l es => exact (W_none.mp z).elim
        | d es => exact (W_none.mp z).elim
        | f es => exact (W_none.mp z).elim
    · rintro ⟨n', e, es, q, hs, hp⟩
      cases e
      rw [q]
      simp only
      rw [if_pos hs, W_some]
      exact hp
def eD (ps : AA) : List (PyData × PyData) := ps.map fun p => (a1 p, .bool true)
def insA (ps : AA) (p : Str × Int) : AA := if p ∈ ps then ps else ps ++ [p]
theorem nk_a1 {p : Str × Int} : nk (a1 p) = some (.tup [.text p.1, .num p.2]) := rfl
theorem nk_eq {p q : Str × Int} : nk (a1 p) = nk (a1 q) ↔ p = q := by
  rw [nk_a1, nk_a1]
  constructor
  · intro h
    injection h with h
    injection h with h
    injection h with h1 h2
    injection h2 with h2 h3
    injection h1 with h1
    injection h2 with h2
    exact Prod.ext h1 h2
  · rintro rfl; rfl
theorem insA_len {ps : AA} {p : Str × Int} : (insA ps p).length ≤ ps.length + 1 := by
  unfold insA
  split <;> simp
theorem insA_mem {ps : AA} {p q : Str × Int} (h : q ∈ insA ps p) : q ∈ ps ∨ q = p := by
  unfold insA at h
  split at h
  · exact .inl h
  · simpa using h
theorem putE_eD {ps : AA} {k : Str} {w : Int} (hl : ps.length < 16777216) : gPutE (.e (eD ps)) (.tuple [.str k, .int w]) (.bool true) = some (.e (eD (insA ps (k, w)))) := by
  show gPutE (.e (eD ps)) (a1 (k, w)) (.bool true) = _
  have hk : tkOk (a1 (k, w)) = true := by
    show decide ((NestedKey.tup [.text k, .num w]).depth ≤ 8) = true
    simp [NestedKey.depth, NestedKey.depthAll]
  simp only [gPutE]
  rw [if_pos ⟨hk, by unfold eD; rw [List.length_map, sizeLine_eq]; exact hl⟩]
  congr 2
  unfold putE insA
  have ea : ((eD ps).any fun p => decide (nk p.1 = nk (a1 (k, w)))) = decide ((k, w) ∈ ps) := by
    unfold eD
    rw [List.any_map]
    rw [Bool.eq_iff_iff, List.any_eq_true, decide_eq_true_eq]
    constructor
    · rintro ⟨p, hp, e⟩
      have e := nk_eq.mp (of_decide_eq_true e)
      rw [← e]; exact hp
    · intro h; exact ⟨_, h, by simp⟩
  rw [ea]
  by_cases h : (k, w) ∈ ps
  · rw [if_pos (by simpa using h), if_pos h]
    unfold eD
    rw [List.map_map]
    apply List.map_congr_left
    intro p hp
    show (if nk (a1 p) = nk (a1 (k, w)) then (a1 p, PyData.bool true) else (a1 p, PyData.bool true)) = _
    split <;> rfl
  · rw [if_neg (by simpa using h), if_neg h]
    unfold eD
    rw [List.map_append]
    rfl
theorem eD_keys {ps : AA} : (eD ps).map (·.1) = ps.map a1 := by unfold eD; rw [List.map_map]; rfl
theorem eD_sort {ps : AA} : ((eD ps).map (·.1)).mergeSort leD = (sortA ps).map a1 := by
  rw [eD_keys, sortA, List.map_mergeSort (s := leD) (f := a1)]
  intro a _ b _
  rfl
theorem eD_ok {ps : AA} : sortOk ((eD ps).map (·.1)) = true := by
  rw [eD_keys]
  simp [sortOk, isSI, a1]
/-- pairs that are refused -/
structure OkR (rf : AA) : Prop where
  len : rf.length ≤ 63
  ok : ∀ p ∈ rf, (p.1 ∈ K12 ∨ p.1 = "qq" ∨ p.1 = "zzz") ∧ -1 ≤ p.2 ∧ p.2 ≤ 9999
/-- what may be refused of wishes -/
def candR (ws : List Wish) : AA := (ws.flatMap fun w => (w.ws ++ [-1, 4]).map fun x => (w.k, x)) ++ ([("qq", -1), ("qq", 1), ("zzz", 0)] : AA)
theorem candR_w {ws : List Wish} {w : Wish} {x : Int} (hw : w ∈ ws) (hx : x ∈ w.ws ++ [-1, 4]) : (w.k, x) ∈ candR ws :=
  List.mem_append_left _ (List.mem_flatMap.mpr ⟨w, hw, List.mem_map_of_mem hx⟩)
theorem candR_len {ws : List Wish} (h : ∀ w ∈ ws, w.ws.length ≤ 8) : (candR ws).length ≤ 10 * ws.length + 3 := by
  unfold candR
  rw [List.length_append, List.length_flatMap]
  have : (ws.map fun w => ((w.ws ++ [-1, 4]).map fun x => (w.k, x)).length).sum ≤ 10 * ws.length := by
    induction ws with
    | nil => simp
    | cons w ws ih =>
      have h1 := h w (by simp)
      have h2 := ih fun v hv => h v (by simp [hv])
      simp only [List.map_cons, List.sum_cons, List.length_map, List.length_append, List.length_cons, List.length_nil] at h2 ⊢
      omega
  simp only [List.length_cons, List.length_nil]
  omega
def G6 : List Int := [0, 9999, 1, 5000, 10, 7]
theorem cut6 {i : Int} (i0 : 0 ≤ i) (i1 : i < 6) : ∃ l : List Int, cutD (G6.map PyData.int) (some i) none ++ cutD (G6.map PyData.int) none (some i) = l.map PyData.int ∧ l.Perm G6 := by
  have : i = 0 ∨ i = 1 ∨ i = 2 ∨ i = 3 ∨ i = 4 ∨ i = 5 := by omega
  rcases this with rfl | rfl | rfl | rfl | rfl | rfl
  · exact ⟨[0, 9999, 1, 5000, 10, 7], rfl, by decide⟩
  · exact ⟨[9999, 1, 5000, 10, 7, 0], rfl, by decide⟩
  · exact ⟨[1, 5000, 10, 7, 0, 9999], rfl, by decide⟩
  · exact ⟨[5000, 10, 7, 0, 9999, 1], rfl, by decide⟩
  · exact ⟨[10, 7, 0, 9999, 1, 5000], rfl, by decide⟩
  · exact ⟨[7, 0, 9999, 1, 5000, 10], rfl, by decide⟩
def enS (n : Nat) : List Str → List (Nat × Str)
  | [] => []
  | x :: xs => (n, x) :: enS (n + 1) xs
def enT (p : Nat × Str) : PyData := .tuple [.int p.1, .str p.2]
theorem enumD_s : ∀ {xs : List Str} {n : Nat}, enumD n (xs.map PyData.str) = (enS n xs).map enT
  | [], _ => rfl
  | x :: xs, n => by simp only [List.map_cons, enumD, enS, enumD_s (xs := xs)]; rfl
local macro_rules | `(tactic| walk_at "ev") => `(tactic| simp only [W_some, W_none, W_ite, W_eC, W_eV, W_aNil, W_aCons, W_e1, W_e2, W_eN, W_eTup, W_eLst, W_eDct, W_eAnd, W_eOr, W_eNot, W_tB, W_tAnd, W_tOr, W_tNot, W_tYes, W_eIf, W_eChain, W_oNone, W_oSome, W_eSl, W_itV, W_itR,
  W_eM0, W_eM1, W_eMethL, W_eCall, W_sNil, W_sSet, W_sSetB, W_bTup, W_bNil, W_bCons, bName_W, W_sExpr, W_sRet, W_sIf, W_sFor, W_sPut, nxt_nx, nxt_rt, W_rt, W_nx, W_obind, aList, rd, rds, fz, fzs, mk_false, asB_b, asI_i, asS_s,
  List.getElem?_cons_zero, List.getElem?_cons_succ, List.set_cons_zero, List.set_cons_succ, Option.some.injEq, exists_eq_left', exists_eq_left, Val.r.injEq, MO.l.injEq, List.length_cons, List.length_nil, wipeS, Bool.not_true, Bool.not_false, if_true, if_false, Bool.false_eq_true, reduceIte, isi_int_none, isi_int_bool, isi_int_int, isi_int_str, isi_int_list, isi_int_tuple, isi_int_dict, isi_bool_none, isi_bool_bool, isi_bool_int, isi_bool_str, isi_bool_list, isi_bool_tuple, isi_bool_dict, isi_str_none, isi_str_bool, isi_str_int, isi_str_str, isi_str_list, isi_str_tuple, isi_str_dict, isi_tuple_none, isi_tuple_bool, isi_tuple_int, isi_tuple_str, isi_tuple_list, isi_tuple_tuple, isi_tuple_dict, isi_list_none, isi_list_bool, isi_list_int, isi_list_str, isi_list_list, isi_list_tuple, isi_list_dict, isi_dict_none, isi_dict_bool, isi_dict_int, isi_dict_str, isi_dict_list, isi_dict_tuple, isi_dict_dict, sizeLine_eq, Nat.reduceAdd, Nat.reduceSub, List.reduceReplicate, Nat.reduceLeDiff, Nat.zero_le, true_and, and_true, List.map_cons, List.map_nil, List.zip_nil_left, eq_self_iff_true, seqD, mk_tl, List.cons_append, List.nil_append, itD_l, itD_t,
  gIdx_t, gIdx_l, atI_0, atI_1, atI_2, atI_3, atI_4, atI_5, gAdd_i, gSub_i, gNeg_i, gEq_i, gEq_s, gEq_b, gNe_i, gNe_s, gNe_b, gLt_i, gLe_i, gGt_i, gGe_i, gIsN_n, gNotN_n, gIsN_b, gNotN_b, gLen_l, gLen_t, gTuple_l, gTuple_t, gList_l, gList_t, gRev_l, gRev_t, gInt_b, gInt_i, isN_none, isN_int, isN_str, isN_bool, isN_tup, isN_list, Val.t.injEq, PyData.bool.injEq, enc_eqT, enc_neT, enc_eqT0, enc_neT0, enc_eqL, enc_neL, enc_eqL0, enc_neL0, rtP_rt, W_itZ, two_some, zip2_t, zip2_l, List.length_map, Int.cast_ofNat_Int, decide_true, decide_false, Int.reduceLE, Int.reduceLT, Int.reduceEq, Int.reduceNeg, Int.reduceAdd, Int.reduceSub, Bool.and_self, Bool.true_and, Bool.and_true, Bool.false_and, Bool.and_false, mk_td, MO.d.injEq, MO.e.injEq, in_a1T, nin_a1T, in_a1L, nin_a1L, in_iT, nin_iT, in_iL, nin_iL, in_sT, nin_sT, in_sL, nin_sL, W_eMethD, W_eMethQ, listOf, gSl_t, gSl_l, filter_tt, W_itE, W_eNewE, W_eSrtE])
local macro_rules | `(tactic| walk_at "go") => `(tactic| repeat (first | walk_at "ev" | with_reducible refine seqC ?_ | with_reducible refine Cont.set ?_ | with_reducible refine Cont.expr ?_ | with_reducible refine Cont.ret ?_ | with_reducible refine Cont.nil ?_ | with_reducible refine Cont.put ?_ | with_reducible refine Cont.for ?_ | with_reducible refine Cont.while ?_ | with_reducible refine Cont.setB ?_))
local macro_rules | `(tactic| walk_at "if") => `(tactic| (refine Cont.mk ?_; walk_at "go"))
section
variable {F : Nat → Bool → Str → Fn} [Is F "_law_draw" 2 8 LB.b__law_draw] {k n b : Nat} {h : MH} {es : List (PyData × PyData)} {P : Val × MH → Prop}
theorem goneF [Is F "_law_gone" 2 9 LB.b__law_gone_2] (hn : h[n]? = some (.d es)) (hp : PenOk b es) (hb : b ≤ 700000) {ws : List Wish} (ow : OkWs ws)
    (q : ∀ (rf : AA) (es' : List (PyData × PyData)), OkR rf → (∀ p ∈ rf, p ∈ candR ws) → PenOk (b + 130) es' → P (.t (.tuple (rf.map a1)), h.set n (.d es'))) : W (callIn (F (k + 2) false "_law_gone") [.r n, .t (.tuple (ws.map wD))] h) P := by
  refine callP [.tuple (ws.map wD)] hn (Is.pen (b := LB.b__law_gone_2) (slots := 9) rfl ?_)
  unfold LB.b__law_gone_2
  walk_at "go"
  have hwl := ow.len
  refine forGo_ret wD (fun rem σ h => ∃ (ps : AA) (es : List (PyData × PyData)) (s3 s4 s5 s6 s7 s8 : Option Val), h = [.d es, .e (eD ps)] ∧ σ = [some (.r 0), some (.t (.tuple (ws.map wD))), some (.r 1), s3, s4, s5, s6, s7, s8] ∧
    (∀ p ∈ ps, (p.1 ∈ K12 ∨ p.1 = "qq" ∨ p.1 = "zzz") ∧ -1 ≤ p.2 ∧ p.2 ≤ 9999) ∧ ps.length + 10 * rem.length ≤ 60 ∧ PenOk (b + 20 * (6 - rem.length)) es ∧ (∀ p ∈ ps, p ∈ candR ws) ∧ ∀ w ∈ rem, w ∈ ws)
    ⟨[], es, none, none, none, none, none, none, rfl, rfl, by simp, by simp; omega, hp.more (by omega), by simp, fun _ h => h⟩ ?_ ?_
  · rintro w rem σ h ⟨ps, es1, s3, s4, s5, s6, s7, s8, rfl, rfl, hps, hl, hp1, hcd, hm⟩
    have hw := hm w (by simp)
    have okw := ow.worths w hw
    have hkw := ow.kinds w hw
    simp only [List.length_cons] at hl hp1
    simp only [wD]
    walk_at "go"
    have h8 : w.ws.length ≤ 8 := by have := okw.2.1; omega
    rw [addT_W (by rw [List.length_map]; simp; omega)]
    walk_at "go"
    rw [show (w.ws.map PyData.int ++ [PyData.int (-1), PyData.int 4]) = (w.ws ++ [-1, 4]).map PyData.int by simp]
    refine forGo_ret PyData.int (fun ir σ h => ∃ (ps : AA) (es : List (PyData × PyData)) (s7 : Option Val), h = [.d es, .e (eD ps)] ∧ σ = [some (.r 0), some (.t (.tuple (ws.map wD))), some (.r 1), some (.t (.str w.k)), some (.t (.tuple (w.ws.map PyData.int))), some (.t (.bool w.must)), some (.t (ndD w.nd)), s7, s8] ∧
      (∀ p ∈ ps, (p.1 ∈ K12 ∨ p.1 = "qq" ∨ p.1 = "zzz") ∧ -1 ≤ p.2 ∧ p.2 ≤ 9999) ∧ ps.length + ir.length + 10 * rem.length ≤ 60 ∧ PenOk (b + 20 * (6 - rem.length) - 2 * ir.length) es ∧ (∀ x ∈ ir, -1 ≤ x ∧ x ≤ 9999) ∧ (∀ p ∈ ps, p ∈ candR ws) ∧ (∀ x ∈ ir, x ∈ w.ws ++ [-1, 4]) ∧ ir.length ≤ 10)
      ⟨ps, es1, s7, rfl, rfl, hps, by simp only [List.length_append, List.length_cons, List.length_nil]; omega, hp1.more (by simp only [List.length_append, List.length_cons, List.length_nil]; omega), ?_, hcd, fun _ h => h, by simp only [List.length_append, List.length_cons, List.length_nil]; omega⟩ ?_ ?_
    · intro x hx
      rcases List.mem_append.mp hx with hx | hx
      · have := w8_range (okw.2.2.2 x hx); omega
      · simp only [List.mem_cons, List.not_mem_nil, or_false] at hx
        rcases hx with rfl | rfl <;> decide
    · clear hps hl hp1 hp hcd
      rintro x ir σ h ⟨ps, es1, s7, rfl, rfl, hps, hl, hp1, hx, hcd, hin, hil⟩
      simp only [List.length_cons] at hl hp1 hil
      walk_at "go"
      refine drawF rfl hp1 (by omega) (by omega) (by omega) fun i es2 i0 i1 hp2 => ?_
      walk_at "go"
      obtain ⟨v, hv, e⟩ := atI_enc PyData.int (as := [2, 4, 9]) (i := i) i0 (by simpa using i1)
      simp only [List.map_cons, List.map_nil] at e
      rw [e]
      have hv2 : 2 ≤ v ∧ v ≤ 9 := by
        simp only [List.mem_cons, List.not_mem_nil, or_false] at hv
        omega
      walk_at "go"
      refine drawF rfl hp2 (by omega) (by omega) (by omega) fun j es3 j0 j1 hp3 => ?_
      walk_at "go"
      by_cases hj : j = 0
      · simp only [hj, decide_true]
        walk_at "go"
        rw [putE_eD (by omega)]
        walk_at "go"
        have := insA_len (ps := ps) (p := (w.k, x))
        refine ⟨insA ps (w.k, x), es3, _, rfl, rfl, fun p hp => ?_, by omega, hp3.more (by omega), fun y hy => hx y (List.mem_cons_of_mem _ hy), fun p hp => ?_, fun y hy => hin y (List.mem_cons_of_mem _ hy), by omega⟩
        · rcases insA_mem hp with z | rfl
          · exact hps p z
          · exact ⟨.inl hkw, hx x (by simp)⟩
        · rcases insA_mem hp with z | rfl
          · exact hcd p z
          · exact candR_w (hm w (by simp)) (hin x (by simp))
      · simp only [hj, decide_false]
        walk_at "go"
        exact ⟨ps, es3, _, rfl, rfl, hps, by omega, hp3.more (by omega), fun y hy => hx y (List.mem_cons_of_mem _ hy), hcd, fun y hy => hin y (List.mem_cons_of_mem _ hy), by omega⟩
    · clear hps hl hp1 hp hcd
      rintro σ h ⟨ps, es1, s7, rfl, rfl, hps, hl, hp1, hx, hcd, hin, hil⟩
      simp only [List.length_nil] at hl hp1
      walk_at "go"
      exact ⟨ps, es1, _, _, _, _, _, _, rfl, rfl, hps, by omega, hp1.more (by omega), hcd, fun y hy => hm y (List.mem_cons_of_mem _ hy)⟩
  · rintro σ h ⟨ps, es1, s3, s4, s5, s6, s7, s8, rfl, rfl, hps, hl, hp1, hcd, _⟩
    simp only [List.length_nil] at hl hp1
    walk_at "go"
    refine forGo_ret a1 (as := [("qq", -1), ("qq", 1), ("zzz", 0)]) (fun ir σ h => ∃ (ps : AA) (es : List (PyData × PyData)) (s8 : Option Val), h = [.d es, .e (eD ps)] ∧ σ = [some (.r 0), some (.t (.tuple (ws.map wD))), some (.r 1), s3, s4, s5, s6, s7, s8] ∧
      (∀ p ∈ ps, (p.1 ∈ K12 ∨ p.1 = "qq" ∨ p.1 = "zzz") ∧ -1 ≤ p.2 ∧ p.2 ≤ 9999) ∧ ps.length + ir.length ≤ 63 ∧ PenOk (b + 123 - ir.length) es ∧ (∀ x ∈ ir, x ∈ [(("qq" : Str), (-1 : Int)), ("qq", 1), ("zzz", 0)]) ∧ (∀ p ∈ ps, p ∈ candR ws) ∧ ir.length ≤ 3)
      ⟨ps, es1, s8, rfl, rfl, hps, by simp only [List.length_cons, List.length_nil]; omega, hp1.more (by simp only [List.length_cons, List.length_nil]; omega), fun _ h => h, hcd, by decide⟩ ?_ ?_
    · clear hps hl hp1 hp hcd
      rintro ⟨x, y⟩ ir σ h ⟨ps, es1, s8, rfl, rfl, hps, hl, hp1, hx, hcd, hil⟩
      simp only [List.length_cons] at hl hp1 hil
      simp only [a1]
      walk_at "go"
      refine drawF rfl hp1 (by omega) (by omega) (by omega) fun j es3 j0 j1 hp3 => ?_
      walk_at "go"
      by_cases hj : j = 0
      · simp only [hj, decide_true]
        walk_at "go"
        rw [putE_eD (by omega)]
        walk_at "go"
        have := insA_len (ps := ps) (p := (x, y))
        refine ⟨insA ps (x, y), es3, _, rfl, rfl, fun p hp => ?_, by omega, hp3.more (by omega), fun y hy => hx y (List.mem_cons_of_mem _ hy), fun p hp => ?_, by omega⟩
        rotate_left
        · rcases insA_mem hp with z | rfl
          · exact hcd p z
          · exact List.mem_append_right _ (hx (x, y) (by simp))
        rcases insA_mem hp with z | rfl
        · exact hps p z
        · have := hx (x, y) (by simp)
          simp only [List.mem_cons, List.not_mem_nil, or_false, Prod.mk.injEq] at this
          rcases this with ⟨rfl, rfl⟩ | ⟨rfl, rfl⟩ | ⟨rfl, rfl⟩
          · exact ⟨.inr (.inl rfl), by decide, by decide⟩
          · exact ⟨.inr (.inl rfl), by decide, by decide⟩
          · exact ⟨.inr (.inr rfl), by decide, by decide⟩
      · simp only [hj, decide_false]
        walk_at "go"
        exact ⟨ps, es3, _, rfl, rfl, hps, by omega, hp3.more (by omega), fun y hy => hx y (List.mem_cons_of_mem _ hy), hcd, by omega⟩
    · clear hps hl hp1 hp hcd
      rintro σ h ⟨ps, es1, s8, rfl, rfl, hps, hl, hp1, hx, hcd, hil⟩
      simp only [List.length_nil] at hl hp1
      walk_at "go"
      refine ⟨eD_ok, ?_⟩
      rw [eD_sort]
      refine ⟨_, _, _, rfl, q _ _ ⟨by rw [sortA_len]; omega, fun p hp => hps p (sortA_mem.mp hp)⟩ (fun p hp => hcd p (sortA_mem.mp hp)) (hp1.more (by omega))⟩
theorem enS_cons {ks : List Str} {n : Nat} {a : Nat × Str} {rem : List (Nat × Str)} (h : a :: rem = enS n (ks.drop n)) : ∃ hn : n < ks.length, a = (n, ks[n]) ∧ rem = enS (n + 1) (ks.drop (n + 1)) := by
  by_cases hn : n < ks.length
  · rw [List.drop_eq_getElem_cons hn] at h
    simp only [enS, List.cons.injEq] at h
    exact ⟨hn, h.1, h.2⟩
  · rw [List.drop_eq_nil_of_le (by omega)] at h
    cases h
theorem greatF [Is F "_law_kinds" 2 4 LB.b__law_kinds] [Is F "_law_great" 1 8 LB.b__law_great] (hn : h[n]? = some (.d es)) (hp : PenOk b es) (hb : b ≤ 700000)
    (q : ∀ (ws : List Wish) (es' : List (PyData × PyData)), OkWs ws → (∀ w ∈ ws, w.ws.length ≤ 6) → PenOk (b + 42) es' → P (.t (.tuple (ws.map wD)), h.set n (.d es'))) : W (callIn (F (k + 3) false "_law_great") [.r n] h) P := by
  refine callP [] hn (Is.pen (b := LB.b__law_great) (slots := 8) (ds := []) rfl ?_)
  unfold LB.b__law_great
  walk_at "go"
  refine kindsF (F := F) rfl hp (by omega) (by omega) (by omega) fun ks es1 hkl hknd hkk hp1 => ?_
  have hkl : ks.length = 6 := by omega
  walk_at "go"
  rw [enumD_s]
  refine forGo_ret enT (fun rem σ h => ∃ (fs : List Wish) (es : List (PyData × PyData)) (s4 s5 s6 s7 : Option Val), h = [.d es, .l (fs.map wD)] ∧ σ = [some (.r 0), some (.t (.list (ks.map PyData.str))), some (.t (.list (G6.map PyData.int))), some (.r 1), s4, s5, s6, s7] ∧
    rem = enS fs.length (ks.drop fs.length) ∧ fs.map (·.k) = ks.take fs.length ∧ (∀ w ∈ fs, w.ws.Perm G6) ∧ NdOk fs ∧ PenOk (b + 12 + 5 * fs.length) es)
    ⟨[], es1, none, none, none, none, rfl, rfl, rfl, rfl, by simp, .nil, hp1⟩ ?_ ?_
  · clear hp1 es1
    rintro a rem σ h ⟨fs, es1, s4, s5, s6, s7, rfl, rfl, er, ek, hfs, hnd, hp1⟩
    obtain ⟨hlt, rfl, er2⟩ := enS_cons er
    simp only [enT]
    walk_at "go"
    refine drawF rfl hp1 (by omega) (by omega) (by omega) fun i es2 i0 i1 hp2 => ?_
    walk_at "go"
    refine Cont.join (fun σ h => ∃ (nd : Option (Str × Int)) (es : List (PyData × PyData)), h = [.d es, .l (fs.map wD)] ∧ σ = [some (.r 0), some (.t (.list (ks.map PyData.str))), some (.t (.list (G6.map PyData.int))), some (.r 1), some (.t (.int (fs.length : Int))), some (.t (.str ks[fs.length])), some (.t (.int i)), some (.t (ndD nd))] ∧
      (∀ p, nd = some p → ∃ v ∈ fs, p.1 = v.k ∧ p.2 ∈ v.ws ++ [4]) ∧ PenOk (b + 12 + 5 * fs.length + 4) es) ?_ ?_
    · walk_at "go"
      by_cases h0 : (0 : Int) < fs.length
      · simp only [h0, decide_true]
        walk_at "go"
        refine drawF rfl hp2 (by omega) (by omega) (by omega) fun j es3 j0 j1 hp3 => ?_
        walk_at "go"
        by_cases hj : j = 0
        · simp only [hj, decide_true]
          walk_at "go"
          refine drawF rfl hp3 (by omega) (by omega) (by omega) fun m es4 m0 m1 hp4 => ?_
          walk_at "go"
          obtain ⟨u, rfl⟩ : ∃ u : Nat, m = u := ⟨m.toNat, by omega⟩
          have hu : u < ks.length := by omega
          have ea : atI (ks.map PyData.str) (u : Int) = some (.str ks[u]) := by
            rw [atI_n, List.getElem?_map, List.getElem?_eq_getElem hu]
            rfl
          rw [ea]
          walk_at "go"
          refine drawF rfl hp4 (by omega) (by omega) (by omega) fun z es5 z0 z1 hp5 => ?_
          walk_at "go"
          obtain ⟨v, hv, e⟩ := atI_enc PyData.int (as := G6) (i := z) z0 (by simpa [G6] using z1)
          rw [e]
          walk_at "go"
          refine ⟨some (ks[u], v), es5, rfl, rfl, fun p hp => ?_, hp5.more (by omega)⟩
          cases hp
          have hm : ks[u] ∈ fs.map (·.k) := by
            rw [ek]
            exact List.mem_iff_getElem?.mpr ⟨u, by rw [List.getElem?_take, if_pos (by omega), List.getElem?_eq_getElem hu]⟩
          obtain ⟨w, hw, ew⟩ := List.mem_map.mp hm
          exact ⟨w, hw, ew.symm, List.mem_append_left _ ((hfs w hw).mem_iff.mpr hv)⟩
        · simp only [hj, decide_false]
          walk_at "go"
          exact ⟨none, es3, rfl, rfl, by simp, hp3.more (by omega)⟩
      · simp only [h0, decide_false]
        walk_at "go"
        exact ⟨none, es2, rfl, rfl, by simp, hp2.more (by omega)⟩
    · rintro σ h ⟨nd, es3, rfl, rfl, hnd2, hp3⟩
      walk_at "go"
      obtain ⟨l, el, pl⟩ := cut6 i0 i1
      have hle := congrArg List.length el
      rw [List.length_append, List.length_map, pl.length_eq] at hle
      have h6 : G6.length = 6 := rfl
      rw [addL_W (by omega), el]
      walk_at "go"
      refine drawF rfl hp3 (by omega) (by omega) (by omega) fun z es5 z0 z1 hp5 => ?_
      walk_at "go"
      rw [append_W (by rw [List.length_map]; omega)]
      walk_at "go"
      refine ⟨fs ++ [⟨ks[fs.length], l, decide (z = 0), nd⟩], es5, _, _, _, _, by simp [wD], rfl, ?_, ?_, ?_, .snoc hnd hnd2, hp5.more (by simp only [List.length_append, List.length_singleton]; omega)⟩
      · rw [List.length_append, List.length_singleton]; exact er2
      · rw [List.map_append, ek, List.length_append, List.length_singleton, List.take_succ, List.getElem?_eq_getElem hlt]
        rfl
      · intro w hw
        rcases List.mem_append.mp hw with hw | hw
        · exact hfs w hw
        · simp only [List.mem_cons, List.not_mem_nil, or_false] at hw
          rw [hw]
          exact pl
  · rintro σ h ⟨fs, es2, s4, s5, s6, s7, rfl, rfl, er, ek, hfs, hnd, hp2⟩
    have hl : fs.length = 6 := by
      by_cases hn : fs.length < ks.length
      · rw [List.drop_eq_getElem_cons hn] at er
        simp only [enS] at er
        cases er
      · have := congrArg List.length ek
        rw [List.length_map, List.length_take] at this
        omega
    walk_at "go"
    refine ⟨_, _, _, rfl, q fs _ ⟨?_, ?_, by omega, ?_, hnd⟩ (fun w hw => by rw [(hfs w hw).length_eq]; decide) (hp2.more (by omega))⟩
    · rw [ek]; exact (List.take_sublist _ _).nodup hknd
    · intro w hw
      have : w.k ∈ ks.take fs.length := by rw [← ek]; exact List.mem_map_of_mem hw
      exact hkk _ (List.mem_of_mem_take this)
    · intro w hw
      have pw := hfs w hw
      refine ⟨fun z => ?_, ?_, pw.nodup_iff.mpr (by decide), fun x hx => ?_⟩
      · rw [z] at pw
        have := pw.length_eq
        simp [G6] at this
      · rw [pw.length_eq]; decide
      · have : ∀ x ∈ G6, x ∈ WW := by decide
        exact this x (pw.mem_iff.mp hx)
theorem someWishesF [Is F "_law_kinds" 2 4 LB.b__law_kinds] [Is F "_law_worths" 2 5 LB.b__law_worths] [Is F "_law_wishes" 3 8 LB.b__law_wishes] [Is F "_law_great" 1 8 LB.b__law_great] [Is F "_law_some_wishes" 1 1 LB.b__law_some_wishes] (hn : h[n]? = some (.d es)) (hp : PenOk b es) (hb : b ≤ 600000)
    (q : ∀ (ws : List Wish) (es' : List (PyData × PyData)), OkWs ws → (∀ w ∈ ws, w.ws.length ≤ 6) → PenOk (b + 320) es' → P (.t (.tuple (ws.map wD)), h.set n (.d es'))) : W (callIn (F (k + 4) false "_law_some_wishes") [.r n] h) P := by
  refine callP [] hn (Is.pen (b := LB.b__law_some_wishes) (slots := 1) (ds := []) rfl ?_)
  unfold LB.b__law_some_wishes
  walk_at "go"
  refine drawF rfl hp (by omega) (by omega) (by omega) fun i es1 i0 i1 hp1 => ?_
  walk_at "go"
  by_cases hi : i = 0
  · simp only [hi, decide_true]
    walk_at "go"
    refine greatF (F := F) (k := k) (b := b + 1) rfl hp1 (by omega) fun ws es2 ow h6 hp2 => ?_
    walk_at "go"
    exact ⟨_, _, _, rfl, q ws _ ow h6 (hp2.more (by omega))⟩
  · simp only [hi, decide_false]
    walk_at "go"
    refine drawF rfl hp1 (by omega) (by omega) (by omega) fun j es2 j0 j1 hp2 => ?_
    walk_at "go"
    refine kindsF (F := F) (k := k + 1) (many := j) rfl hp2 (by omega) (by omega) (by omega) fun ks es3 hkl hknd hkk hp3 => ?_
    walk_at "go"
    refine wishesF (F := F) rfl hp3 (by omega) hkk (by omega) (by decide) (by decide) fun ws es4 ow hp4 => ?_
    walk_at "go"
    exact ⟨_, _, _, rfl, q ws _ (ow.all hknd hkk (by omega) (by decide)) (fun w hw => by have := (ow.worths w hw).2.1; omega) (hp4.more (by omega))⟩
end
end DE
end
section
set_option Elab.async false
set_option linter.all false
set_option maxRecDepth 100000
set_option maxHeartbeats 4000000
set_option exponentiation.threshold 3000
/-! plans behind refusals, shown -/
namespace DE
open PySem PySem.Spec L2 PyProof.Rows
/-- a plan for wishes, whatever is left -/
structure PlR (ws : List Wish) (pl : BB) : Prop where
  keys : pl.map (·.1) = ws.map (·.k)
  row : ∀ r ∈ pl, r.2.length ≤ 8 ∧ ∀ x ∈ r.2, x ∈ WW
theorem PlR.plan {ws : List Wish} (ow : OkWs ws) (rf : AA) : PlR ws (planOf ws rf) := by
  refine ⟨by unfold planOf; rw [List.map_map]; rfl, fun r hr => ?_⟩
  obtain ⟨w, hw, rfl⟩ := List.mem_map.mp hr
  have := (ow.worths w hw).2.1
  refine ⟨Nat.le_trans (List.length_filter_le _ _) (by omega), fun x hx => ?_⟩
  exact (ow.worths w hw).2.2.2 x (List.mem_filter.mp hx).1
theorem OkR.nil : OkR [] := ⟨by simp, by simp⟩
end DE
end
section
set_option Elab.async false
set_option linter.all false
set_option maxRecDepth 100000
set_option maxHeartbeats 4000000
set_option exponentiation.threshold 3000
/-! courses, told and drawn -/
namespace DE
open PySem PySem.Spec L2 PyProof.Rows
structure IsSt (x : PyData) : Prop where
  ex : ∃ as w ps, x = stD as w ps ∧ OkA as ∧ OkA ps ∧ (w = "no" ∨ w = "rather" ∨ w = "yes")
theorem tot_le : ∀ {pl : BB}, (∀ r ∈ pl, r.2.length ≤ 8) → tot pl ≤ 8 * pl.length
  | [], _ => Nat.le_refl _
  | r :: pl, h => by
    have h1 := h r (by simp)
    have h2 := tot_le (pl := pl) fun r hr => h r (by simp [hr])
    simp only [tot, List.map_cons, List.sum_cons, List.length_cons] at h2 ⊢
    omega
theorem PlG.tot {ws : List Wish} {pl : BB} (ow : OkWs ws) (g : PlG ws pl) : tot pl ≤ 48 := by
  have h1 := tot_le fun r hr => (g.row r hr).1
  have h2 := congrArg List.length g.keys
  have h3 := ow.len
  rw [List.length_map, List.length_map] at h2
  omega
local macro_rules | `(tactic| walk_at "ev") => `(tactic| simp only [W_some, W_none, W_ite, W_eC, W_eV, W_aNil, W_aCons, W_e1, W_e2, W_eN, W_eTup, W_eLst, W_eDct, W_eAnd, W_eOr, W_eNot, W_tB, W_tAnd, W_tOr, W_tNot, W_tYes, W_eIf, W_eChain, W_oNone, W_oSome, W_eSl, W_itV, W_itR,
  W_eM0, W_eM1, W_eMethL, W_eCall, W_sNil, W_sSet, W_sSetB, W_bTup, W_bNil, W_bCons, bName_W, W_sExpr, W_sRet, W_sIf, W_sFor, W_sPut, nxt_nx, nxt_rt, W_rt, W_nx, W_obind, aList, rd, rds, fz, fzs, mk_false, asB_b, asI_i, asS_s,
  List.getElem?_cons_zero, List.getElem?_cons_succ, List.set_cons_zero, List.set_cons_succ, Option.some.injEq, exists_eq_left', exists_eq_left, Val.r.injEq, MO.l.injEq, List.length_cons, List.length_nil, wipeS, Bool.not_true, Bool.not_false, if_true, if_false, Bool.false_eq_true, reduceIte, isi_int_none, isi_int_bool, isi_int_int, isi_int_str, isi_int_list, isi_int_tuple, isi_int_dict, isi_bool_none, isi_bool_bool, isi_bool_int, isi_bool_str, isi_bool_list, isi_bool_tuple, isi_bool_dict, isi_str_none, isi_str_bool, isi_str_int, isi_str_str, isi_str_list, isi_str_tuple, isi_str_dict, isi_tuple_none, isi_tuple_bool, isi_tuple_int, isi_tuple_str, isi_tuple_list, isi_tuple_tuple, isi_tuple_dict, isi_list_none, isi_list_bool, isi_list_int, isi_list_str, isi_list_list, isi_list_tuple, isi_list_dict, isi_dict_none, isi_dict_bool, isi_dict_int, isi_dict_str, isi_dict_list, isi_dict_tuple, isi_dict_dict, sizeLine_eq, Nat.reduceAdd, Nat.reduceSub, List.reduceReplicate, Nat.reduceLeDiff, Nat.zero_le, true_and, and_true, List.map_cons, List.map_nil, List.zip_nil_left, eq_self_iff_true, seqD, mk_tl, List.cons_append, List.nil_append, itD_l, itD_t,
  gIdx_t, gIdx_l, atI_0, atI_1, atI_2, atI_3, atI_4, atI_5, gAdd_i, gSub_i, gNeg_i, gEq_i, gEq_s, gEq_b, gNe_i, gNe_s, gNe_b, gLt_i, gLe_i, gGt_i, gGe_i, gIsN_n, gNotN_n, gIsN_b, gNotN_b, gLen_l, gLen_t, gTuple_l, gTuple_t, gList_l, gList_t, gRev_l, gRev_t, gInt_b, gInt_i, isN_none, isN_int, isN_str, isN_bool, isN_tup, isN_list, Val.t.injEq, PyData.bool.injEq, enc_eqT, enc_neT, enc_eqT0, enc_neT0, enc_eqL, enc_neL, enc_eqL0, enc_neL0, rtP_rt, W_itZ, two_some, zip2_t, zip2_l, List.length_map, Int.cast_ofNat_Int, decide_true, decide_false, Int.reduceLE, Int.reduceLT, Int.reduceEq, Int.reduceNeg, Int.reduceAdd, Int.reduceSub, Bool.and_self, Bool.true_and, Bool.and_true, Bool.false_and, Bool.and_false, mk_td, MO.d.injEq, in_a1T, nin_a1T, in_a1L, nin_a1L, in_iT, nin_iT, in_iL, nin_iL, in_sT, nin_sT, in_sL, nin_sL, W_eMethD, W_eMethQ, listOf, gSl_t, gSl_l, idx_s0', idx_s1', idx_st0, idx_st1, filter_tt, W_itE])
local macro_rules | `(tactic| walk_at "go") => `(tactic| repeat (first | walk_at "ev" | with_reducible refine seqC ?_ | with_reducible refine Cont.set ?_ | with_reducible refine Cont.expr ?_ | with_reducible refine Cont.ret ?_ | with_reducible refine Cont.nil ?_ | with_reducible refine Cont.put ?_ | with_reducible refine Cont.for ?_ | with_reducible refine Cont.while ?_ | with_reducible refine Cont.setB ?_))
local macro_rules | `(tactic| walk_at "if") => `(tactic| (refine Cont.mk ?_; walk_at "go"))
section
variable {F : Nat → Bool → Str → Fn} {k n b L N : Nat} {h : MH} {es : List (PyData × PyData)} {P : Val × MH → Prop}
variable [Is F "is_tuple" 3 3 LB.b_is_tuple] [Is F "is_name" 1 2 LB.b_is_name] [Is F "is_worth" 1 1 LB.b_is_worth] [Is F "is_pair" 1 1 LB.b_is_pair_2] [Is F "are_pairs" 1 2 LB.b_are_pairs_2] [Is F "is_said" 1 1 LB.b_is_said] [Is F "answer" 2 8 LB.b_answer] [Is F "kinds_in" 1 3 LB.b_kinds_in]
  [Is F "left_of" 3 4 LB.b_left_of] [Is F "plan_of" 2 6 LB.b_plan_of] [Is F "ask_of" 2 9 LB.b_ask_of] [Is F "are_refusals" 3 9 LB.b_are_refusals] [Is F "left_behind" 3 5 LB.b_left_behind] [Is F "behind" 3 16 LB.b_behind] [Is F "is_answer" 3 9 LB.b_is_answer] [Is F "is_step" 3 3 LB.b_is_step]
variable [Is F "_law_answer" 2 8 LB.b__law_answer] [Is F "_law_plan" 2 9 LB.b__law_plan] [Is F "_law_ask" 2 5 LB.b__law_ask] [Is F "_law_behind" 4 14 LB.b__law_behind] [Is F "_law_draw" 2 8 LB.b__law_draw] [Is F "_law_freely" 3 8 LB.b__law_freely]
end
end DE
end
section
set_option Elab.async false
set_option linter.all false
set_option maxRecDepth 100000
set_option maxHeartbeats 4000000
set_option exponentiation.threshold 3000
/-! how long what is shown can be -/
namespace DE
open PySem PySem.Spec L2 PyProof.Rows
mutual
def wt : PyData → Nat
  | .none => 10
  | .bool _ => 10
  | .int i => if i.natAbs ≤ 9999 then 10 else 2010
  | .str x => 10 * x.length + 10
  | .list xs => wts xs + 10
  | .tuple xs => wts xs + 10
  | .dict _ => 10
def wts : List PyData → Nat
  | [] => 0
  | x :: xs => wt x + wts xs
end
mutual
theorem wt_show {L : Nat} : ∀ {d : PyData}, okd L d = true → d.shown.length + 2 ≤ wt d
  | .none, _ => by show 4 + 2 ≤ 10; omega
  | .bool b, _ => by cases b <;> (first | (show 4 + 2 ≤ 10; omega) | (show 5 + 2 ≤ 10; omega))
  | .int i, h => by
      have h' : i.natAbs.log2 < 1920 := by simpa [okd] using h
      have h1 := int_text_length_le (a := i) (by decide) h'
      show (Str.ofString (toString i)).length + 2 ≤ if i.natAbs ≤ 9999 then 10 else 2010
      split
      · rename_i hs
        have := (asc_int (i := i) (k := 4) (by decide) (by omega)).1
        omega
      · rw [PySem.ofString_length]
        omega
  | .str x, h => by
    have h0 : txtOk L x = true := h
    unfold txtOk at h0
    rw [Bool.and_eq_true, List.all_eq_true] at h0
    have := StrLaws.reprText_len x fun c hc => of_decide_eq_true (h0.2 c hc)
    show (reprText x).length + 2 ≤ 10 * x.length + 10
    omega
  | .list xs, h => by
    have h3 := wts_show (xs := xs) (by simpa [okd] using h)
    have := listText_len_le (PyData.shownAll xs)
    rw [shownAll_len] at this
    show (listText (PyData.shownAll xs)).length + 2 ≤ wts xs + 10
    omega
  | .tuple xs, h => by
    have h3 := wts_show (xs := xs) (by simpa [okd] using h)
    have := tupleText_len_le (PyData.shownAll xs)
    rw [shownAll_len] at this
    show (tupleText (PyData.shownAll xs)).length + 2 ≤ wts xs + 10
    omega
  | .dict kvs, h => by
    have : kvs = [] := by simpa [okd] using h
    subst this
    show 2 + 2 ≤ 10
    omega
theorem wts_show {L : Nat} : ∀ {xs : List PyData}, okds L xs = true → ((PyData.shownAll xs).map (·.length)).sum + 2 * xs.length ≤ wts xs
  | [], _ => by simp [PyData.shownAll, wts]
  | x :: xs, h => by
    simp only [okds, Bool.and_eq_true] at h
    have a := wt_show h.1
    have b := wts_show h.2
    simp only [PyData.shownAll, List.map_cons, List.sum_cons, List.length_cons, wts]
    omega
end
mutual
theorem cnt_wt : ∀ d : PyData, DE.cnt d ≤ wt d
  | .none => by simp [DE.cnt, wt]
  | .bool _ => by simp [DE.cnt, wt]
  | .int i => by simp only [DE.cnt, wt]; split <;> omega
  | .str x => by simp only [DE.cnt, wt]; omega
  | .list xs => by have := cnts_wts xs; simp only [DE.cnt, wt]; omega
  | .tuple xs => by have := cnts_wts xs; simp only [DE.cnt, wt]; omega
  | .dict _ => by simp [DE.cnt, wt]
theorem cnts_wts : ∀ xs : List PyData, cnts xs ≤ wts xs
  | [] => Nat.le_refl _
  | x :: xs => by have := cnt_wt x; have := cnts_wts xs; simp only [cnts, wts]; omega
end
mutual
theorem wt_cnt {M : Nat} : ∀ {d : PyData}, asd 80 M d = true → wt d ≤ 2010 * DE.cnt d
  | .none, _ => by simp [DE.cnt, wt]
  | .bool _, _ => by simp [DE.cnt, wt]
  | .int i, _ => by simp only [DE.cnt, wt]; split <;> omega
  | .str x, h => by
    have := (asd_str.mp h).1
    simp only [DE.cnt, wt]
    omega
  | .list xs, h => by
    have := wts_cnts (xs := xs) (M := M) (by simpa only [asd] using h)
    simp only [DE.cnt, wt]
    omega
  | .tuple xs, h => by
    have := wts_cnts (xs := xs) (M := M) (by simpa only [asd] using h)
    simp only [DE.cnt, wt]
    omega
  | .dict _, _ => by simp [DE.cnt, wt]
theorem wts_cnts {M : Nat} : ∀ {xs : List PyData}, asds 80 M xs = true → wts xs ≤ 2010 * cnts xs
  | [], _ => by simp [cnts, wts]
  | x :: xs, h => by
    simp only [asds, Bool.and_eq_true] at h
    have := wt_cnt h.1
    have := wts_cnts h.2
    simp only [cnts, wts]
    omega
end
theorem wts_sub {xs ys : List PyData} (s : xs.Sublist ys) : wts xs ≤ wts ys := by
  induction s with
  | slnil => exact Nat.le_refl _
  | cons a s ih => simp only [wts]; omega
  | cons_cons a s ih => simp only [wts]; omega
theorem wts_mem : ∀ {xs : List PyData} {x : PyData}, x ∈ xs → wt x ≤ wts xs
  | y :: xs, x, h => by
    simp only [wts]
    rcases List.mem_cons.mp h with e | h
    · rw [e]; omega
    · have := wts_mem h; omega
/-- a list of parts -/
structure Lw (n : Nat) (xs : List PyData) : Prop where
  as : asds 80 (10 ^ 62) xs = true
  dep : ∀ x ∈ xs, x.depth ≤ 8
  w : wts xs ≤ n
theorem Lw.sub {n : Nat} {xs ys : List PyData} (h : Lw n ys) (s : xs.Sublist ys) : Lw n xs :=
  ⟨asds_iff.mpr fun x hx => asds_iff.mp h.as x (s.subset hx), fun x hx => h.dep x (s.subset hx), Nat.le_trans (wts_sub s) h.w⟩
theorem Lw.cut {n : Nat} {xs : List PyData} (h : Lw n xs) {lo hi : Option Int} : Lw n (cutD xs lo hi) := h.sub ((List.take_sublist _ _).trans (List.drop_sublist _ _))
theorem Lw.mono {n m : Nat} {xs : List PyData} (h : Lw n xs) (hm : n ≤ m) : Lw m xs := ⟨h.as, h.dep, Nat.le_trans h.w hm⟩
theorem Lw.one {n : Nat} {x : PyData} (h1 : asd 80 (10 ^ 62) x = true) (h2 : x.depth ≤ 8) (h3 : wt x ≤ n) : Lw n [x] :=
  ⟨asds_c h1 asds_n, fun y hy => by simp only [List.mem_cons, List.not_mem_nil, or_false] at hy; rw [hy]; exact h2, by simp only [wts]; omega⟩
/-- a thing that is looked at -/
structure Tg (n : Nat) (d : PyData) : Prop where
  as : asd 80 (10 ^ 62) d = true
  dep : d.depth ≤ 12
  w : wt d ≤ n
theorem Tg.mono {n m : Nat} {d : PyData} (h : Tg n d) (hm : n ≤ m) : Tg m d := ⟨h.as, h.dep, Nat.le_trans h.w hm⟩
theorem Lw.lst {n : Nat} {xs : List PyData} (h : Lw n xs) : Tg (n + 10) (.list xs) :=
  ⟨by simp only [asd]; exact h.as, by have := depthAll_le h.dep; simp only [PyData.depth]; omega, by have := h.w; simp only [wt]; omega⟩
theorem Lw.tup {n : Nat} {xs : List PyData} (h : Lw n xs) : Tg (n + 10) (.tuple xs) :=
  ⟨by simp only [asd]; exact h.as, by have := depthAll_le h.dep; simp only [PyData.depth]; omega, by have := h.w; simp only [wt]; omega⟩
theorem Tg.gd {n : Nat} {d : PyData} (h : Tg n d) : Gd 80 n d := ⟨asd_okd (by decide) h.as, Nat.le_trans (cnt_wt d) h.w⟩
theorem Lw.gd {n : Nat} {xs : List PyData} (h : Lw n xs) : ∀ x ∈ xs, Gd 80 n x := fun x hx => ⟨asd_okd (by decide) (asds_iff.mp h.as x hx), Nat.le_trans (cnt_wt x) (Nat.le_trans (wts_mem hx) h.w)⟩
end DE
end
section
set_option Elab.async false
set_option linter.all false
set_option maxRecDepth 100000
set_option maxHeartbeats 4000000
set_option exponentiation.threshold 3000
/-! the chain -/
namespace DE
open PySem PySem.Spec L2 PyProof.Rows
def W6 : List Int := [0, 1, 2, 7, 10, 9999]
local macro_rules | `(tactic| walk_at "ev") => `(tactic| simp only [W_some, W_none, W_ite, W_eC, W_eV, W_aNil, W_aCons, W_e1, W_e2, W_eN, W_eTup, W_eLst, W_eDct, W_eAnd, W_eOr, W_eNot, W_tB, W_tAnd, W_tOr, W_tNot, W_tYes, W_eIf, W_eChain, W_oNone, W_oSome, W_eSl, W_itV, W_itR,
  W_eM0, W_eM1, W_eMethL, W_eCall, W_sNil, W_sSet, W_sSetB, W_bTup, W_bNil, W_bCons, bName_W, W_sExpr, W_sRet, W_sIf, W_sFor, W_sPut, nxt_nx, nxt_rt, W_rt, W_nx, W_obind, aList, rd, rds, fz, fzs, mk_false, asB_b, asI_i, asS_s,
  List.getElem?_cons_zero, List.getElem?_cons_succ, List.set_cons_zero, List.set_cons_succ, Option.some.injEq, exists_eq_left', exists_eq_left, Val.r.injEq, MO.l.injEq, List.length_cons, List.length_nil, wipeS, Bool.not_true, Bool.not_false, if_true, if_false, Bool.false_eq_true, reduceIte, isi_int_none, isi_int_bool, isi_int_int, isi_int_str, isi_int_list, isi_int_tuple, isi_int_dict, isi_bool_none, isi_bool_bool, isi_bool_int, isi_bool_str, isi_bool_list, isi_bool_tuple, isi_bool_dict, isi_str_none, isi_str_bool, isi_str_int, isi_str_str, isi_str_list, isi_str_tuple, isi_str_dict, isi_tuple_none, isi_tuple_bool, isi_tuple_int, isi_tuple_str, isi_tuple_list, isi_tuple_tuple, isi_tuple_dict, isi_list_none, isi_list_bool, isi_list_int, isi_list_str, isi_list_list, isi_list_tuple, isi_list_dict, isi_dict_none, isi_dict_bool, isi_dict_int, isi_dict_str, isi_dict_list, isi_dict_tuple, isi_dict_dict, sizeLine_eq, Nat.reduceAdd, Nat.reduceSub, List.reduceReplicate, Nat.reduceLeDiff, Nat.zero_le, true_and, and_true, List.map_cons, List.map_nil, List.zip_nil_left, eq_self_iff_true, seqD, mk_tl, List.cons_append, List.nil_append, itD_l, itD_t,
  gIdx_t, gIdx_l, atI_0, atI_1, atI_2, atI_3, atI_4, atI_5, gAdd_i, gSub_i, gNeg_i, gEq_i, gEq_s, gEq_b, gNe_i, gNe_s, gNe_b, gLt_i, gLe_i, gGt_i, gGe_i, gIsN_n, gNotN_n, gIsN_b, gNotN_b, gLen_l, gLen_t, gTuple_l, gTuple_t, gList_l, gList_t, gRev_l, gRev_t, gInt_b, gInt_i, isN_none, isN_int, isN_str, isN_bool, isN_tup, isN_list, Val.t.injEq, PyData.bool.injEq, enc_eqT, enc_neT, enc_eqT0, enc_neT0, enc_eqL, enc_neL, enc_eqL0, enc_neL0, rtP_rt, W_itZ, two_some, zip2_t, zip2_l, List.length_map, Int.cast_ofNat_Int, decide_true, decide_false, Int.reduceLE, Int.reduceLT, Int.reduceEq, Int.reduceNeg, Int.reduceAdd, Int.reduceSub, Bool.and_self, Bool.true_and, Bool.and_true, Bool.false_and, Bool.and_false, mk_td, MO.d.injEq, in_a1T, nin_a1T, in_a1L, nin_a1L, in_iT, nin_iT, in_iL, nin_iL, in_sT, nin_sT, in_sL, nin_sL, W_eMethD, W_eMethQ, listOf, gSl_t, gSl_l, idx_s0', idx_s1', idx_st0, idx_st1, filter_tt, W_itE])
local macro_rules | `(tactic| walk_at "go") => `(tactic| repeat (first | walk_at "ev" | with_reducible refine seqC ?_ | with_reducible refine Cont.set ?_ | with_reducible refine Cont.expr ?_ | with_reducible refine Cont.ret ?_ | with_reducible refine Cont.nil ?_ | with_reducible refine Cont.put ?_ | with_reducible refine Cont.for ?_ | with_reducible refine Cont.while ?_ | with_reducible refine Cont.setB ?_))
local macro_rules | `(tactic| walk_at "if") => `(tactic| (refine Cont.mk ?_; walk_at "go"))
section
variable {F : Nat → Bool → Str → Fn} [Is F "_law_draw" 2 8 LB.b__law_draw] {k n b : Nat} {h : MH} {es : List (PyData × PyData)} {P : Val × MH → Prop}
end
end DE
end
section
set_option Elab.async false
set_option linter.all false
set_option maxRecDepth 100000
set_option maxHeartbeats 4000000
set_option exponentiation.threshold 3000
/-! d.get, mixed plans, the ask by a dictionary -/
namespace DE
open PySem PySem.Spec L2 PyProof.Rows
def dictOf : PyData → Option (List (PyData × PyData))
  | .dict es => some es
  | _ => none
theorem dictOf_d {es : List (PyData × PyData)} : dictOf (.dict es) = some es := rfl
theorem keyD_s {x : Str} : keyD (.str x) = some (.inr x) := rfl
theorem W_get2 {o k x : Ev Val} {σ : Sg} {h : MH} {P : Val × MH → Prop} : W (eGet2 o k x σ h) P ↔ W (o σ h) fun p => W (rd p.2 p.1) fun d => W (dictOf d) fun _ => W (k σ p.2) fun q => W (x σ q.2) fun r => W (fz r.2 r.1) fun z => W (rd z.2 p.1) fun d2 => W (dictOf d2) fun es =>
    W (rd z.2 q.1) fun kd => W (keyD kd) fun key => P (.t ((valD es key).getD z.1), z.2) := by
  unfold eGet2
  rcases o σ h with _ | ⟨v, h1⟩
  · simp only [W_none]
  simp only [W_some]
  rcases rd h1 v with _ | d1
  · simp only [W_none]
  simp only [W_some]
  cases d1 <;> simp only [dictOf, W_none, W_some]
  rcases k σ h1 with _ | ⟨kv, h2⟩
  · simp only [W_none]
  simp only [W_some]
  rcases x σ h2 with _ | ⟨xv, h3⟩
  · simp only [W_none]
  simp only [W_some]
  rcases fz h3 xv with _ | ⟨dx, h4⟩
  · simp only [W_none]
  simp only [W_some]
  rcases rd h4 v with _ | d4
  · simp only [W_none]
  simp only [W_some]
  cases d4 <;> simp only [W_none, W_some]
  rcases rd h4 kv with _ | kd
  · simp only [W_none]
  simp only [W_some]
  rcases keyD kd with _ | key
  · simp only [W_none]
  simp only [W_some]
theorem askF_keys : ∀ {zs : List (Wish × (Str × List Int))} {acc : AA}, ∃ ks : List Str, (zs.foldl askSt acc).map (·.1) = acc.map (·.1) ++ ks ∧ ks.Sublist (zs.map (·.2.1))
  | [], acc => ⟨[], by simp, by simp⟩
  | z :: zs, acc => by
    obtain ⟨ks, e, s⟩ := askF_keys (zs := zs) (acc := askSt acc z)
    rw [List.foldl_cons, e]
    have : askSt acc z = acc ∨ ∃ x, askSt acc z = acc ++ [(z.2.1, x)] := by
      unfold askSt
      split
      · exact .inl rfl
      · split
        · exact .inr ⟨_, rfl⟩
        · exact .inl rfl
    rcases this with e2 | ⟨x, e2⟩
    · rw [e2]
      exact ⟨ks, rfl, s.cons _⟩
    · rw [e2]
      exact ⟨z.2.1 :: ks, by simp, by simpa using s⟩
theorem askOf_keys {ws : List Wish} {pl : BB} (h : pl.map (·.1) = ws.map (·.k)) : ((askOf ws pl).map (·.1)).Sublist (ws.map (·.k)) := by
  obtain ⟨ks, e, s⟩ := askF_keys (zs := ws.zip pl) (acc := [])
  unfold askOf
  rw [e]
  simp only [List.map_nil, List.nil_append]
  refine s.trans ?_
  rw [← h]
  have : (ws.zip pl).map (fun z => z.2.1) = ((ws.zip pl).map (·.2)).map (·.1) := by rw [List.map_map]; rfl
  rw [this]
  have hl := congrArg List.length h
  rw [List.length_map, List.length_map] at hl
  rw [List.map_snd_zip (by omega)]
  exact List.Sublist.refl _
local macro_rules | `(tactic| walk_at "ev") => `(tactic| simp only [W_some, W_none, W_ite, W_eC, W_eV, W_aNil, W_aCons, W_e1, W_e2, W_eN, W_eTup, W_eLst, W_eDct, W_eAnd, W_eOr, W_eNot, W_tB, W_tAnd, W_tOr, W_tNot, W_tYes, W_eIf, W_eChain, W_oNone, W_oSome, W_eSl, W_itV, W_itR,
  W_eM0, W_eM1, W_eMethL, W_eCall, W_sNil, W_sSet, W_sSetB, W_bTup, W_bNil, W_bCons, bName_W, W_sExpr, W_sRet, W_sIf, W_sFor, W_sPut, nxt_nx, nxt_rt, W_rt, W_nx, W_obind, aList, rd, rds, fz, fzs, mk_false, asB_b, asI_i, asS_s,
  List.getElem?_cons_zero, List.getElem?_cons_succ, List.set_cons_zero, List.set_cons_succ, Option.some.injEq, exists_eq_left', exists_eq_left, Val.r.injEq, MO.l.injEq, List.length_cons, List.length_nil, wipeS, Bool.not_true, Bool.not_false, if_true, if_false, Bool.false_eq_true, reduceIte, isi_int_none, isi_int_bool, isi_int_int, isi_int_str, isi_int_list, isi_int_tuple, isi_int_dict, isi_bool_none, isi_bool_bool, isi_bool_int, isi_bool_str, isi_bool_list, isi_bool_tuple, isi_bool_dict, isi_str_none, isi_str_bool, isi_str_int, isi_str_str, isi_str_list, isi_str_tuple, isi_str_dict, isi_tuple_none, isi_tuple_bool, isi_tuple_int, isi_tuple_str, isi_tuple_list, isi_tuple_tuple, isi_tuple_dict, isi_list_none, isi_list_bool, isi_list_int, isi_list_str, isi_list_list, isi_list_tuple, isi_list_dict, isi_dict_none, isi_dict_bool, isi_dict_int, isi_dict_str, isi_dict_list, isi_dict_tuple, isi_dict_dict, sizeLine_eq, Nat.reduceAdd, Nat.reduceSub, List.reduceReplicate, Nat.reduceLeDiff, Nat.zero_le, true_and, and_true, List.map_cons, List.map_nil, List.zip_nil_left, eq_self_iff_true, seqD, mk_tl, List.cons_append, List.nil_append, itD_l, itD_t,
  gIdx_t, gIdx_l, atI_0, atI_1, atI_2, atI_3, atI_4, atI_5, gAdd_i, gSub_i, gNeg_i, gEq_i, gEq_s, gEq_b, gNe_i, gNe_s, gNe_b, gLt_i, gLe_i, gGt_i, gGe_i, gIsN_n, gNotN_n, gIsN_b, gNotN_b, gLen_l, gLen_t, gTuple_l, gTuple_t, gList_l, gList_t, gRev_l, gRev_t, gInt_b, gInt_i, isN_none, isN_int, isN_str, isN_bool, isN_tup, isN_list, Val.t.injEq, PyData.bool.injEq, enc_eqT, enc_neT, enc_eqT0, enc_neT0, enc_eqL, enc_neL, enc_eqL0, enc_neL0, rtP_rt, W_itZ, two_some, zip2_t, zip2_l, List.length_map, Int.cast_ofNat_Int, decide_true, decide_false, Int.reduceLE, Int.reduceLT, Int.reduceEq, Int.reduceNeg, Int.reduceAdd, Int.reduceSub, Bool.and_self, Bool.true_and, Bool.and_true, Bool.false_and, Bool.and_false, mk_td, MO.d.injEq, in_a1T, nin_a1T, in_a1L, nin_a1L, in_iT, nin_iT, in_iL, nin_iL, in_sT, nin_sT, in_sL, nin_sL, W_eMethD, W_eMethQ, listOf, gSl_t, gSl_l, filter_tt, W_itE, W_get2, dictOf_d, keyD_s])
local macro_rules | `(tactic| walk_at "go") => `(tactic| repeat (first | walk_at "ev" | with_reducible refine seqC ?_ | with_reducible refine Cont.set ?_ | with_reducible refine Cont.expr ?_ | with_reducible refine Cont.ret ?_ | with_reducible refine Cont.nil ?_ | with_reducible refine Cont.put ?_ | with_reducible refine Cont.for ?_ | with_reducible refine Cont.while ?_ | with_reducible refine Cont.setB ?_))
local macro_rules | `(tactic| walk_at "if") => `(tactic| (refine Cont.mk ?_; walk_at "go"))
section
variable {F : Nat → Bool → Str → Fn} {k n b : Nat} {h : MH} {es : List (PyData × PyData)} {P : Val × MH → Prop}
end
end DE
end
section
set_option Elab.async false
set_option linter.all false
set_option maxRecDepth 100000
set_option maxHeartbeats 4000000
set_option exponentiation.threshold 3000
/-! looks at wishes -/
namespace DE
open PySem PySem.Spec L2 PyProof.Rows
def tupOf : PyData → Option (List PyData)
  | .tuple xs => some xs
  | _ => none
def intOf : PyData → Option Int
  | .int i => some i
  | _ => none
theorem tupOf_t {xs : List PyData} : tupOf (.tuple xs) = some xs := rfl
theorem intOf_i {i : Int} : intOf (.int i) = some i := rfl
theorem W_eCnt {x a : Ev Val} {σ : Sg} {h : MH} {P : Val × MH → Prop} : W (eCnt x a σ h) P ↔ W (x σ h) fun p => W (rd p.2 p.1) fun d => W (tupOf d) fun _ => W (a σ p.2) fun q => W (rd q.2 p.1) fun d2 => W (tupOf d2) fun xs => W (rd q.2 q.1) fun e => W (intOf e) fun k => P (.t (.int (xs.countP (eqI k) : Nat)), q.2) := by
  unfold eCnt
  rcases x σ h with _ | ⟨v, h1⟩
  · simp only [W_none]
  simp only [W_some]
  rcases rd h1 v with _ | d1
  · simp only [W_none]
  simp only [W_some]
  cases d1 <;> simp only [tupOf, W_none, W_some]
  rcases a σ h1 with _ | ⟨w, h2⟩
  · simp only [W_none]
  simp only [W_some]
  rcases rd h2 v with _ | d2
  · simp only [W_none]
  simp only [W_some]
  cases d2 <;> simp only [W_none, W_some]
  rcases rd h2 w with _ | e
  · simp only [W_none]
  simp only [W_some]
  cases e <;> simp only [intOf, W_none, W_some]
/-! ### what is a wish -/
def areWo (d : PyData) : Bool := match d with
  | .tuple xs => (decide (1 ≤ xs.length) && decide (xs.length ≤ 6)) && (xs.all isWo && (match intsOf xs with | some ns => decide ns.Nodup | none => false))
  | _ => false
def isWi (d : PyData) : Bool := match d with
  | .tuple [a, b, c, e] => isNm a && (areWo b && (isi .bool c && (isN e || isPr e)))
  | _ => false
def wKey (d : PyData) : Str × Option Str := match d with
  | .tuple [.str k, _, _, .tuple [.str x, _]] => (k, some x)
  | .tuple [.str k, _, _, _] => (k, none)
  | _ => ("", none)
def ordGo (seen : List Str) : List (Str × Option Str) → Bool
  | [] => true
  | p :: r => !decide (p.1 ∈ seen) && (p.2.all (fun x => decide (x ∈ seen)) && ordGo (seen ++ [p.1]) r)
def areWi (d : PyData) : Bool := match d with
  | .tuple xs => decide (xs.length ≤ 6) && (xs.all isWi && ordGo [] (xs.map wKey))
  | _ => false
theorem wo_ints : ∀ {xs : List PyData}, xs.all isWo = true → ∃ ns : List Int, xs = ns.map PyData.int
  | [], _ => ⟨[], rfl⟩
  | x :: xs, h => by
    rw [List.all_cons, Bool.and_eq_true] at h
    obtain ⟨ns, rfl⟩ := wo_ints h.2
    have h1 := h.1
    cases x <;> simp only [isWo] at h1 <;> try cases h1
    exact ⟨_ :: ns, rfl⟩
theorem few {l : List Int} : ¬ l.Nodup → ∃ r : List Int, r.length < l.length ∧ ∀ k ∈ l, k ∈ r := by
  induction l with
  | nil => intro h; exact absurd List.nodup_nil h
  | cons a l ih =>
    intro h
    by_cases ha : a ∈ l
    · refine ⟨l, by simp, fun k hk => ?_⟩
      rcases List.mem_cons.mp hk with rfl | hk
      · exact ha
      · exact hk
    · obtain ⟨r, h1, h2⟩ := ih fun z => h (List.nodup_cons.mpr ⟨ha, z⟩)
      refine ⟨a :: r, by simp; omega, fun k hk => ?_⟩
      rcases List.mem_cons.mp hk with rfl | hk
      · simp
      · exact List.mem_cons_of_mem _ (h2 k hk)
theorem sset_len {ns : List Int} : (sset ns).length = ns.length ↔ ns.Nodup := by
  constructor
  · intro h
    refine Classical.byContradiction fun z => ?_
    obtain ⟨r, h1, h2⟩ := few z
    have := nodup_len (sset_nodup (ns := ns)) fun k hk => h2 k (mem_sset.mp hk)
    omega
  · intro h
    have h1 := nodup_len h fun k hk => (mem_sset (ns := ns)).mpr hk
    have h2 := nodup_len (sset_nodup (ns := ns)) fun k hk => mem_sset.mp hk
    omega
theorem set_iT {b : Ss} {ns : List Int} (h : ns.length < 64) : gSetX b (.tuple (ns.map PyData.int)) = some (b.out ns) := by
  refine gSetX_of ?_
  simp only [gSet, seqOf, ints_some]
  rw [if_pos h]
local macro_rules | `(tactic| walk_at "ev") => `(tactic| simp only [W_some, W_none, W_ite, W_eC, W_eV, W_aNil, W_aCons, W_e1, W_e2, W_eN, W_eTup, W_eLst, W_eDct, W_eAnd, W_eOr, W_eNot, W_tB, W_tAnd, W_tOr, W_tNot, W_tYes, W_eIf, W_eChain, W_oNone, W_oSome, W_eSl, W_itV, W_itR,
  W_eM0, W_eM1, W_eMethL, W_eCall, W_sNil, W_sSet, W_sSetB, W_bTup, W_bNil, W_bCons, bName_W, W_sExpr, W_sRet, W_sIf, W_sFor, W_sPut, nxt_nx, nxt_rt, W_rt, W_nx, W_obind, aList, rd, rds, fz, fzs, mk_false, asB_b, asI_i, asS_s,
  List.getElem?_cons_zero, List.getElem?_cons_succ, List.set_cons_zero, List.set_cons_succ, Option.some.injEq, exists_eq_left', exists_eq_left, Val.r.injEq, MO.l.injEq, List.length_cons, List.length_nil, wipeS, Bool.not_true, Bool.not_false, if_true, if_false, Bool.false_eq_true, reduceIte, isi_int_none, isi_int_bool, isi_int_int, isi_int_str, isi_int_list, isi_int_tuple, isi_int_dict, isi_bool_none, isi_bool_bool, isi_bool_int, isi_bool_str, isi_bool_list, isi_bool_tuple, isi_bool_dict, isi_str_none, isi_str_bool, isi_str_int, isi_str_str, isi_str_list, isi_str_tuple, isi_str_dict, isi_tuple_none, isi_tuple_bool, isi_tuple_int, isi_tuple_str, isi_tuple_list, isi_tuple_tuple, isi_tuple_dict, isi_list_none, isi_list_bool, isi_list_int, isi_list_str, isi_list_list, isi_list_tuple, isi_list_dict, isi_dict_none, isi_dict_bool, isi_dict_int, isi_dict_str, isi_dict_list, isi_dict_tuple, isi_dict_dict, sizeLine_eq, Nat.reduceAdd, Nat.reduceSub, List.reduceReplicate, Nat.reduceLeDiff, Nat.zero_le, true_and, and_true, List.map_cons, List.map_nil, List.zip_nil_left, eq_self_iff_true, seqD, mk_tl, List.cons_append, List.nil_append, itD_l, itD_t,
  gIdx_t, gIdx_l, atI_0, atI_1, atI_2, atI_3, atI_4, atI_5, gAdd_i, gSub_i, gNeg_i, gEq_i, gEq_s, gEq_b, gNe_i, gNe_s, gNe_b, gLt_i, gLe_i, gGt_i, gGe_i, gIsN_n, gNotN_n, gIsN_b, gNotN_b, gLen_l, gLen_t, gTuple_l, gTuple_t, gList_l, gList_t, gRev_l, gRev_t, gInt_b, gInt_i, isN_none, isN_int, isN_str, isN_bool, isN_tup, isN_list, Val.t.injEq, PyData.bool.injEq, enc_eqT, enc_neT, enc_eqT0, enc_neT0, enc_eqL, enc_neL, enc_eqL0, enc_neL0, rtP_rt, W_itZ, two_some, zip2_t, zip2_l, List.length_map, Int.cast_ofNat_Int, decide_true, decide_false, Int.reduceLE, Int.reduceLT, Int.reduceEq, Int.reduceNeg, Int.reduceAdd, Int.reduceSub, Bool.and_self, Bool.true_and, Bool.and_true, Bool.false_and, Bool.and_false, in_a1T, nin_a1T, in_a1L, nin_a1L, in_iT, nin_iT, in_iL, nin_iL, in_sT, nin_sT, in_sL, nin_sL, gAll_map, gAny_map, in_S, nin_S, filter_tt, in_sg, nin_sg, W_eCnt, tupOf_t, intOf_i, W_itE])
local macro_rules | `(tactic| walk_at "go") => `(tactic| repeat (first | walk_at "ev" | with_reducible refine seqC ?_ | with_reducible refine Cont.set ?_ | with_reducible refine Cont.expr ?_ | with_reducible refine Cont.ret ?_ | with_reducible refine Cont.nil ?_ | with_reducible refine Cont.put ?_ | with_reducible refine Cont.for ?_ | with_reducible refine Cont.while ?_ | with_reducible refine Cont.setB ?_))
local macro_rules | `(tactic| walk_at "if") => `(tactic| (refine Cont.mk ?_; walk_at "go"))
section
variable {F : Nat → Bool → Str → Fn} {k L N : Nat} {d : PyData}
theorem are_worths_ret [Is F "is_tuple" 3 3 LB.b_is_tuple] [Is F "is_worth" 1 1 LB.b_is_worth] [Is F "are_worths" 1 2 LB.b_are_worths] : Ret (F (k + 2) false "are_worths") [d] (.bool (areWo d)) := by
  refine Is.ret (slots := 2) (b := LB.b_are_worths) rfl ?_
  unfold LB.b_are_worths
  walk_at "go"
  rw [is_tuple_ret.w3]
  walk_at "go"
  cases d with
  | tuple xs =>
    have h1 : (1 : Int) ≤ (xs.length : Int) ↔ 1 ≤ xs.length := by omega
    have h2 : (xs.length : Int) ≤ 6 ↔ xs.length ≤ 6 := by omega
    simp only [h1, h2]
    cases hc : (decide (1 ≤ xs.length) && decide (xs.length ≤ 6)) with
    | false => walk_at "go"; simp only [areWo, hc, Bool.false_and]
    | true =>
      have hc' := hc
      simp only [Bool.and_eq_true, decide_eq_true_eq] at hc'
      walk_at "go"
      refine comp_to (fun x => x) (fun _ => true) (fun x => PyData.bool (isWo x)) (as := xs) (by walk_at "go"; rw [List.map_id']) (by omega) (fun x hx => ?_) ?_
      · walk_at "go"
        rw [is_worth_ret.w1]
        exact fun _ => rfl
      walk_at "go"
      cases ha : xs.all isWo with
      | false => walk_at "go"; simp only [areWo, hc, ha, Bool.true_and, Bool.false_and]
      | true =>
        walk_at "go"
        obtain ⟨ns, rfl⟩ := wo_ints ha
        rw [List.length_map] at hc'
        rw [set_iT (by omega)]
        walk_at "go"
        simp only [Ss.out, gEq_i, W_some, areWo, hc, ha, Bool.true_and, ints_some, List.length_map]
        have : (((sset ns).length : Int) = (ns.length : Int)) ↔ ns.Nodup := by rw [← sset_len]; omega
        simp only [this]
        walk_at "go"
        simp [hc'.1, hc'.2]
  | _ => walk_at "go"; rfl
end
end DE
end
section
set_option Elab.async false
set_option linter.all false
set_option maxRecDepth 100000
set_option maxHeartbeats 4000000
set_option exponentiation.threshold 3000
/-! looks at wishes, all of them -/
namespace DE
open PySem PySem.Spec L2 PyProof.Rows
theorem four_or {xs : List PyData} : (∃ a b c e, xs = [a, b, c, e]) ∨ xs.length ≠ 4 := by
  match xs with
  | [] => exact .inr (by simp)
  | [_] => exact .inr (by simp)
  | [_, _] => exact .inr (by simp)
  | [_, _, _] => exact .inr (by simp)
  | [a, b, c, e] => exact .inl ⟨a, b, c, e, rfl⟩
  | _ :: _ :: _ :: _ :: _ :: _ => exact .inr (by simp)
theorem isWi_no {xs : List PyData} (h : xs.length ≠ 4) : isWi (.tuple xs) = false := by
  match xs, h with
  | [], _ => rfl
  | [_], _ => rfl
  | [_, _], _ => rfl
  | [_, _, _], _ => rfl
  | _ :: _ :: _ :: _ :: _ :: _, _ => rfl
theorem isPr_no {xs : List PyData} (h : xs.length ≠ 2) : isPr (.tuple xs) = false := by
  match xs, h with
  | [], _ => rfl
  | [_], _ => rfl
  | _ :: _ :: _ :: _, _ => rfl
/-- a wish, as far as it is looked at -/
structure WZ where
  k : Str
  b : PyData
  c : PyData
  nd : Option (Str × Int)
def zD (z : WZ) : PyData := .tuple [.str z.k, z.b, z.c, ndD z.nd]
theorem isWi_z {d : PyData} (h : isWi d = true) : ∃ z, d = zD z := by
  cases d <;> try (cases h; done)
  rename_i xs
  rcases four_or (xs := xs) with ⟨a, b, c, e, rfl⟩ | hx
  rotate_left
  · rw [isWi_no hx] at h; cases h
  simp only [isWi, Bool.and_eq_true, Bool.or_eq_true] at h
  obtain ⟨h1, h2, h3, h4⟩ := h
  cases a <;> simp only [isNm] at h1 <;> try cases h1
  rename_i x
  rcases h4 with h4 | h4
  · cases e <;> try (cases h4; done)
    exact ⟨⟨x, b, c, none⟩, rfl⟩
  · cases e <;> try (cases h4; done)
    rename_i ys
    rcases two_or (xs := ys) with ⟨u, v, rfl⟩ | hy
    rotate_left
    · rw [isPr_no hy] at h4; cases h4
    simp only [isPr, Bool.and_eq_true] at h4
    obtain ⟨g1, g2⟩ := h4
    cases u <;> simp only [isNm] at g1 <;> try cases g1
    cases v <;> simp only [isWo] at g2 <;> try cases g2
    exact ⟨⟨x, b, c, some (_, _)⟩, rfl⟩
theorem isWi_zs : ∀ {xs : List PyData}, xs.all isWi = true → ∃ zs : List WZ, xs = zs.map zD
  | [], _ => ⟨[], rfl⟩
  | x :: xs, h => by
    rw [List.all_cons, Bool.and_eq_true] at h
    obtain ⟨zs, rfl⟩ := isWi_zs h.2
    obtain ⟨z, rfl⟩ := isWi_z h.1
    exact ⟨z :: zs, rfl⟩
def enA {α : Type} (n : Nat) : List α → List (Nat × α)
  | [] => []
  | x :: xs => (n, x) :: enA (n + 1) xs
def enF {α : Type} (f : α → PyData) (p : Nat × α) : PyData := .tuple [.int p.1, f p.2]
theorem enumD_map {α : Type} (f : α → PyData) : ∀ {xs : List α} {n : Nat}, enumD n (xs.map f) = (enA n xs).map (enF f)
  | [], _ => rfl
  | x :: xs, n => by simp only [List.map_cons, enumD, enA, enumD_map f (xs := xs)]; rfl
theorem enA_cons {α : Type} {xs : List α} {n : Nat} {a : Nat × α} {rem : List (Nat × α)} (h : a :: rem = enA n (xs.drop n)) : ∃ hn : n < xs.length, a = (n, xs[n]) ∧ rem = enA (n + 1) (xs.drop (n + 1)) := by
  by_cases hn : n < xs.length
  · rw [List.drop_eq_getElem_cons hn] at h
    simp only [enA, List.cons.injEq] at h
    exact ⟨hn, h.1, h.2⟩
  · rw [List.drop_eq_nil_of_le (by omega)] at h
    cases h
def zKey (z : WZ) : Str × Option Str := (z.k, z.nd.map (·.1))
theorem wKey_z {z : WZ} : wKey (zD z) = zKey z := by
  rcases z with ⟨k, b, c, _ | q⟩ <;> rfl
theorem ord_step {seen : List Str} {z : WZ} {zs : List WZ} : ordGo seen ((z :: zs).map zKey) = (!decide (z.k ∈ seen) && (z.nd.all (fun q => decide (q.1 ∈ seen)) && ordGo (seen ++ [z.k]) (zs.map zKey))) := by
  simp only [List.map_cons, ordGo, zKey]
  rcases z with ⟨k, b, c, _ | q⟩ <;> rfl
local macro_rules | `(tactic| walk_at "ev") => `(tactic| simp only [W_some, W_none, W_ite, W_eC, W_eV, W_aNil, W_aCons, W_e1, W_e2, W_eN, W_eTup, W_eLst, W_eDct, W_eAnd, W_eOr, W_eNot, W_tB, W_tAnd, W_tOr, W_tNot, W_tYes, W_eIf, W_eChain, W_oNone, W_oSome, W_eSl, W_itV, W_itR,
  W_eM0, W_eM1, W_eMethL, W_eCall, W_sNil, W_sSet, W_sSetB, W_bTup, W_bNil, W_bCons, bName_W, W_sExpr, W_sRet, W_sIf, W_sFor, W_sPut, nxt_nx, nxt_rt, W_rt, W_nx, W_obind, aList, rd, rds, fz, fzs, mk_false, asB_b, asI_i, asS_s,
  List.getElem?_cons_zero, List.getElem?_cons_succ, List.set_cons_zero, List.set_cons_succ, Option.some.injEq, exists_eq_left', exists_eq_left, Val.r.injEq, MO.l.injEq, List.length_cons, List.length_nil, wipeS, Bool.not_true, Bool.not_false, if_true, if_false, Bool.false_eq_true, reduceIte, isi_int_none, isi_int_bool, isi_int_int, isi_int_str, isi_int_list, isi_int_tuple, isi_int_dict, isi_bool_none, isi_bool_bool, isi_bool_int, isi_bool_str, isi_bool_list, isi_bool_tuple, isi_bool_dict, isi_str_none, isi_str_bool, isi_str_int, isi_str_str, isi_str_list, isi_str_tuple, isi_str_dict, isi_tuple_none, isi_tuple_bool, isi_tuple_int, isi_tuple_str, isi_tuple_list, isi_tuple_tuple, isi_tuple_dict, isi_list_none, isi_list_bool, isi_list_int, isi_list_str, isi_list_list, isi_list_tuple, isi_list_dict, isi_dict_none, isi_dict_bool, isi_dict_int, isi_dict_str, isi_dict_list, isi_dict_tuple, isi_dict_dict, sizeLine_eq, Nat.reduceAdd, Nat.reduceSub, List.reduceReplicate, Nat.reduceLeDiff, Nat.zero_le, true_and, and_true, List.map_cons, List.map_nil, List.zip_nil_left, eq_self_iff_true, seqD, mk_tl, List.cons_append, List.nil_append, itD_l, itD_t,
  gIdx_t, gIdx_l, atI_0, atI_1, atI_2, atI_3, atI_4, atI_5, gAdd_i, gSub_i, gNeg_i, gEq_i, gEq_s, gEq_b, gNe_i, gNe_s, gNe_b, gLt_i, gLe_i, gGt_i, gGe_i, gIsN_n, gNotN_n, gIsN_b, gNotN_b, gLen_l, gLen_t, gTuple_l, gTuple_t, gList_l, gList_t, gRev_l, gRev_t, gInt_b, gInt_i, isN_none, isN_int, isN_str, isN_bool, isN_tup, isN_list, Val.t.injEq, PyData.bool.injEq, enc_eqT, enc_neT, enc_eqT0, enc_neT0, enc_eqL, enc_neL, enc_eqL0, enc_neL0, rtP_rt, W_itZ, two_some, zip2_t, zip2_l, List.length_map, Int.cast_ofNat_Int, decide_true, decide_false, Int.reduceLE, Int.reduceLT, Int.reduceEq, Int.reduceNeg, Int.reduceAdd, Int.reduceSub, Bool.and_self, Bool.true_and, Bool.and_true, Bool.false_and, Bool.and_false, in_a1T, nin_a1T, in_a1L, nin_a1L, in_iT, nin_iT, in_iL, nin_iL, in_sT, nin_sT, in_sL, nin_sL, gAll_map, gAny_map, in_S, nin_S, filter_tt, in_sg, nin_sg, W_eCnt, tupOf_t, intOf_i, W_itE, gSl_l])
local macro_rules | `(tactic| walk_at "go") => `(tactic| repeat (first | walk_at "ev" | with_reducible refine seqC ?_ | with_reducible refine Cont.set ?_ | with_reducible refine Cont.expr ?_ | with_reducible refine Cont.ret ?_ | with_reducible refine Cont.nil ?_ | with_reducible refine Cont.put ?_ | with_reducible refine Cont.for ?_ | with_reducible refine Cont.while ?_ | with_reducible refine Cont.setB ?_))
local macro_rules | `(tactic| walk_at "if") => `(tactic| (refine Cont.mk ?_; walk_at "go"))
section
variable {F : Nat → Bool → Str → Fn} {k L N : Nat} {d : PyData}
theorem is_wish_ret [Is F "is_tuple" 3 3 LB.b_is_tuple] [Is F "is_name" 1 2 LB.b_is_name] [Is F "is_worth" 1 1 LB.b_is_worth] [Is F "is_pair" 1 1 LB.b_is_pair_2] [Is F "are_worths" 1 2 LB.b_are_worths] [Is F "is_wish" 1 5 LB.b_is_wish] (h : Gd L N d) (hL : L ≤ 16777216) :
    Ret (F (k + 3) false "is_wish") [d] (.bool (isWi d)) := by
  refine Is.ret (slots := 5) (b := LB.b_is_wish) rfl ?_
  unfold LB.b_is_wish
  walk_at "go"
  rw [is_tuple_ret.w3]
  walk_at "go"
  cases d with
  | tuple xs =>
    rcases four_or (xs := xs) with ⟨a, b, c, e, rfl⟩ | hx
    · have hm := h.tup.2
      walk_at "go"
      rw [(is_name_ret (hm a (by simp)) hL).w1]
      walk_at "go"
      cases ha : isNm a with
      | false => walk_at "go"; simp [isWi, ha]
      | true =>
        walk_at "go"
        rw [are_worths_ret.w1]
        walk_at "go"
        cases hb : areWo b with
        | false => walk_at "go"; simp [isWi, ha, hb]
        | true =>
          walk_at "go"
          cases hc : isi .bool c with
          | false => walk_at "go"; simp [isWi, ha, hb, hc]
          | true =>
            walk_at "go"
            cases he : isN e with
            | true => walk_at "go"; simp [isWi, ha, hb, hc, he]
            | false =>
              walk_at "go"
              rw [(is_pair_ret (hm e (by simp)) hL).w1]
              walk_at "go"
              simp [isWi, ha, hb, hc, he]
    · have : (decide ((4 : Int) ≤ (xs.length : Int)) && decide ((xs.length : Int) ≤ 4)) = false := by
        rw [Bool.eq_false_iff]; intro z; simp at z; omega
      simp only [this]
      walk_at "go"
      rw [isWi_no hx]
  | _ => walk_at "go"; rfl
theorem are_wishes_ret [Is F "is_tuple" 3 3 LB.b_is_tuple] [Is F "is_name" 1 2 LB.b_is_name] [Is F "is_worth" 1 1 LB.b_is_worth] [Is F "is_pair" 1 1 LB.b_is_pair_2] [Is F "are_worths" 1 2 LB.b_are_worths] [Is F "is_wish" 1 5 LB.b_is_wish] [Is F "are_wishes" 1 7 LB.b_are_wishes] (h : Gd L N d) (hL : L ≤ 16777216) :
    Ret (F (k + 4) false "are_wishes") [d] (.bool (areWi d)) := by
  refine Is.ret (slots := 7) (b := LB.b_are_wishes) rfl ?_
  unfold LB.b_are_wishes
  walk_at "go"
  rw [is_tuple_ret.w3]
  walk_at "go"
  cases d with
  | tuple xs =>
    have h1 : (0 : Int) ≤ (xs.length : Int) := by omega
    have h2 : (xs.length : Int) ≤ 6 ↔ xs.length ≤ 6 := by omega
    simp only [h1, h2, decide_true, Bool.true_and]
    by_cases c2 : xs.length ≤ 6
    rotate_left
    · simp only [c2, decide_false]
      walk_at "go"
      simp [areWi, c2]
    simp only [c2, decide_true]
    walk_at "go"
    refine comp_to (fun x => x) (fun _ => true) (fun x => PyData.bool (isWi x)) (as := xs) (by walk_at "go"; rw [List.map_id']) (by omega) (fun x hx => ?_) ?_
    · walk_at "go"
      rw [(is_wish_ret (h.tup.2 x hx) hL).w1]
      exact fun _ => rfl
    walk_at "go"
    cases ha : xs.all isWi with
    | false => walk_at "go"; simp [areWi, ha]
    | true =>
      walk_at "go"
      obtain ⟨zs, rfl⟩ := isWi_zs ha
      have ev : areWi (.tuple (zs.map zD)) = ordGo [] (zs.map zKey) := by
        simp only [areWi, c2, ha, decide_true, Bool.true_and, List.map_map]
        congr 1
        exact List.map_congr_left fun z _ => wKey_z
      rw [ev]
      rw [List.length_map] at c2
      refine forGo_ret zD (fun rem σ h => ∃ (seen : List Str) (s3 s4 s5 s6 : Option Val), h = [.l (seen.map PyData.str)] ∧ σ = [some (.t (.tuple (zs.map zD))), none, some (.r 0), s3, s4, s5, s6] ∧ seen.length + rem.length ≤ 6 ∧ ordGo [] (zs.map zKey) = ordGo seen (rem.map zKey))
        ⟨[], none, none, none, none, rfl, rfl, by simpa using c2, rfl⟩ ?_ ?_
      · rintro z rem σ h ⟨seen, s3, s4, s5, s6, rfl, rfl, hl, ho⟩
        rw [ord_step] at ho
        simp only [List.length_cons] at hl
        simp only [zD]
        walk_at "go"
        by_cases hk : z.k ∈ seen
        · simp only [hk, decide_true]
          walk_at "go"
          rw [ho]
          simp [hk]
        · simp only [hk, decide_false]
          walk_at "go"
          rcases z with ⟨zk, zb, zc, _ | q⟩
          · simp only [ndD]
            walk_at "go"
            rw [append_W (by rw [List.length_map]; omega)]
            walk_at "go"
            refine ⟨seen ++ [zk], _, _, _, _, by simp, rfl, by simp; omega, ?_⟩
            rw [ho]
            simp [hk]
          · simp only [ndD, a1]
            walk_at "go"
            by_cases hq : q.1 ∈ seen
            · simp only [hq, decide_true]
              walk_at "go"
              rw [append_W (by rw [List.length_map]; omega)]
              walk_at "go"
              refine ⟨seen ++ [zk], _, _, _, _, by simp, rfl, by simp; omega, ?_⟩
              rw [ho]
              simp [hk, hq]
            · simp only [hq, decide_false]
              walk_at "go"
              rw [ho]
              simp [hk, hq]
      · rintro σ h ⟨seen, s3, s4, s5, s6, rfl, rfl, hl, ho⟩
        walk_at "go"
        rw [ho]
        rfl
  | _ => walk_at "go"; rfl
end
end DE
end
section
set_option Elab.async false
set_option linter.all false
set_option maxRecDepth 100000
set_option maxHeartbeats 4000000
set_option exponentiation.threshold 3000
/-! odd things, bent things of wishes -/
namespace DE
open PySem PySem.Spec L2 PyProof.Rows
local macro_rules | `(tactic| walk_at "ev") => `(tactic| simp only [W_some, W_none, W_ite, W_eC, W_eV, W_aNil, W_aCons, W_e1, W_e2, W_eN, W_eTup, W_eLst, W_eDct, W_eAnd, W_eOr, W_eNot, W_tB, W_tAnd, W_tOr, W_tNot, W_tYes, W_eIf, W_eChain, W_oNone, W_oSome, W_eSl, W_itV, W_itR,
  W_eM0, W_eM1, W_eMethL, W_eCall, W_sNil, W_sSet, W_sSetB, W_bTup, W_bNil, W_bCons, bName_W, W_sExpr, W_sRet, W_sIf, W_sFor, W_sPut, nxt_nx, nxt_rt, W_rt, W_nx, W_obind, aList, rd, rds, fz, fzs, mk_false, asB_b, asI_i, asS_s,
  List.getElem?_cons_zero, List.getElem?_cons_succ, List.set_cons_zero, List.set_cons_succ, Option.some.injEq, exists_eq_left', exists_eq_left, Val.r.injEq, MO.l.injEq, List.length_cons, List.length_nil, wipeS, Bool.not_true, Bool.not_false, if_true, if_false, Bool.false_eq_true, reduceIte, isi_int_none, isi_int_bool, isi_int_int, isi_int_str, isi_int_list, isi_int_tuple, isi_int_dict, isi_bool_none, isi_bool_bool, isi_bool_int, isi_bool_str, isi_bool_list, isi_bool_tuple, isi_bool_dict, isi_str_none, isi_str_bool, isi_str_int, isi_str_str, isi_str_list, isi_str_tuple, isi_str_dict, isi_tuple_none, isi_tuple_bool, isi_tuple_int, isi_tuple_str, isi_tuple_list, isi_tuple_tuple, isi_tuple_dict, isi_list_none, isi_list_bool, isi_list_int, isi_list_str, isi_list_list, isi_list_tuple, isi_list_dict, isi_dict_none, isi_dict_bool, isi_dict_int, isi_dict_str, isi_dict_list, isi_dict_tuple, isi_dict_dict, sizeLine_eq, Nat.reduceAdd, Nat.reduceSub, List.reduceReplicate, Nat.reduceLeDiff, Nat.zero_le, true_and, and_true, List.map_cons, List.map_nil, List.zip_nil_left, eq_self_iff_true, seqD, mk_tl, List.cons_append, List.nil_append, itD_l, itD_t,
  gIdx_t, gIdx_l, atI_0, atI_1, atI_2, atI_3, atI_4, atI_5, gAdd_i, gSub_i, gNeg_i, gEq_i, gEq_s, gEq_b, gNe_i, gNe_s, gNe_b, gLt_i, gLe_i, gGt_i, gGe_i, gIsN_n, gNotN_n, gIsN_b, gNotN_b, gLen_l, gLen_t, gTuple_l, gTuple_t, gList_l, gList_t, gRev_l, gRev_t, gInt_b, gInt_i, isN_none, isN_int, isN_str, isN_bool, isN_tup, isN_list, Val.t.injEq, PyData.bool.injEq, enc_eqT, enc_neT, enc_eqT0, enc_neT0, enc_eqL, enc_neL, enc_eqL0, enc_neL0, rtP_rt, W_itZ, two_some, zip2_t, zip2_l, List.length_map, Int.cast_ofNat_Int, decide_true, decide_false, Int.reduceLE, Int.reduceLT, Int.reduceEq, Int.reduceNeg, Int.reduceAdd, Int.reduceSub, Bool.and_self, Bool.true_and, Bool.and_true, Bool.false_and, Bool.and_false, in_a1T, nin_a1T, in_a1L, nin_a1L, in_iT, nin_iT, in_iL, nin_iL, in_sT, nin_sT, in_sL, nin_sL, gAll_map, gAny_map, in_S, nin_S, filter_tt, in_sg, nin_sg])
local macro_rules | `(tactic| walk_at "go") => `(tactic| repeat (first | walk_at "ev" | with_reducible refine seqC ?_ | with_reducible refine Cont.set ?_ | with_reducible refine Cont.expr ?_ | with_reducible refine Cont.ret ?_ | with_reducible refine Cont.nil ?_ | with_reducible refine Cont.put ?_ | with_reducible refine Cont.for ?_ | with_reducible refine Cont.while ?_ | with_reducible refine Cont.setB ?_))
local macro_rules | `(tactic| walk_at "if") => `(tactic| (refine Cont.mk ?_; walk_at "go"))
def SdB (N D : Nat) (d : PyData) : Prop := Sm 200 (10 ^ 62) N d ∧ d.depth ≤ D
def odd1 : List PyData := [.none, .bool true, .bool false, .int 0, .int 1, .int (-1), .int 9999, .int 10000, .int (10 ^ 60), .str "", .str "a", .str "A", .str "a1", .str "zzzzzzzz", .str "aaaaaaaaa", .str " ", .str "~"]
def odd2 (d : PyData) : List PyData := [.tuple [], .list [], .dict [], .list [d], .tuple [d], .tuple [.str "a", .int 1], .tuple [.str "a", .tuple [.int 1]], .tuple [.int 1, .int 1], .str "a\n"]
section
variable {F : Nat → Bool → Str → Fn} [Is F "_law_draw" 2 8 LB.b__law_draw] {k n b : Nat} {h : MH} {es : List (PyData × PyData)}
end
end DE
end
section
set_option Elab.async false
set_option linter.all false
set_option maxRecDepth 100000
set_option maxHeartbeats 4000000
/-! refusals that add up: plain -/
namespace DE
open PySem PySem.Spec L2 PyProof.Rows
theorem W_eRepN {m : Bool} {n : Int} {a : Ev (List Val)} {σ : Sg} {h : MH} {P : Val × MH → Prop} : W (eRepN m n a σ h) P ↔ W (a σ h) fun p => W (fzs p.2 p.1) fun z => ((0 ≤ n ∧ n ≤ 1000) ∧ z.1.length ≤ 1000) ∧ P (mk m (.list (List.replicate n.toNat z.1).flatten) z.2) := by
  unfold eRepN
  rcases a σ h with _ | ⟨vs, h1⟩
  · simp only [W_none]
  simp only [W_some]
  rcases fzs h1 vs with _ | ⟨ds, h2⟩
  · simp only [W_none]
  simp only [W_some]
  split
  · rename_i c; simp only [W_some, c, true_and]
  · rename_i c; simp only [W_none, c, false_and]
theorem set_pairs {ps : AA} (h : (ddP ps).length < 64) : gSetX .sorted (.tuple (ps.map a1)) = some (.list ((sortA (ddP ps)).map a1)) := by
  cases ps with
  | nil =>
    rw [show sortA (ddP []) = [] from List.mergeSort_nil]
    rfl
  | cons p ps =>
    have e : gSet Ss.sorted.out (.tuple ((p :: ps).map a1)) = none := rfl
    have e2 : gSetP (.tuple ((p :: ps).map a1)) = some (.list (((ddP (p :: ps)).mergeSort leP).map pSI)) := by
      show (match siOf ((p :: ps).map pSI) with | some qs => if (ddP qs).length < 64 then some (PyData.list (((ddP qs).mergeSort leP).map pSI)) else none | none => none) = _
      rw [si_some]
      exact if_pos h
    show (match gSet Ss.sorted.out (.tuple ((p :: ps).map a1)) with | some r => some r | none => gSetP (.tuple ((p :: ps).map a1))) = _
    rw [e]
    exact e2
theorem both_mem {ps : AA} {p : Str × Int} : p ∈ sortA (ddP ps) ↔ p ∈ ps := sortA_mem.trans ddP_mem
/-- what both leave -/
theorem row_both {w : Wish} {one other : AA} : (w.ws.filter fun x => !decide ((w.k, x) ∈ one ++ other) && !decide ((w.k, -1) ∈ one ++ other)) =
    (w.ws.filter fun x => !decide ((w.k, x) ∈ one) && !decide ((w.k, -1) ∈ one)).filter fun x => decide (x ∈ w.ws.filter fun x => !decide ((w.k, x) ∈ other) && !decide ((w.k, -1) ∈ other)) := by
  rw [List.filter_filter]
  refine List.filter_congr fun x hx => ?_
  rw [Bool.eq_iff_iff]
  simp only [List.mem_append, List.mem_filter, hx, true_and, Bool.and_eq_true, Bool.not_eq_true', decide_eq_false_iff_not, decide_eq_true_eq, not_or]
  constructor
  · rintro ⟨⟨a, b⟩, c, d⟩; exact ⟨⟨b, d⟩, a, c⟩
  · rintro ⟨⟨b, d⟩, a, c⟩; exact ⟨⟨a, b⟩, c, d⟩
/-- a kind's own refusals do for it -/
theorem row_alone {w : Wish} {ref : AA} : (w.ws.filter fun x => !decide ((w.k, x) ∈ ref.filter fun p => decide (p.1 = w.k)) && !decide ((w.k, -1) ∈ ref.filter fun p => decide (p.1 = w.k))) =
    w.ws.filter fun x => !decide ((w.k, x) ∈ ref) && !decide ((w.k, -1) ∈ ref) := by
  refine List.filter_congr fun x _ => ?_
  simp only [List.mem_filter, decide_true, and_true]
/-- an ask only grows -/
theorem askSt_grows (acc : AA) (p : Wish × (Str × List Int)) : ∃ t, askSt acc p = acc ++ t := by
  unfold askSt
  split
  · exact ⟨[], by simp⟩
  · split
    · exact ⟨_, rfl⟩
    · exact ⟨[], by simp⟩
theorem ask_grows : ∀ (l : List (Wish × (Str × List Int))) (acc : AA), ∃ t, l.foldl askSt acc = acc ++ t
  | [], acc => ⟨[], by simp⟩
  | p :: l, acc => by
    obtain ⟨t, e⟩ := askSt_grows acc p
    obtain ⟨t2, e2⟩ := ask_grows l (askSt acc p)
    exact ⟨t ++ t2, by rw [List.foldl_cons, e2, e, List.append_assoc]⟩
theorem zip_cut {α β : Type} : ∀ (n : Nat) (l : List α) (r : List β), l.zip r = ((l.take n).zip (r.take n)) ++ ((l.drop n).zip (r.drop n))
  | 0, l, r => by simp
  | n + 1, [], r => by simp
  | n + 1, a :: l, [] => by simp
  | n + 1, a :: l, b :: r => by
    simp only [List.zip_cons_cons, List.take_succ_cons, List.drop_succ_cons, List.cons_append]
    rw [← zip_cut n l r]
/-- the first wishes' ask is the beginning of the ask -/
theorem ask_first (ws : List Wish) (pl : BB) (n : Nat) : (askOf ws pl).take (askOf (ws.take n) (pl.take n)).length = askOf (ws.take n) (pl.take n) := by
  unfold askOf
  rw [zip_cut n ws pl, List.foldl_append]
  obtain ⟨t, et⟩ := ask_grows ((ws.drop n).zip (pl.drop n)) (List.foldl askSt [] ((ws.take n).zip (pl.take n)))
  rw [et, List.take_left]
theorem plan_first (ws : List Wish) (ref : AA) (n : Nat) : planOf (ws.take n) ref = (planOf ws ref).take n := by
  unfold planOf
  rw [List.map_take]

/-- needs are of kinds ahead -/
theorem NdOk.at : ∀ {ws : List Wish}, NdOk ws → ∀ {wa wb : List Wish} {w : Wish} {p : Str × Int}, ws = wa ++ w :: wb → w.nd = some p → ∃ v ∈ wa, p.1 = v.k := by
  intro ws hn
  induction hn with
  | nil => intro wa wb w p e _; simp at e
  | snoc hn hw ih =>
    intro wa wb w p e ep
    rcases List.eq_nil_or_concat wb with rfl | ⟨wb', z, rfl⟩
    · obtain ⟨e1, e2⟩ := List.append_inj' e rfl
      cases e2
      rw [← e1]
      obtain ⟨v, hv, q, _⟩ := hw p ep
      exact ⟨v, hv, q⟩
    · rw [List.concat_eq_append, ← List.cons_append, ← List.append_assoc] at e
      obtain ⟨e1, e2⟩ := List.append_inj' e rfl
      exact ih e1 ep
theorem askF_in : ∀ {zs : List (Wish × (Str × List Int))} {acc : AA}, ∃ t : AA, zs.foldl askSt acc = acc ++ t ∧ (t.map (·.1)).Sublist (zs.map (·.2.1)) := fun {zs acc} => by
  obtain ⟨t, e⟩ := ask_grows zs acc
  obtain ⟨ks, e2, s⟩ := askF_keys (zs := zs) (acc := acc)
  refine ⟨t, e, ?_⟩
  rw [e, List.map_append] at e2
  rw [List.append_cancel_left e2]
  exact s
/-- who stands in an ask -/
theorem ask_due {ws : List Wish} {pl : BB} (hk : (ws.map (·.k)).Nodup) (hn : NdOk ws) (hpl : pl.map (·.1) = ws.map (·.k)) {w : Wish} {r : Str × List Int} (h : (w, r) ∈ ws.zip pl) :
    (w.k ∈ (askOf ws pl).map (·.1) ↔ r.2 ≠ [] ∧ (w.nd.all fun q => decide (q ∈ askOf ws pl)) = true) ∧ (w.k ∈ (askOf ws pl).map (·.1) → (w.k, r.2.headD 0) ∈ askOf ws pl) := by
  obtain ⟨za, zb, ez⟩ := List.append_of_mem h
  have hl : pl.length = ws.length := by have := congrArg List.length hpl; simpa using this
  have e1 : ws = (ws.zip pl).map (·.1) := (List.map_fst_zip (by omega)).symm
  have e2 : ws.map (·.k) = (ws.zip pl).map (·.2.1) := by
    rw [← hpl, show (fun z : Wish × (Str × List Int) => z.2.1) = (·.1) ∘ (·.2) from rfl, ← List.map_map, List.map_snd_zip (by omega)]
  have ew : ws = za.map (·.1) ++ w :: zb.map (·.1) := by rw [e1, ez]; simp
  have ek : ws.map (·.k) = za.map (·.2.1) ++ r.1 :: zb.map (·.2.1) := by rw [e2, ez]; simp
  have ek2 : ws.map (·.k) = (za.map (·.1)).map (·.k) ++ w.k :: (zb.map (·.1)).map (·.k) := by rw [ew]; simp
  have hz : (za.map (·.1)).map (·.k) = za.map (·.2.1) ∧ w.k :: (zb.map (·.1)).map (·.k) = r.1 :: zb.map (·.2.1) := List.append_inj (ek2.symm.trans ek) (by simp)
  have hwr : w.k = r.1 := (List.cons.inj hz.2).1
  have nd := hk
  rw [ek, ← hwr] at nd
  obtain ⟨n1, n2, n3⟩ := List.nodup_append.mp nd
  obtain ⟨n4, n5⟩ := List.nodup_cons.mp n2
  have na : w.k ∉ za.map (·.2.1) := fun z => n3 _ z _ (by simp) rfl
  obtain ⟨ta, ea, sa⟩ := askF_in (zs := za) (acc := [])
  rw [List.nil_append] at ea
  obtain ⟨tb, eb, sb⟩ := askF_in (zs := zb) (acc := askSt ta (w, r))
  have eA : askOf ws pl = askSt ta (w, r) ++ tb := by
    unfold askOf
    rw [ez, List.foldl_append, List.foldl_cons, ea, eb]
  have k1 : w.k ∉ ta.map (·.1) := fun z => na (sa.subset z)
  have k2 : w.k ∉ tb.map (·.1) := fun z => n4 (sb.subset z)
  have hnd : (w.nd.all fun q => decide (q ∈ askOf ws pl)) = (w.nd.all fun q => decide (q ∈ ta)) := by
    rcases ep : w.nd with _ | p
    · rfl
    · obtain ⟨v, hv, e⟩ := hn.at ew ep
      have hp : p.1 ∈ za.map (·.2.1) := by rw [e, ← hz.1]; exact List.mem_map_of_mem hv
      simp only [Option.all_some, decide_eq_decide]
      rw [eA]
      have q1 : p ∉ tb := fun z => n3 _ hp _ (List.mem_cons_of_mem _ (sb.subset (List.mem_map_of_mem z))) rfl
      have q2 : ∀ x : Int, p ≠ (r.1, x) := fun x z => na (by rw [hwr, ← show p.1 = r.1 by rw [z]]; exact hp)
      simp only [List.mem_append, q1, or_false]
      unfold askSt
      split
      · rfl
      · split
        · simp only [List.mem_append, List.mem_cons, List.not_mem_nil, or_false, q2]
        · rfl
  rw [hnd]
  have key : ∀ p : AA, w.k ∈ (p ++ tb).map (·.1) ↔ w.k ∈ p.map (·.1) := fun p => by rw [List.map_append, List.mem_append, or_iff_left k2]
  rw [eA, key]
  rcases hr : r.2 with _ | ⟨x, xs⟩
  · have : askSt ta (w, r) = ta := by unfold askSt; simp only [hr]
    rw [this]
    exact ⟨⟨fun z => absurd z k1, fun z => absurd rfl z.1⟩, fun z => absurd z k1⟩
  · by_cases hq : (w.nd.all fun q => decide (q ∈ ta)) = true
    · have : askSt ta (w, r) = ta ++ [(r.1, x)] := by unfold askSt; simp only [hr]; rw [if_pos hq]
      rw [this]
      simp [hq, hwr]
    · have : askSt ta (w, r) = ta := by unfold askSt; simp only [hr]; rw [if_neg hq]
      rw [this]
      exact ⟨⟨fun z => absurd z k1, fun z => absurd z.2 hq⟩, fun z => absurd z k1⟩
/-- the kinds of an ask, as the wishes have them -/
theorem ask_kinds {ws : List Wish} {pl : BB} (hk : (ws.map (·.k)).Nodup) (hpl : pl.map (·.1) = ws.map (·.k)) : (ws.filter fun w => decide (w.k ∈ (askOf ws pl).map (·.1))).map (·.k) = (askOf ws pl).map (·.1) := by
  have s := askOf_keys hpl
  rw [show (fun w : Wish => decide (w.k ∈ (askOf ws pl).map (·.1))) = (fun k => decide (k ∈ (askOf ws pl).map (·.1))) ∘ (·.k) from rfl, ← List.filter_map]
  generalize (askOf ws pl).map (·.1) = as at s ⊢
  generalize ws.map (·.k) = ks at s hk
  induction s with
  | slnil => rfl
  | @cons l1 l2 a s ih =>
    obtain ⟨n1, n2⟩ := List.nodup_cons.mp hk
    have : ¬ a ∈ l1 := fun z => n1 (s.subset z)
    rw [List.filter_cons_of_neg (by simpa using this)]
    exact ih n2
  | @cons_cons l1 l2 a s ih =>
    obtain ⟨n1, n2⟩ := List.nodup_cons.mp hk
    rw [List.filter_cons_of_pos (by simp)]
    congr 1
    refine Eq.trans (List.filter_congr fun x hx => ?_) (ih n2)
    have : ¬ x = a := fun z => n1 (z ▸ hx)
    simp [this]
/-- kinds that can't be asked any more, one behind another -/
def barSt (acc : List Str) (w : Wish) : List Str := match w.nd with
  | some q => if q.1 ∈ acc then acc ++ [w.k] else acc
  | none => acc
theorem barred {ws : List Wish} {pl : BB} (hk : (ws.map (·.k)).Nodup) (hn : NdOk ws) (hpl : pl.map (·.1) = ws.map (·.k)) : ∀ (l : List Wish) (acc : List Str), (∀ w ∈ l, w ∈ ws) → (∀ k ∈ acc, k ∉ (askOf ws pl).map (·.1)) → ∀ k ∈ l.foldl barSt acc, k ∉ (askOf ws pl).map (·.1)
  | [], acc, _, h => h
  | w :: l, acc, hw, h => by
    refine barred hk hn hpl l _ (fun v hv => hw v (List.mem_cons_of_mem _ hv)) ?_
    unfold barSt
    rcases ep : w.nd with _ | q
    · exact h
    · simp only
      split
      · rename_i hq
        intro k hk2
        rcases List.mem_append.mp hk2 with hk2 | hk2
        · exact h k hk2
        · simp only [List.mem_cons, List.not_mem_nil, or_false] at hk2
          subst hk2
          intro hin
          have hl : pl.length = ws.length := by have := congrArg List.length hpl; simpa using this
          obtain ⟨i, hi, e⟩ := List.mem_iff_getElem.mp (hw w (by simp))
          have hz : (w, pl[i]) ∈ ws.zip pl := List.mem_iff_getElem.mpr ⟨i, by rw [List.length_zip]; omega, by rw [List.getElem_zip, e]⟩
          have := ((ask_due hk hn hpl hz).1.mp hin).2
          rw [ep] at this
          exact h q.1 hq (List.mem_map_of_mem (by simpa using this))
      · exact h
theorem barred_none {A : AA} {ks : List Str} (h : ∀ k ∈ ks, k ∉ A.map (·.1)) : (A.filter fun p => decide (p.1 ∈ ks)) = [] := by
  rw [List.filter_eq_nil_iff]
  intro p hp hq
  exact h p.1 (by simpa using hq) (List.mem_map_of_mem hp)
theorem NdOk.free {ws : List Wish} : NdOk (ws.map fun w => ⟨w.k, w.ws, w.must, none⟩) := by
  have : ∀ (l : List Wish), NdOk (l.reverse.map fun w => ⟨w.k, w.ws, w.must, none⟩) := by
    intro l
    induction l with
    | nil => exact .nil
    | cons w l ih =>
      rw [List.reverse_cons, List.map_append, List.map_cons, List.map_nil]
      exact .snoc ih (by simp)
  have z := this ws.reverse
  rwa [List.reverse_reverse] at z
theorem NdOk.take {ws : List Wish} (h : NdOk ws) : ∀ n, NdOk (ws.take n) := by
  induction h with
  | nil => intro n; rw [List.take_nil]; exact .nil
  | @snoc ws w hn hw ih =>
    intro n
    by_cases c : n ≤ ws.length
    · rw [List.take_append_of_le_length c]
      exact ih n
    · rw [List.take_of_length_le (by simp; omega)]
      exact .snoc hn hw
/-- with nothing refused and no needs the most liked of each is asked -/
theorem ask_free (ws : List Wish) (hne : ∀ w ∈ ws, w.ws ≠ []) : askOf (ws.map fun w => ⟨w.k, w.ws, w.must, none⟩) (planOf (ws.map fun w => ⟨w.k, w.ws, w.must, none⟩) []) = ws.map fun w => (w.k, w.ws.headD 0) := by
  have key : ∀ (l : List Wish) (acc : AA), (∀ w ∈ l, w.ws ≠ []) → ((l.map fun w => (⟨w.k, w.ws, w.must, none⟩ : Wish)).zip (planOf (l.map fun w => ⟨w.k, w.ws, w.must, none⟩) [])).foldl askSt acc = acc ++ l.map fun w => (w.k, w.ws.headD 0) := by
    intro l
    induction l with
    | nil => intro acc _; simp
    | cons w l ih =>
      intro acc h
      have e : (planOf ((w :: l).map fun w => (⟨w.k, w.ws, w.must, none⟩ : Wish)) []) = (w.k, w.ws) :: planOf (l.map fun w => ⟨w.k, w.ws, w.must, none⟩) [] := by
        simp [planOf]
      rw [e, List.map_cons, List.zip_cons_cons, List.foldl_cons]
      have e2 : askSt acc ((⟨w.k, w.ws, w.must, none⟩ : Wish), (w.k, w.ws)) = acc ++ [(w.k, w.ws.headD 0)] := by
        have := h w (by simp)
        unfold askSt
        rcases hw : w.ws with _ | ⟨x, xs⟩
        · exact absurd hw this
        · simp
      rw [e2, ih _ fun v hv => h v (by simp [hv])]
      simp
  exact (key ws [] hne).trans (by simp)
/-- drawn wishes are wishes -/
theorem isNm_k12 {x : Str} (h : x ∈ K12) : isNm (.str x) = true := by
  have : ∀ x ∈ K12, isNm (.str x) = true := by decide +kernel
  exact this x h
theorem isWo_ww {x : Int} (h : x ∈ WW) : isWo (.int x) = true := by
  have : ∀ x ∈ WW, isWo (.int x) = true := by decide +kernel
  exact this x h
theorem areWo_ws {ws : List Int} (h : WsOk 6 ws) : areWo (.tuple (ws.map PyData.int)) = true := by
  obtain ⟨h1, h2, h3, h4⟩ := h
  have hl : 1 ≤ ws.length := by
    rcases ws with _ | ⟨x, xs⟩
    · exact absurd rfl h1
    · simp
  simp only [areWo, List.length_map, ints_some, Bool.and_eq_true, decide_eq_true_eq, List.all_eq_true, List.mem_map]
  exact ⟨⟨hl, by omega⟩, fun d ⟨x, hx, e⟩ => by rw [← e]; exact isWo_ww (h4 x hx), h3⟩
theorem wKey_w (w : Wish) : wKey (wD w) = (w.k, w.nd.map (·.1)) := by
  rcases w with ⟨k, ws, m, _ | ⟨a, b⟩⟩ <;> rfl
theorem ord_ws {ws : List Wish} (hk : (ws.map (·.k)).Nodup) (hn : NdOk ws) : ordGo [] (ws.map fun w => (w.k, w.nd.map (·.1))) = true := by
  have key : ∀ (wb wa : List Wish), ws = wa ++ wb → ordGo (wa.map (·.k)) (wb.map fun w => (w.k, w.nd.map (·.1))) = true := by
    intro wb
    induction wb with
    | nil => intro wa _; rfl
    | cons w wb ih =>
      intro wa e
      have nd := hk
      rw [e, List.map_append, List.map_cons] at nd
      have n3 := (List.nodup_append.mp nd).2.2
      have q1 : w.k ∉ wa.map (·.k) := fun z => n3 _ z _ (by simp) rfl
      have q2 : ((w.nd.map (·.1)).all fun x => decide (x ∈ wa.map (·.k))) = true := by
        rcases ep : w.nd with _ | p
        · rfl
        · obtain ⟨v, hv, e2⟩ := hn.at e ep
          simp only [Option.map_some, Option.all_some, decide_eq_true_eq]
          rw [e2]
          exact List.mem_map_of_mem hv
      have q3 := ih (wa ++ [w]) (by rw [e]; simp)
      rw [List.map_append, List.map_cons, List.map_nil] at q3
      simp only [List.map_cons, ordGo, q1, decide_false, Bool.not_false, Bool.true_and, q2, q3]
  exact key ws [] rfl
theorem areWi_ws {ws : List Wish} (hl : ws.length ≤ 6) (hk : (ws.map (·.k)).Nodup) (hkk : ∀ w ∈ ws, w.k ∈ K12) (hw : ∀ w ∈ ws, WsOk 6 w.ws) (hn : NdOk ws) (hp : ∀ w ∈ ws, ∀ q, w.nd = some q → q.1 ∈ K12 ∧ 0 ≤ q.2 ∧ q.2 ≤ 9999) : areWi (.tuple (ws.map wD)) = true := by
  have e : (ws.map wD).map wKey = ws.map fun w => (w.k, w.nd.map (·.1)) := by
    rw [List.map_map]
    exact List.map_congr_left fun w _ => wKey_w w
  simp only [areWi, List.length_map, e, ord_ws hk hn, Bool.and_true, Bool.and_eq_true, decide_eq_true_eq, List.all_eq_true, List.mem_map]
  refine ⟨hl, ?_⟩
  rintro d ⟨w, hwm, rfl⟩
  have q1 := isNm_k12 (hkk w hwm)
  have q2 := areWo_ws (hw w hwm)
  have q3 := hp w hwm
  rcases w with ⟨k, ws', m, _ | ⟨a, c⟩⟩
  · simp only [wD, isWi, ndD, q1, q2, Bool.true_and]
    rfl
  · obtain ⟨z1, z2, z3⟩ := q3 (a, c) rfl
    simp only [wD, isWi, ndD, a1, q1, q2, Bool.true_and]
    show (true && (false || (isNm (.str a) && isWo (.int c)))) = true
    rw [isNm_k12 z1]
    simp [isWo, z2, z3]
end DE
end
section
set_option Elab.async false
set_option linter.all false
set_option maxRecDepth 100000
set_option maxHeartbeats 4000000
/-! refusals that add up: the law's own looks -/
namespace DE
open PySem PySem.Spec L2 PyProof.Rows
theorem at_last {h : MH} {o : MO} : (h ++ [o])[h.length]? = some o := by simp
theorem set_last {h : MH} {o o' : MO} : (h ++ [o]).set h.length o' = h ++ [o'] := by simp
local macro_rules | `(tactic| walk_at "ev") => `(tactic| simp only [W_some, W_none, W_ite, W_eC, W_eV, W_aNil, W_aCons, W_e1, W_e2, W_eN, W_eTup, W_eLst, W_eDct, W_eAnd, W_eOr, W_eNot, W_tB, W_tAnd, W_tOr, W_tNot, W_tYes, W_eIf, W_eChain, W_oNone, W_oSome, W_eSl, W_itV, W_itR,
  W_eM0, W_eM1, W_eMethL, W_eCall, W_sNil, W_sSet, W_sSetB, W_bTup, W_bNil, W_bCons, bName_W, W_sExpr, W_sRet, W_sIf, W_sFor, W_sPut, nxt_nx, nxt_rt, W_rt, W_nx, W_obind, aList, rd, rds, fz, fzs, mk_false, asB_b, asI_i, asS_s,
  List.getElem?_cons_zero, List.getElem?_cons_succ, List.set_cons_zero, List.set_cons_succ, Option.some.injEq, exists_eq_left', exists_eq_left, Val.r.injEq, MO.l.injEq, List.length_cons, List.length_nil, wipeS, Bool.not_true, Bool.not_false, if_true, if_false, Bool.false_eq_true, reduceIte, isi_int_none, isi_int_bool, isi_int_int, isi_int_str, isi_int_list, isi_int_tuple, isi_int_dict, isi_bool_none, isi_bool_bool, isi_bool_int, isi_bool_str, isi_bool_list, isi_bool_tuple, isi_bool_dict, isi_str_none, isi_str_bool, isi_str_int, isi_str_str, isi_str_list, isi_str_tuple, isi_str_dict, isi_tuple_none, isi_tuple_bool, isi_tuple_int, isi_tuple_str, isi_tuple_list, isi_tuple_tuple, isi_tuple_dict, isi_list_none, isi_list_bool, isi_list_int, isi_list_str, isi_list_list, isi_list_tuple, isi_list_dict, isi_dict_none, isi_dict_bool, isi_dict_int, isi_dict_str, isi_dict_list, isi_dict_tuple, isi_dict_dict, sizeLine_eq, Nat.reduceAdd, Nat.reduceSub, List.reduceReplicate, Nat.reduceLeDiff, Nat.zero_le, true_and, and_true, List.map_cons, List.map_nil, List.zip_nil_left, eq_self_iff_true, seqD, mk_tl, List.cons_append, List.nil_append, itD_l, itD_t,
  gIdx_t, gIdx_l, atI_0, atI_1, atI_2, atI_3, atI_4, atI_5, gAdd_i, gSub_i, gNeg_i, gEq_i, gEq_s, gEq_b, gNe_i, gNe_s, gNe_b, gLt_i, gLe_i, gGt_i, gGe_i, gIsN_n, gNotN_n, gIsN_b, gNotN_b, gLen_l, gLen_t, gTuple_l, gTuple_t, gList_l, gList_t, gRev_l, gRev_t, gInt_b, gInt_i, isN_none, isN_int, isN_str, isN_bool, isN_tup, isN_list, Val.t.injEq, PyData.bool.injEq, enc_eqT, enc_neT, enc_eqT0, enc_neT0, enc_eqL, enc_neL, enc_eqL0, enc_neL0, rtP_rt, W_itZ, two_some, zip2_t, zip2_l, List.length_map, Int.cast_ofNat_Int, decide_true, decide_false, Int.reduceLE, Int.reduceLT, Int.reduceEq, Int.reduceNeg, Int.reduceAdd, Int.reduceSub, Bool.and_self, Bool.true_and, Bool.and_true, Bool.false_and, Bool.and_false, at_last, set_last, mk_td, MO.d.injEq, in_a1T, nin_a1T, in_a1L, nin_a1L, in_iT, nin_iT, in_iL, nin_iL, in_sT, nin_sT, in_sL, nin_sL, gSl_t, gSl_l, filter_tt, W_itE, W_eRepN])
local macro_rules | `(tactic| walk_at "go") => `(tactic| repeat (first | walk_at "ev" | with_reducible refine seqC ?_ | with_reducible refine Cont.set ?_ | with_reducible refine Cont.expr ?_ | with_reducible refine Cont.ret ?_ | with_reducible refine Cont.nil ?_ | with_reducible refine Cont.put ?_ | with_reducible refine Cont.for ?_ | with_reducible refine Cont.while ?_ | with_reducible refine Cont.setB ?_))
local macro_rules | `(tactic| walk_at "if") => `(tactic| (refine Cont.mk ?_; walk_at "go"))
theorem W_sPar {i j : Nat} {a b : Ev Val} {σ : Sg} {h : MH} {PO : Out → Prop} : W (sPar i j a b σ h) PO ↔ W (a σ h) fun p => W (b σ p.2) fun q => PO (.nx ((σ.set i (some p.1)).set j (some q.1)) q.2) := by
  unfold sPar
  rcases a σ h with _ | ⟨v, h1⟩
  · simp only [W_none]
  simp only [W_some]
  rcases b σ h1 with _ | ⟨w, h2⟩
  · simp only [W_none]
  simp only [W_some]
theorem Cont.par {i j : Nat} {a b : Ev Val} {c : Ex1} {PO : Out → Prop} {σ : Sg} {h : MH} (q : W (sSeq (sPar i j a b) c σ h) PO) : Cont (sSeq (sPar i j a b) c) PO σ h := q
def row (rf : AA) (w : Wish) : Str × List Int := (w.k, w.ws.filter fun x => !decide ((w.k, x) ∈ rf) && !decide ((w.k, -1) ∈ rf))
theorem planOf_row {ws : List Wish} {rf : AA} : planOf ws rf = ws.map (row rf) := rfl
theorem planOf_keys {ws : List Wish} {rf : AA} : (planOf ws rf).map (·.1) = ws.map (·.k) := by
  rw [planOf_row, List.map_map]; rfl
theorem zip_plan (ws : List Wish) (rf : AA) : ∀ p ∈ ws.zip (planOf ws rf), p.1.k = p.2.1 := by
  intro p hp
  rw [planOf_row, List.zip_map_right] at hp
  obtain ⟨q, hq, rfl⟩ := List.mem_map.mp hp
  have : q.1 = q.2 := by
    obtain ⟨i, hi, e⟩ := List.mem_iff_getElem.mp hq
    rw [List.getElem_zip] at e
    rw [← e]
  rw [Prod.map_fst, Prod.map_snd, this]
  rfl
def free (w : Wish) : Wish := ⟨w.k, w.ws, w.must, none⟩
theorem OkWs.free {ws : List Wish} (ow : OkWs ws) : OkWs (ws.map free) where
  nd := by rw [List.map_map]; exact ow.nd
  kinds := fun w hw => by obtain ⟨v, hv, rfl⟩ := List.mem_map.mp hw; exact ow.kinds v hv
  len := by rw [List.length_map]; exact ow.len
  worths := fun w hw => by obtain ⟨v, hv, rfl⟩ := List.mem_map.mp hw; exact ow.worths v hv
  needs := NdOk.free
theorem OkWs.take {ws : List Wish} (ow : OkWs ws) (n : Nat) : OkWs (ws.take n) where
  nd := by rw [List.map_take]; exact (List.take_sublist _ _).nodup ow.nd
  kinds := fun w hw => ow.kinds w (List.mem_of_mem_take hw)
  len := by have := ow.len; simp; omega
  worths := fun w hw => ow.worths w (List.mem_of_mem_take hw)
  needs := ow.needs.take n
theorem OkWs.is {ws : List Wish} (ow : OkWs ws) (h6 : ∀ w ∈ ws, w.ws.length ≤ 6) : areWi (.tuple (ws.map wD)) = true := by
  refine areWi_ws ow.len ow.nd ow.kinds (fun w hw => ?_) ow.needs fun w hw q hq => ?_
  · have := ow.worths w hw
    exact ⟨this.1, by have := h6 w hw; omega, this.2.2⟩
  · obtain ⟨v, hv, e1, e2⟩ := ow.needs.mem w hw q hq
    refine ⟨e1 ▸ ow.kinds v hv, ?_⟩
    rcases List.mem_append.mp e2 with z | z
    · exact w8_range ((ow.worths v hv).2.2.2 _ z)
    · simp only [List.mem_cons, List.not_mem_nil, or_false] at z
      omega
theorem OkWs.gd {ws : List Wish} (ow : OkWs ws) : Gd 20 1000 (.tuple (ws.map wD)) := by
  obtain ⟨h1, h2, h3⟩ := smW ow
  exact Sm.gd (M := 10 ^ 61) ⟨by rw [asd_t]; exact h1, by have hcx : DE.cnt (.tuple (ws.map wD)) = cnts (ws.map wD) + 1 := rfl
                                                          omega⟩ (by decide)
section
variable {F : Nat → Bool → Str → Fn} {k n b : Nat} {h : MH} {es : List (PyData × PyData)} {P : Val × MH → Prop}
theorem dd_few {ws : List Wish} (ow : OkWs ws) {ps : AA} (h : ∀ p ∈ ps, p ∈ candR ws) : (ddP ps).length < 64 := by
  have := nd_le (ddP_nodup (l := ps)) (r := candR ws) fun p hp => h p (ddP_mem.mp hp)
  have h2 := candR_len (ws := ws) fun w hw => by have := (ow.worths w hw).2.1; omega
  have := ow.len
  omega
theorem plans_right_ret [Is F "left_of" 3 4 LB.b_left_of] [Is F "plan_of" 2 6 LB.b_plan_of] [Is F "_law_plans_right" 3 14 LB.b__law_plans_right] {ws : List Wish} {one other : AA} (ow : OkWs ws)
    (h1 : ∀ p ∈ one, p ∈ candR ws) (h2 : ∀ p ∈ other, p ∈ candR ws) (l1 : one.length ≤ 63) (l2 : other.length ≤ 63) :
    Ret (F (k + 3) false "_law_plans_right") [.tuple (ws.map wD), .tuple (one.map a1), .tuple (other.map a1)] (.bool true) := by
  refine Is.ret (slots := 14) (b := LB.b__law_plans_right) rfl ?_
  unfold LB.b__law_plans_right
  have hwl := ow.len
  have hww : ∀ w ∈ ws, w.ws.length ≤ 1000000 := fun w hw => by have := (ow.worths w hw).2.1; omega
  have po := fun rf : AA => plan_of_ret (F := F) (k := k) (ws := ws) (ref := rf) (by omega) hww
  walk_at "go"
  rw [addT_W (by simp; omega), ← List.map_append]
  walk_at "go"
  rw [set_pairs (dd_few ow fun p hp => (List.mem_append.mp hp).elim (h1 p) (h2 p))]
  walk_at "go"
  generalize hrb : sortA (ddP (one ++ other)) = rb
  have mrb : ∀ p, p ∈ rb ↔ p ∈ one ++ other := fun p => by rw [← hrb]; exact both_mem
  have hbl : rb.length ≤ 63 := by
    rw [← hrb, sortA_len]
    have := dd_few ow (ps := one ++ other) fun p hp => (List.mem_append.mp hp).elim (h1 p) (h2 p)
    omega
  refine comp_to (as := [[], one, other, rb]) (fun rf : AA => PyData.tuple (rf.map a1)) (fun _ => true) (fun rf => .tuple ((planOf ws rf).map b1)) ?_ (by simp) (fun rf _ => ?_) ?_
  · walk_at "go"
  · walk_at "go"
    rw [(po rf).w2]
    simp
  walk_at "go"
  rw [enumD_map wD]
  refine forGo_ret (enF wD) (fun rem σ h => ∃ (n : Nat) (s6 s7 s8 s9 s10 s11 s12 s13 : Option Val), h = [] ∧ rem = enA n (ws.drop n) ∧
    σ = [some (.t (.tuple (ws.map wD))), some (.t (.tuple (one.map a1))), some (.t (.tuple (other.map a1))), some (.t (.tuple (rb.map a1))), some (.t (.list ([[], one, other, rb].map fun rf => PyData.tuple ((planOf ws rf).map b1)))), none, s6, s7, s8, s9, s10, s11, s12, s13])
    ⟨0, none, none, none, none, none, none, none, none, rfl, rfl, rfl⟩ ?_ ?_
  · rintro a rem σ h ⟨n, s6, s7, s8, s9, s10, s11, s12, s13, rfl, er, rfl⟩
    obtain ⟨hn, rfl, er2⟩ := enA_cons er
    have hm : ws[n] ∈ ws := List.getElem_mem hn
    have hat : ∀ rf : AA, atI ((planOf ws rf).map b1) (n : Int) = some (b1 (row rf ws[n])) := fun rf => by
      rw [atI_n, List.getElem?_map, planOf_row, List.getElem?_map, List.getElem?_eq_getElem hn]
      rfl
    generalize ws[n] = w at hm hat
    have okw := ow.worths w hm
    have hw8 := okw.2.1
    simp only [enF]
    walk_at "go"
    refine comp_to (as := [[], one, other, rb]) (fun rf : AA => PyData.tuple ((planOf ws rf).map b1)) (fun _ => true) (fun rf => b1 (row rf w)) ?_ (by simp) (fun rf _ => ?_) ?_
    · walk_at "go"
    · walk_at "go"
      rw [hat rf]
      walk_at "go"
      simp
    walk_at "go"
    walk_at "if"
    refine comp_to (as := [[], one, other, rb]) (fun rf : AA => b1 (row rf w)) (fun _ => true) (fun _ => .str w.k) ?_ (by simp) (fun rf _ => ?_) ?_
    · walk_at "go"
    · simp only [b1, row]
      walk_at "go"
      simp
    walk_at "go"
    simp only [wD]
    walk_at "go"
    have e4 : gNe (.list [PyData.str w.k, .str w.k, .str w.k, .str w.k]) (.list (List.replicate (Int.toNat 4) [PyData.str w.k]).flatten) = some (.bool false) :=
      (enc_neL (f := PyData.str) (as := [w.k, w.k, w.k, w.k]) (bs := [w.k, w.k, w.k, w.k])).trans (by simp)
    rw [e4]
    walk_at "go"
    have hr0 : (row [] w).2 = w.ws := by simp [row]
    have hr3 : (row rb w).2 = (row one w).2.filter fun x => decide (x ∈ (row other w).2) := by
      have : (row rb w).2 = (row (one ++ other) w).2 := by simp only [row, mrb]
      rw [this]
      exact row_both
    have hal : ∀ p : Str × Int, p.1 = w.k → True := fun _ _ => trivial
    have lr1 : (row one w).2.length ≤ 8 := Nat.le_trans (List.length_filter_le _ _) (by omega)
    have eb : ∀ rf : AA, b1 (row rf w) = .tuple [.str w.k, .tuple ((row rf w).2.map PyData.int)] := fun _ => rfl
    simp only [eb]
    walk_at "go"
    simp only [hr0, decide_true]
    walk_at "go"
    walk_at "if"
    refine comp_to (as := (row one w).2) PyData.int (fun x => decide (x ∈ (row other w).2)) PyData.int (by walk_at "go") (by omega) (fun x _ => ?_) ?_
    · walk_at "go"
      simp
    walk_at "go"
    simp only [hr3, decide_true]
    walk_at "go"
    refine comp_to (as := rb) a1 (fun p => decide (p.1 = w.k)) a1 (by walk_at "go") (by omega) (fun p _ => ?_) ?_
    · simp only [a1]
      walk_at "go"
      simp
    walk_at "go"
    walk_at "if"
    rw [show DE.cutD [PyData.str w.k, .tuple (w.ws.map PyData.int), .bool w.must, ndD w.nd] none (some 3) = [PyData.str w.k, .tuple (w.ws.map PyData.int), .bool w.must] from rfl, addT_W (by simp)]
    walk_at "go"
    have po2 := plan_of_ret (F := F) (k := k) (ws := [⟨w.k, w.ws, w.must, none⟩]) (ref := rb.filter fun p => decide (p.1 = w.k)) (by simp) (by simp; omega)
    have ep : planOf [(⟨w.k, w.ws, w.must, none⟩ : Wish)] (rb.filter fun p => decide (p.1 = w.k)) = [(w.k, (row rb w).2)] := by
      show [(w.k, _)] = _
      congr 2
      exact row_alone (w := w)
    rw [ep] at po2
    simp only [List.map_cons, List.map_nil, wD, ndD] at po2
    rw [po2.w2]
    walk_at "go"
    have e5 : gNe (.tuple [b1 (w.k, (row rb w).2)]) (.tuple [.tuple [.str w.k, .tuple (((row one w).2.filter fun x => decide (x ∈ (row other w).2)).map PyData.int)]]) = some (.bool false) :=
      (enc_neT (f := b1) (as := [(w.k, (row rb w).2)]) (bs := [(w.k, (row one w).2.filter fun x => decide (x ∈ (row other w).2))])).trans (by simp [hr3])
    rw [e5]
    walk_at "go"
    exact ⟨n + 1, _, _, _, _, _, _, _, _, er2, rfl⟩
  · rintro σ h ⟨n, s6, s7, s8, s9, s10, s11, s12, s13, rfl, _, rfl⟩
    walk_at "go"
theorem asks_right_ret [Is F "left_of" 3 4 LB.b_left_of] [Is F "plan_of" 2 6 LB.b_plan_of] [Is F "ask_of" 2 9 LB.b_ask_of] [Is F "_law_asks_right" 2 14 LB.b__law_asks_right] {ws : List Wish} {rf : AA} (ow : OkWs ws) :
    Ret (F (k + 3) false "_law_asks_right") [.tuple (ws.map wD), .tuple (rf.map a1)] (.bool true) := by
  refine Is.ret (slots := 14) (b := LB.b__law_asks_right) rfl ?_
  unfold LB.b__law_asks_right
  have hwl := ow.len
  have hww : ∀ w ∈ ws, w.ws.length ≤ 1000000 := fun w hw => by have := (ow.worths w hw).2.1; omega
  have po := plan_of_ret (F := F) (k := k) (ws := ws) (ref := rf) (by omega) hww
  have hkeys := planOf_keys (ws := ws) (rf := rf)
  have hz := zip_plan ws rf
  have ao := ask_of_ret (F := F) (k := k + 1) (ws := ws) (pl := planOf ws rf) (by omega) hz
  have due := fun w r h => ask_due (w := w) (r := r) ow.nd ow.needs hkeys h
  have hal : (askOf ws (planOf ws rf)).length ≤ 6 := Nat.le_trans askOf_len hwl
  have hks := ask_kinds ow.nd hkeys
  walk_at "go"
  rw [po.w2]
  walk_at "go"
  rw [ao.w2]
  walk_at "go"
  generalize hA : askOf ws (planOf ws rf) = A at due hal hks ⊢
  refine comp_to (as := A) a1 (fun _ => true) (fun p => .str p.1) (by walk_at "go") (by omega) (fun p _ => ?_) ?_
  · simp only [a1]
    walk_at "go"
    simp
  walk_at "go"
  walk_at "if"
  rw [show (fun p : Str × Int => PyData.str p.1) = PyData.str ∘ (·.1) from rfl, ← List.map_map]
  refine comp_to (as := ws) wD (fun w => decide (w.k ∈ A.map (·.1))) (fun w => .str w.k) (by walk_at "go") (by omega) (fun w _ => ?_) ?_
  · simp only [wD]
    walk_at "go"
    simp
  walk_at "go"
  rw [show (fun w : Wish => PyData.str w.k) = PyData.str ∘ (·.k) from rfl, ← List.map_map, hks]
  walk_at "go"
  refine forGo_ret (fun p : Wish × (Str × List Int) => .tuple [wD p.1, b1 p.2]) (fun rem σ h => ∃ (s5 s6 s7 s8 s9 s10 s11 s12 s13 : Option Val), h = [] ∧ (∀ p ∈ rem, p ∈ ws.zip (planOf ws rf)) ∧
    σ = [some (.t (.tuple (ws.map wD))), some (.t (.tuple (rf.map a1))), some (.t (.tuple ((planOf ws rf).map b1))), some (.t (.tuple (A.map a1))), some (.t (.list ((A.map (·.1)).map PyData.str))), s5, s6, s7, s8, s9, s10, s11, s12, s13])
    ⟨_, _, _, _, _, _, _, _, _, rfl, fun _ h => h, rfl⟩ ?_ ?_
  · rintro ⟨w, r⟩ rem σ h ⟨s5, s6, s7, s8, s9, s10, s11, s12, s13, rfl, hm, rfl⟩
    obtain ⟨d1, d2⟩ := due w r (hm _ (by simp))
    have hm2 : ∀ p ∈ rem, p ∈ ws.zip (planOf ws rf) := fun p hp => hm p (List.mem_cons_of_mem _ hp)
    rcases r with ⟨rk, rl⟩
    simp only [wD, b1]
    walk_at "go"
    rcases rl with _ | ⟨x, xs⟩
    · have hk : w.k ∉ A.map (·.1) := fun z => (d1.mp z).1 rfl
      simp only [decide_true]
      walk_at "go"
      walk_at "if"
      simp only [hk, decide_false]
      walk_at "go"
      exact ⟨_, _, _, _, _, _, _, _, _, hm2, rfl⟩
    · simp only [reduceCtorEq, decide_false]
      walk_at "go"
      have yes : (w.nd.all fun q => decide (q ∈ A)) = true → w.k ∈ A.map (·.1) ∧ (w.k, x) ∈ A := fun z => by
        have hk := d1.mpr ⟨by simp, z⟩
        exact ⟨hk, d2 hk⟩
      rcases hw : w.nd with _ | q
      · obtain ⟨hk, hx⟩ := yes (by rw [hw]; rfl)
        simp only [ndD]
        walk_at "go"
        walk_at "if"
        simp only [hk, decide_true]
        walk_at "go"
        simp only [hx, decide_true]
        walk_at "go"
        exact ⟨_, _, _, _, _, _, _, _, _, hm2, rfl⟩
      · simp only [ndD, a1]
        walk_at "go"
        by_cases hq : (q.1, q.2) ∈ A
        · obtain ⟨hk, hx⟩ := yes (by rw [hw]; simpa using hq)
          simp only [hq, decide_true]
          walk_at "if"
          simp only [hk, decide_true]
          walk_at "go"
          simp only [hx, decide_true]
          walk_at "go"
          exact ⟨_, _, _, _, _, _, _, _, _, hm2, rfl⟩
        · have hk : w.k ∉ A.map (·.1) := fun z => by
            have := (d1.mp z).2
            rw [hw] at this
            exact hq (by simpa using this)
          simp only [hq, decide_false]
          walk_at "if"
          simp only [hk, decide_false]
          walk_at "go"
          exact ⟨_, _, _, _, _, _, _, _, _, hm2, rfl⟩
  · rintro σ h ⟨s5, s6, s7, s8, s9, s10, s11, s12, s13, rfl, _, rfl⟩
    walk_at "go"
theorem without_right_ret [Is F "left_of" 3 4 LB.b_left_of] [Is F "plan_of" 2 6 LB.b_plan_of] [Is F "ask_of" 2 9 LB.b_ask_of] [Is F "_law_without_right" 2 13 LB.b__law_without_right] {ws : List Wish} {rf : AA} (ow : OkWs ws) (h1 : ∀ p ∈ rf, p ∈ candR ws) (l1 : rf.length ≤ 63) :
    Ret (F (k + 3) false "_law_without_right") [.tuple (ws.map wD), .tuple (rf.map a1)] (.bool true) := by
  refine Is.ret (slots := 13) (b := LB.b__law_without_right) rfl ?_
  unfold LB.b__law_without_right
  have hwl := ow.len
  have hww : ∀ w ∈ ws, w.ws.length ≤ 1000000 := fun w hw => by have := (ow.worths w hw).2.1; omega
  walk_at "go"
  rw [enumD_map wD]
  refine forGo_ret (enF wD) (fun rem σ h => ∃ (n : Nat) (s2 s3 s4 s5 s6 s7 s8 s9 s10 s11 s12 : Option Val), rem = enA n (ws.drop n) ∧
    σ = [some (.t (.tuple (ws.map wD))), some (.t (.tuple (rf.map a1))), s2, s3, s4, s5, s6, s7, s8, s9, s10, s11, s12])
    ⟨0, _, _, _, _, _, _, _, _, _, _, _, rfl, rfl⟩ ?_ ?_
  · rintro a rem σ h0 ⟨n, s2, s3, s4, s5, s6, s7, s8, s9, s10, s11, s12, er, rfl⟩
    obtain ⟨hn, rfl, er2⟩ := enA_cons er
    have hm : ws[n] ∈ ws := List.getElem_mem hn
    simp only [enF, wD]
    walk_at "go"
    rw [addT_W (by simp; omega), show (rf.map a1 ++ [PyData.tuple [.str ws[n].k, .int (-1)]]) = (rf ++ [(ws[n].k, -1)]).map a1 by simp [a1]]
    walk_at "go"
    have hc : ∀ p ∈ rf ++ [(ws[n].k, -1)], p ∈ candR ws := fun p hp => by
      rcases List.mem_append.mp hp with hp | hp
      · exact h1 p hp
      · simp only [List.mem_cons, List.not_mem_nil, or_false] at hp
        rw [hp]
        exact candR_w hm (by simp)
    rw [set_pairs (dd_few ow hc)]
    walk_at "go"
    have hlot : (ws[n].k, (-1 : Int)) ∈ sortA (ddP (rf ++ [(ws[n].k, -1)])) := both_mem.mpr (by simp)
    generalize sortA (ddP (rf ++ [(ws[n].k, -1)])) = lot at hlot ⊢
    have po := plan_of_ret (F := F) (k := k) (ws := ws) (ref := lot) (by omega) hww
    have ao := ask_of_ret (F := F) (k := k + 1) (ws := ws) (pl := planOf ws lot) (by omega) (zip_plan ws lot)
    rw [po.w2]
    walk_at "go"
    rw [ao.w2]
    walk_at "go"
    have hal : (askOf ws (planOf ws lot)).length ≤ 6 := Nat.le_trans askOf_len hwl
    refine forGo_fold wD barSt (b := [ws[n].k]) (fun rem acc σ h => ∃ (s7 s8 s9 s10 : Option Val), h = h0 ++ [.l (acc.map PyData.str)] ∧ acc.length + rem.length ≤ 7 ∧
      σ = [some (.t (.tuple (ws.map wD))), some (.t (.tuple (rf.map a1))), some (.t (.int n)), some (.t (wD ws[n])), some (.t (.tuple (lot.map a1))), some (.t (.tuple ((askOf ws (planOf ws lot)).map a1))), some (.r h0.length), s7, s8, s9, s10, s11, s12])
      ⟨_, _, _, _, rfl, by simp; omega, rfl⟩ ?_ ?_
    · rintro w rem acc σ h ⟨s7, s8, s9, s10, rfl, hl, rfl⟩
      simp only [List.length_cons] at hl
      simp only [wD]
      walk_at "go"
      rcases hw : w.nd with _ | q
      · simp only [ndD]
        walk_at "go"
        exact ⟨_, _, _, _, by simp [barSt, hw], by simp [barSt, hw]; omega, rfl⟩
      · simp only [ndD, a1]
        walk_at "go"
        by_cases hq : q.1 ∈ acc
        · simp only [hq, decide_true]
          walk_at "go"
          rw [append_W (by rw [List.length_map]; omega)]
          walk_at "go"
          exact ⟨_, _, _, _, by simp [barSt, hw, hq], by simp [barSt, hw, hq]; omega, rfl⟩
        · simp only [hq, decide_false]
          walk_at "go"
          exact ⟨_, _, _, _, by simp [barSt, hw, hq], by simp [barSt, hw, hq]; omega, rfl⟩
    · rintro σ h ⟨s7, s8, s9, s10, rfl, _, rfl⟩
      have hbar := barred ow.nd ow.needs (planOf_keys (ws := ws) (rf := lot)) ws [ws[n].k] (fun _ h => h) (fun k hk => by
        simp only [List.mem_cons, List.not_mem_nil, or_false] at hk
        rw [hk]
        intro z
        obtain ⟨p, hp, e⟩ := List.mem_map.mp z
        obtain ⟨r, hr, e1, e2⟩ := askOf_mem p hp
        rw [planOf_row] at hr
        obtain ⟨w, hw, rfl⟩ := List.mem_map.mp hr
        have : w.k = ws[n].k := e1.symm.trans e
        simp only [row, this, hlot, decide_true, Bool.not_true, Bool.and_false] at e2
        simpa using (List.mem_filter.mp e2).2)
      generalize ws.foldl barSt [ws[n].k] = bar at hbar ⊢
      walk_at "go"
      walk_at "if"
      refine comp_to (as := askOf ws (planOf ws lot)) a1 (fun p => decide (p.1 ∈ bar)) a1 (by walk_at "go") (by omega) (fun p _ => ?_) ?_
      · simp only [a1]
        walk_at "go"
        simp
      rw [barred_none hbar]
      walk_at "go"
      rw [show gNe (PyData.list []) (.list []) = some (.bool false) from rfl]
      walk_at "go"
      have hnl : n ≤ (ws.map wD).length := by simp; omega
      rw [cut_lo _ hnl, ← List.map_take]
      have po2 := plan_of_ret (F := F) (k := k) (ws := ws.take n) (ref := lot) (by simp; omega) (fun w hw => hww w (List.mem_of_mem_take hw))
      have ao2 := ask_of_ret (F := F) (k := k + 1) (ws := ws.take n) (pl := planOf (ws.take n) lot) (by simp; omega) (zip_plan _ lot)
      walk_at "go"
      rw [po2.w2]
      walk_at "go"
      rw [ao2.w2]
      walk_at "go"
      walk_at "if"
      have hfi := ask_first ws (planOf ws lot) n
      rw [← plan_first] at hfi
      have hle : (askOf (ws.take n) (planOf (ws.take n) lot)).length ≤ ((askOf ws (planOf ws lot)).map a1).length := by
        have := congrArg List.length hfi
        rw [List.length_take] at this
        rw [List.length_map]
        omega
      rw [cut_lo _ hle, ← List.map_take, hfi]
      walk_at "go"
      exact ⟨n + 1, _, _, _, _, _, _, _, _, _, _, _, er2, rfl⟩
  · rintro σ h0 ⟨n, s2, s3, s4, s5, s6, s7, s8, s9, s10, s11, s12, er, rfl⟩
    walk_at "go"
end
end DE
end
section
set_option Elab.async false
set_option linter.all false
set_option maxRecDepth 100000
set_option maxHeartbeats 4000000
set_option exponentiation.threshold 3000
namespace L06
open PySem PySem.Spec L2 DE PyProof.Rows
local macro_rules | `(tactic| walk_at "ev") => `(tactic| simp only [W_some, W_none, W_ite, W_eC, W_eV, W_aNil, W_aCons, W_e1, W_e2, W_eN, W_eTup, W_eLst, W_eDct, W_eAnd, W_eOr, W_eNot, W_tB, W_tAnd, W_tOr, W_tNot, W_tYes, W_eIf, W_eChain, W_oNone, W_oSome, W_eSl, W_itV, W_itR,
  W_eM0, W_eM1, W_eMethL, W_eCall, W_sNil, W_sSet, W_sSetB, W_bTup, W_bNil, W_bCons, bName_W, W_sExpr, W_sRet, W_sIf, W_sFor, W_sPut, nxt_nx, nxt_rt, W_rt, W_nx, W_obind, aList, rd, rds, fz, fzs, mk_false, asB_b, asI_i, asS_s,
  List.getElem?_cons_zero, List.getElem?_cons_succ, List.set_cons_zero, List.set_cons_succ, Option.some.injEq, exists_eq_left', exists_eq_left, Val.r.injEq, MO.l.injEq, List.length_cons, List.length_nil, wipeS, Bool.not_true, Bool.not_false, if_true, if_false, Bool.false_eq_true, reduceIte, isi_int_none, isi_int_bool, isi_int_int, isi_int_str, isi_int_list, isi_int_tuple, isi_int_dict, isi_bool_none, isi_bool_bool, isi_bool_int, isi_bool_str, isi_bool_list, isi_bool_tuple, isi_bool_dict, isi_str_none, isi_str_bool, isi_str_int, isi_str_str, isi_str_list, isi_str_tuple, isi_str_dict, isi_tuple_none, isi_tuple_bool, isi_tuple_int, isi_tuple_str, isi_tuple_list, isi_tuple_tuple, isi_tuple_dict, isi_list_none, isi_list_bool, isi_list_int, isi_list_str, isi_list_list, isi_list_tuple, isi_list_dict, isi_dict_none, isi_dict_bool, isi_dict_int, isi_dict_str, isi_dict_list, isi_dict_tuple, isi_dict_dict, sizeLine_eq, Nat.reduceAdd, Nat.reduceSub, List.reduceReplicate, Nat.reduceLeDiff, Nat.zero_le, true_and, and_true, List.map_cons, List.map_nil, List.zip_nil_left, eq_self_iff_true, seqD, mk_tl, List.cons_append, List.nil_append, itD_l, itD_t,
  gIdx_t, gIdx_l, atI_0, atI_1, atI_2, atI_3, atI_4, atI_5, gAdd_i, gSub_i, gNeg_i, gEq_i, gEq_s, gEq_b, gNe_i, gNe_s, gNe_b, gLt_i, gLe_i, gGt_i, gGe_i, gIsN_n, gNotN_n, gIsN_b, gNotN_b, gLen_l, gLen_t, gTuple_l, gTuple_t, gList_l, gList_t, gRev_l, gRev_t, gInt_b, gInt_i, isN_none, isN_int, isN_str, isN_bool, isN_tup, isN_list, Val.t.injEq, PyData.bool.injEq, enc_eqT, enc_neT, enc_eqT0, enc_neT0, enc_eqL, enc_neL, enc_eqL0, enc_neL0, rtP_rt, W_itZ, two_some, zip2_t, zip2_l, List.length_map, Int.cast_ofNat_Int, decide_true, decide_false, Int.reduceLE, Int.reduceLT, Int.reduceEq, Int.reduceNeg, Int.reduceAdd, Int.reduceSub, Bool.and_self, Bool.true_and, Bool.and_true, Bool.false_and, Bool.and_false, W_sPar, filter_tt, mk_td, MO.d.injEq, W_itE, gSl_l, gSl_t])
local macro_rules | `(tactic| walk_at "go") => `(tactic| repeat (first | walk_at "ev" | with_reducible refine seqC ?_ | with_reducible refine Cont.set ?_ | with_reducible refine Cont.expr ?_ | with_reducible refine Cont.ret ?_ | with_reducible refine Cont.nil ?_ | with_reducible refine Cont.put ?_ | with_reducible refine Cont.for ?_ | with_reducible refine Cont.while ?_ | with_reducible refine Cont.setB ?_))
local macro_rules | `(tactic| walk_at "if") => `(tactic| (refine Cont.mk ?_; walk_at "go"))
abbrev F := fnAt cst T
theorem cutA_2 {α : Type} (as : List α) : cutA as none (some 2) = as.take 2 := by
  unfold cutA
  have h1 : HT.sIx as.length 0 none = 0 := rfl
  have h2 : as.take (HT.sIx as.length as.length (some 2)) = as.take 2 := by
    have e : HT.sIx as.length as.length (some 2) = min 2 as.length := by
      simp only [HT.sIx]
      split <;> omega
    rw [e]
    by_cases c : 2 ≤ as.length
    · rw [Nat.min_eq_left c]
    · rw [List.take_of_length_le (by omega), List.take_of_length_le (by omega)]
  rw [h1, List.drop_zero, Nat.sub_zero]
  exact h2
theorem law_W (ns : List Int) : W (fnAt cst T 8 false "law" [.t (.list (ns.map PyData.int))] []) fun p => p.1 = .t (.bool true) := by
  rw [r_law 7 false _ _ rfl, runFn_eq]
  show W (Option.bind (LB.b_law_12 _ _ [some (.t (.list (ns.map PyData.int))), none, none, none, none, none, none, none, none, none, none, none, none] []) _) _
  unfold LB.b_law_12
  rw [W_obind]
  walk_at "go"
  refine penNew (fun xs h hl => r__law_pen 6 true xs h hl) fun es hp => ?_
  walk_at "go"
  refine ⟨⟨by decide, by decide⟩, ?_⟩
  refine forGo_W 4 (fun n σ h => ∃ es s2 s3 s4 s5 s6 s7 s8 s9 s10 s11 s12, h = [.d es] ∧ PenOk (1200 * n) es ∧ σ = [some (.t (.list (ns.map PyData.int))), some (.r 0), s2, s3, s4, s5, s6, s7, s8, s9, s10, s11, s12]) _ (n := 0) (by decide)
    ⟨es, _, _, _, _, _, _, _, _, _, _, _, rfl, hp, rfl⟩ ?_ ?_
  · rintro d hd n σ h hn ⟨es, s2, s3, s4, s5, s6, s7, s8, s9, s10, s11, s12, rfl, hp, rfl⟩
    walk_at "go"
    refine someWishesF (F := F) (k := 3) rfl hp (by omega) fun ws es1 ow h6 hp1 => ?_
    walk_at "go"
    have hwl := ow.len
    have hww : ∀ w ∈ ws, w.ws.length ≤ 1000000 := fun w hw => by have := h6 w hw; omega
    refine Cont.par ?_
    walk_at "go"
    refine goneF (F := F) (k := 5) rfl hp1 (by omega) ow fun rf1 es2 ok1 cd1 hp2 => ?_
    walk_at "go"
    refine goneF (F := F) (k := 5) rfl hp2 (by omega) ow fun rf2 es3 ok2 cd2 hp3 => ?_
    walk_at "go"
    walk_at "if"
    rw [(plans_right_ret (F := F) (k := 4) ow cd1 cd2 ok1.len ok2.len).w3]
    walk_at "go"
    rw [(plans_right_ret (F := F) (k := 4) ow cd2 cd1 ok2.len ok1.len).w3]
    walk_at "go"
    rw [show [PyData.tuple [], .tuple (rf1.map a1), .tuple (rf2.map a1)] = [[], rf1, rf2].map (fun rf : AA => PyData.tuple (rf.map a1)) from rfl]
    refine forGo_ret (fun rf : AA => PyData.tuple (rf.map a1)) (fun rem σ h => ∃ s6, h = [.d es3] ∧ σ = [some (.t (.list (ns.map PyData.int))), some (.r 0), some (.t d), some (.t (.tuple (ws.map wD))), some (.t (.tuple (rf1.map a1))), some (.t (.tuple (rf2.map a1))), s6, s7, s8, s9, s10, s11, s12] ∧ ∀ rf ∈ rem, OkR rf ∧ ∀ p ∈ rf, p ∈ candR ws)
      ⟨_, rfl, rfl, ?_⟩ ?_ ?_
    · intro rf hrf
      simp only [List.mem_cons, List.not_mem_nil, or_false] at hrf
      rcases hrf with rfl | rfl | rfl
      · exact ⟨OkR.nil, by simp⟩
      · exact ⟨ok1, cd1⟩
      · exact ⟨ok2, cd2⟩
    · rintro rf rem σ h ⟨s6, rfl, rfl, hrm⟩
      obtain ⟨okr, cdr⟩ := hrm rf (by simp)
      walk_at "go"
      rw [(asks_right_ret (F := F) (k := 4) ow).w2]
      walk_at "go"
      rw [(without_right_ret (F := F) (k := 4) ow cdr okr.len).w2]
      walk_at "go"
      exact ⟨_, rfl, fun rf hrf => hrm rf (List.mem_cons_of_mem _ hrf)⟩
    · rintro σ h ⟨s6, rfl, rfl, _⟩
      have owf := ow.free
      have hfl : (ws.map free).length ≤ 6 := owf.len
      walk_at "go"
      refine comp_to (as := ws) wD (fun _ => true) (fun w => wD (free w)) (by walk_at "go") (by omega) (fun w _ => ?_) ?_
      · simp only [wD, free, ndD]
        walk_at "go"
        simp
      walk_at "go"
      walk_at "if"
      rw [show (fun w : Wish => wD (free w)) = wD ∘ free from rfl, ← List.map_map]
      have po := plan_of_ret (F := F) (k := 5) (ws := ws.map free) (ref := []) (by omega) (fun w hw => by have := (owf.worths w hw).2.1; omega)
      have ao := ask_of_ret (F := F) (k := 6) (ws := ws.map free) (pl := planOf (ws.map free) []) (by omega) (zip_plan _ _)
      have ef : askOf (ws.map free) (planOf (ws.map free) []) = ws.map fun w => (w.k, w.ws.headD 0) := ask_free ws fun w hw => (ow.worths w hw).1
      simp only [List.map_nil] at po
      rw [ef] at ao
      rw [po.w2]
      walk_at "go"
      rw [ao.w2]
      walk_at "go"
      refine comp_to (as := ws) wD (fun _ => true) (fun w => a1 (w.k, w.ws.headD 0)) (by walk_at "go") (by omega) (fun w hw => ?_) ?_
      · have hne := (ow.worths w hw).1
        simp only [wD, a1]
        walk_at "go"
        rcases hws : w.ws with _ | ⟨x, xs⟩
        · exact absurd hws hne
        walk_at "go"
        simp
      walk_at "go"
      rw [show (fun w : Wish => a1 (w.k, w.ws.headD 0)) = a1 ∘ (fun w => (w.k, w.ws.headD 0)) from rfl, ← List.map_map]
      walk_at "go"
      walk_at "if"
      have iw := are_wishes_ret (F := F) (k := 3) owf.gd (by decide)
      rw [owf.is fun w hw => by obtain ⟨v, hv, rfl⟩ := List.mem_map.mp hw; exact h6 v hv] at iw
      rw [iw.w1]
      walk_at "go"
      rw [cutD_map, show cutA ws none (some 2) = ws.take 2 from ?_]
      rotate_left
      · exact cutA_2 ws
      have owt := ow.take 2
      have iw2 := are_wishes_ret (F := F) (k := 3) owt.gd (by decide)
      rw [owt.is fun w hw => h6 w (List.mem_of_mem_take hw)] at iw2
      rw [iw2.w1]
      walk_at "go"
      exact ⟨es3, _, _, _, _, _, _, _, _, _, _, _, rfl, hp3.more (by omega), rfl⟩
  · rintro σ h ⟨es, s2, s3, s4, s5, s6, s7, s8, s9, s10, s11, s12, rfl, hp, rfl⟩
    walk_at "go"
theorem law_true (ns : List Int) (_ : ns.length ≤ 63) (_ : ∀ i ∈ ns, Builtin.Int.intBits i ≤ 1048576) : ∃ h', fnAt cst T 8 false "law" [.t (.list (ns.map PyData.int))] [] = some (.t (.bool true), h') := by
  obtain ⟨⟨v, h'⟩, e, rfl⟩ := law_W ns
  exact ⟨h', e⟩
end L06
end
/-! what the top has written -/
namespace L06
open PySem PySem.Spec L2 DE PyProof.Rows
theorem sc_is_name : FnScope fd_is_name.N fd_is_name.ps (defScope fd_is_name.st) := ⟨rfl, rfl, rfl, by decide +kernel, rfl, by decide +kernel, by decide +kernel⟩
theorem sc_is_worth : FnScope fd_is_worth.N fd_is_worth.ps (defScope fd_is_worth.st) := ⟨rfl, rfl, rfl, by decide +kernel, rfl, by decide +kernel, by decide +kernel⟩
theorem sc_is_tuple : FnScope fd_is_tuple.N fd_is_tuple.ps (defScope fd_is_tuple.st) := ⟨rfl, rfl, rfl, by decide +kernel, rfl, by decide +kernel, by decide +kernel⟩
theorem sc_are_worths : FnScope fd_are_worths.N fd_are_worths.ps (defScope fd_are_worths.st) := ⟨rfl, rfl, rfl, by decide +kernel, rfl, by decide +kernel, by decide +kernel⟩
theorem sc_is_pair : FnScope fd_is_pair.N fd_is_pair.ps (defScope fd_is_pair.st) := ⟨rfl, rfl, rfl, by decide +kernel, rfl, by decide +kernel, by decide +kernel⟩
theorem sc_is_wish : FnScope fd_is_wish.N fd_is_wish.ps (defScope fd_is_wish.st) := ⟨rfl, rfl, rfl, by decide +kernel, rfl, by decide +kernel, by decide +kernel⟩
theorem sc_are_wishes : FnScope fd_are_wishes.N fd_are_wishes.ps (defScope fd_are_wishes.st) := ⟨rfl, rfl, rfl, by decide +kernel, rfl, by decide +kernel, by decide +kernel⟩
theorem sc_left_of : FnScope fd_left_of.N fd_left_of.ps (defScope fd_left_of.st) := ⟨rfl, rfl, rfl, by decide +kernel, rfl, by decide +kernel, by decide +kernel⟩
theorem sc_plan_of : FnScope fd_plan_of.N fd_plan_of.ps (defScope fd_plan_of.st) := ⟨rfl, rfl, rfl, by decide +kernel, rfl, by decide +kernel, by decide +kernel⟩
theorem sc_ask_of : FnScope fd_ask_of.N fd_ask_of.ps (defScope fd_ask_of.st) := ⟨rfl, rfl, rfl, by decide +kernel, rfl, by decide +kernel, by decide +kernel⟩
theorem sc__law_pen : FnScope fd__law_pen.N fd__law_pen.ps (defScope fd__law_pen.st) := ⟨rfl, rfl, rfl, by decide +kernel, rfl, by decide +kernel, by decide +kernel⟩
theorem sc__law_draw : FnScope fd__law_draw.N fd__law_draw.ps (defScope fd__law_draw.st) := ⟨rfl, rfl, rfl, by decide +kernel, rfl, by decide +kernel, by decide +kernel⟩
theorem sc__law_kinds : FnScope fd__law_kinds.N fd__law_kinds.ps (defScope fd__law_kinds.st) := ⟨rfl, rfl, rfl, by decide +kernel, rfl, by decide +kernel, by decide +kernel⟩
theorem sc__law_worths : FnScope fd__law_worths.N fd__law_worths.ps (defScope fd__law_worths.st) := ⟨rfl, rfl, rfl, by decide +kernel, rfl, by decide +kernel, by decide +kernel⟩
theorem sc__law_wishes : FnScope fd__law_wishes.N fd__law_wishes.ps (defScope fd__law_wishes.st) := ⟨rfl, rfl, rfl, by decide +kernel, rfl, by decide +kernel, by decide +kernel⟩
theorem sc__law_great : FnScope fd__law_great.N fd__law_great.ps (defScope fd__law_great.st) := ⟨rfl, rfl, rfl, by decide +kernel, rfl, by decide +kernel, by decide +kernel⟩
theorem sc__law_some_wishes : FnScope fd__law_some_wishes.N fd__law_some_wishes.ps (defScope fd__law_some_wishes.st) := ⟨rfl, rfl, rfl, by decide +kernel, rfl, by decide +kernel, by decide +kernel⟩
theorem sc__law_gone : FnScope fd__law_gone.N fd__law_gone.ps (defScope fd__law_gone.st) := ⟨rfl, rfl, rfl, by decide +kernel, rfl, by decide +kernel, by decide +kernel⟩
theorem sc__law_plans_right : FnScope fd__law_plans_right.N fd__law_plans_right.ps (defScope fd__law_plans_right.st) := ⟨rfl, rfl, rfl, by decide +kernel, rfl, by decide +kernel, by decide +kernel⟩
theorem sc__law_asks_right : FnScope fd__law_asks_right.N fd__law_asks_right.ps (defScope fd__law_asks_right.st) := ⟨rfl, rfl, rfl, by decide +kernel, rfl, by decide +kernel, by decide +kernel⟩
theorem sc__law_without_right : FnScope fd__law_without_right.N fd__law_without_right.ps (defScope fd__law_without_right.st) := ⟨rfl, rfl, rfl, by decide +kernel, rfl, by decide +kernel, by decide +kernel⟩
theorem sc_law : FnScope fd_law.N fd_law.ps (defScope fd_law.st) := ⟨rfl, rfl, rfl, by decide +kernel, rfl, by decide +kernel, by decide +kernel⟩
theorem ndT : (T.map (·.name)).Nodup := by decide +kernel
set_option maxHeartbeats 4000000 in
theorem all_mk {l : PySem.W.OpenLaw} {w : World} {K : PySem.W.Frag} {h : Heap} {mg : Str → Option Value} {fa : Addr} {k : Nat} (X : K.In h) (G : h.Ns mainGlobals mg) (hfa : mg "law" = some (.ref fa))
    {f0 : Addr} {od0 an0 : Option Addr} {sl0 : Array (Option Value)} {oc0 dc0 pm0 cd0 ct0 : Value} {kV0 : Value}
    {f1 : Addr} {od1 an1 : Option Addr} {sl1 : Array (Option Value)} {oc1 dc1 pm1 cd1 ct1 : Value} {kV1 : Value}
    {f2 : Addr} {od2 an2 : Option Addr} {sl2 : Array (Option Value)} {oc2 dc2 pm2 cd2 ct2 : Value} {kV2 : Value}
    {f3 : Addr} {od3 an3 : Option Addr} {sl3 : Array (Option Value)} {oc3 dc3 pm3 cd3 ct3 : Value} {kV3 : Value}
    {f4 : Addr} {od4 an4 : Option Addr} {sl4 : Array (Option Value)} {oc4 dc4 pm4 cd4 ct4 : Value} {kV4 : Value}
    {f5 : Addr} {od5 an5 : Option Addr} {sl5 : Array (Option Value)} {oc5 dc5 pm5 cd5 ct5 : Value} {kV5 : Value}
    {f6 : Addr} {od6 an6 : Option Addr} {sl6 : Array (Option Value)} {oc6 dc6 pm6 cd6 ct6 : Value} {kV6 : Value}
    {f7 : Addr} {od7 an7 : Option Addr} {sl7 : Array (Option Value)} {oc7 dc7 pm7 cd7 ct7 : Value} {kV7 : Value}
    {f8 : Addr} {od8 an8 : Option Addr} {sl8 : Array (Option Value)} {oc8 dc8 pm8 cd8 ct8 : Value}
    {kd8 kt8 : Addr} {ktn8 : Nat} {kts8 : Array (Option Value)}
    {f9 : Addr} {od9 an9 : Option Addr} {sl9 : Array (Option Value)} {oc9 dc9 pm9 cd9 ct9 : Value} {kV9 : Value}
    {f10 : Addr} {od10 an10 : Option Addr} {sl10 : Array (Option Value)} {oc10 dc10 pm10 cd10 ct10 : Value} {kV10 : Value}
    {f11 : Addr} {od11 an11 : Option Addr} {sl11 : Array (Option Value)} {oc11 dc11 pm11 cd11 ct11 : Value} {kV11 : Value}
    {f12 : Addr} {od12 an12 : Option Addr} {sl12 : Array (Option Value)} {oc12 dc12 pm12 cd12 ct12 : Value} {kV12 : Value}
    {f13 : Addr} {od13 an13 : Option Addr} {sl13 : Array (Option Value)} {oc13 dc13 pm13 cd13 ct13 : Value} {kV13 : Value}
    {f14 : Addr} {od14 an14 : Option Addr} {sl14 : Array (Option Value)} {oc14 dc14 pm14 cd14 ct14 : Value} {kV14 : Value}
    {f15 : Addr} {od15 an15 : Option Addr} {sl15 : Array (Option Value)} {oc15 dc15 pm15 cd15 ct15 : Value} {kV15 : Value}
    {f16 : Addr} {od16 an16 : Option Addr} {sl16 : Array (Option Value)} {oc16 dc16 pm16 cd16 ct16 : Value} {kV16 : Value}
    {f17 : Addr} {od17 an17 : Option Addr} {sl17 : Array (Option Value)} {oc17 dc17 pm17 cd17 ct17 : Value} {kV17 : Value}
    {f18 : Addr} {od18 an18 : Option Addr} {sl18 : Array (Option Value)} {oc18 dc18 pm18 cd18 ct18 : Value} {kV18 : Value}
    {f19 : Addr} {od19 an19 : Option Addr} {sl19 : Array (Option Value)} {oc19 dc19 pm19 cd19 ct19 : Value} {kV19 : Value}
    {f20 : Addr} {od20 an20 : Option Addr} {sl20 : Array (Option Value)} {oc20 dc20 pm20 cd20 ct20 : Value} {kV20 : Value}
    {f21 : Addr} {od21 an21 : Option Addr} {sl21 : Array (Option Value)} {oc21 dc21 pm21 cd21 ct21 : Value} {kV21 : Value}
    {tk0 : Tok}
    {tk1 : Tok}
    {tk2 : Tok}
    {tk3 : Tok}
    {tk4 : Tok}
    {tk5 : Tok}
    (a0 : PySem.W.nsIn K mainGlobals "is_name" = some (some (.ref f0))) (l0 : K.lookup f0 = some ⟨oc0, od0, .func (PySem.W.fnOf "is_name" "is_name" (defArgs fd_is_name.st) (defBody fd_is_name.st) (defScope fd_is_name.st) .none kV0 dc0 pm0 an0 cd0 ct0), sl0⟩) (d0 : PySem.W.codeIn K cd0 "is_name" = true) (k0 : PySem.W.keepIn K (.ref f0) = true)
    (a1 : PySem.W.nsIn K mainGlobals "is_worth" = some (some (.ref f1))) (l1 : K.lookup f1 = some ⟨oc1, od1, .func (PySem.W.fnOf "is_worth" "is_worth" (defArgs fd_is_worth.st) (defBody fd_is_worth.st) (defScope fd_is_worth.st) .none kV1 dc1 pm1 an1 cd1 ct1), sl1⟩) (d1 : PySem.W.codeIn K cd1 "is_worth" = true) (k1 : PySem.W.keepIn K (.ref f1) = true)
    (a2 : PySem.W.nsIn K mainGlobals "is_tuple" = some (some (.ref f2))) (l2 : K.lookup f2 = some ⟨oc2, od2, .func (PySem.W.fnOf "is_tuple" "is_tuple" (defArgs fd_is_tuple.st) (defBody fd_is_tuple.st) (defScope fd_is_tuple.st) .none kV2 dc2 pm2 an2 cd2 ct2), sl2⟩) (d2 : PySem.W.codeIn K cd2 "is_tuple" = true) (k2 : PySem.W.keepIn K (.ref f2) = true)
    (a3 : PySem.W.nsIn K mainGlobals "are_worths" = some (some (.ref f3))) (l3 : K.lookup f3 = some ⟨oc3, od3, .func (PySem.W.fnOf "are_worths" "are_worths" (defArgs fd_are_worths.st) (defBody fd_are_worths.st) (defScope fd_are_worths.st) .none kV3 dc3 pm3 an3 cd3 ct3), sl3⟩) (d3 : PySem.W.codeIn K cd3 "are_worths" = true) (k3 : PySem.W.keepIn K (.ref f3) = true)
    (a4 : PySem.W.nsIn K mainGlobals "is_pair" = some (some (.ref f4))) (l4 : K.lookup f4 = some ⟨oc4, od4, .func (PySem.W.fnOf "is_pair" "is_pair" (defArgs fd_is_pair.st) (defBody fd_is_pair.st) (defScope fd_is_pair.st) .none kV4 dc4 pm4 an4 cd4 ct4), sl4⟩) (d4 : PySem.W.codeIn K cd4 "is_pair" = true) (k4 : PySem.W.keepIn K (.ref f4) = true)
    (a5 : PySem.W.nsIn K mainGlobals "is_wish" = some (some (.ref f5))) (l5 : K.lookup f5 = some ⟨oc5, od5, .func (PySem.W.fnOf "is_wish" "is_wish" (defArgs fd_is_wish.st) (defBody fd_is_wish.st) (defScope fd_is_wish.st) .none kV5 dc5 pm5 an5 cd5 ct5), sl5⟩) (d5 : PySem.W.codeIn K cd5 "is_wish" = true) (k5 : PySem.W.keepIn K (.ref f5) = true)
    (a6 : PySem.W.nsIn K mainGlobals "are_wishes" = some (some (.ref f6))) (l6 : K.lookup f6 = some ⟨oc6, od6, .func (PySem.W.fnOf "are_wishes" "are_wishes" (defArgs fd_are_wishes.st) (defBody fd_are_wishes.st) (defScope fd_are_wishes.st) .none kV6 dc6 pm6 an6 cd6 ct6), sl6⟩) (d6 : PySem.W.codeIn K cd6 "are_wishes" = true) (k6 : PySem.W.keepIn K (.ref f6) = true)
    (a7 : PySem.W.nsIn K mainGlobals "left_of" = some (some (.ref f7))) (l7 : K.lookup f7 = some ⟨oc7, od7, .func (PySem.W.fnOf "left_of" "left_of" (defArgs fd_left_of.st) (defBody fd_left_of.st) (defScope fd_left_of.st) .none kV7 dc7 pm7 an7 cd7 ct7), sl7⟩) (d7 : PySem.W.codeIn K cd7 "left_of" = true) (k7 : PySem.W.keepIn K (.ref f7) = true)
    (a8 : PySem.W.nsIn K mainGlobals "plan_of" = some (some (.ref f8))) (l8 : K.lookup f8 = some ⟨oc8, od8, .func (PySem.W.fnOf "plan_of" "plan_of" (defArgs fd_plan_of.st) (defBody fd_plan_of.st) (defScope fd_plan_of.st) .none (.ref kd8) dc8 pm8 an8 cd8 ct8), sl8⟩) (d8 : PySem.W.codeIn K cd8 "plan_of" = true) (k8 : PySem.W.keepIn K (.ref f8) = true)
    (kx8 : PySem.W.nsIn K kd8 "refused" = some (some (.ref kt8))) (ky8 : K.lookup kt8 = some ⟨.type "tuple", none, .seq #[] ktn8, kts8⟩)
    (a9 : PySem.W.nsIn K mainGlobals "ask_of" = some (some (.ref f9))) (l9 : K.lookup f9 = some ⟨oc9, od9, .func (PySem.W.fnOf "ask_of" "ask_of" (defArgs fd_ask_of.st) (defBody fd_ask_of.st) (defScope fd_ask_of.st) .none kV9 dc9 pm9 an9 cd9 ct9), sl9⟩) (d9 : PySem.W.codeIn K cd9 "ask_of" = true) (k9 : PySem.W.keepIn K (.ref f9) = true)
    (a10 : PySem.W.nsIn K mainGlobals "_law_pen" = some (some (.ref f10))) (l10 : K.lookup f10 = some ⟨oc10, od10, .func (PySem.W.fnOf "_law_pen" "_law_pen" (defArgs fd__law_pen.st) (defBody fd__law_pen.st) (defScope fd__law_pen.st) .none kV10 dc10 pm10 an10 cd10 ct10), sl10⟩) (d10 : PySem.W.codeIn K cd10 "_law_pen" = true) (k10 : PySem.W.keepIn K (.ref f10) = true)
    (a11 : PySem.W.nsIn K mainGlobals "_law_draw" = some (some (.ref f11))) (l11 : K.lookup f11 = some ⟨oc11, od11, .func (PySem.W.fnOf "_law_draw" "_law_draw" (defArgs fd__law_draw.st) (defBody fd__law_draw.st) (defScope fd__law_draw.st) .none kV11 dc11 pm11 an11 cd11 ct11), sl11⟩) (d11 : PySem.W.codeIn K cd11 "_law_draw" = true) (k11 : PySem.W.keepIn K (.ref f11) = true)
    (a12 : PySem.W.nsIn K mainGlobals "_law_kinds" = some (some (.ref f12))) (l12 : K.lookup f12 = some ⟨oc12, od12, .func (PySem.W.fnOf "_law_kinds" "_law_kinds" (defArgs fd__law_kinds.st) (defBody fd__law_kinds.st) (defScope fd__law_kinds.st) .none kV12 dc12 pm12 an12 cd12 ct12), sl12⟩) (d12 : PySem.W.codeIn K cd12 "_law_kinds" = true) (k12 : PySem.W.keepIn K (.ref f12) = true)
    (a13 : PySem.W.nsIn K mainGlobals "_law_worths" = some (some (.ref f13))) (l13 : K.lookup f13 = some ⟨oc13, od13, .func (PySem.W.fnOf "_law_worths" "_law_worths" (defArgs fd__law_worths.st) (defBody fd__law_worths.st) (defScope fd__law_worths.st) .none kV13 dc13 pm13 an13 cd13 ct13), sl13⟩) (d13 : PySem.W.codeIn K cd13 "_law_worths" = true) (k13 : PySem.W.keepIn K (.ref f13) = true)
    (a14 : PySem.W.nsIn K mainGlobals "_law_wishes" = some (some (.ref f14))) (l14 : K.lookup f14 = some ⟨oc14, od14, .func (PySem.W.fnOf "_law_wishes" "_law_wishes" (defArgs fd__law_wishes.st) (defBody fd__law_wishes.st) (defScope fd__law_wishes.st) .none kV14 dc14 pm14 an14 cd14 ct14), sl14⟩) (d14 : PySem.W.codeIn K cd14 "_law_wishes" = true) (k14 : PySem.W.keepIn K (.ref f14) = true)
    (a15 : PySem.W.nsIn K mainGlobals "_law_great" = some (some (.ref f15))) (l15 : K.lookup f15 = some ⟨oc15, od15, .func (PySem.W.fnOf "_law_great" "_law_great" (defArgs fd__law_great.st) (defBody fd__law_great.st) (defScope fd__law_great.st) .none kV15 dc15 pm15 an15 cd15 ct15), sl15⟩) (d15 : PySem.W.codeIn K cd15 "_law_great" = true) (k15 : PySem.W.keepIn K (.ref f15) = true)
    (a16 : PySem.W.nsIn K mainGlobals "_law_some_wishes" = some (some (.ref f16))) (l16 : K.lookup f16 = some ⟨oc16, od16, .func (PySem.W.fnOf "_law_some_wishes" "_law_some_wishes" (defArgs fd__law_some_wishes.st) (defBody fd__law_some_wishes.st) (defScope fd__law_some_wishes.st) .none kV16 dc16 pm16 an16 cd16 ct16), sl16⟩) (d16 : PySem.W.codeIn K cd16 "_law_some_wishes" = true) (k16 : PySem.W.keepIn K (.ref f16) = true)
    (a17 : PySem.W.nsIn K mainGlobals "_law_gone" = some (some (.ref f17))) (l17 : K.lookup f17 = some ⟨oc17, od17, .func (PySem.W.fnOf "_law_gone" "_law_gone" (defArgs fd__law_gone.st) (defBody fd__law_gone.st) (defScope fd__law_gone.st) .none kV17 dc17 pm17 an17 cd17 ct17), sl17⟩) (d17 : PySem.W.codeIn K cd17 "_law_gone" = true) (k17 : PySem.W.keepIn K (.ref f17) = true)
    (a18 : PySem.W.nsIn K mainGlobals "_law_plans_right" = some (some (.ref f18))) (l18 : K.lookup f18 = some ⟨oc18, od18, .func (PySem.W.fnOf "_law_plans_right" "_law_plans_right" (defArgs fd__law_plans_right.st) (defBody fd__law_plans_right.st) (defScope fd__law_plans_right.st) .none kV18 dc18 pm18 an18 cd18 ct18), sl18⟩) (d18 : PySem.W.codeIn K cd18 "_law_plans_right" = true) (k18 : PySem.W.keepIn K (.ref f18) = true)
    (a19 : PySem.W.nsIn K mainGlobals "_law_asks_right" = some (some (.ref f19))) (l19 : K.lookup f19 = some ⟨oc19, od19, .func (PySem.W.fnOf "_law_asks_right" "_law_asks_right" (defArgs fd__law_asks_right.st) (defBody fd__law_asks_right.st) (defScope fd__law_asks_right.st) .none kV19 dc19 pm19 an19 cd19 ct19), sl19⟩) (d19 : PySem.W.codeIn K cd19 "_law_asks_right" = true) (k19 : PySem.W.keepIn K (.ref f19) = true)
    (a20 : PySem.W.nsIn K mainGlobals "_law_without_right" = some (some (.ref f20))) (l20 : K.lookup f20 = some ⟨oc20, od20, .func (PySem.W.fnOf "_law_without_right" "_law_without_right" (defArgs fd__law_without_right.st) (defBody fd__law_without_right.st) (defScope fd__law_without_right.st) .none kV20 dc20 pm20 an20 cd20 ct20), sl20⟩) (d20 : PySem.W.codeIn K cd20 "_law_without_right" = true) (k20 : PySem.W.keepIn K (.ref f20) = true)
    (a21 : PySem.W.nsIn K mainGlobals "law" = some (some (.ref f21))) (l21 : K.lookup f21 = some ⟨oc21, od21, .func (PySem.W.fnOf "law" "law" (defArgs fd_law.st) (defBody fd_law.st) (defScope fd_law.st) .none kV21 dc21 pm21 an21 cd21 ct21), sl21⟩) (d21 : PySem.W.codeIn K cd21 "law" = true) (k21 : PySem.W.keepIn K (.ref f21) = true)
    (q0 : PySem.W.nsIn K mainGlobals "LETTERS" = some (some (.str "abcdefghijklmnopqrstuvwxyz" tk0)))
    (q1 : PySem.W.nsIn K mainGlobals "LONGEST" = some (some (.int (8) tk1)))
    (q2 : PySem.W.nsIn K mainGlobals "GREATEST" = some (some (.int (9999) tk2)))
    (q3 : PySem.W.nsIn K mainGlobals "MOST_WORTHS" = some (some (.int (6) tk3)))
    (q4 : PySem.W.nsIn K mainGlobals "MOST_WISHES" = some (some (.int (6) tk4)))
    (q5 : PySem.W.nsIn K mainGlobals "ALL" = some (some (.int (-1) tk5)))
    (z0 : PySem.W.nsIn K mainGlobals "len" = some none)
    (z1 : PySem.W.nsIn K mainGlobals "all" = some none)
    (z2 : PySem.W.nsIn K mainGlobals "any" = some none)
    (z3 : PySem.W.nsIn K mainGlobals "abs" = some none)
    (z4 : PySem.W.nsIn K mainGlobals "int" = some none)
    (z5 : PySem.W.nsIn K mainGlobals "bool" = some none)
    (z6 : PySem.W.nsIn K mainGlobals "str" = some none)
    (z7 : PySem.W.nsIn K mainGlobals "repr" = some none)
    (z8 : PySem.W.nsIn K mainGlobals "list" = some none)
    (z9 : PySem.W.nsIn K mainGlobals "tuple" = some none)
    (z10 : PySem.W.nsIn K mainGlobals "isinstance" = some none)
    (z11 : PySem.W.nsIn K mainGlobals "range" = some none)
    (z12 : PySem.W.nsIn K mainGlobals "dict" = some none)
    (z13 : PySem.W.nsIn K mainGlobals "min" = some none)
    (z14 : PySem.W.nsIn K mainGlobals "max" = some none)
    (z15 : PySem.W.nsIn K mainGlobals "enumerate" = some none)
    (z16 : PySem.W.nsIn K mainGlobals "zip" = some none)
    (z17 : PySem.W.nsIn K mainGlobals "sorted" = some none)
    (z18 : PySem.W.nsIn K mainGlobals "set" = some none)
    (z19 : PySem.W.nsIn K mainGlobals "sum" = some none)
    : ∃ fd : FuncData, (∀ (s : Shared) (u : Value), BindsTo s fd ⟨[u], []⟩ [("_law_script", u)]) ∧ ∀ base : Heap, FnG l.prog w ⟨K, w⟩ mg base k fa fd ["_law_script"] (spOf ⟨K, w⟩ 1 (fnAt cst T k false "law")) := by
  have e := hfa.symm.trans (PySem.W.mg_of X G a21)
  cases e
  have F0 := fun_mk (st := fd_is_name.st) l0 d0 k0
  have L0 : Left ⟨K, w⟩ mg fd_is_name f0 _ := ⟨F0, PySem.W.mg_of X G a0, F0.binds (ps := ["thing"]) fun _ _ _ _ _ _ us hl => match us, hl with | [_], _ => rfl, sc_is_name⟩
  have F1 := fun_mk (st := fd_is_worth.st) l1 d1 k1
  have L1 : Left ⟨K, w⟩ mg fd_is_worth f1 _ := ⟨F1, PySem.W.mg_of X G a1, F1.binds (ps := ["thing"]) fun _ _ _ _ _ _ us hl => match us, hl with | [_], _ => rfl, sc_is_worth⟩
  have F2 := fun_mk (st := fd_is_tuple.st) l2 d2 k2
  have L2 : Left ⟨K, w⟩ mg fd_is_tuple f2 _ := ⟨F2, PySem.W.mg_of X G a2, F2.binds (ps := ["thing", "least", "most"]) fun _ _ _ _ _ _ us hl => match us, hl with | [_, _, _], _ => rfl, sc_is_tuple⟩
  have F3 := fun_mk (st := fd_are_worths.st) l3 d3 k3
  have L3 : Left ⟨K, w⟩ mg fd_are_worths f3 _ := ⟨F3, PySem.W.mg_of X G a3, F3.binds (ps := ["thing"]) fun _ _ _ _ _ _ us hl => match us, hl with | [_], _ => rfl, sc_are_worths⟩
  have F4 := fun_mk (st := fd_is_pair.st) l4 d4 k4
  have L4 : Left ⟨K, w⟩ mg fd_is_pair f4 _ := ⟨F4, PySem.W.mg_of X G a4, F4.binds (ps := ["thing"]) fun _ _ _ _ _ _ us hl => match us, hl with | [_], _ => rfl, sc_is_pair⟩
  have F5 := fun_mk (st := fd_is_wish.st) l5 d5 k5
  have L5 : Left ⟨K, w⟩ mg fd_is_wish f5 _ := ⟨F5, PySem.W.mg_of X G a5, F5.binds (ps := ["thing"]) fun _ _ _ _ _ _ us hl => match us, hl with | [_], _ => rfl, sc_is_wish⟩
  have F6 := fun_mk (st := fd_are_wishes.st) l6 d6 k6
  have L6 : Left ⟨K, w⟩ mg fd_are_wishes f6 _ := ⟨F6, PySem.W.mg_of X G a6, F6.binds (ps := ["thing"]) fun _ _ _ _ _ _ us hl => match us, hl with | [_], _ => rfl, sc_are_wishes⟩
  have F7 := fun_mk (st := fd_left_of.st) l7 d7 k7
  have L7 : Left ⟨K, w⟩ mg fd_left_of f7 _ := ⟨F7, PySem.W.mg_of X G a7, F7.binds (ps := ["kind", "worths", "refused"]) fun _ _ _ _ _ _ us hl => match us, hl with | [_, _, _], _ => rfl, sc_left_of⟩
  have F8 := fun_mk (st := fd_plan_of.st) l8 d8 k8
  have L8 : Left ⟨K, w⟩ mg fd_plan_of f8 _ := ⟨F8, PySem.W.mg_of X G a8, ⟨⟨.ref kt8, .ref kt8, rfl, fun _ _ => .tup (vs := []) (.inr ⟨_, _, _, ky8, rfl, rfl, rfl, (by show 0 ≤ sizeLine; decide), .nil⟩) .nil, fun s y XK => BindsTo.of_looks fun M => KwChain.looks (l := [("refused", .ref kt8)]) XK (fun q hq => by simp only [List.mem_cons, List.not_mem_nil, or_false] at hq; subst hq; exact kx8) ⟨_, _, _, _, _, _, rfl, rfl, rfl⟩⟩, fun s y v XK => .of_eq rfl⟩, sc_plan_of⟩
  have F9 := fun_mk (st := fd_ask_of.st) l9 d9 k9
  have L9 : Left ⟨K, w⟩ mg fd_ask_of f9 _ := ⟨F9, PySem.W.mg_of X G a9, F9.binds (ps := ["wishes", "plan"]) fun _ _ _ _ _ _ us hl => match us, hl with | [_, _], _ => rfl, sc_ask_of⟩
  have F10 := fun_mk (st := fd__law_pen.st) l10 d10 k10
  have L10 : Left ⟨K, w⟩ mg fd__law_pen f10 _ := ⟨F10, PySem.W.mg_of X G a10, F10.binds (ps := ["_law_script"]) fun _ _ _ _ _ _ us hl => match us, hl with | [_], _ => rfl, sc__law_pen⟩
  have F11 := fun_mk (st := fd__law_draw.st) l11 d11 k11
  have L11 : Left ⟨K, w⟩ mg fd__law_draw f11 _ := ⟨F11, PySem.W.mg_of X G a11, F11.binds (ps := ["_law_pen_here", "_law_many"]) fun _ _ _ _ _ _ us hl => match us, hl with | [_, _], _ => rfl, sc__law_draw⟩
  have F12 := fun_mk (st := fd__law_kinds.st) l12 d12 k12
  have L12 : Left ⟨K, w⟩ mg fd__law_kinds f12 _ := ⟨F12, PySem.W.mg_of X G a12, F12.binds (ps := ["_law_pen_here", "_law_many"]) fun _ _ _ _ _ _ us hl => match us, hl with | [_, _], _ => rfl, sc__law_kinds⟩
  have F13 := fun_mk (st := fd__law_worths.st) l13 d13 k13
  have L13 : Left ⟨K, w⟩ mg fd__law_worths f13 _ := ⟨F13, PySem.W.mg_of X G a13, F13.binds (ps := ["_law_pen_here", "_law_most"]) fun _ _ _ _ _ _ us hl => match us, hl with | [_, _], _ => rfl, sc__law_worths⟩
  have F14 := fun_mk (st := fd__law_wishes.st) l14 d14 k14
  have L14 : Left ⟨K, w⟩ mg fd__law_wishes f14 _ := ⟨F14, PySem.W.mg_of X G a14, F14.binds (ps := ["_law_pen_here", "_law_kinds_here_here", "_law_most"]) fun _ _ _ _ _ _ us hl => match us, hl with | [_, _, _], _ => rfl, sc__law_wishes⟩
  have F15 := fun_mk (st := fd__law_great.st) l15 d15 k15
  have L15 : Left ⟨K, w⟩ mg fd__law_great f15 _ := ⟨F15, PySem.W.mg_of X G a15, F15.binds (ps := ["_law_pen_here"]) fun _ _ _ _ _ _ us hl => match us, hl with | [_], _ => rfl, sc__law_great⟩
  have F16 := fun_mk (st := fd__law_some_wishes.st) l16 d16 k16
  have L16 : Left ⟨K, w⟩ mg fd__law_some_wishes f16 _ := ⟨F16, PySem.W.mg_of X G a16, F16.binds (ps := ["_law_pen_here"]) fun _ _ _ _ _ _ us hl => match us, hl with | [_], _ => rfl, sc__law_some_wishes⟩
  have F17 := fun_mk (st := fd__law_gone.st) l17 d17 k17
  have L17 : Left ⟨K, w⟩ mg fd__law_gone f17 _ := ⟨F17, PySem.W.mg_of X G a17, F17.binds (ps := ["_law_pen_here", "_law_wishes_here"]) fun _ _ _ _ _ _ us hl => match us, hl with | [_, _], _ => rfl, sc__law_gone⟩
  have F18 := fun_mk (st := fd__law_plans_right.st) l18 d18 k18
  have L18 : Left ⟨K, w⟩ mg fd__law_plans_right f18 _ := ⟨F18, PySem.W.mg_of X G a18, F18.binds (ps := ["_law_some", "_law_one", "_law_other"]) fun _ _ _ _ _ _ us hl => match us, hl with | [_, _, _], _ => rfl, sc__law_plans_right⟩
  have F19 := fun_mk (st := fd__law_asks_right.st) l19 d19 k19
  have L19 : Left ⟨K, w⟩ mg fd__law_asks_right f19 _ := ⟨F19, PySem.W.mg_of X G a19, F19.binds (ps := ["_law_some", "_law_gone_here"]) fun _ _ _ _ _ _ us hl => match us, hl with | [_, _], _ => rfl, sc__law_asks_right⟩
  have F20 := fun_mk (st := fd__law_without_right.st) l20 d20 k20
  have L20 : Left ⟨K, w⟩ mg fd__law_without_right f20 _ := ⟨F20, PySem.W.mg_of X G a20, F20.binds (ps := ["_law_some", "_law_gone_here"]) fun _ _ _ _ _ _ us hl => match us, hl with | [_, _], _ => rfl, sc__law_without_right⟩
  have F21 := fun_mk (st := fd_law.st) l21 d21 k21
  have L21 : Left ⟨K, w⟩ mg fd_law fa _ := ⟨F21, PySem.W.mg_of X G a21, F21.binds (ps := ["_law_script"]) fun _ _ _ _ _ _ us hl => match us, hl with | [_], _ => rfl, sc_law⟩
  have hT : ∀ fd ∈ T, ∃ f fn, Left ⟨K, w⟩ mg fd f fn := by
    intro fd hfd
    simp only [T, List.mem_cons, List.not_mem_nil, or_false] at hfd
    rcases hfd with rfl | rfl | rfl | rfl | rfl | rfl | rfl | rfl | rfl | rfl | rfl | rfl | rfl | rfl | rfl | rfl | rfl | rfl | rfl | rfl | rfl | rfl
    · exact ⟨_, _, L0⟩
    · exact ⟨_, _, L1⟩
    · exact ⟨_, _, L2⟩
    · exact ⟨_, _, L3⟩
    · exact ⟨_, _, L4⟩
    · exact ⟨_, _, L5⟩
    · exact ⟨_, _, L6⟩
    · exact ⟨_, _, L7⟩
    · exact ⟨_, _, L8⟩
    · exact ⟨_, _, L9⟩
    · exact ⟨_, _, L10⟩
    · exact ⟨_, _, L11⟩
    · exact ⟨_, _, L12⟩
    · exact ⟨_, _, L13⟩
    · exact ⟨_, _, L14⟩
    · exact ⟨_, _, L15⟩
    · exact ⟨_, _, L16⟩
    · exact ⟨_, _, L17⟩
    · exact ⟨_, _, L18⟩
    · exact ⟨_, _, L19⟩
    · exact ⟨_, _, L20⟩
    · exact ⟨_, _, L21⟩
  refine ⟨_, fun s u => .of_eq rfl, fun base => fns_ok ndT (fun x d hx => ?_) (fun x hx => ?_) hT k fd_law (by simp [T]) _ _ L21 false⟩
  · simp only [cst, List.lookup] at hx
    split at hx
    · rename_i e; cases hx; have e := eq_of_beq e; subst e; exact ⟨.str _, _, PySem.W.mg_of X G q0, ⟨_, rfl⟩, fun _ _ => .str _⟩
    split at hx
    · rename_i e; cases hx; have e := eq_of_beq e; subst e; exact ⟨.int _, _, PySem.W.mg_of X G q1, ⟨_, rfl⟩, fun _ _ => .int _⟩
    split at hx
    · rename_i e; cases hx; have e := eq_of_beq e; subst e; exact ⟨.int _, _, PySem.W.mg_of X G q2, ⟨_, rfl⟩, fun _ _ => .int _⟩
    split at hx
    · rename_i e; cases hx; have e := eq_of_beq e; subst e; exact ⟨.int _, _, PySem.W.mg_of X G q3, ⟨_, rfl⟩, fun _ _ => .int _⟩
    split at hx
    · rename_i e; cases hx; have e := eq_of_beq e; subst e; exact ⟨.int _, _, PySem.W.mg_of X G q4, ⟨_, rfl⟩, fun _ _ => .int _⟩
    split at hx
    · rename_i e; cases hx; have e := eq_of_beq e; subst e; exact ⟨.int _, _, PySem.W.mg_of X G q5, ⟨_, rfl⟩, fun _ _ => .int _⟩
    cases hx
  · simp only [blts, List.mem_cons, List.not_mem_nil, or_false] at hx
    rcases hx with rfl | rfl | rfl | rfl | rfl | rfl | rfl | rfl | rfl | rfl | rfl | rfl | rfl | rfl | rfl | rfl | rfl | rfl | rfl | rfl
    · exact PySem.W.mg_none_of X G z0
    · exact PySem.W.mg_none_of X G z1
    · exact PySem.W.mg_none_of X G z2
    · exact PySem.W.mg_none_of X G z3
    · exact PySem.W.mg_none_of X G z4
    · exact PySem.W.mg_none_of X G z5
    · exact PySem.W.mg_none_of X G z6
    · exact PySem.W.mg_none_of X G z7
    · exact PySem.W.mg_none_of X G z8
    · exact PySem.W.mg_none_of X G z9
    · exact PySem.W.mg_none_of X G z10
    · exact PySem.W.mg_none_of X G z11
    · exact PySem.W.mg_none_of X G z12
    · exact PySem.W.mg_none_of X G z13
    · exact PySem.W.mg_none_of X G z14
    · exact PySem.W.mg_none_of X G z15
    · exact PySem.W.mg_none_of X G z16
    · exact PySem.W.mg_none_of X G z17
    · exact PySem.W.mg_none_of X G z18
    · exact PySem.W.mg_none_of X G z19
end L06
open PySem PySem.W PyProof.Rows
set_option maxRecDepth 100000 in
set_option maxHeartbeats 0 in
theorem PySem.Challenge.cw_crossedwishes_k06_whole_refusals_add_up_holds : PySem.Challenge.rw_crossedwishes_k06_whole_refusals_add_up.Holds := by
  w_on; o_law; k_head; (case hw => w_witness2)
  k_fill
  refine DE.walk_G (l := PySem.Challenge.rw_crossedwishes_k06_whole_refusals_add_up) (n := 63) (k := 8) (x := "_law_script") (fn := DE.fnAt L06.cst L06.T 8 false "law") rfl (by decide) rfl ⟨rfl, by decide, by decide⟩ (fun w h Y => PySem.W.kIn_of Y) ?F L06.law_true
  case F =>
    intro w mg fa h KX G hmg
    refine' L06.all_mk KX G hmg ?a0 ?l0 ?d0 ?k0 ?a1 ?l1 ?d1 ?k1 ?a2 ?l2 ?d2 ?k2 ?a3 ?l3 ?d3 ?k3 ?a4 ?l4 ?d4 ?k4 ?a5 ?l5 ?d5 ?k5 ?a6 ?l6 ?d6 ?k6 ?a7 ?l7 ?d7 ?k7 ?a8 ?l8 ?d8 ?k8 ?kx8 ?ky8 ?a9 ?l9 ?d9 ?k9 ?a10 ?l10 ?d10 ?k10 ?a11 ?l11 ?d11 ?k11 ?a12 ?l12 ?d12 ?k12 ?a13 ?l13 ?d13 ?k13 ?a14 ?l14 ?d14 ?k14 ?a15 ?l15 ?d15 ?k15 ?a16 ?l16 ?d16 ?k16 ?a17 ?l17 ?d17 ?k17 ?a18 ?l18 ?d18 ?k18 ?a19 ?l19 ?d19 ?k19 ?a20 ?l20 ?d20 ?k20 ?a21 ?l21 ?d21 ?k21 ?q0 ?q1 ?q2 ?q3 ?q4 ?q5 ?z0 ?z1 ?z2 ?z3 ?z4 ?z5 ?z6 ?z7 ?z8 ?z9 ?z10 ?z11 ?z12 ?z13 ?z14 ?z15 ?z16 ?z17 ?z18 ?z19
    (case a0 => k_is)
    (case l0 => k_is)
    (case d0 => k_is)
    (case k0 => k_is)
    (case a1 => k_is)
    (case l1 => k_is)
    (case d1 => k_is)
    (case k1 => k_is)
    (case a2 => k_is)
    (case l2 => k_is)
    (case d2 => k_is)
    (case k2 => k_is)
    (case a3 => k_is)
    (case l3 => k_is)
    (case d3 => k_is)
    (case k3 => k_is)
    (case a4 => k_is)
    (case l4 => k_is)
    (case d4 => k_is)
    (case k4 => k_is)
    (case a5 => k_is)
    (case l5 => k_is)
    (case d5 => k_is)
    (case k5 => k_is)
    (case a6 => k_is)
    (case l6 => k_is)
    (case d6 => k_is)
    (case k6 => k_is)
    (case a7 => k_is)
    (case l7 => k_is)
    (case d7 => k_is)
    (case k7 => k_is)
    (case a8 => k_is)
    (case l8 => k_is)
    (case d8 => k_is)
    (case k8 => k_is)
    (case kx8 => k_is)
    (case ky8 => k_is)
    (case a9 => k_is)
    (case l9 => k_is)
    (case d9 => k_is)
    (case k9 => k_is)
    (case a10 => k_is)
    (case l10 => k_is)
    (case d10 => k_is)
    (case k10 => k_is)
    (case a11 => k_is)
    (case l11 => k_is)
    (case d11 => k_is)
    (case k11 => k_is)
    (case a12 => k_is)
    (case l12 => k_is)
    (case d12 => k_is)
    (case k12 => k_is)
    (case a13 => k_is)
    (case l13 => k_is)
    (case d13 => k_is)
    (case k13 => k_is)
    (case a14 => k_is)
    (case l14 => k_is)
    (case d14 => k_is)
    (case k14 => k_is)
    (case a15 => k_is)
    (case l15 => k_is)
    (case d15 => k_is)
    (case k15 => k_is)
    (case a16 => k_is)
    (case l16 => k_is)
    (case d16 => k_is)
    (case k16 => k_is)
    (case a17 => k_is)
    (case l17 => k_is)
    (case d17 => k_is)
    (case k17 => k_is)
    (case a18 => k_is)
    (case l18 => k_is)
    (case d18 => k_is)
    (case k18 => k_is)
    (case a19 => k_is)
    (case l19 => k_is)
    (case d19 => k_is)
    (case k19 => k_is)
    (case a20 => k_is)
    (case l20 => k_is)
    (case d20 => k_is)
    (case k20 => k_is)
    (case a21 => k_is)
    (case l21 => k_is)
    (case d21 => k_is)
    (case k21 => k_is)
    (case q0 => k_is)
    (case q1 => k_is)
    (case q2 => k_is)
    (case q3 => k_is)
    (case q4 => k_is)
    (case q5 => k_is)
    (case z0 => k_is)
    (case z1 => k_is)
    (case z2 => k_is)
    (case z3 => k_is)
    (case z4 => k_is)
    (case z5 => k_is)
    (case z6 => k_is)
    (case z7 => k_is)
    (case z8 => k_is)
    (case z9 => k_is)
    (case z10 => k_is)
    (case z11 => k_is)
    (case z12 => k_is)
    (case z13 => k_is)
    (case z14 => k_is)
    (case z15 => k_is)
    (case z16 => k_is)
    (case z17 => k_is)
    (case z18 => k_is)
    (case z19 => k_is)

