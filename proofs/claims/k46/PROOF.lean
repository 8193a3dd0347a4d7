import PyProof.Rows.All
import Wide.All
import OpenK.AllK
import Wide.FinOn
import PyProof.EqAt
import PyProof.EqKinds
import PyProof.TupleCall
import HandS.ForMost
import HandS.Exc
import HandS.TryOnly
import HandS.ExcOwn
import HandS.WordsExc
import HandS.Lambda
import HandS.TupAny
import HandS.Style
import HandS.Deep
import HandS.IsInst
import HandS.Iter
import HandS.Text
import HandS.Wide
import PyProof.Rows.FloatCmp
import PyProof.RowDictHeap
import KE.GoesMore
import HandS.TupLen
import HandS.Flow
import HandS.WordsDict
import HandS.ExcSuper
import HandS.ExcInit
import KE.KExcSuper
import KE.KSuper
import HandS.ExcField
import HandS.ExcIs
import HandS.EndTab
import HandS.EndOwn
import PySem.Challenge.RW_answergate_k46_any_values_as_pasts
import PyProof.Rows.StrCase
set_option Elab.async false
set_option linter.all false
set_option maxRecDepth 100000
set_option maxHeartbeats 4000000
/-! L3A: plain values and a small store over the hand layer; what a state means; the judgements. -/
namespace L3
open PySem PySem.Spec PyProof.Rows L2

def mk (l : List Nat) : Str := ⟨l.toArray⟩
theorem mk_inj {a b : List Nat} (h : mk a = mk b) : a = b := by
  unfold mk at h
  injection h with h
  simpa using congrArg Array.toList h
theorem mk_len (l : List Nat) : (mk l).length = l.length := rfl
theorem mk_cps (l : List Nat) : (mk l).cps.toList = l := rfl
theorem mk_of (x : Str) : mk x.cps.toList = x := by cases x; rfl

/-- values: data as trees, rf n the n-th object of the store -/
inductive Val where
  | non | bl (b : Bool) | int (i : Int) | str (l : List Nat)
  | tup (l : List Val) | lst (l : List Val) | dct (ks : List Key) (l : List Val) | rf (n : Nat)
  | ktup (l : List Val) | scr (l : List Int)

/-- objects of the store -/
inductive Ob where
  | lst (l : List Val) | dk (ks : List Key) (l : List Val) | dt (ks : List (List Key)) (l : List Val)
  | ins (c : Str) (ns : List Str) (l : List Val)
  | tab (P : Addr) (q : Str)
abbrev Store := List Ob

/-- outcomes -/
inductive Out where
  | ok (v : Val) (S : Store) | ex (c : Str) (v : Val) (S : Store) | stuck
@[simp] def Out.bind : Out → (Val → Store → Out) → Out
  | .ok v S, k => k v S
  | .ex c v S, _ => .ex c v S
  | .stuck, _ => .stuck

/-- a state: the addresses of the store's objects, the store, the abstract heap, addresses that nobody may touch -/
structure Wd where
  B : List Addr
  S : Store
  H : Hp
  R : List Addr

def Live (W : Wd) (a : Addr) : Prop := a ∈ W.R ∨ a ∈ W.B

def TupK (K : PySem.W.Frag) (a : Addr) (xs : List V) : Prop :=
  ∃ (o : Obj) (its : Array Value) (n : Nat), K.lookup a = some o ∧ o.cls = .type "tuple" ∧ o.data = .seq its n ∧ its.size ≤ sizeLine ∧ Vals xs its.toList
def LstK (K : PySem.W.Frag) (a : Addr) (xs : List V) : Prop :=
  ∃ (o : Obj) (its : Array Value) (n : Nat), K.lookup a = some o ∧ o.cls = .type "list" ∧ o.dict = none ∧ o.data = .seq its n ∧ its.size ≤ sizeLine ∧ Vals xs its.toList
def TupAt (W : Wd) (a : Addr) (xs : List V) : Prop := W.H a = some (.tup xs) ∧ ¬ Live W a
def LstAt (W : Wd) (a : Addr) (xs : List V) : Prop := W.H a = some (.lst xs) ∧ ¬ Live W a
theorem TupAt.sq {K W a xs} (h : TupAt W a xs) : SqT K W.H a xs := .inl (.inl h.1)
theorem LstAt.sq {K W a xs} (h : LstAt W a xs) : SqL K W.H a xs := .inl (.inl h.1)
/-- the script: a list of ints that stands still -/
def ScrAt (K : PySem.W.Frag) (W : Wd) (a : Addr) (ns : List Int) : Prop := (Rd W.H a (.lst (ns.map V.int)) ∧ ¬ Live W a) ∨ LstK K a (ns.map V.int)
theorem ScrAt.sq {K W a ns} (h : ScrAt K W a ns) : SqL K W.H a (ns.map V.int) := by
  rcases h with h | h
  · exact .inl h.1
  · exact .inr h

mutual
inductive VR (K : PySem.W.Frag) (W : Wd) : V → Val → Prop
  | non : VR K W .non .non
  | bl (b : Bool) : VR K W (.bl b) (.bl b)
  | int (i : Int) : VR K W (.int i) (.int i)
  | str (l : List Nat) : VR K W (.str (mk l)) (.str l)
  | tup {a : Addr} {xs : List V} {l : List Val} : TupAt W a xs → VRs K W xs l → VR K W (.ref a) (.tup l)
  | lst {a : Addr} {xs : List V} {l : List Val} : LstAt W a xs → VRs K W xs l → VR K W (.ref a) (.lst l)
  | dct {a : Addr} {kvs : List (Key × V)} {l : List Val} : W.H a = some (.dK kvs) → ¬ Live W a → VRs K W (kvs.map (·.2)) l → VR K W (.ref a) (.dct (kvs.map (·.1)) l)
  | rf {a : Addr} {n : Nat} : W.B[n]? = some a → VR K W (.ref a) (.rf n)
  | ktup {a : Addr} {xs : List V} {l : List Val} : TupK K a xs → VRs K W xs l → VR K W (.ref a) (.ktup l)
  | scr {a : Addr} {ns : List Int} : ScrAt K W a ns → VR K W (.ref a) (.scr ns)
inductive VRs (K : PySem.W.Frag) (W : Wd) : List V → List Val → Prop
  | nil : VRs K W [] []
  | cons {x : V} {xs : List V} {v : Val} {l : List Val} : VR K W x v → VRs K W xs l → VRs K W (x :: xs) (v :: l)
end

/-- from one state to a later one -/
structure Grow (W W' : Wd) : Prop where
  pre : ∀ (n : Nat) a, W.B[n]? = some a → W'.B[n]? = some a
  keep : ∀ b o, W.H b = some o → ¬ Live W b → W'.H b = some o
  res : ∀ b o, b ∈ W.R → W.H b = some o → W'.H b = some o
  live : ∀ b, Live W' b → Live W b ∨ W.H b = none
  trk : ∀ b, W'.H b = none → W.H b = none
  r : ∀ b, b ∈ W.R → b ∈ W'.R
theorem Grow.refl (W : Wd) : Grow W W := ⟨fun _ _ h => h, fun _ _ h _ => h, fun _ _ _ h => h, fun _ h => .inl h, fun _ h => h, fun _ h => h⟩
theorem Grow.trans {W W1 W2 : Wd} (a : Grow W W1) (b : Grow W1 W2) : Grow W W2 where
  pre := fun n c h => b.pre n c (a.pre n c h)
  keep := fun c o h l => b.keep c o (a.keep c o h l) fun z => by
    rcases a.live c z with q | q
    · exact l q
    · rw [h] at q; cases q
  res := fun c o h q => b.res c o (a.r c h) (a.res c o h q)
  live := fun c h => by
    rcases b.live c h with q | q
    · exact a.live c q
    · exact .inr (a.trk c q)
  trk := fun c h => a.trk c (b.trk c h)
  r := fun c h => b.r c (a.r c h)

section
variable {K : PySem.W.Frag} {W W' : Wd}
theorem Grow.rd (g : Grow W W') {a : Addr} {u : HO} (h : Rd W.H a u) (l : ¬ Live W a) : Rd W'.H a u ∧ ¬ Live W' a := by
  rcases h with h | ⟨o, h⟩
  · refine ⟨.inl (g.keep _ _ h l), fun z => ?_⟩
    rcases g.live a z with q | q
    · exact l q
    · rw [h] at q; cases q
  · refine ⟨.inr ⟨o, g.keep _ _ h l⟩, fun z => ?_⟩
    rcases g.live a z with q | q
    · exact l q
    · rw [h] at q; cases q
theorem TupAt.mono {a : Addr} {xs : List V} (h : TupAt W a xs) (g : Grow W W') : TupAt W' a xs := ⟨g.keep _ _ h.1 h.2, (g.rd (.inl h.1) h.2).2⟩
theorem LstAt.mono {a : Addr} {xs : List V} (h : LstAt W a xs) (g : Grow W W') : LstAt W' a xs := ⟨g.keep _ _ h.1 h.2, (g.rd (.inl h.1) h.2).2⟩
theorem ScrAt.mono {a : Addr} {ns : List Int} (h : ScrAt K W a ns) (g : Grow W W') : ScrAt K W' a ns := by
  rcases h with h | h
  · exact .inl (g.rd h.1 h.2)
  · exact .inr h
mutual
theorem VR.mono (g : Grow W W') : ∀ {x : V} {v : Val}, VR K W x v → VR K W' x v
  | _, _, .non => .non
  | _, _, .bl b => .bl b
  | _, _, .int i => .int i
  | _, _, .str l => .str l
  | _, _, .tup h r => .tup (h.mono g) (VRs.mono g r)
  | _, _, .lst h r => .lst (h.mono g) (VRs.mono g r)
  | _, _, .dct h l r => .dct (g.keep _ _ h l) (g.rd (.inl h) l).2 (VRs.mono g r)
  | _, _, .rf h => .rf (g.pre _ _ h)
  | _, _, .ktup h r => .ktup h (VRs.mono g r)
  | _, _, .scr h => .scr (h.mono g)
theorem VRs.mono (g : Grow W W') : ∀ {xs : List V} {l : List Val}, VRs K W xs l → VRs K W' xs l
  | _, _, .nil => .nil
  | _, _, .cons h r => .cons (VR.mono g h) (VRs.mono g r)
end
theorem VRs.length : ∀ {xs : List V} {l : List Val}, VRs K W xs l → xs.length = l.length
  | _, _, .nil => rfl
  | _, _, .cons _ r => by simp [VRs.length r]
theorem VRs.get : ∀ {xs : List V} {l : List Val} {i : Nat} {v : Val}, VRs K W xs l → l[i]? = some v → ∃ x, xs[i]? = some x ∧ VR K W x v
  | _, _, _, _, .nil, h => by simp at h
  | _, _, 0, _, .cons h _, e => by simp at e; subst e; exact ⟨_, rfl, h⟩
  | _, _, i + 1, _, .cons _ r, e => by
    obtain ⟨x, h1, h2⟩ := VRs.get (i := i) r (by simpa using e)
    exact ⟨x, by simpa using h1, h2⟩
theorem VRs.get' : ∀ {xs : List V} {l : List Val} {i : Nat} {x : V}, VRs K W xs l → xs[i]? = some x → ∃ v, l[i]? = some v ∧ VR K W x v
  | _, _, _, _, .nil, h => by simp at h
  | _, _, 0, _, .cons h _, e => by simp at e; subst e; exact ⟨_, rfl, h⟩
  | _, _, i + 1, _, .cons _ r, e => by
    obtain ⟨x, h1, h2⟩ := VRs.get' (i := i) r (by simpa using e)
    exact ⟨x, by simpa using h1, h2⟩
theorem VRs.append : ∀ {xs ys : List V} {l m : List Val}, VRs K W xs l → VRs K W ys m → VRs K W (xs ++ ys) (l ++ m)
  | _, _, _, _, .nil, s => s
  | _, _, _, _, .cons h r, s => .cons h (VRs.append r s)
theorem VRs.take : ∀ {xs : List V} {l : List Val} (n : Nat), VRs K W xs l → VRs K W (xs.take n) (l.take n)
  | _, _, 0, _ => .nil
  | _, _, _ + 1, .nil => .nil
  | _, _, n + 1, .cons h r => .cons h (VRs.take n r)
theorem VRs.drop : ∀ {xs : List V} {l : List Val} (n : Nat), VRs K W xs l → VRs K W (xs.drop n) (l.drop n)
  | _, _, 0, r => r
  | _, _, _ + 1, .nil => .nil
  | _, _, n + 1, .cons _ r => VRs.drop n r
theorem VRs.reverse : ∀ {xs : List V} {l : List Val}, VRs K W xs l → VRs K W xs.reverse l.reverse
  | _, _, .nil => .nil
  | _, _, .cons h r => by
    rw [List.reverse_cons, List.reverse_cons]
    exact (VRs.reverse r).append (.cons h .nil)
theorem VRs.rep {xs : List V} {l : List Val} (h : VRs K W xs l) : ∀ k : Nat, VRs K W (List.replicate k xs).flatten (List.replicate k l).flatten
  | 0 => .nil
  | k + 1 => by
    rw [List.replicate_succ, List.replicate_succ, List.flatten_cons, List.flatten_cons]
    exact h.append (h.rep k)
theorem VRs.set {x : V} {v : Val} (h : VR K W x v) : ∀ {xs : List V} {l : List Val} (i : Nat), VRs K W xs l → VRs K W (xs.set i x) (l.set i v)
  | _, _, _, .nil => .nil
  | _, _, 0, .cons _ r => .cons h r
  | _, _, i + 1, .cons q r => .cons q (VRs.set h i r)
end

/-- what an object of the store means -/
def OR (K : PySem.W.Frag) (mg : Str → Option Value) (W : Wd) (h : Option HO) : Ob → Prop
  | .lst l => ∃ xs, h = some (.lst xs) ∧ VRs K W xs l
  | .dk ks l => ∃ kvs, h = some (.dK kvs) ∧ kvs.map (·.1) = ks ∧ VRs K W (kvs.map (·.2)) l
  | .dt ks l => ∃ kvs, h = some (.dT kvs) ∧ kvs.map (·.1) = ks ∧ VRs K W (kvs.map (·.2)) l
  | .ins c ns l => ∃ C dx fs, mg c = some (.ref C) ∧ h = some (.ins C dx fs) ∧ fs.map (·.1) = ns ∧ VRs K W (fs.map (·.2)) l
  | .tab _ q => ∃ ps : Array Value, h = some (.tbl ps) ∧ TriplesOk ps.toList ∧ ∀ (pos : Pos) (cv : Value), codeAmong pos ps.toList = some cv → ∃ c, cv = .ref c ∧ W.H c = some (LamX.CodeO c q) ∧ ¬ Live W c
theorem OR.mono {K mg} {W W' : Wd} {h : Option HO} {o : Ob} (r : OR K mg W h o) (g : Grow W W') : OR K mg W' h o := by
  cases o with
  | lst l => obtain ⟨xs, e, r⟩ := r; exact ⟨xs, e, r.mono g⟩
  | dk ks l => obtain ⟨kvs, e, e2, r⟩ := r; exact ⟨kvs, e, e2, r.mono g⟩
  | dt ks l => obtain ⟨kvs, e, e2, r⟩ := r; exact ⟨kvs, e, e2, r.mono g⟩
  | ins c ns l => obtain ⟨C, dx, fs, e0, e, e2, r⟩ := r; exact ⟨C, dx, fs, e0, e, e2, r.mono g⟩
  | tab P q =>
    obtain ⟨ps, e, t, r⟩ := r
    refine ⟨ps, e, t, fun pos cv hc => ?_⟩
    obtain ⟨c, e1, e2, l⟩ := r pos cv hc
    exact ⟨c, e1, g.keep _ _ e2 l, (g.rd (.inl e2) l).2⟩
structure SR (K : PySem.W.Frag) (mg : Str → Option Value) (W : Wd) : Prop where
  len : W.B.length = W.S.length
  nd : W.B.Nodup
  nr : ∀ a ∈ W.B, a ∉ W.R
  at_ : ∀ (n : Nat) o, W.S[n]? = some o → ∃ a, W.B[n]? = some a ∧ OR K mg W (W.H a) o
  res : ∀ a ∈ W.R, W.H a ≠ none
  trk : ∀ a ∈ W.B, W.H a ≠ none
  sm : ∃ o u, W.H sysModules = some (.frz o u)
  smB : sysModules ∉ W.B
  smR : sysModules ∉ W.R
  tb : ∀ (n : Nat) P q, W.S[n]? = some (.tab P q) → W.B[n]? = some P
/-- the names' values -/
abbrev Sl := List (Option Val)
structure Rel (K : PySem.W.Frag) (W : Wd) (ρ : Sl) (σ : L2.St) : Prop where
  len : ρ.length = σ.length
  at_ : ∀ (i : Nat) v, ρ[i]? = some (some v) → ∃ x, σ[i]? = some (some x) ∧ VR K W x v
theorem Rel.mono {K} {W W' : Wd} {ρ σ} (r : Rel K W ρ σ) (g : Grow W W') : Rel K W' ρ σ :=
  ⟨r.len, fun i v h => let ⟨x, e, q⟩ := r.at_ i v h; ⟨x, e, q.mono g⟩⟩
theorem Rel.set {K} {W : Wd} {ρ σ} (r : Rel K W ρ σ) (i : Nat) {x : V} {v : Val} (h : VR K W x v) : Rel K W (ρ.set i (some v)) (σ.set i (some x)) := by
  refine ⟨by simp [r.len], fun j u e => ?_⟩
  by_cases hj : i = j
  · subst hj
    by_cases hi : i < ρ.length
    · rw [List.getElem?_set_self hi] at e
      cases e
      refine ⟨x, ?_, h⟩
      rw [List.getElem?_set_self (by rw [← r.len]; exact hi)]
    · rw [List.getElem?_eq_none (by simpa using hi)] at e
      cases e
  · rw [List.getElem?_set_ne hj] at e ⊢
    exact r.at_ j u e

/-- the outcome as a wish -/
def PostE (K : PySem.W.Frag) (mg : Str → Option Value) (E : XK) (W : Wd) (Q : VK) : Out → Prop
  | .ok v S' => ∀ W' x, W'.S = S' → Grow W W' → SR K mg W' → VR K W' x v → Q x W'.H
  | .ex c v S' => ∀ W' x C d, W'.S = S' → Grow W W' → SR K mg W' → VR K W' x v → mg c = some (.ref C) → W'.H d = some (.xd [(("thing" : Str), x)]) → ¬ Live W' d → E (.ref C) (some d) W'.H
  | .stuck => False
theorem PostE.trans {K mg E} {W W1 : Wd} {Q : VK} {r : Out} (h : PostE K mg E W Q r) (g : Grow W W1) : PostE K mg E W1 Q r := by
  cases r with
  | ok v S' => exact fun W' x e g' s r => h W' x e (g.trans g') s r
  | ex c v S' => exact fun W' x C d e g' s r => h W' x C d e (g.trans g') s r
  | stuck => exact h
theorem PostE.imp {K mg E} {W : Wd} {Q Q' : VK} {r : Out} (h : PostE K mg E W Q r) (q : ∀ W' x v, r = .ok v W'.S → Grow W W' → SR K mg W' → VR K W' x v → Q x W'.H → Q' x W'.H) : PostE K mg E W Q' r := by
  cases r with
  | ok v S' => exact fun W' x e g s r => q W' x v (by rw [e]) g s r (h W' x e g s r)
  | ex c v S' => exact h
  | stuck => exact h
/-- in a row -/
theorem PostE.bind {K mg E} {W : Wd} {Q : VK} {r : Out} {k : Val → Store → Out} (h : PostE K mg E W Q (r.bind k)) :
    PostE K mg E W (fun x H1 => ∃ W1 v, W1.H = H1 ∧ Grow W W1 ∧ SR K mg W1 ∧ VR K W1 x v ∧ PostE K mg E W1 Q (k v W1.S)) r := by
  cases r with
  | ok v S' =>
    intro W' x e g s r
    refine ⟨W', v, rfl, g, s, r, ?_⟩
    have h' : PostE K mg E W Q (k v S') := h
    rw [e]
    exact h'.trans g
  | ex c v S' => exact h
  | stuck => exact h

/-- what an expression means: from the names' values and the store to an outcome -/
abbrev Ev := Sl → Store → Out
def tE (X : Cx) (E : XK) (m : Ev) : TE := fun σ H Q => ∃ W ρ, W.H = H ∧ SR X.K X.mg W ∧ Rel X.K W ρ σ ∧ PostE X.K X.mg E W Q (m ρ W.S)
def SE (X : Cx) (E : XK) (e : Expr) (m : Ev) : Prop := PE X e (tE X E m)
theorem PE.imp {X : Cx} {e : Expr} {t t' : TE} (h : PE X e t) (i : ∀ σ H Q, t' σ H Q → t σ H Q) : PE X e t' := ⟨fun pins s σ H Q I q => h.run pins s σ H Q I (i _ _ _ q)⟩
theorem PT.imp {X : Cx} {e : Expr} {t t' : TT} (h : PT X e t) (i : ∀ σ H Q, t' σ H Q → t σ H Q) : PT X e t' := ⟨fun pins s σ H Q I q => h.run pins s σ H Q I (i _ _ _ q)⟩
theorem PS.imp {X : Cx} {e : Stmt} {t t' : TS} (h : PS X e t) (i : ∀ D σ H, t' D σ H → t D σ H) : PS X e t' := ⟨fun pins s σ H D I q => h.run pins s σ H D I (i _ _ _ q)⟩
theorem PSs.imp {X : Cx} {e : List Stmt} {t t' : TS} (h : PSs X e t) (i : ∀ D σ H, t' D σ H → t D σ H) : PSs X e t' := ⟨fun pins s σ H D I q => h.run pins s σ H D I (i _ _ _ q)⟩
theorem PA.imp {X : Cx} {e : List Expr} {t t' : TA} (h : PA X e t) (i : ∀ σ H Q, t' σ H Q → t σ H Q) : PA X e t' := ⟨fun pos pins s σ H Q I q => h.run pos pins s σ H Q I (i _ _ _ q)⟩

/-- outcomes of tests -/
inductive OutB where
  | ok (b : Bool) (S : Store) | ex (c : Str) (v : Val) (S : Store) | stuck
def PostB (K : PySem.W.Frag) (mg : Str → Option Value) (E : XK) (W : Wd) (Q : Bool → Hp → Prop) : OutB → Prop
  | .ok b S' => ∀ W', W'.S = S' → Grow W W' → SR K mg W' → Q b W'.H
  | .ex c v S' => ∀ W' x C d, W'.S = S' → Grow W W' → SR K mg W' → VR K W' x v → mg c = some (.ref C) → W'.H d = some (.xd [(("thing" : Str), x)]) → ¬ Live W' d → E (.ref C) (some d) W'.H
  | .stuck => False
abbrev Tv := Sl → Store → OutB
def tT (X : Cx) (E : XK) (m : Tv) : TT := fun σ H Q => ∃ W ρ, W.H = H ∧ SR X.K X.mg W ∧ Rel X.K W ρ σ ∧ PostB X.K X.mg E W Q (m ρ W.S)
def ST (X : Cx) (E : XK) (e : Expr) (m : Tv) : Prop := PT X e (tT X E m)
theorem PostB.trans {K mg E} {W W1 : Wd} {Q} {r : OutB} (h : PostB K mg E W Q r) (g : Grow W W1) : PostB K mg E W1 Q r := by
  cases r with
  | ok v S' => exact fun W' e g' s => h W' e (g.trans g') s
  | ex c v S' => exact fun W' x C d e g' s r => h W' x C d e (g.trans g') s r
  | stuck => exact h
@[simp] def OutB.bind : OutB → (Bool → Store → OutB) → OutB
  | .ok v S, k => k v S
  | .ex c v S, _ => .ex c v S
  | .stuck, _ => .stuck
@[simp] def OutB.bindE : OutB → (Bool → Store → Out) → Out
  | .ok v S, k => k v S
  | .ex c v S, _ => .ex c v S
  | .stuck, _ => .stuck
@[simp] def Out.bindB : Out → (Val → Store → OutB) → OutB
  | .ok v S, k => k v S
  | .ex c v S, _ => .ex c v S
  | .stuck, _ => .stuck
theorem PostB.bind {K mg E} {W : Wd} {Q} {r : OutB} {k : Bool → Store → OutB} (h : PostB K mg E W Q (r.bind k)) :
    PostB K mg E W (fun b H1 => ∃ W1, W1.H = H1 ∧ Grow W W1 ∧ SR K mg W1 ∧ PostB K mg E W1 Q (k b W1.S)) r := by
  cases r with
  | ok v S' =>
    intro W' e g s
    have h' : PostB K mg E W Q (k v S') := h
    exact ⟨W', rfl, g, s, by rw [e]; exact h'.trans g⟩
  | ex c v S' => exact h
  | stuck => exact h
theorem PostB.bindE {K mg E} {W : Wd} {Q} {r : OutB} {k : Bool → Store → Out} (h : PostE K mg E W Q (r.bindE k)) :
    PostB K mg E W (fun b H1 => ∃ W1, W1.H = H1 ∧ Grow W W1 ∧ SR K mg W1 ∧ PostE K mg E W1 Q (k b W1.S)) r := by
  cases r with
  | ok v S' =>
    intro W' e g s
    have h' : PostE K mg E W Q (k v S') := h
    exact ⟨W', rfl, g, s, by rw [e]; exact h'.trans g⟩
  | ex c v S' => exact h
  | stuck => exact h
theorem PostE.bindB {K mg E} {W : Wd} {Q} {r : Out} {k : Val → Store → OutB} (h : PostB K mg E W Q (r.bindB k)) :
    PostE K mg E W (fun x H1 => ∃ W1 v, W1.H = H1 ∧ Grow W W1 ∧ SR K mg W1 ∧ VR K W1 x v ∧ PostB K mg E W1 Q (k v W1.S)) r := by
  cases r with
  | ok v S' =>
    intro W' x e g s r
    have h' : PostB K mg E W Q (k v S') := h
    exact ⟨W', v, rfl, g, s, r, by rw [e]; exact h'.trans g⟩
  | ex c v S' => exact h
  | stuck => exact h

/-- outcomes of statements -/
inductive OutS where
  | nx (ρ : Sl) (S : Store) | rt (v : Val) (S : Store) | bk (ρ : Sl) (S : Store) | ct (ρ : Sl) (S : Store) | ex (c : Str) (v : Val) (S : Store) | stuck
def PostS (K : PySem.W.Frag) (mg : Str → Option Value) (E : XK) (W : Wd) (D : Ends) : OutS → Prop
  | .nx ρ S' => ∀ W' σ, W'.S = S' → Grow W W' → SR K mg W' → Rel K W' ρ σ → D.nx σ W'.H
  | .rt v S' => ∀ W' x, W'.S = S' → Grow W W' → SR K mg W' → VR K W' x v → D.rt x W'.H
  | .bk ρ S' => ∀ W' σ, W'.S = S' → Grow W W' → SR K mg W' → Rel K W' ρ σ → D.bk σ W'.H
  | .ct ρ S' => ∀ W' σ, W'.S = S' → Grow W W' → SR K mg W' → Rel K W' ρ σ → D.ct σ W'.H
  | .ex c v S' => ∀ W' x C d, W'.S = S' → Grow W W' → SR K mg W' → VR K W' x v → mg c = some (.ref C) → W'.H d = some (.xd [(("thing" : Str), x)]) → ¬ Live W' d → E (.ref C) (some d) W'.H
  | .stuck => False
theorem PostS.trans {K mg E} {W W1 : Wd} {D} {r : OutS} (h : PostS K mg E W D r) (g : Grow W W1) : PostS K mg E W1 D r := by
  cases r with
  | nx ρ S' => exact fun W' x e g' s r => h W' x e (g.trans g') s r
  | rt ρ S' => exact fun W' x e g' s r => h W' x e (g.trans g') s r
  | bk ρ S' => exact fun W' x e g' s r => h W' x e (g.trans g') s r
  | ct ρ S' => exact fun W' x e g' s r => h W' x e (g.trans g') s r
  | ex c v S' => exact fun W' x C d e g' s r => h W' x C d e (g.trans g') s r
  | stuck => exact h
abbrev Sv := Sl → Store → OutS
def tS (X : Cx) (E : XK) (m : Sv) : TS := fun D σ H => ∃ W ρ, W.H = H ∧ SR X.K X.mg W ∧ Rel X.K W ρ σ ∧ PostS X.K X.mg E W D (m ρ W.S)
def SS (X : Cx) (E : XK) (st : Stmt) (m : Sv) : Prop := PS X st (tS X E m)
def SSs (X : Cx) (E : XK) (st : List Stmt) (m : Sv) : Prop := PSs X st (tS X E m)
@[simp] def OutS.bind : OutS → (Sl → Store → OutS) → OutS
  | .nx ρ S, k => k ρ S
  | .rt v S, _ => .rt v S
  | .bk ρ S, _ => .bk ρ S
  | .ct ρ S, _ => .ct ρ S
  | .ex c v S, _ => .ex c v S
  | .stuck, _ => .stuck
@[simp] def Out.bindS : Out → (Val → Store → OutS) → OutS
  | .ok v S, k => k v S
  | .ex c v S, _ => .ex c v S
  | .stuck, _ => .stuck
@[simp] def OutB.bindS : OutB → (Bool → Store → OutS) → OutS
  | .ok v S, k => k v S
  | .ex c v S, _ => .ex c v S
  | .stuck, _ => .stuck
theorem PostE.bindS {K mg E} {W : Wd} {D} {r : Out} {k : Val → Store → OutS} (h : PostS K mg E W D (r.bindS k)) :
    PostE K mg E W (fun x H1 => ∃ W1 v, W1.H = H1 ∧ Grow W W1 ∧ SR K mg W1 ∧ VR K W1 x v ∧ PostS K mg E W1 D (k v W1.S)) r := by
  cases r with
  | ok v S' =>
    intro W' x e g s r
    have h' : PostS K mg E W D (k v S') := h
    exact ⟨W', v, rfl, g, s, r, by rw [e]; exact h'.trans g⟩
  | ex c v S' => exact h
  | stuck => exact h
theorem PostB.bindS {K mg E} {W : Wd} {D} {r : OutB} {k : Bool → Store → OutS} (h : PostS K mg E W D (r.bindS k)) :
    PostB K mg E W (fun b H1 => ∃ W1, W1.H = H1 ∧ Grow W W1 ∧ SR K mg W1 ∧ PostS K mg E W1 D (k b W1.S)) r := by
  cases r with
  | ok v S' =>
    intro W' e g s
    have h' : PostS K mg E W D (k v S') := h
    exact ⟨W', rfl, g, s, by rw [e]; exact h'.trans g⟩
  | ex c v S' => exact h
  | stuck => exact h

/-! ### argument lists -/
inductive OutL where
  | ok (l : List Val) (S : Store) | ex (c : Str) (v : Val) (S : Store) | stuck
@[simp] def OutL.bind : OutL → (List Val → Store → Out) → Out
  | .ok v S, k => k v S
  | .ex c v S, _ => .ex c v S
  | .stuck, _ => .stuck
@[simp] def Out.bindL : Out → (Val → Store → OutL) → OutL
  | .ok v S, k => k v S
  | .ex c v S, _ => .ex c v S
  | .stuck, _ => .stuck
@[simp] def OutL.bindL : OutL → (List Val → Store → OutL) → OutL
  | .ok v S, k => k v S
  | .ex c v S, _ => .ex c v S
  | .stuck, _ => .stuck
@[simp] def mArgs : List Ev → Sl → Store → OutL
  | [], _, S => .ok [] S
  | m :: ms, ρ, S => (m ρ S).bindL fun v S => (mArgs ms ρ S).bindL fun l S => .ok (v :: l) S
theorem mArgs_len {ρ : Sl} {l : List Val} {S' : Store} : ∀ {ms : List Ev} {S : Store}, mArgs ms ρ S = .ok l S' → l.length = ms.length := by
  intro ms
  induction ms generalizing l with
  | nil => intro S h; simp only [mArgs] at h; cases h; rfl
  | cons m ms ih =>
    intro S h
    simp only [mArgs] at h
    cases e : m ρ S with
    | ok v S1 =>
      rw [e] at h
      simp only [Out.bindL] at h
      cases e2 : mArgs ms ρ S1 with
      | ok l2 S2 =>
        rw [e2] at h
        simp only [OutL.bindL] at h
        cases h
        simp [ih e2]
      | ex c v S => rw [e2] at h; simp at h
      | stuck => rw [e2] at h; simp at h
    | ex c v S => rw [e] at h; simp at h
    | stuck => rw [e] at h; simp at h
def PostL (K : PySem.W.Frag) (mg : Str → Option Value) (E : XK) (W : Wd) (Q : List V → Hp → Prop) : OutL → Prop
  | .ok l S' => ∀ W' xs, W'.S = S' → Grow W W' → SR K mg W' → VRs K W' xs l → Q xs W'.H
  | .ex c v S' => ∀ W' x C d, W'.S = S' → Grow W W' → SR K mg W' → VR K W' x v → mg c = some (.ref C) → W'.H d = some (.xd [(("thing" : Str), x)]) → ¬ Live W' d → E (.ref C) (some d) W'.H
  | .stuck => False
theorem PostL.trans {K mg E} {W W1 : Wd} {Q} {r : OutL} (h : PostL K mg E W Q r) (g : Grow W W1) : PostL K mg E W1 Q r := by
  cases r with
  | ok v S' => exact fun W' x e g' s r => h W' x e (g.trans g') s r
  | ex c v S' => exact fun W' x C d e g' s r => h W' x C d e (g.trans g') s r
  | stuck => exact h
theorem PostL.bind {K mg E} {W : Wd} {Q} {r : OutL} {k : List Val → Store → Out} (h : PostE K mg E W Q (r.bind k)) :
    PostL K mg E W (fun xs H1 => ∃ W1 l, W1.H = H1 ∧ r = .ok l W1.S ∧ Grow W W1 ∧ SR K mg W1 ∧ VRs K W1 xs l ∧ PostE K mg E W1 Q (k l W1.S)) r := by
  cases r with
  | ok v S' =>
    intro W' x e g s r
    have h' : PostE K mg E W Q (k v S') := h
    exact ⟨W', v, rfl, by rw [e], g, s, r, by rw [e]; exact h'.trans g⟩
  | ex c v S' => exact h
  | stuck => exact h
theorem PostE.bindL {K mg E} {W : Wd} {Q} {r : Out} {k : Val → Store → OutL} (h : PostL K mg E W Q (r.bindL k)) :
    PostE K mg E W (fun x H1 => ∃ W1 v, W1.H = H1 ∧ Grow W W1 ∧ SR K mg W1 ∧ VR K W1 x v ∧ PostL K mg E W1 Q (k v W1.S)) r := by
  cases r with
  | ok v S' =>
    intro W' x e g s r
    have h' : PostL K mg E W Q (k v S') := h
    exact ⟨W', v, rfl, g, s, r, by rw [e]; exact h'.trans g⟩
  | ex c v S' => exact h
  | stuck => exact h
theorem PostL.bindL {K mg E} {W : Wd} {Q} {r : OutL} {k : List Val → Store → OutL} (h : PostL K mg E W Q (r.bindL k)) :
    PostL K mg E W (fun xs H1 => ∃ W1 l, W1.H = H1 ∧ Grow W W1 ∧ SR K mg W1 ∧ VRs K W1 xs l ∧ PostL K mg E W1 Q (k l W1.S)) r := by
  cases r with
  | ok v S' =>
    intro W' x e g s r
    have h' : PostL K mg E W Q (k v S') := h
    exact ⟨W', v, rfl, g, s, r, by rw [e]; exact h'.trans g⟩
  | ex c v S' => exact h
  | stuck => exact h
def tA (X : Cx) (E : XK) (ms : List Ev) : TA := fun σ H Q => ∃ W ρ, W.H = H ∧ SR X.K X.mg W ∧ Rel X.K W ρ σ ∧ PostL X.K X.mg E W Q (mArgs ms ρ W.S)
def SA (X : Cx) (E : XK) (es : List Expr) (ms : List Ev) : Prop := PA X es (tA X E ms)
end L3
/-! L3B: expressions: names, constants, displays, operators, tests. -/
namespace L3
open PySem PySem.Spec PyProof.Rows L2

/-! ### new objects -/
def Wd.put (W : Wd) (p : Addr) (o : HO) : Wd := { W with H := upd W.H p o }
theorem live_put {W : Wd} {p o a} : Live (W.put p o) a ↔ Live W a := Iff.rfl
theorem Grow.new {W : Wd} {p : Addr} (o : HO) (h : W.H p = none) : Grow W (W.put p o) where
  pre := fun _ _ h => h
  keep := fun b u e _ => by show upd W.H p o b = some u; rw [upd_ne (ne_of_none e h)]; exact e
  res := fun b u _ e => by show upd W.H p o b = some u; rw [upd_ne (ne_of_none e h)]; exact e
  live := fun b h => .inl h
  trk := fun b e => by
    by_cases hb : b = p
    · subst hb; exact h
    · have e' : upd W.H p o b = none := e
      rw [upd_ne hb] at e'; exact e'
  r := fun _ h => h
section
variable {K : PySem.W.Frag} {mg : Str → Option Value} {W : Wd} {p : Addr}
theorem SR.notLive (s : SR K mg W) (h : W.H p = none) : ¬ Live W p := by
  rintro (z | z)
  · exact s.res p z h
  · exact s.trk p z h
theorem SR.new (s : SR K mg W) (o : HO) (h : W.H p = none) : SR K mg (W.put p o) where
  len := s.len
  nd := s.nd
  nr := s.nr
  at_ := fun n u e => by
    obtain ⟨a, e1, r⟩ := s.at_ n u e
    have hp : a ≠ p := fun z => by
      subst z
      exact s.trk a (List.mem_of_getElem? e1) h
    refine ⟨a, e1, ?_⟩
    show OR K mg (W.put p o) (upd W.H p o a) u
    rw [upd_ne hp]
    exact r.mono (Grow.new o h)
  res := fun a ha => by
    have : a ≠ p := fun z => by subst z; exact s.res a ha h
    show upd W.H p o a ≠ none
    rw [upd_ne this]; exact s.res a ha
  trk := fun a ha => by
    have : a ≠ p := fun z => by subst z; exact s.trk a ha h
    show upd W.H p o a ≠ none
    rw [upd_ne this]; exact s.trk a ha
  sm := by
    obtain ⟨o1, u1, e⟩ := s.sm
    exact ⟨o1, u1, by show upd W.H p o _ = _; rw [upd_ne (ne_of_none e h)]; exact e⟩
  smB := s.smB
  smR := s.smR
  tb := s.tb
theorem TupAt.new (s : SR K mg W) {xs : List V} (h : W.H p = none) : TupAt (W.put p (.tup xs)) p xs := ⟨upd_same, fun z => s.notLive h z⟩
theorem LstAt.new (s : SR K mg W) {xs : List V} (h : W.H p = none) : LstAt (W.put p (.lst xs)) p xs := ⟨upd_same, fun z => s.notLive h z⟩
/-- an outcome that makes a new tuple, list -/
theorem PostE.tup {E : XK} {Q : VK} {xs : List V} {l : List Val} (s : SR K mg W) (r : VRs K W xs l) (h : PostE K mg E W Q (.ok (.tup l) W.S)) : ∀ p, W.H p = none → Q (.ref p) (upd W.H p (.tup xs)) := fun p hp =>
  h (W.put p (.tup xs)) (.ref p) rfl (Grow.new _ hp) (s.new _ hp) (.tup (.new s hp) (r.mono (Grow.new _ hp)))
theorem PostE.lst {E : XK} {Q : VK} {xs : List V} {l : List Val} (s : SR K mg W) (r : VRs K W xs l) (h : PostE K mg E W Q (.ok (.lst l) W.S)) : ∀ p, W.H p = none → Q (.ref p) (upd W.H p (.lst xs)) := fun p hp =>
  h (W.put p (.lst xs)) (.ref p) rfl (Grow.new _ hp) (s.new _ hp) (.lst (.new s hp) (r.mono (Grow.new _ hp)))
theorem PostE.val {E : XK} {Q : VK} {x : V} {v : Val} (s : SR K mg W) (r : VR K W x v) (h : PostE K mg E W Q (.ok v W.S)) : Q x W.H := h W x rfl (Grow.refl W) s r
end

section
variable {X : Cx} {E : XK}

/-! ### names, constants -/
@[simp] def mVar (i : Nat) : Ev := fun ρ S => match ρ[i]? with
  | some (some v) => .ok v S
  | _ => .stuck
theorem se_var {i : Nat} {e : Expr} (h : PE X e (tVar i)) : SE X E e (mVar i) := by
  refine PE.imp h fun σ H Q h => ?_
  obtain ⟨W, ρ, rfl, s, r, h⟩ := h
  simp only [mVar] at h
  split at h
  · rename_i v hv
    obtain ⟨x, e, q⟩ := r.at_ i v hv
    exact ⟨x, e, PostE.val s q h⟩
  · exact h.elim
@[simp] def mC (v : Val) : Ev := fun _ S => .ok v S
theorem se_c {e : Expr} {x : V} {v : Val} (h : PE X e (tC x)) (r : ∀ W, VR X.K W x v) : SE X E e (mC v) := by
  refine PE.imp h fun σ H Q h => ?_
  obtain ⟨W, ρ, rfl, s, _, h⟩ := h
  exact PostE.val s (r W) h
theorem se_int {i : Int} {j pos} : SE X E (.Constant (.int i) j pos) (mC (.int i)) := se_c pe_int fun _ => .int i
theorem se_bl {b j pos} : SE X E (.Constant (.bool b) j pos) (mC (.bl b)) := se_c pe_bl fun _ => .bl b
theorem se_non {j pos} : SE X E (.Constant .none j pos) (mC .non) := se_c pe_non fun _ => .non
theorem se_str {x : Str} {l : List Nat} {j pos} (h : x = mk l) : SE X E (.Constant (.str x) j pos) (mC (.str l)) := by
  subst h
  exact se_c pe_str fun _ => .str l
/-- a constant of the module -/
def GC (K : PySem.W.Frag) (mg : Str → Option Value) (x : Str) (v : Val) : Prop := ∃ (y : V) (u : Value), mg x = some u ∧ RelV y u ∧ ∀ W, VR K W y v
theorem se_glob {x : Str} {v : Val} {pos : Pos} (hg : Gl X x) (g : GC X.K X.mg x v) (hd : (x == ("__debug__" : Str)) = false := by decide) : SE X E (.Name x pos) (mC v) := by
  obtain ⟨y, u, e, r, q⟩ := g
  exact se_c (pe_glob hg e r hd) q

/-! ### argument lists, displays -/
theorem sa_nil : SA X E [] [] := by
  refine PA.imp pa_nil fun σ H Q h => ?_
  obtain ⟨W, ρ, rfl, s, _, h⟩ := h
  exact h W [] rfl (Grow.refl W) s .nil
theorem sa_cons {e : Expr} {es : List Expr} {m : Ev} {ms : List Ev} (he : SE X E e m) (hr : SA X E es ms) (hs : starEach (e :: es) X.env = (false, eval e X.env) :: starEach es X.env := by rfl) : SA X E (e :: es) (m :: ms) := by
  refine PA.imp (pa_cons he hr hs) fun σ H Q h => ?_
  obtain ⟨W, ρ, rfl, s, r, h⟩ := h
  refine ⟨W, ρ, rfl, s, r, ?_⟩
  refine PostE.imp (PostE.bindL (show PostL _ _ _ _ _ ((m ρ W.S).bindL _) from h)) fun W1 x v _ g s1 rv q => ?_
  obtain ⟨W1', v', e1, g1, s1', r1, q⟩ := q
  refine ⟨W1', ρ, e1, s1', r.mono g1, ?_⟩
  have q' := PostL.bindL (show PostL _ _ _ _ _ ((mArgs ms ρ W1'.S).bindL _) from q)
  revert q'
  cases hm : mArgs ms ρ W1'.S with
  | ok l S2 =>
    intro q' W2 xs e2 g2 s2 rx
    obtain ⟨W3, l3, e3, g3, s3, rx3, q3⟩ := q' W2 xs e2 g2 s2 rx
    have := q3 W3 (x :: xs) rfl (Grow.refl _) s3 (.cons (r1.mono g3) rx3)
    rw [e3] at this
    exact this
  | ex c v S2 => exact fun q' => q'
  | stuck => exact fun q' => q'
def fit (n : Nat) : Bool := decide (n ≤ 16777216)
theorem fit_line {n : Nat} (h : fit n = true) : n ≤ sizeLine := by rw [sizeLine_eq]; exact of_decide_eq_true h
@[simp] def mTup (ms : List Ev) : Ev := fun ρ S => (mArgs ms ρ S).bind fun l S => .ok (.tup l) S
@[simp] def mLst (ms : List Ev) : Ev := fun ρ S => (mArgs ms ρ S).bind fun l S => .ok (.lst l) S
theorem imp_l {K mg} {W : Wd} {Q Q' : List V → Hp → Prop} {r : OutL} (h : PostL K mg E W Q r) (q : ∀ xs H, Q xs H → Q' xs H) : PostL K mg E W Q' r := by
  cases r with
  | ok l S' => exact fun W' xs e g s r => q _ _ (h W' xs e g s r)
  | ex c v S' => exact h
  | stuck => exact h
theorem se_tup {es : List Expr} {ms : List Ev} {k : Nat} {pos : Pos} (h : SA X E es ms) (hl : ms.length ≤ 1000 := by decide) : SE X E (.Tuple es k pos) (mTup ms) := by
  refine PE.imp (pe_tup h) fun σ H Q h => ?_
  obtain ⟨W, ρ, rfl, s, r, h⟩ := h
  refine ⟨W, ρ, rfl, s, r, imp_l (PostL.bind (show PostE _ _ _ _ _ ((mArgs ms ρ W.S).bind _) from h)) fun xs H1 q => ?_⟩
  obtain ⟨W1, l, rfl, e, g, s1, rx, q⟩ := q
  refine ⟨?_, PostE.tup s1 rx q⟩
  rw [rx.length, mArgs_len e, sizeLine_eq]
  omega
theorem se_lst {es : List Expr} {ms : List Ev} {pos : Pos} (h : SA X E es ms) (hl : ms.length ≤ 1000 := by decide) : SE X E (.List es pos) (mLst ms) := by
  refine PE.imp (pe_lst h) fun σ H Q h => ?_
  obtain ⟨W, ρ, rfl, s, r, h⟩ := h
  refine ⟨W, ρ, rfl, s, r, imp_l (PostL.bind (show PostE _ _ _ _ _ ((mArgs ms ρ W.S).bind _) from h)) fun xs H1 q => ?_⟩
  obtain ⟨W1, l, rfl, e, g, s1, rx, q⟩ := q
  refine ⟨?_, PostE.lst s1 rx q⟩
  rw [rx.length, mArgs_len e, sizeLine_eq]
  omega

/-! ### operators by values -/
abbrev G2 := Val → Val → Store → Out
def rV2 (X : Cx) (E : XK) (g : G2) : R2 := fun x y H Q => ∃ W a b, W.H = H ∧ SR X.K X.mg W ∧ VR X.K W x a ∧ VR X.K W y b ∧ PostE X.K X.mg E W Q (g a b W.S)
def OpS (X : Cx) (E : XK) (f : Value → Value → Sem Value) (g : G2) : Prop := OpR X f (rV2 X E g)
theorem OpR.imp {f : Value → Value → Sem Value} {r r' : R2} (h : OpR X f r) (i : ∀ x y H Q, r' x y H Q → r x y H Q) : OpR X f r' := fun pins s σ H x y v u Q I rx ry q => h pins s σ H x y v u Q I rx ry (i _ _ _ _ q)
@[simp] def mBin (g : G2) (ma mb : Ev) : Ev := fun ρ S => (ma ρ S).bind fun a S => (mb ρ S).bind fun b S => g a b S
theorem bin_imp {g : G2} {ma mb : Ev} {σ H Q} (h : tE X E (mBin g ma mb) σ H Q) : tOp (rV2 X E g) (tE X E ma) (tE X E mb) σ H Q := by
  obtain ⟨W, ρ, rfl, s, r, h⟩ := h
  refine ⟨W, ρ, rfl, s, r, PostE.imp (PostE.bind (show PostE _ _ _ _ _ ((ma ρ W.S).bind _) from h)) fun _ x _ _ _ _ _ q => ?_⟩
  obtain ⟨W1, a, e1, g1, s1, r1, q⟩ := q
  refine ⟨W1, ρ, e1, s1, r.mono g1, PostE.imp (PostE.bind (show PostE _ _ _ _ _ ((mb ρ W1.S).bind _) from q)) fun _ y _ _ _ _ _ q => ?_⟩
  obtain ⟨W2, b, e2, g2, s2, r2, q⟩ := q
  exact ⟨W2, a, b, e2, s2, r1.mono g2, r2, q⟩
theorem se_bin {op : Operator} {g : G2} {a b : Expr} {ma mb : Ev} {pos : Pos} (ho : OpS X E (binaryOp op) g) (ha : SE X E a ma) (hb : SE X E b mb) : SE X E (.BinOp a op b pos) (mBin g ma mb) :=
  PE.imp (pe_op ho ha hb) fun _ _ _ h => bin_imp h
theorem se_cmp {op : CmpOp} {g : G2} {a b : Expr} {ma mb : Ev} {pos : Pos} (ho : OpS X E (compareOp op) g) (ha : SE X E a ma) (hb : SE X E b mb) (hm : behindInMarks op b = false) : SE X E (.Compare a [op] [b] pos) (mBin g ma mb) :=
  PE.imp (pe_cmpR ho ha hb hm) fun _ _ _ h => bin_imp h
/-! ### tests -/
def asB : Val → Store → OutB
  | .bl b, S => .ok b S
  | _, _ => .stuck
@[simp] def asB_bl (b : Bool) (S : Store) : asB (.bl b) S = .ok b S := rfl
@[simp] def mB (m : Ev) : Tv := fun ρ S => (m ρ S).bindB asB
theorem asB_post {K mg} {W : Wd} {Q} {x : V} {v : Val} (s : SR K mg W) (r : VR K W x v) (h : PostB K mg E W Q (asB v W.S)) : ∃ k, x = .bl k ∧ Q k W.H := by
  cases r with
  | bl b => exact ⟨b, rfl, h W rfl (Grow.refl W) s⟩
  | _ => exact h.elim
theorem mB_imp {m : Ev} {σ H Q} (h : tT X E (mB m) σ H Q) : tE X E m σ H fun x H' => ∃ k, x = .bl k ∧ Q k H' := by
  obtain ⟨W, ρ, rfl, s, r, h⟩ := h
  refine ⟨W, ρ, rfl, s, r, PostE.imp (PostE.bindB (show PostB _ _ _ _ _ ((m ρ W.S).bindB _) from h)) fun _ x _ _ _ _ _ q => ?_⟩
  obtain ⟨W1, v, e1, g1, s1, r1, q⟩ := q
  rw [← e1]
  exact asB_post s1 r1 q
theorem st_cmp {op : CmpOp} {g : G2} {a b : Expr} {ma mb : Ev} {pos : Pos} (ho : OpS X E (compareOp op) g) (ha : SE X E a ma) (hb : SE X E b mb) (hm : behindInMarks op b = false) : ST X E (.Compare a [op] [b] pos) (mB (mBin g ma mb)) :=
  PT.imp (pt_cmpR ho ha hb hm) fun σ H Q h => by
    obtain ⟨W, ρ, e, s, r, h⟩ := mB_imp h
    exact bin_imp ⟨W, ρ, e, s, r, h⟩
/-- an expression that gives True or False, as a test -/
theorem st_val {e : Expr} {m : Ev} (h : SE X E e m) (he : ∀ whole, isTrue e X.env whole = (do let v ← whole; standAt e.pos; holding [v] (truthy v)) := by intro _; rfl) : ST X E e (mB m) :=
  PT.imp (pt_val h he) fun σ H Q h => mB_imp h
@[simp] def tNot (m : Tv) : Tv := fun ρ S => (m ρ S).bind fun b S => .ok (!b) S
theorem imp_b {K mg} {W : Wd} {Q Q' : Bool → Hp → Prop} {r : OutB} (h : PostB K mg E W Q r) (q : ∀ xs H, Q xs H → Q' xs H) : PostB K mg E W Q' r := by
  cases r with
  | ok l S' => exact fun W' e g s => q _ _ (h W' e g s)
  | ex c v S' => exact h
  | stuck => exact h
theorem imp_e {K mg} {W : Wd} {Q Q' : VK} {r : Out} (h : PostE K mg E W Q r) (q : ∀ xs H, Q xs H → Q' xs H) : PostE K mg E W Q' r := PostE.imp h fun W' x v _ _ _ _ z => q _ _ z
theorem st_not {a : Expr} {m : Tv} {pos : Pos} (h : ST X E a m) : ST X E (.UnaryOp .Not a pos) (L3.tNot m) :=
  PT.imp (pt_not h) fun σ H Q h => by
    obtain ⟨W, ρ, rfl, s, r, h⟩ := h
    refine ⟨W, ρ, rfl, s, r, imp_b (PostB.bind (show PostB _ _ _ _ _ ((m ρ W.S).bind _) from h)) fun b H1 q => ?_⟩
    obtain ⟨W1, e1, g1, s1, q⟩ := q
    rw [← e1]
    exact q W1 rfl (Grow.refl W1) s1
def SW (X : Cx) (E : XK) (e : Expr) (m : Tv) : Prop := PW X e (tT X E m)
theorem PW.imp {e : Expr} {t t' : TT} (h : PW X e t) (i : ∀ σ H Q, t' σ H Q → t σ H Q) : PW X e t' := ⟨fun wh pins s σ H Q I q => h.run wh pins s σ H Q I (i _ _ _ q)⟩
@[simp] def tAnd (a b : Tv) : Tv := fun ρ S => (a ρ S).bind fun k S => if k then b ρ S else .ok false S
@[simp] def tOr (a b : Tv) : Tv := fun ρ S => (a ρ S).bind fun k S => if k then .ok true S else b ρ S
theorem sw_and1 {a : Expr} {m : Tv} {pos : Pos} (h : ST X E a m) : SW X E (.BoolOp .And [a] pos) m := pw_and1 h
theorem sw_or1 {a : Expr} {m : Tv} {pos : Pos} (h : ST X E a m) : SW X E (.BoolOp .Or [a] pos) m := pw_or1 h
theorem sw_and {a b : Expr} {rest : List Expr} {ma mb : Tv} {pos : Pos} (ha : ST X E a ma) (hb : SW X E (.BoolOp .And (b :: rest) pos) mb) : SW X E (.BoolOp .And (a :: b :: rest) pos) (L3.tAnd ma mb) :=
  PW.imp (pw_and ha hb) fun σ H Q h => by
    obtain ⟨W, ρ, rfl, s, r, h⟩ := h
    refine ⟨W, ρ, rfl, s, r, imp_b (PostB.bind (show PostB _ _ _ _ _ ((ma ρ W.S).bind _) from h)) fun b H1 q => ?_⟩
    obtain ⟨W1, rfl, g1, s1, q⟩ := q
    cases b with
    | true => exact ⟨W1, ρ, rfl, s1, r.mono g1, q⟩
    | false => exact q W1 rfl (Grow.refl W1) s1
theorem sw_or {a b : Expr} {rest : List Expr} {ma mb : Tv} {pos : Pos} (ha : ST X E a ma) (hb : SW X E (.BoolOp .Or (b :: rest) pos) mb) : SW X E (.BoolOp .Or (a :: b :: rest) pos) (L3.tOr ma mb) :=
  PW.imp (pw_or ha hb) fun σ H Q h => by
    obtain ⟨W, ρ, rfl, s, r, h⟩ := h
    refine ⟨W, ρ, rfl, s, r, imp_b (PostB.bind (show PostB _ _ _ _ _ ((ma ρ W.S).bind _) from h)) fun b H1 q => ?_⟩
    obtain ⟨W1, rfl, g1, s1, q⟩ := q
    cases b with
    | false => exact ⟨W1, ρ, rfl, s1, r.mono g1, q⟩
    | true => exact q W1 rfl (Grow.refl W1) s1
theorem st_w {e : Expr} {m : Tv} (h : SW X E e m) : ST X E e m := h.pt
/-- a and b, a or b, not a as values (of True and False) -/
@[simp] def mAnd (a b : Ev) : Ev := fun ρ S => (a ρ S).bind fun v S => match v with
  | .bl true => b ρ S
  | .bl false => .ok (.bl false) S
  | _ => .stuck
@[simp] def mOr (a b : Ev) : Ev := fun ρ S => (a ρ S).bind fun v S => match v with
  | .bl true => .ok (.bl true) S
  | .bl false => b ρ S
  | _ => .stuck
@[simp] def mNot (a : Ev) : Ev := fun ρ S => (a ρ S).bind fun v S => match v with
  | .bl b => .ok (.bl !b) S
  | _ => .stuck
theorem se_one {op} {a : Expr} {m : Ev} {pos : Pos} (h : SE X E a m) : SE X E (.BoolOp op [a] pos) m := pe_one h
theorem se_and {a b : Expr} {rest : List Expr} {ma mb : Ev} {pos : Pos} (ha : SE X E a ma) (hb : SE X E (.BoolOp .And (b :: rest) pos) mb) : SE X E (.BoolOp .And (a :: b :: rest) pos) (mAnd ma mb) :=
  PE.imp (pe_and ha hb) fun σ H Q h => by
    obtain ⟨W, ρ, rfl, s, r, h⟩ := h
    refine ⟨W, ρ, rfl, s, r, imp_e (PostE.bind (show PostE _ _ _ _ _ ((ma ρ W.S).bind _) from h)) fun x H1 q => ?_⟩
    obtain ⟨W1, v, rfl, g1, s1, r1, q⟩ := q
    cases r1 with
    | bl b =>
      refine ⟨b, rfl, ?_⟩
      cases b with
      | true => exact ⟨W1, ρ, rfl, s1, r.mono g1, q⟩
      | false => exact PostE.val s1 (.bl false) q
    | _ => exact q.elim
theorem se_or {a b : Expr} {rest : List Expr} {ma mb : Ev} {pos : Pos} (ha : SE X E a ma) (hb : SE X E (.BoolOp .Or (b :: rest) pos) mb) : SE X E (.BoolOp .Or (a :: b :: rest) pos) (mOr ma mb) :=
  PE.imp (pe_or ha hb) fun σ H Q h => by
    obtain ⟨W, ρ, rfl, s, r, h⟩ := h
    refine ⟨W, ρ, rfl, s, r, imp_e (PostE.bind (show PostE _ _ _ _ _ ((ma ρ W.S).bind _) from h)) fun x H1 q => ?_⟩
    obtain ⟨W1, v, rfl, g1, s1, r1, q⟩ := q
    cases r1 with
    | bl b =>
      refine ⟨b, rfl, ?_⟩
      cases b with
      | false => exact ⟨W1, ρ, rfl, s1, r.mono g1, q⟩
      | true => exact PostE.val s1 (.bl true) q
    | _ => exact q.elim
theorem se_not {a : Expr} {ma : Ev} {pos : Pos} (ha : SE X E a ma) : SE X E (.UnaryOp .Not a pos) (mNot ma) :=
  PE.imp (pe_not ha) fun σ H Q h => by
    obtain ⟨W, ρ, rfl, s, r, h⟩ := h
    refine ⟨W, ρ, rfl, s, r, imp_e (PostE.bind (show PostE _ _ _ _ _ ((ma ρ W.S).bind _) from h)) fun x H1 q => ?_⟩
    obtain ⟨W1, v, rfl, g1, s1, r1, q⟩ := q
    cases r1 with
    | bl b => exact ⟨b, rfl, PostE.val s1 (.bl _) q⟩
    | _ => exact q.elim
@[simp] def mIf (c : Tv) (a b : Ev) : Ev := fun ρ S => (c ρ S).bindE fun k S => if k then a ρ S else b ρ S
theorem se_if {c a b : Expr} {mc : Tv} {ma mb : Ev} {pos : Pos} (hc : ST X E c mc) (ha : SE X E a ma) (hb : SE X E b mb) : SE X E (.IfExp c a b pos) (mIf mc ma mb) :=
  PE.imp (pe_ifExp hc ha hb) fun σ H Q h => by
    obtain ⟨W, ρ, rfl, s, r, h⟩ := h
    refine ⟨W, ρ, rfl, s, r, imp_b (PostB.bindE (show PostE _ _ _ _ _ ((mc ρ W.S).bindE _) from h)) fun b H1 q => ?_⟩
    obtain ⟨W1, rfl, g1, s1, q⟩ := q
    cases b with
    | true => exact ⟨W1, ρ, rfl, s1, r.mono g1, q⟩
    | false => exact ⟨W1, ρ, rfl, s1, r.mono g1, q⟩
end
end L3
/-! L3C: the operators by values. -/
namespace L3
open PySem PySem.Spec PyProof.Rows L2

section
variable {X : Cx} {E : XK}
theorem mk_app (a b : List Nat) : mk a ++ mk b = mk (a ++ b) := by
  show (⟨(a.toArray ++ b.toArray)⟩ : Str) = ⟨(a ++ b).toArray⟩
  congr 1
  simp

/-! ### + -/
def b2n (b : Bool) : Int := if b = true then 1 else 0
theorem op_add_bi : OpR X (binaryOp .Add) (fun x y H Q => ∃ k i, x = .bl k ∧ y = .int i ∧ Q (.int (b2n k + i)) H) := by
  intro pins s σ H x y v u Q I rx ry h
  obtain ⟨k, i, rfl, rfl, q⟩ := h
  cases rx
  obtain ⟨t, rfl⟩ := ry
  exact PySem.IntBool.add_bool_int ⟨.int _, H, I.tok _, ⟨_, rfl⟩, q⟩
theorem op_sub_bi : OpR X (binaryOp .Sub) (fun x y H Q => ∃ k i, x = .bl k ∧ y = .int i ∧ Q (.int (b2n k - i)) H) := by
  intro pins s σ H x y v u Q I rx ry h
  obtain ⟨k, i, rfl, rfl, q⟩ := h
  cases rx
  obtain ⟨t, rfl⟩ := ry
  exact PySem.IntBool.sub_bool_int ⟨.int _, H, I.tok _, ⟨_, rfl⟩, q⟩
def gAdd : G2 := fun a b S => match a, b with
  | .int i, .int j => .ok (.int (i + j)) S
  | .bl k, .int j => .ok (.int (b2n k + j)) S
  | .str x, .str y => if fit (x.length + y.length) then .ok (.str (x ++ y)) S else .stuck
  | .tup x, .tup y => if fit (x.length + y.length) then .ok (.tup (x ++ y)) S else .stuck
  | .lst x, .lst y => if fit (x.length + y.length) then .ok (.lst (x ++ y)) S else .stuck
  | _, _ => .stuck
theorem ops_add : OpS X E (binaryOp .Add) gAdd := by
  refine OpR.imp (((op_add (X := X)).or op_add_bi).or (((op_add_str (X := X)).or op_catA).or op_cat)) fun x y H Q h => ?_
  obtain ⟨W, a, b, rfl, s, ra, rb, h⟩ := h
  cases ra <;> cases rb <;> simp only [gAdd] at h <;> first
    | exact h.elim
    | exact .inl (.inl ⟨_, _, rfl, rfl, PostE.val s (.int _) h⟩)
    | exact .inl (.inr ⟨_, _, rfl, rfl, PostE.val s (.int _) h⟩)
    | skip
  · split at h
    · rename_i l m hf
      refine .inr (.inl (.inl ⟨_, _, rfl, rfl, by simpa [mk_len] using fit_line hf, ?_⟩))
      rw [mk_app]
      exact PostE.val s (.str _) h
    · exact h.elim
  · rename_i p xs l t r p' xs' l' t' r'
    split at h
    · rename_i hf
      refine .inr (.inl (.inr ⟨p, p', xs, xs', rfl, rfl, t.sq, t'.sq, by rw [r.length, r'.length]; exact fit_line hf, ?_, ?_, ?_⟩))
      · rintro rfl
        cases r
        exact PostE.val s (.tup t' r') h
      · rintro _ rfl
        cases r'
        rw [List.append_nil] at h
        exact PostE.val s (.tup t r) h
      · intro _ _
        exact PostE.tup s (r.append r') h
    · exact h.elim
  · rename_i p xs l t r p' xs' l' t' r'
    split at h
    · rename_i hf
      exact .inr (.inr ⟨p, p', xs, xs', rfl, rfl, t.1, t'.1, by rw [r.length, r'.length]; exact fit_line hf, PostE.lst s (r.append r') h⟩)
    · exact h.elim

/-! ### - * // % ** -/
def gSub : G2 := fun a b S => match a, b with
  | .int i, .int j => .ok (.int (i - j)) S
  | .bl k, .int j => .ok (.int (b2n k - j)) S
  | _, _ => .stuck
theorem ops_sub : OpS X E (binaryOp .Sub) gSub := by
  refine OpR.imp ((op_sub (X := X)).or op_sub_bi) fun x y H Q h => ?_
  obtain ⟨W, a, b, rfl, s, ra, rb, h⟩ := h
  cases ra <;> cases rb <;> simp only [gSub] at h <;> first
    | exact h.elim
    | exact .inl ⟨_, _, rfl, rfl, PostE.val s (.int _) h⟩
    | exact .inr ⟨_, _, rfl, rfl, PostE.val s (.int _) h⟩
/-- one factor below 2^64 in size -/
def small64 (i : Int) : Bool := decide (-(2 ^ 64) < i ∧ i < 2 ^ 64)
def gMul : G2 := fun a b S => match a, b with
  | .int i, .int j => if small64 i || small64 j then .ok (.int (i * j)) S else .stuck
  | .str x, .int k => if decide (0 ≤ k ∧ k ≤ 100000) && fit (x.length * k.toNat) then .ok (.str (List.replicate k.toNat x).flatten) S else .stuck
  | .lst x, .int k => if decide (0 ≤ k ∧ k ≤ 100000) && fit (x.length * k.toNat) then .ok (.lst (List.replicate k.toNat x).flatten) S else .stuck
  | _, _ => .stuck
def gDiv : G2 := fun a b S => match a, b with
  | .int i, .int j => if decide (0 < j ∧ j < 1073741824) then .ok (.int (i / j)) S else .stuck
  | _, _ => .stuck
theorem ops_div : OpS X E (binaryOp .FloorDiv) gDiv := by
  refine OpR.imp (op_fdiv (X := X)) fun x y H Q h => ?_
  obtain ⟨W, a, b, rfl, s, ra, rb, h⟩ := h
  cases ra <;> cases rb <;> simp only [gDiv] at h <;> first | exact h.elim | skip
  split at h
  · rename_i i j hc
    exact ⟨i, j, rfl, rfl, (show 0 < j ∧ j < 1073741824 from of_decide_eq_true hc), PostE.val s (.int _) h⟩
  · exact h.elim
def gMod : G2 := fun a b S => match a, b with
  | .int i, .int j => if decide (0 < j) then .ok (.int (i % j)) S else .stuck
  | _, _ => .stuck
theorem ops_mod : OpS X E (binaryOp .Mod) gMod := by
  refine OpR.imp (op_mod (X := X)) fun x y H Q h => ?_
  obtain ⟨W, a, b, rfl, s, ra, rb, h⟩ := h
  cases ra <;> cases rb <;> simp only [gMod] at h <;> first | exact h.elim | skip
  split at h
  · rename_i i j hc
    exact ⟨i, j, rfl, rfl, (show 0 < j from of_decide_eq_true hc), PostE.val s (.int _) h⟩
  · exact h.elim
def gPow : G2 := fun a b S => match a, b with
  | .int i, .int j => if decide (0 ≤ j ∧ j ≤ 1000 ∧ -1000 ≤ i ∧ i ≤ 1000) then .ok (.int (i ^ j.toNat)) S else .stuck
  | _, _ => .stuck
theorem ops_pow : OpS X E (binaryOp .Pow) gPow := by
  refine OpR.imp (op_pow (X := X)) fun x y H Q h => ?_
  obtain ⟨W, a, b, rfl, s, ra, rb, h⟩ := h
  cases ra <;> cases rb <;> simp only [gPow] at h <;> first | exact h.elim | skip
  split at h
  · rename_i i j hc
    have hc := of_decide_eq_true hc
    refine ⟨_, _, rfl, rfl, ⟨hc.1, by omega, ?_⟩, PostE.val s (.int _) h⟩
    have : i.natAbs ≤ 1000 := by omega
    exact Nat.lt_of_le_of_lt this (by decide)
  · exact h.elim

/-! ### orders -/
def gLe : G2 := fun a b S => match a, b with
  | .int i, .int j => .ok (.bl (decide (i ≤ j))) S
  | .str x, .str y => .ok (.bl (!decide (y < x))) S
  | _, _ => .stuck
theorem ops_le : OpS X E (compareOp .LtE) gLe := by
  refine OpR.imp ((op_le (X := X)).or op_le_str) fun x y H Q h => ?_
  obtain ⟨W, a, b, rfl, s, ra, rb, h⟩ := h
  cases ra <;> cases rb <;> simp only [gLe] at h <;> first
    | exact h.elim
    | exact .inl ⟨_, _, rfl, rfl, PostE.val s (.bl _) h⟩
    | exact .inr ⟨_, _, rfl, rfl, PostE.val s (.bl _) h⟩
def gLt : G2 := fun a b S => match a, b with
  | .int i, .int j => .ok (.bl (decide (i < j))) S
  | .str x, .str y => .ok (.bl (decide (x < y))) S
  | _, _ => .stuck
theorem ops_lt : OpS X E (compareOp .Lt) gLt := by
  refine OpR.imp ((op_lt (X := X)).or op_lt_str) fun x y H Q h => ?_
  obtain ⟨W, a, b, rfl, s, ra, rb, h⟩ := h
  cases ra <;> cases rb <;> simp only [gLt] at h <;> first
    | exact h.elim
    | exact .inl ⟨_, _, rfl, rfl, PostE.val s (.bl _) h⟩
    | exact .inr ⟨_, _, rfl, rfl, PostE.val s (.bl _) h⟩
def gGe : G2 := fun a b S => match a, b with
  | .int i, .int j => .ok (.bl (decide (j ≤ i))) S
  | .str x, .str y => .ok (.bl (!decide (x < y))) S
  | _, _ => .stuck
theorem ops_ge : OpS X E (compareOp .GtE) gGe := by
  refine OpR.imp ((op_ge (X := X)).or op_ge_str) fun x y H Q h => ?_
  obtain ⟨W, a, b, rfl, s, ra, rb, h⟩ := h
  cases ra <;> cases rb <;> simp only [gGe] at h <;> first
    | exact h.elim
    | exact .inl ⟨_, _, rfl, rfl, PostE.val s (.bl _) h⟩
    | exact .inr ⟨_, _, rfl, rfl, PostE.val s (.bl _) h⟩
theorem gives_gt_bi (a : Bool) (b : Int) (u : Tok) : Gives (Builtin.«int.__gt__» ⟨[.bool a, .int b u], []⟩) (.val (Value.bool ((fun x1 x2 => decide (x1 > x2)) (if a = true then (1 : Int) else 0) b))) :=
  .of_wp fun M A E s Q h => by obtain ⟨hp, g, d, tk, os⟩ := s; wp_walk; exact ⟨_, rfl, h⟩
theorem op_gt_bi : OpR X (compareOp .Gt) (fun x y H Q => ∃ k i, x = .bl k ∧ y = .int i ∧ Q (.bl (decide (i < b2n k))) H) := by
  intro pins s σ H x y v u Q I rx ry h
  obtain ⟨k, i, rfl, rfl, q⟩ := h
  cases rx
  obtain ⟨t, rfl⟩ := ry
  show wpAny _ X.A (richCompare .Gt _ _) _ _ s
  exact wpAny_richCompare_left rfl (typeIs_int s i t) (by decide) F.sub_int_bool F.slot_bool_gt
    (call_gives F.slot_bool_gt rfl F.entry_int_gt (F.args_int_gt_2 _ _) (gives_gt_bi k i t) ⟨nofun, ⟨.bl _, H, I, rfl, q⟩⟩)
def gGt : G2 := fun a b S => match a, b with
  | .int i, .int j => .ok (.bl (decide (j < i))) S
  | .bl k, .int j => .ok (.bl (decide (j < b2n k))) S
  | .str x, .str y => .ok (.bl (decide (y < x))) S
  | _, _ => .stuck
theorem ops_gt : OpS X E (compareOp .Gt) gGt := by
  refine OpR.imp (((op_gt (X := X)).or op_gt_str).or op_gt_bi) fun x y H Q h => ?_
  obtain ⟨W, a, b, rfl, s, ra, rb, h⟩ := h
  cases ra <;> cases rb <;> simp only [gGt] at h <;> first
    | exact h.elim
    | exact .inl (.inl ⟨_, _, rfl, rfl, PostE.val s (.bl _) h⟩)
    | exact .inl (.inr ⟨_, _, rfl, rfl, PostE.val s (.bl _) h⟩)
    | exact .inr ⟨_, _, rfl, rfl, PostE.val s (.bl _) h⟩

/-! ### is None, is not None, is False -/
def isNonB : Val → Bool
  | .non => true
  | _ => false
def gIsN : G2 := fun a b S => match b with
  | .non => .ok (.bl (isNonB a)) S
  | .bl k => match a with
    | .bl j => .ok (.bl (decide (j = k))) S
    | .non => .stuck
    | _ => .stuck
  | _ => .stuck
theorem isN_eq {K W} {x : V} {v : Val} (r : VR K W x v) : decide (x = .non) = isNonB v := by
  cases r <;> first | rfl | (simp [isNonB])
theorem ops_is : OpS X E (compareOp .Is) gIsN := by
  refine OpR.imp ((op_isN (X := X)).or op_isBl) fun x y H Q h => ?_
  obtain ⟨W, a, b, rfl, s, ra, rb, h⟩ := h
  cases rb with
  | non =>
    refine .inl ⟨rfl, ?_⟩
    rw [isN_eq ra]
    exact PostE.val s (.bl _) h
  | bl k =>
    cases ra <;> simp only [gIsN] at h <;> first
      | exact h.elim
      | exact .inr ⟨_, _, rfl, rfl, PostE.val s (.bl _) h⟩
  | _ => exact h.elim
def gIsNot : G2 := fun a b S => match b with
  | .non => .ok (.bl (!isNonB a)) S
  | _ => .stuck
theorem ops_isnot : OpS X E (compareOp .IsNot) gIsNot := by
  refine OpR.imp (op_notN (X := X)) fun x y H Q h => ?_
  obtain ⟨W, a, b, rfl, s, ra, rb, h⟩ := h
  cases rb with
  | non =>
    refine ⟨rfl, ?_⟩
    rw [isN_eq ra]
    exact PostE.val s (.bl _) h
  | _ => exact h.elim

/-! ### a < b < c -/
@[simp] def mChain (g g' : G2) (ma mb mc : Ev) : Ev := fun ρ S => (ma ρ S).bind fun a S => (mb ρ S).bind fun b S => (g a b S).bind fun k S => match k with
  | .bl true => (mc ρ S).bind fun c S => g' b c S
  | .bl false => .ok (.bl false) S
  | _ => .stuck
theorem chain_imp {g g' : G2} {ma mb mc : Ev} {σ H Q} (h : tE X E (mChain g g' ma mb mc) σ H Q) : tChain (rV2 X E g) (rV2 X E g') (tE X E ma) (tE X E mb) (tE X E mc) σ H Q := by
  obtain ⟨W, ρ, rfl, s, r, h⟩ := h
  refine ⟨W, ρ, rfl, s, r, imp_e (PostE.bind (show PostE _ _ _ _ _ ((ma ρ W.S).bind _) from h)) fun x H1 q => ?_⟩
  obtain ⟨W1, a, e1, g1, s1, r1, q⟩ := q
  refine ⟨W1, ρ, e1, s1, r.mono g1, imp_e (PostE.bind (show PostE _ _ _ _ _ ((mb ρ W1.S).bind _) from q)) fun y H2 q => ?_⟩
  obtain ⟨W2, b, e2, g2, s2, r2, q⟩ := q
  refine ⟨W2, a, b, e2, s2, r1.mono g2, r2, imp_e (PostE.bind (show PostE _ _ _ _ _ ((g a b W2.S).bind _) from q)) fun z H3 q => ?_⟩
  obtain ⟨W3, k, rfl, g3, s3, r3, q⟩ := q
  cases r3 with
  | bl k =>
    refine ⟨k, rfl, ?_⟩
    cases k with
    | true =>
      refine ⟨W3, ρ, rfl, s3, ((r.mono g1).mono g2).mono g3, imp_e (PostE.bind (show PostE _ _ _ _ _ ((mc ρ W3.S).bind _) from q)) fun u H4 q => ?_⟩
      obtain ⟨W4, c, e4, g4, s4, r4, q⟩ := q
      exact ⟨W4, b, c, e4, s4, (r2.mono g3).mono g4, r4, q⟩
    | false => exact PostE.val s3 (.bl false) q
  | _ => exact q.elim
theorem se_chain {op op' : CmpOp} {g g' : G2} {a b c : Expr} {ma mb mc : Ev} {pos : Pos} (ho : OpS X E (compareOp op) g) (ho' : OpS X E (compareOp op') g') (ha : SE X E a ma) (hb : SE X E b mb) (hc : SE X E c mc)
    (h : PE X (.Compare a [op, op'] [b, c] pos) (tChain (rV2 X E g) (rV2 X E g') (tE X E ma) (tE X E mb) (tE X E mc))) : SE X E (.Compare a [op, op'] [b, c] pos) (mChain g g' ma mb mc) :=
  PE.imp h fun _ _ _ h => chain_imp h
theorem st_chain {op op' : CmpOp} {g g' : G2} {a b c : Expr} {ma mb mc : Ev} {pos : Pos}
    (h : PT X (.Compare a [op, op'] [b, c] pos) (tTest (tChain (rV2 X E g) (rV2 X E g') (tE X E ma) (tE X E mb) (tE X E mc)))) : ST X E (.Compare a [op, op'] [b, c] pos) (mB (mChain g g' ma mb mc)) :=
  PT.imp h fun σ H Q h => by
    obtain ⟨W, ρ, e, s, r, h⟩ := mB_imp h
    exact chain_imp ⟨W, ρ, e, s, r, h⟩

/-! ### one argument, by its value -/
abbrev G1 := Val → Store → Out
@[simp] def mUn (g : G1) (m : Ev) : Ev := fun ρ S => (m ρ S).bind g
def rV1 (X : Cx) (E : XK) (g : G1) : V → Hp → VK → Prop := fun x H Q => ∃ W a, W.H = H ∧ SR X.K X.mg W ∧ VR X.K W x a ∧ PostE X.K X.mg E W Q (g a W.S)
theorem un_imp {g : G1} {m : Ev} {σ H Q} (h : tE X E (mUn g m) σ H Q) : tE X E m σ H fun x H1 => rV1 X E g x H1 Q := by
  obtain ⟨W, ρ, rfl, s, r, h⟩ := h
  refine ⟨W, ρ, rfl, s, r, imp_e (PostE.bind (show PostE _ _ _ _ _ ((m ρ W.S).bind _) from h)) fun x H1 q => ?_⟩
  obtain ⟨W1, a, e1, g1, s1, r1, q⟩ := q
  exact ⟨W1, a, e1, s1, r1, q⟩
end
end L3
/-! L3D: subscripts, slices, built-ins by values. -/
namespace L3
open PySem PySem.Spec PyProof.Rows L2

section
variable {X : Cx} {E : XK}

/-! ### * -/
theorem fold_rep (b : Array Nat) : ∀ (n : Nat) (acc : Array Nat), (List.replicate n b).foldl (· ++ ·) acc = acc ++ ⟨(List.replicate n b.toList).flatten⟩
  | 0, acc => by simp
  | n + 1, acc => by
    rw [List.replicate_succ, List.foldl_cons, fold_rep b n, List.replicate_succ, List.flatten_cons]
    apply Array.ext'
    simp
theorem op_rep_str : OpR X (binaryOp .Mult) (fun x y H Q => ∃ (l : List Nat) (k : Int), x = .str (mk l) ∧ y = .int k ∧ 0 ≤ k ∧ k ≤ 100000 ∧ l.length * k.toNat ≤ 16777216 ∧ Q (.str (mk (List.replicate k.toNat l).flatten)) H) := by
  intro pins s σ H x y v u Q I rx ry h
  obtain ⟨l, k, rfl, rfl, h0, h1, hz, q⟩ := h
  obtain ⟨t, rfl⟩ := rx
  obtain ⟨t', rfl⟩ := ry
  have hlen : (mk l).length = l.length := rfl
  by_cases hk : k < 1
  · have e : k = 0 := by omega
    subst e
    refine PySem.P.mul_str_none (by omega) (by omega) ?_
    exact ⟨.str (mk (List.replicate (0 : Int).toNat l).flatten), H, I.tok _, ⟨_, rfl⟩, q⟩
  · refine PySem.P.mul_str ?_ (fun _ _ => ?_) (fun _ _ => ?_) ?_
    · rw [decide_eq_false (by omega), decide_eq_false (by omega)]; rfl
    · rw [hlen]
      have h2 : (l.length : Int) * k ≤ 16777216 := by
        have : ((l.length * k.toNat : Nat) : Int) ≤ 16777216 := by omega
        rw [Int.natCast_mul, Int.toNat_of_nonneg h0] at this
        exact this
      have : ((l.length : Int)) ≤ (2 ^ 63 - 1) / k := by
        apply Int.le_ediv_of_mul_le (by omega)
        omega
      omega
    · have : sizeLine = 16777216 := sizeLine_eq
      unfold Builtin.Str.tooLong
      rw [hlen]
      first
        | exact decide_eq_false (by omega)
        | (simp; omega)
    · rw [if_neg hk]
      by_cases h2 : (k == 1 || (mk l).length == 0) = true
      · rw [if_pos h2]
        have e : (List.replicate k.toNat l).flatten = l := by
          rcases Bool.or_eq_true_iff.mp h2 with z | z
          · have : k = 1 := by simpa using z
            subst this
            simp
          · have : l = [] := by
              have z' : l.length = 0 := by simpa [hlen] using z
              exact List.length_eq_zero_iff.mp z'
            subst this
            simp
        rw [e] at q
        exact ⟨.str (mk l), H, I, ⟨_, rfl⟩, q⟩
      · rw [if_neg h2]
        refine ⟨?_, ?_⟩
        · show (Str.mk _).length ≤ sizeLine
          rw [fold_rep]
          show ((#[] : Array Nat) ++ ⟨(List.replicate k.toNat (mk l).cps.toList).flatten⟩).size ≤ sizeLine
          rw [sizeLine_eq]
          simp [mk]
          rw [Nat.mul_comm]
          exact hz
        · have e : (Str.mk ((List.replicate k.toNat (mk l).cps).foldl (· ++ ·) #[])) = mk (List.replicate k.toNat l).flatten := by
            rw [fold_rep]
            unfold mk
            congr 1
            simp
          refine ⟨.str (mk (List.replicate k.toNat l).flatten), H, I.tok _, ⟨_, by rw [← e]⟩, q⟩
theorem ops_mul : OpS X E (binaryOp .Mult) gMul := by
  refine OpR.imp (((op_mul (X := X)).or op_rep_str).or op_rep) fun x y H Q h => ?_
  obtain ⟨W, a, b, rfl, s, ra, rb, h⟩ := h
  cases ra <;> cases rb <;> simp only [gMul] at h <;> first | exact h.elim | skip
  · split at h
    · rename_i i j hc
      refine .inl (.inl ⟨i, j, rfl, rfl, ?_, PostE.val s (.int _) h⟩)
      rcases Bool.or_eq_true_iff.mp hc with z | z
      · exact .inl (of_decide_eq_true z)
      · exact .inr (of_decide_eq_true z)
    · exact h.elim
  · split at h
    · rename_i l k hc
      obtain ⟨h1, h2⟩ := Bool.and_eq_true_iff.mp hc
      have h1 := of_decide_eq_true h1
      exact .inl (.inr ⟨l, k, rfl, rfl, h1.1, h1.2, of_decide_eq_true h2, PostE.val s (.str _) h⟩)
    · exact h.elim
  · rename_i p xs l t r k
    split at h
    · rename_i hc
      obtain ⟨h1, h2⟩ := Bool.and_eq_true_iff.mp hc
      have h1 := of_decide_eq_true h1
      have h2 := of_decide_eq_true h2
      exact .inr ⟨p, k, xs, rfl, rfl, t.1, by omega, by omega, by rw [r.length, sizeLine_eq]; exact h2, PostE.lst s (r.rep _) h⟩
    · exact h.elim

/-! ### x[i] -/
def ixL {α : Type} (l : List α) (i : Int) : Option α := atI l i
def gIx : G2 := fun a b S => match a, b with
  | .tup l, .int i => match ixL l i with
    | some v => .ok v S
    | none => .stuck
  | .lst l, .int i => match ixL l i with
    | some v => .ok v S
    | none => .stuck
  | .ktup l, .int i => match ixL l i with
    | some v => .ok v S
    | none => .stuck
  | .str l, .int i => match ixL l i with
    | some c => if fit l.length then .ok (.str [c]) S else .stuck
    | none => .stuck
  | _, _ => .stuck
theorem VRs.at' {K W xs l} (r : VRs K W xs l) {i : Int} {v : Val} (h : atI l i = some v) : ∃ x, atI xs i = some x ∧ VR K W x v := by
  unfold atI at h ⊢
  rw [r.length]
  cases e : ixN l.length i with
  | none => rw [e] at h; cases h
  | some j =>
    rw [e] at h
    exact r.get h
theorem TupK.sq {K W a xs} (h : TupK K a xs) : SqT K W a xs := .inr h
theorem IxR.imp {r r' : R2} (h : IxR X r) (i : ∀ x y H Q, r' x y H Q → r x y H Q) : IxR X r' := fun a b pins s σ H x y v u Q I rx ry q z => h a b pins s σ H x y v u Q I rx ry (i _ _ _ _ q) z
theorem ixs_all : IxR X (rV2 X E gIx) := by
  refine IxR.imp (ix_seq (X := X)) fun x y H Q h => ?_
  obtain ⟨W, a, b, rfl, s, ra, rb, h⟩ := h
  cases ra <;> cases rb <;> simp only [gIx, ixL] at h <;> first | exact h.elim | skip
  · split at h
    · rename_i i c hc
      split at h
      · rename_i hf
        exact .inr (.inr ⟨_, _, c, rfl, rfl, fit_line hf, hc, PostE.val s (.str [c]) h⟩)
      · exact h.elim
    · exact h.elim
  · rename_i p xs l t r i
    split at h
    · rename_i c hc
      obtain ⟨x, hx, q⟩ := r.at' hc
      exact .inr (.inl ⟨p, xs, _, x, rfl, rfl, t.sq, hx, PostE.val s q h⟩)
    · exact h.elim
  · rename_i p xs l t r i
    split at h
    · rename_i c hc
      obtain ⟨x, hx, q⟩ := r.at' hc
      exact .inl ⟨p, xs, _, x, rfl, rfl, t.sq, hx, PostE.val s q h⟩
    · exact h.elim
  · rename_i p xs l t r i
    split at h
    · rename_i c hc
      obtain ⟨x, hx, q⟩ := r.at' hc
      exact .inr (.inl ⟨p, xs, _, x, rfl, rfl, t.sq, hx, PostE.val s q h⟩)
    · exact h.elim
theorem se_ix {a b : Expr} {ma mb : Ev} {pos : Pos} (ha : SE X E a ma) (hb : SE X E b mb) (hs : PlainIx b := by intro _ _; rfl) : SE X E (.Subscript a b pos) (mBin gIx ma mb) :=
  PE.imp (pe_ix ixs_all ha hb hs) fun _ _ _ h => bin_imp h

/-! ### x[lo:hi] -/
def cutL {α : Type} (l : List α) (lo hi : Option Int) : List α := (l.drop (HT.sIx l.length 0 lo)).take (HT.sIx l.length l.length hi - HT.sIx l.length 0 lo)
theorem VRs.cut {K W xs l} (r : VRs K W xs l) (lo hi : Option Int) : VRs K W (cutV xs lo hi) (cutL l lo hi) := by
  unfold cutV cutL
  rw [r.length]
  exact (r.drop _).take _
def gCut (lo hi : Option Int) : G1 := fun a S => match a with
  | .tup l => .ok (.tup (cutL l lo hi)) S
  | .lst l => .ok (.lst (cutL l lo hi)) S
  | .str l => if fit l.length then .ok (.str (cutL l lo hi)) S else .stuck
  | .scr l => .ok (.lst ((cutL l lo hi).map Val.int)) S
  | _ => .stuck
theorem cut_map {α β : Type} (f : α → β) (l : List α) (lo hi : Option Int) : cutL (l.map f) lo hi = (cutL l lo hi).map f := by
  unfold cutL
  rw [List.length_map, ← List.map_drop, ← List.map_take]
theorem VRs.ints {K W} : ∀ ns : List Int, VRs K W (ns.map V.int) (ns.map Val.int)
  | [] => .nil
  | n :: ns => .cons (.int n) (VRs.ints ns)
theorem cutV_eq (xs : List V) (lo hi) : cutV xs lo hi = cutL xs lo hi := rfl
theorem cut_all {α : Type} (l : List α) (lo hi : Option Int) (h : HT.sIx l.length 0 lo = 0 ∧ HT.sIx l.length l.length hi = l.length) : cutL l lo hi = l := by
  unfold cutL
  rw [h.1, h.2]
  simp
theorem cuts_all : SlR X (fun x lo hi H Q => rV1 X E (gCut lo hi) x H Q) := by
  have base := ((sl_list (X := X)).or sl_tupA).or sl_str
  intro pins s σ H x v vl vu lo hi sl Q I rx hs pl pu h
  refine base pins s σ H x v vl vu lo hi sl Q I rx hs pl pu ?_
  obtain ⟨W, a, rfl, s, ra, h⟩ := h
  cases ra <;> simp only [gCut] at h <;> first | exact h.elim | skip
  · split at h
    · rename_i l hf
      refine .inr ⟨_, rfl, fit_line hf, ?_⟩
      exact PostE.val s (.str _) h
    · exact h.elim
  · rename_i p xs l t r
    refine .inl (.inr ⟨p, xs, rfl, t.sq, fun z => ?_, fun z => ?_⟩)
    · rw [r.length] at z
      rw [cut_all l lo hi z] at h
      exact PostE.val s (.tup t r) h
    · exact PostE.tup s (r.cut lo hi) h
  · rename_i p xs l t r
    exact .inl (.inl ⟨p, xs, rfl, t.sq, PostE.lst s (r.cut lo hi) h⟩)
  · rename_i p ns t
    refine .inl (.inl ⟨p, _, rfl, t.sq, ?_⟩)
    rw [cutV_eq, cut_map]
    exact PostE.lst s (VRs.ints _) h
/-- a part of a slice: left out, or an expression that gives an int -/
def SO (X : Cx) (E : XK) (e : Option Expr) (m : Option Ev) : Prop := match e, m with
  | none, none => True
  | some e, some m => SE X E e m
  | _, _ => False
@[simp] def evPart : Option Ev → Sl → Store → (Option Int → Store → Out) → Out
  | none, _, S, k => k none S
  | some m, ρ, S, k => (m ρ S).bind fun v S => match v with
    | .int i => k (some i) S
    | _ => .stuck
@[simp] def mCut (m : Ev) (lo hi : Option Ev) : Ev := fun ρ S => (m ρ S).bind fun a S => evPart lo ρ S fun l S => evPart hi ρ S fun h S => gCut l h a S
theorem so_po {e : Option Expr} {m : Option Ev} (h : SO X E e m) : ∃ t, PO X e t ∧ ∀ (W : Wd) (ρ : Sl) σ (k : Option Int → Store → Out) (Q : VK) (R : Option Int → Hp → Prop), SR X.K X.mg W → Rel X.K W ρ σ → PostE X.K X.mg E W Q (evPart m ρ W.S k) →
    (∀ o W1, Grow W W1 → SR X.K X.mg W1 → PostE X.K X.mg E W1 Q (k o W1.S) → R o W1.H) → t σ W.H R := by
  cases e with
  | none =>
    cases m with
    | none => exact ⟨_, po_none, fun W ρ σ k Q R s r h g => g none W (Grow.refl W) s h⟩
    | some m => exact (show False from h).elim
  | some e =>
    cases m with
    | none => exact (show False from h).elim
    | some m =>
      refine ⟨_, po_some (show SE X E e m from h), fun W ρ σ k Q R s r h g => ?_⟩
      refine ⟨W, ρ, rfl, s, r, imp_e (PostE.bind (show PostE _ _ _ _ _ ((m ρ W.S).bind _) from h)) fun x H1 q => ?_⟩
      obtain ⟨W1, v, rfl, g1, s1, r1, q⟩ := q
      cases r1 with
      | int i => exact ⟨i, rfl, g (some i) W1 g1 s1 q⟩
      | _ => exact q.elim
theorem se_cut {e : Expr} {lo hi : Option Expr} {m : Ev} {ml mh : Option Ev} {p2 pos : Pos} (he : SE X E e m) (hl : SO X E lo ml) (hh : SO X E hi mh) : SE X E (.Subscript e (.Slice lo hi none p2) pos) (mCut m ml mh) := by
  obtain ⟨tl, pl, il⟩ := so_po hl
  obtain ⟨th, ph, ih⟩ := so_po hh
  refine PE.imp (pe_slice (r := fun x lo hi H Q => rV1 X E (gCut lo hi) x H Q) cuts_all he pl ph) fun σ H Q h => ?_
  obtain ⟨W, ρ, rfl, s, r, h⟩ := h
  refine ⟨W, ρ, rfl, s, r, imp_e (PostE.bind (show PostE _ _ _ _ _ ((m ρ W.S).bind _) from h)) fun x H1 q => ?_⟩
  obtain ⟨W1, a, rfl, g1, s1, r1, q⟩ := q
  refine il W1 ρ σ _ Q _ s1 (r.mono g1) q fun l W2 g2 s2 q => ?_
  refine ih W2 ρ σ _ Q _ s2 ((r.mono g1).mono g2) q fun u W3 g3 s3 q => ?_
  exact ⟨W3, a, rfl, s3, (r1.mono g2).mono g3, q⟩
end
end L3
/-! L3E: data as PyData: what is read off the heap; ==, in, repr. -/
namespace L3
open PySem PySem.Spec PyProof.Rows L2

def kPy : Key → PyData
  | .inl i => .int i
  | .inr x => .str x
mutual
def toPy : Val → PyData
  | .non => .none
  | .bl b => .bool b
  | .int i => .int i
  | .str l => .str (mk l)
  | .tup l => .tuple (toPys l)
  | .ktup l => .tuple (toPys l)
  | .lst l => .list (toPys l)
  | .dct ks l => .dict ((ks.map kPy).zip (toPys l))
  | .rf _ => .none
  | .scr l => .list (l.map PyData.int)
def toPys : List Val → List PyData
  | [] => []
  | v :: l => toPy v :: toPys l
end
mutual
/-- data without references -/
def isD : Val → Bool
  | .non | .bl _ | .int _ | .str _ => true
  | .tup l | .ktup l | .lst l => isDs l
  | .dct _ l => isDs l
  | _ => false
def isDs : List Val → Bool
  | [] => true
  | v :: l => isD v && isDs l
end
mutual
/-- data without dicts, texts of plain signs -/
def isP : Val → Bool
  | .non | .bl _ | .int _ => true
  | .str l => l.all (· < 1114112)
  | .tup l | .ktup l | .lst l => isPs l
  | _ => false
def isPs : List Val → Bool
  | [] => true
  | v :: l => isP v && isPs l
end
mutual
theorem isP_D : ∀ v, isP v = true → isD v = true
  | .non, _ | .bl _, _ | .int _, _ | .str _, _ => rfl
  | .tup l, h => by simp only [isP] at h; simp only [isD]; exact isPs_D l h
  | .ktup l, h => by simp only [isP] at h; simp only [isD]; exact isPs_D l h
  | .lst l, h => by simp only [isP] at h; simp only [isD]; exact isPs_D l h
  | .dct _ _, h => by simp [isP] at h
  | .rf _, h => by simp [isP] at h
  | .scr _, h => by simp [isP] at h
theorem isPs_D : ∀ l, isPs l = true → isDs l = true
  | [], _ => rfl
  | v :: l, h => by
    simp only [isPs, Bool.and_eq_true] at h
    simp only [isDs, Bool.and_eq_true]
    exact ⟨isP_D v h.1, isPs_D l h.2⟩
end
mutual
theorem lay_P : ∀ v, isP v = true → (toPy v).canLay0 = true
  | .non, _ => by simp [toPy, PyData.canLay0]
  | .bl _, _ => by simp [toPy, PyData.canLay0]
  | .int _, _ => by simp [toPy, PyData.canLay0]
  | .str l, h => by
    simp only [isP] at h
    simp only [toPy, PyData.canLay0, PyData.strOk, mk]
    rw [← h]
    simp
  | .tup l, h => by simp only [isP] at h; simp only [toPy, PyData.canLay0]; exact lays_P l h
  | .ktup l, h => by simp only [isP] at h; simp only [toPy, PyData.canLay0]; exact lays_P l h
  | .lst l, h => by simp only [isP] at h; simp only [toPy, PyData.canLay0]; exact lays_P l h
  | .dct _ _, h => by simp [isP] at h
  | .rf _, h => by simp [isP] at h
  | .scr _, h => by simp [isP] at h
theorem lays_P : ∀ l, isPs l = true → PyData.canLayAll0 (toPys l) = true
  | [], _ => rfl
  | v :: l, h => by
    simp only [isPs, Bool.and_eq_true] at h
    simp only [toPys, PyData.canLayAll0, Bool.and_eq_true]
    exact ⟨lay_P v h.1, lays_P l h.2⟩
end
section
variable {X : Cx} {pins : List (Addr × Obj)} {σ : L2.St} {W : Wd} {s : Shared}
theorem key_reads (P : Program) (w : World) (h : Heap) (k : Key) (v : Value) (e : (mixKind P w).is k v = true) : Reads h v (kPy k) [] := by
  rcases keyIs_shape (show keyIs k v = true from e) with ⟨i, t, rfl, rfl⟩ | ⟨x, t, rfl, rfl⟩
  · exact .int i t
  · exact .str x t
theorem Inv.tupK (I : Inv X pins σ W.H s) {a xs} (h : TupK X.K a xs) : SqT X.K W.H a xs := .inr h
abbrev Sm (W : Wd) : Prop := ∃ o u, W.H sysModules = some (.frz o u)
mutual
theorem VR.reads (I : Inv X pins σ W.H s) (hs : Sm W) : ∀ (v : Val) (x : V) (u : Value), VR X.K W x v → RelV x u → isD v = true → ∃ as, Reads s.heap u (toPy v) as ∧ sysModules ∉ as
  | .non, _, _, r, q, _ => by cases r; cases q; simp only [toPy]; exact ⟨_, .none, by simp⟩
  | .bl b, _, _, r, q, _ => by cases r; cases q; simp only [toPy]; exact ⟨_, .bool b, by simp⟩
  | .int i, _, _, r, q, _ => by cases r; obtain ⟨t, rfl⟩ := q; simp only [toPy]; exact ⟨_, .int i t, by simp⟩
  | .str l, _, _, r, q, _ => by cases r; obtain ⟨t, rfl⟩ := q; simp only [toPy]; exact ⟨_, .str _ t, by simp⟩
  | .tup l, _, _, r, q, h => by
    cases r with
    | tup t r =>
      cases q
      obtain ⟨its, rv, ⟨o, ho, hc, n, hd⟩, _⟩ := I.tuple t.sq
      obtain ⟨as, hr, hm⟩ := VRs.reads I hs l _ its r rv (by simpa only [isD] using h)
      simp only [toPy]
      exact ⟨_, .tuple ho hc hd hr, hm⟩
  | .ktup l, _, _, r, q, h => by
    cases r with
    | ktup t r =>
      cases q
      obtain ⟨its, rv, ⟨o, ho, hc, n, hd⟩, _⟩ := I.tuple (Inv.tupK I t)
      obtain ⟨as, hr, hm⟩ := VRs.reads I hs l _ its r rv (by simpa only [isD] using h)
      simp only [toPy]
      exact ⟨_, .tuple ho hc hd hr, hm⟩
  | .lst l, _, _, r, q, h => by
    cases r with
    | lst t r =>
      cases q
      obtain ⟨its, rv, ⟨o, n, ho, hc, _, hd⟩, _⟩ := I.list t.sq
      obtain ⟨as, hr, hm⟩ := VRs.reads I hs l _ its r rv (by simpa only [isD] using h)
      simp only [toPy]
      refine ⟨_, .list ho hc hd hr, fun z => ?_⟩
      rcases List.mem_cons.mp z with z | z
      · obtain ⟨o1, u1, e1⟩ := hs
        rw [z, t.1] at e1
        cases e1
      · exact hm z
  | .dct ks l, _, _, r, q, h => by
    cases r with
    | dct e nl r =>
      cases q
      rename_i a kvs
      obtain ⟨_, hne, vs, rk, hd⟩ := I.hok a _ e
      obtain ⟨bs, hp, hm⟩ := VRs.pairs I hs l kvs vs r rk (by simpa only [isD] using h)
      simp only [toPy]
      refine ⟨_, PyProof.V.reads_dictOf (fun k v e => key_reads X.prog X.w _ k v e) hd hp, fun z => ?_⟩
      rcases List.mem_cons.mp z with z | z
      · rw [z] at hne; simp at hne
      · exact hm z
  | .rf _, _, _, _, _, h => by simp [isD] at h
  | .scr _, _, _, _, _, h => by simp [isD] at h
theorem VRs.pairs (I : Inv X pins σ W.H s) (hs : Sm W) : ∀ (l : List Val) (kvs : List (Key × V)) (vs : List (Key × Value)), VRs X.K W (kvs.map (·.2)) l → KV kvs vs → isDs l = true → ∃ bs, PyProof.V.PairsRead s.heap kPy vs (((kvs.map (·.1)).map kPy).zip (toPys l)) bs ∧ sysModules ∉ bs
  | [], [], _, _, q, _ => by cases q; simp only [toPys]; exact ⟨_, .nil, by simp⟩
  | [], kv :: kvs, _, r, _, _ => by cases r
  | v :: l, [], _, r, _, _ => by cases r
  | v :: l, kv :: kvs, vs, r, q, h => by
    cases r with
    | cons r1 r2 =>
      cases q with
      | cons q1 q2 =>
        rename_i kw vs
        simp only [isDs, Bool.and_eq_true] at h
        obtain ⟨as, k1, m1⟩ := VR.reads I hs v _ _ r1 q1.2 h.1
        obtain ⟨bs, k2, m2⟩ := VRs.pairs I hs l _ _ r2 q2 h.2
        obtain ⟨k, u⟩ := kw
        have e : kv.1 = k := q1.1
        subst e
        simp only [toPys, List.map_cons, List.zip_cons_cons]
        exact ⟨_, .cons k1 k2, fun z => (List.mem_append.mp z).elim m1 m2⟩
theorem VRs.reads (I : Inv X pins σ W.H s) (hs : Sm W) : ∀ (l : List Val) (xs : List V) (us : List Value), VRs X.K W xs l → Vals xs us → isDs l = true → ∃ as, ReadsAll s.heap us (toPys l) as ∧ sysModules ∉ as
  | [], _, _, r, q, _ => by cases r; cases q; simp only [toPys]; exact ⟨_, .nil, by simp⟩
  | v :: l, _, _, r, q, h => by
    cases r with
    | cons r1 r2 =>
      cases q with
      | cons q1 q2 =>
        simp only [isDs, Bool.and_eq_true] at h
        obtain ⟨as, k1, m1⟩ := VR.reads I hs v _ _ r1 q1 h.1
        obtain ⟨bs, k2, m2⟩ := VRs.reads I hs l _ _ r2 q2 h.2
        simp only [toPys]
        exact ⟨_, .cons k1 k2, fun z => (List.mem_append.mp z).elim m1 m2⟩
end
end
end L3

namespace L3
open PySem PySem.Spec PyProof.Rows L2

/-! ### == -/
mutual
def veq : Val → Val → Bool
  | .non, .non => true
  | .bl a, .bl b => a == b
  | .bl a, .int j => (if a then 1 else 0) == j
  | .int i, .bl b => i == (if b then 1 else 0)
  | .int i, .int j => i == j
  | .str x, .str y => x == y
  | .lst x, .lst y => veqs x y
  | .tup x, .tup y => veqs x y
  | .tup x, .ktup y => veqs x y
  | .ktup x, .tup y => veqs x y
  | .ktup x, .ktup y => veqs x y
  | _, _ => false
def veqs : List Val → List Val → Bool
  | [], [] => true
  | x :: xs, y :: ys => veq x y && veqs xs ys
  | _, _ => false
end
theorem mk_beq (a b : List Nat) : (mk a == mk b) = (a == b) := by
  by_cases h : a = b
  · subst h; simp
  · have : mk a ≠ mk b := fun z => h (mk_inj z)
    rw [beq_eq_false_iff_ne.mpr this, beq_eq_false_iff_ne.mpr h]
mutual
theorem veq_py : ∀ a b, isP a = true → isP b = true → veq a b = PyData.eqv (toPy a) (toPy b)
  | .non, b, _, hb => by cases b <;> first | rfl | (simp only [isP] at hb; cases hb) | (simp only [veq, toPy, PyData.eqv])
  | .bl _, b, _, hb => by cases b <;> first | rfl | (simp only [isP] at hb; cases hb) | (simp only [veq, toPy, PyData.eqv])
  | .int _, b, _, hb => by cases b <;> first | rfl | (simp only [isP] at hb; cases hb) | (simp only [veq, toPy, PyData.eqv])
  | .str x, b, _, hb => by
    cases b <;> first
      | (simp only [isP] at hb; cases hb; done)
      | (simp only [veq, toPy, PyData.eqv]; done)
      | (simp only [veq, toPy, PyData.eqv, mk_beq])
  | .lst x, b, ha, hb => by
    cases b with
    | lst y => simp only [isP] at ha hb; simp only [veq, toPy, PyData.eqv]; exact veqs_py x y ha hb
    | dct _ _ => simp [isP] at hb
    | rf _ => simp [isP] at hb
    | scr _ => simp [isP] at hb
    | _ => simp only [veq, toPy, PyData.eqv]
  | .tup x, b, ha, hb => by
    cases b with
    | tup y => simp only [isP] at ha hb; simp only [veq, toPy, PyData.eqv]; exact veqs_py x y ha hb
    | ktup y => simp only [isP] at ha hb; simp only [veq, toPy, PyData.eqv]; exact veqs_py x y ha hb
    | dct _ _ => simp [isP] at hb
    | rf _ => simp [isP] at hb
    | scr _ => simp [isP] at hb
    | _ => simp only [veq, toPy, PyData.eqv]
  | .ktup x, b, ha, hb => by
    cases b with
    | tup y => simp only [isP] at ha hb; simp only [veq, toPy, PyData.eqv]; exact veqs_py x y ha hb
    | ktup y => simp only [isP] at ha hb; simp only [veq, toPy, PyData.eqv]; exact veqs_py x y ha hb
    | dct _ _ => simp [isP] at hb
    | rf _ => simp [isP] at hb
    | scr _ => simp [isP] at hb
    | _ => simp only [veq, toPy, PyData.eqv]
  | .dct _ _, _, h, _ => by simp [isP] at h
  | .rf _, _, h, _ => by simp [isP] at h
  | .scr _, _, h, _ => by simp [isP] at h
theorem veqs_py : ∀ a b, isPs a = true → isPs b = true → veqs a b = PyData.eqvAll (toPys a) (toPys b)
  | [], [], _, _ => rfl
  | [], _ :: _, _, _ => by simp only [veqs, toPys, PyData.eqvAll]
  | _ :: _, [], _, _ => by simp only [veqs, toPys, PyData.eqvAll]
  | x :: xs, y :: ys, ha, hb => by
    simp only [isPs, Bool.and_eq_true] at ha hb
    simp only [veqs, toPys, PyData.eqvAll]
    rw [veq_py x y ha.1 hb.1, veqs_py xs ys ha.2 hb.2]
end
mutual
def dep : Val → Nat
  | .tup l | .ktup l | .lst l => deps l + 1
  | .dct _ l => deps l + 1
  | _ => 0
def deps : List Val → Nat
  | [] => 0
  | v :: l => max (dep v) (deps l)
end
mutual
theorem dep_py : ∀ v, isP v = true → (toPy v).depth = dep v
  | .non, _ | .bl _, _ | .int _, _ | .str _, _ => by simp [toPy, PyData.depth, dep]
  | .tup l, h => by simp only [isP] at h; simp only [toPy, PyData.depth, dep]; rw [deps_py l h]
  | .ktup l, h => by simp only [isP] at h; simp only [toPy, PyData.depth, dep]; rw [deps_py l h]
  | .lst l, h => by simp only [isP] at h; simp only [toPy, PyData.depth, dep]; rw [deps_py l h]
  | .dct _ _, h => by simp [isP] at h
  | .rf _, h => by simp [isP] at h
  | .scr _, h => by simp [isP] at h
theorem deps_py : ∀ l, isPs l = true → PyData.depthAll (toPys l) = deps l
  | [], _ => rfl
  | v :: l, h => by
    simp only [isPs, Bool.and_eq_true] at h
    simp only [toPys, PyData.depthAll, deps]
    rw [dep_py v h.1, deps_py l h.2]
end
/-- an int or a text -/
def isSc : Val → Bool
  | .int _ | .str _ => true
  | _ => false
/-- left anything, right scalars in a row, or nothing in it -/
def flatEq : Val → Val → Bool
  | .tup x, .tup y | .tup x, .ktup y => isDs x && y.all isSc
  | .lst _, .lst [] => true
  | _, _ => false
def okEq (a b : Val) : Bool := (isP a && isP b && decide (dep b ≤ 60)) || flatEq a b
def gEq : G2 := fun a b S => if okEq a b then .ok (.bl (veq a b)) S else .stuck
def gNe : G2 := fun a b S => if isP a && isP b && decide (dep b ≤ 60) then .ok (.bl (!veq a b)) S else .stuck

section
variable {A : Around} {s : Shared}
open PySem.SeqAt
theorem dict_eq_declines_int {l : Addr} {o : Obj} (b : Int) (u : Tok) (ho : o.cls = .type "dict") : Meets (Builtin.«dict.__eq__» ⟨[.ref l, .int b u], []⟩) (fun _ R s => s.heap.get? l = some o ∧ R (.ok (.ret .notImplemented)) s) :=
  .of_wp fun prog w A R s h => by
    obtain ⟨hp, g, d, tk, os⟩ := s; obtain ⟨hl, h⟩ := h
    have f1 := F.sub_int_dict
    obtain ⟨c, dd, da, sl⟩ := o
    simp only at ho
    subst ho
    wp_walk using wpAny_loadPart' hl, wpAny_load hl
    exact ⟨_, rfl, h⟩
theorem dict_eq_declines_str {l : Addr} {o : Obj} (b : Str) (u : Tok) (ho : o.cls = .type "dict") : Meets (Builtin.«dict.__eq__» ⟨[.ref l, .str b u], []⟩) (fun _ R s => s.heap.get? l = some o ∧ R (.ok (.ret .notImplemented)) s) :=
  .of_wp fun prog w A R s h => by
    obtain ⟨hp, g, d, tk, os⟩ := s; obtain ⟨hl, h⟩ := h
    have f1 := F.sub_str_dict
    obtain ⟨c, dd, da, sl⟩ := o
    simp only at ho
    subst ho
    wp_walk using wpAny_loadPart' hl, wpAny_load hl
    exact ⟨_, rfl, h⟩
theorem int_eq_declines_dict {l : Addr} {o : Obj} {es : Array DictEntry} {n : Nat} (b : Int) (u : Tok) (ho : o.cls = .type "dict") (hd : o.data = .dict es n) : Meets (Builtin.«int.__eq__» ⟨[.int b u, .ref l], []⟩) (fun _ R s => s.heap.get? l = some o ∧ R (.ok (.ret .notImplemented)) s) :=
  .of_wp fun prog w A R s h => by
    obtain ⟨hp, g, d, tk, os⟩ := s; obtain ⟨hl, h⟩ := h
    obtain ⟨c, dd, da, sl⟩ := o
    simp only at ho hd
    subst ho hd
    wp_walk using wpAny_loadPart' hl, wpAny_load hl
    exact ⟨_, rfl, h⟩
theorem str_eq_declines_dict {l : Addr} {o : Obj} {es : Array DictEntry} {n : Nat} (b : Str) (u : Tok) (ho : o.cls = .type "dict") (hd : o.data = .dict es n) : Meets (Builtin.«str.__eq__» ⟨[.str b u, .ref l], []⟩) (fun _ R s => s.heap.get? l = some o ∧ R (.ok (.ret .notImplemented)) s) :=
  .of_wp fun prog w A R s h => by
    obtain ⟨hp, g, d, tk, os⟩ := s; obtain ⟨hl, h⟩ := h
    obtain ⟨c, dd, da, sl⟩ := o
    simp only at ho hd
    subst ho hd
    wp_walk using wpAny_loadPart' hl, wpAny_load hl
    exact ⟨_, rfl, h⟩
theorem EqAt.dict_int {l : Addr} {o : Obj} {es : Array DictEntry} {n : Nat} (b : Int) (u : Tok) (hl : s.heap.get? l = some o) (ho : o.cls = .type "dict") (hd : o.data = .dict es n) (hu : A.units < cLine) : EqAt A s (.ref l) (.int b u) false := fun prog w E Q h => by
  unfold eqBool
  refine wpAny_holding ?_
  refine wpAny_ite_split (fun hab => absurd (eq_of_beq hab) nofun) (fun _ => ?_)
  refine wpAny_bind ?_
  exact rc_eq_decline_or (k := false) ⟨_, hl, ho⟩ (typeIs_int s b u) (by decide) F.sub_int_dict F.slot_dict_eq F.slot_int_eq_refl
    (fun _ hq => call_meets F.slot_dict_eq ⟨_, hl, ho⟩ F.entry_dict_eq (F.args_dict_eq_2 _ _) (dict_eq_declines_int b u ho) ⟨hl, hq⟩)
    (fun _ hq => call_meets F.slot_int_eq_refl (typeIs_int s b u) F.entry_int_eq (F.args_int_eq_2 _ _) (int_eq_declines_dict b u ho hd) ⟨hl, hq⟩)
    (fun _ hq => wpAny_of_eq (rfl : isSame (.ref l) (.int b u) = pure false) hq) (.inr hu) (wpAny_truthy_bool h)
theorem EqAt.dict_str {l : Addr} {o : Obj} {es : Array DictEntry} {n : Nat} (b : Str) (u : Tok) (hl : s.heap.get? l = some o) (ho : o.cls = .type "dict") (hd : o.data = .dict es n) (hu : A.units < cLine) : EqAt A s (.ref l) (.str b u) false := fun prog w E Q h => by
  unfold eqBool
  refine wpAny_holding ?_
  refine wpAny_ite_split (fun hab => absurd (eq_of_beq hab) nofun) (fun _ => ?_)
  refine wpAny_bind ?_
  exact rc_eq_decline_or (k := false) ⟨_, hl, ho⟩ (typeIs_str s b u) (by decide) F.sub_str_dict F.slot_dict_eq F.slot_str_eq_refl
    (fun _ hq => call_meets F.slot_dict_eq ⟨_, hl, ho⟩ F.entry_dict_eq (F.args_dict_eq_2 _ _) (dict_eq_declines_str b u ho) ⟨hl, hq⟩)
    (fun _ hq => call_meets F.slot_str_eq_refl (typeIs_str s b u) F.entry_str_eq (F.args_str_eq_2 _ _) (str_eq_declines_dict b u ho hd) ⟨hl, hq⟩)
    (fun _ hq => wpAny_of_eq (rfl : isSame (.ref l) (.str b u) = pure false) hq) (.inr hu) (wpAny_truthy_bool h)
end
section
variable {X : Cx} {E : XK}
open PySem.SeqAt
theorem hu64 {k : Nat} {A : Around} (r : Room k A) : A.units + 64 < cLine := r.units
/-- an item of any kind against a scalar -/
theorem eqAt_sc {A : Around} {W : Wd} {pins σ s} (I : Inv X pins σ W.H s) (hu : A.units < cLine) {a b : Val} {x y : V} {u v : Value} (ra : VR X.K W x a) (rb : VR X.K W y b) (qu : RelV x u) (qv : RelV y v) (ha : isD a = true) (hb : isSc b = true) :
    EqAt A s u v (veq a b) := by
  cases rb with
  | int j =>
    obtain ⟨t, rfl⟩ := qv
    cases ra with
    | non => cases qu; simpa only [veq] using EqAt.none_int j t
    | bl c => cases qu; simpa only [veq] using EqAt.bool_int c j t
    | int i => obtain ⟨t', rfl⟩ := qu; simpa only [veq] using EqAt.int_int i t' j t
    | str l => obtain ⟨t', rfl⟩ := qu; simpa only [veq] using EqAt.str_int (mk l) t' j t
    | tup h r => cases qu; obtain ⟨its, _, p, _⟩ := I.tuple h.sq; simpa only [veq] using EqAt.tuple_int j t p hu
    | ktup h r => cases qu; obtain ⟨its, _, p, _⟩ := I.tuple (Inv.tupK I h); simpa only [veq] using EqAt.tuple_int j t p hu
    | lst h r => cases qu; obtain ⟨its, _, p, _⟩ := I.list h.sq; simpa only [veq] using EqAt.list_int j t p.isList hu
    | dct e nl r => cases qu; obtain ⟨_, _, vs, rk, o, es, ep, e1, e2, e3, _⟩ := I.hok _ _ e; simpa only [veq] using EqAt.dict_int j t e1 e2.1 e3 hu
    | rf _ => simp [isD] at ha
    | scr _ => simp [isD] at ha
  | str j =>
    obtain ⟨t, rfl⟩ := qv
    cases ra with
    | non => cases qu; simpa only [veq] using EqAt.none_str (mk j) t
    | bl c => cases qu; simpa only [veq] using EqAt.bool_str c (mk j) t
    | int i => obtain ⟨t', rfl⟩ := qu; simpa only [veq] using EqAt.int_str i t' (mk j) t
    | str l =>
      obtain ⟨t', rfl⟩ := qu
      have := EqAt.str_str (A := A) (s := s) (mk l) t' (mk j) t
      rw [mk_beq] at this
      simpa only [veq] using this
    | tup h r => cases qu; obtain ⟨its, _, p, _⟩ := I.tuple h.sq; simpa only [veq] using EqAt.tuple_str (mk j) t p hu
    | ktup h r => cases qu; obtain ⟨its, _, p, _⟩ := I.tuple (Inv.tupK I h); simpa only [veq] using EqAt.tuple_str (mk j) t p hu
    | lst h r => cases qu; obtain ⟨its, _, p, _⟩ := I.list h.sq; simpa only [veq] using EqAt.list_str (mk j) t p.isList hu
    | dct e nl r => cases qu; obtain ⟨_, _, vs, rk, o, es, ep, e1, e2, e3, _⟩ := I.hok _ _ e; simpa only [veq] using EqAt.dict_str (mk j) t e1 e2.1 e3 hu
    | rf _ => simp [isD] at ha
    | scr _ => simp [isD] at ha
  | _ => simp [isSc] at hb
theorem veqs_all : ∀ x y : List Val, ((List.range (min x.length y.length)).all (fun j => veq (x.getD j .non) (y.getD j .non)) && x.length == y.length) = veqs x y
  | [], [] => rfl
  | [], _ :: _ => by simp [veqs]
  | _ :: _, [] => by simp [veqs]
  | a :: x, b :: y => by
    have ih := veqs_all x y
    simp only [veqs]
    rw [← ih]
    simp only [List.length_cons, Nat.add_min_add_right, List.range_succ_eq_map, List.all_cons, List.all_map]
    simp [Function.comp_def, Bool.and_assoc]
theorem isDs_at : ∀ {l : List Val} {i : Nat} {v : Val}, isDs l = true → l[i]? = some v → isD v = true
  | [], _, _, _, h => by simp at h
  | _ :: _, 0, _, h, e => by simp only [isDs, Bool.and_eq_true] at h; simp at e; subst e; exact h.1
  | _ :: _, i + 1, _, h, e => by simp only [isDs, Bool.and_eq_true] at h; exact isDs_at (i := i) h.2 (by simpa using e)
theorem flat_tuples {W : Wd} {pins σ s} (I : Inv X pins σ W.H s) (hu : X.A.units + 64 < cLine) {x y : List Val} {xs ys : List V} {a b : Addr} (ta : SqT X.K W.H a xs) (tb : SqT X.K W.H b ys) (ra : VRs X.K W xs x) (rb : VRs X.K W ys y)
    (hx : isDs x = true) (hy : y.all isSc = true) : RcAt X.A s (.ref a) (.ref b) (veqs x y) := by
  obtain ⟨its, r1, p1, _⟩ := I.tuple ta
  obtain ⟨its2, r2, p2, _⟩ := I.tuple tb
  have n1 : its.toArray.size = x.length := by rw [List.size_toArray, ← r1.length, ra.length]
  have n2 : its2.toArray.size = y.length := by rw [List.size_toArray, ← r2.length, rb.length]
  rw [← veqs_all x y, ← n1, ← n2]
  refine RcAt.tuples p1 p2 (by omega) fun j j1 j2 => ?_
  have hj1 : j < x.length := by omega
  have hj2 : j < y.length := by omega
  obtain ⟨xv, ex, rx⟩ := ra.get (List.getElem?_eq_getElem hj1)
  obtain ⟨yv, ey, ry⟩ := rb.get (List.getElem?_eq_getElem hj2)
  obtain ⟨u, eu, qu⟩ := r1.get ex
  obtain ⟨v, ev, qv⟩ := r2.get ey
  have e1 : its.toArray[j] = u := by
    have : its[j]? = some its[j] := List.getElem?_eq_getElem (by simpa using j1)
    rw [this] at eu
    simpa using Option.some.inj eu
  have e2 : its2.toArray[j] = v := by
    have : its2[j]? = some its2[j] := List.getElem?_eq_getElem (by simpa using j2)
    rw [this] at ev
    simpa using Option.some.inj ev
  rw [e1, e2]
  have g1 : x.getD j .non = x[j] := by simp [List.getD, hj1]
  have g2 : y.getD j .non = y[j] := by simp [List.getD, hj2]
  show EqAt _ s u v (veq (x.getD j .non) (y.getD j .non))
  rw [g1, g2]
  exact eqAt_sc I (by show X.A.units + 1 < cLine; omega) rx ry qu qv (isDs_at hx (List.getElem?_eq_getElem hj1)) (List.all_eq_true.mp hy _ (List.getElem_mem hj2))
theorem ops_eq (hu : X.A.units + 64 < cLine) : OpS X E (compareOp .Eq) gEq := by
  intro pins s σ H x y u v Q I rx ry h
  obtain ⟨W, a, b, rfl, sr, ra, rb, h⟩ := h
  simp only [gEq] at h
  split at h
  · rename_i hok
    have fin : ∀ k, k = veq a b → EP X pins σ Q (.bool k) s := fun k e => ⟨.bl k, W.H, I, rfl, by subst e; exact PostE.val sr (.bl _) h⟩
    unfold okEq at hok
    rcases Bool.or_eq_true_iff.mp hok with z | z
    · simp only [Bool.and_eq_true, decide_eq_true_eq] at z
      obtain ⟨⟨pa, pb⟩, hd⟩ := z
      obtain ⟨as, r1, _⟩ := VR.reads I sr.sm a x u ra rx (isP_D a pa)
      obtain ⟨bs, r2, _⟩ := VR.reads I sr.sm b y v rb ry (isP_D b pb)
      refine compareEq_reads r1 r2 (lay_P a pa) (lay_P b pb) ?_ (fin _ (veq_py a b pa pb).symm)
      rw [dep_py a pa, dep_py b pb]
      have : min (dep a) (dep b) ≤ dep b := Nat.min_le_right _ _
      omega
    · cases ra <;> first
        | (simp only [flatEq] at z; cases z; done)
        | skip
      · rename_i p xs l t r
        cases rb <;> first
          | (simp only [flatEq] at z; cases z; done)
          | skip
        · rename_i p' xs' l' t' r'
          simp only [flatEq, Bool.and_eq_true] at z
          cases rx
          cases ry
          exact flat_tuples I hu t.sq t'.sq r r' z.1 z.2 _ _ _ _ (fin _ (by simp only [veq]))
        · rename_i p' xs' l' t' r'
          simp only [flatEq, Bool.and_eq_true] at z
          cases rx
          cases ry
          exact flat_tuples I hu t.sq (Inv.tupK I t') r r' z.1 z.2 _ _ _ _ (fin _ (by simp only [veq]))
      · rename_i p xs l t r
        cases rb <;> first
          | (simp only [flatEq] at z; cases z; done)
          | skip
        rename_i p' xs' l' t' r'
        cases l' with
        | cons _ _ => simp only [flatEq] at z; cases z
        | nil =>
          cases r'
          cases rx
          cases ry
          obtain ⟨its, r1, p1, _⟩ := I.list t.sq
          obtain ⟨its2, r2, p2, _⟩ := I.list t'.sq
          cases r2
          by_cases hl : its = []
          · subst hl
            cases r1
            cases r
            exact eq_listAt (e := fun _ => true) p1.isList p2.isList rfl (by omega) (fun j j1 _ => absurd j1 (by simp)) (fin _ (by simp [veq, veqs]))
          · refine eq_list_lengthsAt p1.isList p2.isList ?_ (by omega) (fin _ ?_)
            · cases its with
              | nil => exact absurd rfl hl
              | cons _ _ => simp
            · cases l with
              | nil => cases r; cases r1; exact absurd rfl hl
              | cons _ _ => simp only [veq, veqs]
  · exact h.elim
theorem ops_ne (hu : X.A.units + 64 < cLine) : OpS X E (compareOp .NotEq) gNe := by
  intro pins s σ H x y u v Q I rx ry h
  obtain ⟨W, a, b, rfl, sr, ra, rb, h⟩ := h
  simp only [gNe] at h
  split at h
  · rename_i z
    simp only [Bool.and_eq_true, decide_eq_true_eq] at z
    obtain ⟨⟨pa, pb⟩, hd⟩ := z
    obtain ⟨as, r1, _⟩ := VR.reads I sr.sm a x u ra rx (isP_D a pa)
    obtain ⟨bs, r2, _⟩ := VR.reads I sr.sm b y v rb ry (isP_D b pb)
    refine compareNe_reads r1 r2 (lay_P a pa) (lay_P b pb) ?_ ⟨.bl _, W.H, I, rfl, by rw [← veq_py a b pa pb]; exact PostE.val sr (.bl _) h⟩
    rw [dep_py a pa, dep_py b pb]
    have : min (dep a) (dep b) ≤ dep b := Nat.min_le_right _ _
    omega
  · exact h.elim
/-! ### in -/
def seqOf : Val → Option (List Val)
  | .tup l | .ktup l | .lst l => some l
  | _ => none
def gIn : G2 := fun a b S => match a, b with
  | .str [c], .str l => .ok (.bl (decide (c ∈ l))) S
  | a, b => match seqOf b with
    | some l => if isP a && isPs l && decide (dep a ≤ 60) then .ok (.bl (l.any fun z => veq z a)) S else .stuck
    | none => .stuck
def gNotIn : G2 := fun a b S => match gIn a b S with
  | .ok (.bl k) S => .ok (.bl (!k)) S
  | r => r
theorem any_py {a : Val} (ha : isP a = true) : ∀ l : List Val, isPs l = true → ((toPys l).any fun z => PyData.eqv z (toPy a)) = l.any fun z => veq z a
  | [], _ => rfl
  | v :: l, h => by
    simp only [isPs, Bool.and_eq_true] at h
    simp only [toPys, List.any_cons]
    rw [any_py ha l h.2, veq_py v a h.1 ha]
theorem in_seq (hu : X.A.units + 64 < cLine) {W : Wd} {pins : List (Addr × Obj)} {σ : L2.St} {s : Shared} (I : Inv X pins σ W.H s) (hs : Sm W) {a b : Val} {x y : V} {u v : Value} {l : List Val} (ra : VR X.K W x a) (rb : VR X.K W y b) (rx : RelV x u) (ry : RelV y v)
    (e : seqOf b = some l) (ha : isP a = true) (hl : isPs l = true) (hd : dep a ≤ 60) {Q : Value → Shared → Prop} :
    (Q (.bool (l.any fun z => veq z a)) s → wpAny (model X.prog X.w) X.A (compareOp .In u v) Q X.xe s) ∧ (Q (.bool (!l.any fun z => veq z a)) s → wpAny (model X.prog X.w) X.A (compareOp .NotIn u v) Q X.xe s) := by
  obtain ⟨as, r1, _⟩ := VR.reads I hs a x u ra rx (isP_D a ha)
  have hub : X.A.units + 1 + min (PyData.depthAll (toPys l)) (toPy a).depth < cLine := by
    rw [dep_py a ha]
    have : min (PyData.depthAll (toPys l)) (dep a) ≤ dep a := Nat.min_le_right _ _
    omega
  have hb : isD b = true := by
    cases b <;> simp only [seqOf] at e <;> first
      | (cases e; done)
      | (cases e; simp only [isD]; exact isPs_D _ hl)
  obtain ⟨bs, r2, _⟩ := VR.reads I hs b y v rb ry hb
  rw [← any_py ha l hl]
  cases b <;> simp only [seqOf] at e <;> first | (cases e; done) | skip
  all_goals
    cases e
    simp only [toPy] at r2
    first
      | exact ⟨fun h => in_tuple_reads r2 r1 (lays_P l hl) (lay_P a ha) hub h, fun h => notIn_tuple_reads r2 r1 (lays_P l hl) (lay_P a ha) hub h⟩
      | exact ⟨fun h => in_list_reads r2 r1 (lays_P l hl) (lay_P a ha) hub h, fun h => notIn_list_reads r2 r1 (lays_P l hl) (lay_P a ha) hub h⟩
theorem op_notin_sign : OpR X (compareOp .NotIn) (fun x y H Q => ∃ (c : Nat) (z : Str), x = .str ⟨#[c]⟩ ∧ y = .str z ∧ Q (.bl (!decide (c ∈ z.cps.toList))) H) := by
  refine OpR.imp (op_notIn_str (X := X)) fun x y H Q h => ?_
  obtain ⟨c, z, rfl, rfl, q⟩ := h
  have e := PySem.StrLaws.found_one z c
  refine ⟨_, _, rfl, rfl, ?_⟩
  rw [e]
  exact q
theorem ops_in (hu : X.A.units + 64 < cLine) : OpS X E (compareOp .In) gIn := by
  intro pins s σ H x y u v Q I rx ry h
  obtain ⟨W, a, b, rfl, sr, ra, rb, h⟩ := h
  unfold gIn at h
  split at h
  · rename_i c l
    cases ra
    cases rb
    exact op_in_sign pins s σ W.H _ _ u v Q I rx ry ⟨c, mk l, rfl, rfl, PostE.val sr (.bl _) h⟩
  · split at h
    · rename_i l e
      split at h
      · rename_i z
        simp only [Bool.and_eq_true, decide_eq_true_eq] at z
        exact (in_seq hu I sr.sm ra rb rx ry e z.1.1 z.1.2 z.2).1 ⟨.bl _, W.H, I, rfl, PostE.val sr (.bl _) h⟩
      · exact h.elim
    · exact h.elim
theorem ops_notin (hu : X.A.units + 64 < cLine) : OpS X E (compareOp .NotIn) gNotIn := by
  intro pins s σ H x y u v Q I rx ry h
  obtain ⟨W, a, b, rfl, sr, ra, rb, h⟩ := h
  unfold gNotIn gIn at h
  split at h
  · rename_i k S hk
    split at hk
    · rename_i c l
      cases ra
      cases rb
      cases hk
      exact op_notin_sign pins s σ W.H _ _ u v Q I rx ry ⟨c, mk l, rfl, rfl, PostE.val sr (.bl _) h⟩
    · split at hk
      · rename_i l e
        split at hk
        · rename_i z
          simp only [Bool.and_eq_true, decide_eq_true_eq] at z
          cases hk
          exact (in_seq hu I sr.sm ra rb rx ry e z.1.1 z.1.2 z.2).2 ⟨.bl _, W.H, I, rfl, PostE.val sr (.bl _) h⟩
        · cases hk
      · cases hk
  · rename_i hno
    exfalso
    split at h
    · rename_i c l
      exact hno _ _ rfl
    · rename_i hn2
      split at h
      · rename_i l e
        split at h
        · rename_i z
          refine hno (l.any fun z => veq z a) W.S ?_
          split
          · rename_i c l2
            exact (hn2 _ _ rfl rfl).elim
          · rw [e]
            simp [z]
        · exact h.elim
      · exact h.elim
end
end L3
/-! L3F: built-ins by values. -/
namespace L3
open PySem PySem.Spec PyProof.Rows L2

section
variable {X : Cx} {E : XK}
/-- a built-in of one argument -/
abbrev rC1 (X : Cx) (E : XK) (g : G1) : List V → Hp → VK → Prop := fun xs H Q => ∃ x, xs = [x] ∧ rV1 X E g x H Q
theorem CallR.imp {f : Value} {r r' : List V → Hp → VK → Prop} (h : CallR X f r) (i : ∀ xs H Q, r' xs H Q → r xs H Q) : CallR X f r' := fun pins s σ H xs us Q I r q => h pins s σ H xs us Q I r (i _ _ _ q)
theorem one_imp {g : G1} {m : Ev} {σ H Q} (h : tE X E (mUn g m) σ H Q) : tCB (rC1 X E g) (tCons (tE X E m) tNil) σ H Q := by
  obtain ⟨W, ρ, rfl, s, r, h⟩ := un_imp h
  exact ⟨W, ρ, rfl, s, r, imp_e h fun x H1 q => ⟨x, rfl, q⟩⟩
theorem se_bi {x : Str} {idS : String} {g : G1} {e : Expr} {m : Ev} {p pos : Pos} (hc : CallR X (.builtin idS) (rC1 X E g)) (hg : Gl X x) (hm : X.mg x = none) (hv : bootBuiltins x = some (.builtin idS)) (he : SE X E e m)
    (hn : x ≠ "__name__" := by decide) (hdb : (x == ("__debug__" : Str)) = false := by decide)
    (hs : starEach (e :: []) X.env = (false, eval e X.env) :: starEach [] X.env := by rfl) (hpl : (backTo pos (starEach [] X.env)).any (·.1) = false := by rfl) : SE X E (.Call (.Name x p) [e] [] pos) (mUn g m) :=
  PE.imp (pe_callB hc hg hm hv (pa_cons he pa_nil hs) hn hdb hs hpl) fun _ _ _ h => one_imp h
theorem se_ty {x : Str} {T : String} {g : G1} {e : Expr} {m : Ev} {p pos : Pos} (hc : CallR X (.type T) (rC1 X E g)) (hg : Gl X x) (hm : X.mg x = none) (hv : bootBuiltins x = some (.type T)) (he : SE X E e m)
    (hn : x ≠ "__name__" := by decide) (hdb : (x == ("__debug__" : Str)) = false := by decide)
    (hs : starEach (e :: []) X.env = (false, eval e X.env) :: starEach [] X.env := by rfl) (hpl : (backTo pos (starEach [] X.env)).any (·.1) = false := by rfl) : SE X E (.Call (.Name x p) [e] [] pos) (mUn g m) :=
  PE.imp (pe_callTy hc hg hm hv (pa_cons he pa_nil hs) hn hdb hs hpl) fun _ _ _ h => one_imp h

/-! ### len -/
def gLen : G1 := fun a S => match a with
  | .str l => if fit l.length then .ok (.int l.length) S else .stuck
  | .tup l | .ktup l | .lst l => .ok (.int l.length) S
  | _ => .stuck
theorem cr_len : CallR X (.builtin "len") (rC1 X E gLen) := by
  refine CallR.imp (call_len (X := X)) fun xs H Q h => ?_
  obtain ⟨x, rfl, W, a, rfl, s, ra, h⟩ := h
  cases ra <;> simp only [gLen] at h <;> first | exact h.elim | skip
  · split at h
    · rename_i l hf
      exact ⟨_, l.length, rfl, ⟨fit_line hf, rfl⟩, PostE.val s (.int _) h⟩
    · exact h.elim
  · rename_i p xs l t r
    exact ⟨_, l.length, rfl, .inr ⟨xs, t.sq, r.length.symm⟩, PostE.val s (.int _) h⟩
  · rename_i p xs l t r
    exact ⟨_, l.length, rfl, .inl ⟨xs, t.sq, r.length.symm⟩, PostE.val s (.int _) h⟩
  · rename_i p xs l t r
    exact ⟨_, l.length, rfl, .inr ⟨xs, .inr t, r.length.symm⟩, PostE.val s (.int _) h⟩

/-! ### isinstance -/
inductive Ty where
  | int | str | tuple | bool
def Ty.name : Ty → String
  | .int => "int" | .str => "str" | .tuple => "tuple" | .bool => "bool"
def isi : Ty → Val → Option Bool
  | .int, .int _ | .int, .bl _ => some true
  | .str, .str _ => some true
  | .tuple, .tup _ | .tuple, .ktup _ => some true
  | .bool, .bl _ => some true
  | _, .rf _ | _, .scr _ => none
  | _, _ => some false
def gIsi (T : Ty) : G1 := fun a S => match isi T a with
  | some b => .ok (.bl b) S
  | none => .stuck
def tyN : Val → String
  | .non => "NoneType" | .bl _ => "bool" | .int _ => "int" | .str _ => "str" | .tup _ | .ktup _ => "tuple" | .lst _ | .scr _ => "list" | .dct _ _ | .rf _ => "dict"
theorem isi_kit : ∀ (T : Ty) (a : Val) (b : Bool), isi T a = some b → kitB (tyN a) T.name = some b := by
  intro T a b h
  cases T <;> cases a <;> simp only [isi] at h <;> first
    | (cases h; done)
    | (cases h; simp only [tyN, Ty.name]; decide +kernel)
theorem isi_tyx {K W x a} (r : VR K W x a) {T : Ty} {b : Bool} (h : isi T a = some b) : TyX K W.H x (.type (tyN a)) := by
  cases r with
  | non => exact .base .non
  | bl b => exact .base (.bl b)
  | int i => exact .base (.int i)
  | str l => exact .base (.str _)
  | tup t r => exact .base (.tup t.1)
  | lst t r => exact .base (.lst t.1)
  | dct e nl r => exact .base (.dK e)
  | ktup t r => obtain ⟨o, its, n, h1, h2, _⟩ := t; exact .kTuple h1 h2
  | rf _ => cases T <;> simp [isi] at h
  | scr _ => cases T <;> simp [isi] at h
theorem se_isi {T : Ty} {x tx : Str} {e : Expr} {m : Ev} {p p2 pos : Pos} (hg : Gl X x) (hm : X.mg x = none) (hv : bootBuiltins x = some (.builtin "isinstance")) (he : SE X E e m)
    (hg2 : Gl X tx) (hm2 : X.mg tx = none) (hv2 : bootBuiltins tx = some (.type T.name))
    (hn : x ≠ "__name__" := by decide) (hdb : (x == ("__debug__" : Str)) = false := by decide) (hn2 : tx ≠ "__name__" := by decide) (hdb2 : (tx == ("__debug__" : Str)) = false := by decide)
    (hs : starEach (e :: [.Name tx p2]) X.env = (false, eval e X.env) :: starEach [.Name tx p2] X.env := by rfl) (hs2 : starEach (.Name tx p2 :: []) X.env = (false, eval (.Name tx p2) X.env) :: starEach [] X.env := by rfl)
    (hpl : (backTo pos (starEach [.Name tx p2] X.env)).any (·.1) = false := by rfl) : SE X E (.Call (.Name x p) [e, .Name tx p2] [] pos) (mUn (gIsi T) m) := by
  refine PE.imp (pe_callB call_isi hg hm hv (pa_cons he (pa_cons (pe_bltn (v := .ty T.name) hg2 hm2 hv2 rfl hn2 hdb2) pa_nil hs2) hs) hn hdb hs hpl) fun σ H Q h => ?_
  obtain ⟨W, ρ, rfl, s, r, h⟩ := un_imp h
  refine ⟨W, ρ, rfl, s, r, imp_e h fun x H1 q => ?_⟩
  obtain ⟨W1, a, rfl, s1, r1, q⟩ := q
  simp only [gIsi] at q
  split at q
  · rename_i b hb
    exact ⟨x, .ty T.name, .type (tyN a), .type T.name, b, rfl, .ty _, isi_tyx r1 hb, kit_ty (isi_kit T a b hb), PostE.val s1 (.bl b) q⟩
  · exact q.elim

/-! ### ord, abs, str, int, max, -n -/
def gOrd : G1 := fun a S => match a with
  | .str [c] => .ok (.int (c : Int)) S
  | _ => .stuck
theorem cr_ord : CallR X (.builtin "ord") (rC1 X E gOrd) := by
  refine CallR.imp (call_ord (X := X)) fun xs H Q h => ?_
  obtain ⟨x, rfl, W, a, rfl, s, ra, h⟩ := h
  unfold gOrd at h
  split at h
  · rename_i c
    cases ra
    exact ⟨_, rfl, rfl, PostE.val s (.int _) h⟩
  · exact h.elim
theorem neg_bool {prog : Program} {w : World} {A : Around} {E : Value → Shared → Prop} {s : Shared} {b : Bool} {Q : Value → Shared → Prop} (h : Q (.int (-(b2n b)) s.toks) { s with toks := s.toks + 1 }) : wpAny (model prog w) A (unaryOp .USub (.bool b)) Q E s := by
  unfold unaryOp
  refine wpAny_holding ?_
  refine wpAny_bind (m := callSpecial? (.bool b) (Str.ofString "__neg__")) (wpAny_callSpecial?_slot (name := Str.ofString "__neg__") (PySem.typeIs_bool s b) F.slot_bool_neg
    (wpAny_call_entry F.slot_bool_neg (PySem.typeIs_bool s b) F.entry_int_neg ?_ (F.args_int_neg_1 _)))
  show wpAny _ _ (do ret (← mkInt (-(if b then 1 else 0)))) _ _ s
  exact wpAny_ret_mkInt (wpAny_pure h)
def gNeg : G1 := fun a S => match a with
  | .int i => .ok (.int (-i)) S
  | .bl b => .ok (.int (-(b2n b))) S
  | _ => .stuck
theorem se_neg {a : Expr} {m : Ev} {pos : Pos} (ha : SE X E a m) : SE X E (.UnaryOp .USub a pos) (mUn gNeg m) := by
  have hr : UnR X (unaryOp .USub) (rV1 X E gNeg) := by
    intro pins s σ H x v Q I rx h
    obtain ⟨W, a, rfl, sr, ra, h⟩ := h
    cases ra <;> simp only [gNeg] at h <;> first | exact h.elim | skip
    · cases rx
      exact neg_bool ⟨.int _, W.H, I.tok _, ⟨_, rfl⟩, PostE.val sr (.int _) h⟩
    · obtain ⟨t, rfl⟩ := rx
      exact PyProof.Rows.neg_int ⟨.int _, W.H, I.tok _, ⟨_, rfl⟩, PostE.val sr (.int _) h⟩
  exact PE.imp (pe_un hr ha) fun _ _ _ h => un_imp h
theorem call_abs_bool {prog : Program} {w : World} {A : Around} {E : Value → Shared → Prop} {s : Shared} {b : Bool} {Q : Value → Shared → Prop} (h : ∀ u tk, Q (.int (b2n b) u) { s with toks := tk }) :
    wpAny (model prog w) A (call (.builtin "abs") [.bool b]) Q E s := by
  refine Calls.call_function_entry kind_abs plain_abs entry_abs (args_abs _) ?_
  unfold Builtin.«abs»
  refine wpAny_bind (m := oneArg "abs" _) (wpAny_pure ?_)
  refine wpAny_bind (m := callSpecial? (.bool b) (Str.ofString "__abs__")) (wpAny_callSpecial?_slot (name := Str.ofString "__abs__") (PySem.typeIs_bool s b) F.slot_bool_abs
    (wpAny_call_entry F.slot_bool_abs (PySem.typeIs_bool s b) F.entry_int_abs ?_ (F.args_int_abs_1 _)))
  cases b
  · exact wpAny_ret_mkInt (wpAny_pure ⟨_, rfl, h _ _⟩)
  · exact wpAny_ret_mkInt (wpAny_pure ⟨_, rfl, h _ _⟩)
def gAbs : G1 := fun a S => match a with
  | .int i => .ok (.int (if i < 0 then -i else i)) S
  | .bl b => .ok (.int (b2n b)) S
  | _ => .stuck
theorem cr_abs : CallR X (.builtin "abs") (rC1 X E gAbs) := by
  intro pins s σ H xs us Q I r h
  obtain ⟨x, rfl, W, a, rfl, sr, ra, h⟩ := h
  obtain ⟨u, rfl, rx⟩ := vals1 r
  cases ra <;> simp only [gAbs] at h <;> first | exact h.elim | skip
  · cases rx
    exact call_abs_bool fun u tk => ⟨.int _, W.H, I.tok _, ⟨_, rfl⟩, PostE.val sr (.int _) h⟩
  · obtain ⟨t, rfl⟩ := rx
    exact call_abs_int fun u tk => ⟨.int _, W.H, I.tok _, ⟨_, rfl⟩, PostE.val sr (.int _) h⟩
/-- the signs of str(n) -/
def digs (i : Int) : List Nat := ((toString i : String) : Str).cps.toList
def gStr : G1 := fun a S => match a with
  | .int i => if decide (i.natAbs < 10 ^ 50) then .ok (.str (digs i)) S else .stuck
  | .bl b => .ok (.str (if b then [84, 114, 117, 101] else [70, 97, 108, 115, 101])) S
  | _ => .stuck
theorem log_small {i : Int} (h : i.natAbs < 10 ^ 50) : i.natAbs.log2 < 1920 := by
  by_cases z : i.natAbs = 0
  · rw [z]; decide
  · have := (Nat.log2_lt z (k := 1920)).mpr (Nat.lt_of_lt_of_le h (by decide +kernel))
    exact this
theorem cr_str : CallR X (.type "str") (rC1 X E gStr) := by
  intro pins s σ H xs us Q I r h
  obtain ⟨x, rfl, W, a, rfl, sr, ra, h⟩ := h
  obtain ⟨u, rfl, rx⟩ := vals1 r
  cases ra <;> simp only [gStr] at h <;> first | exact h.elim | skip
  · rename_i b
    cases rx
    refine PySem.P.str_of_bool ⟨.str (mk (if b then [84, 114, 117, 101] else [70, 97, 108, 115, 101])), W.H, I.tok _, ?_, PostE.val sr (.str _) h⟩
    cases b
    · exact ⟨_, congrArg (fun z => Value.str z s.toks) (by decide +kernel)⟩
    · exact ⟨_, congrArg (fun z => Value.str z s.toks) (by decide +kernel)⟩
  · split at h
    · rename_i i hi
      obtain ⟨t, rfl⟩ := rx
      refine PySem.P.str_of_int (log_small (of_decide_eq_true hi)) ⟨.str (mk (digs i)), W.H, I.tok _, ⟨s.toks, ?_⟩, PostE.val sr (.str _) h⟩
      unfold digs
      rw [mk_of]
    · exact h.elim
def gInt : G1 := fun a S => match a with
  | .int i => .ok (.int i) S
  | _ => .stuck
theorem cr_int : CallR X (.type "int") (rC1 X E gInt) := by
  refine CallR.imp (call_int1 (X := X)) fun xs H Q h => ?_
  obtain ⟨x, rfl, W, a, rfl, s, ra, h⟩ := h
  cases ra <;> simp only [gInt] at h <;> first | exact h.elim | exact .inl ⟨_, rfl, PostE.val s (.int _) h⟩
/-! ### list, all, any -/
def gList : G1 := fun a S => match a with
  | .tup l | .lst l | .ktup l => .ok (.lst l) S
  | _ => .stuck
theorem cr_list : CallR X (.type "list") (rC1 X E gList) := by
  refine CallR.imp (call_list_of (X := X)) fun xs H Q h => ?_
  obtain ⟨x, rfl, W, a, rfl, s, ra, h⟩ := h
  cases ra <;> simp only [gList] at h <;> first | exact h.elim | skip
  · rename_i p xs l t r
    exact ⟨p, xs, rfl, .inr t.sq, PostE.lst s r h⟩
  · rename_i p xs l t r
    exact ⟨p, xs, rfl, .inl t.sq, PostE.lst s r h⟩
  · rename_i p xs l t r
    exact ⟨p, xs, rfl, .inr (.inr t), PostE.lst s r h⟩
def bools : List Val → Option (List Bool)
  | [] => some []
  | .bl b :: l => (bools l).map (b :: ·)
  | _ => none
theorem bools_map (bs : List Bool) : bools (bs.map Val.bl) = some bs := by
  induction bs with
  | nil => rfl
  | cons b bs ih => simp [bools, ih]
theorem bools_vr {K W} : ∀ {l : List Val} {xs : List V} {bs : List Bool}, VRs K W xs l → bools l = some bs → xs = bs.map V.bl
  | [], _, _, .nil, h => by simp only [bools] at h; cases h; rfl
  | .bl b :: l, _, bs, .cons r rs, h => by
    simp only [bools] at h
    cases e : bools l with
    | none => rw [e] at h; cases h
    | some bs' =>
      rw [e] at h
      cases h
      cases r
      rw [bools_vr rs e]
      rfl
  | .non :: _, _, _, _, h | .int _ :: _, _, _, _, h | .str _ :: _, _, _, _, h | .tup _ :: _, _, _, _, h | .lst _ :: _, _, _, _, h | .dct _ _ :: _, _, _, _, h | .rf _ :: _, _, _, _, h | .ktup _ :: _, _, _, _, h | .scr _ :: _, _, _, _, h => by simp [bools] at h
def gAll : G1 := fun a S => match a with
  | .lst l => match bools l with
    | some bs => .ok (.bl (bs.all id)) S
    | none => .stuck
  | _ => .stuck
def gAny : G1 := fun a S => match a with
  | .lst l => match bools l with
    | some bs => .ok (.bl (bs.any id)) S
    | none => .stuck
  | _ => .stuck
theorem cr_all' (hc : X.calm = true) : CallR X (.builtin "all") (rC1 X E gAll) := by
  refine CallR.imp (cr_all hc) fun xs H Q h => ?_
  obtain ⟨x, rfl, W, a, rfl, s, ra, h⟩ := h
  cases ra <;> simp only [gAll] at h <;> first | exact h.elim | skip
  rename_i p xs l t r
  split at h
  · rename_i bs e
    have := bools_vr r e
    subst this
    exact ⟨p, bs, rfl, t.sq, PostE.val s (.bl _) h⟩
  · exact h.elim
theorem cr_any' (hc : X.calm = true) : CallR X (.builtin "any") (rC1 X E gAny) := by
  refine CallR.imp (cr_any hc) fun xs H Q h => ?_
  obtain ⟨x, rfl, W, a, rfl, s, ra, h⟩ := h
  cases ra <;> simp only [gAny] at h <;> first | exact h.elim | skip
  rename_i p xs l t r
  split at h
  · rename_i bs e
    have := bools_vr r e
    subst this
    exact ⟨p, bs, rfl, t.sq, PostE.val s (.bl _) h⟩
  · exact h.elim

/-! ### two arguments: max -/
@[simp] def mBi2 (g : G2) (ma mb : Ev) : Ev := mBin g ma mb
def gMax : G2 := fun a b S => match a, b with
  | .int i, .int j => .ok (.int (if j > i then j else i)) S
  | _, _ => .stuck
theorem se_bi2 {x : Str} {idS : String} {g : G2} {e f : Expr} {m n : Ev} {p pos : Pos} (hc : CallR X (.builtin idS) (fun xs H Q => ∃ x y, xs = [x, y] ∧ rV2 X E g x y H Q)) (hg : Gl X x) (hm : X.mg x = none) (hv : bootBuiltins x = some (.builtin idS)) (he : SE X E e m) (hf : SE X E f n)
    (hn : x ≠ "__name__" := by decide) (hdb : (x == ("__debug__" : Str)) = false := by decide)
    (hs : starEach (e :: [f]) X.env = (false, eval e X.env) :: starEach [f] X.env := by rfl) (hs2 : starEach (f :: []) X.env = (false, eval f X.env) :: starEach [] X.env := by rfl) (hpl : (backTo pos (starEach [f] X.env)).any (·.1) = false := by rfl) : SE X E (.Call (.Name x p) [e, f] [] pos) (mBin g m n) :=
  PE.imp (pe_callB hc hg hm hv (pa_cons he (pa_cons hf pa_nil hs2) hs) hn hdb hs hpl) fun σ H Q h => by
    obtain ⟨W, ρ, rfl, s, r, h⟩ := bin_imp h
    exact ⟨W, ρ, rfl, s, r, imp_e h fun x H1 q => by
      obtain ⟨W1, ρ1, e1, s1, r1, q⟩ := q
      exact ⟨W1, ρ1, e1, s1, r1, imp_e q fun y H2 q => ⟨x, y, rfl, q⟩⟩⟩
theorem cr_max2 (hc : X.calm = true) : CallR X (.builtin "max") (fun xs H Q => ∃ x y, xs = [x, y] ∧ rV2 X E gMax x y H Q) := by
  refine CallR.imp (call_max2 hc) fun xs H Q h => ?_
  obtain ⟨x, y, rfl, W, a, b, rfl, s, ra, rb, h⟩ := h
  cases ra <;> cases rb <;> simp only [gMax] at h <;> first | exact h.elim | exact ⟨_, _, rfl, PostE.val s (.int _) h⟩

/-! ### x.upper() -/
def gUpper : G1 := fun a S => match a with
  | .str l => if decide (l.length ≤ 100000) then .ok (.str (Txt.upper (mk l)).cps.toList) S else .stuck
  | _ => .stuck
theorem se_upper {o : Expr} {m : Ev} {apos pos : Pos} (ho : SE X E o m) (hbase : attributeBase o "upper" X.env (eval o X.env) = eval o X.env := by rfl) (hline : (apos.endLine == pos.line) = true := by rfl) :
    SE X E (.Call (.Attribute o "upper" apos) [] [] pos) (mUn gUpper m) :=
  PE.imp (pe_upper ho hbase hline) fun σ H Q h => by
    obtain ⟨W, ρ, rfl, s, r, h⟩ := un_imp h
    refine ⟨W, ρ, rfl, s, r, imp_e h fun x H1 q => ?_⟩
    obtain ⟨W1, a, rfl, s1, r1, q⟩ := q
    cases r1 <;> simp only [gUpper] at q <;> first | exact q.elim | skip
    split at q
    · rename_i l hl
      have hl := of_decide_eq_true hl
      refine ⟨⟨mk l, rfl⟩, mk l, rfl, rfl, ?_, ?_⟩
      · rw [mk_len]; omega
      · have := PostE.val s1 (.str _) q
        rw [mk_of] at this
        exact this
    · exact q.elim

/-! ### repr -/
mutual
/-- what repr can show: ints of at most fifty digits -/
def isR : Val → Bool
  | .non | .bl _ | .str _ => true
  | .int i => decide (i.natAbs < 10 ^ 50)
  | .tup l | .ktup l | .lst l => isRs l
  | .dct _ _ => false
  | _ => false
def isRs : List Val → Bool
  | [] => true
  | v :: l => isR v && isRs l
end
def shownL (v : Val) : List Nat := (toPy v).shown.cps.toList
def gRepr : G1 := fun a S => if isD a && (toPy a).showable && decide ((toPy a).depth ≤ 60) && decide ((shownL a).length ≤ 16777216) then .ok (.str (shownL a)) S else .stuck
theorem shown_len (v : Val) : (toPy v).shown.length = (shownL v).length := by
  unfold shownL
  show (toPy v).shown.cps.size = _
  simp
theorem shown_mk (v : Val) : mk (shownL v) = (toPy v).shown := mk_of _
theorem cr_repr (hg : X.A.guards = some []) (hu : X.A.units + 64 < cLine) : CallR X (.builtin "repr") (rC1 X E gRepr) := by
  intro pins s σ H xs us Q I r h
  obtain ⟨x, rfl, W, a, rfl, sr, ra, h⟩ := h
  obtain ⟨u, rfl, rx⟩ := vals1 r
  unfold gRepr at h
  split at h
  · rename_i hc
    simp only [Bool.and_eq_true, decide_eq_true_eq] at hc
    obtain ⟨⟨⟨hD, hS⟩, hd⟩, hl⟩ := hc
    have hl' : (toPy a).shown.length ≤ sizeLine := by rw [shown_len, sizeLine_eq]; exact hl
    have fin : ∀ (s' : Shared) (t : Tok), Inv X pins σ W.H s' → EP X pins σ Q (.str (toPy a).shown t) s' := fun s' t I' =>
      ⟨.str (mk (shownL a)), W.H, I', ⟨t, by rw [shown_mk]⟩, PostE.val sr (.str _) h⟩
    obtain ⟨as, hr, hm⟩ := VR.reads I sr.sm a x u ra rx hD
    cases ra with
    | non => cases rx; exact PySem.P.repr_of_none (fin _ _ (I.tok _))
    | bl b => cases rx; exact PySem.P.repr_of_bool (by simpa only [toPy, PyData.shown] using fin _ _ (I.tok _))
    | int i =>
      obtain ⟨t, rfl⟩ := rx
      exact PySem.P.repr_of_int (by simpa only [toPy, PyData.showable, decide_eq_true_eq] using hS) (by simpa only [toPy, PyData.shown] using fin _ _ (I.tok _))
    | str l =>
      obtain ⟨t, rfl⟩ := rx
      exact PySem.P.repr_of_str (by simpa only [toPy, PyData.shown] using fin _ _ (I.tok _)) (by simpa only [toPy, PyData.shown] using hl')
    | rf _ => simp [isD] at hD
    | scr _ => simp [isD] at hD
    | tup t r =>
      cases rx
      exact repr_of_reads' hr hS (fun _ => hm) hg (by omega) (fun _ _ e => e) (fun h' u tk k => fin _ u (I.kept (h' := h') (t' := tk) k)) hl'
    | lst t r =>
      cases rx
      exact repr_of_reads' hr hS (fun _ => hm) hg (by omega) (fun _ _ e => e) (fun h' u tk k => fin _ u (I.kept (h' := h') (t' := tk) k)) hl'
    | ktup t r =>
      cases rx
      exact repr_of_reads' hr hS (fun _ => hm) hg (by omega) (fun _ _ e => e) (fun h' u tk k => fin _ u (I.kept (h' := h') (t' := tk) k)) hl'
    | dct e nl r =>
      cases rx
      exact repr_of_reads' hr hS (fun _ => hm) hg (by omega) (fun _ _ e => e) (fun h' u tk k => fin _ u (I.kept (h' := h') (t' := tk) k)) hl'
  · exact h.elim
end
end L3
/-! L3G: what is walked; comprehensions; for. -/
namespace L3
open PySem PySem.Spec PyProof.Rows L2

/-! ### enumerate(tuple) -/
theorem meets_enumerate_newT (l : Addr) (items : Array Value) (n : Nat) (dct : Option Addr) (sl : Array (Option Value)) :
    Meets (Builtin.«enumerate.__new__» ⟨[.type "enumerate", .ref l], []⟩) (fun _ R s => s.heap.get? l = some { cls := .type "tuple", dict := dct, data := .seq items n, slots := sl } ∧
      R (.ok (.ret (.ref (s.heap.push { cls := .type "tuple_iterator", data := .fields #[.ref l, .int 0 0] }).objs.size)))
        { s with heap := (s.heap.push { cls := .type "tuple_iterator", data := .fields #[.ref l, .int 0 0] }).push { cls := .type "enumerate", data := .fields #[.none, .bool false, .ref s.heap.objs.size, rawInt 0, .none, .none] } }) :=
  .of_wp fun prog w A R s h => by
    obtain ⟨hp, g, d, tk, os⟩ := s; obtain ⟨hl, h⟩ := h
    have hsub := sub_enumerate
    have hL : Heap.IsTuple (Shared.heap ⟨hp, g, d, tk, os⟩) l items := ⟨_, hl, rfl, n, rfl⟩
    wp_walk using PySem.AutoSeq1.wpAny_loadPart' hl
    refine wpAny_stack_any fun st => wpAny_pure ?_
    split
    · rename_i c _ _ _ _ _
      cases (c == Value.type "enumerate")
      · wp_walk using PySem.AutoSeq1.wpAny_loadPart' hl, wpAny_pyIter_tuple hL
        exact ⟨_, rfl, h⟩
      · wp_walk using PySem.AutoSeq1.wpAny_loadPart' hl, wpAny_pyIter_tuple hL
        exact ⟨_, rfl, h⟩
    · wp_walk using PySem.AutoSeq1.wpAny_loadPart' hl, wpAny_pyIter_tuple hL
      exact ⟨_, rfl, h⟩
section
variable {prog : Program} {w : World} {A : Around} {E : Value → Shared → Prop} {s : Shared}
theorem call_enumerate_tuple {l : Addr} {items : Array Value} {Q : Value → Shared → Prop} (hL : s.heap.IsTuple l items)
    (h : ∀ h', IsEnum h' (s.heap.objs.size + 1) s.heap.objs.size 0 .none → h'.IsTupleIter s.heap.objs.size l 0 → h'.objs.size = s.heap.objs.size + 2 →
      (∀ b o, s.heap.get? b = some o → h'.get? b = some o) → Q (.ref (s.heap.objs.size + 1)) { s with heap := h' }) :
    wpAny (model prog w) A (call (.type "enumerate") [.ref l]) Q E s := by
  obtain ⟨⟨c, dct, dt, sl⟩, hl, hc, n, hd⟩ := hL
  replace hc : c = .type "tuple" := hc
  replace hd : dt = .seq items n := hd
  subst hc hd
  refine callType_new F.called_enumerate (by decide) (F.typeCall_enumerate_1 _) (F.newCall_enumerate_1 _) (fun obj => F.args_object_init_2 obj _) F.entry_enumerate_new
    (meets_enumerate_newT l items n dct sl) ⟨hl, ?_⟩
  have hz : (s.heap.push { cls := .type "tuple_iterator", data := .fields #[.ref l, .int 0 0] }).objs.size = s.heap.objs.size + 1 := Heap.size_push ..
  show _ ∧ _
  rw [hz]
  have he : IsEnum ((s.heap.push { cls := .type "tuple_iterator", data := .fields #[.ref l, .int 0 0] }).push
      { cls := .type "enumerate", data := .fields #[.none, .bool false, .ref s.heap.objs.size, rawInt 0, .none, .none] }) (s.heap.objs.size + 1) s.heap.objs.size 0 .none := by
    have := Heap.get?_push_size (s.heap.push { cls := .type "tuple_iterator", data := .fields #[.ref l, .int 0 0] })
      (o := { cls := .type "enumerate", data := .fields #[.none, .bool false, .ref s.heap.objs.size, rawInt 0, .none, .none] }) rfl
    rw [hz] at this; exact this
  refine ⟨⟨_, he, rfl⟩, h _ he ⟨_, Heap.get?_push_of_some _ (Heap.get?_push_size _ rfl), rfl, rfl⟩ (by rw [Heap.size_push, hz]) fun b o x => Heap.get?_push_of_some _ (Heap.get?_push_of_some _ x)⟩
end
/-- the tuple at a, each item in a new pair -/
def IteT (K : PySem.W.Frag) (a : Addr) : It :=
  ⟨fun i H => ∃ (xs : List V) (x : V), SqT K H a xs ∧ xs[i]? = some x, fun i H v H' => ∃ T x, v = .ref T ∧ H T = none ∧ H' = upd H T (.tup [.int (i : Nat), x]) ∧ ∀ xs, SqT K H a xs → xs[i]? = some x, fun i H => ∃ xs : List V, SqT K H a xs ∧ xs.length ≤ i⟩
theorem turn_enumT {P : Program} {w : World} {K : PySem.W.Frag} {elts : List Expr} {kk : Nat} {tpos : Pos} (a e it : Addr) (hae : a ≠ e) (hai : a ≠ it) :
    Turn P w K (.Tuple elts kk tpos) (IteT K a) [e, it] e (fun i h => (∃ old, IsEnum h e it ((i : Nat) : Int) old) ∧ h.IsTupleIter it a i ∧ e ≠ it) where
  mem := by simp
  obj := fun i h st b hb => by
    obtain ⟨⟨old, he⟩, ⟨o, ho, hc, hd⟩, _⟩ := st
    have e' : b = e ∨ b = it := by simpa using hb
    rcases e' with z | z
    · rw [z]; exact ⟨_, he, fun v q => nomatch q⟩
    · rw [z]; exact ⟨o, ho, fun v q => by rw [hd] at q; cases q⟩
  keep := fun i h h' st k => let ⟨⟨old, he⟩, hi, hne⟩ := st; ⟨⟨old, k e (by simp) _ he⟩, hi.at fun o q => k it (by simp) o q, hne⟩
  item := by
    intro X hP hw hK hc i pins s σ H E I hf st hg
    subst hP hw hK
    obtain ⟨⟨old, he⟩, hit, hne⟩ := st
    obtain ⟨xs, x, hq, hx⟩ := hg
    obtain ⟨its, rv, p, hz⟩ := I.tuple hq
    obtain ⟨u, hu, ru⟩ := rv.get hx
    have hel : e < s.heap.objs.size := Heap.lt_size he
    have hil : it < s.heap.objs.size := by obtain ⟨_, q, _⟩ := hit; exact Heap.lt_size q
    have hiv : i < its.toArray.size := by
      have := (List.getElem?_eq_some_iff.mp hu).1
      simpa using this
    have D : Draws X.prog X.w X.A.in1 it [it, a] its.toArray.size (fun i v => its.toArray[i]? = some v) (fun i h => h.IsTupleIter it a i ∧ h.IsTuple a its.toArray) := Draws.tuple (A := X.A.in1) (show (X.A.in1).handled = none from I.ok.hd hc) it a hai its.toArray
    refine wpAny_pyNext_enum_itemD D he ⟨hit, show s.heap.IsTuple a its.toArray from p⟩ hiv hne (by simp [hne, Ne.symm hae]) fun x' h' tk hx' ho hst hT hsz hk => ?_
    obtain rfl : x' = u := by
      have : its[i]? = some x' := by simpa using hx'
      rw [hu] at this
      exact (Option.some.inj this).symm
    obtain ⟨hit', _⟩ := hst
    refine ⟨_, rfl, wpAny_letOwnedTupleGo_enum (s := { s with heap := h', toks := tk + 1 }) ho fun h'' he' sb => ?_⟩
    have hT2 : h''.get? s.heap.objs.size = some { cls := .type "tuple", data := .seq #[.int i tk, x'] } := (sb.2 _ (Nat.ne_of_gt hel)).trans hT
    have new : ObjOk X.prog X.w (upd H s.heap.objs.size (.tup [.int (i : Nat), x])) h'' s.heap.objs.size (.tup [.int (i : Nat), x]) :=
      ⟨by show 2 ≤ sizeLine; decide, [.int i tk, x'], .cons ⟨_, rfl⟩ (.cons ru .nil), ⟨_, hT2, rfl, _, rfl⟩⟩
    have I1 : Inv X pins σ (upd H s.heap.objs.size (.tup [.int (i : Nat), x])) { s with heap := h'', toks := tk + 1 } :=
      I.turnedNew (ch := [e, it]) (fun b ob hb q => (sb.2 b (fun z => hb (by simp [z]))).trans (hk b ob (fun z => hb (by simp [z])) (fun z => hb (by simp [z])) q)) hf (Nat.le_refl _) new
    refine ⟨.ref s.heap.objs.size, _, I1, rfl, ⟨_, x, rfl, I.hok.fresh (Nat.le_refl _), rfl, fun ys hy => by rw [I.tuple_inj hy hq]; exact hx⟩, ⟨⟨x', ?_⟩, hit'.at fun o q => (sb.2 it (Ne.symm hne)).trans q, hne⟩, fun b hb => ?_⟩
    · have e1 : ((i + 1 : Nat) : Int) = (i : Int) + 1 := by omega
      rw [e1]; exact he'
    · have hb' : b < s.heap.objs.size := by
        have e' : b = e ∨ b = it := by simpa using hb
        rcases e' with z | z
        · rw [z]; exact hel
        · rw [z]; exact hil
      rw [upd_ne (Nat.ne_of_lt hb')]
      exact (hf b hb).1
  done := by
    intro X hP hw hK hc i pins s σ H E I hf st hg
    subst hP hw hK
    obtain ⟨⟨old, he⟩, hit, hne⟩ := st
    obtain ⟨xs, hq, hx⟩ := hg
    obtain ⟨its, rv, p, hz⟩ := I.tuple hq
    obtain ⟨f0, f1, f2, f3, f4, f5⟩ := hf it (by simp)
    have hl := rv.length
    unfold pyNext
    have hT : s.TypeIs (.ref e) "enumerate" := ⟨_, he, rfl⟩
    refine wpAny_bind (wpAny_attempt (wpAny_callSpecial?_slot (name := Str.ofString "__next__") hT F.slot_enumerate_next
      (wpAny_call_entry F.slot_enumerate_next hT F.entry_enumerate_next ?_ (F.args_enumerate_next_1 _))))
    show wpAny _ _ (field (.ref e) 2 >>= _) _ _ _
    refine wpAny_bind (wpAny_field he rfl (x := .ref it) rfl ?_)
    refine wpAny_bind (wpAny_nextOf_tuple_end (show (X.A.in1).handled = none from I.ok.hd hc) hit (show s.heap.IsTuple a its.toArray from p) (by simp; omega) fun h' x he' hx' => ?_)
    obtain ⟨o, ho, hc'⟩ := hx'
    refine wpAny_bind (wpAny_isInstance (T := "StopIteration") (b := true) ⟨o, ho, hc'⟩ isSubtype_stop ?_)
    exact wpAny_pure ⟨rfl, I.turned (t' := s.toks) (fun b o hb q => he' b o hb q) f0 f1 f3 f4 f5⟩
  self := fun A i s Q E st h => let ⟨⟨_, he⟩, _⟩ := st; wpAny_pyIter_enum he h

section
variable {X : Cx} {E : XK}
/-! ### what is walked, as a list of values -/
structure Src (K : PySem.W.Frag) (mg : Str → Option Value) (W : Wd) (J : It) (items : List Val) : Prop where
  go : ∀ i W', Grow W W' → i < items.length → J.go i W'.H
  stop : ∀ W', Grow W W' → J.stop items.length W'.H
  yld : ∀ i W' x H' v, Grow W W' → SR K mg W' → items[i]? = some v → J.yld i W'.H x H' → ∃ W'', W''.H = H' ∧ W''.S = W'.S ∧ Grow W' W'' ∧ SR K mg W'' ∧ VR K W'' x v
theorem SqT.mono {K} {W W' : Wd} {a xs} (h : TupAt W a xs) (g : Grow W W') : SqT K W'.H a xs := (h.mono g).sq
theorem Src.tup {K mg} {W : Wd} {a : Addr} {xs : List V} {l : List Val} (hs : ∀ W', Grow W W' → SqT K W'.H a xs) (r : VRs K W xs l) : Src K mg W (Itt K a) l where
  go := fun i W' g h => by
    obtain ⟨x, e, _⟩ := r.get (List.getElem?_eq_getElem h)
    exact ⟨xs, x, hs W' g, e⟩
  stop := fun W' g => ⟨xs, hs W' g, by rw [r.length]; exact Nat.le_refl _⟩
  yld := fun i W' x H' v g s e y => by
    obtain ⟨rfl, y⟩ := y
    obtain ⟨x', e', q⟩ := r.get e
    have := y xs (hs W' g)
    rw [e'] at this
    cases this
    exact ⟨W', rfl, rfl, Grow.refl _, s, q.mono g⟩
theorem Src.lst {K mg} {W : Wd} {a : Addr} {xs : List V} {l : List Val} (hs : ∀ W', Grow W W' → SqL K W'.H a xs) (r : VRs K W xs l) : Src K mg W (Itl K a) l where
  go := fun i W' g h => by
    obtain ⟨x, e, _⟩ := r.get (List.getElem?_eq_getElem h)
    exact ⟨xs, x, hs W' g, e⟩
  stop := fun W' g => ⟨xs, hs W' g, by rw [r.length]; exact Nat.le_refl _⟩
  yld := fun i W' x H' v g s e y => by
    obtain ⟨rfl, y⟩ := y
    obtain ⟨x', e', q⟩ := r.get e
    have := y xs (hs W' g)
    rw [e'] at this
    cases this
    exact ⟨W', rfl, rfl, Grow.refl _, s, q.mono g⟩
theorem Src.str {K mg} {W : Wd} (l : List Nat) : Src K mg W (Its (L3.mk l)) (l.map fun c => .str [c]) where
  go := fun i W' g h => by
    show i < (L3.mk l).cps.size
    simpa [L3.mk] using h
  stop := fun W' g => by
    show (L3.mk l).cps.size ≤ _
    simp [L3.mk]
  yld := fun i W' x H' v g s e y => by
    obtain ⟨rfl, c, hc, rfl⟩ := y
    rw [List.getElem?_map] at e
    have hc' : l[i]? = some c := by simpa [L3.mk] using hc
    rw [hc'] at e
    cases e
    exact ⟨W', rfl, rfl, Grow.refl _, s, .str [c]⟩
theorem Src.range {K mg} {W : Wd} (n : Nat) : Src K mg W (Itr 0 n) ((List.range n).map fun i => .int (i : Nat)) where
  go := fun i W' g h => by
    show i < n
    simpa using h
  stop := fun W' g => by
    show n ≤ _
    simp
  yld := fun i W' x H' v g s e y => by
    obtain ⟨rfl, rfl⟩ := y
    rw [List.getElem?_map] at e
    cases h : (List.range n)[i]? with
    | none => rw [h] at e; cases e
    | some j =>
      rw [h] at e
      cases e
      have : i = j := by
        obtain ⟨h1, h2⟩ := List.getElem?_eq_some_iff.mp h
        simpa using h2
      subst this
      exact ⟨W', rfl, rfl, Grow.refl _, s, by rw [Int.zero_add]; exact .int _⟩
theorem Src.enumT {K mg} {W : Wd} {a : Addr} {xs : List V} {l : List Val} (hs : ∀ W', Grow W W' → SqT K W'.H a xs) (r : VRs K W xs l) : Src K mg W (IteT K a) (l.zipIdx.map fun p => .tup [.int (p.2 : Nat), p.1]) where
  go := fun i W' g h => by
    obtain ⟨x, e, _⟩ := r.get (List.getElem?_eq_getElem (by simpa using h))
    exact ⟨xs, x, hs W' g, e⟩
  stop := fun W' g => ⟨xs, hs W' g, by rw [r.length]; simp⟩
  yld := fun i W' x H' v g s e y => by
    obtain ⟨T, x0, rfl, hT, rfl, y⟩ := y
    rw [List.getElem?_map, List.getElem?_zipIdx] at e
    cases h : l[i]? with
    | none => rw [h] at e; cases e
    | some v0 =>
      rw [h] at e
      simp only [Option.map_some, Nat.zero_add] at e
      cases e
      obtain ⟨x', e', q⟩ := r.get h
      have := y xs (hs W' g)
      rw [e'] at this
      cases this
      exact ⟨W'.put T _, rfl, rfl, Grow.new _ hT, s.new _ hT, .tup (.new s hT) (.cons (.int _) (.cons ((q.mono g).mono (Grow.new _ hT)) .nil))⟩
abbrev Iv := Sl → Store → OutL
def PostI (K : PySem.W.Frag) (mg : Str → Option Value) (E : XK) (W : Wd) (R : It → Hp → Prop) : OutL → Prop
  | .ok l S' => ∀ W' J, W'.S = S' → Grow W W' → SR K mg W' → Src K mg W' J l → R J W'.H
  | .ex c v S' => ∀ W' x C d, W'.S = S' → Grow W W' → SR K mg W' → VR K W' x v → mg c = some (.ref C) → W'.H d = some (.xd [(("thing" : Str), x)]) → ¬ Live W' d → E (.ref C) (some d) W'.H
  | .stuck => False
theorem PostI.trans {K mg} {W W1 : Wd} {R} {r : OutL} (h : PostI K mg E W R r) (g : Grow W W1) : PostI K mg E W1 R r := by
  cases r with
  | ok v S' => exact fun W' x e g' s r => h W' x e (g.trans g') s r
  | ex c v S' => exact fun W' x C d e g' s r => h W' x C d e (g.trans g') s r
  | stuck => exact h
def tI (X : Cx) (E : XK) (m : Iv) : TI := fun σ H R => ∃ W ρ, W.H = H ∧ SR X.K X.mg W ∧ Rel X.K W ρ σ ∧ PostI X.K X.mg E W R (m ρ W.S)
def SI (X : Cx) (E : XK) (tg e : Expr) (m : Iv) : Prop := PI X tg e (tI X E m)
theorem PI.imp {tg e : Expr} {t t' : TI} (h : PI X tg e t) (i : ∀ σ H R, t' σ H R → t σ H R) : PI X tg e t' := ⟨fun pins s σ H R I q => h.run pins s σ H R I (i _ _ _ q)⟩
theorem PostE.bindI {K mg} {W : Wd} {R} {r : Out} {k : Val → Store → OutL} (h : PostI K mg E W R (r.bindL k)) :
    PostE K mg E W (fun x H1 => ∃ W1 v, W1.H = H1 ∧ Grow W W1 ∧ SR K mg W1 ∧ VR K W1 x v ∧ PostI K mg E W1 R (k v W1.S)) r := by
  cases r with
  | ok v S' =>
    intro W' x e g s r
    have h' : PostI K mg E W R (k v S') := h
    exact ⟨W', v, rfl, g, s, r, by rw [e]; exact h'.trans g⟩
  | ex c v S' => exact h
  | stuck => exact h
def itemsOf : Val → Option (List Val)
  | .tup l | .lst l | .ktup l => some l
  | .str l => some (l.map fun c => .str [c])
  | .scr l => some (l.map .int)
  | _ => none
@[simp] def mIter (m : Ev) : Iv := fun ρ S => (m ρ S).bindL fun v S => match itemsOf v with
  | some l => .ok l S
  | none => .stuck
/-- a tuple, a list, a text -/
def iAny (K : PySem.W.Frag) (te : TE) : TI := fun σ H R => te σ H fun v H1 =>
  (∃ a, v = .ref a ∧ (∃ xs, SqL K H1 a xs) ∧ R (Itl K a) H1) ∨ (∃ a, v = .ref a ∧ (∃ xs, SqT K H1 a xs) ∧ R (Itt K a) H1) ∨ ∃ x, v = .str x ∧ R (Its x) H1
theorem pi_any {tg e : Expr} {te : TE} (he : PE X e te) : PI X tg e (iAny X.K te) := by
  refine ⟨fun pins s σ H R I h => ?_⟩
  refine thn (he.run pins s σ H _ I h) fun v s1 ⟨x, H1, I1, r1, q1⟩ => ?_
  rcases q1 with ⟨a, rfl, ⟨xs, hq⟩, q⟩ | ⟨a, rfl, ⟨xs, hq⟩, q⟩ | ⟨y, rfl, q⟩
  · cases r1
    obtain ⟨its, rv, p, hz⟩ := I1.list hq
    refine wpAny_pyIter_list p.isList ?_
    refine ⟨s1.heap.objs.size, [s1.heap.objs.size], _, _, H1, rfl, I1.kept (t' := s1.toks) fun b o e => Heap.get?_push_of_some _ e, turn_list a _, ⟨_, Heap.get?_push_size _ rfl, rfl, rfl⟩, fun b hb => ?_, q⟩
    have e : b = s1.heap.objs.size := by simpa using hb
    subst e
    exact I1.fpOk (Nat.le_refl _) (I1.hok.fresh (Nat.le_refl _))
  · cases r1
    obtain ⟨its, rv, p, hz⟩ := I1.tuple hq
    refine wpAny_pyIter_tuple (show s1.heap.IsTuple a its.toArray from p) ?_
    refine ⟨s1.heap.objs.size, [s1.heap.objs.size], _, _, H1, rfl, I1.kept (t' := s1.toks) fun b o e => Heap.get?_push_of_some _ e, turn_tuple a _, ⟨_, Heap.get?_push_size _ rfl, rfl, rfl⟩, fun b hb => ?_, q⟩
    have e : b = s1.heap.objs.size := by simpa using hb
    subst e
    exact I1.fpOk (Nat.le_refl _) (I1.hok.fresh (Nat.le_refl _))
  · obtain ⟨t, rfl⟩ := r1
    cases ha : y.cps.all (· < 128)
    · exact wpAny_pyIter_wide ha (pi_one (tk := s1.toks) I1 _ (turn_str _ y t "str_iterator" (.inr rfl)) ⟨_, Heap.get?_push_size _ rfl, rfl, rfl⟩ q)
    · exact wpAny_pyIter_ascii ha (pi_one (tk := s1.toks) I1 _ (turn_str _ y t "str_ascii_iterator" (.inl rfl)) ⟨_, Heap.get?_push_size _ rfl, rfl, rfl⟩ q)
theorem si_any {tg e : Expr} {m : Ev} (he : SE X E e m) : SI X E tg e (mIter m) := by
  refine PI.imp (pi_any he) fun σ H R h => ?_
  obtain ⟨W, ρ, rfl, s, r, h⟩ := h
  refine ⟨W, ρ, rfl, s, r, imp_e (PostE.bindI (show PostI _ _ _ _ _ ((m ρ W.S).bindL _) from h)) fun x H1 q => ?_⟩
  obtain ⟨W1, v, rfl, g1, s1, r1, q⟩ := q
  cases r1 <;> simp only [itemsOf] at q <;> first | exact q.elim | skip
  · rename_i l
    exact .inr (.inr ⟨mk l, rfl, q W1 _ rfl (Grow.refl _) s1 (Src.str l)⟩)
  · rename_i a xs l t r
    exact .inr (.inl ⟨a, rfl, ⟨xs, t.sq⟩, q W1 _ rfl (Grow.refl _) s1 (Src.tup (fun W' g => (t.mono g).sq) r)⟩)
  · rename_i a xs l t r
    exact .inl ⟨a, rfl, ⟨xs, t.sq⟩, q W1 _ rfl (Grow.refl _) s1 (Src.lst (fun W' g => (t.mono g).sq) r)⟩
  · rename_i a xs l t r
    exact .inr (.inl ⟨a, rfl, ⟨xs, .inr t⟩, q W1 _ rfl (Grow.refl _) s1 (Src.tup (fun W' g => .inr t) r)⟩)
  · rename_i a ns t
    exact .inl ⟨a, rfl, ⟨_, t.sq⟩, q W1 _ rfl (Grow.refl _) s1 (Src.lst (fun W' g => (t.mono g).sq) (VRs.ints ns))⟩
@[simp] def mRange (m : Ev) : Iv := fun ρ S => (m ρ S).bindL fun v S => match v with
  | .int j => if decide (0 ≤ j ∧ j ≤ 1000000) then .ok ((List.range j.toNat).map fun i => .int (i : Nat)) S else .stuck
  | _ => .stuck
theorem si_range {tg a : Expr} {m : Ev} {p pos : Pos} (hg : Gl X "range") (hm : X.mg "range" = none) (ha : SE X E a m) (hs : starEach [a] X.env = [(false, eval a X.env)] := by rfl) (hs' : starEach (a :: []) X.env = (false, eval a X.env) :: starEach [] X.env := by rfl) : SI X E tg (.Call (.Name "range" p) [a] [] pos) (mRange m) := by
  refine PI.imp (pi_range1 hg hm (pa_cons ha pa_nil hs') hs) fun σ H R h => ?_
  obtain ⟨W, ρ, rfl, s, r, h⟩ := h
  refine ⟨W, ρ, rfl, s, r, imp_e (PostE.bindI (show PostI _ _ _ _ _ ((m ρ W.S).bindL _) from h)) fun x H1 q => ?_⟩
  obtain ⟨W1, v, rfl, g1, s1, r1, q⟩ := q
  cases r1 <;> simp only at q <;> first | exact q.elim | skip
  split at q
  · rename_i j hj
    have hj := of_decide_eq_true hj
    exact ⟨j, rfl, by omega, by omega, q W1 _ rfl (Grow.refl _) s1 (Src.range j.toNat)⟩
  · exact q.elim
@[simp] def mEnum (m : Ev) : Iv := fun ρ S => (m ρ S).bindL fun v S => match v with
  | .tup l => .ok (l.zipIdx.map fun p => .tup [.int (p.2 : Nat), p.1]) S
  | _ => .stuck
theorem si_enum {e : Expr} {m : Ev} {p pos tpos : Pos} {elts : List Expr} {kk : Nat} (hg : Gl X "enumerate") (hm : X.mg "enumerate" = none) (ha : SE X E e m) (hs : starEach [e] X.env = [(false, eval e X.env)] := by rfl) (hs' : starEach (e :: []) X.env = (false, eval e X.env) :: starEach [] X.env := by rfl) :
    SI X E (.Tuple elts kk tpos) (.Call (.Name "enumerate" p) [e] [] pos) (mEnum m) := by
  refine ⟨fun pins s σ H R I h => ?_⟩
  refine Call_ (ld_blt I hg hm boot_enumerate (PyProof.Rows.callWith_type1 (thn ((pa_cons (show PE X e (tE X E m) from ha) pa_nil hs').run pos pins s σ H (fun vs H1 => ∃ (a : Addr) (xs : List V) (W1 : Wd), vs = [.ref a] ∧ W1.H = H1 ∧ W1.H a = some (HO.tup xs) ∧ R (IteT X.K a) H1) I ?_) fun us s1 ⟨vs, H1, I1, r1, q1⟩ => ?_) hs rfl))
  · obtain ⟨W, ρ, rfl, sr, r, h⟩ := h
    refine ⟨W, ρ, rfl, sr, r, imp_e (PostE.bindI (show PostI _ _ _ _ _ ((m ρ W.S).bindL _) from h)) fun x H1 q => ?_⟩
    obtain ⟨W1, v, rfl, g1, s1, r1, q⟩ := q
    cases r1 <;> simp only at q <;> first | exact q.elim | skip
    rename_i a xs l t r'
    exact ⟨a, xs, W1, rfl, rfl, t.1, q W1 _ rfl (Grow.refl _) s1 (Src.enumT (fun W' g => (t.mono g).sq) r')⟩
  · obtain ⟨a, xs, W1, rfl, rfl, ha, q⟩ := q1
    cases r1 with
    | cons r rr =>
      cases rr
      cases r
      obtain ⟨its, rv, p', hz⟩ := I1.tuple (.inl (.inl ha))
      have hal : a < s1.heap.objs.size := I1.hok.lt ha
      refine call_enumerate_tuple (show s1.heap.IsTuple a its.toArray from p') fun h' he hit hsz hk => wpAny_pyIter_enum he ?_
      have I2 : Inv X pins σ W1.H { s1 with heap := h' } := I1.kept (t' := s1.toks) hk
      refine ⟨s1.heap.objs.size + 1, [s1.heap.objs.size + 1, s1.heap.objs.size], _, _, W1.H, rfl, I2, turn_enumT a (s1.heap.objs.size + 1) s1.heap.objs.size (Nat.ne_of_lt (Nat.lt_succ_of_lt hal)) (Nat.ne_of_lt hal), ⟨⟨.none, he⟩, hit, Nat.succ_ne_self _⟩, fun b hb => ?_, q⟩
      have e' : b = s1.heap.objs.size + 1 ∨ b = s1.heap.objs.size := by simpa using hb
      have hle : s1.heap.objs.size ≤ b := by
        rcases e' with z | z
        · rw [z]; exact Nat.le_add_right _ _
        · rw [z]; exact Nat.le_refl _
      exact I1.fpOk hle (I1.hok.fresh hle)
end
end L3
/-! L3H: targets, statements, for, comprehensions. -/
namespace L3
open PySem PySem.Spec PyProof.Rows L2

section
variable {X : Cx} {E : XK}
/-! ### targets -/
abbrev Gv := Val → Sl → Option Sl
def tG (X : Cx) (g : Gv) : TG := fun x σ H Q => ∃ W ρ v, W.H = H ∧ SR X.K X.mg W ∧ Rel X.K W ρ σ ∧ VR X.K W x v ∧ ∃ ρ', g v ρ = some ρ' ∧ ∀ σ', Rel X.K W ρ' σ' → Q σ' H
def SG (X : Cx) (tg : Expr) (g : Gv) : Prop := PG X tg (tG X g)
theorem PG.imp {tg : Expr} {t t' : TG} (h : PG X tg t) (i : ∀ x σ H Q, t' x σ H Q → t x σ H Q) : PG X tg t' := ⟨fun pins s σ H v u Q I r q => h.run pins s σ H v u Q I r (i _ _ _ _ q)⟩
@[simp] def gNm (i : Nat) : Gv := fun v ρ => some (ρ.set i (some v))
theorem sg_name {i : Nat} {x : Str} {pos : Pos} (h : PG X (.Name x pos) (gName i)) : SG X (.Name x pos) (gNm i) :=
  PG.imp h fun x σ H Q h => by
    obtain ⟨W, ρ, v, rfl, s, r, rv, ρ', e, q⟩ := h
    cases e
    exact q _ (r.set i rv)
/-- names in a row -/
@[simp] def setAll : List Nat → List Val → Sl → Option Sl
  | [], [], ρ => some ρ
  | i :: is, v :: vs, ρ => setAll is vs (ρ.set i (some v))
  | _, _, _ => none
def tNms : List Nat → TGs := fun is vs σ H Q => match is, vs with
  | [], [] => Q σ H
  | i :: is, v :: vs => tNms is vs (σ.set i (some v)) H Q
  | _, _ => False
theorem pgs_names_nil : PGs X [] (tNms []) := ⟨fun pins s σ H vs us Q I r h => by
  cases vs with
  | nil => exact pgs_nil.run pins s σ H [] us Q I r ⟨rfl, h⟩
  | cons _ _ => exact (show False from h).elim⟩
theorem pgs_names_cons {x : Str} {pos : Pos} {i : Nat} {is : List Nat} {es : List Expr} (h : PG X (.Name x pos) (gName i)) (hr : PGs X es (tNms is))
    (hs : (assignEach (.Name x pos :: es) X.env).map (·.2) = assign (.Name x pos) X.env :: (assignEach es X.env).map (·.2) := by rfl) : PGs X (.Name x pos :: es) (tNms (i :: is)) := ⟨fun pins s σ H vs us Q I r q => by
  cases vs with
  | nil => exact (show False from q).elim
  | cons v vs => exact (pgs_cons h hr hs).run pins s σ H (v :: vs) us Q I r ⟨v, vs, rfl, q⟩⟩
@[simp] def gTp (is : List Nat) : Gv := fun v ρ => match v with
  | .tup l => setAll is l ρ
  | _ => none
theorem setAll_nms {W : Wd} : ∀ (is : List Nat) (l : List Val) (xs : List V) (ρ ρ' : Sl) (σ : L2.St) (Q : L2.St → Hp → Prop), setAll is l ρ = some ρ' → VRs X.K W xs l → Rel X.K W ρ σ → (∀ σ', Rel X.K W ρ' σ' → Q σ' W.H) → tNms is xs σ W.H Q ∧ xs.length = is.length
  | [], [], _, ρ, ρ', σ, Q, h, .nil, r, q => by
    simp only [setAll] at h
    cases h
    exact ⟨q _ r, rfl⟩
  | [], _ :: _, _, _, _, _, _, h, _, _, _ => by simp [setAll] at h
  | _ :: _, [], _, _, _, _, _, h, _, _, _ => by simp [setAll] at h
  | i :: is, v :: l, _, ρ, ρ', σ, Q, h, .cons rv rs, r, q => by
    simp only [setAll] at h
    obtain ⟨h1, h2⟩ := setAll_nms is l _ _ _ _ Q h rs (r.set i rv) q
    exact ⟨h1, by simp [h2]⟩
theorem sg_tup {es : List Expr} {k : Nat} {pos : Pos} {is : List Nat} (hc : X.calm = true) (h : PGs X es (tNms is)) (hn : (assignEach es X.env).length = is.length := by rfl) (hst : (assignEach es X.env).findIdx? (·.1) = none := by rfl) : SG X (.Tuple es k pos) (gTp is) :=
  PG.imp (pg_tup hc h hn hst) fun x σ H Q h => by
    obtain ⟨W, ρ, v, rfl, s, r, rv, ρ', e, q⟩ := h
    simp only [gTp] at e
    cases rv <;> simp only at e <;> first | (cases e; done) | skip
    rename_i a xs l t rs
    obtain ⟨h1, h2⟩ := setAll_nms is l xs ρ ρ' σ Q e rs r q
    exact ⟨a, xs, rfl, t.sq, h2, h1⟩

/-! ### statements -/
theorem imp_s {K mg} {W : Wd} {Q Q' : VK} {r : Out} (h : PostE K mg E W Q r) (q : ∀ xs H, Q xs H → Q' xs H) : PostE K mg E W Q' r := imp_e h q
@[simp] def mSeq (a b : Sv) : Sv := fun ρ S => (a ρ S).bind b
@[simp] def mNil : Sv := fun ρ S => .nx ρ S
theorem ss_nil : SSs X E [] mNil := by
  refine PSs.imp pss_nil fun D σ H h => ?_
  obtain ⟨W, ρ, rfl, s, r, h⟩ := h
  exact h W σ rfl (Grow.refl W) s r
theorem post_seq {K mg} {W : Wd} {D : Ends} {a b : Sv} {ρ : Sl} (h : PostS K mg E W D ((a ρ W.S).bind b)) :
    PostS K mg E W { D with nx := fun σ H => ∃ W1 ρ1, W1.H = H ∧ SR K mg W1 ∧ Rel K W1 ρ1 σ ∧ PostS K mg E W1 D (b ρ1 W1.S) } (a ρ W.S) := by
  cases hm : a ρ W.S with
  | nx ρ1 S1 =>
    rw [hm] at h
    have h' : PostS K mg E W D (b ρ1 S1) := h
    exact fun W' σ e g s r => ⟨W', ρ1, rfl, s, r, by rw [e]; exact h'.trans g⟩
  | rt v S1 => rw [hm] at h; exact h
  | bk ρ S1 => rw [hm] at h; exact h
  | ct ρ S1 => rw [hm] at h; exact h
  | ex c v S1 => rw [hm] at h; exact h
  | stuck => rw [hm] at h; exact h
theorem ss_cons {st : Stmt} {rest : List Stmt} {a b : Sv} (h1 : SS X E st a) (h2 : SSs X E rest b) : SSs X E (st :: rest) (mSeq a b) :=
  PSs.imp (pss_cons h1 h2) fun D σ H h => by
    obtain ⟨W, ρ, rfl, s, r, h⟩ := h
    exact ⟨W, ρ, rfl, s, r, post_seq h⟩
theorem ss_one {st : Stmt} {a : Sv} (h : SS X E st a) : SSs X E [st] a := pss_one h
@[simp] def mRet (m : Ev) : Sv := fun ρ S => (m ρ S).bindS fun v S => .rt v S
theorem ss_ret {e : Expr} {m : Ev} {pos : Pos} (he : SE X E e m) : SS X E (.Return (some e) pos) (mRet m) :=
  PS.imp (ps_ret he) fun D σ H h => by
    obtain ⟨W, ρ, rfl, s, r, h⟩ := h
    refine ⟨W, ρ, rfl, s, r, imp_e (PostE.bindS (show PostS _ _ _ _ _ ((m ρ W.S).bindS _) from h)) fun x H1 q => ?_⟩
    obtain ⟨W1, v, rfl, g1, s1, r1, q⟩ := q
    exact q W1 x rfl (Grow.refl _) s1 r1
@[simp] def mRetN : Sv := fun _ S => .rt .non S
theorem ss_retN {pos : Pos} : SS X E (.Return none pos) mRetN :=
  PS.imp ps_retN fun D σ H h => by
    obtain ⟨W, ρ, rfl, s, r, h⟩ := h
    exact h W .non rfl (Grow.refl _) s .non
@[simp] def mDrop (m : Ev) : Sv := fun ρ S => (m ρ S).bindS fun _ S => .nx ρ S
theorem ss_expr {e : Expr} {m : Ev} {pos : Pos} (he : SE X E e m) (hs : swapsWith e none pos.line X.env = pure false := by rfl) : SS X E (.Expr e pos) (mDrop m) :=
  PS.imp (ps_expr he hs) fun D σ H h => by
    obtain ⟨W, ρ, rfl, s, r, h⟩ := h
    refine ⟨W, ρ, rfl, s, r, imp_e (PostE.bindS (show PostS _ _ _ _ _ ((m ρ W.S).bindS _) from h)) fun x H1 q => ?_⟩
    obtain ⟨W1, v, rfl, g1, s1, r1, q⟩ := q
    exact q W1 σ rfl (Grow.refl _) s1 (r.mono g1)
@[simp] def mSet (i : Nat) (m : Ev) : Sv := fun ρ S => (m ρ S).bindS fun v S => .nx (ρ.set i (some v)) S
theorem ss_set {i : Nat} {x : Str} {e : Expr} {m : Ev} {pos pos' : Pos} (hN : X.N.Nodup) (hi : X.N[i]? = some x) (hx : Loc X.env.scope x) (he : SE X E e m) (hs : swapsWith e (some (.Name x pos')) pos.line X.env = pure false := by rfl)
    (hf : X.fn x = true ∨ X.env.scope.names.lookup x = some .local := by first | exact .inl rfl | exact .inr rfl | assumption) : SS X E (.Assign [.Name x pos'] e pos) (mSet i m) :=
  PS.imp (ps_set hN hi hx he hs hf) fun D σ H h => by
    obtain ⟨W, ρ, rfl, s, r, h⟩ := h
    refine ⟨W, ρ, rfl, s, r, imp_e (PostE.bindS (show PostS _ _ _ _ _ ((m ρ W.S).bindS _) from h)) fun x H1 q => ?_⟩
    obtain ⟨W1, v, rfl, g1, s1, r1, q⟩ := q
    exact q W1 _ rfl (Grow.refl _) s1 ((r.mono g1).set i r1)
@[simp] def mAsg (g : Gv) (m : Ev) : Sv := fun ρ S => (m ρ S).bindS fun v S => match g v ρ with
  | some ρ' => .nx ρ' S
  | none => .stuck
theorem ss_asg {tg e : Expr} {g : Gv} {m : Ev} {pos : Pos} (he : SE X E e m) (hg : SG X tg g) (hs : swapsWithSole [tg] e pos.line X.env = pure false := by rfl) (hw : swappedStores [tg] e X.env = pure none := by rfl)
    (h1 : (assignEach [tg] X.env).map (·.2) = [assign tg X.env] := by rfl) : SS X E (.Assign [tg] e pos) (mAsg g m) :=
  PS.imp (ps_asg he hg hs hw h1) fun D σ H h => by
    obtain ⟨W, ρ, rfl, s, r, h⟩ := h
    refine ⟨W, ρ, rfl, s, r, imp_e (PostE.bindS (show PostS _ _ _ _ _ ((m ρ W.S).bindS _) from h)) fun x H1 q => ?_⟩
    obtain ⟨W1, v, rfl, g1, s1, r1, q⟩ := q
    split at q
    · rename_i ρ' e
      exact ⟨W1, ρ, v, rfl, s1, r.mono g1, r1, ρ', e, fun σ' r' => q W1 σ' rfl (Grow.refl _) s1 r'⟩
    · exact q.elim
/-- a, b = x, y, both written, plain names -/
@[simp] def mPar (is : List Nat) (ms : List Ev) : Sv := fun ρ S => match mArgs ms ρ S with
  | .ok l S => (match setAll is l ρ with
    | some ρ' => .nx ρ' S
    | none => .stuck)
  | .ex c v S => .ex c v S
  | .stuck => .stuck
theorem ss_par {i j : Nat} {x y : Str} {a b : Expr} {ma mb : Ev} {px py pt pos : Pos} {kt k2 pt2} (hc : X.calm = true) (hN : X.N.Nodup) (hi : X.N[i]? = some x) (hj : X.N[j]? = some y) (hij : i ≠ j)
    (hx : X.env.scope.names.lookup x = some .local) (hy : X.env.scope.names.lookup y = some .local) (ha : SA X E [a, b] [ma, mb])
    (hw : swappedStores [.Tuple [.Name x px, .Name y py] kt pt] (.Tuple [a, b] k2 pt2) X.env = pure (some [x, y]))
    (hs : swapsWithSole [.Tuple [.Name x px, .Name y py] kt pt] (.Tuple [a, b] k2 pt2) pos.line X.env = pure false := by rfl) :
    SS X E (.Assign [.Tuple [.Name x px, .Name y py] kt pt] (.Tuple [a, b] k2 pt2) pos) (mPar [i, j] [ma, mb]) :=
  PS.imp (ps_par hc hN hi hj hij hx hy ha hw hs) fun D σ H h => by
    obtain ⟨W, ρ, rfl, s, r, h⟩ := h
    refine ⟨W, ρ, rfl, s, r, ?_⟩
    simp only [mPar] at h
    cases hm : mArgs [ma, mb] ρ W.S with
    | ok l S1 =>
      rw [hm] at h
      have hl : l.length = 2 := mArgs_len hm
      intro W' xs e g s' rx
      have hx := rx.length
      rw [hl] at hx
      match xs, hx, l, hl, rx with
      | [v, w], _, [c, d], _, .cons r1 (.cons r2 .nil) =>
        simp only [setAll] at h
        exact ⟨v, w, rfl, h W' _ e g s' (((r.mono g).set i r1).set j r2)⟩
    | ex c v S1 => rw [hm] at h; exact h
    | stuck => rw [hm] at h; exact h
@[simp] def mIfS (c : Tv) (a b : Sv) : Sv := fun ρ S => (c ρ S).bindS fun k S => if k then a ρ S else b ρ S
theorem ss_if {c : Expr} {a b : List Stmt} {mc : Tv} {ma mb : Sv} {pos : Pos} (hc : ST X E c mc) (ha : SSs X E a ma) (hb : SSs X E b mb) : SS X E (.If c a b pos) (mIfS mc ma mb) :=
  PS.imp (ps_if hc ha hb) fun D σ H h => by
    obtain ⟨W, ρ, rfl, s, r, h⟩ := h
    refine ⟨W, ρ, rfl, s, r, imp_b (PostB.bindS (show PostS _ _ _ _ _ ((mc ρ W.S).bindS _) from h)) fun b H1 q => ?_⟩
    obtain ⟨W1, rfl, g1, s1, q⟩ := q
    cases b with
    | true => exact ⟨W1, ρ, rfl, s1, r.mono g1, q⟩
    | false => exact ⟨W1, ρ, rfl, s1, r.mono g1, q⟩
theorem ss_pass {pos : Pos} : SS X E (.Pass pos) mNil :=
  PS.imp ps_pass fun D σ H h => by
    obtain ⟨W, ρ, rfl, s, r, h⟩ := h
    exact h W σ rfl (Grow.refl W) s r

/-! ### for -/
def forGo (g : Gv) (b : Sv) : List Val → Sl → Store → OutS
  | [], ρ, S => .nx ρ S
  | v :: l, ρ, S => match g v ρ with
    | some ρ1 => (match b ρ1 S with
      | .nx ρ2 S2 => forGo g b l ρ2 S2
      | .ct ρ2 S2 => forGo g b l ρ2 S2
      | .bk ρ2 S2 => .nx ρ2 S2
      | .rt v S2 => .rt v S2
      | .ex c v S2 => .ex c v S2
      | .stuck => .stuck)
    | none => .stuck
@[simp] theorem forGo_nil (g : Gv) (b : Sv) (ρ : Sl) (S : Store) : forGo g b [] ρ S = .nx ρ S := rfl
@[simp] def mFor (mi : Iv) (g : Gv) (b : Sv) : Sv := fun ρ S => match mi ρ S with
  | .ok l S => forGo g b l ρ S
  | .ex c v S => .ex c v S
  | .stuck => .stuck
theorem ss_for {tg iter : Expr} {body : List Stmt} {mi : Iv} {g : Gv} {b : Sv} {pos : Pos} (hp : PassesOwn (model X.prog X.w) X.A X.env X.xe) (hc : X.calm = true) (hi : SI X E tg iter mi) (hg : SG X tg g) (hb : SSs X E body b)
    (hs : ∀ x, foldedSetIterable iter X.env x = pure x := by intro _; rfl) : SS X E (.For tg iter body [] pos) (mFor mi g b) :=
  PS.imp (ps_for hp hc hi hg hb hs) fun D σ H h => by
    obtain ⟨W, ρ, rfl, s, r, h⟩ := h
    refine ⟨W, ρ, rfl, s, r, ?_⟩
    simp only [mFor] at h
    cases hm : mi ρ W.S with
    | ex c v S => rw [hm] at h; exact h
    | stuck => rw [hm] at h; exact h
    | ok l S1 =>
      rw [hm] at h
      intro W0 J e0 g0 s0 src
      -- the invariant: what is left of the loop gives the whole's end
      refine ⟨fun i m σ' H' => m = l.length - i ∧ i ≤ l.length ∧ ∃ W1 ρ1, W1.H = H' ∧ Grow W0 W1 ∧ SR X.K X.mg W1 ∧ Rel X.K W1 ρ1 σ' ∧ PostS X.K X.mg E W1 D (forGo g b (l.drop i) ρ1 W1.S), ⟨l.length, by simp, Nat.zero_le _, W0, ρ, rfl, Grow.refl _, s0, r.mono g0, ?_⟩, ?_⟩
      · rw [List.drop_zero, e0]
        exact h.trans g0
      · rintro i m σ' H' ⟨rfl, hi, W1, ρ1, rfl, g1, s1, r1, h1⟩
        by_cases hlt : i < l.length
        · refine .inr ⟨src.go i W1 g1 hlt, fun σ'' H'' => i + 1 ≤ l.length ∧ ∃ W1 ρ1, W1.H = H'' ∧ Grow W0 W1 ∧ SR X.K X.mg W1 ∧ Rel X.K W1 ρ1 σ'' ∧ PostS X.K X.mg E W1 D (forGo g b (l.drop (i + 1)) ρ1 W1.S), fun σ'' H'' q => ⟨l.length - (i + 1), by omega, rfl, q⟩, fun x H2 y => ?_⟩
          obtain ⟨W2, rfl, e2, g2, s2, rv⟩ := src.yld i W1 x H2 _ g1 s1 (List.getElem?_eq_getElem hlt) y
          rw [List.drop_eq_getElem_cons hlt] at h1
          unfold forGo at h1
          cases hg' : g l[i] ρ1 with
          | none => rw [hg'] at h1; exact h1.elim
          | some ρ2 =>
            rw [hg'] at h1
            refine ⟨W2, ρ1, _, rfl, s2, r1.mono g2, rv, ρ2, hg', fun σ2 r2 => ?_⟩
            refine ⟨W2, ρ2, rfl, s2, r2, ?_⟩
            simp only at h1
            rw [← e2] at h1
            have g02 := g1.trans g2
            cases hb' : b ρ2 W2.S with
            | nx ρ3 S3 =>
              rw [hb'] at h1
              intro W3 σ3 e3 g3 s3 r3
              refine ⟨hlt, W3, ρ3, rfl, g02.trans g3, s3, r3, ?_⟩
              rw [e3]
              exact (show PostS _ _ _ _ _ (forGo g b (l.drop (i + 1)) ρ3 S3) from h1).trans (g2.trans g3)
            | ct ρ3 S3 =>
              rw [hb'] at h1
              intro W3 σ3 e3 g3 s3 r3
              refine ⟨hlt, W3, ρ3, rfl, g02.trans g3, s3, r3, ?_⟩
              rw [e3]
              exact (show PostS _ _ _ _ _ (forGo g b (l.drop (i + 1)) ρ3 S3) from h1).trans (g2.trans g3)
            | bk ρ3 S3 =>
              rw [hb'] at h1
              exact fun W3 σ3 e3 g3 s3 r3 => h1 W3 σ3 e3 (g2.trans g3) s3 r3
            | rt v S3 =>
              rw [hb'] at h1
              exact fun W3 σ3 e3 g3 s3 r3 => h1 W3 σ3 e3 (g2.trans g3) s3 r3
            | ex c v S3 =>
              rw [hb'] at h1
              exact fun W3 x C d e3 g3 s3 r3 => h1 W3 x C d e3 (g2.trans g3) s3 r3
            | stuck => rw [hb'] at h1; exact h1
        · have e : i = l.length := by omega
          subst e
          rw [List.drop_length] at h1
          exact .inl ⟨src.stop W1 g1, h1 W1 σ' rfl (Grow.refl _) s1 r1⟩
end
end L3
/-! L3I: list comprehensions. -/
namespace L3
open PySem PySem.Spec PyProof.Rows L2

/-- an address is kept for oneself, with the list at it -/
def Wd.hold (W : Wd) (D : Addr) (xs : List V) : Wd := { W with H := upd W.H D (.lst xs), R := D :: W.R }
/-- .. and given up -/
def Wd.drop (W : Wd) (R : List Addr) : Wd := { W with R := R }
section
variable {K : PySem.W.Frag} {mg : Str → Option Value} {W W1 : Wd} {D : Addr}
theorem Grow.hold (xs : List V) (h : W.H D = none) : Grow W (W.hold D xs) where
  pre := fun _ _ h => h
  keep := fun b u e _ => by show upd W.H D _ b = some u; rw [upd_ne (ne_of_none e h)]; exact e
  res := fun b u _ e => by show upd W.H D _ b = some u; rw [upd_ne (ne_of_none e h)]; exact e
  live := fun b l => by
    rcases l with z | z
    · rcases List.mem_cons.mp z with z | z
      · exact .inr (z ▸ h)
      · exact .inl (.inl z)
    · exact .inl (.inr z)
  trk := fun b e => by
    by_cases hb : b = D
    · subst hb; exact h
    · have e' : upd W.H D _ b = none := e
      rw [upd_ne hb] at e'; exact e'
  r := fun b z => List.mem_cons_of_mem _ z
theorem SR.hold (s : SR K mg W) (xs : List V) (h : W.H D = none) : SR K mg (W.hold D xs) where
  len := s.len
  nd := s.nd
  nr := fun a ha z => by
    rcases List.mem_cons.mp z with z | z
    · exact s.trk a ha (z ▸ h)
    · exact s.nr a ha z
  at_ := fun n u e => by
    obtain ⟨a, e1, r⟩ := s.at_ n u e
    have hp : a ≠ D := fun z => s.trk a (List.mem_of_getElem? e1) (z ▸ h)
    refine ⟨a, e1, ?_⟩
    show OR K mg (W.hold D xs) (upd W.H D _ a) u
    rw [upd_ne hp]
    exact r.mono (Grow.hold xs h)
  res := fun a ha => by
    rcases List.mem_cons.mp ha with z | z
    · subst z
      show upd W.H a _ a ≠ none
      rw [upd_same]; simp
    · have : a ≠ D := fun q => s.res a z (q ▸ h)
      show upd W.H D _ a ≠ none
      rw [upd_ne this]; exact s.res a z
  trk := fun a ha => by
    have : a ≠ D := fun z => s.trk a ha (z ▸ h)
    show upd W.H D _ a ≠ none
    rw [upd_ne this]; exact s.trk a ha
  sm := by
    obtain ⟨o1, u1, e⟩ := s.sm
    exact ⟨o1, u1, by show upd W.H D _ _ = _; rw [upd_ne (ne_of_none e h)]; exact e⟩
  smB := s.smB
  smR := fun z => by
    obtain ⟨o1, u1, e⟩ := s.sm
    rcases List.mem_cons.mp z with z | z
    · rw [z, h] at e; cases e
    · exact s.smR z
  tb := s.tb
/-- the reserved list grows -/
theorem Grow.push (xs : List V) (hD : D ∈ W.R) (g : Grow W1 W) (h : W1.H D = none) : Grow W1 { W with H := upd W.H D (.lst xs) } where
  pre := g.pre
  keep := fun b u e l => by
    show upd W.H D _ b = some u
    rw [upd_ne (ne_of_none e h)]; exact g.keep b u e l
  res := fun b u z e => by
    show upd W.H D _ b = some u
    rw [upd_ne (ne_of_none e h)]; exact g.res b u z e
  live := g.live
  trk := fun b e => by
    by_cases hb : b = D
    · subst hb; exact h
    · have e' : upd W.H D _ b = none := e
      rw [upd_ne hb] at e'; exact g.trk b e'
  r := g.r
theorem upd_live {o : HO} {a : Addr} (hD : D ∈ W.R) (l : ¬ Live W a) : upd W.H D o a = W.H a := upd_ne fun z => l (.inl (by rw [z]; exact hD))
mutual
theorem VR.push (xs : List V) (hD : D ∈ W.R) : ∀ {x : V} {v : Val}, VR K W x v → VR K { W with H := upd W.H D (.lst xs) } x v
  | _, _, .non => .non
  | _, _, .bl b => .bl b
  | _, _, .int i => .int i
  | _, _, .str l => .str l
  | _, _, .tup h r => .tup ⟨(upd_live hD h.2).trans h.1, h.2⟩ (VRs.push xs hD r)
  | _, _, .lst h r => .lst ⟨(upd_live hD h.2).trans h.1, h.2⟩ (VRs.push xs hD r)
  | _, _, .dct h l r => .dct ((upd_live hD l).trans h) l (VRs.push xs hD r)
  | _, _, .rf h => .rf h
  | _, _, .ktup h r => .ktup h (VRs.push xs hD r)
  | _, _, .scr h => .scr (by
      rcases h with ⟨h1 | ⟨o, h1⟩, h2⟩ | h
      · exact .inl ⟨.inl ((upd_live hD h2).trans h1), h2⟩
      · exact .inl ⟨.inr ⟨o, (upd_live hD h2).trans h1⟩, h2⟩
      · exact .inr h)
theorem VRs.push (xs : List V) (hD : D ∈ W.R) : ∀ {ys : List V} {l : List Val}, VRs K W ys l → VRs K { W with H := upd W.H D (.lst xs) } ys l
  | _, _, .nil => .nil
  | _, _, .cons h r => .cons (VR.push xs hD h) (VRs.push xs hD r)
end
theorem OR.push (xs : List V) (hD : D ∈ W.R) {h : Option HO} {o : Ob} (r : OR K mg W h o) : OR K mg { W with H := upd W.H D (.lst xs) } h o := by
  cases o with
  | lst l => obtain ⟨xs, e, r⟩ := r; exact ⟨xs, e, r.push _ hD⟩
  | dk ks l => obtain ⟨kvs, e, e2, r⟩ := r; exact ⟨kvs, e, e2, r.push _ hD⟩
  | dt ks l => obtain ⟨kvs, e, e2, r⟩ := r; exact ⟨kvs, e, e2, r.push _ hD⟩
  | ins c ns l => obtain ⟨C, dx, fs, e0, e, e2, r⟩ := r; exact ⟨C, dx, fs, e0, e, e2, r.push _ hD⟩
  | tab P q =>
    obtain ⟨ps, e, t, r⟩ := r
    refine ⟨ps, e, t, fun pos cv hc => ?_⟩
    obtain ⟨c, e1, e2, l⟩ := r pos cv hc
    exact ⟨c, e1, (upd_live hD l).trans e2, l⟩
theorem SR.push (s : SR K mg W) (xs : List V) (hD : D ∈ W.R) : SR K mg { W with H := upd W.H D (.lst xs) } where
  len := s.len
  nd := s.nd
  nr := s.nr
  at_ := fun n u e => by
    obtain ⟨a, e1, r⟩ := s.at_ n u e
    have hp : a ≠ D := fun z => s.nr a (List.mem_of_getElem? e1) (z ▸ hD)
    refine ⟨a, e1, ?_⟩
    show OR K mg _ (upd W.H D _ a) u
    rw [upd_ne hp]
    exact r.push xs hD
  res := fun a ha => by
    by_cases z : a = D
    · subst z; show upd W.H a _ a ≠ none; rw [upd_same]; simp
    · show upd W.H D _ a ≠ none; rw [upd_ne z]; exact s.res a ha
  trk := fun a ha => by
    have : a ≠ D := fun z => s.nr a ha (z ▸ hD)
    show upd W.H D _ a ≠ none
    rw [upd_ne this]; exact s.trk a ha
  sm := by
    obtain ⟨o1, u1, e⟩ := s.sm
    exact ⟨o1, u1, by show upd W.H D _ _ = _; rw [upd_ne fun z => s.smR (by rw [z]; exact hD)]; exact e⟩
  smB := s.smB
  smR := s.smR
  tb := s.tb
/-- fewer live addresses, all else the same -/
theorem live_drop {R : List Addr} (hR : ∀ b ∈ R, b ∈ W.R) {a : Addr} (l : Live (W.drop R) a) : Live W a := by
  rcases l with z | z
  · exact .inl (hR a z)
  · exact .inr z
mutual
theorem VR.drop' {R : List Addr} (hR : ∀ b ∈ R, b ∈ W.R) : ∀ {x : V} {v : Val}, VR K W x v → VR K (W.drop R) x v
  | _, _, .non => .non
  | _, _, .bl b => .bl b
  | _, _, .int i => .int i
  | _, _, .str l => .str l
  | _, _, .tup h r => .tup ⟨h.1, fun z => h.2 (live_drop hR z)⟩ (VRs.drop' hR r)
  | _, _, .lst h r => .lst ⟨h.1, fun z => h.2 (live_drop hR z)⟩ (VRs.drop' hR r)
  | _, _, .dct h l r => .dct h (fun z => l (live_drop hR z)) (VRs.drop' hR r)
  | _, _, .rf h => .rf h
  | _, _, .ktup h r => .ktup h (VRs.drop' hR r)
  | _, _, .scr h => .scr (by
      rcases h with h | h
      · exact .inl ⟨h.1, fun z => h.2 (live_drop hR z)⟩
      · exact .inr h)
theorem VRs.drop' {R : List Addr} (hR : ∀ b ∈ R, b ∈ W.R) : ∀ {ys : List V} {l : List Val}, VRs K W ys l → VRs K (W.drop R) ys l
  | _, _, .nil => .nil
  | _, _, .cons h r => .cons (VR.drop' hR h) (VRs.drop' hR r)
end
theorem OR.drop' {R : List Addr} (hR : ∀ b ∈ R, b ∈ W.R) {h : Option HO} {o : Ob} (r : OR K mg W h o) : OR K mg (W.drop R) h o := by
  cases o with
  | lst l => obtain ⟨xs, e, r⟩ := r; exact ⟨xs, e, r.drop' hR⟩
  | dk ks l => obtain ⟨kvs, e, e2, r⟩ := r; exact ⟨kvs, e, e2, r.drop' hR⟩
  | dt ks l => obtain ⟨kvs, e, e2, r⟩ := r; exact ⟨kvs, e, e2, r.drop' hR⟩
  | ins c ns l => obtain ⟨C, dx, fs, e0, e, e2, r⟩ := r; exact ⟨C, dx, fs, e0, e, e2, r.drop' hR⟩
  | tab P q =>
    obtain ⟨ps, e, t, r⟩ := r
    refine ⟨ps, e, t, fun pos cv hc => ?_⟩
    obtain ⟨c, e1, e2, l⟩ := r pos cv hc
    exact ⟨c, e1, e2, fun z => l (live_drop hR z)⟩
theorem SR.drop' {R : List Addr} (s : SR K mg W) (hR : ∀ b ∈ R, b ∈ W.R) : SR K mg (W.drop R) where
  len := s.len
  nd := s.nd
  nr := fun a ha z => s.nr a ha (hR a z)
  at_ := fun n u e => by
    obtain ⟨a, e1, r⟩ := s.at_ n u e
    exact ⟨a, e1, r.drop' hR⟩
  res := fun a ha => s.res a (hR a ha)
  trk := s.trk
  sm := s.sm
  smB := s.smB
  smR := fun z => s.smR (hR _ z)
  tb := s.tb
theorem Grow.drop' {R : List Addr} (g : Grow W1 W) (hR : ∀ b ∈ R, b ∈ W.R) (hR1 : ∀ b ∈ W1.R, b ∈ R) : Grow W1 (W.drop R) where
  pre := g.pre
  keep := g.keep
  res := g.res
  live := fun b l => g.live b (live_drop hR l)
  trk := g.trk
  r := hR1
end

section
variable {X : Cx} {E : XK}
/-- the block's own names forgotten -/
def wipeR (ρ : Sl) : List Nat → Sl
  | [] => ρ
  | v :: vs => (wipeR ρ vs).set v none
theorem Rel.setN {K} {W : Wd} {ρ σ} (r : Rel K W ρ σ) (i : Nat) : Rel K W (ρ.set i none) (σ.set i none) := by
  refine ⟨by simp [r.len], fun j u e => ?_⟩
  by_cases hj : i = j
  · subst hj
    by_cases hi : i < ρ.length
    · rw [List.getElem?_set_self hi] at e
      cases e
    · rw [List.getElem?_eq_none (by simpa using hi)] at e
      cases e
  · rw [List.getElem?_set_ne hj] at e ⊢
    exact r.at_ j u e
theorem Rel.wipe {K} {W : Wd} {ρ σ} (r : Rel K W ρ σ) : ∀ vs : List Nat, Rel K W (wipeR ρ vs) (L2.wipe σ vs)
  | [] => r
  | v :: vs => (Rel.wipe r vs).setN v
theorem wipe_set1 (σ : L2.St) (i : Nat) (x : Option V) : L2.wipe ((L2.wipe σ [i]).set i x) [i] = L2.wipe σ [i] := by
  simp [L2.wipe, List.set_set]
/-- [elt for x in .. if ..] -/
def lcGo (i : Nat) (mt : Tv) (me : Ev) (ρ : Sl) : List Val → List Val → Store → Out
  | [], acc, S => .ok (.lst acc) S
  | v :: l, acc, S => match mt (ρ.set i (some v)) S with
    | .ok true S1 => (match me (ρ.set i (some v)) S1 with
      | .ok y S2 => if fit (acc.length + 1) then lcGo i mt me ρ l (acc ++ [y]) S2 else .stuck
      | _ => .stuck)
    | .ok false S1 => lcGo i mt me ρ l acc S1
    | _ => .stuck
@[simp] def mLc (i : Nat) (mi : Iv) (mt : Tv) (me : Ev) : Ev := fun ρ S => match mi ρ S with
  | .ok l S => lcGo i mt me (wipeR ρ [i]) l [] S
  | .ex c v S => .ex c v S
  | .stuck => .stuck
def tYesT : Tv := fun _ S => .ok true S
@[simp] theorem tYesT_eq (ρ : Sl) (S : Store) : tYesT ρ S = .ok true S := rfl
theorem lc_imp {i : Nat} {mi : Iv} {mt : Tv} {me : Ev} {σ : L2.St} {H : Hp} {Q : VK} (h : tE X E (mLc i mi mt me) σ H Q) :
    tLc (tI X E mi) (gName i) (tT X E0 mt) (tE X E0 me) [i] σ H Q := by
  obtain ⟨W, ρ, rfl, s, r, h⟩ := h
  refine ⟨W, ρ, rfl, s, r, ?_⟩
  simp only [mLc] at h
  cases hm : mi ρ W.S with
  | ex c v S => rw [hm] at h; exact h
  | stuck => rw [hm] at h; exact h
  | ok l S1 =>
    rw [hm] at h
    intro W0 J e0 g0 s0 src D hD
    have hpost : PostE X.K X.mg E W0 Q (lcGo i mt me (wipeR ρ [i]) l [] W0.S) := by rw [e0]; exact PostE.trans h g0
    have r0 := (r.mono g0).wipe [i]
    refine ⟨fun k m H' => m = l.length - k ∧ k ≤ l.length ∧ ∃ W1 acc accV, W1.H = H' ∧ Grow W0 W1 ∧ SR X.K X.mg W1 ∧ D ∈ W1.R ∧ W1.H D = some (.lst acc) ∧ VRs X.K W1 acc accV ∧ PostE X.K X.mg E W0 Q (lcGo i mt me (wipeR ρ [i]) (l.drop k) accV W1.S), ⟨l.length, by simp, Nat.zero_le _, W0.hold D [], [], [], rfl, Grow.hold [] hD, s0.hold [] hD, List.mem_cons_self, upd_same, .nil, by rw [List.drop_zero]; exact hpost⟩, ?_⟩
    rintro k m H' ⟨rfl, hk, W1, acc, accV, rfl, g1, s1, hR, hDa, ra, h1⟩
    by_cases hlt : k < l.length
    · refine .inr ⟨src.go k W1 g1 hlt, fun H'' => k + 1 ≤ l.length ∧ ∃ W1 acc accV, W1.H = H'' ∧ Grow W0 W1 ∧ SR X.K X.mg W1 ∧ D ∈ W1.R ∧ W1.H D = some (.lst acc) ∧ VRs X.K W1 acc accV ∧ PostE X.K X.mg E W0 Q (lcGo i mt me (wipeR ρ [i]) (l.drop (k + 1)) accV W1.S), fun H'' q => ⟨l.length - (k + 1), by omega, rfl, q⟩, fun x H2 y => ?_⟩
      obtain ⟨W2, rfl, e2, g2, s2, rv⟩ := src.yld k W1 x H2 _ g1 s1 (List.getElem?_eq_getElem hlt) y
      rw [List.drop_eq_getElem_cons hlt] at h1
      unfold lcGo at h1
      rw [← e2] at h1
      have g02 := g1.trans g2
      have hR2 : D ∈ W2.R := g2.r D hR
      have hD2 : W2.H D = some (.lst acc) := g2.res D _ hR hDa
      show (fun σ2 H2 => _) _ _
      refine ⟨wipe_set1 σ i (some x), W2, (wipeR ρ [i]).set i (some l[k]), rfl, s2, (r0.mono g02).set i rv, ?_⟩
      cases ht : mt ((wipeR ρ [i]).set i (some l[k])) W2.S with
      | stuck => rw [ht] at h1; exact h1.elim
      | ex c v S => rw [ht] at h1; exact h1.elim
      | ok b S3 =>
        rw [ht] at h1
        cases b with
        | false =>
          intro W3 e3 g3 s3
          rw [if_neg Bool.false_ne_true]
          exact ⟨hlt, W3, acc, accV, rfl, g02.trans g3, s3, g3.r D hR2, g3.res D _ hR2 hD2, (ra.mono g2).mono g3, by rw [e3]; exact h1⟩
        | true =>
          intro W3 e3 g3 s3
          rw [if_pos rfl]
          refine ⟨W3, (wipeR ρ [i]).set i (some l[k]), rfl, s3, ((r0.mono g02).set i rv).mono g3, ?_⟩
          simp only at h1
          rw [← e3] at h1
          cases he : me ((wipeR ρ [i]).set i (some l[k])) W3.S with
          | stuck => rw [he] at h1; exact h1.elim
          | ex c v S => rw [he] at h1; exact h1.elim
          | ok y S4 =>
            rw [he] at h1
            simp only at h1
            intro W4 yv e4 g4 s4 ry
            have hR4 : D ∈ W4.R := g4.r D (g3.r D hR2)
            have hD4 : W4.H D = some (.lst acc) := g4.res D _ (g3.r D hR2) (g3.res D _ hR2 hD2)
            have ra4 : VRs X.K W4 acc accV := ((ra.mono g2).mono g3).mono g4
            split at h1
            · rename_i hf
              refine ⟨acc, hD4, ?_, hlt, { W4 with H := upd W4.H D (.lst (acc ++ [yv])) }, acc ++ [yv], accV ++ [y], rfl, Grow.push _ hR4 ((g02.trans g3).trans g4) hD, s4.push _ hR4, hR4, upd_same, (ra4.push _ hR4).append (.cons (ry.push _ hR4) .nil), ?_⟩
              · have := fit_line hf
                rw [ra4.length]
                omega
              · show PostE X.K X.mg E W0 Q (lcGo i mt me (wipeR ρ [i]) (l.drop (k + 1)) (accV ++ [y]) W4.S)
                rw [e4]
                exact h1
            · exact h1.elim
    · have e : k = l.length := by omega
      subst e
      rw [List.drop_length] at h1
      refine .inl ⟨src.stop W1 g1, ?_⟩
      have hR0 : ∀ b ∈ W0.R, b ∈ W1.R := fun b z => g1.r b z
      have gd : Grow W0 (W1.drop W0.R) := g1.drop' hR0 fun b z => z
      refine h1 (W1.drop W0.R) (.ref D) rfl gd (s1.drop' hR0) (.lst ⟨hDa, fun z => ?_⟩ (ra.drop' hR0))
      rcases gd.live D z with q | q
      · exact s0.notLive hD q
      · rcases z with z | z
        · exact s0.res D z hD
        · exact s1.nr D z hR
theorem se_lc {i : Nat} {elt tg iter : Expr} {ifs : List Expr} {scope : Scope} {x : Str} {pos : Pos} {mi : Iv} {mt : Tv} {me : Ev} (hc : X.calm = true) (hN : X.N.Nodup) (hi : SI X E tg iter mi) (ok : BlkOk X.N X.env.scope scope [(x, i)])
    (hg : ∀ (s : Shared) (H : Hp) (C : Addr) (cl : List (Str × Addr)) (fp : List Addr), PG (X.blk s H scope (compEnvC scope cl C X.env) fp) tg (gName i))
    (ht : ∀ (s : Shared) (H : Hp) (C : Addr) (cl : List (Str × Addr)) (fp : List Addr), PTs (X.blk s H scope (compEnvC scope cl C X.env) fp) ifs (tT X E0 mt))
    (he : ∀ (s : Shared) (H : Hp) (C : Addr) (cl : List (Str × Addr)) (fp : List Addr), PE (X.blk s H scope (compEnvC scope cl C X.env) fp) elt (tE X E0 me)) (hs : ∀ x, foldedSetIterable iter X.env x = pure x := by intro _; rfl) :
    SE X E (.ListComp elt [⟨tg, iter, ifs, 0⟩] scope pos) (mLc i mi mt me) :=
  PE.imp (pe_lc (own := [(x, i)]) hc hN hi ok hg ht he hs) fun _ _ _ h => lc_imp h
theorem ss_setLc {i j : Nat} {y x : Str} {py : Pos} {elt tg iter : Expr} {ifs : List Expr} {scope : Scope} {pos spos : Pos} {mi : Iv} {mt : Tv} {me : Ev} (hc : X.calm = true) (hN : X.N.Nodup) (hy : X.N[j]? = some y) (hyl : X.env.scope.names.lookup y = some .local)
    (hsw : swapsWith (.ListComp elt [⟨tg, iter, ifs, 0⟩] scope pos) (some (.Name y py)) spos.line X.env = pure true) (hi : SI X E tg iter mi) (ok : BlkOk X.N X.env.scope scope [(x, i)])
    (hg : ∀ (s : Shared) (H : Hp) (C : Addr) (cl : List (Str × Addr)) (fp : List Addr), PG (X.blk s H scope (compEnvC scope cl C X.env) fp) tg (gName i))
    (ht : ∀ (s : Shared) (H : Hp) (C : Addr) (cl : List (Str × Addr)) (fp : List Addr), PTs (X.blk s H scope (compEnvC scope cl C X.env) fp) ifs (tT X E0 mt))
    (he : ∀ (s : Shared) (H : Hp) (C : Addr) (cl : List (Str × Addr)) (fp : List Addr), PE (X.blk s H scope (compEnvC scope cl C X.env) fp) elt (tE X E0 me)) (hs : ∀ x, foldedSetIterable iter X.env x = pure x := by intro _; rfl) :
    SS X E (.Assign [.Name y py] (.ListComp elt [⟨tg, iter, ifs, 0⟩] scope pos) spos) (mSet j (mLc i mi mt me)) :=
  PS.imp (ps_setLc (own := [(x, i)]) hc hN hy hyl hsw hi ok hg ht he hs) fun D σ H h => by
    obtain ⟨W, ρ, rfl, s, r, h⟩ := h
    refine lc_imp ⟨W, ρ, rfl, s, r, imp_e (PostE.bindS (show PostS _ _ _ _ _ ((mLc i mi mt me ρ W.S).bindS _) from h)) fun x H1 q => ?_⟩
    obtain ⟨W1, v, rfl, g1, s1, r1, q⟩ := q
    exact q W1 _ rfl (Grow.refl _) s1 ((r.mono g1).set j r1)
end
end L3
/-! L3J: defs and their calls. -/
namespace L3
open PySem PySem.Spec PyProof.Rows L2

/-! ### what a call leaves: new objects are forgotten -/
mutual
def closedV (n : Nat) : Val → Bool
  | .rf m => decide (m < n)
  | .tup l | .lst l | .ktup l => closedVs n l
  | .dct _ l => closedVs n l
  | _ => true
def closedVs (n : Nat) : List Val → Bool
  | [] => true
  | v :: l => closedV n v && closedVs n l
end
def closedO (n : Nat) : Ob → Bool
  | .lst l | .dk _ l | .dt _ l | .ins _ _ l => closedVs n l
  | .tab _ _ => true
def trunc (n : Nat) : Out → Out
  | .ok v S => if S.length ≤ n then .ok v S else if closedV n v && (S.take n).all (closedO n) then .ok v (S.take n) else .ok v S
  | .ex c v S => if S.length ≤ n then .ex c v S else if closedV n v && (S.take n).all (closedO n) then .ex c v (S.take n) else .ex c v S
  | .stuck => .stuck
@[simp] theorem trunc_same (v : Val) (S : Store) : trunc S.length (.ok v S) = .ok v S := by simp [trunc]
@[simp] theorem trunc_same_ex (c : Str) (v : Val) (S : Store) : trunc S.length (.ex c v S) = .ex c v S := by simp [trunc]
@[simp] theorem trunc_stuck (n : Nat) : trunc n .stuck = .stuck := rfl
def Wd.cut (W : Wd) (n : Nat) : Wd := { W with B := W.B.take n, S := W.S.take n }
section
variable {K : PySem.W.Frag} {mg : Str → Option Value} {W W1 : Wd} {n : Nat}
theorem live_cut {a : Addr} (l : Live (W.cut n) a) : Live W a := by
  rcases l with z | z
  · exact .inl z
  · exact .inr (List.mem_of_mem_take z)
mutual
theorem VR.cut' : ∀ {x : V} {v : Val}, VR K W x v → closedV n v = true → VR K (W.cut n) x v
  | _, _, .non, _ => .non
  | _, _, .bl b, _ => .bl b
  | _, _, .int i, _ => .int i
  | _, _, .str l, _ => .str l
  | _, _, .tup h r, c => .tup ⟨h.1, fun z => h.2 (live_cut z)⟩ (VRs.cut' r (by simpa only [closedV] using c))
  | _, _, .lst h r, c => .lst ⟨h.1, fun z => h.2 (live_cut z)⟩ (VRs.cut' r (by simpa only [closedV] using c))
  | _, _, .dct h l r, c => .dct h (fun z => l (live_cut z)) (VRs.cut' r (by simpa only [closedV] using c))
  | _, _, .rf (a := a) (n := m) h, c => .rf (by
      have hm : m < n := by simpa only [closedV, decide_eq_true_eq] using c
      show (W.B.take n)[m]? = some a
      rw [List.getElem?_take, if_pos hm]; exact h)
  | _, _, .ktup h r, c => .ktup h (VRs.cut' r (by simpa only [closedV] using c))
  | _, _, .scr h, _ => .scr (by
      rcases h with h | h
      · exact .inl ⟨h.1, fun z => h.2 (live_cut z)⟩
      · exact .inr h)
theorem VRs.cut' : ∀ {ys : List V} {l : List Val}, VRs K W ys l → closedVs n l = true → VRs K (W.cut n) ys l
  | _, _, .nil, _ => .nil
  | _, _, .cons h r, c => by
    simp only [closedVs, Bool.and_eq_true] at c
    exact .cons (VR.cut' h c.1) (VRs.cut' r c.2)
end
theorem OR.cut' {h : Option HO} {o : Ob} (r : OR K mg W h o) (c : closedO n o = true) : OR K mg (W.cut n) h o := by
  cases o with
  | lst l => obtain ⟨xs, e, r⟩ := r; exact ⟨xs, e, r.cut' (by simpa only [closedO] using c)⟩
  | dk ks l => obtain ⟨kvs, e, e2, r⟩ := r; exact ⟨kvs, e, e2, r.cut' (by simpa only [closedO] using c)⟩
  | dt ks l => obtain ⟨kvs, e, e2, r⟩ := r; exact ⟨kvs, e, e2, r.cut' (by simpa only [closedO] using c)⟩
  | ins c ns l => obtain ⟨C, dx, fs, e0, e, e2, r⟩ := r; exact ⟨C, dx, fs, e0, e, e2, r.cut' (by simpa only [closedO] using c)⟩
  | tab P q =>
    obtain ⟨ps, e, t, r⟩ := r
    refine ⟨ps, e, t, fun pos cv hc => ?_⟩
    obtain ⟨c, e1, e2, l⟩ := r pos cv hc
    exact ⟨c, e1, e2, fun z => l (live_cut z)⟩
theorem SR.cut' (s : SR K mg W) (c : (W.S.take n).all (closedO n) = true) : SR K mg (W.cut n) where
  len := by show (W.B.take n).length = (W.S.take n).length; rw [List.length_take, List.length_take, s.len]
  nd := s.nd.sublist (List.take_sublist _ _)
  nr := fun a ha => s.nr a (List.mem_of_mem_take ha)
  at_ := fun i u e => by
    have e' : (W.S.take n)[i]? = some u := e
    have hc := List.all_eq_true.mp c u (List.mem_of_getElem? e')
    rw [List.getElem?_take] at e'
    split at e'
    · rename_i h
      obtain ⟨a, e1, r⟩ := s.at_ i u e'
      refine ⟨a, ?_, r.cut' hc⟩
      show (W.B.take n)[i]? = some a
      rw [List.getElem?_take, if_pos h]; exact e1
    · cases e'
  res := s.res
  trk := fun a ha => s.trk a (List.mem_of_mem_take ha)
  sm := s.sm
  smB := fun z => s.smB (List.mem_of_mem_take z)
  smR := s.smR
  tb := fun i P q e => by
    have e' : (W.S.take n)[i]? = some (.tab P q) := e
    show (W.B.take n)[i]? = some P
    rw [List.getElem?_take] at e' ⊢
    split at e'
    · rename_i h
      rw [if_pos h]; exact s.tb i P q e'
    · cases e'
theorem Grow.cut' (g : Grow W1 W) (h : W1.B.length ≤ n) : Grow W1 (W.cut n) where
  pre := fun i a e => by
    show (W.B.take n)[i]? = some a
    have := (List.getElem?_eq_some_iff.mp e).1
    rw [List.getElem?_take, if_pos (by omega)]
    exact g.pre i a e
  keep := g.keep
  res := g.res
  live := fun b l => g.live b (live_cut l)
  trk := g.trk
  r := g.r
theorem PostE.untrunc {E : XK} {Q : VK} {r : Out} (s0 : SR K mg W) (h : PostE K mg E W Q (trunc W.S.length r)) : PostE K mg E W Q r := by
  cases r with
  | stuck => exact h
  | ok v S' =>
    simp only [trunc] at h
    split at h
    · exact h
    · split at h
      · rename_i hc
        simp only [Bool.and_eq_true] at hc
        intro W' x e g s rv
        subst e
        exact h (W'.cut W.S.length) x rfl (g.cut' (Nat.le_of_eq s0.len)) (s.cut' hc.2) (rv.cut' hc.1)
      · exact h
  | ex c v S' =>
    simp only [trunc] at h
    split at h
    · exact h
    · split at h
      · rename_i hc
        simp only [Bool.and_eq_true] at hc
        intro W' x C d e g s rv hm hd hl
        subst e
        exact h (W'.cut W.S.length) x C d rfl (g.cut' (Nat.le_of_eq s0.len)) (s.cut' hc.2) (rv.cut' hc.1) hm hd (fun z => hl (live_cut z))
      · exact h
end

/-! ### a def -/
def outOf : OutS → Out
  | .rt v S => .ok v S
  | .nx _ S => .ok .non S
  | .ex c v S => .ex c v S
  | _ => .stuck
@[simp] theorem outOf_rt (v S) : outOf (.rt v S) = .ok v S := rfl
@[simp] theorem outOf_nx (ρ S) : outOf (.nx ρ S) = .ok .non S := rfl
@[simp] theorem outOf_ex (c v S) : outOf (.ex c v S) = .ex c v S := rfl
@[simp] theorem outOf_stuck : outOf .stuck = .stuck := rfl
/-- the values at the entry -/
def begin (n : Nat) (as : List Val) : Sl := as.map some ++ List.replicate (n - as.length) none
def Fb (b : Sv) (n : Nat) : List Val → Store → Out := fun as S => trunc S.length (outOf (b (begin n as) S))
abbrev Fn := List Val → Store → Out
structure FnG (P : Program) (w : World) (K : PySem.W.Frag) (mg : Str → Option Value) (base : Heap) (k : Nat) (f : Addr) (fd : FuncData) (ps : List Str) (F : Fn) : Prop where
  run : ∀ (A : Around) (outer : List Env) (s : Shared) (args : Args) (us : List Value) (vs : List V) (Q : VK) (E : XK) (W : Wd) (as : List Val), Room k A → A.guards = some [] → Env0 P w K mg base A outer s W.H → BindsTo s fd args (ps.zip us) → Vals vs us →
    SR K mg W → VRs K W vs as → as.length = ps.length → PostE K mg E W Q (F as W.S) → codeAny (model P w) A (.call (.ref f) args) (CR (L2.CX P w) outer P w W.H s Q E) s
theorem FnG.mono {P w K mg base j k f fd ps F} (G : FnG P w K mg base j f fd ps F) (h : j ≤ k) : FnG P w K mg base k f fd ps F :=
  ⟨fun A outer s args us vs Q E W as hr => G.run A outer s args us vs Q E W as (hr.mono h)⟩
structure FnAt (P : Program) (w : World) (K : PySem.W.Frag) (mg : Str → Option Value) (base : Heap) (x : Str) (k : Nat) (ps : List Str) (F : Fn) : Prop where
  ex : ∃ (f : Addr) (fd : FuncData), mg x = some (.ref f) ∧ PySem.W.keepIn K (.ref f) = true ∧ Binds K fd ps [] ∧ FnG P w K mg base k f fd ps F
theorem FnAt.mono {P w K mg base x j k ps F} (G : FnAt P w K mg base x j ps F) (h : j ≤ k) : FnAt P w K mg base x k ps F := by
  obtain ⟨f, fd, h1, h2, h3, h4⟩ := G.ex
  exact ⟨f, fd, h1, h2, h3, h4.mono h⟩
/-- where the def st stands -/
structure DefAt (K : PySem.W.Frag) (mg : Str → Option Value) (x : Str) (st : Stmt) : Prop where
  ex : ∃ (f : Addr) (fd : FuncData), mg x = some (.ref f) ∧ Fun K x x st f fd
/-- what a body's context gives -/
structure CxG (X : Cx) (E : XK) (k : Nat) : Prop where
  room : Room k X.A
  gd : X.A.guards = some []
  calm : X.calm = true
  pass : Passes (L2.CX X.prog X.w) X E
  own : PassesOwn (model X.prog X.w) X.A X.env X.xe
  nd : X.N.Nodup
  take : Takes X (fun cls d _ H => E cls d H)
theorem CxG.hu {X E k} (c : CxG X E k) : X.A.units + 64 < cLine := c.room.units
/-- inside a comprehension -/
theorem passB {X : Cx} {s H scope cenv fp} : Passes (L2.CX X.prog X.w) (X.blk s H scope cenv fp) E0 := passL
section
variable {P : Program} {w : World} {K : PySem.W.Frag} {mg : Str → Option Value} {base : Heap}
theorem rel_begin {W : Wd} {vs : List V} {as : List Val} (N : List Str) (r : VRs K W vs as) : Rel K W (begin N.length as) (L2.start N vs) := by
  refine ⟨?_, fun i v e => ?_⟩
  · unfold begin L2.start
    simp [r.length]
  · unfold begin at e
    unfold L2.start
    have hl := r.length
    by_cases hi : i < as.length
    · rw [List.getElem?_append_left (by simpa using hi), List.getElem?_map] at e
      cases ha : as[i]? with
      | none => rw [ha] at e; cases e
      | some a =>
        rw [ha] at e
        cases e
        obtain ⟨x, ex, q⟩ := r.get ha
        refine ⟨x, ?_, q⟩
        rw [List.getElem?_append_left (by simp; omega), List.getElem?_map, ex]
        rfl
    · rw [List.getElem?_append_right (by simpa using hi), List.getElem?_replicate] at e
      split at e <;> cases e
theorem fn_okC {k : Nat} {f : Addr} {x qual : Str} {st : Stmt} {fd : FuncData} {N ps : List Str} {b : Sv} (F : Fun K x qual st f fd) (S : FnScope N ps (defScope st))
    (hb : ∀ (A : Around) (outer : List Env) (s : Shared) (H : Hp) (E : XK), CxG (cxOf (L2.CX P w) P w K mg base N qual (defScope st) f fd.code A outer s H E) E k → SSs (cxOf (L2.CX P w) P w K mg base N qual (defScope st) f fd.code A outer s H E) E (defBody st) b) :
    FnG P w K mg base (k + 1) f fd ps (Fb b N.length) := by
  obtain ⟨oc, od, kV, doc, pm, an, cdv, ct, osl, rfl, lk, hcd⟩ := F.ex
  refine ⟨fun A outer s args us vs Q E W as hr hgd e0 hbd r sr rv hl hp => ?_⟩
  have KX : K.In s.heap := e0.mod.kin.keeps fun b o e => (e0.bs b o e).1
  have lim : s.heap.NoLimit := e0.mod.nolimit.keeps fun b o e => (e0.bs b o e).1
  have hkind : ∀ y ∈ ps.zip us, (defScope st).names.lookup y.1 = some .local ∨ ((defScope st).names.lookup y.1 = some .cell ∧ ((cellsFrom (s.heap.objs.size + 1) (defScope st).names []).lookup y.1).isSome = true) := fun ⟨n, v⟩ hy => by
    rcases S.par n (List.of_mem_zip hy).1 with q | q
    · exact .inl q
    · exact .inr ⟨q, PySem.W.cellsFrom_some _ _ _ (.inl q)⟩
  refine codeAny_call_function hr.depth (KX _ _ lk) rfl S.co S.gen rfl (PySem.W.codeRec_of KX hcd) (hbd _ _ _ _ ?_)
  refine wpAny_newFunctionEnv_cells S.kind hkind fun env he s1 x => ?_
  subst he
  refine ⟨lim.keeps x.toInCall.keep, codeAny_func ?_⟩
  have hvl : vs.length = ps.length := by rw [rv.length, hl]
  have ctx : CxG (cxOf (L2.CX P w) P w K mg base N qual (defScope st) f cdv A outer s W.H E) E k :=
    ⟨hr.deeper _, hgd, rfl, passes_call (W := fun cls d _ H => E cls d H) (takes_of rfl rfl rfl rfl) fun _ _ _ _ h => h, passes_of rfl, S.nd, takes_of rfl rfl rfl rfl⟩
  have I : Inv (cxOf (L2.CX P w) P w K mg base N qual (defScope st) f cdv A outer s W.H E) [] (L2.start N vs) W.H s1 := inv_start S hr.hd e0 hvl r x
  have hq : tS (cxOf (L2.CX P w) P w K mg base N qual (defScope st) f cdv A outer s W.H E) E b { nx := fun _ H' => Q .non H', rt := Q } (L2.start N vs) W.H := by
    refine ⟨W, begin N.length as, rfl, sr, rel_begin N rv, ?_⟩
    have hp' := PostE.untrunc sr (show PostE K mg E W Q (trunc W.S.length (outOf (b (begin N.length as) W.S))) from hp)
    show PostS K mg E W _ _
    cases hm : b (begin N.length as) W.S with
    | nx ρ S' => rw [hm] at hp'; exact fun W' σ e g s r => hp' W' .non e g s .non
    | rt v S' => rw [hm] at hp'; exact hp'
    | bk ρ S' => rw [hm] at hp'; exact hp'.elim
    | ct ρ S' => rw [hm] at hp'; exact hp'.elim
    | ex c v S' => rw [hm] at hp'; exact hp'
    | stuck => rw [hm] at hp'; exact hp'.elim
  refine wpAny_mono ((hb A outer s W.H E ctx).run [] s1 (L2.start N vs) W.H _ I hq) (fun fl s' hs => ?_) fun e s' hs => hs
  have fin : ∀ {σ' : L2.St} {H' : Hp} {v : V} {u : Value}, Inv (cxOf (L2.CX P w) P w K mg base N qual (defScope st) f cdv A outer s W.H E) [] σ' H' s' → RelV v u → Q v H' → CE outer P w W.H s Q u s' :=
    fun {σ' H' v u} J rv q => ⟨v, H', J.os, J.bare, J.base, J.hok, rv, q⟩
  cases fl with
  | ret u =>
    obtain ⟨v, σ', H', J, rv, q⟩ := hs
    exact fin J rv q
  | next =>
    obtain ⟨σ', H', J, q⟩ := hs
    exact fin (v := V.non) (u := Value.none) J rfl q
  | brk =>
    obtain ⟨_, _, _, q⟩ := hs
    exact False.elim q
  | cont =>
    obtain ⟨_, _, _, q⟩ := hs
    exact False.elim q
theorem fn_okG {k : Nat} {f : Addr} {x qual : Str} {st : Stmt} {fd : FuncData} {N ps : List Str} {b : Sv} (F : Fun K x qual st f fd) (S : FnScope N ps (defScope st))
    (hb : ∀ (cdv : Value) (A : Around) (outer : List Env) (s : Shared) (H : Hp) (E : XK), CxG (cxOf (L2.CX P w) P w K mg base N qual (defScope st) f cdv A outer s H E) E k → SSs (cxOf (L2.CX P w) P w K mg base N qual (defScope st) f cdv A outer s H E) E (defBody st) b) :
    FnG P w K mg base (k + 1) f fd ps (Fb b N.length) := fn_okC F S (hb fd.code)
/-- THE RULE for a def of the module -/
theorem fn_at {k : Nat} {x : Str} {st : Stmt} {N ps : List Str} {b : Sv} (D : DefAt K mg x st) (S : FnScope N ps (defScope st))
    (h : ∀ (kV doc pm : Value) (an : Option Addr) (cdv ct : Value) (us : List Value), us.length = ps.length → bindArgs (PySem.W.fnOf x x (defArgs st) (defBody st) (defScope st) .none kV doc pm an cdv ct) ⟨us, []⟩ = pure (ps.zip us))
    (hb : ∀ (f : Addr) (cdv : Value) (A : Around) (outer : List Env) (s : Shared) (H : Hp) (E : XK), CxG (cxOf (L2.CX P w) P w K mg base N x (defScope st) f cdv A outer s H E) E k → SSs (cxOf (L2.CX P w) P w K mg base N x (defScope st) f cdv A outer s H E) E (defBody st) b) :
    FnAt P w K mg base x (k + 1) ps (Fb b N.length) := by
  obtain ⟨f, fd, hm, F⟩ := D.ex
  exact ⟨f, fd, hm, F.kp, F.binds h, fn_okG F S (hb f)⟩
end

/-! ### calls -/
section
variable {X : Cx} {E : XK} {k : Nat}
@[simp] def mCall (F : Fn) (ms : List Ev) : Ev := fun ρ S => (mArgs ms ρ S).bind F
theorem run_fng {pins : List (Addr × Obj)} {σ : L2.St} {s : Shared} {Q : VK} {vs : List V} {f : Addr} {fd : FuncData} {ps : List Str} {F : Fn} {W : Wd} {as : List Val} (G : FnG X.prog X.w X.K X.mg X.base k f fd ps F) (c : CxG X E k) {args : Args} {us' : List Value}
    (hb : BindsTo s fd args (ps.zip us')) (I : Inv X pins σ W.H s) (r : Vals vs us') (sr : SR X.K X.mg W) (rv : VRs X.K W vs as) (hl : as.length = ps.length) (h : PostE X.K X.mg E W Q (F as W.S)) :
    codeAny (model X.prog X.w) X.A (.call (.ref f) args) (fun r s' => match r with
      | .ok (.ret u) => EP X pins σ Q u s'
      | .ok _ => False
      | .error e => X.xe e s') s := by
  refine codeAny_mono (G.run X.A X.stack s args us' vs Q E W as c.room c.gd I.env0 hb r sr rv hl h) fun r s' hq => ?_
  cases r with
  | error e => exact c.pass pins σ W.H s e s' I hq
  | ok fl =>
    cases fl with
    | ret u => exact I.after hq
    | next => exact False.elim hq
    | brk => exact False.elim hq
    | cont => exact False.elim hq
theorem se_call {x : Str} {p pos : Pos} {e : Expr} {es : List Expr} {ms : List Ev} {ps : List Str} {F : Fn} (c : CxG X E k) (G : FnAt X.prog X.w X.K X.mg X.base x k ps F) (hg : Gl X x) (ha : SA X E (e :: es) ms) (hl : ms.length = ps.length := by rfl)
    (hdb : (x == ("__debug__" : Str)) = false := by decide) (he : starEach (e :: es) X.env = (false, eval e X.env) :: starEach es X.env := by rfl) (hpl : (backTo pos (starEach es X.env)).any (·.1) = false := by rfl) :
    SE X E (.Call (.Name x p) (e :: es) [] pos) (mCall F ms) := by
  obtain ⟨f, fd, hm, hk, hb, G⟩ := G.ex
  refine ⟨fun pins s σ H Q I h => ?_⟩
  obtain ⟨W, ρ, rfl, sr, r, h⟩ := h
  refine wpAny_Call_Name_kw (ld_glob I hg hm ?_ hdb)
  refine PySem.W.callWith_K (h₀ := X.base) I.ok.mod.kin hk (thn (ha.run pos pins s σ W.H _ I ⟨W, ρ, rfl, sr, r, PostL.bind (show PostE _ _ _ _ _ ((mArgs ms ρ W.S).bind F) from h)⟩) fun us s1 ⟨vs, H1, I1, rv, q⟩ => ⟨I1.kIn, ?_⟩) he hpl
  obtain ⟨W1, l, rfl, e1, g1, s1', rl, q⟩ := q
  have hlen : l.length = ps.length := (mArgs_len e1).trans hl
  have hus : us.length = ps.length := by rw [← rv.length, rl.length, hlen]
  refine wpAny_call (codeAny_mono (run_fng (us' := us) G c (by simpa using hb s1 us I1.kIn (by simpa using hus)) I1 rv s1' rl hlen q) fun r s' hq => ?_)
  cases r with
  | error e => exact hq
  | ok fl => cases fl <;> first | exact hq | exact hq.elim
/-- f(k = e, ..) -/
def SK (X : Cx) (E : XK) (kws : List Keyword) (ms : List Ev) : Prop := PK X kws (tA X E ms)
theorem sk_nil : SK X E [] [] := ⟨fun pos pins s σ H Q I h => by
  obtain ⟨W, ρ, rfl, sr, r, h⟩ := h
  exact wpAny_evalAll_nil ⟨[], W.H, I, .nil, h W [] rfl (Grow.refl W) sr .nil⟩⟩
theorem sk_cons {nm : Option Str} {kpos : Pos} {e : Expr} {kws : List Keyword} {m : Ev} {ms : List Ev} (he : SE X E e m) (hr : SK X E kws ms) : SK X E (⟨nm, e, kpos⟩ :: kws) (m :: ms) := by
  refine ⟨fun pos pins s σ H Q I h => ?_⟩
  refine (pk_cons he hr).run pos pins s σ H Q I ?_
  obtain ⟨W, ρ, rfl, s, r, h⟩ := h
  refine ⟨W, ρ, rfl, s, r, ?_⟩
  refine PostE.imp (PostE.bindL (show PostL _ _ _ _ _ ((m ρ W.S).bindL _) from h)) fun W1 x v _ g s1 rv q => ?_
  obtain ⟨W1', v', e1, g1, s1', r1, q⟩ := q
  refine ⟨W1', ρ, e1, s1', r.mono g1, ?_⟩
  have q' := PostL.bindL (show PostL _ _ _ _ _ ((mArgs ms ρ W1'.S).bindL _) from q)
  revert q'
  cases hm : mArgs ms ρ W1'.S with
  | ok l S2 =>
    intro q' W2 xs e2 g2 s2 rx
    obtain ⟨W3, l3, e3, g3, s3, rx3, q3⟩ := q' W2 xs e2 g2 s2 rx
    have := q3 W3 (x :: xs) rfl (Grow.refl _) s3 (.cons (r1.mono g3) rx3)
    rw [e3] at this
    exact this
  | ex c v S2 => exact fun q' => q'
  | stuck => exact fun q' => q'
/-- f(k = e, ..) without positional arguments: g puts the keywords' values in the parameters' order -/
@[simp] def mCallK (F : Fn) (g : List Val → List Val) (ms : List Ev) : Ev := fun ρ S => (mArgs ms ρ S).bind fun l S => F (g l) S
structure KOrd (K : PySem.W.Frag) (fd : FuncData) (ps ks : List Str) (g : ∀ {α : Type}, List α → List α) : Prop where
  to : ∀ (s : Shared) (ws : List Value), K.In s.heap → ws.length = ks.length → BindsTo s fd ⟨[], ks.zip ws⟩ (ps.zip (g ws))
theorem se_callK {x : Str} {p pos : Pos} {kws : List Keyword} {ms : List Ev} {ps ks : List Str} {F : Fn} {g : ∀ {α : Type}, List α → List α} {f : Addr} {fd : FuncData} (c : CxG X E k) (hm : X.mg x = some (.ref f)) (hk : PySem.W.keepIn X.K (.ref f) = true) (G : FnG X.prog X.w X.K X.mg X.base k f fd ps F)
    (hb : KOrd X.K fd ps ks (fun {α} => @g α)) (hgr : ∀ {W : Wd} {vs : List V} {l : List Val}, VRs X.K W vs l → VRs X.K W (g vs) (g l)) (hgv : ∀ {vs : List V} {us : List Value}, Vals vs us → Vals (g vs) (g us)) (hgl : ∀ (l : List Val), l.length = ms.length → (g l).length = ps.length)
    (hg : Gl X x) (ha : SK X E kws ms) (hl : ms.length = ks.length := by rfl)
    (hall : (backToKw pos (keywordEach kws X.env)).all (·.1.isSome) = true := by rfl) (hks : (backToKw pos (keywordEach kws X.env)).filterMap (·.1) = ks := by rfl)
    (hdb : (x == ("__debug__" : Str)) = false := by decide) (hpl : ((backTo pos (starEach [] X.env)).any (·.1) || (backToKw pos (keywordEach kws X.env)).any (·.1.isNone)) = false := by rfl) :
    SE X E (.Call (.Name x p) [] kws pos) (mCallK F (fun l => g l) ms) := by
  refine ⟨fun pins s σ H Q I h => ?_⟩
  obtain ⟨W, ρ, rfl, sr, r, h⟩ := h
  refine wpAny_Call_Name_kw (ld_glob I hg hm ?_ hdb)
  refine PySem.W.callWith_KW0 (h₀ := X.base) I.ok.mod.kin hk hall (thn (ha.run pos pins s σ W.H _ I ⟨W, ρ, rfl, sr, r, PostL.bind (show PostE _ _ _ _ _ ((mArgs ms ρ W.S).bind fun l S => F (g l) S) from h)⟩) fun us s1 ⟨vs, H1, I1, rv, q⟩ => ⟨I1.kIn, ?_⟩) hpl
  obtain ⟨W1, l, rfl, e1, g1, s1', rl, q⟩ := q
  rw [hks]
  have hlm : l.length = ms.length := mArgs_len e1
  have hus : us.length = ks.length := by rw [← rv.length, rl.length, hlm, hl]
  refine wpAny_call (codeAny_mono (run_fng (us' := g us) G c (hb.to s1 us I1.kIn hus) I1 (hgv rv) s1' (hgr rl) (hgl l hlm) q) fun r s' hq => ?_)
  cases r with
  | error e => exact hq
  | ok fl => cases fl <;> first | exact hq | exact hq.elim
end
end L3
/-! L3K: the store's objects: lists, dicts, fields, methods, instances. -/
namespace L3
open PySem PySem.Spec PyProof.Rows L2

/-! ### an object of the store is written -/
def Wd.write (W : Wd) (n : Nat) (a : Addr) (o : HO) (b : Ob) : Wd := { W with S := W.S.set n b, H := upd W.H a o }
section
variable {K : PySem.W.Frag} {mg : Str → Option Value} {W : Wd} {n : Nat} {a : Addr} {o : HO} {b : Ob}
theorem Grow.write (s : SR K mg W) (h : W.B[n]? = some a) : Grow W (W.write n a o b) where
  pre := fun _ _ h => h
  keep := fun c u e l => by
    show upd W.H a o c = some u
    rw [upd_ne fun z => l (.inr (by rw [z]; exact List.mem_of_getElem? h))]; exact e
  res := fun c u z e => by
    show upd W.H a o c = some u
    rw [upd_ne fun q => s.nr a (List.mem_of_getElem? h) (by rw [← q]; exact z)]; exact e
  live := fun c l => .inl l
  trk := fun c e => by
    by_cases hc : c = a
    · subst hc
      have e' : upd W.H c o c = none := e
      rw [upd_same] at e'; cases e'
    · have e' : upd W.H a o c = none := e
      rw [upd_ne hc] at e'; exact e'
  r := fun _ h => h
theorem nodup_at {l : List Addr} (nd : l.Nodup) {i j : Nat} {x : Addr} (h1 : l[i]? = some x) (h2 : l[j]? = some x) : i = j := by
  obtain ⟨k1, e1⟩ := List.getElem?_eq_some_iff.mp h1
  obtain ⟨k2, e2⟩ := List.getElem?_eq_some_iff.mp h2
  exact (List.getElem_inj nd).mp (e1.trans e2.symm)
theorem SR.write (s : SR K mg W) (h : W.B[n]? = some a) (hn : OR K mg (W.write n a o b) (some o) b) (hb : ∀ P q, b = .tab P q → a = P := by intro _ _ e; cases e) : SR K mg (W.write n a o b) where
  len := by show W.B.length = (W.S.set n b).length; rw [List.length_set]; exact s.len
  nd := s.nd
  nr := s.nr
  at_ := fun i u e => by
    have e' : (W.S.set n b)[i]? = some u := e
    by_cases hi : n = i
    · subst hi
      have hlt : n < W.S.length := by rw [← s.len]; exact (List.getElem?_eq_some_iff.mp h).1
      rw [List.getElem?_set_self hlt] at e'
      cases e'
      refine ⟨a, h, ?_⟩
      show OR K mg _ (upd W.H a o a) b
      rw [upd_same]; exact hn
    · rw [List.getElem?_set_ne hi] at e'
      obtain ⟨c, e1, r⟩ := s.at_ i u e'
      have hc : c ≠ a := fun z => by subst z; exact hi (nodup_at s.nd h e1)
      refine ⟨c, e1, ?_⟩
      show OR K mg _ (upd W.H a o c) u
      rw [upd_ne hc]; exact r.mono (Grow.write s h)
  res := fun c hc => by
    have : c ≠ a := fun z => s.nr a (List.mem_of_getElem? h) (z ▸ hc)
    show upd W.H a o c ≠ none
    rw [upd_ne this]; exact s.res c hc
  trk := fun c hc => by
    by_cases z : c = a
    · subst z; show upd W.H c o c ≠ none; rw [upd_same]; simp
    · show upd W.H a o c ≠ none; rw [upd_ne z]; exact s.trk c hc
  sm := by
    obtain ⟨o1, u1, e⟩ := s.sm
    exact ⟨o1, u1, by show upd W.H a o _ = _; rw [upd_ne fun z => s.smB (by rw [z]; exact List.mem_of_getElem? h)]; exact e⟩
  smB := s.smB
  smR := s.smR
  tb := fun i P q e => by
    have e' : (W.S.set n b)[i]? = some (.tab P q) := e
    by_cases hi : n = i
    · subst hi
      have hlt : n < W.S.length := by rw [← s.len]; exact (List.getElem?_eq_some_iff.mp h).1
      rw [List.getElem?_set_self hlt] at e'
      cases e'
      rw [← hb P q rfl]; exact h
    · rw [List.getElem?_set_ne hi] at e'
      exact s.tb i P q e'
/-- a fresh object becomes one of the store's -/
def Wd.own (W : Wd) (a : Addr) (b : Ob) : Wd := { W with B := W.B ++ [a], S := W.S ++ [b] }
theorem Grow.own {W0 : Wd} (g : Grow W0 W) (s : SR K mg W) (h0 : W0.H a = none) : Grow W0 (W.own a b) where
  pre := fun i c e => by
    show (W.B ++ [a])[i]? = some c
    have e' := g.pre i c e
    rw [List.getElem?_append_left (List.getElem?_eq_some_iff.mp e').1]; exact e'
  keep := g.keep
  res := g.res
  live := fun c l => by
    rcases l with z | z
    · exact g.live c (.inl z)
    · have z' : c ∈ W.B ++ [a] := z
      rcases List.mem_append.mp z' with z | z
      · exact g.live c (.inr z)
      · have : c = a := by simpa using z
        subst this
        exact .inr h0
  trk := g.trk
  r := g.r
end
/-! ### keys -/
def keyK : Val → Option Key
  | .int i => some (.inl i)
  | .str l => some (.inr (mk l))
  | _ => none
def keysK : List Val → Option (List Key)
  | [] => some []
  | v :: l => match keyK v, keysK l with
    | some k, some ks => some (k :: ks)
    | _, _ => none
def keyT : Val → Option (List Key)
  | .tup l => keysK l
  | _ => none
def lookZ {κ : Type} [DecidableEq κ] (k : κ) : List κ → List Val → Option Val
  | k' :: ks, v :: l => if k' = k then some v else lookZ k ks l
  | _, _ => none
def replZ {κ : Type} [DecidableEq κ] (k : κ) (v : Val) : List κ → List Val → List Val
  | k' :: ks, w :: l => (if k' = k then v else w) :: replZ k v ks l
  | _, l => l
def putZ {κ : Type} [DecidableEq κ] (k : κ) (v : Val) (ks : List κ) (l : List Val) : List κ × List Val :=
  if ks.any (fun k' => decide (k' = k)) then (ks, replZ k v ks l) else (ks ++ [k], l ++ [v])
section
variable {K : PySem.W.Frag} {W : Wd}
theorem keyK_rel {x : V} {v : Val} {k : Key} (r : VR K W x v) (h : keyK v = some k) : x = kV k := by
  cases r <;> simp only [keyK] at h <;> first | (cases h; done) | (cases h; rfl)
theorem keysK_rel : ∀ {xs : List V} {l : List Val} {ks : List Key}, VRs K W xs l → keysK l = some ks → xs = ks.map kV
  | _, [], _, .nil, h => by simp only [keysK] at h; cases h; rfl
  | _, v :: l, ks, .cons r rs, h => by
    simp only [keysK] at h
    split at h
    · rename_i k ks' h1 h2
      cases h
      rw [keyK_rel r h1, keysK_rel rs h2]
      rfl
    · cases h
variable {κ : Type} [DecidableEq κ]
theorem lookZ_some {k : κ} {v : Val} : ∀ {kvs : List (κ × V)} {l : List Val}, VRs K W (kvs.map (·.2)) l → lookZ k (kvs.map (·.1)) l = some v → ∃ x, valV kvs k = some x ∧ VR K W x v
  | [], _, _, h => by simp [lookZ] at h
  | (k', x) :: kvs, _, .cons r rs, h => by
    simp only [List.map_cons, lookZ] at h
    by_cases e : k' = k
    · rw [if_pos e] at h
      cases h
      exact ⟨x, by simp [valV, e], r⟩
    · rw [if_neg e] at h
      obtain ⟨y, h1, h2⟩ := lookZ_some rs h
      exact ⟨y, by simpa [valV, e] using h1, h2⟩
theorem lookZ_none {k : κ} : ∀ {kvs : List (κ × V)} {l : List Val}, VRs K W (kvs.map (·.2)) l → lookZ k (kvs.map (·.1)) l = none → valV kvs k = none
  | [], _, _, _ => rfl
  | (k', x) :: kvs, _, .cons r rs, h => by
    simp only [List.map_cons, lookZ] at h
    by_cases e : k' = k
    · rw [if_pos e] at h; cases h
    · rw [if_neg e] at h
      simpa [valV, e] using lookZ_none rs h
theorem repl_rel {k : κ} {x : V} {v : Val} (rv : VR K W x v) : ∀ {kvs : List (κ × V)} {l : List Val}, VRs K W (kvs.map (·.2)) l → (kvs.map fun kv => if kv.1 = k then (kv.1, x) else kv).map (·.1) = kvs.map (·.1) ∧ VRs K W ((kvs.map fun kv => if kv.1 = k then (kv.1, x) else kv).map (·.2)) (replZ k v (kvs.map (·.1)) l)
  | [], _, .nil => ⟨rfl, .nil⟩
  | (k', y) :: kvs, _, .cons r rs => by
    obtain ⟨h1, h2⟩ := repl_rel rv rs
    by_cases e : k' = k
    · simp only [List.map_cons, if_pos e, replZ]
      exact ⟨by rw [h1], .cons rv h2⟩
    · simp only [List.map_cons, if_neg e, replZ]
      exact ⟨by rw [h1], .cons r h2⟩
theorem putZ_rel {k : κ} {x : V} {v : Val} (rv : VR K W x v) {kvs : List (κ × V)} {l : List Val} (rs : VRs K W (kvs.map (·.2)) l) :
    (putK kvs k x).map (·.1) = (putZ k v (kvs.map (·.1)) l).1 ∧ VRs K W ((putK kvs k x).map (·.2)) (putZ k v (kvs.map (·.1)) l).2 := by
  have e : ((kvs.map (·.1)).any fun k' => decide (k' = k)) = kvs.any fun kv => decide (kv.1 = k) := by
    rw [List.any_map]; rfl
  unfold putK putZ
  rw [e]
  split
  · exact repl_rel rv rs
  · refine ⟨by simp, ?_⟩
    rw [List.map_append]
    exact rs.append (.cons rv .nil)
theorem keyT_rel {y : V} {v : Val} {k : List Key} (r : VR K W y v) (h : keyT v = some k) : ∃ b, y = .ref b ∧ W.H b = some (.tup (k.map kV)) := by
  cases r <;> simp only [keyT] at h <;> first | (cases h; done) | skip
  rename_i a xs l t r
  have e := keysK_rel r h
  subst e
  exact ⟨a, rfl, t.1⟩
end
/-- what the object n holds at a key: none if it is no dict or no key -/
def dget (S : Store) (n : Nat) (k : Val) : Option (Option Val) := match S[n]? with
  | some (.dk ks l) => (keyK k).map fun k => lookZ k ks l
  | some (.dt ks l) => (keyT k).map fun k => lookZ k ks l
  | _ => none
def optR (K : PySem.W.Frag) (W : Wd) : Option Val → Option V → Prop
  | some v, o => ∃ z, o = some z ∧ VR K W z v
  | none, o => o = none
section
variable {X : Cx} {E : XK}
theorem dget_rel {W : Wd} (s : SR X.K X.mg W) {n : Nat} {x y : V} {k : Val} {r : Option Val} (rx : VR X.K W x (.rf n)) (ry : VR X.K W y k) (h : dget W.S n k = some r) :
    ∃ a o, x = .ref a ∧ DGet W.H a y o ∧ optR X.K W r o ∧ IsD W.H a := by
  cases rx with
  | rf hb =>
    rename_i a
    unfold dget at h
    cases e : W.S[n]? with
    | none => rw [e] at h; cases h
    | some ob =>
      rw [e] at h
      obtain ⟨a', e1, q⟩ := s.at_ n ob e
      rw [hb] at e1
      cases e1
      cases ob <;> simp only at h <;> first | (cases h; done) | skip
      · rename_i ks l
        obtain ⟨kvs, e2, rfl, rs⟩ := q
        cases ek : keyK k with
        | none => rw [ek] at h; cases h
        | some kk =>
          rw [ek] at h
          have ey := keyK_rel ry ek
          subst ey
          simp only [Option.map_some, Option.some.injEq] at h
          refine ⟨a, valV kvs kk, rfl, DGet.k e2, ?_, .inl ⟨kvs, .inl e2⟩⟩
          cases r with
          | none => exact lookZ_none rs h
          | some v => exact lookZ_some rs h
      · rename_i ks l
        obtain ⟨kvs, e2, rfl, rs⟩ := q
        cases ek : keyT k with
        | none => rw [ek] at h; cases h
        | some kk =>
          rw [ek] at h
          obtain ⟨b, rfl, eb⟩ := keyT_rel ry ek
          simp only [Option.map_some, Option.some.injEq] at h
          refine ⟨a, valV kvs kk, rfl, DGet.t e2 eb, ?_, .inr ⟨kvs, .inl e2⟩⟩
          cases r with
          | none => exact lookZ_none rs h
          | some v => exact lookZ_some rs h
/-- d[k] -/
@[simp] def mDGet (md mk : Ev) : Ev := fun ρ S => (md ρ S).bind fun d S => (mk ρ S).bind fun k S => match d with
  | .rf n => (match dget S n k with
    | some (some v) => .ok v S
    | _ => .stuck)
  | _ => .stuck
theorem se_dget {o i : Expr} {md mk : Ev} {pos : Pos} (hu : X.A.units + 64 < cLine) (ho : SE X E o md) (hi : SE X E i mk) (hs : NoSl i := by intro _ _; rfl) : SE X E (.Subscript o i pos) (mDGet md mk) :=
  PE.imp (pe_dget (by omega) ho hi hs) fun σ H Q h => by
    obtain ⟨W, ρ, rfl, s, r, h⟩ := h
    refine ⟨W, ρ, rfl, s, r, imp_e (PostE.bind (show PostE _ _ _ _ _ ((md ρ W.S).bind _) from h)) fun x H1 q => ?_⟩
    obtain ⟨W1, d, rfl, g1, s1, r1, q⟩ := q
    refine ⟨W1, ρ, rfl, s1, r.mono g1, imp_e (PostE.bind (show PostE _ _ _ _ _ ((mk ρ W1.S).bind _) from q)) fun y H2 q => ?_⟩
    obtain ⟨W2, k, rfl, g2, s2, r2, q⟩ := q
    cases d <;> simp only at q <;> first | exact q.elim | skip
    split at q
    · rename_i v hd
      obtain ⟨a, o, rfl, hg, ⟨z, rfl, rz⟩, _⟩ := dget_rel s2 (r1.mono g2) r2 hd
      exact ⟨a, z, rfl, hg, PostE.val s2 rz q⟩
    · exact q.elim
/-- k in d, k not in d -/
def gDIn (neg : Bool) : G2 := fun k d S => match d with
  | .rf n => (match dget S n k with
    | some o => .ok (.bl (if neg then !o.isSome else o.isSome)) S
    | none => .stuck)
  | _ => .stuck
theorem din_some {W : Wd} {r : Option Val} {o : Option V} (h : optR X.K W r o) : o.isSome = r.isSome := by
  cases r with
  | none => have h : o = none := h; subst h; rfl
  | some v => obtain ⟨z, rfl, _⟩ := h; rfl
theorem din_imp {mk md : Ev} {σ H Q} (h : tE X E (mBin (gDIn false) mk md) σ H Q) : tDIn (tE X E mk) (tE X E md) σ H Q := by
  obtain ⟨W, ρ, rfl, s, r, h⟩ := bin_imp h
  refine ⟨W, ρ, rfl, s, r, imp_e h fun y H1 q => ?_⟩
  obtain ⟨W1, ρ1, rfl, s1, r1, q⟩ := q
  refine ⟨W1, ρ1, rfl, s1, r1, imp_e q fun x H2 q => ?_⟩
  obtain ⟨W2, k, d, rfl, s2, rk, rd, q⟩ := q
  cases d <;> simp only [gDIn] at q <;> first | exact q.elim | skip
  split at q
  · rename_i o hd
    obtain ⟨a, ov, rfl, hg, hm, _⟩ := dget_rel s2 rd rk hd
    have := PostE.val s2 (.bl _) q
    simp only [Bool.false_eq_true, if_false] at this
    exact ⟨a, ov, rfl, hg, by rw [din_some hm]; exact this⟩
  · exact q.elim
theorem dnin_imp {mk md : Ev} {σ H Q} (h : tE X E (mBin (gDIn true) mk md) σ H Q) : tDNotIn (tE X E mk) (tE X E md) σ H Q := by
  obtain ⟨W, ρ, rfl, s, r, h⟩ := bin_imp h
  refine ⟨W, ρ, rfl, s, r, imp_e h fun y H1 q => ?_⟩
  obtain ⟨W1, ρ1, rfl, s1, r1, q⟩ := q
  refine ⟨W1, ρ1, rfl, s1, r1, imp_e q fun x H2 q => ?_⟩
  obtain ⟨W2, k, d, rfl, s2, rk, rd, q⟩ := q
  cases d <;> simp only [gDIn] at q <;> first | exact q.elim | skip
  split at q
  · rename_i o hd
    obtain ⟨a, ov, rfl, hg, hm, _⟩ := dget_rel s2 rd rk hd
    have := PostE.val s2 (.bl _) q
    simp only [if_true] at this
    exact ⟨a, ov, rfl, hg, by rw [din_some hm]; exact this⟩
  · exact q.elim
theorem st_din {i o : Expr} {mk md : Ev} {pos : Pos} (hu : X.A.units + 64 < cLine) (hi : SE X E i mk) (ho : SE X E o md) (hm : behindInMarks .In o = false := by rfl) : ST X E (.Compare i [.In] [o] pos) (mB (mBin (gDIn false) mk md)) :=
  PT.imp (pt_cmp (pc_din (by omega) hi ho) hm) fun σ H Q h => by
    obtain ⟨W, ρ, e, s, r, h⟩ := mB_imp h
    exact din_imp ⟨W, ρ, e, s, r, h⟩
theorem st_dnotin {i o : Expr} {mk md : Ev} {pos : Pos} (hu : X.A.units + 64 < cLine) (hi : SE X E i mk) (ho : SE X E o md) (hm : behindInMarks .NotIn o = false := by rfl) : ST X E (.Compare i [.NotIn] [o] pos) (mB (mBin (gDIn true) mk md)) :=
  PT.imp (pt_cmp (pc_dnotin (by omega) hi ho) hm) fun σ H Q h => by
    obtain ⟨W, ρ, e, s, r, h⟩ := mB_imp h
    exact dnin_imp ⟨W, ρ, e, s, r, h⟩
/-- the store behind d[k] = v -/
def dput (S : Store) (n : Nat) (k v : Val) : Option Store := match S[n]? with
  | some (.dk ks l) => if fit (ks.length + 1) then (keyK k).map fun k => S.set n (.dk (putZ k v ks l).1 (putZ k v ks l).2) else none
  | some (.dt ks l) => if fit (ks.length + 1) then (keyT k).map fun k => S.set n (.dt (putZ k v ks l).1 (putZ k v ks l).2) else none
  | _ => none
@[simp] def mDPut (md mk mv : Ev) : Sv := fun ρ S => (mv ρ S).bindS fun v S => (md ρ S).bindS fun d S => (mk ρ S).bindS fun k S => match d with
  | .rf n => (match dput S n k v with
    | some S' => .nx ρ S'
    | none => .stuck)
  | _ => .stuck
theorem dput_rel {W : Wd} (s : SR X.K X.mg W) {n : Nat} {x y z : V} {k v : Val} {S' : Store} (rx : VR X.K W x (.rf n)) (ry : VR X.K W y k) (rz : VR X.K W z v) (h : dput W.S n k v = some S') :
    ∃ a W', x = .ref a ∧ DPut W.H a y z W'.H ∧ W'.S = S' ∧ Grow W W' ∧ SR X.K X.mg W' := by
  cases rx with
  | rf hb =>
    rename_i a
    unfold dput at h
    cases e : W.S[n]? with
    | none => rw [e] at h; cases h
    | some ob =>
      rw [e] at h
      obtain ⟨a', e1, q⟩ := s.at_ n ob e
      rw [hb] at e1
      cases e1
      cases ob <;> simp only at h <;> first | (cases h; done) | skip
      · rename_i ks l
        obtain ⟨kvs, e2, rfl, rs⟩ := q
        split at h
        · rename_i hf
          cases ek : keyK k with
          | none => rw [ek] at h; cases h
          | some kk =>
            rw [ek] at h
            have ey := keyK_rel ry ek
            subst ey
            simp only [Option.map_some, Option.some.injEq] at h
            subst h
            obtain ⟨h1, h2⟩ := putZ_rel (k := kk) rz rs
            have hl : kvs.length < sizeLine := by have := fit_line hf; rw [List.length_map] at this; omega
            refine ⟨a, W.write n a (.dK (putK kvs kk z)) (.dk (putZ kk v (kvs.map (·.1)) l).1 (putZ kk v (kvs.map (·.1)) l).2), rfl, DPut.k e2 hl, rfl, Grow.write s hb, s.write hb ⟨_, rfl, h1, h2.mono (Grow.write s hb)⟩⟩
        · cases h
      · rename_i ks l
        obtain ⟨kvs, e2, rfl, rs⟩ := q
        split at h
        · rename_i hf
          cases ek : keyT k with
          | none => rw [ek] at h; cases h
          | some kk =>
            rw [ek] at h
            obtain ⟨b, rfl, eb⟩ := keyT_rel ry ek
            simp only [Option.map_some, Option.some.injEq] at h
            subst h
            obtain ⟨h1, h2⟩ := putZ_rel (k := kk) rz rs
            have hl : kvs.length < sizeLine := by have := fit_line hf; rw [List.length_map] at this; omega
            refine ⟨a, W.write n a (.dT (putK kvs kk z)) (.dt (putZ kk v (kvs.map (·.1)) l).1 (putZ kk v (kvs.map (·.1)) l).2), rfl, DPut.t e2 eb hl, rfl, Grow.write s hb, s.write hb ⟨_, rfl, h1, h2.mono (Grow.write s hb)⟩⟩
        · cases h
theorem ss_dput {o i value : Expr} {md mk mv : Ev} {pos pos' : Pos} (hu : X.A.units + 64 < cLine) (ho : SE X E o md) (hi : SE X E i mk) (hv : SE X E value mv) (hs : swapsWith value (some (.Subscript o i pos')) pos.line X.env = pure false := by rfl) : SS X E (.Assign [.Subscript o i pos'] value pos) (mDPut md mk mv) :=
  PS.imp (ps_dput (by omega) ho hi hv hs) fun D σ H h => by
    obtain ⟨W, ρ, rfl, s, r, h⟩ := h
    refine ⟨W, ρ, rfl, s, r, imp_e (PostE.bindS (show PostS _ _ _ _ _ ((mv ρ W.S).bindS _) from h)) fun z H1 q => ?_⟩
    obtain ⟨W1, v, rfl, g1, s1, r1, q⟩ := q
    refine ⟨W1, ρ, rfl, s1, r.mono g1, imp_e (PostE.bindS (show PostS _ _ _ _ _ ((md ρ W1.S).bindS _) from q)) fun x H2 q => ?_⟩
    obtain ⟨W2, d, rfl, g2, s2, r2, q⟩ := q
    refine ⟨W2, ρ, rfl, s2, (r.mono g1).mono g2, imp_e (PostE.bindS (show PostS _ _ _ _ _ ((mk ρ W2.S).bindS _) from q)) fun y H3 q => ?_⟩
    obtain ⟨W3, k, rfl, g3, s3, r3, q⟩ := q
    cases d <;> simp only at q <;> first | exact q.elim | skip
    split at q
    · rename_i S' hd
      obtain ⟨a, W4, rfl, hp, e4, g4, s4⟩ := dput_rel s3 (r2.mono g3) r3 ((r1.mono g2).mono g3) hd
      exact ⟨a, W4.H, rfl, hp, q W4 σ e4 g4 s4 ((((r.mono g1).mono g2).mono g3).mono g4)⟩
    · exact q.elim
end
end L3
/-! L3L: [::-1] of tuples, texts, lists. -/
namespace HT
open PySem PySem.Spec PyProof.Rows
section
variable {prog : Program} {w : World} {A : Around} {E : Value → Shared → Prop} {s : Shared}
theorem sliceApplied_rev {sl : Addr} {vs : Value} {n : Nat} {Q : Int × Int × Nat → Shared → Prop} (hs : s.heap.IsSliceOf sl .none .none vs) (ps : IsPart vs (some (-1)))
    (h : Q ((n : Int) - 1, -1, n) s) : wpAny (model prog w) A (Builtin.Slice.sliceApplied (.ref sl) (pure (n : Int))) Q E s := by
  obtain ⟨os, hos, hcs, hds⟩ := id hs
  unfold Builtin.Slice.sliceApplied Builtin.Slice.sliceFields
  refine wpAny_bind (wpAny_bind (wpAny_field hos hds (x := .none) rfl (wpAny_bind (wpAny_field hos hds (x := .none) rfl (wpAny_bind (wpAny_field hos hds (x := vs) rfl (wpAny_pure ?_)))))))
  refine wpAny_bind (slicePart_ ps ?_)
  show wpAny _ _ (if ((-1 : Int) == 0) = true then _ else _) _ _ s
  rw [if_neg (by decide)]
  refine wpAny_bind (slicePart_none (wpAny_bind (slicePart_none (wpAny_bind (wpAny_pure ?_)))))
  have e1 : Builtin.Slice.sliceAdjust none none (-1) (n : Int) = ((n : Int) - 1, -1) := rfl
  have e2 : Builtin.Slice.slicePlaces ((n : Int) - 1) (-1) (-1) = n := by
    unfold Builtin.Slice.slicePlaces
    have h1 : ¬ ((-1 : Int) > 0) := by omega
    simp only [h1, if_false]
    by_cases hn : (n : Int) - 1 > -1
    · rw [if_pos hn]
      have : ((n : Int) - 1 - -1 - 1) / (- -1) = (n : Int) - 1 := by
        rw [show (- -1 : Int) = 1 by decide, Int.ediv_one]; omega
      rw [this]; omega
    · rw [if_neg hn]; omega
  show wpAny _ _ (match Builtin.Slice.sliceAdjust none none (-1) (n : Int) with | (lo, hi) => pure (lo, (-1 : Int), Builtin.Slice.slicePlaces lo hi (-1))) _ _ s
  rw [e1]
  show wpAny _ _ (pure ((n : Int) - 1, (-1 : Int), Builtin.Slice.slicePlaces ((n : Int) - 1) (-1) (-1))) _ _ s
  rw [e2]
  exact wpAny_pure h
theorem fm_congr {α β : Type} {f g : α → Option β} : ∀ {l : List α}, (∀ k ∈ l, f k = g k) → l.filterMap f = l.filterMap g
  | [], _ => rfl
  | a :: l, h => by
    rw [List.filterMap_cons, List.filterMap_cons, h a (List.mem_cons_self ..), fm_congr fun k hk => h k (List.mem_cons_of_mem _ hk)]
theorem pick_rev (xs : Array Value) : ((List.range xs.size).filterMap fun (k : Nat) => xs[(((xs.size : Int) - 1) + (k : Int) * (-1)).toNat]?).toArray = xs.toList.reverse.toArray := by
  congr 1
  have e : ∀ k ∈ List.range xs.size, xs[(((xs.size : Int) - 1) + (k : Int) * (-1)).toNat]? = xs[xs.size - 1 - k]? := by
    intro k hk
    have := List.mem_range.mp hk
    have : (((xs.size : Int) - 1) + (k : Int) * (-1)).toNat = xs.size - 1 - k := by omega
    rw [this]
  rw [fm_congr e]
  have e2 : (List.range xs.size).filterMap (fun k => xs[xs.size - 1 - k]?) = ((List.range xs.size).map fun k => xs.size - 1 - k).filterMap (xs[·]?) := by
    rw [List.filterMap_map]; rfl
  rw [e2, PySem.W.krv_range, List.filterMap_reverse, PySem.W.krv_all]
theorem getItem_tuple_rev {t sl : Addr} {items : Array Value} {vs : Value} {Q : Value → Shared → Prop} (ht : IsTup s.heap t items) (hs : s.heap.IsSliceOf sl .none .none vs) (ps : IsPart vs (some (-1)))
    (h : Q (.ref s.heap.objs.size) { s with heap := s.heap.push { cls := .type "tuple", data := .seq items.toList.reverse.toArray } })
    (hsz : items.size ≤ sizeLine) : wpAny (model prog w) A (getItem (.ref t) (.ref sl)) Q E s := by
  have htake : sizeOk (.seq items.toList.reverse.toArray) := by
    show items.toList.reverse.toArray.size ≤ sizeLine
    rw [List.size_toArray, List.length_reverse, Array.length_toList]
    omega
  obtain ⟨os, hos, hcs, hds⟩ := id hs
  have hTs : s.TypeIs (.ref sl) "slice" := ⟨os, hos, hcs⟩
  unfold getItem
  try with_reducible refine wpAny_holding ?_
  first | refine wpAny_bind (wpAny_pure ?_) | skip
  refine wpAny_bind (wpAny_sequenceKey ht.typeIs (by decide) ?_)
  refine wpAny_bind (wpAny_callSpecial?_slot (name := Str.ofString "__getitem__") ht.typeIs PyProof.Rows.slot_tuple_getitem
    (wpAny_call_entry PyProof.Rows.slot_tuple_getitem ht.typeIs entry_tuple_getitem ?_ (args_tuple_getitem _ _)))
  show wpAny _ _ (Builtin.Tuple.tupleItemsOf (.ref t) >>= _) _ _ s
  refine wpAny_bind (tupleItemsOf_ ht ?_)
  refine wpAny_bind (wpAny_typeOf hTs ?_)
  rw [if_pos (by decide)]
  refine wpAny_bind (sliceApplied_rev hs ps ?_)
  have hno : ¬ (((items.size : Int) - 1 == 0 && (-1 : Int) == 1 && items.size == items.size) = true) := by
    intro q
    rw [Bool.and_eq_true, Bool.and_eq_true] at q
    exact absurd q.1.2 (by decide)
  show wpAny _ _ (if ((items.size : Int) - 1 == 0 && (-1 : Int) == 1 && items.size == items.size) = true then _ else _) _ _ s
  rw [if_neg hno, pick_rev]
  first
    | exact wpAny_bind (m := Builtin.Tuple.tupleExact _) (wpAny_newObj_type (wpAny_pure ⟨_, rfl, wpAny_pure h⟩) htake)
    | exact wpAny_bind (m := Builtin.Tuple.tupleExact _) (wpAny_newObj_type (wpAny_bind (wpAny_pure (wpAny_pure ⟨_, rfl, wpAny_pure h⟩))) htake)
    | exact wpAny_bind (wpAny_bind (m := Builtin.Tuple.tupleExact _) (wpAny_newObj_type (wpAny_pure (wpAny_pure ⟨_, rfl, wpAny_pure h⟩)) htake))
    | exact wpAny_bind (wpAny_bind (m := Builtin.Tuple.tupleExact _) (wpAny_newObj_type (wpAny_pure ⟨_, rfl, wpAny_pure h⟩) htake))
end
end HT
namespace L3
open PySem PySem.Spec PyProof.Rows L2
/-- what [::-1] of a value is, by values -/
def RvR (X : Cx) (r : V → Hp → VK → Prop) : Prop :=
  ∀ (pins : List (Addr × Obj)) (s : Shared) (σ : L2.St) (H : Hp) (x : V) (v vs : Value) (sl : Addr) (Q : VK), Inv X pins σ H s → RelV x v → s.heap.IsSliceOf sl .none .none vs → IsPart vs (some (-1)) → r x H Q →
    ∃ T id, typeLookup (.type T) "__getitem__" = pure (some (.builtin id)) ∧ s.TypeIs v T ∧ wpAny (model X.prog X.w) X.A (getItem v (.ref sl)) (EP X pins σ Q) X.xe s
section
variable {X : Cx} {E : XK}
def rvL (K : PySem.W.Frag) : V → Hp → VK → Prop := fun x H1 Q => ∃ a xs, x = .ref a ∧ SqL K H1 a xs ∧ ∀ p, H1 p = none → Q (.ref p) (upd H1 p (.lst xs.reverse))
def rvT (K : PySem.W.Frag) : V → Hp → VK → Prop := fun x H1 Q => ∃ a xs, x = .ref a ∧ SqT K H1 a xs ∧ ∀ p, H1 p = none → Q (.ref p) (upd H1 p (.tup xs.reverse))
def rvS : V → Hp → VK → Prop := fun x H1 Q => ∃ l, x = .str (L3.mk l) ∧ l.length ≤ sizeLine ∧ Q (.str (L3.mk l.reverse)) H1
theorem rv_list : RvR X (rvL X.K) := by
  intro pins s σ H x v vs sl Q I rx hs ps h
  obtain ⟨a, xs, rfl, hx, q⟩ := h
  cases rx
  obtain ⟨its, r, ht, hz⟩ := I.list hx
  have hlen := r.length
  refine ⟨"list", _, PySem.slot_list_getitem.lookup, ht.isList.typeIs, ?_⟩
  refine wpAny_getItem_list_slice ht.isList hs .none .none ps (by decide) ?_ (by rw [List.size_toArray]; omega)
  rw [PySem.W.krv_pick]
  refine ⟨.ref _, _, I.laid (t' := s.toks) (o := .lst xs.reverse) (fun b ob q => Heap.get?_push_of_some _ q) (Nat.le_refl _) ?_, rfl, q _ (I.hok.fresh (Nat.le_refl _))⟩
  exact ⟨by rw [List.length_reverse]; exact hz, _, 0, r.reverse, Heap.get?_push_size _ rfl⟩
theorem rv_tup : RvR X (rvT X.K) := by
  intro pins s σ H x v vs sl Q I rx hs ps h
  obtain ⟨a, xs, rfl, hx, q⟩ := h
  cases rx
  obtain ⟨its, r, ht, hz⟩ := I.tuple hx
  have hlen : its.toArray.size = xs.length := by rw [List.size_toArray]; exact r.length.symm
  refine ⟨"tuple", _, PyProof.Rows.slot_tuple_getitem.lookup, ht.typeIs, ?_⟩
  refine HT.getItem_tuple_rev ht hs ps ?_ (by rw [hlen]; exact hz)
  refine ⟨.ref s.heap.objs.size, _, I.laid (t' := s.toks) (o := .tup xs.reverse) (fun b ob q => Heap.get?_push_of_some _ q) (Nat.le_refl _) ?_, rfl, q _ (I.hok.fresh (Nat.le_refl _))⟩
  exact ⟨by rw [List.length_reverse]; exact hz, _, r.reverse, IsTup.new _ _⟩
theorem range_getD (l : List Nat) : (List.range l.length).map (fun k => l.toArray.getD (l.length - 1 - k) 0) = l.reverse := by
  apply List.ext_getElem
  · simp
  · intro i h1 h2
    simp only [List.getElem_map, List.getElem_range, List.getElem_reverse]
    have : l.length - 1 - i < l.length := by simp at h1; omega
    simp [Array.getD, this]
theorem rv_str : RvR X rvS := by
  intro pins s σ H x v vs sl Q I rx hs ps h
  obtain ⟨l, rfl, hz, q⟩ := h
  obtain ⟨t, rfl⟩ := rx
  obtain ⟨os, hos, hcs, hds⟩ := hs
  cases ps with
  | int i u =>
  refine ⟨"str", _, F.slot_str_getitem.lookup, typeIs_str _ _ _, ?_⟩
  refine wpAny_getItem_str_slice (l := none) (u := none) (st := some (-1, u)) ⟨os, hos, hcs, hds⟩ rfl ?_
  have e1 : (slicePicked (L3.mk l) none none (some (-1, u))).filterMap ((L3.mk l).cps[·]?) = l.reverse := by
    unfold slicePicked
    show (Builtin.Str.strSliceIndices none none (-1) l.length).filterMap (l.toArray[·]?) = _
    rw [PyProof.Rows.picked_rev, PySem.W.krv_range, List.filterMap_reverse]
    congr 1
    have : (List.range l.length).filterMap (l.toArray[·]?) = (List.range l.length).filterMap (l[·]?) := by simp
    rw [this]
    have := PySem.W.krv_all l.toArray
    simpa using this
  have e2 : sliceMade (L3.mk l) t none none (some (-1, u)) = .str (L3.mk l.reverse) := by
    unfold sliceMade
    rw [if_neg (by simp), e1]
    rfl
  rw [e2]
  refine ⟨?_, .str (L3.mk l.reverse), H, I.tok _, ⟨_, rfl⟩, q⟩
  show l.reverse.length ≤ sizeLine
  rw [List.length_reverse]; exact hz
theorem RvR.or {r r' : V → Hp → VK → Prop} (h : RvR X r) (h' : RvR X r') : RvR X (fun x H Q => r x H Q ∨ r' x H Q) := by
  intro pins s σ H x v vs sl Q I rx hs ps q
  rcases q with q | q
  · exact h pins s σ H x v vs sl Q I rx hs ps q
  · exact h' pins s σ H x v vs sl Q I rx hs ps q
theorem pe_rev {e : Expr} {te : TE} {r : V → Hp → VK → Prop} {k : Nat} {p1 p2 p3 pos : Pos} (hr : RvR X r) (he : PE X e te) : PE X (.Subscript e (.Slice none none (some (.UnaryOp .USub (.Constant (.int 1) k p1) p2)) p3) pos) (fun σ H Q => te σ H fun x H1 => r x H1 Q) := by
  refine ⟨fun pins s σ H Q I h => ?_⟩
  refine Subscript_ (thn (he.run pins s σ H _ I h) fun v s1 ⟨x, H1, I1, r1, q1⟩ => ?_)
  have hst : PO X (some (.UnaryOp .USub (.Constant (.int 1) k p1) p2)) (tPart (tUn (rU fun i => .int (-i)) (tC (.int 1)))) := po_some (pe_un un_neg pe_int)
  refine wpAny_Slice (thn (po_none.run pins s1 σ H1 (fun o H2 => o = none ∧ H2 = H1) I1 ⟨rfl, rfl⟩) fun vl s2 ⟨l, H2, I2, pl, el, e2⟩ => ?_)
  subst el e2
  refine thn (po_none.run pins s2 σ H2 (fun o H3 => o = none ∧ H3 = H2) I2 ⟨rfl, rfl⟩) fun vu s3 ⟨u, H3, I3, pu, eu, e3⟩ => ?_
  subst eu e3
  refine thn (hst.run pins s3 σ H3 (fun o H4 => o = some (-1) ∧ H4 = H3) I3 ⟨1, rfl, -1, rfl, rfl, rfl⟩) fun vs s4 ⟨o, H4, I4, ps, eo, e4⟩ => ?_
  subst eo e4
  cases pl
  cases pu
  have I5 : Inv X pins σ H4 { s4 with heap := s4.heap.push { cls := .type "slice", data := .fields #[.none, .none, vs] } } := I4.kept (t' := s4.toks) fun b ob q => Heap.get?_push_of_some _ q
  obtain ⟨T, id, hT, ht, hg⟩ := hr pins { s4 with heap := s4.heap.push { cls := .type "slice", data := .fields #[.none, .none, vs] } } σ H4 x v vs s4.heap.objs.size Q I5 r1 (Heap.IsSliceOf.new ..) ps q1
  show wpAny (model X.prog X.w) X.A (subscriptTail e (.Slice none none (some (.UnaryOp .USub (.Constant (.int 1) k p1) p2)) p3) v (.ref s4.heap.objs.size)) (EP X pins σ Q) X.xe { s4 with heap := s4.heap.push { cls := .type "slice", data := .fields #[.none, .none, vs] } }
  exact tail_any (ops := [v, .ref s4.heap.objs.size]) ht hT hg (by with_unfolding_all rfl)
def gRev : G1 := fun a S => match a with
  | .tup l | .ktup l => .ok (.tup l.reverse) S
  | .lst l => .ok (.lst l.reverse) S
  | .scr l => .ok (.lst (l.map Val.int).reverse) S
  | .str l => if fit l.length then .ok (.str l.reverse) S else .stuck
  | _ => .stuck
theorem se_rev {e : Expr} {m : Ev} {k : Nat} {p1 p2 p3 pos : Pos} (he : SE X E e m) : SE X E (.Subscript e (.Slice none none (some (.UnaryOp .USub (.Constant (.int 1) k p1) p2)) p3) pos) (mUn gRev m) :=
  PE.imp (pe_rev (rv_list.or (rv_tup.or rv_str)) he) fun σ H Q h => by
    obtain ⟨W, ρ, e, s, r, h⟩ := un_imp h
    refine ⟨W, ρ, e, s, r, imp_e h fun x H1 q => ?_⟩
    obtain ⟨W1, a, rfl, s1, r1, q⟩ := q
    cases r1 <;> simp only [gRev] at q <;> first | exact q.elim | skip
    · split at q
      · rename_i hf
        exact .inr (.inr ⟨_, rfl, fit_line hf, PostE.val s1 (.str _) q⟩)
      · exact q.elim
    · rename_i t r
      exact .inr (.inl ⟨_, _, rfl, t.sq, PostE.tup s1 r.reverse q⟩)
    · rename_i t r
      exact .inl ⟨_, _, rfl, t.sq, PostE.lst s1 r.reverse q⟩
    · rename_i t r
      exact .inr (.inl ⟨_, _, rfl, .inr t, PostE.tup s1 r.reverse q⟩)
    · rename_i t
      refine .inl ⟨_, _, rfl, t.sq, PostE.lst s1 (VRs.reverse ?_) q⟩
      rename_i ns
      clear t q
      induction ns with
      | nil => exact .nil
      | cons i ns ih => exact .cons (.int i) ih
/-- xs[::-1], the new list being one of the store's -/
def gRevOwn : G1 := fun a S => match a with
  | .lst l => .ok (.rf S.length) (S ++ [.lst l.reverse])
  | _ => .stuck
end
end L3
/-! L3M: the store's objects: new ones, lists, fields, methods, instances, displays; truth. -/
namespace L3
open PySem PySem.Spec PyProof.Rows L2

/-! ### a new object of the store -/
def Wd.make (W : Wd) (a : Addr) (o : HO) (b : Ob) : Wd := ⟨W.B ++ [a], W.S ++ [b], upd W.H a o, W.R⟩
section
variable {K : PySem.W.Frag} {mg : Str → Option Value} {W W0 W2 : Wd} {a : Addr} {o : HO} {b : Ob}
theorem Grow.make (b : Ob) (h : W.H a = none) : Grow W (W.make a o b) where
  pre := fun i c e => by
    show (W.B ++ [a])[i]? = some c
    rw [List.getElem?_append_left (List.getElem?_eq_some_iff.mp e).1]; exact e
  keep := fun c u e _ => by show upd W.H a o c = some u; rw [upd_ne (ne_of_none e h)]; exact e
  res := fun c u _ e => by show upd W.H a o c = some u; rw [upd_ne (ne_of_none e h)]; exact e
  live := fun c l => by
    rcases l with z | z
    · exact .inl (.inl z)
    · have z' : c ∈ W.B ++ [a] := z
      rcases List.mem_append.mp z' with z | z
      · exact .inl (.inr z)
      · have : c = a := by simpa using z
        subst this
        exact .inr h
  trk := fun c e => by
    by_cases hc : c = a
    · subst hc; exact h
    · have e' : upd W.H a o c = none := e
      rw [upd_ne hc] at e'; exact e'
  r := fun _ h => h
theorem SR.make (s : SR K mg W) (h : W.H a = none) (hn : OR K mg (W.make a o b) (some o) b) (hb : ∀ P q, b ≠ .tab P q := by intro _ _ e; cases e) : SR K mg (W.make a o b) where
  len := by show (W.B ++ [a]).length = (W.S ++ [b]).length; simp [s.len]
  nd := by
    show (W.B ++ [a]).Nodup
    refine List.nodup_append.mpr ⟨s.nd, by simp, fun x hx y hy => ?_⟩
    have : y = a := by simpa using hy
    subst this
    exact fun e => s.trk x hx (e ▸ h)
  nr := fun c hc z => by
    have hc' : c ∈ W.B ++ [a] := hc
    rcases List.mem_append.mp hc' with q | q
    · exact s.nr c q z
    · have : c = a := by simpa using q
      subst this
      exact s.res c z h
  at_ := fun i u e => by
    have e' : (W.S ++ [b])[i]? = some u := e
    by_cases hi : i < W.S.length
    · rw [List.getElem?_append_left hi] at e'
      obtain ⟨c, e1, r⟩ := s.at_ i u e'
      have hc : c ≠ a := fun z => s.trk c (List.mem_of_getElem? e1) (z ▸ h)
      refine ⟨c, ?_, ?_⟩
      · show (W.B ++ [a])[i]? = some c
        rw [List.getElem?_append_left (by rw [s.len]; exact hi)]; exact e1
      · show OR K mg _ (upd W.H a o c) u
        rw [upd_ne hc]; exact r.mono (Grow.make b h)
    · rw [List.getElem?_append_right (by omega)] at e'
      have hi0 : i - W.S.length = 0 := by
        rcases Nat.eq_zero_or_pos (i - W.S.length) with q | q
        · exact q
        · rw [List.getElem?_eq_none (by simp; omega)] at e'; cases e'
      rw [hi0] at e'
      cases e'
      refine ⟨a, ?_, ?_⟩
      · show (W.B ++ [a])[i]? = some a
        rw [List.getElem?_append_right (by rw [s.len]; omega), s.len, hi0]; rfl
      · show OR K mg _ (upd W.H a o a) b
        rw [upd_same]; exact hn
  res := fun c hc => by
    have : c ≠ a := fun z => s.res c hc (z ▸ h)
    show upd W.H a o c ≠ none
    rw [upd_ne this]; exact s.res c hc
  trk := fun c hc => by
    by_cases z : c = a
    · subst z; show upd W.H c o c ≠ none; rw [upd_same]; simp
    · show upd W.H a o c ≠ none
      rw [upd_ne z]
      have hc' : c ∈ W.B ++ [a] := hc
      rcases List.mem_append.mp hc' with q | q
      · exact s.trk c q
      · exact absurd (by simpa using q) z
  sm := by
    obtain ⟨o1, u1, e⟩ := s.sm
    exact ⟨o1, u1, by show upd W.H a o _ = _; rw [upd_ne (ne_of_none e h)]; exact e⟩
  smB := fun z => by
    have z' : sysModules ∈ W.B ++ [a] := z
    rcases List.mem_append.mp z' with q | q
    · exact s.smB q
    · obtain ⟨o1, u1, e⟩ := s.sm
      have : sysModules = a := by simpa using q
      rw [this, h] at e; cases e
  smR := s.smR
  tb := fun i P q e => by
    have e' : (W.S ++ [b])[i]? = some (.tab P q) := e
    by_cases hi : i < W.S.length
    · rw [List.getElem?_append_left hi] at e'
      show (W.B ++ [a])[i]? = some P
      rw [List.getElem?_append_left (by rw [s.len]; exact hi)]; exact s.tb i P q e'
    · rw [List.getElem?_append_right (by omega)] at e'
      have hi0 : i - W.S.length = 0 := by
        rcases Nat.eq_zero_or_pos (i - W.S.length) with q | q
        · exact q
        · rw [List.getElem?_eq_none (by simp; omega)] at e'; cases e'
      rw [hi0] at e'
      cases e'
      exact absurd rfl (hb P q)
theorem VR.make {a : Addr} {o : HO} {b : Ob} (s : SR K mg W) : VR K (W.make a o b) (.ref a) (.rf W.S.length) := .rf (by
  show (W.B ++ [a])[W.S.length]? = some a
  rw [List.getElem?_append_right (by rw [s.len]; exact Nat.le_refl _), s.len, Nat.sub_self]; rfl)

/-! ### an address that is kept for oneself: any object -/
def Wd.keepAt (W : Wd) (D : Addr) (o : HO) : Wd := { W with H := upd W.H D o, R := D :: W.R }
theorem Grow.keepAt {D : Addr} (o : HO) (h : W.H D = none) : Grow W (W.keepAt D o) where
  pre := fun _ _ h => h
  keep := fun b u e _ => by show upd W.H D _ b = some u; rw [upd_ne (ne_of_none e h)]; exact e
  res := fun b u _ e => by show upd W.H D _ b = some u; rw [upd_ne (ne_of_none e h)]; exact e
  live := fun b l => by
    rcases l with z | z
    · rcases List.mem_cons.mp z with z | z
      · exact .inr (z ▸ h)
      · exact .inl (.inl z)
    · exact .inl (.inr z)
  trk := fun b e => by
    by_cases hb : b = D
    · subst hb; exact h
    · have e' : upd W.H D _ b = none := e
      rw [upd_ne hb] at e'; exact e'
  r := fun b z => List.mem_cons_of_mem _ z
theorem SR.keepAt {D : Addr} (s : SR K mg W) (o : HO) (h : W.H D = none) : SR K mg (W.keepAt D o) where
  len := s.len
  nd := s.nd
  nr := fun a ha z => by
    rcases List.mem_cons.mp z with z | z
    · exact s.trk a ha (z ▸ h)
    · exact s.nr a ha z
  at_ := fun n u e => by
    obtain ⟨a, e1, r⟩ := s.at_ n u e
    have hp : a ≠ D := fun z => s.trk a (List.mem_of_getElem? e1) (z ▸ h)
    refine ⟨a, e1, ?_⟩
    show OR K mg _ (upd W.H D _ a) u
    rw [upd_ne hp]
    exact r.mono (Grow.keepAt o h)
  res := fun a ha => by
    rcases List.mem_cons.mp ha with z | z
    · subst z
      show upd W.H a _ a ≠ none
      rw [upd_same]; simp
    · have : a ≠ D := fun q => s.res a z (q ▸ h)
      show upd W.H D _ a ≠ none
      rw [upd_ne this]; exact s.res a z
  trk := fun a ha => by
    have : a ≠ D := fun z => s.trk a ha (z ▸ h)
    show upd W.H D _ a ≠ none
    rw [upd_ne this]; exact s.trk a ha
  sm := by
    obtain ⟨o1, u1, e⟩ := s.sm
    exact ⟨o1, u1, by show upd W.H D _ _ = _; rw [upd_ne (ne_of_none e h)]; exact e⟩
  smB := s.smB
  smR := fun z => by
    obtain ⟨o1, u1, e⟩ := s.sm
    rcases List.mem_cons.mp z with z | z
    · rw [z, h] at e; cases e
    · exact s.smR z
  tb := s.tb
theorem upd_live' {W : Wd} {D : Addr} {o : HO} {a : Addr} (hD : D ∈ W.R) (l : ¬ Live W a) : upd W.H D o a = W.H a := upd_ne fun z => l (.inl (by rw [z]; exact hD))
def Wd.wat (W : Wd) (D : Addr) (o : HO) : Wd := { W with H := upd W.H D o }
mutual
theorem VR.wat {D : Addr} (o : HO) (hD : D ∈ W.R) : ∀ {x : V} {v : Val}, VR K W x v → VR K (W.wat D o) x v
  | _, _, .non => .non
  | _, _, .bl b => .bl b
  | _, _, .int i => .int i
  | _, _, .str l => .str l
  | _, _, .tup h r => .tup ⟨(upd_live' hD h.2).trans h.1, h.2⟩ (VRs.wat o hD r)
  | _, _, .lst h r => .lst ⟨(upd_live' hD h.2).trans h.1, h.2⟩ (VRs.wat o hD r)
  | _, _, .dct h l r => .dct ((upd_live' hD l).trans h) l (VRs.wat o hD r)
  | _, _, .rf h => .rf h
  | _, _, .ktup h r => .ktup h (VRs.wat o hD r)
  | _, _, .scr h => .scr (by
      rcases h with ⟨h1 | ⟨o', h1⟩, h2⟩ | h
      · exact .inl ⟨.inl ((upd_live' hD h2).trans h1), h2⟩
      · exact .inl ⟨.inr ⟨o', (upd_live' hD h2).trans h1⟩, h2⟩
      · exact .inr h)
theorem VRs.wat {D : Addr} (o : HO) (hD : D ∈ W.R) : ∀ {ys : List V} {l : List Val}, VRs K W ys l → VRs K (W.wat D o) ys l
  | _, _, .nil => .nil
  | _, _, .cons h r => .cons (VR.wat o hD h) (VRs.wat o hD r)
end
theorem OR.wat {D : Addr} (o : HO) (hD : D ∈ W.R) {h : Option HO} {ob : Ob} (r : OR K mg W h ob) : OR K mg (W.wat D o) h ob := by
  cases ob with
  | lst l => obtain ⟨xs, e, r⟩ := r; exact ⟨xs, e, r.wat _ hD⟩
  | dk ks l => obtain ⟨kvs, e, e2, r⟩ := r; exact ⟨kvs, e, e2, r.wat _ hD⟩
  | dt ks l => obtain ⟨kvs, e, e2, r⟩ := r; exact ⟨kvs, e, e2, r.wat _ hD⟩
  | ins c ns l => obtain ⟨C, dx, fs, e0, e, e2, r⟩ := r; exact ⟨C, dx, fs, e0, e, e2, r.wat _ hD⟩
  | tab P q =>
    obtain ⟨ps, e, t, r⟩ := r
    refine ⟨ps, e, t, fun pos cv hc => ?_⟩
    obtain ⟨c, e1, e2, l⟩ := r pos cv hc
    exact ⟨c, e1, (upd_live' hD l).trans e2, l⟩
theorem SR.wat {D : Addr} (s : SR K mg W) (o : HO) (hD : D ∈ W.R) : SR K mg (W.wat D o) where
  len := s.len
  nd := s.nd
  nr := s.nr
  at_ := fun n u e => by
    obtain ⟨a, e1, r⟩ := s.at_ n u e
    have hp : a ≠ D := fun z => s.nr a (List.mem_of_getElem? e1) (z ▸ hD)
    refine ⟨a, e1, ?_⟩
    show OR K mg _ (upd W.H D _ a) u
    rw [upd_ne hp]
    exact OR.wat o hD r
  res := fun a ha => by
    by_cases z : a = D
    · subst z; show upd W.H a _ a ≠ none; rw [upd_same]; simp
    · show upd W.H D _ a ≠ none; rw [upd_ne z]; exact s.res a ha
  trk := fun a ha => by
    have : a ≠ D := fun z => s.nr a ha (z ▸ hD)
    show upd W.H D _ a ≠ none
    rw [upd_ne this]; exact s.trk a ha
  sm := by
    obtain ⟨o1, u1, e⟩ := s.sm
    exact ⟨o1, u1, by show upd W.H D _ _ = _; rw [upd_ne fun z => s.smR (by rw [z]; exact hD)]; exact e⟩
  smB := s.smB
  smR := s.smR
  tb := s.tb
/-- written at an address that was new at the start -/
theorem Grow.wat {D : Addr} (o : HO) (g : Grow W0 W) (h : W0.H D = none) : Grow W0 (W.wat D o) where
  pre := g.pre
  keep := fun b u e l => by
    show upd W.H D _ b = some u
    rw [upd_ne (ne_of_none e h)]; exact g.keep b u e l
  res := fun b u z e => by
    show upd W.H D _ b = some u
    rw [upd_ne (ne_of_none e h)]; exact g.res b u z e
  live := g.live
  trk := fun b e => by
    by_cases hb : b = D
    · subst hb; exact h
    · have e' : upd W.H D _ b = none := e
      rw [upd_ne hb] at e'; exact g.trk b e'
  r := g.r
/-- the kept address becomes an object of the store -/
def Wd.give (W : Wd) (D : Addr) (R : List Addr) (b : Ob) : Wd := ⟨W.B ++ [D], W.S ++ [b], W.H, R⟩
theorem live_give {D : Addr} {R : List Addr} (hR : ∀ b ∈ R, b ∈ W.R) (hD : D ∈ W.R) {c : Addr} (l : Live (W.give D R b) c) : Live W c := by
  rcases l with z | z
  · exact .inl (hR c z)
  · have z' : c ∈ W.B ++ [D] := z
    rcases List.mem_append.mp z' with z | z
    · exact .inr z
    · have : c = D := by simpa using z
      subst this; exact .inl hD
theorem pre_give {D : Addr} {R : List Addr} {i : Nat} {c : Addr} (e : W.B[i]? = some c) : (W.give D R b).B[i]? = some c := by
  show (W.B ++ [D])[i]? = some c
  rw [List.getElem?_append_left (List.getElem?_eq_some_iff.mp e).1]; exact e
mutual
theorem VR.give {D : Addr} {R : List Addr} (hR : ∀ b ∈ R, b ∈ W.R) (hD : D ∈ W.R) : ∀ {x : V} {v : Val}, VR K W x v → VR K (W.give D R b) x v
  | _, _, .non => .non
  | _, _, .bl b => .bl b
  | _, _, .int i => .int i
  | _, _, .str l => .str l
  | _, _, .tup h r => .tup ⟨h.1, fun z => h.2 (live_give hR hD z)⟩ (VRs.give hR hD r)
  | _, _, .lst h r => .lst ⟨h.1, fun z => h.2 (live_give hR hD z)⟩ (VRs.give hR hD r)
  | _, _, .dct h l r => .dct h (fun z => l (live_give hR hD z)) (VRs.give hR hD r)
  | _, _, .rf h => .rf (pre_give h)
  | _, _, .ktup h r => .ktup h (VRs.give hR hD r)
  | _, _, .scr h => .scr (by
      rcases h with h | h
      · exact .inl ⟨h.1, fun z => h.2 (live_give hR hD z)⟩
      · exact .inr h)
theorem VRs.give {D : Addr} {R : List Addr} (hR : ∀ b ∈ R, b ∈ W.R) (hD : D ∈ W.R) : ∀ {ys : List V} {l : List Val}, VRs K W ys l → VRs K (W.give D R b) ys l
  | _, _, .nil => .nil
  | _, _, .cons h r => .cons (VR.give hR hD h) (VRs.give hR hD r)
end
theorem OR.give {D : Addr} {R : List Addr} (hR : ∀ b ∈ R, b ∈ W.R) (hD : D ∈ W.R) {h : Option HO} {ob : Ob} (r : OR K mg W h ob) : OR K mg (W.give D R b) h ob := by
  cases ob with
  | lst l => obtain ⟨xs, e, r⟩ := r; exact ⟨xs, e, r.give hR hD⟩
  | dk ks l => obtain ⟨kvs, e, e2, r⟩ := r; exact ⟨kvs, e, e2, r.give hR hD⟩
  | dt ks l => obtain ⟨kvs, e, e2, r⟩ := r; exact ⟨kvs, e, e2, r.give hR hD⟩
  | ins c ns l => obtain ⟨C, dx, fs, e0, e, e2, r⟩ := r; exact ⟨C, dx, fs, e0, e, e2, r.give hR hD⟩
  | tab P q =>
    obtain ⟨ps, e, t, r⟩ := r
    refine ⟨ps, e, t, fun pos cv hc => ?_⟩
    obtain ⟨c, e1, e2, l⟩ := r pos cv hc
    exact ⟨c, e1, e2, fun z => l (live_give hR hD z)⟩
theorem SR.give {D : Addr} {R : List Addr} (s : SR K mg W) (hR : ∀ b ∈ R, b ∈ W.R) (hD : D ∈ W.R) (hDR : D ∉ R) (hn : OR K mg (W.give D R b) (W.H D) b) (hb : ∀ P q, b ≠ .tab P q := by intro _ _ e; cases e) : SR K mg (W.give D R b) where
  len := by show (W.B ++ [D]).length = (W.S ++ [b]).length; simp [s.len]
  nd := by
    show (W.B ++ [D]).Nodup
    refine List.nodup_append.mpr ⟨s.nd, by simp, fun x hx y hy => ?_⟩
    have : y = D := by simpa using hy
    subst this
    exact fun e => s.nr x hx (e ▸ hD)
  nr := fun c hc z => by
    have hc' : c ∈ W.B ++ [D] := hc
    rcases List.mem_append.mp hc' with q | q
    · exact s.nr c q (hR c z)
    · have : c = D := by simpa using q
      subst this
      exact hDR z
  at_ := fun i u e => by
    have e' : (W.S ++ [b])[i]? = some u := e
    by_cases hi : i < W.S.length
    · rw [List.getElem?_append_left hi] at e'
      obtain ⟨c, e1, r⟩ := s.at_ i u e'
      exact ⟨c, pre_give e1, OR.give hR hD r⟩
    · rw [List.getElem?_append_right (by omega)] at e'
      have hi0 : i - W.S.length = 0 := by
        rcases Nat.eq_zero_or_pos (i - W.S.length) with q | q
        · exact q
        · rw [List.getElem?_eq_none (by simp; omega)] at e'; cases e'
      rw [hi0] at e'
      cases e'
      refine ⟨D, ?_, hn⟩
      show (W.B ++ [D])[i]? = some D
      rw [List.getElem?_append_right (by rw [s.len]; omega), s.len, hi0]; rfl
  res := fun c hc => s.res c (hR c hc)
  trk := fun c hc => by
    have hc' : c ∈ W.B ++ [D] := hc
    rcases List.mem_append.mp hc' with q | q
    · exact s.trk c q
    · have : c = D := by simpa using q
      subst this
      exact s.res c hD
  sm := s.sm
  smB := fun z => by
    have z' : sysModules ∈ W.B ++ [D] := z
    rcases List.mem_append.mp z' with q | q
    · exact s.smB q
    · have : sysModules = D := by simpa using q
      exact s.smR (this ▸ hD)
  smR := fun z => s.smR (hR _ z)
  tb := fun i P q e => by
    have e' : (W.S ++ [b])[i]? = some (.tab P q) := e
    by_cases hi : i < W.S.length
    · rw [List.getElem?_append_left hi] at e'
      show (W.B ++ [D])[i]? = some P
      rw [List.getElem?_append_left (by rw [s.len]; exact hi)]; exact s.tb i P q e'
    · rw [List.getElem?_append_right (by omega)] at e'
      have hi0 : i - W.S.length = 0 := by
        rcases Nat.eq_zero_or_pos (i - W.S.length) with q | q
        · exact q
        · rw [List.getElem?_eq_none (by simp; omega)] at e'; cases e'
      rw [hi0] at e'
      cases e'
      exact absurd rfl (hb P q)
theorem Grow.give {D : Addr} {R : List Addr} (g : Grow W0 W) (hR : ∀ b ∈ R, b ∈ W.R) (hD : D ∈ W.R) (h1 : ∀ b ∈ W0.R, b ∈ R) : Grow W0 (W.give D R b) where
  pre := fun i c e => pre_give (g.pre i c e)
  keep := g.keep
  res := g.res
  live := fun c l => g.live c (live_give hR hD l)
  trk := g.trk
  r := h1
theorem VR.given {D : Addr} {R : List Addr} (s : SR K mg W) : VR K (W.give D R b) (.ref D) (.rf W.S.length) := .rf (by
  show (W.B ++ [D])[W.S.length]? = some D
  rw [List.getElem?_append_right (by rw [s.len]; exact Nat.le_refl _), s.len, Nat.sub_self]; rfl)
end

section
variable {X : Cx} {E : XK}
/-! ### {} as an object of the store -/
@[simp] def mNewT : Ev := fun _ S => .ok (.rf S.length) (S ++ [.dt [] []])
@[simp] def mNewK : Ev := fun _ S => .ok (.rf S.length) (S ++ [.dk [] []])
theorem se_newT {pos : Pos} : SE X E (.Dict [] [] pos) mNewT :=
  PE.imp pe_dnewT fun σ H Q h p hp => by
    obtain ⟨W, ρ, rfl, s, r, h⟩ := h
    exact h (W.make p (.dT []) (.dt [] [])) (.ref p) rfl (Grow.make _ hp) (s.make hp ⟨[], rfl, rfl, .nil⟩) (VR.make s)
theorem se_newK {pos : Pos} : SE X E (.Dict [] [] pos) mNewK :=
  PE.imp pe_dnewK fun σ H Q h p hp => by
    obtain ⟨W, ρ, rfl, s, r, h⟩ := h
    exact h (W.make p (.dK []) (.dk [] [])) (.ref p) rfl (Grow.make _ hp) (s.make hp ⟨[], rfl, rfl, .nil⟩) (VR.make s)
/-- {} as data -/
theorem se_newD {pos : Pos} : SE X E (.Dict [] [] pos) (mC (.dct [] [])) :=
  PE.imp pe_dnewK fun σ H Q h p hp => by
    obtain ⟨W, ρ, rfl, s, r, h⟩ := h
    exact h (W.put p (.dK [])) (.ref p) rfl (Grow.new _ hp) (s.new _ hp) (.dct (kvs := []) upd_same (fun z => s.notLive hp z) .nil)
/-! ### xs[::-1] as an object of the store -/
theorem se_revOwn {e : Expr} {m : Ev} {k : Nat} {p1 p2 p3 pos : Pos} (he : SE X E e m) : SE X E (.Subscript e (.Slice none none (some (.UnaryOp .USub (.Constant (.int 1) k p1) p2)) p3) pos) (mUn gRevOwn m) :=
  PE.imp (pe_rev rv_list he) fun σ H Q h => by
    obtain ⟨W, ρ, e, s, r, h⟩ := un_imp h
    refine ⟨W, ρ, e, s, r, imp_e h fun x H1 q => ?_⟩
    obtain ⟨W1, a, rfl, s1, r1, q⟩ := q
    cases r1 <;> simp only [gRevOwn] at q <;> first | exact q.elim | skip
    rename_i c xs l t r
    refine ⟨c, xs, rfl, t.sq, fun p hp => ?_⟩
    exact q (W1.make p (.lst xs.reverse) (.lst l.reverse)) (.ref p) rfl (Grow.make _ hp) (s1.make hp ⟨_, rfl, (r.mono (Grow.make _ hp)).reverse⟩) (VR.make s1)
/-! ### d.get(k) -/
def isDk (S : Store) (n : Nat) : Bool := match S[n]? with
  | some (.dk _ _) => true
  | some (.dt _ _) => true
  | _ => false
@[simp] def mDGet1 (md mk : Ev) : Ev := fun ρ S => (md ρ S).bind fun d S => match d with
  | .rf n => if isDk S n then (mk ρ S).bind fun k S => (match dget S n k with
    | some (some v) => .ok v S
    | some none => .ok .non S
    | none => .stuck) else .stuck
  | _ => .stuck
theorem isDk_at {W : Wd} (s : SR X.K X.mg W) {n : Nat} {a : Addr} (hb : W.B[n]? = some a) (h : isDk W.S n = true) : IsD W.H a := by
  unfold isDk at h
  cases e : W.S[n]? with
  | none => rw [e] at h; cases h
  | some ob =>
    rw [e] at h
    obtain ⟨a', e1, q⟩ := s.at_ n ob e
    rw [hb] at e1
    cases e1
    cases ob <;> simp only at h <;> first | (cases h; done) | skip
    · obtain ⟨kvs, e2, _⟩ := q
      exact .inl ⟨kvs, .inl e2⟩
    · obtain ⟨kvs, e2, _⟩ := q
      exact .inr ⟨kvs, .inl e2⟩
theorem se_dget1 {o e : Expr} {md mk : Ev} {apos cpos : Pos} (hu : X.A.units + 64 < cLine) (ho : SE X E o md) (he : SE X E e mk) (m : M1 X o "get" apos e cpos) : SE X E (.Call (.Attribute o "get" apos) [e] [] cpos) (mDGet1 md mk) :=
  PE.imp (pe_dget1 (by omega) ho he m) fun σ H Q h => by
    obtain ⟨W, ρ, rfl, s, r, h⟩ := h
    refine ⟨W, ρ, rfl, s, r, imp_e (PostE.bind (show PostE _ _ _ _ _ ((md ρ W.S).bind _) from h)) fun x H1 q => ?_⟩
    obtain ⟨W1, d, rfl, g1, s1, r1, q⟩ := q
    cases r1 with
    | rf hb =>
      rename_i a n
      simp only at q
      split at q
      · rename_i hd
        refine ⟨a, rfl, isDk_at s1 hb hd, W1, ρ, rfl, s1, r.mono g1, imp_e (PostE.bind (show PostE _ _ _ _ _ ((mk ρ W1.S).bind _) from q)) fun y H2 q => ?_⟩
        obtain ⟨W2, k, rfl, g2, s2, r2, q⟩ := q
        split at q
        · rename_i v hv
          obtain ⟨a', o, ea, hg, ⟨z, rfl, rz⟩, _⟩ := dget_rel s2 (.rf (g2.pre _ _ hb)) r2 hv
          cases ea
          exact ⟨_, hg, PostE.val s2 rz q⟩
        · rename_i hv
          obtain ⟨a', o, ea, hg, ho, _⟩ := dget_rel s2 (.rf (g2.pre _ _ hb)) r2 hv
          cases ea
          have ho : o = none := ho
          subst ho
          exact ⟨_, hg, PostE.val s2 .non q⟩
        · exact q.elim
      · exact q.elim
    | _ => exact q.elim
/-! ### lists of the store -/
@[simp] def mPop (m : Ev) : Ev := fun ρ S => (m ρ S).bind fun d S => match d with
  | .rf n => (match S[n]? with
    | some (.lst l) => (match l[l.length - 1]? with
      | some v => .ok v (S.set n (.lst l.dropLast))
      | none => .stuck)
    | _ => .stuck)
  | _ => .stuck
theorem VRs.dropLast {K} {W : Wd} {xs : List V} {l : List Val} (h : VRs K W xs l) : VRs K W xs.dropLast l.dropLast := by
  rw [List.dropLast_eq_take, List.dropLast_eq_take, h.length]
  exact h.take _
theorem se_pop {o : Expr} {m : Ev} {apos cpos : Pos} (ho : SE X E o m) (hbase : attributeBase o "pop" X.env (eval o X.env) = eval o X.env := by rfl) (hline : (apos.endLine == cpos.line) = true := by rfl) :
    SE X E (.Call (.Attribute o "pop" apos) [] [] cpos) (mPop m) :=
  PE.imp (pe_bm0 PySem.F.plainAttrs_list PySem.F.slot_list_pop PySem.F.type_list_pop (fun pins s σ H x xs v us Q I rx rv h => mt_pop pins s σ H x xs v us Q I rx rv h) ho hbase hline) fun σ H Q h => by
    obtain ⟨W, ρ, rfl, s, r, h⟩ := h
    refine ⟨W, ρ, rfl, s, r, imp_e (PostE.bind (show PostE _ _ _ _ _ ((m ρ W.S).bind _) from h)) fun x H1 q => ?_⟩
    obtain ⟨W1, d, rfl, g1, s1, r1, q⟩ := q
    cases r1 with
    | rf hb =>
      rename_i a n
      simp only at q
      split at q
      · rename_i l e
        obtain ⟨a', e1, xs, ex, rs⟩ := s1.at_ n _ e
        rw [hb] at e1
        cases e1
        split at q
        · rename_i v hv
          have hl := rs.length
          obtain ⟨y, ey, ry⟩ := rs.get hv
          rw [← hl] at ey
          have rd := (VRs.dropLast rs).mono (Grow.write s1 (o := .lst xs.dropLast) (b := .lst l.dropLast) hb)
          exact ⟨.inl ⟨rfl, xs, .inl (.inl ex)⟩, _, xs, y, rfl, rfl, ex, ey, q (W1.write n _ (.lst xs.dropLast) (.lst l.dropLast)) y rfl (Grow.write s1 hb) (s1.write hb ⟨_, rfl, rd⟩) (ry.mono (Grow.write s1 hb))⟩
        · exact q.elim
      · exact q.elim
    | _ => exact q.elim
def isLs (S : Store) (n : Nat) : Bool := match S[n]? with
  | some (.lst _) => true
  | _ => false
@[simp] def mAppend (m mx : Ev) : Ev := fun ρ S => (m ρ S).bind fun d S => match d with
  | .rf n => if isLs S n then (mx ρ S).bind fun v S => (match S[n]? with
    | some (.lst l) => if fit (l.length + 1) then .ok .non (S.set n (.lst (l ++ [v]))) else .stuck
    | _ => .stuck) else .stuck
  | _ => .stuck
theorem sa_one {e : Expr} {m : Ev} (he : SE X E e m) (hs : starEach (e :: []) X.env = (false, eval e X.env) :: starEach [] X.env := by rfl) : PA X [e] (tCons (tE X E m) tNil) := pa_cons he pa_nil hs
theorem se_append {o e : Expr} {m mx : Ev} {apos cpos : Pos} (ho : SE X E o m) (he : SE X E e mx) (hbase : attributeBase o "append" X.env (eval o X.env) = eval o X.env := by rfl)
    (hfew : ((backTo cpos (starEach (e :: []) X.env)).all (fun x => !x.1) && (backToKw cpos (keywordEach [] X.env)).all (fun x => x.1.isSome)
      && decide ((e :: []).length + ([] : List Keyword).length + (if ([] : List Keyword).isEmpty then 0 else 1) < 30)) = true := by rfl)
    (hline : (apos.endLine == cpos.line) = true := by rfl) (hs : starEach (e :: []) X.env = (false, eval e X.env) :: starEach [] X.env := by rfl) (hplain : (backTo cpos (starEach [] X.env)).any (·.1) = false := by rfl) :
    SE X E (.Call (.Attribute o "append" apos) [e] [] cpos) (mAppend m mx) :=
  PE.imp (pe_bm PySem.F.plainAttrs_list PySem.F.slot_list_append PySem.F.type_list_append (fun pins s σ H x xs v us Q I rx rv h => mt_append pins s σ H x xs v us Q I rx rv h) ho (sa_one he hs) hbase hfew hline hs hplain) fun σ H Q h => by
    obtain ⟨W, ρ, rfl, s, r, h⟩ := h
    refine ⟨W, ρ, rfl, s, r, imp_e (PostE.bind (show PostE _ _ _ _ _ ((m ρ W.S).bind _) from h)) fun x H1 q => ?_⟩
    obtain ⟨W1, d, rfl, g1, s1, r1, q⟩ := q
    cases r1 with
    | rf hb =>
      rename_i a n
      simp only at q
      split at q
      · rename_i hd
        unfold isLs at hd
        cases e0 : W1.S[n]? with
        | none => rw [e0] at hd; cases hd
        | some ob =>
        rw [e0] at hd
        cases ob <;> simp only at hd <;> first | (cases hd; done) | skip
        obtain ⟨a', e1, xs, ex, rs⟩ := s1.at_ n _ e0
        rw [hb] at e1
        cases e1
        refine ⟨.inl ⟨rfl, xs, .inl (.inl ex)⟩, W1, ρ, rfl, s1, r.mono g1, imp_e (PostE.bind (show PostE _ _ _ _ _ ((mx ρ W1.S).bind _) from q)) fun y H2 q => ?_⟩
        obtain ⟨W2, v, rfl, g2, s2, r2, q⟩ := q
        split at q
        · rename_i l2 e2
          have hb2 := g2.pre _ _ hb
          obtain ⟨a2, e3, xs2, ex2, rs2⟩ := s2.at_ n _ e2
          rw [hb2] at e3
          cases e3
          split at q
          · rename_i hf
            have hl := rs2.length
            have hf := fit_line hf
            refine ⟨_, xs2, y, rfl, rfl, ex2, by omega, ?_⟩
            refine q (W2.write n _ (.lst (xs2 ++ [y])) (.lst (l2 ++ [v]))) .non rfl (Grow.write s2 hb2) (s2.write hb2 ⟨_, rfl, ?_⟩) .non
            exact (rs2.append (.cons r2 .nil)).mono (Grow.write s2 hb2)
          · exact q.elim
        · exact q.elim
      · exact q.elim
    | _ => exact q.elim
end
end L3
/-! L3N: displays of dicts, fields, methods, instances, truth, len, != of the store's objects. -/
namespace L3
open PySem PySem.Spec PyProof.Rows L2

section
variable {X : Cx} {E : XK}
/-! ### {"k": e, ..} -/
/-- the pairs: the keys are texts written there -/
structure SP (X : Cx) (E : XK) (pos : Pos) (keys : List (Option Expr)) (values : List Expr) (ks : List Str) (ms : List Ev) : Prop where
  ex : ∃ trs : List (TE × TE), PPs X pos keys values trs ∧ keys.all (·.isSome) = true ∧ keys.length = values.length ∧ keys.length = ks.length ∧ ks.length = ms.length ∧
    ∀ (W : Wd) (ρ : Sl) (σ : L2.St) (Q : List (V × V) → Hp → Prop), SR X.K X.mg W → Rel X.K W ρ σ → PostL X.K X.mg E W (fun xs H => Q ((ks.map V.str).zip xs) H) (mArgs ms ρ W.S) → tPairs trs σ W.H Q
theorem sp_nil {pos : Pos} : SP X E pos [] [] [] [] := ⟨[], pps_nil, rfl, rfl, rfl, rfl, fun W ρ σ Q s r h => h W [] rfl (Grow.refl W) s .nil⟩
theorem sp_cons {pos kpos : Pos} {k : Str} {j} {v : Expr} {keys : List (Option Expr)} {values : List Expr} {ks : List Str} {m : Ev} {ms : List Ev} (hv : SE X E v m) (hr : SP X E pos keys values ks ms) : SP X E pos (some (.Constant (.str k) j kpos) :: keys) (v :: values) (k :: ks) (m :: ms) := by
  obtain ⟨trs, h1, h2, h3, h4, h5, h6⟩ := hr.ex
  refine ⟨(tC (.str k), tE X E m) :: trs, pps_cons pe_str hv h1, by simpa using h2, by simp [h3], by simp [h4], by simp [h5], fun W ρ σ Q s r h => ?_⟩
  show tE X E m σ W.H _
  refine ⟨W, ρ, rfl, s, r, ?_⟩
  refine PostE.imp (PostE.bindL (show PostL _ _ _ _ _ ((m ρ W.S).bindL _) from h)) fun W1 x v _ g s1 rv q => ?_
  obtain ⟨W1', v', e1, g1, s1', r1, q⟩ := q
  rw [← e1]
  refine h6 W1' ρ σ _ s1' (r.mono g1) ?_
  have q' := PostL.bindL (show PostL _ _ _ _ _ ((mArgs ms ρ W1'.S).bindL _) from q)
  revert q'
  cases hm : mArgs ms ρ W1'.S with
  | ok l S2 =>
    intro q' W2 xs e2 g2 s2 rx
    obtain ⟨W3, l3, e3, g3, s3, rx3, q3⟩ := q' W2 xs e2 g2 s2 rx
    have := q3 W3 (x :: xs) rfl (Grow.refl _) s3 (.cons (r1.mono g3) rx3)
    rw [e3] at this
    exact this
  | ex c v S2 => exact fun q' => q'
  | stuck => exact fun q' => q'
theorem merge_nodup : ∀ (more kvs : List (Key × V)), ((kvs ++ more).map (·.1)).Nodup → mergeK kvs more = kvs ++ more
  | [], kvs, _ => by simp [mergeK]
  | kv :: more, kvs, h => by
    have hn : (kvs.any fun p => decide (p.1 = kv.1)) = false := by
      rw [Bool.eq_false_iff]
      intro e
      obtain ⟨p, hp, e⟩ := List.any_eq_true.mp e
      rw [List.map_append] at h
      have := (List.nodup_append.mp h).2.2 p.1 (List.mem_map_of_mem hp) kv.1 (by simp)
      exact this (of_decide_eq_true e)
    have e1 : putK kvs kv.1 kv.2 = kvs ++ [kv] := by
      unfold putK
      rw [hn]
      rfl
    show mergeK (putK kvs kv.1 kv.2) more = _
    rw [e1, merge_nodup more (kvs ++ [kv]) (by rw [List.append_assoc]; exact h), List.append_assoc]
    rfl
theorem pairs_kvs : ∀ (ks : List Str) (xs : List V), ks.length = xs.length → ∃ kvs : List (Key × V), (ks.map V.str).zip xs = kvs.map (fun kv => (kV kv.1, kv.2)) ∧ kvs.map (·.1) = ks.map Sum.inr ∧ kvs.map (·.2) = xs
  | [], [], _ => ⟨[], rfl, rfl, rfl⟩
  | k :: ks, x :: xs, h => by
    obtain ⟨kvs, h1, h2, h3⟩ := pairs_kvs ks xs (by simpa using h)
    exact ⟨(.inr k, x) :: kvs, by simp [h1, kV], by simp [h2], by simp [h3]⟩
  | [], _ :: _, h => by simp at h
  | _ :: _, [], h => by simp at h
@[simp] def mDisp (ks : List Str) (ms : List Ev) : Ev := fun ρ S => (mArgs ms ρ S).bind fun l S => .ok (.rf S.length) (S ++ [.dk (ks.map Sum.inr) l])
@[simp] def mDispD (ks : List Str) (ms : List Ev) : Ev := fun ρ S => (mArgs ms ρ S).bind fun l S => .ok (.dct (ks.map Sum.inr) l) S
theorem disp_core {pos : Pos} {keys : List (Option Expr)} {values : List Expr} {ks : List Str} {ms : List Ev} (hp : SP X E pos keys values ks ms) (h0 : keys ≠ []) (h15 : keys.length ≤ 15) (hn : ks.Nodup) {k : List Val → Store → Out}
    (hk : ∀ (W W1 : Wd) (p : Addr) (xs : List V) (l : List Val) (kvs : List (Key × V)) (Q : VK), SR X.K X.mg W → W.H p = none → Grow (W.keepAt p (.dK [])) W1 → SR X.K X.mg W1 → VRs X.K W1 xs l → kvs.map (·.1) = ks.map Sum.inr → kvs.map (·.2) = xs → PostE X.K X.mg E W Q (k l W1.S) → Q (.ref p) (upd W1.H p (.dK kvs))) :
    SE X E (.Dict keys values pos) (fun ρ S => (mArgs ms ρ S).bind k) := by
  obtain ⟨trs, h1, h2, h3, h4, h5, h6⟩ := hp.ex
  refine PE.imp (pe_disp h1 h2 h3 h0 h15) fun σ H Q h p hp => ?_
  obtain ⟨W, ρ, rfl, s, r, h⟩ := h
  have g0 := Grow.keepAt (.dK []) hp
  replace h : PostE X.K X.mg E W Q ((mArgs ms ρ W.S).bind k) := h
  refine h6 (W.keepAt p (.dK [])) ρ σ _ (s.keepAt _ hp) (r.mono g0) ?_
  show PostL _ _ _ _ _ (mArgs ms ρ W.S)
  cases hm : mArgs ms ρ W.S with
  | ok l S2 =>
    rw [hm] at h
    intro W1 xs e1 g1 s1 rx
    have hl : ks.length = xs.length := by rw [rx.length, mArgs_len hm, h5]
    obtain ⟨kvs, e2, e3, e4⟩ := pairs_kvs ks xs hl
    have hpR : p ∈ W1.R := g1.r p (List.mem_cons_self ..)
    have hW1 : W1.H p = some (.dK []) := g1.res p _ (List.mem_cons_self ..) upd_same
    refine ⟨hW1, kvs, e2, ?_, ?_⟩
    · have : kvs.length = ks.length := by have := congrArg List.length e3; simpa using this
      omega
    · rw [merge_nodup kvs [] (by
        rw [List.nil_append, e3]
        exact (List.pairwise_map.mpr (hn.imp fun {a b} hab e => hab (Sum.inr.inj e)))), List.nil_append]
      refine hk W W1 p xs l kvs Q s hp g1 s1 rx e3 e4 ?_
      rw [e1]; exact h
  | ex c v S2 =>
    rw [hm] at h
    exact fun W' x C d e g s' r => h W' x C d e (g0.trans g) s' r
  | stuck => rw [hm] at h; exact h
theorem se_disp {pos : Pos} {keys : List (Option Expr)} {values : List Expr} {ks : List Str} {ms : List Ev} (hp : SP X E pos keys values ks ms) (h0 : keys ≠ []) (h15 : keys.length ≤ 15) (hn : ks.Nodup) : SE X E (.Dict keys values pos) (mDisp ks ms) :=
  disp_core hp h0 h15 hn fun W W1 p xs l kvs Q s hp g1 s1 rx e3 e4 h => by
    have hpR : p ∈ W1.R := g1.r p (List.mem_cons_self ..)
    have g01 : Grow W W1 := (Grow.keepAt (.dK []) hp).trans g1
    have s2 := s1.wat (.dK kvs) hpR
    have g2 := Grow.wat (.dK kvs) g01 hp
    have hR0 : ∀ b ∈ W.R, b ∈ (W1.wat p (.dK kvs)).R := fun b z => g01.r b z
    have hpW : p ∉ W.R := fun z => s.res p z hp
    refine h ((W1.wat p (.dK kvs)).give p W.R (.dk (ks.map Sum.inr) l)) (.ref p) rfl (g2.give hR0 hpR fun b z => z) (s2.give hR0 hpR hpW ⟨kvs, upd_same, e3, ?_⟩) (VR.given s2)
    rw [e4]
    exact (rx.wat _ hpR).give hR0 hpR
theorem se_dispD {pos : Pos} {keys : List (Option Expr)} {values : List Expr} {ks : List Str} {ms : List Ev} (hp : SP X E pos keys values ks ms) (h0 : keys ≠ []) (h15 : keys.length ≤ 15) (hn : ks.Nodup) : SE X E (.Dict keys values pos) (mDispD ks ms) :=
  disp_core hp h0 h15 hn fun W W1 p xs l kvs Q s hp g1 s1 rx e3 e4 h => by
    have hpR : p ∈ W1.R := g1.r p (List.mem_cons_self ..)
    have g01 : Grow W W1 := (Grow.keepAt (.dK []) hp).trans g1
    have s2 := s1.wat (.dK kvs) hpR
    have g2 := Grow.wat (.dK kvs) g01 hp
    have hR0 : ∀ b ∈ W.R, b ∈ (W1.wat p (.dK kvs)).R := fun b z => g01.r b z
    have g3 := g2.drop' hR0 fun b z => z
    have := h ((W1.wat p (.dK kvs)).drop W.R) (.ref p) rfl g3 (s2.drop' hR0)
    refine this ?_
    rw [← e3]
    refine .dct upd_same (fun z => ?_) (by rw [e4]; exact (rx.wat _ hpR).drop' hR0)
    rcases g3.live p z with q | q
    · exact s.notLive hp q
    · rcases z with z | z
      · exact s.res p z hp
      · exact s1.nr p z hpR

/-! ### fields -/
def lookF (f : Str) : List Str → List Val → Option Val
  | g :: ns, v :: l => if g = f then some v else lookF f ns l
  | _, _ => none
def putNs (f : Str) : List Str → List Str
  | [] => [f]
  | g :: ns => if g = f then g :: ns else g :: putNs f ns
def putVs (f : Str) (v : Val) : List Str → List Val → List Val
  | g :: ns, w :: l => if g = f then v :: l else w :: putVs f v ns l
  | _, _ => [v]
section
variable {K : PySem.W.Frag} {W : Wd}
theorem lookF_some {f : Str} {v : Val} : ∀ {fs : List (Str × V)} {l : List Val}, VRs K W (fs.map (·.2)) l → lookF f (fs.map (·.1)) l = some v → ∃ x, fs.lookup f = some x ∧ VR K W x v
  | [], _, _, h => by simp [lookF] at h
  | (g, x) :: fs, _, .cons r rs, h => by
    simp only [List.map_cons, lookF] at h
    by_cases e : g = f
    · rw [if_pos e] at h
      cases h
      exact ⟨x, by rw [List.lookup_cons, e]; simp, r⟩
    · rw [if_neg e] at h
      obtain ⟨y, h1, h2⟩ := lookF_some rs h
      refine ⟨y, ?_, h2⟩
      rw [List.lookup_cons, show (f == g) = false from beq_eq_false_iff_ne.mpr fun z => e z.symm]
      exact h1
theorem putF_rel {f : Str} {x : V} {v : Val} (rv : VR K W x v) : ∀ {fs : List (Str × V)} {l : List Val}, VRs K W (fs.map (·.2)) l → (putF f x fs).map (·.1) = putNs f (fs.map (·.1)) ∧ VRs K W ((putF f x fs).map (·.2)) (putVs f v (fs.map (·.1)) l)
  | [], _, .nil => ⟨rfl, .cons rv .nil⟩
  | (g, y) :: fs, _, .cons r rs => by
    by_cases e : g = f
    · simp only [putF, putNs, putVs, List.map_cons, if_pos e]
      exact ⟨trivial, .cons rv rs⟩
    · obtain ⟨h1, h2⟩ := putF_rel rv rs
      simp only [putF, putNs, putVs, List.map_cons, if_neg e]
      exact ⟨by rw [h1], .cons r h2⟩
theorem lookup_none {f : Str} : ∀ {fs : List (Str × V)}, (fs.map (·.1)).contains f = false → fs.lookup f = none
  | [], _ => rfl
  | (g, y) :: fs, h => by
    simp only [List.map_cons, List.contains_cons, Bool.or_eq_false_iff] at h
    rw [List.lookup_cons, h.1]
    exact lookup_none h.2
end
structure FldAt (K : PySem.W.Frag) (mg : Str → Option Value) (c f : Str) : Prop where
  ex : ∀ C, mg c = some (.ref C) → Cls K C ∧ NoAttr K C f
@[simp] def mFld (c f : Str) (m : Ev) : Ev := fun ρ S => (m ρ S).bind fun d S => match d with
  | .rf n => (match S[n]? with
    | some (.ins c' ns l) => if c' = c then (match lookF f ns l with
      | some v => .ok v S
      | none => .stuck) else .stuck
    | _ => .stuck)
  | _ => .stuck
theorem se_fld {c f : Str} {o : Expr} {m : Ev} {pos : Pos} (k : FldAt X.K X.mg c f) (ho : SE X E o m) (hb : attributeBase o f X.env (eval o X.env) = eval o X.env := by rfl) : SE X E (.Attribute o f pos) (mFld c f m) :=
  PE.imp (pe_fld ho hb) fun σ H Q h => by
    obtain ⟨W, ρ, rfl, s, r, h⟩ := h
    refine ⟨W, ρ, rfl, s, r, imp_e (PostE.bind (show PostE _ _ _ _ _ ((m ρ W.S).bind _) from h)) fun x H1 q => ?_⟩
    obtain ⟨W1, d, rfl, g1, s1, r1, q⟩ := q
    cases r1 with
    | rf hb =>
      rename_i a n
      simp only at q
      split at q
      · rename_i c' ns l e
        split at q
        · rename_i ec
          subst ec
          obtain ⟨a', e1, C, dx, fs, hC, ex, rfl, rs⟩ := s1.at_ n _ e
          rw [hb] at e1
          cases e1
          split at q
          · rename_i v hv
            obtain ⟨y, hy, ry⟩ := lookF_some rs hv
            exact ⟨_, C, dx, fs, y, rfl, ex, (k.ex C hC).1, (k.ex C hC).2, hy, PostE.val s1 ry q⟩
          · exact q.elim
        · exact q.elim
      · exact q.elim
    | _ => exact q.elim
@[simp] def mFldSet (c f : Str) (mo mv : Ev) : Sv := fun ρ S => (mv ρ S).bindS fun v S => (mo ρ S).bindS fun d S => match d with
  | .rf n => (match S[n]? with
    | some (.ins c' ns l) => if c' = c ∧ ns.length < 1000 then .nx ρ (S.set n (.ins c' (putNs f ns) (putVs f v ns l))) else .stuck
    | _ => .stuck)
  | _ => .stuck
theorem ss_fld {c f : Str} {o value : Expr} {mo mv : Ev} {pos pos' : Pos} (k : FldAt X.K X.mg c f) (ho : SE X E o mo) (hv : SE X E value mv) (hs : swapsWith value (some (.Attribute o f pos')) pos.line X.env = pure false := by rfl) :
    SS X E (.Assign [.Attribute o f pos'] value pos) (mFldSet c f mo mv) :=
  PS.imp (ps_fld ho hv hs) fun D σ H h => by
    obtain ⟨W, ρ, rfl, s, r, h⟩ := h
    refine ⟨W, ρ, rfl, s, r, imp_e (PostE.bindS (show PostS _ _ _ _ _ ((mv ρ W.S).bindS _) from h)) fun z H1 q => ?_⟩
    obtain ⟨W1, v, rfl, g1, s1, r1, q⟩ := q
    refine ⟨W1, ρ, rfl, s1, r.mono g1, imp_e (PostE.bindS (show PostS _ _ _ _ _ ((mo ρ W1.S).bindS _) from q)) fun x H2 q => ?_⟩
    obtain ⟨W2, d, rfl, g2, s2, r2, q⟩ := q
    cases r2 with
    | rf hb =>
      rename_i a n
      simp only at q
      split at q
      · rename_i c' ns l e
        split at q
        · rename_i ec
          obtain ⟨ec, hl⟩ := ec
          subst ec
          obtain ⟨a', e1, C, dx, fs, hC, ex, rfl, rs⟩ := s2.at_ n _ e
          rw [hb] at e1
          cases e1
          obtain ⟨h1, h2⟩ := putF_rel (f := f) (r1.mono g2) rs
          refine ⟨_, C, dx, fs, rfl, ex, (k.ex C hC).1, (k.ex C hC).2, by simpa using hl, ?_⟩
          exact q (W2.write n _ (.ins C dx (putF f z fs)) (.ins c' (putNs f (fs.map (·.1))) (putVs f v (fs.map (·.1)) l))) σ rfl (Grow.write s2 hb) (s2.write hb ⟨C, dx, _, hC, rfl, h1, h2.mono (Grow.write s2 hb)⟩) (((r.mono g1).mono g2).mono (Grow.write s2 hb))
        · exact q.elim
      · exact q.elim
    | _ => exact q.elim

/-! ### methods -/
structure MethAt (P : Program) (w : World) (K : PySem.W.Frag) (mg : Str → Option Value) (base : Heap) (c m : Str) (k : Nat) (ps : List Str) (F : Fn) : Prop where
  ex : ∀ C, mg c = some (.ref C) → Cls K C ∧ ∃ f fd, Meth K C m f ∧ Binds K fd ps [] ∧ FnG P w K mg base k f fd ps F
theorem MethAt.mono {P w K mg base c m j k ps F} (G : MethAt P w K mg base c m j ps F) (h : j ≤ k) : MethAt P w K mg base c m k ps F :=
  ⟨fun C hC => let ⟨h1, f, fd, h2, h3, h4⟩ := G.ex C hC; ⟨h1, f, fd, h2, h3, h4.mono h⟩⟩
@[simp] def mMeth (c f : Str) (F : Fn) (m : Ev) (ms : List Ev) : Ev := fun ρ S => (m ρ S).bind fun d S => match d with
  | .rf n => (match S[n]? with
    | some (.ins c' ns _) => if c' = c ∧ ns.contains f = false then (mArgs ms ρ S).bind fun l S => F (.rf n :: l) S else .stuck
    | _ => .stuck)
  | _ => .stuck
theorem pe_methG {k : Nat} {c m : Str} {o e : Expr} {es : List Expr} {apos pos : Pos} {ps : List Str} {F : Fn} {mo : Ev} {ms : List Ev} {pl : Sem Bool} (cx : CxG X E k) (G : MethAt X.prog X.w X.K X.mg X.base c m k ps F) (ho : SE X E o mo) (ha : SA X E (e :: es) ms) (hl : ms.length + 1 = ps.length := by rfl)
    (hst : starEach (e :: es) X.env = (false, eval e X.env) :: starEach es X.env := by rfl) (hpl : (backTo pos (starEach es X.env)).any (·.1) = false := by rfl)
    (ht : eval (.Call (.Attribute o m apos) (e :: es) [] pos) X.env = (do
      let ov ← eval o X.env
      standAt apos.atName
      let (f, first) ← holding [ov] (getMethod ov m pl)
      callWith pos f first (backTo pos (starEach (e :: es) X.env)) (backToKw pos (keywordEach [] X.env))) := by rfl) :
    SE X E (.Call (.Attribute o m apos) (e :: es) [] pos) (mMeth c m F mo ms) := by
  refine ⟨fun pins s σ H Q I h => ?_⟩
  obtain ⟨W, ρ, rfl, sr, r, h⟩ := h
  have h1 : tE X E mo σ W.H (fun x H1 => ∃ W1 n a C dx fs l cc, x = .ref a ∧ W1.H = H1 ∧ X.mg c = some (.ref C) ∧ cc = C ∧ H1 a = some (.ins C dx fs) ∧ fs.lookup m = none ∧ W1.B[n]? = some a ∧ SR X.K X.mg W1 ∧ Rel X.K W1 ρ σ ∧ PostE X.K X.mg E W1 Q ((mArgs ms ρ W1.S).bind fun l S => F (.rf n :: l) S) ∧ l = ()) := by
    refine ⟨W, ρ, rfl, sr, r, imp_e (PostE.bind (show PostE _ _ _ _ _ ((mo ρ W.S).bind _) from h)) fun x H1 q => ?_⟩
    obtain ⟨W1, d, rfl, g1, s1, r1, q⟩ := q
    cases r1 with
    | rf hb =>
      rename_i a n
      simp only at q
      split at q
      · rename_i c' ns l e
        split at q
        · rename_i ec
          obtain ⟨ec, hn⟩ := ec
          subst ec
          obtain ⟨a', e1, C, dx, fs, hC, ex, rfl, rs⟩ := s1.at_ n _ e
          rw [hb] at e1
          cases e1
          exact ⟨W1, n, _, C, dx, fs, (), C, rfl, rfl, hC, rfl, ex, lookup_none hn, hb, s1, r.mono g1, q, rfl⟩
        · exact q.elim
      · exact q.elim
    | _ => exact q.elim
  refine PySem.W.methodCall_KW (pl := pl) (thn (ho.run pins s σ W.H _ I h1) fun u s1 ⟨x, H1, I1, rx, W1, n, a, C, dx, fs, _, _, ex, eW, hC, _, ea, l, hb, s1', r1, q1, _⟩ => ?_) ht
  subst ex
  subst eW
  obtain rfl : u = Value.ref a := rx
  obtain ⟨hcls, f, fd, hm, hbd, G⟩ := G.ex C hC
  refine getmeth_ok I1 ea hcls hm l ?_
  refine PySem.W.callWith_K (first := [.ref a]) (h₀ := X.base) I.ok.mod.kin hm.kp (thn (ha.run pos pins s1 σ W1.H _ I1 ⟨W1, ρ, rfl, s1', r1, PostL.bind (show PostE _ _ _ _ _ ((mArgs ms ρ W1.S).bind fun l S => F (.rf n :: l) S) from q1)⟩) fun us s2 ⟨vs, H2, I2, rv, q2⟩ => ⟨I2.kIn, ?_⟩) hst hpl
  obtain ⟨W2, l2, rfl, e2, g2, s2', rl, q2⟩ := q2
  have hlen : (Val.rf n :: l2).length = ps.length := by rw [List.length_cons, mArgs_len e2]; exact hl
  have hus : (Value.ref a :: us).length = ps.length := by rw [← hlen, List.length_cons, List.length_cons, ← rl.length, rv.length]
  refine wpAny_call (codeAny_mono (run_fng (us' := .ref a :: us) (vs := .ref a :: vs) G cx (by simpa using hbd s2 (.ref a :: us) I2.kIn (by simpa using hus)) I2 (.cons rfl rv) s2' (.cons (.rf (g2.pre _ _ hb)) rl) hlen q2) fun r s' hq => ?_)
  cases r with
  | error e => exact hq
  | ok fl => cases fl <;> first | exact hq | exact hq.elim

/-! ### a new instance -/
structure MkAt (P : Program) (w : World) (K : PySem.W.Frag) (mg : Str → Option Value) (base : Heap) (c : Str) (k : Nat) (F : Fn) : Prop where
  ex : ∃ C f fd p, mg c = some (.ref C) ∧ Mk K C f ∧ Binds K fd [p] [] ∧ FnG P w K mg base k f fd [p] F
theorem MkAt.mono {P w K mg base c j k F} (G : MkAt P w K mg base c j F) (h : j ≤ k) : MkAt P w K mg base c k F :=
  let ⟨C, f, fd, p, h1, h2, h3, h4⟩ := G.ex; ⟨C, f, fd, p, h1, h2, h3, h4.mono h⟩
@[simp] def mMake (c : Str) (F : Fn) : Ev := fun _ S => match F [.rf S.length] (S ++ [.ins c [] []]) with
  | .ok .non S' => .ok (.rf S.length) S'
  | _ => .stuck
theorem se_make0 {k : Nat} {x : Str} {p pos : Pos} {F : Fn} (cx : CxG X E (k + 1)) (M : MkAt X.prog X.w X.K X.mg X.base x k F) (hg : Gl X x) (hdb : (x == ("__debug__" : Str)) = false := by decide) : SE X E (.Call (.Name x p) [] [] pos) (mMake x F) := by
  obtain ⟨C, f, fd, p1, hm, M, hb, G⟩ := M.ex
  refine ⟨fun pins s σ H Q I h => ?_⟩
  obtain ⟨W, ρ, rfl, sr, r, h⟩ := h
  refine wpAny_Call_Name_kw (ld_glob I hg hm ?_ hdb)
  refine PySem.W.callWith_K0 I.kIn M.kp ?_
  have hx : W.H (s.heap.objs.size + 1) = none := I.hok.fresh (Nat.le_succ _)
  have hdx : W.H s.heap.objs.size = none := I.hok.fresh (Nat.le_refl _)
  have ne : s.heap.objs.size ≠ s.heap.objs.size + 1 := Nat.ne_of_lt (Nat.lt_succ_self _)
  have I2 := Inv.made (C := C) I
  have s1 := sr.new (.own (s.heap.objs.size + 1)) hdx
  have g1 := Grow.new (.own (s.heap.objs.size + 1)) hdx
  have hx1 : (W.put s.heap.objs.size (.own (s.heap.objs.size + 1))).H (s.heap.objs.size + 1) = none := by
    show upd W.H _ _ _ = none
    rw [upd_ne (Ne.symm ne)]; exact hx
  have s2 : SR X.K X.mg ((W.put s.heap.objs.size (.own (s.heap.objs.size + 1))).make (s.heap.objs.size + 1) (.ins C s.heap.objs.size []) (.ins x [] [])) := s1.make hx1 ⟨C, _, [], hm, rfl, rfl, .nil⟩
  have g2 := Grow.make (o := .ins C s.heap.objs.size []) (.ins x [] []) hx1
  simp only [mMake] at h
  have hp : PostE X.K X.mg E ((W.put s.heap.objs.size (.own (s.heap.objs.size + 1))).make (s.heap.objs.size + 1) (.ins C s.heap.objs.size []) (.ins x [] [])) (fun v H2 => v = .non ∧ Q (.ref (s.heap.objs.size + 1)) H2) (F [.rf W.S.length] (W.S ++ [.ins x [] []])) := by
    split at h
    · rename_i S' e
      rw [e]
      intro W' y e' g s' ry
      cases ry
      exact ⟨rfl, h W' _ e' ((g1.trans g2).trans g) s' ((VR.make s1).mono g)⟩
    · exact h.elim
  have hq := fun A outer => G.run A outer
  refine wpAny_call (make_map (f := f) I.kIn M.makes M.init (beq_iff_eq.mp M.fn) (codeAny_mono (G.run _ X.stack _ ⟨[Value.ref (s.heap.objs.size + 1)], []⟩ [Value.ref (s.heap.objs.size + 1)] [V.ref (s.heap.objs.size + 1)] _ E ((W.put s.heap.objs.size (.own (s.heap.objs.size + 1))).make (s.heap.objs.size + 1) (.ins C s.heap.objs.size []) (.ins x [] [])) [.rf W.S.length] (cx.room.make C [] []) ?_
    (I2.env0.make C [] []) (by simpa using hb _ [Value.ref (s.heap.objs.size + 1)] I2.kIn rfl) (.cons rfl .nil) s2 (.cons (VR.make s1) .nil) rfl hp) fun r s' hq' => ?_))
  · exact cx.gd
  · cases r with
    | error e => exact cx.pass pins σ _ _ e s' I2 hq'
    | ok fl =>
      cases fl with
      | ret u =>
        obtain ⟨v, H', I3, rv, ev, q3⟩ := I2.after hq'
        subst ev
        exact ⟨rv, ⟨V.ref (s.heap.objs.size + 1), H', I3, rfl, q3⟩⟩
      | next => exact False.elim hq'
      | brk => exact False.elim hq'
      | cont => exact False.elim hq'
end
end L3
/-! L3X: raise C(x), C an own exception class over an own one over Exception, its __init__: super().__init__(thing); self.thing = thing. -/
namespace PySem
namespace L3X
open PySem.W PySem.Calls PyProof.Rows PySem.HandSPX
abbrev exTail : List Value := [.type "Exception", .type "BaseException", .type "object"]
/-- own classes, then Exception's mro -/
def refsEx : List Value → Bool
  | .ref _ :: r => refsEx r
  | l => l == exTail
theorem refsEx_cases : ∀ l : List Value, refsEx l = true → (∃ c r, l = .ref c :: r ∧ refsEx r = true) ∨ l = exTail
  | [], e => .inr (beq_iff_eq.mp e)
  | .ref c :: r, e => .inl ⟨c, r, rfl, e⟩
  | .none :: _, e => .inr (beq_iff_eq.mp e)
  | .ellipsis :: _, e => .inr (beq_iff_eq.mp e)
  | .notImplemented :: _, e => .inr (beq_iff_eq.mp e)
  | .bool _ :: _, e => .inr (beq_iff_eq.mp e)
  | .int _ _ :: _, e => .inr (beq_iff_eq.mp e)
  | .float _ _ :: _, e => .inr (beq_iff_eq.mp e)
  | .str _ _ :: _, e => .inr (beq_iff_eq.mp e)
  | .bytes _ _ :: _, e => .inr (beq_iff_eq.mp e)
  | .type _ :: _, e => .inr (beq_iff_eq.mp e)
  | .builtin _ :: _, e => .inr (beq_iff_eq.mp e)
theorem refsEx_pass (self : Value) : ∀ l : List Value, refsEx l = true → refuseLoop self "__setattr__" l = pure () := by
  intro l
  induction l with
  | nil => intro e; exact absurd e (by decide)
  | cons a r ih =>
    intro e
    rcases refsEx_cases (a :: r) e with ⟨c, r', q, h⟩ | q
    · obtain ⟨rfl, rfl⟩ := List.cons.inj q
      rw [refuseLoop_ref]; exact ih h
    · rw [q]; exact F.store_Exception.passes self
theorem refsEx_contains (X : String) : ∀ l : List Value, refsEx l = true → l.contains (.type X) = exTail.contains (.type X) := by
  intro l
  induction l with
  | nil => intro e; exact absurd e (by decide)
  | cons a r ih =>
    intro e
    rcases refsEx_cases (a :: r) e with ⟨c, r', q, h⟩ | q
    · obtain ⟨rfl, rfl⟩ := List.cons.inj q
      rw [List.contains_cons, ih h]; rfl
    · rw [q]
theorem refsEx_ne {l : List Value} (e : refsEx l = true) : l.isEmpty = false := by
  cases l with
  | nil => exact absurd e (by decide)
  | cons _ _ => rfl
section
open Builtin Builtin.ObjectAttr
variable {prog : Program} {w : World} {A : Around} {E : Value → Shared → Prop} {R : Result → Shared → Prop} {hp : Heap} {g : Array GenState} {d : Drawn} {t : Nat} {os : OsState}
theorem exc_osa {K : W.Frag} {name : Str} {tk : Tok} {v : Value} {x C : Addr} {fv : Array Value} {cd : ClassData}
    (X : K.In hp) (hx : hp.get? x = some { cls := .ref C, data := .fields fv }) (hcd : W.clsIn K C = some cd) (hm : refsEx cd.mro = true) (hh : cd.hasDict = true) (ha : W.findIn K (.ref C) name = some none)
    (hq : ∀ h' tk' dx, (∀ b o, b ≠ x → hp.get? b = some o → h'.get? b = some o) → hp.objs.size ≤ dx → dx ≠ x → h'.get? x = some { cls := .ref C, dict := some dx, data := .fields fv } →
      h'.Ns1 dx (fun y => if y = name then some v else none) → R (.ok (.ret .none)) ⟨h', g, d, tk', os⟩) :
    codeAny (model prog w) A (.call (.builtin "object.__setattr__") ⟨[.ref x, .str name tk, v], []⟩) R ⟨hp, g, d, t, os⟩ := by
  have I : W.InstAt hp x { cls := .ref C, data := .fields fv } C none := ⟨hx, rfl, rfl, trivial⟩
  have SF := F.store_object
  have ne := refsEx_ne hm
  have hob : cd.mro.contains (.type "object") = true := (refsEx_contains "object" _ hm).trans (by decide +kernel)
  have hxs : x ≠ hp.objs.size := Nat.ne_of_lt (Heap.lt_size hx)
  have sub : W.Looks (model prog w) hp (isInstance (.ref x) (.type "object")) true := I.type.andThen (W.looks_mroIn X (by unfold W.mroIn; rw [hcd, Option.bind_some, if_neg (by rw [ne]; decide), hob]))
  refine codeAny_call_builtin SF.slot.plain SF.entry (@W.check_slot (model prog w) _ _ ⟨hp, g, d, t, os⟩ "object.__setattr__" "object" "__setattr__" (.ref x) [.str name tk, v] [] _ SF.kind SF.split sub (SF.args (.ref x) (.str name tk) v) ?_)
  have hmr : W.Looks (model prog w) hp (mroOf (.ref C)) cd.mro := (W.looks_clsIn X hcd).andThen .now
  have L3 : W.Looks (model prog w) hp (storeTaker? none) none := .now
  have hcls : W.Looks (model prog w) hp (classData C) cd := W.looks_clsIn X hcd
  rw [W.osa_eq, refuse_eq]
  refine wpAny_bind (wpAny_bind (I.type.at (wpAny_bind (hmr.at ?_))))
  rw [refsEx_pass _ _ hm]
  refine wpAny_pure (wpAny_bind (I.type.at (wpAny_bind ((W.looks_findIn X ha).at (wpAny_bind (L3.at ?_))))))
  show wpAny _ _ (storeInOwnDict (.ref x) (.ref C) (.str name tk) name v false) _ _ _
  obtain ⟨nm, bs, mro, ns, qn, hd, sn, sb, ab, col, del⟩ := cd
  dsimp only at hh
  subst hh
  unfold storeInOwnDict ownDictForStores
  repeat (first | with_reducible refine store_in_new ?_ ?_ | with_reducible refine wpAny_loadPart_at hx ?_ | with_reducible refine hcls.at ?_ | wp_step)
  · exact ⟨_, #[], _, (Heap.get?_update_ne _ _ _ _ hxs.symm).trans (Heap.get?_push_at rfl rfl), rfl, fun e he => absurd he (by simp), fun _ => rfl⟩
  · intro h' tk' hn' hs
    have hx₁ : (hp.push { cls := .type "dict", data := .dict #[] }).get? x = some { cls := .ref C, data := .fields fv } := Heap.get?_push_of_some _ hx
    refine hq h' tk' hp.objs.size (fun b o hb ho => ?_) (Nat.le_refl _) hxs.symm ?_ hn'
    · exact (hs.2 b (Nat.ne_of_lt (Heap.lt_size ho))).trans ((Heap.get?_update_ne _ _ _ _ hb).trans (Heap.get?_push_of_some _ ho))
    · exact (hs.2 x hxs).trans (Heap.get?_update_self _ hx₁ rfl)
end
end L3X
end PySem
namespace L3
open PySem PySem.Spec PyProof.Rows L2 PySem.L3X
/-- the body of the __init__ -/
abbrev badBody (p0 p1 p2 p3 p4 p5 p6 p7 p8 p9 : Pos) : List Stmt :=
  [.Expr (.Call (.Attribute (.Call (.Name "super" p0) [] [] p1) "__init__" p2) [.Name "thing" p3] [] p4) p5, .Assign [.Attribute (.Name "self" p6) "thing" p7] (.Name "thing" p8) p9]
/-- what the written part says of the class -/
structure BadC (prog : Program) (K : PySem.W.Frag) (C : Addr) : Prop where
  cls : ∃ nm q N bs bm sn sub ab col dd k0 k1 k2 k3 k5, K.lookup C = some (excClassObj nm q C N bs bm true sn sub ab col dd k0 k1 k2 k3 k5 "Exception.__new__") ∧ refsEx bm = true ∧ PySem.W.alongIn K "__init__" bm = some (some (.builtin "Exception.__init__"))
  sa : PySem.W.findIn K (.ref C) "__setattr__" = some (some (.builtin "object.__setattr__"))
  no : PySem.W.findIn K (.ref C) "thing" = some none
  exC : PySem.W.subIn K (.ref C) (.type "BaseException") = some true
  exE : PySem.W.subIn K (.ref C) (.type "Exception") = some true
  own : PySem.W.mroIn K C (.ref C) = some true
  tyC : PySem.W.typeIn K (.ref C) = some (.type "type")
  kC : PySem.W.keepIn K (.ref C) = true
  op : PySem.W.nsIn K cStatics "thirdparty.any" = some none
  init : ∃ (fI cc cda : Addr) (q : Str) (params : Arguments) (scope : Scope) (dV kV doc pm : Value) (an : Option Addr) (ct oc : Value) (od : Option Addr) (osl : Array (Option Value)) (vs : Array Value) (c1 : Value) (c2 : Option Addr) (c3 : Array (Option Value)) (file : Str) (tf : Tok) (e1 : Value) (e2 : Option Addr) (e3 : Array (Option Value)) (ar : Arg) (p0 p1 p2 p3 p4 p5 p6 p7 p8 p9 : Pos),
    PySem.W.findIn K (.ref C) "__init__" = some (some (.ref fI)) ∧ PySem.W.typeIn K (.ref fI) = some (.type "function") ∧
    K.lookup fI = some ⟨oc, od, .func (PySem.W.fnX "__init__" q params (badBody p0 p1 p2 p3 p4 p5 p6 p7 p8 p9) scope [("__class__", cc)] dV kV doc pm an (.ref cda) ct), osl⟩ ∧
    PySem.W.codeIn K (.ref cda) q = true ∧ K.lookup cda = some ⟨c1, c2, .fields vs, c3⟩ ∧ vs[2]? = some (.str file tf) ∧ ((prog.main.file : Str) == file) = true ∧ K.lookup cc = some ⟨e1, e2, .cell (some (.ref C)), e3⟩ ∧
    (params.posonlyargs ++ params.args).head? = some ar ∧ ar.arg = "self" ∧ scope.names.lookup ("super" : Str) = some .globalImplicit ∧ scope.names.lookup ("__class__" : Str) = some .free ∧ scope.names.lookup ("self" : Str) = some .local ∧ scope.names.lookup ("thing" : Str) = some .local ∧
    scope.kind = .function ∧ scope.isCoroutine = false ∧ scope.isGenerator = false ∧ (∀ x ∈ scope.names, x.2 ≠ .cell) ∧ (∀ a b : Value, bindArgs (PySem.W.fnX "__init__" q params (badBody p0 p1 p2 p3 p4 p5 p6 p7 p8 p9) scope [("__class__", cc)] dV kV doc pm an (.ref cda) ct) ⟨[a, b], []⟩ = pure [(("self" : Str), a), (("thing" : Str), b)]) ∧
    (prog.main.scope.names.lookup ("super" : Str)).isSome = false ∧
    (∀ env : Env, ∃ pl : Sem Bool, eval (.Call (.Attribute (.Call (.Name "super" p0) [] [] p1) "__init__" p2) [.Name "thing" p3] [] p4) env = (do
      let ov ← attributeBase (.Call (.Name "super" p0) [] [] p1) "__init__" env (eval (.Call (.Name "super" p0) [] [] p1) env)
      standAt p2.atName
      let (f, first) ← holding [ov] (getMethod ov "__init__" pl)
      callWith p4 f first (backTo p4 (starEach [.Name "thing" p3] env)) []))
section
variable {X : Cx} {pins : List (Addr × Obj)} {σ : L2.St} {H : Hp} {s : Shared}
theorem bad_call {k : Nat} {C : Addr} {y : V} {u : Value} {Q : XK} (T : BadC X.prog X.K C) (hm : X.mg "super" = none) (hr : Room (k + 2) X.A) (I : Inv X pins σ H s) (ry : RelV y u)
    (q : ∀ d, H d = none → Q (.ref C) (some d) (upd H d (.xd [(("thing" : Str), y)]))) : wpAny (model X.prog X.w) X.A (call (.ref C) [u]) (MkP X pins σ Q) X.xe s := by
  obtain ⟨nm, qq, N, bs, bm, sn, sub, ab, col, dd, k0, k1, k2, k3, k5, hC, hbm, hal⟩ := T.cls
  obtain ⟨fI, cc, cda, qI, params, scope, dV, kV, doc, pm, an, ct, oc, od, osl, vs, c1, c2, c3, file, tf, e1, e2, e3, ar, p0, p1, p2, p3, p4, p5, p6, p7, p8, p9, iC, tI, hfI, hcd, hcda, hvs, hfile, hcc, hpar, hself, nsuper, ncls, nself, nthing, hkind, hco, hgen, hcell, hbind, htop, heval⟩ := T.init
  have KX : X.K.In s.heap := I.kIn
  have hT : ∀ Y : String, bm.contains (.type Y) = exTail.contains (.type Y) := fun Y => refsEx_contains Y bm hbm
  obtain ⟨hp, g, dr, tk, os⟩ := s
  refine wpAny_call (PySem.HandSPX.call_own F.excBase_Exception hT (KX _ _ hC) (PySem.W.looks_findIn KX iC) (fun self => PySem.W.bind_fn KX self tI) (rest := [u]) (by rw [sizeLine_eq]; show 1 ≤ 16777216; omega) ?_)
  have k2' : ∀ b o, hp.get? b = some o → ((hp.push (PySem.W.kdv_tup [u])).push (PySem.HandSPX.excO C hp.objs.size)).get? b = some o := fun b o e => Heap.get?_push_of_some _ (Heap.get?_push_of_some _ e)
  have hget2 : ((hp.push (PySem.W.kdv_tup [u])).push (PySem.HandSPX.excO C hp.objs.size)).get? (hp.objs.size + 1) = some (PySem.HandSPX.excO C hp.objs.size) := by heap_get
  have hsz2 : ((hp.push (PySem.W.kdv_tup [u])).push (PySem.HandSPX.excO C hp.objs.size)).objs.size = hp.objs.size + 2 := by simp [Heap.size_push]
  generalize hh2 : (hp.push (PySem.W.kdv_tup [u])).push (PySem.HandSPX.excO C hp.objs.size) = h2 at k2' hget2 hsz2 ⊢
  have K2 : X.K.In h2 := fun b o e => k2' b o (KX b o e)
  have lim2 : h2.NoLimit := I.ok.mod.nolimit.keeps fun b o e => k2' b o (I.bk b o e)
  have hroom := hr.make C [u] []
  refine ks_codeAny_call_defAt (s := ⟨h2, g, dr, tk, os⟩) hroom.depth (K2 _ _ hfI) rfl lim2 (PySem.W.codeRec_of K2 hcd) rfl (.of_eq (hbind (.ref (hp.objs.size + 1)) u)) hcell ?_ (fun h3 hns hk3 => ?_) hco hgen hkind
  · intro x hx
    rcases List.mem_cons.mp hx with rfl | hx
    · exact nself
    · rcases List.mem_cons.mp hx with rfl | hx
      · exact nthing
      · cases hx
  have hL : h2.objs.size = hp.objs.size + 2 := hsz2
  have K3 : X.K.In h3 := fun b o e => hk3 b o (K2 b o e)
  have hC3 := K3 _ _ hC
  have he3 := hk3 _ _ hget2
  have nlk1 : ([(("self" : Str), Value.ref (hp.objs.size + 1)), (("thing" : Str), u)] : List (Str × Value)).reverse.lookup ("self" : Str) = some (.ref (hp.objs.size + 1)) := rfl
  have nlk2 : ([(("self" : Str), Value.ref (hp.objs.size + 1)), (("thing" : Str), u)] : List (Str × Value)).reverse.lookup ("thing" : Str) = some u := rfl
  obtain ⟨cdC, hcdC, hmro⟩ : ∃ cdC, PySem.W.clsIn X.K C = some cdC ∧ cdC.mro = .ref C :: bm ∧ cdC.hasDict = true := ⟨_, by unfold PySem.W.clsIn; rw [hC] <;> rfl, rfl, rfl⟩
  have hxC : hp.objs.size + 1 ≠ C := fun z => by
    have h1 : C < hp.objs.size := Heap.lt_size (KX _ _ hC)
    rw [← z] at h1
    exact absurd h1 (Nat.not_lt.mpr (Nat.le_succ _))
  have hI3 : ∀ (h' : Heap) (M : Model), X.K.In h' → h'.get? (hp.objs.size + 1) = some (PySem.HandSPX.excO C hp.objs.size) → PySem.W.Looks M h' (isInstance (.ref (hp.objs.size + 1)) (.type "Exception")) true := fun h' M Kh hg =>
    (show PySem.W.InstAt h' (hp.objs.size + 1) (PySem.HandSPX.excO C hp.objs.size) C none from ⟨hg, rfl, rfl, trivial⟩).type.andThen (PySem.W.looks_subIn Kh T.exE)
  obtain ⟨pl, hev⟩ := heval (callEnv (PySem.W.fnX "__init__" qI params (badBody p0 p1 p2 p3 p4 p5 p6 p7 p8 p9) scope [("__class__", cc)] dV kV doc pm an (.ref cda) ct) h2.objs.size fI)
  refine ks_wpAt_execs_cons (ks_wpAt_Expr_any (hi := by first | rfl | (unfold interactive; show (_ && _) = false; simp [callEnv, newEnv, hkind]) | (unfold interactive; simp [callEnv, newEnv, hkind])) (ks_wpAt_MethodCall (he := hev) (ks_wpAt_super_base (vs := vs) (file := file) (tf := tf) nsuper ncls (by decide +kernel) rfl (K3 _ _ hfI) rfl hpar rfl (K3 _ _ hcda) rfl hvs hfile htop ?_)))
  obtain ⟨mb, hb1, hb2⟩ := I.ok.mod.blt
  have bk3 : ∀ b o, X.base.get? b = some o → h3.get? b = some o := fun b o e => hk3 b o (k2' b o (I.bk b o e))
  refine PySem.W.ks_loadName_global hkind nsuper (Calls.loadGlobal_builtin (mg := X.mg) (mb := mb) (I.mod.glob.keeps bk3) hm (hb1.keeps bk3) ((hb2 _ (by decide +kernel)).trans (by first | rfl | decide +kernel)) ⟨rfl, ?_⟩)
  refine wpAny_loadName_free hkind ncls (c := cc) (by rfl) ⟨_, K3 _ _ hcc, rfl⟩ ?_
  rw [hself]
  refine wpAny_loadName_local hkind nself hns nlk1 ?_
  refine ks_wpAny_isType_cls hC3 rfl ⟨rfl, ?_⟩
  refine ks_wpAny_call_super hC3 rfl he3 rfl (fun c e => by cases e) (PySem.W.looks_mroIn K3 T.own) (fun h4 e4 k4 => ?_)
  have K4 : X.K.In h4 := fun b o e => k4 b o (K3 b o e)
  refine PySem.W.kxs_getMethod PySem.W.kxs_Exception e4 (PySem.W.looks_opaque K4 T.op) (l₀ := .ref C :: bm) (fun A Q E s k q => wpAny_bind ((PySem.W.looks_clsIn K4 hcdC) A _ E s k (wpAny_pure (by rw [hmro.1]; exact q)))) (by simp [List.dropWhile_cons]) K4 hal
    (hI3 h4 _ K4 (k4 _ _ he3)) hxC (by decide +kernel) ?_
  generalize hh5 : h4.push (PySem.W.kxs_mw "Exception.__init__" (hp.objs.size + 1)) = h5
  have k5' : ∀ b o, h4.get? b = some o → h5.get? b = some o := fun b o e => by rw [← hh5]; exact Heap.get?_push_of_some _ e
  have hu5 : h5.get? h4.objs.size = some (ESX.bw (hp.objs.size + 1)) := by rw [← hh5]; exact Heap.get?_push_at rfl rfl
  obtain ⟨oL, es3, ep3, hoL, hrL⟩ := id hns
  have hns5 : h5.Ns h2.objs.size fun x => ([(("self" : Str), Value.ref (hp.objs.size + 1)), (("thing" : Str), u)] : List (Str × Value)).reverse.lookup x := ⟨oL, es3, ep3, k5' _ _ (k4 _ _ hoL), hrL⟩
  have he5 := k5' _ _ (k4 _ _ he3)
  have K5 : X.K.In h5 := fun b o e => k5' b o (K4 b o e)
  refine ESX.callWith_bound (x := hp.objs.size + 1) ?_ (by rfl) (by rfl)
  refine Calls.spliced_cons (ESX.ldL hns5 nlk2 ?_ hkind nthing) 
  refine Calls.spliced_nil ⟨hu5, ?_⟩
  refine ESX.call_bw (C := C) (e := hp.objs.size + 1) (t0 := hp.objs.size) (K5 _ _ hC) he5 hu5 (by rw [sizeLine_eq]; show 1 ≤ 16777216; omega) (fun h6 t1 k6 he6 => ?_)
  have n01 : ∀ b o, hp.get? b = some o → b ≠ hp.objs.size + 1 := fun b o e z => by
    have h1 : b < hp.objs.size := Heap.lt_size e
    rw [z] at h1
    exact absurd h1 (Nat.not_lt.mpr (Nat.le_succ _))
  have k06 : ∀ b o, hp.get? b = some o → h6.get? b = some o := fun b o e => k6 b o (n01 b o e) (k5' _ _ (k4 _ _ (hk3 _ _ (k2' _ _ e))))
  have K6 : X.K.In h6 := fun b o e => k06 b o (KX b o e)
  have nL1 : h2.objs.size ≠ hp.objs.size + 1 := by rw [hL]; exact Nat.succ_ne_self _
  obtain ⟨oL5, es5, ep5, hoL5, hrL5⟩ := id hns5
  have hns6 : h6.Ns h2.objs.size fun x => ([(("self" : Str), Value.ref (hp.objs.size + 1)), (("thing" : Str), u)] : List (Str × Value)).reverse.lookup x := ⟨oL5, es5, ep5, k6 _ _ nL1 hoL5, hrL5⟩
  refine ks_wpAt_execs_cons (wpAt_of_wpAny (plainObj_wpAny_Assign_Attribute (ESX.ldL hns6 nlk2 (ESX.ldL hns6 nlk1 ?_ hkind nself) hkind nthing)))
  refine PySem.W.set_plain K6 (C := C) (ox := PySem.HandSPX.excO C t1) (od := none) ⟨he6, rfl, rfl, trivial⟩ T.sa ?_
  refine L3X.exc_osa K6 he6 hcdC (by rw [hmro.1]; exact hbm) hmro.2 T.no (fun h7 tk' dx k7 hdx dxne he7 hns7 => ?_)
  refine wpAt_of_wpAny (wpAny_execs_nil ⟨rfl, ?_⟩)
  obtain ⟨G, g1', g2'⟩ := restrict h7 fun b => decide (b ≠ hp.objs.size + 1)
  have gk : ∀ b, b ≠ hp.objs.size + 1 → G.get? b = h7.get? b := fun b hb => g1' b (decide_eq_true hb)
  have ge : G.get? (hp.objs.size + 1) = none := g2' _ (by simp)
  have hle : hp.objs.size ≤ dx := by
    have h1 : hp.objs.size + 1 < h6.objs.size := Heap.lt_size he6
    exact Nat.le_trans (Nat.le_trans (Nat.le_succ _) (Nat.le_of_lt h1)) hdx
  have hd0 : H dx = none := I.hok.fresh hle
  have J : Inv X pins σ (upd H dx (.xd [(("thing" : Str), y)])) ⟨G, g, dr, tk', os⟩ := I.laid (a := dx) (o := .xd [(("thing" : Str), y)]) (h' := G) (t' := tk')
    (fun b o e => by rw [gk b (n01 b o e)]; exact k7 b o (n01 b o e) (k06 b o e)) hle ⟨_, hns7.at fun o e => (gk dx dxne).trans e, L2.relO_put (fs := []) ry fun g => True.intro⟩
  refine ⟨hp.objs.size + 1, _, _, ⟨G, g, dr, tk', os⟩, _, .ref C, some dx, rfl, J, fun b o e => ?_, ge, he7, ⟨rfl, rfl⟩, rfl, rfl, ?_, rfl, I.bare, raises_own T.exC T.tyC, q dx hd0⟩
  · by_cases hb : b = hp.objs.size + 1
    · rw [hb, ge] at e; cases e
    · rw [gk b hb] at e; exact e
  · rw [upd_ne (Ne.symm dxne)]
    exact I.hok.fresh (Nat.le_succ _)
end
end L3
/-! L3T: raise; a lambda handed to a def that calls it in a try. -/
namespace PySem.W
open PySem PySem.Spec PySem.Calls PyProof.Rows
section
variable {prog : Program} {w : World} {A : Around} {E : Value → Shared → Prop} {s : Shared} {K : Frag} {x D : Addr} {ox : Obj}
theorem kin_classE' {od : Obj} {Q : Option Value → Shared → Prop} (hga : findIn K (.ref D) "__getattribute__" = some (some (.builtin "BaseException.__getattribute__"))) (hgt : findIn K (.ref D) "__getattr__" = some none) (hsub : subIn K (.ref D) (.type "BaseException") = some true)
    (hdct : hasDictIn K D = true) (ha : findIn K (.ref D) "__class__" = some (some (.builtin "object.__class__")))
    (hn : specialIn K (.builtin "object.__class__") "__get__" = some (some (.builtin "getset_descriptor.__get__"))) (htk : takesIn K (.builtin "object.__class__") = some true) (hm : mroIn K D (.type "object") = some true)
    (X : K.In s.heap) (I : InstAt s.heap x ox D (some od)) (h : Q (some (.ref D)) { s with toks := s.toks + 1 }) : wpAny (model prog w) A (getAttr? (.ref x) "__class__") Q E s := by
  have hf : findObj K D (some od) "__class__" = some (.bind (.builtin "getset_descriptor.__get__") (.builtin "object.__class__")) := findObj_data (by obtain ⟨cd, hc, _⟩ := any_some hdct; rw [hc]; rfl) ha hn htk
  obtain ⟨hp, g, d, t, os⟩ := s
  have L0 := I.type (M := model prog w)
  have L1 := looks_findIn (M := model prog w) X hga
  have L2 := looks_findIn (M := model prog w) X hgt
  have L3 := looks_find (M := model prog w) X I hf
  have sub : Looks (model prog w) hp (isInstance (.ref x) (.type "BaseException")) true := L0.andThen (looks_subIn X hsub)
  have hx0 : (false && onTheHeap (Value.builtin "BaseException.__getattribute__")) = false := rfl
  have hx2 : (Value.builtin "BaseException.__getattribute__" == Value.builtin "object.__getattribute__") = false := by decide +kernel
  have hx1 : (onTheHeap (Value.ref D) && Value.builtin "BaseException.__getattribute__" == Value.builtin "object.__getattribute__") = false := by rw [hx2]; rfl
  unfold getAttr? getAttrBy? getAttrBy
  refine wpAny_bind (wpAny_mkText (wpAny_bind (wpAny_attempt (wpAny_holding (wpAny_bind (L0.at (wpAny_bind (L1.at ?_))))))))
  show wpAny _ _ (if (onTheHeap (Value.ref D) && Value.builtin "BaseException.__getattribute__" == Value.builtin "object.__getattribute__") = true then _ else _) _ _ _
  rw [hx1, if_neg Bool.false_ne_true]
  unfold getAttrByItsOwn hookBefore
  refine wpAny_bind ?_
  rw [if_pos (show onTheHeap (Value.ref D) = true from rfl)]
  refine L2.at ?_
  refine wpAny_bind (wpAny_attempt (wpAny_holding ?_))
  unfold callGetattribute
  rw [hx0, if_neg Bool.false_ne_true]
  unfold boundAndCalled
  rw [PySem.F.excAttr_ValueError.ga.bind (.ref x)]
  refine wpAny_bind (wpAny_pure ?_)
  show wpAny _ _ (call (.builtin "BaseException.__getattribute__") [.ref x, .str "__class__" t]) _ _ _
  refine wpAny_call (codeAny_call_builtin PySem.F.excAttr_ValueError.ga.plain PySem.F.entry_bexc_ga ?_)
  refine @check_slot (model prog w) _ _ ⟨hp, g, d, t + 1, os⟩ "BaseException.__getattribute__" "BaseException" "__getattribute__" (.ref x) [.str "__class__" t] [] _ (by decide +kernel) (by decide +kernel) sub (PySem.F.args_bexc_ga (.ref x) (.str "__class__" t)) ?_
  unfold Builtin.«object.__getattribute__»
  refine wpAny_bind (wpAny_of_eq (a := ((Value.ref x : Value), [Value.str "__class__" t])) (by first | rfl | (simp only [slotArgs]; rfl)) ?_)
  refine wpAny_bind (wpAny_pure (wpAny_bind (L0.at (wpAny_bind (L3.at ?_)))))
  show wpAny _ _ (holding [Value.builtin "object.__class__"] (call (.builtin "getset_descriptor.__get__") [.builtin "object.__class__", .ref x, .ref D]) >>= ret) _ _ _
  refine wpAny_bind (wpAny_holding (wpAny_call (class_get (s := ⟨hp, g, d, t + 1, os⟩) (ox := ox) (od := some od) X I hm ?_)))
  refine wpAny_pure ?_
  show wpAny _ _ (handedOut (.ref D)) _ _ _
  rw [handedOut_of (v := .ref D) rfl]
  first
    | exact wpAny_pure (wpAny_pure h)
    | exact wpAny_pure h
    | exact wpAny_pure (wpAny_bind (wpAny_pure (wpAny_pure h)))
theorem handS_kitx_exc' {od : Obj} (hga : findIn K (.ref D) "__getattribute__" = some (some (.builtin "BaseException.__getattribute__"))) (hgt : findIn K (.ref D) "__getattr__" = some none) (hsub : subIn K (.ref D) (.type "BaseException") = some true) (hdct : hasDictIn K D = true) (ha : findIn K (.ref D) "__class__" = some (some (.builtin "object.__class__")))
    (hn : specialIn K (.builtin "object.__class__") "__get__" = some (some (.builtin "getset_descriptor.__get__"))) (htk : takesIn K (.builtin "object.__class__") = some true) (hm : mroIn K D (.type "object") = some true) :
    KitX K (.ref x) (.ref D) (fun h => InstAt h x ox D (some od)) where
  ty := fun _ _ _ I => I.type
  it := fun _ _ X _ => by
    obtain ⟨cdD, hcD, _⟩ := any_some hdct
    unfold clsIn at hcD
    split at hcD
    · rename_i c' d' cd' sl' ho
      intro A' Q' E' s' k q
      unfold isType loadHead
      exact wpAny_bind (wpAny_loadPart (k _ _ (X _ _ ho)) (wpAny_pure q))
    · cases hcD
  ne := fun h tp dd its n sl X htp => by
    obtain ⟨cdD, hcD, _⟩ := any_some hdct
    refine Bool.eq_false_iff.mpr fun q => ?_
    have e : D = tp := Value.ref.inj (beq_iff_eq.mp q)
    subst e
    unfold clsIn at hcD
    split at hcD
    · rename_i c' d' cd' sl' ho
      have z := (X _ _ ho).symm.trans htp
      cases z
    · cases hcD
  ca := fun X I k => kin_classE' hga hgt hsub hdct ha hn htk hm X I k
end
end PySem.W
namespace L3
open PySem PySem.Spec PyProof.Rows L2 LamX
section
variable {X : Cx} {E : XK}
/-! ### raise -/
@[simp] def mRaise (c : Str) (m : Ev) : Sv := fun ρ S => (m ρ S).bindS fun v S => .ex c v S
structure BadAt (prog : Program) (K : PySem.W.Frag) (mg : Str → Option Value) (c : Str) : Prop where
  ex : ∃ C, mg c = some (.ref C) ∧ BadC prog K C
theorem ss_raise {k : Nat} {c : Str} {e : Expr} {m : Ev} {p pos rpos : Pos} (cx : CxG X E (k + 2)) (B : BadAt X.prog X.K X.mg c) (hsup : X.mg "super" = none) (hg : Gl X c) (he : SE X E e m)
    (hdb : (c == ("__debug__" : Str)) = false := by decide) (hst : starEach (e :: []) X.env = (false, eval e X.env) :: starEach [] X.env := by rfl) (hpl : (backTo pos (starEach [] X.env)).any (·.1) = false := by rfl) :
    SS X E (.Raise (some (.Call (.Name c p) [e] [] pos)) none rpos) (mRaise c m) := by
  obtain ⟨C, hm, T⟩ := B.ex
  have mk : PMk X (.Call (.Name c p) [e] [] pos) (fun σ H Q => tE X E m σ H fun x H1 => ∀ d, H1 d = none → Q (.ref C) (some d) (upd H1 d (.xd [(("thing" : Str), x)]))) := by
    intro pins s σ H Q I h
    refine wpAny_Call_Name_kw (ld_glob I hg hm ?_ hdb)
    have ha : PA X [e] (tCons (tE X E m) tNil) := pa_cons he pa_nil hst
    refine PySem.W.callWith_K (h₀ := X.base) I.ok.mod.kin T.kC (thn (ha.run pos pins s σ H (fun vs H1 => ∃ x, vs = [x] ∧ ∀ d, H1 d = none → Q (.ref C) (some d) (upd H1 d (.xd [(("thing" : Str), x)]))) I ?_) fun us s1 hh => ?_) hst hpl
    · obtain ⟨W, ρ, e1, s1, r1, h⟩ := h
      exact ⟨W, ρ, e1, s1, r1, imp_e h fun x H1 q => ⟨x, rfl, q⟩⟩
    · obtain ⟨vs, H1, I1, r1, x, ev, q⟩ := hh
      subst ev
      refine ⟨I1.kIn, ?_⟩
      cases r1 with
      | cons ru rn =>
        cases rn
        exact bad_call T hsup cx.room I1 ru q
  refine PS.imp (ps_raise cx.calm cx.take mk) fun D σ H h => ?_
  obtain ⟨W, ρ, rfl, s, r, h⟩ := h
  refine ⟨W, ρ, rfl, s, r, imp_e (PostE.bindS (show PostS _ _ _ _ _ ((m ρ W.S).bindS _) from h)) fun x H1 q d hd => ?_⟩
  obtain ⟨W1, v, rfl, g1, s1, r1, q⟩ := q
  exact q (W1.put d (.xd [(("thing" : Str), x)])) x C d rfl (Grow.new _ hd) (s1.new _ hd) (r1.mono (Grow.new _ hd)) hm upd_same (fun z => s1.notLive hd z)

/-! ### isinstance(e, c), e.f in the suite -/
def rIsE' (K : PySem.W.Frag) (D a dd : Addr) : List V → Hp → VK → Prop := fun xs H Q => ∃ (c : V) (cv : Value) (b : Bool) (fs : List (Str × V)), xs = [.ref a, c] ∧ (∀ u, RelV c u → u = cv) ∧ PySem.W.kitOne K (.ref D) cv = some b ∧ H dd = some (.xd fs) ∧ Q (.bl b) H
theorem call_isE' {a D dd : Addr} {oe : Obj} {pn : List (Addr × Obj)} (C : ExcC X.K D) (hz : Zc (.ref D) (some dd) oe) (hf : ∃ vs, oe.data = .fields vs) : CallR (X.suite a ((a, oe) :: pn)) (.builtin "isinstance") (rIsE' X.K D a dd) := by
  intro pins s σ H xs us Q I r h
  obtain ⟨c, cv, b, fs, rfl, hcv, e, hx, q⟩ := h
  cases r with
  | cons rx rr =>
    cases rr with
    | cons rt rr =>
      cases rr
      cases rx
      have ec := hcv _ rt
      subst ec
      obtain ⟨hget, _⟩ := I.pin (a, oe) (List.mem_append.mpr (.inl List.mem_cons_self))
      obtain ⟨vs, hv⟩ := hf
      have hxd : ObjOk X.prog X.w H s.heap dd (.xd fs) := I.hok dd _ hx
      obtain ⟨mA, hns, hr⟩ := hxd
      obtain ⟨od, es, ep, ho, hl⟩ := hns
      have J : PySem.W.InstAt s.heap a oe D (some od) := by
        obtain ⟨oc, od', oda, osl⟩ := oe
        obtain ⟨h1, h2⟩ := hz
        dsimp only at h1 h2 hv
        subst h1 h2 hv
        exact ⟨hget, rfl, rfl, ho⟩
      exact PySem.W.kia_one (PySem.W.handS_kitx_exc' C.hg C.hk C.hs C.hd C.ha C.hn C.ht C.hm) I.kIn J e (fun z => nomatch z) fun tk => ⟨.bl b, H, I.kept (t' := tk) fun _ _ z => z, rfl, q⟩
end
end L3
/-! L3U: x(lambda: body), x a def that calls it in a try and tells what came. -/
namespace L3
open PySem PySem.Spec PyProof.Rows L2 LamX
section
variable {X : Cx} {pins : List (Addr × Obj)} {σ : L2.St} {H HZ : Hp} {s s1 : Shared}
/-- the lambda is made: its code object is new, or found in the table -/
theorem lam_make3 {c P : Addr} {ps : Array Value} {params : Arguments} {body : Expr} {scope : Scope} {pos : Pos} {E : Value → Shared → Prop} {Q : Value → Shared → Prop} (I : Inv X pins σ H s) (TB : TabB X.base X.mg c P) (hcode : X.env.code = .ref c)
    (hP : H P = some (.tbl ps)) (ht : TriplesOk ps.toList) (ha : ∀ (pos : Pos) (cv : Value), codeAmong pos ps.toList = some cv → ∃ c, cv = .ref c ∧ H c = some (CodeO c (X.env.qual ++ "<lambda>"))) (hdef : defaultsOf params X.env = ([], [])) (hfree : ∀ y ∈ scope.names, y.2 = .free → ∃ c, X.env.cells.lookup y.1 = some c)
    (h : ∀ (f c' : Addr) (pm ctv : Value) (H1 : Hp) (s' : Shared), Inv X pins σ H1 s' →
      ((H1 = H ∧ codeAmong pos ps.toList = some (.ref c')) ∨ ∃ ps' : Array Value, H1 = upd (upd H P (.tbl ps')) c' (CodeO c' (X.env.qual ++ "<lambda>")) ∧ H c' = none ∧ TriplesOk ps'.toList ∧ ∀ (pos : Pos) (cv : Value), codeAmong pos ps'.toList = some cv → codeAmong pos ps.toList = some cv ∨ cv = .ref c') →
      s'.heap.get? f = some (PySem.W.kla_obj "<lambda>" (X.env.qual ++ "<lambda>") params body scope (cloFrom X.env.cells scope.names []) pm c' ctv) → H1 f = none → f ∉ frs X.stack → H1 c' = some (CodeO c' (X.env.qual ++ "<lambda>")) → Q (.ref f) s') :
    wpAny (model X.prog X.w) X.A (eval (.Lambda params body scope pos) X.env) Q E s := by
  refine PySem.W.kla_eval hdef ?_
  have bP : s.heap.BuiltinsAt X.mg P := TB.bm.keeps I.bk
  have hP' : s.heap.get? P = some { cls := .none, data := .fields ps } := I.hok P _ hP
  have nofr : ∀ f, s.heap.objs.size ≤ f → f ∉ frs X.stack := fun f hf z => by
    rcases List.mem_cons.mp (I.stkSub _ z) with e | e
    · have h1 := I.lt
      rw [← e] at h1
      exact Nat.lt_irrefl _ (Nat.lt_of_lt_of_le h1 hf)
    · exact I.nofs hf e
  cases hc : codeAmong pos ps.toList with
  | none =>
    refine PySem.W.kla_makeFunction (mg := X.mg) (c := c) (P := P) (ps := ps) (closure_ok hfree) I.ok.glob (I.mod.glob.keeps I.bk) hcode (TB.code.keeps I.bk) hP' ht hc TB.gP bP fun c' ctv h' tk hx hge hlt hrec htb => ?_
    obtain ⟨c2, oc, vs, t, e2, hoc, hd, hv⟩ := hrec
    cases e2
    have hsz : s.heap.objs.size ≤ h'.objs.size := Nat.le_trans hge (Nat.le_of_lt hlt)
    have nC : H c' = none := I.hok.fresh hge
    have I1 := inv_table (t' := tk) (more := #[rawInt pos.line, rawInt pos.col, .ref c']) (h' := h'.push (PySem.W.kla_obj "<lambda>" (X.env.qual ++ "<lambda>") params body scope (cloFrom X.env.cells scope.names []) ((X.mg "__name__").getD .none) c' ctv)) I hP
      (fun b o hb e => Heap.get?_push_of_some _ (hx b o hb e)) (Heap.get?_push_of_some _ htb) hge ⟨oc, vs, t, Heap.get?_push_of_some _ hoc, hd, hv⟩
    have eL : (ps ++ #[rawInt pos.line, rawInt pos.col, .ref c']).toList = ps.toList ++ [rawInt pos.line, rawInt pos.col, .ref c'] := by simp
    refine h h'.objs.size c' ((X.mg "__name__").getD .none) ctv _ _ I1 (.inr ⟨_, rfl, nC, by rw [eL]; exact PySem.TriplesOk_snoc _ _ _ _ ht, fun p' cv hcv => ?_⟩) (Heap.get?_push_size _ rfl) ?_ (nofr _ hsz) upd_same
    · rw [eL] at hcv
      exact among_app (pos := pos) _ ht hcv
    · have n1 : h'.objs.size ≠ c' := Nat.ne_of_gt hlt
      have n2 : h'.objs.size ≠ P := Nat.ne_of_gt (Nat.lt_of_lt_of_le (Heap.lt_size hP') hsz)
      rw [upd_ne n1, upd_ne n2]
      exact I.hok.fresh hsz
  | some cv =>
    obtain ⟨c', e, hco⟩ := ha pos cv hc
    subst e
    refine PySem.W.kla_makeFunctionHit (mg := X.mg) (c := c) (P := P) (ps := ps) (closure_ok hfree) I.ok.glob (I.mod.glob.keeps I.bk) hcode (TB.code.keeps I.bk) hP' ht hc bP fun ctv h' tk hx hsz => ?_
    have I1 : Inv X pins σ H { s with heap := h'.push (PySem.W.kla_obj "<lambda>" (X.env.qual ++ "<lambda>") params body scope (cloFrom X.env.cells scope.names []) ((X.mg "__name__").getD .none) c' ctv), toks := tk } := I.kept fun b o e => Heap.get?_push_of_some _ (hx b o e)
    exact h h'.objs.size c' ((X.mg "__name__").getD .none) ctv H _ I1 (.inl ⟨rfl, hc⟩) (Heap.get?_push_size _ rfl) (I.hok.fresh hsz) (nofr _ hsz) hco
/-- x(), in the def that got the lambda -/
theorem pe_actG {CXg : CXT} {Eg : XK} {Ng : List Str} {qg : Str} {sg : Scope} {g f c' : Addr} {cdg pm ctv : Value} {params : Arguments} {body : Expr} {scope : Scope} {k i : Nat} {a : Str} {pn : List (Addr × Obj)} {xe : Value → Shared → Prop} {W : WX} {tb : XK → TE} {p1 p2 : Pos}
    (I : Inv X pins σ H s) (L : LamS X.env.scope scope) (hf : s.heap.get? f = some (PySem.W.kla_obj "<lambda>" (X.env.qual ++ "<lambda>") params body scope (cloFrom X.env.cells scope.names []) pm c' ctv)) (hfn : H f = none) (hfr : f ∉ frs X.stack)
    (hbind : bindArgs (PySem.W.kla_fn "<lambda>" (X.env.qual ++ "<lambda>") params body scope (cloFrom X.env.cells scope.names []) pm (.ref c') ctv) ⟨[], []⟩ = pure [])
    (tk : Takes ((cxOf CXg X.prog X.w X.K X.mg X.base Ng qg sg g cdg X.A X.stack s H Eg).tr pn xe) W) (hr : Room (k + 1) (X.A.deeper (envOfC qg sg s.heap.objs.size g cdg)))
    (hbody : ∀ (E : XK) (outer : List Env) (s' : Shared) (H : Hp), Room k ((X.A.deeper (envOfC qg sg s.heap.objs.size g cdg)).deeper (lamEnv X scope s'.heap.objs.size f c')) → PE (lamCx X (X.A.deeper (envOfC qg sg s.heap.objs.size g cdg)) outer s' H E scope f c') body (tb E))
    (hN : Ng[i]? = some a) (hv : Vis sg a) (hd : (a == ("__debug__" : Str)) = false := by decide) (hcd : (a == ("__classdict__" : Str)) = false := by decide) :
    PE ((cxOf CXg X.prog X.w X.K X.mg X.base Ng qg sg g cdg X.A X.stack s H Eg).tr pn xe) (.Call (.Name a p1) [] [] p2)
      (fun σZ HZ Q => ∃ E : XK, (∀ cls d H', E cls d H' → W cls d σZ H') ∧ σZ[i]? = some (some (.ref f)) ∧ HZ c' = some (CodeO c' (X.env.qual ++ "<lambda>")) ∧ tb E σ HZ Q) := by
  refine ⟨fun pinsZ sZ σZ HZ Q IZ h => ?_⟩
  obtain ⟨E, hW, hs, hc, ht⟩ := h
  refine wpAny_Call_Name_kw (thn ((pe_var (pos := p1) (i := i) hN hv hd hcd).run pinsZ sZ σZ HZ (fun v H1 => v = .ref f ∧ H1 = HZ) IZ ⟨.ref f, hs, rfl, rfl⟩) fun u s1 ⟨v, H1, I1, r1, q1⟩ => ?_)
  obtain ⟨ev, eH⟩ := q1
  subst ev
  rw [eH] at I1
  obtain rfl : u = Value.ref f := r1
  have of1 : s1.heap.get? f = some (PySem.W.kla_obj "<lambda>" (X.env.qual ++ "<lambda>") params body scope (cloFrom X.env.cells scope.names []) pm c' ctv) := I1.base.keep f _ hf hfn hfr (fun z => nomatch (show f ∈ ([] : List Addr) from z))
  refine PySem.W.callWith_F0 ⟨_, _, _, _, of1⟩ ?_
  have un : Un (frs X.stack) [] H HZ s.heap s1.heap := I1.base
  obtain ⟨⟨oc, vs, t, hoc, hdc, hvc⟩, _, _⟩ := I1.hok c' _ hc
  have rc : codeAny (model X.prog X.w) (X.A.deeper (envOfC qg sg s.heap.objs.size g cdg)) (.call (.ref f) ⟨[], []⟩) (CR (L2.CX X.prog X.w) (envOfC qg sg s.heap.objs.size g cdg :: X.stack) X.prog X.w HZ s1 Q E) s1 := by
    refine PySem.W.kla_callFunE hr.depth of1 rfl L.co L.gen rfl ⟨c', oc, vs, t, rfl, hoc, hdc, hvc⟩ ?_
    rw [hbind]
    refine wpAny_pure (wpAny_newFunctionEnv (fun y hy => (L.own y hy).2) (fun y hy => absurd hy (by simp)) (fun h₁ hns hsb => ⟨I1.nolimit.fresh _ hsb, ?_⟩) L.kind)
    show codeAny _ _ (.expr body (lamEnv X scope s1.heap.objs.size f c')) _ _
    have kp : ∀ b o, s1.heap.get? b = some o → h₁.get? b = some o := fun b o e => hsb.extBut b o (Nat.ne_of_lt (Heap.lt_size e)) (Heap.get?_push_of_some _ e)
    have J : Inv (lamCx X (X.A.deeper (envOfC qg sg s.heap.objs.size g cdg)) (envOfC qg sg s.heap.objs.size g cdg :: X.stack) s1 HZ E scope f c') [] σ HZ { s1 with heap := h₁, toks := s1.toks + ([] : List (Str × Value)).length } :=
      lam_start2 I L I1.env0 hr.hd un hns kp
    refine PySem.W.kla_codeExpr (wpAny_mono ((hbody E _ s1 HZ (hr.deeper _)).run [] _ _ HZ Q J ht) (fun v s' hq => ?_) fun e s' hq => hq)
    obtain ⟨w', H', J', rv, q⟩ := hq
    exact ⟨w', H', J'.os, J'.bare, J'.base, J'.hok, rv, q⟩
  refine wpAny_call (codeAny_mono rc fun r s' hq => ?_)
  cases r with
  | error e => exact tk e s' (XE.of_call (W := W) (E := E) I1 hW hq)
  | ok fl =>
    cases fl with
    | ret u => exact I1.after hq
    | next => exact False.elim hq
    | brk => exact False.elim hq
    | cont => exact False.elim hq
end

/-! ### what the caught class must be -/
structure ToldC (K : PySem.W.Frag) (CB G : Addr) : Prop where
  xf : XfC K CB
  no : PySem.W.findIn K (.ref CB) "thing" = some none
  isx : ExcC K CB
  kit : PySem.W.kitOne K (.ref CB) (.ref G) = some true
  exC : PySem.W.subIn K (.ref CB) (.type "BaseException") = some true
  hd : PySem.W.hasDictIn K CB = true
  ty : PySem.W.typeIn K (.ref CB) = some (.type "type")
  own : PySem.W.subIn K (.ref CB) (.ref CB) = some true
section
variable {X : Cx}
/-- what the suite's reading is -/
def tSuite (Y : Cx) (rf : List Nat) (CB : Addr) (ie : Nat) (a : Addr) (cls : Value) (d : Option Addr) : TS := fun D σ H => cls = .ref CB ∧ ∃ (dd : Addr) (W : Wd) (x : V) (v : Val), d = some dd ∧ W.H = H ∧ SR Y.K Y.mg W ∧ VR Y.K W x v ∧ W.H dd = some (.xd [(("thing" : Str), x)]) ∧
  σ[ie]? = some (some (.ref a)) ∧ PostE Y.K Y.mg C8.E0 W D.rt ((gRepr v W.S).bind fun r S => .ok (.tup [.str rf, r]) S)
theorem suite_ok {Y : Cx} {a : Addr} {oe : Obj} {cls : Value} {d : Option Addr} {pn : List (Addr × Obj)} {CB G : Addr} {ie : Nat} {e gn : Str} {tr : Str} {rf : List Nat} {t2 : Expr} {te2 : TE} {j1} {k1 : Nat} {p1 p2 p3 p4 p5 p6 p7 p8 p9 p10 p11 p12 : Pos}
    (T : ToldC Y.K CB G) (hgd : Y.A.guards = some []) (hu : Y.A.units + 64 < cLine) (hz : Zc cls d oe) (hf : ∃ vs, oe.data = .fields vs) (hN : Y.N[ie]? = some e) (hv : Vis Y.env.scope e)
    (hg1 : Gl Y "isinstance") (hm1 : Y.mg "isinstance" = none) (hgG : Gl Y gn) (hmG : Y.mg gn = some (.ref G)) (hg2 : Gl Y "repr") (hm2 : Y.mg "repr" = none) (htr : tr = L3.mk rf)
    (h2 : PE (Y.suite a ((a, oe) :: pn)) t2 te2) (hd : (e == ("__debug__" : Str)) = false := by decide) (hcd : (e == ("__classdict__" : Str)) = false := by decide) (hdG : (gn == ("__debug__" : Str)) = false := by decide) :
    PSs (Y.suite a ((a, oe) :: pn)) [.Return (some (.IfExp (.Call (.Name "isinstance" p1) [.Name e p2, .Name gn p3] [] p4) (.Tuple [.Constant (.str tr) j1 p5, .Call (.Name "repr" p6) [.Attribute (.Name e p7) "thing" p8] [] p9] k1 p10) t2 p11)) p12] (tSuite Y rf CB ie a cls d) := by
  refine ⟨fun pins s σ H D I h => ?_⟩
  obtain ⟨ecls, dd, W, x, v, ed, eH, sr, rv, hx, hσ, hp⟩ := h
  subst ecls ed eH htr
  have pv : ∀ p, PE (Y.suite a ((a, oe) :: pn)) (.Name e p) (tVar ie) := fun p => pe_var (X := Y.suite a ((a, oe) :: pn)) hN hv hd hcd
  have h1 : PT (Y.suite a ((a, oe) :: pn)) (.Call (.Name "isinstance" p1) [.Name e p2, .Name gn p3] [] p4) _ :=
    pt_val (pe_callB (X := Y.suite a ((a, oe) :: pn)) (call_isE' T.isx hz hf) hg1 hm1 (by decide +kernel) (pa_cons (pv p2) (pa_cons (pe_glob (X := Y.suite a ((a, oe) :: pn)) (v := .ref G) hgG hmG rfl hdG) pa_nil)))
  have h3 : PE (Y.suite a ((a, oe) :: pn)) (.Call (.Name "repr" p6) [.Attribute (.Name e p7) "thing" p8] [] p9) _ :=
    pe_callB (X := Y.suite a ((a, oe) :: pn)) (cr_repr (X := Y.suite a ((a, oe) :: pn)) (E := C8.E0) hgd hu) hg2 hm2 (by decide +kernel) (pa_cons (pe_xf (pos := p8) T.xf T.no hz hf (pv p7)) pa_nil)
  have h4 := pss_one (ps_ret (pos := p12) (pe_ifExp (pos := p11) h1 (pe_tup (pos := p10) (x1 := k1) (pa_cons (pe_str (x := L3.mk rf) (j := j1) (pos := p5)) (pa_cons h3 pa_nil))) h2))
  refine h4.run pins s σ W.H D I ?_
  refine ⟨.ref a, hσ, .ref G, .ref G, true, _, rfl, (fun u r => r), T.kit, hx, true, rfl, ?_⟩
  refine ⟨.ref a, hσ, rfl, rfl, dd, _, x, rfl, hx, rfl, x, rfl, W, v, rfl, sr, rv, imp_e (PostE.bind (show PostE _ _ _ _ _ ((gRepr v W.S).bind _) from hp)) fun y H1 q => ?_⟩
  obtain ⟨W1, r, rfl, g1, s1, r1, q⟩ := q
  refine ⟨by rw [sizeLine_eq]; show 2 ≤ 16777216; omega, ?_⟩
  exact PostE.tup s1 (.cons (.str rf) (.cons r1 .nil)) q
end
end L3
/-! L3V: the rule for x(lambda: body). -/
namespace L3
open PySem PySem.Spec PyProof.Rows L2 LamX
/-- what a lambda's body gives, told -/
@[simp] def toldOf (tl rf : List Nat) (c0 : Str) : Out → Out
  | .ok v S => (gRepr v S).bind fun r S => .ok (.tup [.str tl, r]) S
  | .ex c v S => if c = c0 then (gRepr v S).bind fun r S => .ok (.tup [.str rf, r]) S else .stuck
  | .stuck => .stuck
@[simp] def mTold (P : Addr) (q : Str) (tl rf : List Nat) (c0 : Str) (m : Ev) : Ev := fun ρ S => match S[0]? with
  | some (Ob.tab P' q') => if P' = P ∧ q' = q then toldOf tl rf c0 (m ρ S) else .stuck
  | _ => .stuck
/-- the def that calls what it got -/
abbrev toldBody (a fn e cb : Str) (tl : Str) (t1 : Expr) (pc1 pc2 pa1 pa2 pr1 ph1 ph2 pt1 pq1 pq2 pq3 pq4 pq5 pq6 : Pos) (j2 k2 : Nat) : List Stmt :=
  [.Try [.Assign [.Name fn pa1] (.Call (.Name a pc1) [] [] pc2) pa2] [.ExceptHandler (some (.Name cb ph1)) (some e) [.Return (some t1) pr1] ph2] [] [] pt1,
   .Return (some (.Tuple [.Constant (.str tl) j2 pq1, .Call (.Name "repr" pq2) [.Name fn pq3] [] pq4] k2 pq5)) pq6]
section
variable {X : Cx} {E : XK}
theorem told_body {Y : Cx} {CB G : Addr} {a fn e cb tls c0 : Str} {tl rf : List Nat} {t1 : Expr} {pc1 pc2 pa1 pa2 pr1 ph1 ph2 pt1 pq1 pq2 pq3 pq4 pq5 pq6 : Pos} {j2 k2 : Nat} {tb : L2.St → Hp → Prop} {m : Ev} {σ0 : L2.St}
    (T : ToldC Y.K CB G) (hgd : Y.A.guards = some []) (hu : Y.A.units + 64 < cLine) (hs : Y.stack = Y.env :: Y.outer) (hfr : Y.env.frame = some Y.env.locals) (hN : Y.N = [a, fn, e]) (hnd : Y.N.Nodup)
    (hln : Y.env.kindOf e = some .local) (hlf : Loc Y.env.scope fn) (hlf2 : Y.fn fn = true ∨ Y.env.scope.names.lookup fn = some .local) (hgcb : Gl Y cb) (hmcb : Y.mg cb = some (.ref CB)) (hmc0 : Y.mg c0 = some (.ref CB)) (hdcb : (cb == ("__debug__" : Str)) = false) (hdf : (fn == ("__debug__" : Str)) = false) (hcf : (fn == ("__classdict__" : Str)) = false)
    (hg2 : Gl Y "repr") (hm2 : Y.mg "repr" = none) (htl : tls = L3.mk tl)
    (hsw : swapsWith (.Call (.Name a pc1) [] [] pc2) (some (.Name fn pa1)) pa2.line Y.env = pure false)
    (hact : ∀ (W : WX) (pn : List (Addr × Obj)) (xe : Value → Shared → Prop), Takes (Y.tr pn xe) W → PE (Y.tr pn xe) (.Call (.Name a pc1) [] [] pc2) (fun σZ HZ Q => ∃ E : XK, (∀ cls d H', E cls d H' → W cls d σZ H') ∧ tb σZ HZ ∧ tE Y E m σ0 HZ Q))
    (hsu : ∀ (a' : Addr) (oe : Obj) (cls : Value) (d : Option Addr) (pn : List (Addr × Obj)), Zc cls d oe → (∃ vs, oe.data = .fields vs) → PSs (Y.suite a' ((a', oe) :: pn)) [.Return (some t1) pr1] (tSuite Y rf CB 2 a' cls d)) :
    PSs Y (toldBody a fn e cb tls t1 pc1 pc2 pa1 pa2 pr1 ph1 ph2 pt1 pq1 pq2 pq3 pq4 pq5 pq6 j2 k2) (fun D σ H => 3 ≤ σ.length ∧ tb σ H ∧ ∃ W ρ, W.H = H ∧ SR Y.K Y.mg W ∧ Rel Y.K W ρ σ0 ∧ PostE Y.K Y.mg C8.E0 W D.rt (toldOf tl rf c0 (m ρ W.S))) := by
  have hN1 : Y.N[1]? = some fn := by rw [hN]; rfl
  have hN2 : Y.N[2]? = some e := by rw [hN]; rfl
  have b1 : ∀ (W : WX) (pn : List (Addr × Obj)) (xe : Value → Shared → Prop), Takes (Y.tr pn xe) W → PassesOwn (model Y.prog Y.w) Y.A Y.env xe → PSs (Y.tr pn xe) [.Assign [.Name fn pa1] (.Call (.Name a pc1) [] [] pc2) pa2]
      (fun D σ H => ∃ E : XK, (∀ cls d H', E cls d H' → W cls d σ H') ∧ tb σ H ∧ tE Y E m σ0 H fun x H1 => D.nx (σ.set 1 (some x)) H1) := fun W pn xe tk _ => by
    refine pss_one (PS.imp (ps_set (X := Y.tr pn xe) (pos := pa2) (pos' := pa1) hnd hN1 hlf (hact W pn xe tk) hsw hlf2) fun D σ H h => ?_)
    obtain ⟨E, h1, h2, h3⟩ := h
    exact ⟨E, h1, h2, h3⟩
  have s1 := ps_try_as (X := Y) (c := .ref CB) (i := 2) (n := e) (np := ph1) (pos := pt1) (pos' := ph2) (b₀ := .Return (some t1) pr1) (suite := [])
    (tb := fun W D σ H => ∃ E : XK, (∀ cls d H', E cls d H' → W cls d σ H') ∧ tb σ H ∧ tE Y E m σ0 H fun x H1 => D.nx (σ.set 1 (some x)) H1)
    (ts := tSuite Y rf CB 2) (body := [.Assign [.Name fn pa1] (.Call (.Name a pc1) [] [] pc2) pa2])
    hs hfr hnd hN2 hln ⟨hgcb, hdcb, .inl hmcb⟩ L2.takes0 b1 hsu
  have s2 : SSs Y C8.E0 [.Return (some (.Tuple [.Constant (.str tls) j2 pq1, .Call (.Name "repr" pq2) [.Name fn pq3] [] pq4] k2 pq5)) pq6] (mRet (mTup [mC (.str tl), mUn gRepr (mVar 1)])) :=
    ss_one (ss_ret (se_tup (sa_cons (se_str htl) (sa_cons (se_bi (cr_repr hgd hu) hg2 hm2 (by decide +kernel) (se_var (pe_var hN1 (by rcases hlf with h | h; exact .inl h; exact .inr (.inl h)) hdf hcf))) sa_nil)) (by show 2 ≤ 1000; omega)))
  refine PSs.imp (pss_cons s1 s2) fun D σ H h => ?_
  obtain ⟨hl, h2, W, ρ, rfl, sr, r, hp⟩ := h
  refine ⟨_, fun cls d H' hE => hE, h2, W, ρ, rfl, sr, r, ?_⟩
  cases hm : m ρ W.S with
  | stuck => rw [hm] at hp; exact hp.elim
  | ok v S' =>
    rw [hm] at hp
    intro W' x e' g s' rv
    refine ⟨W', (List.replicate σ.length none).set 1 (some v), rfl, s', ⟨by simp, fun i u hu => ?_⟩, ?_⟩
    · by_cases hi : 1 = i
      · subst hi
        rw [List.getElem?_set_self (by simp; omega)] at hu
        cases hu
        exact ⟨x, by rw [List.getElem?_set_self (by omega)], rv⟩
      · rw [List.getElem?_set_ne hi, List.getElem?_replicate] at hu
        split at hu <;> cases hu
    · have hv : ((List.replicate σ.length (none : Option Val)).set 1 (some v))[1]? = some (some v) := List.getElem?_set_self (by simp; omega)
      have hp' : PostE Y.K Y.mg C8.E0 W' D.rt ((gRepr v W'.S).bind fun r S => .ok (.tup [.str tl, r]) S) := by
        rw [e']
        exact PostE.trans hp g
      simp only [mRet, mTup, mArgs, mC, mUn, mVar, hv, Out.bindL, Out.bind, OutL.bindL, OutL.bind]
      cases hr : gRepr v W'.S with
      | ok r1 S2 => rw [hr] at hp'; exact hp'
      | ex c v2 S2 => rw [hr] at hp'; exact hp'
      | stuck => rw [hr] at hp'; exact hp'.elim
  | ex c v S' =>
    rw [hm] at hp
    simp only [toldOf] at hp
    split at hp
    · rename_i ec
      subst ec
      intro W' x C d e' g s' rv hmC hd hnl
      rw [hmc0] at hmC
      cases hmC
      have hp' : PostE Y.K Y.mg C8.E0 W' D.rt ((gRepr v W'.S).bind fun r S => .ok (.tup [.str rf, r]) S) := by
        rw [e']
        exact PostE.trans hp g
      refine ⟨true, PySem.W.exm_ref T.exC T.hd T.ty T.own, fun _ a' na => ⟨rfl, d, W', x, v, rfl, rfl, s', rv, hd, List.getElem?_set_self (by omega), hp'⟩, fun z => absurd z (by decide)⟩
    · exact hp.elim
/-- what a lambda's body's context gives -/
theorem CxG.lam {A : Around} {outer : List Env} {s : Shared} {H : Hp} {E' : XK} {scope : Scope} {f c' : Addr} {k : Nat} (hnd : X.N.Nodup) (hg : A.guards = some []) (hr : Room k (A.deeper (lamEnv X scope s.heap.objs.size f c'))) : CxG (lamCx X A outer s H E' scope f c') E' k :=
  ⟨hr, hg, rfl, passes_call (W := fun cls d _ H => E' cls d H) (takes_of rfl rfl rfl rfl) fun _ _ _ _ h => h, passes_of rfl, hnd, takes_of rfl rfl rfl rfl⟩
end
end L3
/-! L3W: the rule for x(lambda: body), whole. -/
namespace L3
open PySem PySem.Spec PyProof.Rows L2 LamX
theorem gRepr_cases (v : Val) (S : Store) : (∃ l, gRepr v S = .ok (.str l) S) ∨ gRepr v S = .stuck := by
  unfold gRepr
  split
  · exact .inl ⟨_, rfl⟩
  · exact .inr rfl
theorem told_noex {K mg} {E E' : XK} {W : Wd} {Q : VK} {tl rf : List Nat} {c0 : Str} {o : Out} (h : PostE K mg E W Q (toldOf tl rf c0 o)) : PostE K mg E' W Q (toldOf tl rf c0 o) := by
  cases o with
  | stuck => exact h
  | ok v S =>
    simp only [toldOf] at h ⊢
    rcases gRepr_cases v S with ⟨l, e⟩ | e
    · rw [e] at h ⊢; exact h
    · rw [e] at h; exact h.elim
  | ex c v S =>
    simp only [toldOf] at h ⊢
    split at h
    · rename_i ec
      rw [if_pos ec]
      rcases gRepr_cases v S with ⟨l, e⟩ | e
      · rw [e] at h ⊢; exact h
      · rw [e] at h; exact h.elim
    · exact h.elim
section
variable {X : Cx} {E : XK}
abbrev toldTest (e gn trs : Str) (t2 : Expr) (j1 k1 : Nat) (p1 p2 p3 p4 p5 p6 p7 p8 p9 p10 p11 : Pos) : Expr :=
  .IfExp (.Call (.Name "isinstance" p1) [.Name e p2, .Name gn p3] [] p4) (.Tuple [.Constant (.str trs) j1 p5, .Call (.Name "repr" p6) [.Attribute (.Name e p7) "thing" p8] [] p9] k1 p10) t2 p11
structure ToldAt (K : PySem.W.Frag) (mg : Str → Option Value) (cb gn : Str) : Prop where
  ex : ∃ CB G, mg cb = some (.ref CB) ∧ mg gn = some (.ref G) ∧ ToldC K CB G
theorem se_told {k : Nat} {x a fn e cb gn tls trs : Str} {tl rf : List Nat} {st : Stmt} {j1 k1 j2 k2 : Nat} {pc1 pc2 pa1 pa2 ph1 ph2 pt1 pq1 pq2 pq3 pq4 pq5 pq6 p1 p2 p3 p4 p5 p6 p7 p8 p9 p10 p11 p12 : Pos} {u1 u2 : Str} {pv1 pv2 pv3 : Pos} {ju1 ju2 kv : Nat}
    {c P : Addr} {q : Str} {params : Arguments} {body : Expr} {scope : Scope} {p lpos pos : Pos} {m : Ev} (cx : CxG X E (k + 2)) (T : ToldAt X.K X.mg cb gn) (D : DefAt X.K X.mg x st) (S : FnScope [a, fn, e] [a] (defScope st))
    (hst : defBody st = toldBody a fn e cb tls (toldTest e gn trs (.Tuple [.Constant (.str u1) ju1 pv1, .Constant (.str u2) ju2 pv2] kv pv3) j1 k1 p1 p2 p3 p4 p5 p6 p7 p8 p9 p10 p11) pc1 pc2 pa1 pa2 p12 ph1 ph2 pt1 pq1 pq2 pq3 pq4 pq5 pq6 j2 k2)
    (hb : ∀ (kV doc pm : Value) (an : Option Addr) (cdv ct : Value) (us : List Value), us.length = ([a] : List Str).length → bindArgs (PySem.W.fnOf x x (defArgs st) (defBody st) (defScope st) .none kV doc pm an cdv ct) ⟨us, []⟩ = pure (([a] : List Str).zip us))
    (htl : tls = L3.mk tl) (htr : trs = L3.mk rf)
    (hva : (defScope st).names.lookup a = some .local) (hvf : (defScope st).names.lookup fn = some .local) (hve : (defScope st).names.lookup e = some .local) (hgc : (defScope st).names.lookup cb = some .globalImplicit) (hgG : (defScope st).names.lookup gn = some .globalImplicit) (hgi : (defScope st).names.lookup ("isinstance" : Str) = some .globalImplicit) (hgr : (defScope st).names.lookup ("repr" : Str) = some .globalImplicit)
    (hmi : X.mg "isinstance" = none) (hmr : X.mg "repr" = none)
    (TB : TabB X.base X.mg c P) (hcode : X.env.code = .ref c) (hq : X.env.qual ++ "<lambda>" = q) (L : LamS X.env.scope scope) (hdef : defaultsOf params X.env = ([], []))
    (hbind : ∀ (q : Str) (cl : List (Str × Addr)) (pm cv ctv : Value), bindArgs (PySem.W.kla_fn "<lambda>" q params body scope cl pm cv ctv) ⟨[], []⟩ = pure [])
    (hg : Gl X x)
    (hbody : ∀ (A : Around) (outer : List Env) (s : Shared) (H : Hp) (E : XK) (f c' : Addr), CxG (lamCx X A outer s H E scope f c') E k → SE (lamCx X A outer s H E scope f c') E body m)
    (hsw : ∀ env, swapsWith (.Call (.Name a pc1) [] [] pc2) (some (.Name fn pa1)) pa2.line env = pure false := by intro _; rfl)
    (hdb : (x == ("__debug__" : Str)) = false := by decide) (hda : (a == ("__debug__" : Str)) = false := by decide) (hca : (a == ("__classdict__" : Str)) = false := by decide) (hdf : (fn == ("__debug__" : Str)) = false := by decide) (hcf : (fn == ("__classdict__" : Str)) = false := by decide)
    (hde : (e == ("__debug__" : Str)) = false := by decide) (hce : (e == ("__classdict__" : Str)) = false := by decide) (hdc : (cb == ("__debug__" : Str)) = false := by decide) (hdg : (gn == ("__debug__" : Str)) = false := by decide) :
    SE X E (.Call (.Name x p) [.Lambda params body scope lpos] [] pos) (mTold P q tl rf cb m) := by
  obtain ⟨g, fd, hm, F⟩ := D.ex
  have hbd := F.binds hb
  have hk := F.kp
  obtain ⟨oc, od, kV, doc, pm, an, cdg, ct, osl, rfl, lk, hcg⟩ := F.ex
  obtain ⟨CB, G, hmcb, hmG, T⟩ := T.ex
  refine ⟨fun pins s σ H Q I h => ?_⟩
  obtain ⟨W, ρ, rfl, sr, r, h⟩ := h
  simp only [mTold] at h
  split at h
  rotate_left
  · exact h.elim
  rename_i P' q' e0
  split at h
  rotate_left
  · exact h.elim
  rename_i ec
  obtain ⟨rfl, rfl⟩ := ec
  obtain ⟨a0, eB, ps, eH, ht, hc⟩ := sr.at_ 0 _ e0
  have eB2 := sr.tb 0 _ _ e0
  rw [eB] at eB2
  cases eB2
  refine wpAny_Call_Name_kw (ld_glob I hg hm ?_ hdb)
  refine PySem.W.callWith_K (h₀ := X.base) I.ok.mod.kin hk ?_ (by rfl) (by rfl)
  show wpAny _ _ (spliced ((false, eval (.Lambda params body scope lpos) X.env) :: backTo pos (starEach [] X.env))) _ _ s
  refine Calls.spliced_cons (lam_make3 I TB hcode eH ht (fun pos cv h => by
    obtain ⟨c, e1, e2, _⟩ := hc pos cv h
    exact ⟨c, e1, by rw [hq]; exact e2⟩) hdef (L.has I.ok) fun f c' pm' ctv H1 s' I1 cs hf hfn hfr hco => ?_)
  refine Calls.spliced_nil ⟨I1.kIn, ?_⟩
  obtain ⟨W1, eW, g1, s1, eS⟩ : ∃ W1 : Wd, W1.H = H1 ∧ Grow W W1 ∧ SR X.K X.mg W1 ∧ W1.S = W.S := by
    rcases cs with ⟨rfl, _⟩ | ⟨ps', eH1, nC, ht', hc'⟩
    · exact ⟨W, rfl, Grow.refl _, sr, rfl⟩
    · have sa := sr.new (CodeO c' (X.env.qual ++ "<lambda>")) nC
      have ga := Grow.new (CodeO c' (X.env.qual ++ "<lambda>")) nC
      have eB' : (W.put c' (CodeO c' (X.env.qual ++ "<lambda>"))).B[0]? = some P' := eB
      have nP : P' ≠ c' := ne_of_none eH nC
      have hnl : ¬ Live W c' := sr.notLive nC
      refine ⟨(W.put c' (CodeO c' (X.env.qual ++ "<lambda>"))).write 0 P' (.tbl ps') (.tab P' q'), ?_, ga.trans (Grow.write sa eB'), sa.write eB' ⟨ps', rfl, ht', fun pos cv h => ?_⟩ (fun _ _ e => by cases e; rfl), ?_⟩
      · rw [eH1]
        funext b
        show upd (upd W.H c' _) P' _ b = upd (upd W.H P' _) c' _ b
        by_cases hb : b = P'
        · subst hb
          rw [upd_same, upd_ne nP, upd_same]
        · rw [upd_ne hb]
          by_cases hb2 : b = c'
          · subst hb2; rw [upd_same, upd_same]
          · rw [upd_ne hb2, upd_ne hb2, upd_ne hb]
      · rcases hc' pos cv h with z | z
        · obtain ⟨c0, e1, e2, l⟩ := hc pos cv z
          refine ⟨c0, e1, ?_, fun z => l z⟩
          have n0 : c0 ≠ P' := fun z => l (.inr (by rw [z]; exact List.mem_of_getElem? eB))
          show upd (upd W.H c' _) P' _ c0 = _
          rw [upd_ne n0, upd_ne (ne_of_none e2 nC)]; exact e2
        · refine ⟨c', z, ?_, fun z => hnl z⟩
          show upd (upd W.H c' _) P' _ c' = _
          rw [upd_ne (Ne.symm nP), upd_same, hq]
      · show W.S.set 0 (.tab P' q') = W.S
        have := List.getElem?_eq_some_iff.mp e0
        obtain ⟨h1, h2⟩ := this
        rw [← h2]; exact List.set_getElem_self h1
  subst eW
  have rc : codeAny (model X.prog X.w) X.A (.call (.ref g) ⟨[.ref f], []⟩) (CR C8.CX0 X.stack X.prog X.w W1.H s' Q C8.E0) s' := by
    refine run_ofS (N := [a, fn, e]) (ps := [a]) (us := [.ref f]) (vs := [.ref f]) lk hcg S cx.room I1.env0 (hbd s' [.ref f] I1.kIn rfl) (.cons rfl .nil) rfl fun hr' => ?_
    rw [hst]
    have tb := told_body (Y := (cxOf C8.CX0 X.prog X.w X.K X.mg X.base [a, fn, e] x (defScope st) g cdg X.A X.stack s' W1.H C8.E0).nox) (tls := tls) (c0 := cb) (tl := tl) (rf := rf) (tb := fun σZ HZ => σZ[0]? = some (some (.ref f)) ∧ HZ c' = some (CodeO c' (X.env.qual ++ "<lambda>"))) (m := m) (σ0 := σ)
      (t1 := toldTest e gn trs (.Tuple [.Constant (.str u1) ju1 pv1, .Constant (.str u2) ju2 pv2] kv pv3) j1 k1 p1 p2 p3 p4 p5 p6 p7 p8 p9 p10 p11) (pc1 := pc1) (pc2 := pc2) (pa1 := pa1) (pa2 := pa2) (pr1 := p12) (ph1 := ph1) (ph2 := ph2) (pt1 := pt1) (pq1 := pq1) (pq2 := pq2) (pq3 := pq3) (pq4 := pq4) (pq5 := pq5) (pq6 := pq6) (j2 := j2) (k2 := k2)
      T cx.gd hr'.units rfl rfl rfl S.nd hve (.inl hvf) (.inr hvf) hgc hmcb hmcb hdc hdf hcf hgr hmr htl (hsw _)
      (fun W pn xe tk => PE.imp (pe_actG (CXg := C8.CX0) (Eg := C8.E0) (Ng := [a, fn, e]) (i := 0) (tb := fun E => tE X E m) (W := W) I1 L hf hfn hfr (hbind _ _ _ _ _) tk hr' (fun E outer s2 H2 hr2 => hbody _ outer s2 H2 E f c' (CxG.lam cx.nd cx.gd hr2)) rfl (.inl hva) hda hca) fun σZ HZ Q h => by
        obtain ⟨E1, h1, ⟨h2, h3⟩, h4⟩ := h
        exact ⟨E1, h1, h2, h3, h4⟩)
      (fun a' oe cls d pn hz hf => suite_ok (Y := (cxOf C8.CX0 X.prog X.w X.K X.mg X.base [a, fn, e] x (defScope st) g cdg X.A X.stack s' W1.H C8.E0).nox) T cx.gd hr'.units hz hf rfl (.inl hve) hgi hmi hgG hmG hgr hmr htr (pe_tup (pa_cons pe_str (pa_cons pe_str pa_nil))) hde hce hdg)
    refine ⟨_, tb.nox, by show 3 ≤ (L2.start [a, fn, e] [V.ref f]).length; exact Nat.le_refl _, ⟨rfl, hco⟩, W1, ρ, rfl, s1, r.mono g1, ?_⟩
    have h' := told_noex (E' := C8.E0) h
    rw [← eS] at h'
    exact h'.trans g1
  refine wpAny_call (codeAny_mono rc fun r s2 hq => ?_)
  cases r with
  | error e => exact (show False from hq).elim
  | ok fl =>
    cases fl with
    | ret u => exact I1.after hq
    | next => exact False.elim hq
    | brk => exact False.elim hq
    | cont => exact False.elim hq
end
end L3
/-! L3Y: truth, len and != of the store's objects, a comprehension over zip, contexts of blocks. -/
namespace L3
open PySem PySem.Spec PyProof.Rows L2 PySem.SeqAt PyProof.V
section
variable {X : Cx} {E : XK}
/-! ### contexts of blocks -/
theorem CxG.blk {k : Nat} {s : Shared} {H : Hp} {scope : Scope} {cenv : Env} {fp : List Addr} (cx : CxG X E k) : CxG (X.blk s H scope cenv fp) E0 k :=
  ⟨cx.room, cx.gd, cx.calm, passB, PassesOwn.never, cx.nd, fun _ _ x => by
    obtain ⟨_, _, _, _, _, _, _, _, _, _, _, _, _, _, _, _, z⟩ := x
    exact z.elim⟩
/-! ### truth of None, True, False, ints -/
def truB : Val → Store → OutB
  | .bl b, S => .ok b S
  | .non, S => .ok false S
  | .int i, S => .ok (i != 0) S
  | _, _ => .stuck
@[simp] def mT (m : Ev) : Tv := fun ρ S => (m ρ S).bindB truB
theorem truB_post {K mg} {W : Wd} {Q} {x : V} {v : Val} (s : SR K mg W) (r : VR K W x v) (h : PostB K mg E W Q (truB v W.S)) : ∃ k, TruV K x W.H k ∧ Q k W.H := by
  cases r with
  | bl b => exact ⟨b, rfl, h W rfl (Grow.refl W) s⟩
  | non => exact ⟨false, rfl, h W rfl (Grow.refl W) s⟩
  | int i => exact ⟨i != 0, rfl, h W rfl (Grow.refl W) s⟩
  | _ => exact h.elim
theorem st_tru {e : Expr} {m : Ev} (h : SE X E e m) (he : ∀ whole, isTrue e X.env whole = (do let v ← whole; standAt e.pos; holding [v] (truthy v)) := by intro _; rfl) : ST X E e (mT m) :=
  PT.imp (pt_truth h he) fun σ H Q h => by
    obtain ⟨W, ρ, rfl, s, r, h⟩ := h
    refine ⟨W, ρ, rfl, s, r, imp_e (PostE.bindB (show PostB _ _ _ _ _ ((m ρ W.S).bindB _) from h)) fun x H1 q => ?_⟩
    obtain ⟨W1, v, rfl, g1, s1, r1, q⟩ := q
    exact truB_post s1 r1 q
def nTru : G1 := fun v S => match v with
  | .bl b => .ok (.bl !b) S
  | .non => .ok (.bl true) S
  | .int i => .ok (.bl !(i != 0)) S
  | _ => .stuck
theorem se_notT {a : Expr} {ma : Ev} {pos : Pos} (ha : SE X E a ma) : SE X E (.UnaryOp .Not a pos) (mUn nTru ma) :=
  PE.imp (pe_notT ha) fun σ H Q h => by
    obtain ⟨W, ρ, e, s, r, h⟩ := un_imp h
    refine ⟨W, ρ, e, s, r, imp_e h fun x H1 q => ?_⟩
    obtain ⟨W1, v, rfl, s1, r1, q⟩ := q
    cases r1 with
    | bl b => exact ⟨b, rfl, PostE.val s1 (.bl _) q⟩
    | non => exact ⟨false, rfl, PostE.val s1 (.bl _) q⟩
    | int i => exact ⟨i != 0, rfl, PostE.val s1 (.bl _) q⟩
    | _ => exact q.elim
/-! ### len of a dict of the store -/
def gLenD : G1 := fun a S => match a with
  | .rf n => (match S[n]? with
    | some (.dt ks _) => .ok (.int ks.length) S
    | some (.dk ks _) => .ok (.int ks.length) S
    | _ => .stuck)
  | _ => .stuck
theorem cr_lenD : CallR X (.builtin "len") (rC1 X E gLenD) := by
  refine CallR.imp ((call_len_dT (X := X)).or call_lenD) fun xs H Q h => ?_
  obtain ⟨x, rfl, W, a, rfl, s, ra, h⟩ := h
  cases ra with
  | rf hb =>
    simp only [gLenD] at h
    split at h
    · rename_i ks l e
      obtain ⟨a', e1, kvs, e2, rfl, rs⟩ := s.at_ _ _ e
      rw [hb] at e1
      cases e1
      refine .inl ⟨_, kvs, rfl, e2, ?_⟩
      have := PostE.val s (.int _) h
      simpa using this
    · rename_i ks l e
      obtain ⟨a', e1, kvs, e2, rfl, rs⟩ := s.at_ _ _ e
      rw [hb] at e1
      cases e1
      refine .inr ⟨_, kvs, rfl, e2, ?_⟩
      have := PostE.val s (.int _) h
      simpa using this
    · exact h.elim
  | _ => exact h.elim
/-! ### a list of the store != [] -/
def gNeL : G2 := fun a b S => match a, b with
  | .rf n, .lst [] => (match S[n]? with
    | some (.lst l) => if isPs l && closedVs 0 l then .ok (.bl (!l.isEmpty)) S else .stuck
    | _ => .stuck)
  | _, _ => .stuck
theorem ops_neL (hu : X.A.units + 64 < cLine) : OpS X E (compareOp .NotEq) gNeL := by
  intro pins s σ H x y u v Q I rx ry h
  obtain ⟨W, a, b, rfl, sr, ra, rb, h⟩ := h
  unfold gNeL at h
  split at h
  · rename_i n
    split at h
    · rename_i l e
      split at h
      · rename_i z
        simp only [Bool.and_eq_true] at z
        cases ra with
        | rf hb =>
          obtain ⟨a', e1, xs, ex, rs⟩ := sr.at_ _ _ e
          rw [hb] at e1
          cases e1
          have r0 : VR X.K (W.cut 0) (.ref _) (.lst l) := .lst ⟨ex, fun q => by
            rcases q with q | q
            · exact sr.nr _ (List.mem_of_getElem? hb) q
            · have q' : _ ∈ W.B.take 0 := q
              simp at q'⟩ (rs.cut' z.2)
          have pl : isP (.lst l) = true := by simp only [isP]; exact z.1
          have pn : isP (.lst []) = true := by simp only [isP, isPs]
          obtain ⟨as, r1, _⟩ := VR.reads (W := W.cut 0) I sr.sm _ _ u r0 rx (isP_D _ pl)
          obtain ⟨bs, r2, _⟩ := VR.reads I sr.sm _ y v rb ry (isP_D _ pn)
          refine compareNe_reads r1 r2 (lay_P _ pl) (lay_P _ pn) ?_ ⟨.bl _, W.H, I, rfl, ?_⟩
          · rw [dep_py _ pl, dep_py _ pn]
            have : min (dep (.lst l)) (dep (.lst [])) ≤ dep (.lst []) := Nat.min_le_right _ _
            have h0 : dep (.lst []) ≤ 60 := by decide
            omega
          · rw [← veq_py _ _ pl pn]
            have e2 : (!veq (.lst l) (.lst [])) = !l.isEmpty := by cases l <;> simp [veq, veqs]
            rw [e2]
            exact PostE.val sr (.bl _) h
      · exact h.elim
    · exact h.elim
  · exact h.elim
end
end L3
/-! L3Z: [elt for x, y in zip(a, b)]; the tests of a comprehension. -/
namespace L3
open PySem PySem.Spec PyProof.Rows L2
section
variable {X : Cx} {E : XK}
theorem PTs.imp' {e : List Expr} {t t' : TT} (h : PTs X e t) (i : ∀ σ H Q, t' σ H Q → t σ H Q) : PTs X e t' := ⟨fun pins s σ H Q I q => h.run pins s σ H Q I (i _ _ _ q)⟩
theorem pts0 {m : Tv} (hm : m = tYesT := by rfl) : PTs X [] (tT X E m) := PTs.imp' pts_nil fun σ H Q h => by
  subst hm
  obtain ⟨W, ρ, rfl, s, r, h⟩ := h
  exact h W rfl (Grow.refl W) s
theorem pts1 {c : Expr} {m : Tv} (h : ST X E c m) : PTs X [c] (tT X E m) := pts_one h
theorem Src.zip {K mg} {W : Wd} {a b : Addr} {xs ys : List V} {l m : List Val} (hs : ∀ W', Grow W W' → SqL K W'.H a xs) (ht : ∀ W', Grow W W' → SqL K W'.H b ys) (r : VRs K W xs l) (r2 : VRs K W ys m) : Src K mg W (Itz K a b) ((l.zip m).map fun p => .tup [p.1, p.2]) where
  go := fun i W' g h => by
    have h1 : i < l.length := by simp at h; omega
    have h2 : i < m.length := by simp at h; omega
    obtain ⟨x, e, _⟩ := r.get (List.getElem?_eq_getElem h1)
    obtain ⟨y, e2, _⟩ := r2.get (List.getElem?_eq_getElem h2)
    exact ⟨xs, ys, x, y, hs W' g, ht W' g, e, e2⟩
  stop := fun W' g => ⟨xs, ys, hs W' g, ht W' g, by
    rw [r.length, r2.length]
    simp
    omega⟩
  yld := fun i W' x H' v g s e y => by
    obtain ⟨T, x1, y1, rfl, hT, rfl, f1, f2⟩ := y
    rw [List.getElem?_map] at e
    cases ez : (l.zip m)[i]? with
    | none => rw [ez] at e; cases e
    | some p =>
      rw [ez] at e
      cases e
      obtain ⟨h1, h2⟩ := List.getElem?_zip_eq_some.mp ez
      obtain ⟨x', e1, q1⟩ := r.get h1
      obtain ⟨y', e2, q2⟩ := r2.get h2
      have z1 := f1 xs (hs W' g)
      have z2 := f2 ys (ht W' g)
      rw [e1] at z1
      rw [e2] at z2
      cases z1
      cases z2
      exact ⟨W'.put T (.tup [x1, y1]), rfl, rfl, Grow.new _ hT, s.new _ hT, .tup (.new s hT) (.cons ((q1.mono g).mono (Grow.new _ hT)) (.cons ((q2.mono g).mono (Grow.new _ hT)) .nil))⟩
@[simp] def mZip (ma mb : Ev) : Iv := fun ρ S => (ma ρ S).bindL fun a S => (mb ρ S).bindL fun b S => match a, b with
  | .lst l, .lst m => .ok ((l.zip m).map fun p => .tup [p.1, p.2]) S
  | _, _ => .stuck
theorem si_zip {e e2 : Expr} {ma mb : Ev} {p pos tpos : Pos} {elts : List Expr} {kk : Nat} (hg : Gl X "zip") (hm : X.mg "zip" = none) (ha : SE X E e ma) (hb : SE X E e2 mb)
    (hs1 : starEach (e :: [e2]) X.env = (false, eval e X.env) :: starEach [e2] X.env := by rfl) (hs2 : starEach (e2 :: []) X.env = (false, eval e2 X.env) :: starEach [] X.env := by rfl)
    (hs : starEach [e, e2] X.env = (false, eval e X.env) :: starEach [e2] X.env := by rfl) (hpl : (backTo pos (starEach [e2] X.env)).any (·.1) = false := by rfl) :
    SI X E (.Tuple elts kk tpos) (.Call (.Name "zip" p) [e, e2] [] pos) (mZip ma mb) := by
  refine PI.imp (pi_zip hg hm (pa_cons ha (pa_cons hb pa_nil hs2) hs1) hs hpl) fun σ H R h => ?_
  obtain ⟨W, ρ, rfl, s, r, h⟩ := h
  refine ⟨W, ρ, rfl, s, r, imp_e (PostE.bindI (show PostI _ _ _ _ _ ((ma ρ W.S).bindL _) from h)) fun x H1 q => ?_⟩
  obtain ⟨W1, v, rfl, g1, s1, r1, q⟩ := q
  refine ⟨W1, ρ, rfl, s1, r.mono g1, imp_e (PostE.bindI (show PostI _ _ _ _ _ ((mb ρ W1.S).bindL _) from q)) fun y H2 q => ?_⟩
  obtain ⟨W2, u, rfl, g2, s2, r2, q⟩ := q
  split at q
  · rename_i l m
    cases r1.mono g2 with
    | lst t1 q1 =>
      cases r2 with
      | lst t2 q2 => exact ⟨_, _, _, _, rfl, t1.sq, t2.sq, q W2 _ rfl (Grow.refl _) s2 (Src.zip (fun W' g => (t1.mono g).sq) (fun W' g => (t2.mono g).sq) q1 q2)⟩
  · exact q.elim
/-- [elt for x, y in ..] -/
def lcGo2 (i j : Nat) (me : Ev) (ρ : Sl) : List Val → List Val → Store → Out
  | [], acc, S => .ok (.lst acc) S
  | .tup [v, w] :: l, acc, S => match me ((ρ.set i (some v)).set j (some w)) S with
    | .ok y S2 => if fit (acc.length + 1) then lcGo2 i j me ρ l (acc ++ [y]) S2 else .stuck
    | _ => .stuck
  | _ :: _, _, _ => .stuck
@[simp] def mLc2 (i j : Nat) (mi : Iv) (me : Ev) : Ev := fun ρ S => match mi ρ S with
  | .ok l S => lcGo2 i j me (wipeR ρ [i, j]) l [] S
  | .ex c v S => .ex c v S
  | .stuck => .stuck
theorem wipe_set2 (σ : L2.St) {i j : Nat} (hij : i ≠ j) (x y : Option V) : L2.wipe (((L2.wipe σ [i, j]).set i x).set j y) [i, j] = L2.wipe σ [i, j] := by
  show (((((σ.set j none).set i none).set i x).set j y).set j none).set i none = (σ.set j none).set i none
  apply List.ext_getElem?
  intro n
  simp only [List.getElem?_set, List.length_set]
  by_cases h1 : i = n <;> by_cases h2 : j = n <;> simp_all
theorem lc2_imp {i j : Nat} (hij : i ≠ j) {mi : Iv} {me : Ev} {σ : L2.St} {H : Hp} {Q : VK} (h : tE X E (mLc2 i j mi me) σ H Q) :
    tLc (tI X E mi) (fun v σ H Q => ∃ a xs, v = .ref a ∧ SqT X.K H a xs ∧ xs.length = 2 ∧ tNms [i, j] xs σ H Q) (tT X E0 tYesT) (tE X E0 me) [i, j] σ H Q := by
  obtain ⟨W, ρ, rfl, s, r, h⟩ := h
  refine ⟨W, ρ, rfl, s, r, ?_⟩
  simp only [mLc2] at h
  cases hm : mi ρ W.S with
  | ex c v S => rw [hm] at h; exact h
  | stuck => rw [hm] at h; exact h
  | ok l S1 =>
    rw [hm] at h
    intro W0 J e0 g0 s0 src D hD
    have hpost : PostE X.K X.mg E W0 Q (lcGo2 i j me (wipeR ρ [i, j]) l [] W0.S) := by rw [e0]; exact PostE.trans h g0
    have r0 := (r.mono g0).wipe [i, j]
    refine ⟨fun k m H' => m = l.length - k ∧ k ≤ l.length ∧ ∃ W1 acc accV, W1.H = H' ∧ Grow W0 W1 ∧ SR X.K X.mg W1 ∧ D ∈ W1.R ∧ W1.H D = some (.lst acc) ∧ VRs X.K W1 acc accV ∧ PostE X.K X.mg E W0 Q (lcGo2 i j me (wipeR ρ [i, j]) (l.drop k) accV W1.S), ⟨l.length, by simp, Nat.zero_le _, W0.hold D [], [], [], rfl, Grow.hold [] hD, s0.hold [] hD, List.mem_cons_self, upd_same, .nil, by rw [List.drop_zero]; exact hpost⟩, ?_⟩
    rintro k m H' ⟨rfl, hk, W1, acc, accV, rfl, g1, s1, hR, hDa, ra, h1⟩
    by_cases hlt : k < l.length
    · refine .inr ⟨src.go k W1 g1 hlt, fun H'' => k + 1 ≤ l.length ∧ ∃ W1 acc accV, W1.H = H'' ∧ Grow W0 W1 ∧ SR X.K X.mg W1 ∧ D ∈ W1.R ∧ W1.H D = some (.lst acc) ∧ VRs X.K W1 acc accV ∧ PostE X.K X.mg E W0 Q (lcGo2 i j me (wipeR ρ [i, j]) (l.drop (k + 1)) accV W1.S), fun H'' q => ⟨l.length - (k + 1), by omega, rfl, q⟩, fun x H2 y => ?_⟩
      obtain ⟨W2, rfl, e2, g2, s2, rv⟩ := src.yld k W1 x H2 _ g1 s1 (List.getElem?_eq_getElem hlt) y
      rw [List.drop_eq_getElem_cons hlt] at h1
      have g02 := g1.trans g2
      have hR2 : D ∈ W2.R := g2.r D hR
      have hD2 : W2.H D = some (.lst acc) := g2.res D _ hR hDa
      generalize hlk : l[k] = vk at h1 rv
      unfold lcGo2 at h1
      split at h1
      · rename_i heq; cases heq
      · rename_i acc' z1 z2 z3 v w l' heq
        obtain ⟨rfl, rfl⟩ := List.cons.inj heq
        cases rv with
        | tup t rs =>
        cases rs with
        | cons rv1 rs =>
        cases rs with
        | cons rw1 rs =>
        cases rs
        rename_i a0 x1 y1
        refine ⟨a0, _, rfl, t.sq, rfl, ?_⟩
        show (fun σ2 H2 => _) _ _
        refine ⟨wipe_set2 σ hij (some x1) (some y1), W2, ((wipeR ρ [i, j]).set i (some v)).set j (some w), rfl, s2, ((r0.mono g02).set i rv1).set j rw1, ?_⟩
        intro W3 e3 g3 s3
        rw [if_pos rfl]
        refine ⟨W3, ((wipeR ρ [i, j]).set i (some v)).set j (some w), rfl, s3, (((r0.mono g02).set i rv1).set j rw1).mono g3, ?_⟩
        rw [← e2, ← e3] at h1
        cases he : me (((wipeR ρ [i, j]).set i (some v)).set j (some w)) W3.S with
        | stuck => rw [he] at h1; exact h1.elim
        | ex c v S => rw [he] at h1; exact h1.elim
        | ok y S4 =>
          rw [he] at h1
          simp only at h1
          intro W4 yv e4 g4 s4 ry
          have hR4 : D ∈ W4.R := g4.r D (g3.r D hR2)
          have hD4 : W4.H D = some (.lst acc) := g4.res D _ (g3.r D hR2) (g3.res D _ hR2 hD2)
          have ra4 : VRs X.K W4 acc acc' := ((ra.mono g2).mono g3).mono g4
          split at h1
          · rename_i hf
            refine ⟨acc, hD4, ?_, hlt, { W4 with H := upd W4.H D (.lst (acc ++ [yv])) }, acc ++ [yv], acc' ++ [y], rfl, Grow.push _ hR4 ((g02.trans g3).trans g4) hD, s4.push _ hR4, hR4, upd_same, (ra4.push _ hR4).append (.cons (ry.push _ hR4) .nil), ?_⟩
            · have := fit_line hf
              rw [ra4.length]
              omega
            · show PostE X.K X.mg E W0 Q (lcGo2 i j me (wipeR ρ [i, j]) (l.drop (k + 1)) (acc' ++ [y]) W4.S)
              rw [e4]
              exact h1
          · exact h1.elim
      · exact h1.elim
    · have e : k = l.length := by omega
      subst e
      rw [List.drop_length] at h1
      refine .inl ⟨src.stop W1 g1, ?_⟩
      have hR0 : ∀ b ∈ W0.R, b ∈ W1.R := fun b z => g1.r b z
      have gd : Grow W0 (W1.drop W0.R) := g1.drop' hR0 fun b z => z
      refine h1 (W1.drop W0.R) (.ref D) rfl gd (s1.drop' hR0) (.lst ⟨hDa, fun z => ?_⟩ (ra.drop' hR0))
      rcases gd.live D z with q | q
      · exact s0.notLive hD q
      · rcases z with z | z
        · exact s0.res D z hD
        · exact s1.nr D z hR
theorem se_lc2 {i j : Nat} {elt tg iter : Expr} {scope : Scope} {x y : Str} {pos : Pos} {mi : Iv} {me : Ev} (hij : i ≠ j) (hc : X.calm = true) (hN : X.N.Nodup) (hi : SI X E tg iter mi) (ok : BlkOk X.N X.env.scope scope [(x, i), (y, j)])
    (hg : ∀ (s : Shared) (H : Hp) (C : Addr) (cl : List (Str × Addr)) (fp : List Addr), PG (X.blk s H scope (compEnvC scope cl C X.env) fp) tg (fun v σ H Q => ∃ a xs, v = .ref a ∧ SqT X.K H a xs ∧ xs.length = 2 ∧ tNms [i, j] xs σ H Q))
    (he : ∀ (s : Shared) (H : Hp) (C : Addr) (cl : List (Str × Addr)) (fp : List Addr), PE (X.blk s H scope (compEnvC scope cl C X.env) fp) elt (tE X E0 me)) (hs : ∀ x, foldedSetIterable iter X.env x = pure x := by intro _; rfl) :
    SE X E (.ListComp elt [⟨tg, iter, [], 0⟩] scope pos) (mLc2 i j mi me) :=
  PE.imp (pe_lc (own := [(x, i), (y, j)]) hc hN hi ok hg (fun _ _ _ _ _ => pts0) he hs) fun _ _ _ h => lc2_imp hij h
end
end L3
/-! L3End: the end of a law row: the script, the table of one def's lambdas, sys.modules. -/
namespace L3
open PySem PySem.Spec PyProof.Rows L2 LamX
/-- what is tracked at the law's entry -/
def H0 (m : Addr) (om : Obj) (T a : Addr) (os : Option (Obj × List Int)) : Hp := fun b =>
  if b = T then some (.tbl #[]) else if b = m then some (.frz om (.ext fun h => h.get? m = some om)) else match os with
    | some (o, ns) => if b = a then some (.frz o (.lst (ns.map V.int))) else none
    | none => none
section
variable {m T a : Addr} {om : Obj} {os : Option (Obj × List Int)}
theorem H0_T : H0 m om T a os T = some (.tbl #[]) := if_pos rfl
theorem H0_m (h : m ≠ T) : H0 m om T a os m = some (.frz om (.ext fun h => h.get? m = some om)) := (if_neg h).trans (if_pos rfl)
theorem H0_a {o : Obj} {ns : List Int} (h1 : a ≠ T) (h2 : a ≠ m) : H0 m om T a (some (o, ns)) a = some (.frz o (.lst (ns.map V.int))) := (if_neg h1).trans ((if_neg h2).trans (if_pos rfl))
theorem H0_cases (b : Addr) : b = T ∨ b = m ∨ (b = a ∧ os ≠ none) ∨ H0 m om T a os b = none := by
  by_cases h1 : b = T
  · exact .inl h1
  by_cases h2 : b = m
  · exact .inr (.inl h2)
  cases os with
  | none => exact .inr (.inr (.inr ((if_neg h1).trans (if_neg h2))))
  | some p =>
    by_cases h3 : b = a
    · exact .inr (.inr (.inl ⟨h3, by simp⟩))
    · exact .inr (.inr (.inr ((if_neg h1).trans ((if_neg h2).trans (if_neg h3)))))
end
theorem law_callG {P : Program} {w : World} {K : PySem.W.Frag} {mg mb : Str → Option Value} {k : Nat} {fa a c T : Addr} {fd : FuncData} {x q : Str} {F0 : Fn} {s₁ : Shared} {vs : List Value} {ns : List Int}
    (KX : K.In s₁.heap) (hns : s₁.heap.Ns mainGlobals mg) (hb : s₁.heap.Ns builtinsNs mb) (hbb : ∀ x : Str, x ≠ "__name__" → mb x = bootBuiltins x) (hlim : s₁.heap.NoLimit) (hg : s₁.gens = #[])
    (hT : s₁.heap.get? T = some { cls := .none, data := .fields #[] }) (nT : K.lookup T = none) (hC : PySem.W.CodeHd s₁.heap c T)
    (hbm : ∃ (bm : Addr) (ob : Obj), mg "__builtins__" = some (.ref bm) ∧ bm ≠ builtinsNs ∧ s₁.heap.get? bm = some ob ∧ ob.cls = .type "module" ∧ ob.dict = some builtinsNs ∧ ob.data = .plain)
    (hsm : ∃ mm, s₁.heap.Ns sysModules mm) (nS : K.lookup sysModules = none)
    (ha : s₁.heap.get? a = some { cls := .type "list", data := .seq vs.toArray }) (hi : IntsAre vs ns) (hl : ns.length ≤ sizeLine) (hr : Room k callerA)
    (F : ∀ base : Heap, K.In base → base.Ns mainGlobals mg → TabB base mg c T → FnG P w K mg base k fa fd [x] F0) (hbind : ∀ (s : Shared) (u : Value), BindsTo s fd ⟨[u], []⟩ [(x, u)])
    (hF : ∃ S', F0 [.scr ns] [.tab T q] = .ok (.bl true) S') :
    codeAny (model P w) callerA (.call (.ref fa) ⟨[.ref a], []⟩) (fun r s' => r = .ok (.ret (.bool true)) ∧ OldK s₁.heap s'.heap ∧ s'.os = s₁.os ∧ AllBare s'.gens) s₁ := by
  obtain ⟨mm, om, es, ep, hom, hdm, hrest⟩ := hsm
  have rv := vals_ints hi
  have lenV := hi.length
  have aT : a ≠ T := fun z => by
    rw [z, hT] at ha
    have z' : Data.fields #[] = Data.seq vs.toArray _ := congrArg Obj.data (Option.some.inj ha)
    cases z'
  have mT : sysModules ≠ T := fun z => by
    rw [z, hT] at hom
    cases hom
    cases hdm
  have aM : a ≠ sysModules := fun z => by
    rw [z, hom] at ha
    cases ha
    cases hdm
  have core : ∀ os : Option (Obj × List Int), (os = none → LstK K a (ns.map V.int)) → (∀ p, os = some p → p = ({ cls := .type "list", data := .seq vs.toArray }, ns) ∧ K.lookup a = none) →
      codeAny (model P w) callerA (.call (.ref fa) ⟨[.ref a], []⟩) (fun r s' => r = .ok (.ret (.bool true)) ∧ OldK s₁.heap s'.heap ∧ s'.os = s₁.os ∧ AllBare s'.gens) s₁ := by
    intro os hos1 hos2
    have hok : HOk P w (H0 sysModules om T a os) s₁.heap := fun b u z => by
      rcases H0_cases (m := sysModules) (om := om) (T := T) (a := a) (os := os) b with e | e | ⟨e, ho⟩ | e
      · subst e
        rw [H0_T] at z
        cases z
        exact hT
      · subst e
        rw [H0_m mT] at z
        cases z
        exact ⟨hom, hom, ⟨om, hom⟩, fun h1 h2 a b => b _ a⟩
      · subst e
        cases os with
        | none => exact absurd rfl ho
        | some p =>
          obtain ⟨rfl, hk⟩ := hos2 p rfl
          rw [H0_a aT aM] at z
          cases z
          exact ⟨ha, by rw [List.length_map]; exact hl, vs, _, rv, ha⟩
      · rw [e] at z; cases z
    have hid : ∀ {b : Addr} {o : Obj}, s₁.heap.get? b = some o → b ≠ T → b ≠ sysModules → (os ≠ none → b ≠ a) → (hidT s₁.heap (H0 sysModules om T a os)).get? b = some o := fun {b o} e h1 h2 h3 => hidT_get e (by
      rcases H0_cases (m := sysModules) (om := om) (T := T) (a := a) (os := os) b with z | z | ⟨z, ho⟩ | z
      · exact absurd z h1
      · exact absurd z h2
      · exact absurd z (h3 ho)
      · exact z)
    have nsK : ∀ {b : Addr} {m : Str → Option Value}, b ≠ sysModules → s₁.heap.Ns b m → (hidT s₁.heap (H0 sysModules om T a os)).Ns b m := fun {b m} hb ⟨o, es, ep, e, d, r⟩ => ⟨o, es, ep, hid e (fun z => by
      rw [z, hT] at e
      cases e
      cases d) hb (fun _ z => by
      rw [z, ha] at e
      cases e
      cases d), d, r⟩
    have hKb : K.In (hidT s₁.heap (H0 sysModules om T a os)) := fun b o e => hid (KX b o e) (fun z => by rw [z, nT] at e; cases e) (fun z => by rw [z, nS] at e; cases e) (fun ho z => by
      cases os with
      | none => exact ho rfl
      | some p =>
        rw [z, (hos2 p rfl).2] at e; cases e)
    have hM : L2.Mod K mg (hidT s₁.heap (H0 sysModules om T a os)) := ⟨hKb, nsK (by decide) hns, ⟨mb, nsK (by decide) hb, hbb⟩, let ⟨mc, h1, h2⟩ := hlim; ⟨mc, nsK (by decide) h1, h2⟩⟩
    have TB : TabB (hidT s₁.heap (H0 sysModules om T a os)) mg c T := by
      refine ⟨?_, ?_, fun z => ?_⟩
      · obtain ⟨o, us, file, tf, flags, tg, inF, text, tt, e1, r1, r2, r3, r4, r5, r6, r7, r8, hne⟩ := hC
        refine ⟨o, us, file, tf, flags, tg, inF, text, tt, hid e1 hne (fun z => ?_) (fun _ z => ?_), r1, r2, r3, r4, r5, r6, r7, r8, hne⟩
        · rw [z, hom] at e1
          cases e1
          rw [r2] at hdm
          cases hdm
        · rw [z, ha] at e1
          cases e1
          cases r2
      · obtain ⟨bm, ob, b1, b2, b3, b4, b5, b6⟩ := hbm
        have nG : bm ≠ mainGlobals := fun q => by
          obtain ⟨o, es, ep, e, hd, _⟩ := hns
          rw [q, e] at b3
          cases b3
          rw [hd] at b6
          cases b6
        have nP : bm ≠ T := fun q => by
          rw [q, hT] at b3
          cases b3
          cases b6
        refine ⟨bm, ob, b1, b2, nG, nP, hid b3 nP (fun z => ?_) (fun _ z => ?_), b4, b5, b6⟩
        · rw [z, hom] at b3
          cases b3
          rw [b6] at hdm
          cases hdm
        · rw [z, ha] at b3
          cases b3
          cases b6
      · obtain ⟨o, es, ep, e, hd, _⟩ := hns
        rw [z, hT] at e
        cases e
        cases hd
    have e0 : Env0 P w K mg (hidT s₁.heap (H0 sysModules om T a os)) callerA [] s₁ (H0 sysModules om T a os) := ⟨rfl, hM, fun b o e => of_hidT e, Nat.le_of_eq (hidT_size _ _), trivial, fun b hb => absurd (show b ∈ ([] : List Addr) from hb) (by simp), hok, .of_eq hg⟩
    have sr : SR K mg ⟨[T], [.tab T q], H0 sysModules om T a os, []⟩ := {
      len := rfl
      nd := by simp
      nr := fun _ _ z => nomatch z
      at_ := fun n o e => by
        cases n with
        | zero =>
          cases e
          exact ⟨T, rfl, #[], H0_T, trivial, fun pos cv z => by
            have z' : codeAmong pos [] = some cv := z
            simp [codeAmong] at z'⟩
        | succ n => simp at e
      res := fun _ z => nomatch z
      trk := fun b hb => by
        have : b = T := by simpa using hb
        subst this
        show H0 _ _ _ _ _ _ ≠ none
        rw [H0_T]; simp
      sm := ⟨_, _, H0_m mT⟩
      smB := by simpa using mT
      smR := fun z => nomatch z
      tb := fun n P' q' e => by
        cases n with
        | zero => cases e; rfl
        | succ n => simp at e }
    have vr : VRs K ⟨[T], [.tab T q], H0 sysModules om T a os, []⟩ [.ref a] [.scr ns] := .cons (.scr (by
      cases os with
      | none => exact .inr (hos1 rfl)
      | some p =>
        obtain ⟨rfl, _⟩ := hos2 p rfl
        refine .inl ⟨.inr ⟨_, H0_a aT aM⟩, fun z => ?_⟩
        rcases z with z | z
        · exact nomatch z
        · exact aT (by simpa using z))) .nil
    obtain ⟨S', hF⟩ := hF
    refine codeAny_mono ((F _ hKb (nsK (by decide) hns) TB).run callerA [] s₁ ⟨[.ref a], []⟩ [.ref a] [.ref a] (fun v _ => v = .bl true) (fun _ _ _ => False) ⟨[T], [.tab T q], H0 sysModules om T a os, []⟩ [.scr ns] hr rfl e0 (hbind s₁ (.ref a)) (.cons rfl .nil) sr vr rfl ?_) fun r s' h => ?_
    · show PostE _ _ _ _ _ (F0 [.scr ns] [.tab T q])
      rw [hF]
      intro W' x _ _ _ r
      cases r
      rfl
    · cases r with
      | error e =>
        obtain ⟨_, _, _, _, _, _, _, _, _, _, _, _, z⟩ := h
        exact z.elim
      | ok fl =>
        cases fl with
        | next => exact False.elim h
        | brk => exact False.elim h
        | cont => exact False.elim h
        | ret u =>
          obtain ⟨v, H', os', bare, un, hok', r', q'⟩ := h
          have q' : v = .bl true := q'
          subst q'
          obtain rfl : u = Value.bool true := r'
          obtain ⟨more, z⟩ := un.tbls T #[] H0_T
          have grown : s'.heap.get? T = some { cls := .none, data := .fields (#[] ++ more) } := hok' T _ z
          have frz : ∀ b ob u, H0 sysModules om T a os b = some (.frz ob u) → s₁.heap.get? b = some ob ∧ s'.heap.get? b = some ob := fun b ob u z => by
            obtain ⟨e1, _⟩ := hok b _ z
            obtain ⟨e2, _⟩ := hok' b _ (un.frzs b ob _ z)
            exact ⟨e1, e2⟩
          have key : ∀ b o, b ≠ T → s₁.heap.get? b = some o → s'.heap.get? b = some o := fun b o nb e => by
            rcases H0_cases (m := sysModules) (om := om) (T := T) (a := a) (os := os) b with z | z | ⟨z, ho⟩ | z
            · exact absurd z nb
            · subst z
              obtain ⟨e1, e2⟩ := frz _ _ _ (H0_m mT)
              rw [e] at e1
              cases e1
              exact e2
            · subst z
              cases os with
              | none => exact absurd rfl ho
              | some p =>
                obtain ⟨e1, e2⟩ := frz _ _ _ (H0_a (o := p.1) (ns := p.2) aT aM)
                rw [e] at e1
                cases e1
                exact e2
            · exact un.keep b o e z (fun z => absurd (show b ∈ ([] : List Addr) from z) (by simp)) (by simp)
          refine ⟨rfl, ⟨fun b o e => ?_, fun b o e => ?_⟩, os', bare⟩
          · by_cases hb : b = T
            · subst hb
              rw [hT] at e
              cases e
              exact .inr (.inl ⟨(hC.tab hT).isCodeTable, rfl, #[], more, rfl, grown⟩)
            · exact .inl (key b o hb e)
          · by_cases hb : b = T
            · subst hb
              exact ⟨_, grown⟩
            · exact ⟨o, key b o hb e⟩
  cases hk : K.lookup a with
  | some o =>
    have e := KX a o hk
    rw [ha] at e
    cases e
    exact core none (fun _ => ⟨_, vs.toArray, _, hk, rfl, rfl, rfl, by rw [List.size_toArray, lenV]; exact hl, by simpa using rv⟩) (fun p z => by cases z)
  | none => exact core (some (_, ns)) (fun z => by cases z) (fun p z => by cases z; exact ⟨rfl, hk⟩)
/-- what the head must give -/
def LawAtG (l : PySem.W.OpenLaw) (w : World) (K : PySem.W.Frag) (k n : Nat) (x lr : Str) (mg : Str → Option Value) (fa : Addr) : Prop :=
  ∃ (fd : FuncData) (c T : Addr) (q : Str) (F0 : Fn) (fr : Addr) (orr : Obj) (fdr : FuncData) (e : Value) (dd : Option Addr) (us : Array Value) (sl : Array (Option Value)),
    mg lr = some (.ref fr) ∧ K.lookup fr = some orr ∧ orr.data = .func fdr ∧ fdr.code = .ref c ∧ K.lookup c = some ⟨e, dd, .fields us, sl⟩ ∧ us[11]? = some (.ref T) ∧ K.lookup T = none ∧ K.lookup sysModules = none ∧
    (∀ (s : Shared) (u : Value), BindsTo s fd ⟨[u], []⟩ [(x, u)]) ∧ (∀ ns : List Int, ns.length ≤ n → ∃ S', F0 [.scr ns] [.tab T q] = .ok (.bl true) S') ∧
    ∀ base : Heap, K.In base → base.Ns mainGlobals mg → TabB base mg c T → FnG l.prog w K mg base k fa fd [x] F0
theorem walk_ofG {l : PySem.W.OpenLaw} {n k : Nat} {q : Program} {loose : List Str} {XP : (Str → Option Value) → Heap → Prop} {YP : World → Heap → Prop} {d : DefRec} {K : Params → PySem.W.Frag} {x lr : Str}
    (hn : l.most = some n) (hn2 : n ≤ sizeLine) (hdf : d.params.defaults = []) (hr : Room k callerA) (hrec : ((recsOf q).any fun e => e.name == lr) = true) (himp : importsNone q = true) (hY : ∀ (w : World) (h : Heap), YP w h → (K w.params).In h)
    (F : ∀ (w : World) (mg : Str → Option Value) (fa : Addr) (h : Heap), YP w h → (K w.params).In h → h.Ns mainGlobals mg → mg d.name = some (.ref fa) → LawAtG l w (K w.params) k n x lr mg fa) :
    PySem.W.WalkO q loose XP YP l.row.toRowW d [] (fun f vs => PySem.call f vs) := by
  refine Att.attach_callB hn hdf fun w s₀ s₁ mg mb fa o pm cd doc a vs ns G Y ho hd hcd hmg hobj hints hlen hbits hg => ?_
  have KX := hY w _ Y
  obtain ⟨fd, c, T, q0, F0, fr, orr, fdr, e, dd, us, sl, g1, g2, g3, g4, g5, g6, nT, nS, hb, hF, hFn⟩ := F w mg fa _ Y KX G.T.g hmg
  obtain ⟨dL, hm, hn1⟩ := List.any_eq_true.mp hrec
  have hn3 : dL.name = lr := beq_iff_eq.mp hn1
  obtain ⟨a', o', fd', c', P', h1, h2, h3, h4, h5, h6⟩ := G.T.tab dL hm
  rw [hn3, g1] at h1
  cases h1
  rw [KX _ _ g2] at h2
  cases h2
  rw [g3] at h3
  cases h3
  rw [g4] at h4
  cases h4
  have hCH := PySem.W.CodeHd.of h5 h6
  obtain ⟨⟨oc, vc, e1, _, e3, e4⟩, hP⟩ := id h6
  rw [KX _ _ g5] at e1
  cases e1
  cases e3
  rw [g6] at e4
  cases e4
  obtain ⟨mm, hmm, _⟩ := (G.T.seer himp).mods
  exact law_callG KX G.T.g G.T.b G.T.builtins G.T.nolimit hg hP nT hCH G.T.bmain ⟨mm, hmm⟩ nS hobj hints (Nat.le_trans hlen hn2) hr hFn hb (hF ns hlen)
end L3
/-! L3Pre: defs, methods, constants of a module as the top has left them. -/
namespace L3
open PySem PySem.Spec PyProof.Rows L2
theorem CxG.dn {X E} {j k : Nat} (c : CxG X E k) (h : j ≤ k) : CxG X E j := ⟨c.room.mono h, c.gd, c.calm, c.pass, c.own, c.nd, c.take⟩
/-- the statements of a class -/
def clsStmts : Stmt → List Stmt
  | .ClassDef (body := b) .. => b
  | _ => []
section
variable {P : Program} {w : World} {K : PySem.W.Frag} {mg : Str → Option Value} {base : Heap} {k : Nat}
structure MethDef (K : PySem.W.Frag) (mg : Str → Option Value) (c m qual : Str) (st : Stmt) : Prop where
  ex : ∀ C, mg c = some (.ref C) → Cls K C ∧ ∃ f fd, Meth K C m f ∧ Fun K m qual st f fd
theorem meth_at {c m qual : Str} {st : Stmt} {N ps : List Str} {b : Sv} (D : MethDef K mg c m qual st) (S : FnScope N ps (defScope st))
    (h : ∀ (kV doc pm : Value) (an : Option Addr) (cdv ct : Value) (us : List Value), us.length = ps.length → bindArgs (PySem.W.fnOf m qual (defArgs st) (defBody st) (defScope st) .none kV doc pm an cdv ct) ⟨us, []⟩ = pure (ps.zip us))
    (hb : ∀ (f : Addr) (cdv : Value) (A : Around) (outer : List Env) (s : Shared) (H : Hp) (E : XK), CxG (cxOf (L2.CX P w) P w K mg base N qual (defScope st) f cdv A outer s H E) E k → SSs (cxOf (L2.CX P w) P w K mg base N qual (defScope st) f cdv A outer s H E) E (defBody st) b) :
    MethAt P w K mg base c m (k + 1) ps (Fb b N.length) := ⟨fun C hC => by
  obtain ⟨h1, f, fd, h2, F⟩ := D.ex C hC
  exact ⟨h1, f, fd, h2, F.binds h, fn_okG F S (hb f)⟩⟩
structure MkDef (K : PySem.W.Frag) (mg : Str → Option Value) (c qual : Str) (st : Stmt) : Prop where
  ex : ∃ C f fd, mg c = some (.ref C) ∧ Mk K C f ∧ Fun K "__init__" qual st f fd
theorem make_at {c qual p : Str} {st : Stmt} {N : List Str} {b : Sv} (D : MkDef K mg c qual st) (S : FnScope N [p] (defScope st))
    (h : ∀ (kV doc pm : Value) (an : Option Addr) (cdv ct : Value) (us : List Value), us.length = ([p] : List Str).length → bindArgs (PySem.W.fnOf "__init__" qual (defArgs st) (defBody st) (defScope st) .none kV doc pm an cdv ct) ⟨us, []⟩ = pure (([p] : List Str).zip us))
    (hb : ∀ (f : Addr) (cdv : Value) (A : Around) (outer : List Env) (s : Shared) (H : Hp) (E : XK), CxG (cxOf (L2.CX P w) P w K mg base N qual (defScope st) f cdv A outer s H E) E k → SSs (cxOf (L2.CX P w) P w K mg base N qual (defScope st) f cdv A outer s H E) E (defBody st) b) :
    MkAt P w K mg base c (k + 1) (Fb b N.length) := by
  obtain ⟨C, f, fd, h1, h2, F⟩ := D.ex
  exact ⟨C, f, fd, p, h1, h2, F.binds h, fn_okG F S (hb f)⟩
/-- a def called by keywords alone -/
structure FnAtK (P : Program) (w : World) (K : PySem.W.Frag) (mg : Str → Option Value) (base : Heap) (x : Str) (k : Nat) (ps ks : List Str) (g : ∀ {α : Type}, List α → List α) (F : Fn) : Prop where
  ex : ∃ (f : Addr) (fd : FuncData), mg x = some (.ref f) ∧ PySem.W.keepIn K (.ref f) = true ∧ KOrd K fd ps ks (fun {α} => @g α) ∧ FnG P w K mg base k f fd ps F
theorem FnAtK.mono {x : Str} {j : Nat} {ps ks : List Str} {g : ∀ {α : Type}, List α → List α} {F : Fn} (G : FnAtK P w K mg base x j ps ks (fun {α} => @g α) F) (h : j ≤ k) : FnAtK P w K mg base x k ps ks (fun {α} => @g α) F :=
  let ⟨f, fd, h1, h2, h3, h4⟩ := G.ex; ⟨f, fd, h1, h2, h3, h4.mono h⟩
theorem fn_atK {x : Str} {st : Stmt} {N ps ks : List Str} {b : Sv} {g : ∀ {α : Type}, List α → List α} (D : DefAt K mg x st) (S : FnScope N ps (defScope st))
    (h : ∀ (kV doc pm : Value) (an : Option Addr) (cdv ct : Value) (ws : List Value), ws.length = ks.length → bindArgs (PySem.W.fnOf x x (defArgs st) (defBody st) (defScope st) .none kV doc pm an cdv ct) ⟨[], ks.zip ws⟩ = pure (ps.zip (g ws)))
    (hb : ∀ (f : Addr) (cdv : Value) (A : Around) (outer : List Env) (s : Shared) (H : Hp) (E : XK), CxG (cxOf (L2.CX P w) P w K mg base N x (defScope st) f cdv A outer s H E) E k → SSs (cxOf (L2.CX P w) P w K mg base N x (defScope st) f cdv A outer s H E) E (defBody st) b) :
    FnAtK P w K mg base x (k + 1) ps ks (fun {α} => @g α) (Fb b N.length) := by
  obtain ⟨f, fd, hm, F⟩ := D.ex
  refine ⟨f, fd, hm, F.kp, ⟨fun s ws _ hl => ?_⟩, fn_okG F S (hb f)⟩
  obtain ⟨oc, od, kV, doc, pm, an, cdv, ct, osl, rfl, lk, hcd⟩ := F.ex
  exact .of_eq (h kV doc pm an cdv ct ws hl)
theorem se_kw {X : Cx} {E : XK} {k : Nat} {x : Str} {p pos : Pos} {kws : List Keyword} {ms : List Ev} {ps ks : List Str} {F : Fn} (cx : CxG X E k) (G : FnAtK X.prog X.w X.K X.mg X.base x k ps ks (fun {_} l => l) F) (hg : Gl X x) (ha : SK X E kws ms) (hpk : ps.length = ks.length) (hl : ms.length = ks.length)
    (hall : (backToKw pos (keywordEach kws X.env)).all (·.1.isSome) = true) (hks : (backToKw pos (keywordEach kws X.env)).filterMap (·.1) = ks) (hdb : (x == ("__debug__" : Str)) = false)
    (hpl : ((backTo pos (starEach [] X.env)).any (·.1) || (backToKw pos (keywordEach kws X.env)).any (·.1.isNone)) = false) : SE X E (.Call (.Name x p) [] kws pos) (mCallK F (fun l => l) ms) := by
  obtain ⟨f, fd, h1, h2, h3, h4⟩ := G.ex
  exact se_callK (g := fun {_} l => l) cx h1 h2 h4 h3 (fun r => r) (fun r => r) (fun l e => by rw [e, hl, hpk]) hg ha hl hall hks hdb hpl
theorem se_kwR {X : Cx} {E : XK} {k : Nat} {x : Str} {p pos : Pos} {kws : List Keyword} {ms : List Ev} {ps ks : List Str} {F : Fn} (cx : CxG X E k) (G : FnAtK X.prog X.w X.K X.mg X.base x k ps ks (fun {_} l => l.reverse) F) (hg : Gl X x) (ha : SK X E kws ms) (hpk : ps.length = ks.length) (hl : ms.length = ks.length)
    (hall : (backToKw pos (keywordEach kws X.env)).all (·.1.isSome) = true) (hks : (backToKw pos (keywordEach kws X.env)).filterMap (·.1) = ks) (hdb : (x == ("__debug__" : Str)) = false)
    (hpl : ((backTo pos (starEach [] X.env)).any (·.1) || (backToKw pos (keywordEach kws X.env)).any (·.1.isNone)) = false) : SE X E (.Call (.Name x p) [] kws pos) (mCallK F (fun l => l.reverse) ms) := by
  obtain ⟨f, fd, h1, h2, h3, h4⟩ := G.ex
  exact se_callK (g := fun {_} l => l.reverse) cx h1 h2 h4 h3 (fun r => r.reverse) (fun r => Vals.reverse r) (fun l e => by rw [List.length_reverse, e, hl, hpk]) hg ha hl hall hks hdb hpl
/-- a def whose code object is known -/
structure DefAtC (K : PySem.W.Frag) (mg : Str → Option Value) (x : Str) (st : Stmt) (c : Addr) : Prop where
  ex : ∃ (f : Addr) (fd : FuncData), mg x = some (.ref f) ∧ Fun K x x st f fd ∧ fd.code = .ref c
theorem fn_atC {c : Addr} {x : Str} {st : Stmt} {N ps : List Str} {b : Sv} (D : DefAtC K mg x st c) (S : FnScope N ps (defScope st))
    (h : ∀ (kV doc pm : Value) (an : Option Addr) (cdv ct : Value) (us : List Value), us.length = ps.length → bindArgs (PySem.W.fnOf x x (defArgs st) (defBody st) (defScope st) .none kV doc pm an cdv ct) ⟨us, []⟩ = pure (ps.zip us))
    (hb : ∀ (f : Addr) (A : Around) (outer : List Env) (s : Shared) (H : Hp) (E : XK), CxG (cxOf (L2.CX P w) P w K mg base N x (defScope st) f (.ref c) A outer s H E) E k → SSs (cxOf (L2.CX P w) P w K mg base N x (defScope st) f (.ref c) A outer s H E) E (defBody st) b) :
    FnAt P w K mg base x (k + 1) ps (Fb b N.length) := by
  obtain ⟨f, fd, hm, F, hc⟩ := D.ex
  exact ⟨f, fd, hm, F.kp, F.binds h, fn_okC F S (by rw [hc]; exact hb f)⟩
/-- a def that is never to be called -/
theorem fn_none {x : Str} {st : Stmt} {ps : List Str} (D : DefAt K mg x st)
    (h : ∀ (kV doc pm : Value) (an : Option Addr) (cdv ct : Value) (us : List Value), us.length = ps.length → bindArgs (PySem.W.fnOf x x (defArgs st) (defBody st) (defScope st) .none kV doc pm an cdv ct) ⟨us, []⟩ = pure (ps.zip us)) :
    FnAt P w K mg base x k ps (fun _ _ => .stuck) := by
  obtain ⟨f, fd, hm, F⟩ := D.ex
  exact ⟨f, fd, hm, F.kp, F.binds h, ⟨fun A outer s args us vs Q E W as hr hgd e0 hbd r sr rv hl hp => hp.elim⟩⟩
/-- constants -/
theorem gc_int {x : Str} {i : Int} {u : Tok} (h : mg x = some (.int i u)) : GC K mg x (.int i) := ⟨.int i, _, h, ⟨u, rfl⟩, fun _ => .int i⟩
theorem gc_str {x y : Str} {l : List Nat} {u : Tok} (h : mg x = some (.str y u)) (e : y = L3.mk l) : GC K mg x (.str l) := by
  subst e
  exact ⟨.str (L3.mk l), _, h, ⟨u, rfl⟩, fun _ => .str l⟩
inductive StrsK : List Value → List Val → Prop
  | nil : StrsK [] []
  | cons {y : Str} {u : Tok} {l : List Nat} {vs : List Value} {ls : List Val} : y = L3.mk l → StrsK vs ls → StrsK (.str y u :: vs) (.str l :: ls)
theorem strsK_rel : ∀ {vs : List Value} {ls : List Val}, StrsK vs ls → ∃ xs : List V, Vals xs vs ∧ ∀ W, VRs K W xs ls
  | _, _, .nil => ⟨[], .nil, fun _ => .nil⟩
  | _, _, .cons (u := u) (l := l) e r => by
    obtain ⟨xs, h1, h2⟩ := strsK_rel r
    subst e
    exact ⟨.str (L3.mk l) :: xs, .cons ⟨u, rfl⟩ h1, fun W => .cons (.str l) (h2 W)⟩
theorem gc_tup {x : Str} {a : Addr} {vs : List Value} {ls : List Val} {dd : Option Addr} {n : Nat} {sl : Array (Option Value)} (h : mg x = some (.ref a)) (l : K.lookup a = some ⟨.type "tuple", dd, .seq vs.toArray n, sl⟩) (r : StrsK vs ls) (hz : vs.length ≤ 1000) : GC K mg x (.ktup ls) := by
  obtain ⟨xs, h1, h2⟩ := strsK_rel (K := K) r
  exact ⟨.ref a, _, h, rfl, fun W => .ktup (xs := xs) ⟨_, vs.toArray, n, l, rfl, rfl, by rw [List.size_toArray, sizeLine_eq]; omega, by simpa using h1⟩ (h2 W)⟩
end
/-! ### comprehensions, the block's context handed on -/
section
variable {X : Cx} {E : XK}
abbrev Cx.cb (X : Cx) (scope : Scope) (s : Shared) (H : Hp) (C : Addr) (cl : List (Str × Addr)) (fp : List Addr) : Cx := X.blk s H scope (compEnvC scope cl C X.env) fp
theorem se_lcG {k i : Nat} {elt tg iter : Expr} {ifs : List Expr} {scope : Scope} {x : Str} {pos : Pos} {mi : Iv} {mt : Tv} {me : Ev} (cx : CxG X E k) (hi : SI X E tg iter mi) (ok : BlkOk X.N X.env.scope scope [(x, i)])
    (hg : ∀ s H C cl fp, CxG (Cx.cb X scope s H C cl fp) E0 k → PG (Cx.cb X scope s H C cl fp) tg (gName i))
    (ht : ∀ s H C cl fp, CxG (Cx.cb X scope s H C cl fp) E0 k → PTs (Cx.cb X scope s H C cl fp) ifs (tT (Cx.cb X scope s H C cl fp) E0 mt))
    (he : ∀ s H C cl fp, CxG (Cx.cb X scope s H C cl fp) E0 k → SE (Cx.cb X scope s H C cl fp) E0 elt me) (hs : ∀ x, foldedSetIterable iter X.env x = pure x := by intro _; rfl) :
    SE X E (.ListComp elt [⟨tg, iter, ifs, 0⟩] scope pos) (mLc i mi mt me) :=
  se_lc cx.calm cx.nd hi ok (fun s H C cl fp => hg s H C cl fp cx.blk) (fun s H C cl fp => ht s H C cl fp cx.blk) (fun s H C cl fp => he s H C cl fp cx.blk) hs
theorem ss_setLcG {k i j : Nat} {y x : Str} {py : Pos} {elt tg iter : Expr} {ifs : List Expr} {scope : Scope} {pos spos : Pos} {mi : Iv} {mt : Tv} {me : Ev} (cx : CxG X E k) (hy : X.N[j]? = some y) (hyl : X.env.scope.names.lookup y = some .local)
    (hk : X.env.scope.kind = .function) (hl : (py.line == pos.line) = true) (ha : (scope.names.any fun (n, k) => n == y && (k == .local || k == .cell)) = false) (hi : SI X E tg iter mi) (ok : BlkOk X.N X.env.scope scope [(x, i)])
    (hg : ∀ s H C cl fp, CxG (Cx.cb X scope s H C cl fp) E0 k → PG (Cx.cb X scope s H C cl fp) tg (gName i))
    (ht : ∀ s H C cl fp, CxG (Cx.cb X scope s H C cl fp) E0 k → PTs (Cx.cb X scope s H C cl fp) ifs (tT (Cx.cb X scope s H C cl fp) E0 mt))
    (he : ∀ s H C cl fp, CxG (Cx.cb X scope s H C cl fp) E0 k → SE (Cx.cb X scope s H C cl fp) E0 elt me) (hs : ∀ x, foldedSetIterable iter X.env x = pure x := by intro _; rfl) :
    SS X E (.Assign [.Name y py] (.ListComp elt [⟨tg, iter, ifs, 0⟩] scope pos) spos) (mSet j (mLc i mi mt me)) :=
  ss_setLc cx.calm cx.nd hy hyl (sw_true hk hyl hl ha) hi ok (fun s H C cl fp => hg s H C cl fp cx.blk) (fun s H C cl fp => ht s H C cl fp cx.blk) (fun s H C cl fp => he s H C cl fp cx.blk) hs
theorem se_lc2G {k i j : Nat} {elt tg iter : Expr} {scope : Scope} {x y : Str} {pos : Pos} {mi : Iv} {me : Ev} (cx : CxG X E k) (hij : i ≠ j) (hi : SI X E tg iter mi) (ok : BlkOk X.N X.env.scope scope [(x, i), (y, j)])
    (hg : ∀ s H C cl fp, CxG (Cx.cb X scope s H C cl fp) E0 k → PG (Cx.cb X scope s H C cl fp) tg (fun v σ H Q => ∃ a xs, v = .ref a ∧ SqT X.K H a xs ∧ xs.length = 2 ∧ tNms [i, j] xs σ H Q))
    (he : ∀ s H C cl fp, CxG (Cx.cb X scope s H C cl fp) E0 k → SE (Cx.cb X scope s H C cl fp) E0 elt me) (hs : ∀ x, foldedSetIterable iter X.env x = pure x := by intro _; rfl) :
    SE X E (.ListComp elt [⟨tg, iter, [], 0⟩] scope pos) (mLc2 i j mi me) :=
  se_lc2 hij cx.calm cx.nd hi ok (fun s H C cl fp => hg s H C cl fp cx.blk) (fun s H C cl fp => he s H C cl fp cx.blk) hs
end
end L3
/-! G46 (printed by gen46.py): what each def of the linked text means, and that it does. -/
namespace K46
open PySem PySem.Spec PyProof.Rows L2 L3
def top (i : Nat) : Stmt := PySem.Challenge.pw_answergate_k46_any_values_as_pasts.main.body.getD i (.Pass ⟨0, 0, 0, 0⟩)
def tabQ : Str := "_law_is_right.<locals>.<lambda>"

def v_FATES : List Val := [.str [98, 101, 103, 117, 110], .str [110, 111, 116, 32, 98, 101, 103, 117, 110], .str [111, 112, 101, 110], .str []]
def v_PLAIN : List Val := [.str [98, 117, 115, 121], .str [98, 101, 103, 117, 110], .str [110, 111, 116, 32, 98, 101, 103, 117, 110], .str [117, 110, 107, 110, 111, 119, 110], .str [110, 111, 110, 101]]
def v_ONCE_ONLY : List Val := [.str [98, 101, 103, 117, 110], .str [110, 111, 116, 32, 98, 101, 103, 117, 110], .str [117, 110, 107, 110, 111, 119, 110]]
/-! ### meanings -/
def b_is_integer : Sv :=
  (mRet (mAnd (mUn (gIsi .int) (mVar 0)) (mUn nTru (mUn (gIsi .bool) (mVar 0)))))
def f_is_integer : Fn := Fb (b_is_integer) 1
def b_is_between : Sv :=
  (mRet (mAnd (mCall f_is_integer [(mVar 0)]) (mChain gLe gLe (mVar 1) (mVar 0) (mVar 2))))
def f_is_between : Fn := Fb (b_is_between) 3
def b_is_row : Sv :=
  (mRet (mAnd (mUn (gIsi .tuple) (mVar 0)) (mBin gEq (mUn gLen (mVar 0)) (mVar 1))))
def f_is_row : Fn := Fb (b_is_row) 2
def b_is_number : Sv :=
  (mRet (mCall f_is_between [(mVar 0), (mC (.int 0)), (mC (.int 1000000000))]))
def f_is_number : Fn := Fb (b_is_number) 1
def b_is_bool : Sv :=
  (mRet (mUn (gIsi .bool) (mVar 0)))
def f_is_bool : Fn := Fb (b_is_bool) 1
def b_is_word : Sv :=
  (mSeq (mIfS (L3.tOr (L3.tNot (mT (mUn (gIsi .str) (mVar 0)))) (L3.tNot (mB (mChain gLe gLe (mC (.int 1)) (mUn gLen (mVar 0)) (mC (.int 10)))))) (mRet (mC (.bl false))) mNil)
    (mRet (mUn gAll (mLc 1 (mIter (mVar 0)) tYesT (mBin gIn (mVar 1) (mC (.str [97, 98, 99, 100, 101, 102, 103, 104, 105, 106, 107, 108, 109, 110, 111, 112, 113, 114, 115, 116, 117, 118, 119, 120, 121, 122])))))))
def f_is_word : Fn := Fb (b_is_word) 2
def b_is_line : Sv :=
  (mRet (mAnd (mUn (gIsi .str) (mVar 0)) (mAnd (mBin gLe (mUn gLen (mVar 0)) (mVar 1)) (mUn gAll (mLc 2 (mIter (mVar 0)) tYesT (mChain gLe gLe (mC (.str [32])) (mVar 2) (mC (.str [126]))))))))
def f_is_line : Fn := Fb (b_is_line) 3
def b_is_body : Sv :=
  (mRet (mCall f_is_line [(mVar 0), (mC (.int 150))]))
def f_is_body : Fn := Fb (b_is_body) 1
def b_are_rising : Sv :=
  (mRet (mUn gAll (mLc2 1 2 (mZip (mVar 0) (mCut (mVar 0) (some (mC (.int 1))) none)) (mBin gLt (mVar 1) (mVar 2)))))
def f_are_rising : Fn := Fb (b_are_rising) 3
def b_is_answer : Sv :=
  (mSeq (mIfS (L3.tOr (L3.tNot (mT (mUn (gIsi .tuple) (mVar 0)))) (L3.tOr (mB (mBin gEq (mVar 0) (mTup []))) (L3.tNot (mT (mUn (gIsi .str) (mBin gIx (mVar 0) (mC (.int 0)))))))) (mRet (mC (.bl false))) mNil)
    (mSeq (mIfS (mB (mBin gEq (mBin gIx (mVar 0) (mC (.int 0))) (mC (.str [100, 111, 110, 101])))) (mRet (mAnd (mBin gEq (mUn gLen (mVar 0)) (mC (.int 2))) (mCall f_is_body [(mBin gIx (mVar 0) (mC (.int 1)))]))) mNil)
    (mRet (mAnd (mBin gEq (mUn gLen (mVar 0)) (mC (.int 1))) (mBin gIn (mBin gIx (mVar 0) (mC (.int 0))) (mC (.ktup v_PLAIN)))))))
def f_is_answer : Fn := Fb (b_is_answer) 1
def b_is_entry : Sv :=
  (mSeq (mIfS (L3.tOr (L3.tNot (mT (mUn (gIsi .tuple) (mVar 0)))) (L3.tOr (mB (mBin gLt (mUn gLen (mVar 0)) (mC (.int 2)))) (L3.tOr (L3.tNot (mT (mUn (gIsi .str) (mBin gIx (mVar 0) (mC (.int 0)))))) (L3.tNot (mT (mCall f_is_word [(mBin gIx (mVar 0) (mC (.int 1)))])))))) (mRet (mC (.bl false))) mNil)
    (mSeq (mIfS (mB (mBin gEq (mBin gIx (mVar 0) (mC (.int 0))) (mC (.str [103, 111, 110, 101])))) (mRet (mBin gEq (mUn gLen (mVar 0)) (mC (.int 2)))) mNil)
    (mSeq (mIfS (L3.tOr (L3.tNot (mT (mCall f_is_row [(mVar 0), (mC (.int 5))]))) (L3.tNot (mT (mCall f_is_number [(mBin gIx (mVar 0) (mC (.int 2)))])))) (mRet (mC (.bl false))) mNil)
    (mSeq (mIfS (mB (mBin gEq (mBin gIx (mVar 0) (mC (.int 0))) (mC (.str [97, 99, 99, 101, 112, 116, 101, 100])))) (mRet (mAnd (mCall f_is_bool [(mBin gIx (mVar 0) (mC (.int 3)))]) (mCall f_is_body [(mBin gIx (mVar 0) (mC (.int 4)))]))) mNil)
    (mSeq (mIfS (mB (mBin gEq (mBin gIx (mVar 0) (mC (.int 0))) (mC (.str [98, 101, 103, 117, 110])))) (mRet (mAnd (mCall f_is_word [(mBin gIx (mVar 0) (mC (.int 3)))]) (mCall f_is_between [(mBin gIx (mVar 0) (mC (.int 4))), (mC (.int 1)), (mC (.int 1000000000))]))) mNil)
    (mRet (mAnd (mBin gEq (mBin gIx (mVar 0) (mC (.int 0))) (mC (.str [97, 110, 115, 119, 101, 114, 101, 100]))) (mAnd (mCall f_is_answer [(mBin gIx (mVar 0) (mC (.int 3)))]) (mAnd (mUn (gIsi .str) (mBin gIx (mVar 0) (mC (.int 4)))) (mBin gIn (mBin gIx (mVar 0) (mC (.int 4))) (mC (.ktup v_FATES))))))))))))
def f_is_entry : Fn := Fb (b_is_entry) 1
def b_is_past_value : Sv :=
  (mRet (mAnd (mUn (gIsi .tuple) (mVar 0)) (mUn gAll (mLc 1 (mIter (mVar 0)) tYesT (mCall f_is_entry [(mVar 1)])))))
def f_is_past_value : Fn := Fb (b_is_past_value) 2
def b_Judge___init__ : Sv :=
  (mSeq (mFldSet "Judge" "accepted" (mVar 0) mNewT)
    (mSeq (mFldSet "Judge" "begun" (mVar 0) mNewT)
    (mSeq (mFldSet "Judge" "answers" (mVar 0) mNewT)
    (mFldSet "Judge" "gone" (mVar 0) mNewK))))
def f_Judge___init__ : Fn := Fb (b_Judge___init__) 1
def b_Judge_accept : Sv :=
  (mSeq (mIfS (mB (mBin (gDIn false) (mVar 1) (mFld "Judge" "accepted" (mVar 0)))) (mRet (mC (.str [116, 119, 105, 99, 101, 32, 97, 99, 99, 101, 112, 116, 101, 100]))) mNil)
    (mSeq (mIfS (mB (mBin (gDIn false) (mBin gIx (mVar 1) (mC (.int 0))) (mFld "Judge" "gone" (mVar 0)))) (mRet (mC (.str [103, 111, 110, 101]))) mNil)
    (mSeq (mIfS (mB (mBin (gDIn false) (mVar 1) (mFld "Judge" "answers" (mVar 0)))) (mRet (mC (.str [116, 119, 105, 99, 101, 32, 97, 110, 115, 119, 101, 114, 101, 100]))) mNil)
    (mSeq (mDPut (mFld "Judge" "accepted" (mVar 0)) (mVar 1) (mTup [(mVar 2), (mVar 3)]))
    (mRet (mC .non))))))
def f_Judge_accept : Fn := Fb (b_Judge_accept) 4
def b_Judge_begin : Sv :=
  (mSeq (mIfS (mB (mBin (gDIn true) (mVar 1) (mFld "Judge" "accepted" (mVar 0)))) (mRet (mC (.str [110, 111, 116, 32, 97, 99, 99, 101, 112, 116, 101, 100]))) mNil)
    (mSeq (mIfS (L3.tAnd (mB (mBin (gDIn false) (mVar 1) (mFld "Judge" "begun" (mVar 0)))) (mT (mBin gIx (mDGet (mFld "Judge" "accepted" (mVar 0)) (mVar 1)) (mC (.int 0))))) (mRet (mC (.str [116, 119, 105, 99, 101, 32, 98, 101, 103, 117, 110]))) mNil)
    (mSeq (mIfS (mB (mBin gIn (mDGet1 (mFld "Judge" "answers" (mVar 0)) (mVar 1)) (mTup [(mTup [(mC (.str [110, 111, 116, 32, 98, 101, 103, 117, 110]))]), (mTup [(mC (.str [98, 117, 115, 121]))])]))) (mRet (mC (.str [97, 102, 116, 101, 114, 32, 110, 111]))) mNil)
    (mSeq (mDPut (mFld "Judge" "begun" (mVar 0)) (mVar 1) (mC (.bl true)))
    (mRet (mC .non))))))
def f_Judge_begin : Fn := Fb (b_Judge_begin) 2
def b_Judge_fault_of : Sv :=
  (mSeq (mIfS (L3.tAnd (mB (mBin gEq (mVar 2) (mC (.str [98, 101, 103, 117, 110])))) (mB (mBin (gDIn true) (mVar 1) (mFld "Judge" "begun" (mVar 0))))) (mRet (mC (.str [98, 101, 103, 117, 110]))) mNil)
    (mSeq (mIfS (L3.tAnd (mB (mBin gEq (mVar 2) (mC (.str [110, 111, 116, 32, 98, 101, 103, 117, 110])))) (mB (mBin (gDIn false) (mVar 1) (mFld "Judge" "begun" (mVar 0))))) (mRet (mC (.str [110, 111, 116, 32, 98, 101, 103, 117, 110]))) mNil)
    (mSeq (mIfS (L3.tOr (mB (mBin gNe (mBin gEq (mVar 2) (mC (.str [98, 117, 115, 121]))) (mBin gEq (mVar 3) (mC (.str []))))) (L3.tAnd (mB (mBin gEq (mVar 2) (mC (.str [117, 110, 107, 110, 111, 119, 110])))) (mB (mBin gNe (mVar 3) (mC (.str [111, 112, 101, 110])))))) (mRet (mC (.str [102, 97, 116, 101]))) mNil)
    (mRet (mIf (mB (mBin gIn (mTup [(mVar 2), (mVar 3)]) (mTup [(mTup [(mC (.str [110, 111, 116, 32, 98, 101, 103, 117, 110])), (mC (.str [98, 101, 103, 117, 110]))]), (mTup [(mC (.str [98, 101, 103, 117, 110])), (mC (.str [110, 111, 116, 32, 98, 101, 103, 117, 110]))])]))) (mC (.str [102, 97, 116, 101])) (mC .non))))))
def f_Judge_fault_of : Fn := Fb (b_Judge_fault_of) 4
def b_Judge_answer : Sv :=
  (mSeq (mSet 4 (mBin gIx (mVar 2) (mC (.int 0))))
    (mSeq (mIfS (L3.tAnd (mB (mBin gNe (mVar 4) (mC (.str [98, 117, 115, 121])))) (mB (mBin (gDIn true) (mVar 1) (mFld "Judge" "accepted" (mVar 0))))) (mRet (mC (.str [110, 111, 116, 32, 97, 99, 99, 101, 112, 116, 101, 100]))) mNil)
    (mSeq (mIfS (mB (mBin (gDIn false) (mBin gIx (mVar 1) (mC (.int 0))) (mFld "Judge" "gone" (mVar 0)))) (mRet (mC (.str [103, 111, 110, 101]))) mNil)
    (mSeq (mIfS (mB (mBin (gDIn false) (mVar 1) (mFld "Judge" "answers" (mVar 0)))) (mRet (mC (.str [116, 119, 105, 99, 101, 32, 97, 110, 115, 119, 101, 114, 101, 100]))) mNil)
    (mSeq (mDPut (mFld "Judge" "answers" (mVar 0)) (mVar 1) (mVar 2))
    (mSeq (mIfS (mB (mBin (gDIn false) (mVar 1) (mFld "Judge" "accepted" (mVar 0)))) (mSeq (mAsg (gTp [5, 6]) (mDGet (mFld "Judge" "accepted" (mVar 0)) (mVar 1)))
    (mSeq (mIfS (L3.tOr (mB (mBin gEq (mVar 4) (mC (.str [98, 117, 115, 121])))) (L3.tOr (L3.tAnd (mT (mVar 5)) (mB (mBin gEq (mVar 4) (mC (.str [110, 111, 110, 101]))))) (L3.tAnd (L3.tNot (mT (mVar 5))) (mB (mBin gIn (mVar 4) (mC (.ktup v_ONCE_ONLY))))))) (mRet (mC (.str [107, 105, 110, 100]))) mNil)
    (mIfS (L3.tAnd (mB (mBin gEq (mVar 4) (mC (.str [100, 111, 110, 101])))) (L3.tOr (mB (mBin gNe (mBin gIx (mVar 2) (mC (.int 1))) (mUn gRev (mVar 6)))) (mB (mBin (gDIn true) (mVar 1) (mFld "Judge" "begun" (mVar 0)))))) (mRet (mC (.str [114, 101, 112, 108, 121]))) mNil))) mNil)
    (mRet (mMeth "Judge" "fault_of" f_Judge_fault_of (mVar 0) [(mVar 1), (mVar 4), (mVar 3)]))))))))
def f_Judge_answer : Fn := Fb (b_Judge_answer) 7
def b_Judge_take : Sv :=
  (mSeq (mIfS (mB (mBin gEq (mBin gIx (mVar 1) (mC (.int 0))) (mC (.str [103, 111, 110, 101])))) (mSeq (mDPut (mFld "Judge" "gone" (mVar 0)) (mBin gIx (mVar 1) (mC (.int 1))) (mC (.bl true)))
    (mRet (mC .non))) mNil)
    (mSeq (mSet 2 (mTup [(mBin gIx (mVar 1) (mC (.int 1))), (mBin gIx (mVar 1) (mC (.int 2)))]))
    (mSeq (mIfS (mB (mBin gEq (mBin gIx (mVar 1) (mC (.int 0))) (mC (.str [97, 99, 99, 101, 112, 116, 101, 100])))) (mRet (mMeth "Judge" "accept" f_Judge_accept (mVar 0) [(mVar 2), (mBin gIx (mVar 1) (mC (.int 3))), (mBin gIx (mVar 1) (mC (.int 4)))])) mNil)
    (mRet (mIf (mB (mBin gEq (mBin gIx (mVar 1) (mC (.int 0))) (mC (.str [98, 101, 103, 117, 110])))) (mMeth "Judge" "begin" f_Judge_begin (mVar 0) [(mVar 2)]) (mMeth "Judge" "answer" f_Judge_answer (mVar 0) [(mVar 2), (mBin gIx (mVar 1) (mC (.int 3))), (mBin gIx (mVar 1) (mC (.int 4)))]))))))
def f_Judge_take : Fn := Fb (b_Judge_take) 3
def b_judged : Sv :=
  (mSeq (mSet 1 (mMake "Judge" f_Judge___init__))
    (mSeq (mFor (mEnum (mVar 0)) (gTp [2, 3]) (mSeq (mSet 4 (mMeth "Judge" "take" f_Judge_take (mVar 1) [(mVar 3)]))
    (mIfS (mB (mBin gIsNot (mVar 4) (mC .non))) (mRet (mTup [(mC (.str [98, 114, 111, 107, 101, 110])), (mVar 2), (mVar 4)])) mNil)))
    (mRet (mTup [(mC (.str [107, 101, 112, 116])), (mUn gLenD (mFld "Judge" "answers" (mVar 1)))]))))
def f_judged : Fn := Fb (b_judged) 5
def b_is_certificate : Sv :=
  (mSeq (mSet 2 (mCall f_judged [(mVar 0)]))
    (mSeq (mIfS (L3.tOr (L3.tNot (mT (mUn (gIsi .tuple) (mVar 1)))) (mB (mBin gNe (mUn gLen (mVar 1)) (mUn gLen (mVar 2))))) (mRet (mC (.bl false))) mNil)
    (mSeq (mIfS (L3.tOr (mT (mUn gAny (mLc 3 (mIter (mVar 1)) tYesT (mCall f_is_bool [(mVar 3)])))) (L3.tNot (mT (mCall f_are_rising [(mLst [(mC (.int 0)), (mUn gLen (mVar 2))])])))) (mRet (mC (.bl false))) mNil)
    (mRet (mBin gEq (mVar 1) (mVar 2))))))
def f_is_certificate : Fn := Fb (b_is_certificate) 4
def b_is_past : Sv :=
  (mRet (mCall f_is_past_value [(mVar 0)]))
def f_is_past : Fn := Fb (b_is_past) 1
def b_need_past : Sv :=
  (mIfS (L3.tNot (mT (mCall f_is_past_value [(mVar 0)]))) (mRaise "BadPast" (mVar 0)) mNil)
def f_need_past : Fn := Fb (b_need_past) 1
def b_judge_past : Sv :=
  (mSeq (mDrop (mCall f_need_past [(mVar 0)]))
    (mRet (mCall f_judged [(mVar 0)])))
def f_judge_past : Fn := Fb (b_judge_past) 1
def b_past_holds : Sv :=
  (mSeq (mDrop (mCall f_need_past [(mVar 0)]))
    (mRet (mCall f_is_certificate [(mVar 0), (mVar 1)])))
def f_past_holds : Fn := Fb (b_past_holds) 2
def b__law_deck : Sv :=
  (mSeq (mSet 1 (mC (.int 13749460)))
    (mSeq (mFor (mIter (mCut (mVar 0) none (some (mC (.int 63))))) (gNm 2) (mSet 1 (mBin gMod (mUn gInt (mBin gAdd (mBin gAdd (mBin gMul (mVar 1) (mC (.int 48271))) (mBin gMod (mUn gInt (mVar 2)) (mC (.int 2147483629)))) (mC (.int 57)))) (mC (.int 2147483587)))))
    (mRet (mDisp [("left" : Str), ("mixed" : Str), ("draws" : Str)] [(mUn gRevOwn (mLc 2 (mIter (mCut (mVar 0) none (some (mC (.int 63))))) tYesT (mUn gInt (mVar 2)))), (mVar 1), (mC (.int 0))]))))
def f__law_deck : Fn := Fb (b__law_deck) 3
def b__law_draw : Sv :=
  (mSeq (mDPut (mVar 0) (mC (.str [100, 114, 97, 119, 115])) (mBin gAdd (mDGet (mVar 0) (mC (.str [100, 114, 97, 119, 115]))) (mC (.int 1))))
    (mSeq (mSet 2 (mBin gAdd (mDGet (mVar 0) (mC (.str [109, 105, 120, 101, 100]))) (mBin gMul (mC (.int 69713)) (mDGet (mVar 0) (mC (.str [100, 114, 97, 119, 115]))))))
    (mSeq (mIfS (mB (mBin gNeL (mDGet (mVar 0) (mC (.str [108, 101, 102, 116]))) (mLst []))) (mSeq (mSet 3 (mPop (mDGet (mVar 0) (mC (.str [108, 101, 102, 116])))))
    (mSeq (mIfS (mB (mBin gGe (mVar 3) (mBin gPow (mC (.int 10)) (mC (.int 18))))) (mSeq (mDrop (mAppend (mDGet (mVar 0) (mC (.str [108, 101, 102, 116]))) (mBin gDiv (mVar 3) (mBi2 gMax (mC (.int 2)) (mVar 1)))))
    (mRet (mBin gMod (mUn gInt (mVar 3)) (mVar 1)))) mNil)
    (mSet 2 (mBin gAdd (mVar 2) (mBin gMod (mUn gInt (mVar 3)) (mC (.int 2147483629))))))) mNil)
    (mSeq (mSet 2 (mBin gMod (mUn gInt (mBin gAdd (mBin gMul (mVar 2) (mC (.int 40014))) (mC (.int 91)))) (mC (.int 2147483563))))
    (mSeq (mSet 2 (mBin gMod (mUn gInt (mBin gAdd (mBin gAdd (mBin gMul (mVar 2) (mVar 2)) (mBin gMul (mC (.int 52774)) (mDGet (mVar 0) (mC (.str [100, 114, 97, 119, 115]))))) (mC (.int 17)))) (mC (.int 2147483399))))
    (mSeq (mSet 2 (mBin gMod (mUn gInt (mBin gMul (mVar 2) (mC (.int 40692)))) (mC (.int 2147483647))))
    (mRet (mBin gMod (mUn gInt (mBin gDiv (mVar 2) (mC (.int 64)))) (mVar 1)))))))))
def f__law_draw : Fn := Fb (b__law_draw) 4
def b__law_pick : Sv :=
  (mRet (mBin gIx (mVar 1) (mCall f__law_draw [(mVar 0), (mUn gLen (mVar 1))])))
def f__law_pick : Fn := Fb (b__law_pick) 2
def b__law_same : Sv :=
  (mRet (mBin gEq (mUn gRepr (mVar 0)) (mUn gRepr (mVar 1))))
def f__law_same : Fn := Fb (b__law_same) 2
def b__law_is_int : Sv :=
  (mRet (mAnd (mUn (gIsi .int) (mVar 0)) (mAnd (mUn nTru (mUn (gIsi .bool) (mVar 0))) (mBin gGe (mVar 0) (mVar 1)))))
def f__law_is_int : Fn := Fb (b__law_is_int) 2
def b__law_is_word : Sv :=
  (mSeq (mIfS (L3.tOr (L3.tNot (mT (mUn (gIsi .str) (mVar 0)))) (L3.tNot (mB (mChain gLe gLe (mC (.int 1)) (mUn gLen (mVar 0)) (mC (.int 10)))))) (mRet (mC (.bl false))) mNil)
    (mRet (mBin gEq (mLc 1 (mIter (mVar 0)) (mB (mBin gNotIn (mVar 1) (mC (.str [97, 98, 99, 100, 101, 102, 103, 104, 105, 106, 107, 108, 109, 110, 111, 112, 113, 114, 115, 116, 117, 118, 119, 120, 121, 122])))) (mC (.int 1))) (mLst []))))
def f__law_is_word : Fn := Fb (b__law_is_word) 2
def b__law_is_body : Sv :=
  (mSeq (mIfS (L3.tOr (L3.tNot (mT (mUn (gIsi .str) (mVar 0)))) (mB (mBin gGt (mUn gLen (mVar 0)) (mC (.int 150))))) (mRet (mC (.bl false))) mNil)
    (mRet (mBin gEq (mLc 1 (mIter (mVar 0)) (L3.tNot (mB (mChain gLe gLe (mC (.int 32)) (mUn gOrd (mVar 1)) (mC (.int 126))))) (mC (.int 1))) (mLst []))))
def f__law_is_body : Fn := Fb (b__law_is_body) 2
def b__law_odd : Sv :=
  (mSeq (mSet 2 (mLst [(mC .non), (mC (.bl true)), (mC (.bl false)), (mC (.int 0)), (mC (.int 1)), (mC (.int 2)), (mUn gNeg (mC (.int 1))), (mBin gPow (mC (.int 10)) (mC (.int 9))), (mBin gAdd (mBin gPow (mC (.int 10)) (mC (.int 9))) (mC (.int 1))), (mC (.str [])), (mC (.str [97])), (mC (.str [116, 105, 99, 107])), (mC (.str [99, 108, 101, 111])), (mTup []), (mTup [(mTup [])]), (mLst []), (mC (.dct [] [])), (mTup [(mC (.int 0))]), (mC (.str [65, 32, 98])), (mLst [(mC (.int 0)), (mC (.int 1))]), (mC (.str [111, 112, 101, 110])), (mTup [(mC (.str [116, 105, 99, 107]))]), (mLst [(mC (.str [116, 105, 99, 107]))]), (mC (.str [98, 101, 103, 105, 110])), (mC (.str [10])), (mDispD [("a" : Str)] [(mC (.int 1))]), (mC (.str [97, 98, 99, 100, 101, 102, 103, 104, 105, 106, 107])), (mBin gPow (mC (.int 10)) (mC (.int 39)))]))
    (mSeq (mIfS (mT (mUn (gIsi .tuple) (mVar 1))) (mSet 2 (mBin gAdd (mVar 2) (mBin gMul (mLst [(mUn gList (mVar 1)), (mBin gAdd (mVar 1) (mTup [(mC (.int 0))])), (mCut (mVar 1) (some (mC (.int 1))) none), (mCut (mVar 1) none (some (mUn gNeg (mC (.int 1))))), (mUn gRev (mVar 1)), (mBin gAdd (mVar 1) (mCut (mVar 1) none (some (mC (.int 1))))), (mTup [(mVar 1)])]) (mC (.int 3))))) (mIfS (mT (mUn (gIsi .str) (mVar 1))) (mSet 2 (mBin gAdd (mVar 2) (mBin gMul (mLst [(mBin gAdd (mVar 1) (mC (.str [97]))), (mCut (mVar 1) none (some (mUn gNeg (mC (.int 1))))), (mUn gUpper (mVar 1)), (mBin gAdd (mVar 1) (mC (.str [32]))), (mLst [(mVar 1)]), (mTup [(mVar 1)]), (mUn gRev (mVar 1)), (mBin gAdd (mVar 1) (mC (.str [10])))]) (mC (.int 3))))) (mIfS (L3.tAnd (mT (mUn (gIsi .int) (mVar 1))) (mB (mBin gLt (mUn gAbs (mVar 1)) (mBin gPow (mC (.int 10)) (mC (.int 30)))))) (mSet 2 (mBin gAdd (mVar 2) (mBin gMul (mLst [(mBin gAdd (mVar 1) (mC (.int 1))), (mBin gSub (mVar 1) (mC (.int 1))), (mUn gNeg (mVar 1)), (mBin gEq (mVar 1) (mC (.int 1))), (mLst [(mVar 1)]), (mUn gStr (mVar 1)), (mBin gEq (mVar 1) (mC (.int 0))), (mUn nTru (mVar 1))]) (mC (.int 3))))) mNil)))
    (mRet (mCall f__law_pick [(mVar 0), (mVar 2)]))))
def f__law_odd : Fn := Fb (b__law_odd) 3
def b__law_bent (rec : Fn) : Sv :=
  (mSeq (mIfS (L3.tOr (L3.tNot (mT (mUn (gIsi .tuple) (mVar 1)))) (L3.tOr (mB (mBin gEq (mVar 1) (mTup []))) (mB (mBin gEq (mCall f__law_draw [(mVar 0), (mC (.int 5))]) (mC (.int 4)))))) (mRet (mCall f__law_odd [(mVar 0), (mVar 1)])) mNil)
    (mSeq (mSet 2 (mCall f__law_draw [(mVar 0), (mUn gLen (mVar 1))]))
    (mRet (mBin gAdd (mBin gAdd (mCut (mVar 1) none (some (mVar 2))) (mTup [(mCall rec [(mVar 0), (mBin gIx (mVar 1) (mVar 2))])])) (mCut (mVar 1) (some (mBin gAdd (mVar 2) (mC (.int 1)))) none)))))
def f__law_bent : Nat → Fn
  | 0 => fun _ _ => .stuck
  | n + 1 => Fb (b__law_bent (f__law_bent n)) 3
def b__law_is_entry : Sv :=
  (mSeq (mIfS (L3.tOr (L3.tNot (mT (mUn (gIsi .tuple) (mVar 0)))) (L3.tOr (mB (mBin gLt (mUn gLen (mVar 0)) (mC (.int 2)))) (L3.tOr (L3.tNot (mT (mUn (gIsi .str) (mBin gIx (mVar 0) (mC (.int 0)))))) (L3.tNot (mT (mCall f__law_is_word [(mBin gIx (mVar 0) (mC (.int 1)))])))))) (mRet (mC (.bl false))) mNil)
    (mSeq (mIfS (mB (mBin gEq (mBin gIx (mVar 0) (mC (.int 0))) (mC (.str [103, 111, 110, 101])))) (mRet (mBin gEq (mUn gLen (mVar 0)) (mC (.int 2)))) mNil)
    (mSeq (mIfS (L3.tOr (mB (mBin gNe (mUn gLen (mVar 0)) (mC (.int 5)))) (L3.tOr (L3.tNot (mT (mCall f__law_is_int [(mBin gIx (mVar 0) (mC (.int 2))), (mC (.int 0))]))) (mB (mBin gGt (mBin gIx (mVar 0) (mC (.int 2))) (mBin gPow (mC (.int 10)) (mC (.int 9))))))) (mRet (mC (.bl false))) mNil)
    (mSeq (mIfS (mB (mBin gEq (mBin gIx (mVar 0) (mC (.int 0))) (mC (.str [97, 99, 99, 101, 112, 116, 101, 100])))) (mRet (mAnd (mUn (gIsi .bool) (mBin gIx (mVar 0) (mC (.int 3)))) (mCall f__law_is_body [(mBin gIx (mVar 0) (mC (.int 4)))]))) mNil)
    (mSeq (mIfS (mB (mBin gEq (mBin gIx (mVar 0) (mC (.int 0))) (mC (.str [98, 101, 103, 117, 110])))) (mRet (mAnd (mCall f__law_is_word [(mBin gIx (mVar 0) (mC (.int 3)))]) (mAnd (mCall f__law_is_int [(mBin gIx (mVar 0) (mC (.int 4))), (mC (.int 1))]) (mBin gLe (mBin gIx (mVar 0) (mC (.int 4))) (mBin gPow (mC (.int 10)) (mC (.int 9))))))) mNil)
    (mSeq (mPar [1, 2] [(mBin gIx (mVar 0) (mC (.int 3))), (mBin gIx (mVar 0) (mC (.int 4)))])
    (mSeq (mIfS (L3.tOr (mB (mBin gNe (mBin gIx (mVar 0) (mC (.int 0))) (mC (.str [97, 110, 115, 119, 101, 114, 101, 100])))) (L3.tOr (L3.tNot (mT (mUn (gIsi .tuple) (mVar 1)))) (L3.tNot (mT (mUn (gIsi .str) (mVar 2)))))) (mRet (mC (.bl false))) mNil)
    (mSeq (mIfS (L3.tOr (mB (mBin gNotIn (mVar 2) (mTup [(mC (.str [98, 101, 103, 117, 110])), (mC (.str [110, 111, 116, 32, 98, 101, 103, 117, 110])), (mC (.str [111, 112, 101, 110])), (mC (.str []))]))) (mB (mBin gNe (mLc 3 (mIter (mVar 1)) (L3.tNot (mT (mUn (gIsi .str) (mVar 3)))) (mC (.int 1))) (mLst [])))) (mRet (mC (.bl false))) mNil)
    (mSeq (mIfS (mB (mBin gIn (mVar 1) (mTup [(mTup [(mC (.str [98, 117, 115, 121]))]), (mTup [(mC (.str [98, 101, 103, 117, 110]))]), (mTup [(mC (.str [110, 111, 116, 32, 98, 101, 103, 117, 110]))]), (mTup [(mC (.str [117, 110, 107, 110, 111, 119, 110]))]), (mTup [(mC (.str [110, 111, 110, 101]))])]))) (mRet (mC (.bl true))) mNil)
    (mRet (mAnd (mBin gEq (mUn gLen (mVar 1)) (mC (.int 2))) (mAnd (mBin gEq (mBin gIx (mVar 1) (mC (.int 0))) (mC (.str [100, 111, 110, 101]))) (mCall f__law_is_body [(mBin gIx (mVar 1) (mC (.int 1)))])))))))))))))
def f__law_is_entry : Fn := Fb (b__law_is_entry) 4
def b__law_is_past : Sv :=
  (mRet (mAnd (mUn (gIsi .tuple) (mVar 0)) (mBin gEq (mLc 1 (mIter (mVar 0)) (L3.tNot (mT (mCall f__law_is_entry [(mVar 1)]))) (mC (.int 1))) (mLst []))))
def f__law_is_past : Fn := Fb (b__law_is_past) 2
def b__law_answer_word : Sv :=
  (mSeq (mPar [4, 5] [(mBin gIx (mVar 0) (mC (.int 3))), (mBin gIx (mVar 0) (mC (.int 4)))])
    (mSeq (mIfS (L3.tOr (L3.tAnd (mB (mBin gEq (mVar 4) (mTup [(mC (.str [110, 111, 110, 101]))]))) (mT (mVar 1))) (L3.tAnd (mB (mBin gIn (mVar 4) (mTup [(mTup [(mC (.str [98, 101, 103, 117, 110]))]), (mTup [(mC (.str [110, 111, 116, 32, 98, 101, 103, 117, 110]))]), (mTup [(mC (.str [117, 110, 107, 110, 111, 119, 110]))])]))) (mB (mBin gIsN (mVar 1) (mC (.bl false)))))) (mRet (mC (.str [107, 105, 110, 100]))) mNil)
    (mSeq (mIfS (L3.tAnd (mB (mBin gEq (mVar 4) (mTup [(mC (.str [98, 117, 115, 121]))]))) (mB (mBin gIsNot (mVar 1) (mC .non)))) (mRet (mC (.str [107, 105, 110, 100]))) mNil)
    (mSeq (mIfS (L3.tAnd (mB (mBin gEq (mBin gIx (mVar 4) (mC (.int 0))) (mC (.str [100, 111, 110, 101])))) (L3.tOr (mB (mBin gNe (mBin gIx (mVar 4) (mC (.int 1))) (mUn gRev (mVar 2)))) (L3.tNot (mT (mVar 3))))) (mRet (mC (.str [114, 101, 112, 108, 121]))) mNil)
    (mSeq (mIfS (L3.tAnd (mB (mBin gEq (mVar 4) (mTup [(mC (.str [98, 101, 103, 117, 110]))]))) (L3.tNot (mT (mVar 3)))) (mRet (mC (.str [98, 101, 103, 117, 110]))) mNil)
    (mSeq (mIfS (L3.tAnd (mB (mBin gEq (mVar 4) (mTup [(mC (.str [110, 111, 116, 32, 98, 101, 103, 117, 110]))]))) (mT (mVar 3))) (mRet (mC (.str [110, 111, 116, 32, 98, 101, 103, 117, 110]))) mNil)
    (mSeq (mSet 6 (mOr (mAnd (mBin gEq (mVar 4) (mTup [(mC (.str [117, 110, 107, 110, 111, 119, 110]))])) (mBin gNe (mVar 5) (mC (.str [111, 112, 101, 110])))) (mAnd (mBin gEq (mVar 4) (mTup [(mC (.str [110, 111, 116, 32, 98, 101, 103, 117, 110]))])) (mBin gEq (mVar 5) (mC (.str [98, 101, 103, 117, 110]))))))
    (mSeq (mSet 6 (mOr (mVar 6) (mOr (mAnd (mBin gEq (mVar 4) (mTup [(mC (.str [98, 101, 103, 117, 110]))])) (mBin gEq (mVar 5) (mC (.str [110, 111, 116, 32, 98, 101, 103, 117, 110])))) (mBin gNe (mBin gEq (mVar 5) (mC (.str []))) (mBin gEq (mVar 4) (mTup [(mC (.str [98, 117, 115, 121]))]))))))
    (mRet (mIf (mT (mVar 6)) (mC (.str [102, 97, 116, 101])) (mC (.str []))))))))))))
def f__law_answer_word : Fn := Fb (b__law_answer_word) 7
def b__law_word_of : Sv :=
  (mSeq (mAsg (gTp [2, 3]) (mTup [(mBin gIx (mVar 0) (mVar 1)), (mCut (mVar 0) none (some (mVar 1)))]))
    (mSeq (mSet 4 (mLc 5 (mIter (mVar 3)) (mB (mBin gEq (mCut (mVar 5) (some (mC (.int 1))) (some (mC (.int 3)))) (mCut (mVar 2) (some (mC (.int 1))) (some (mC (.int 3)))))) (mVar 5)))
    (mSeq (mSet 6 (mLc 5 (mIter (mVar 4)) (mB (mBin gEq (mBin gIx (mVar 5) (mC (.int 0))) (mC (.str [97, 99, 99, 101, 112, 116, 101, 100])))) (mVar 5)))
    (mSeq (mPar [7, 8] [(mLc 5 (mIter (mVar 4)) (mB (mBin gEq (mBin gIx (mVar 5) (mC (.int 0))) (mC (.str [98, 101, 103, 117, 110])))) (mVar 5)), (mLc 5 (mIter (mVar 4)) (mB (mBin gEq (mBin gIx (mVar 5) (mC (.int 0))) (mC (.str [97, 110, 115, 119, 101, 114, 101, 100])))) (mBin gIx (mVar 5) (mC (.int 3))))])
    (mSeq (mIfS (mB (mBin gEq (mBin gIx (mVar 2) (mC (.int 0))) (mC (.str [103, 111, 110, 101])))) (mRet (mC (.str []))) mNil)
    (mSeq (mIfS (L3.tAnd (mB (mBin gEq (mBin gIx (mVar 2) (mC (.int 0))) (mC (.str [97, 99, 99, 101, 112, 116, 101, 100])))) (mB (mBin gNe (mVar 6) (mLst [])))) (mRet (mC (.str [116, 119, 105, 99, 101, 32, 97, 99, 99, 101, 112, 116, 101, 100]))) mNil)
    (mSeq (mSet 9 (mAnd (mBin gEq (mBin gIx (mVar 2) (mC (.int 0))) (mC (.str [97, 110, 115, 119, 101, 114, 101, 100]))) (mBin gEq (mBin gIx (mVar 2) (mC (.int 3))) (mTup [(mC (.str [98, 117, 115, 121]))]))))
    (mSeq (mIfS (L3.tAnd (mB (mBin gNe (mBin gIx (mVar 2) (mC (.int 0))) (mC (.str [97, 99, 99, 101, 112, 116, 101, 100])))) (L3.tAnd (L3.tNot (mT (mVar 9))) (mB (mBin gEq (mVar 6) (mLst []))))) (mRet (mC (.str [110, 111, 116, 32, 97, 99, 99, 101, 112, 116, 101, 100]))) mNil)
    (mSeq (mIfS (L3.tAnd (mB (mBin gNe (mBin gIx (mVar 2) (mC (.int 0))) (mC (.str [98, 101, 103, 117, 110])))) (mB (mBin gIn (mTup [(mC (.str [103, 111, 110, 101])), (mBin gIx (mVar 2) (mC (.int 1)))]) (mVar 3)))) (mRet (mC (.str [103, 111, 110, 101]))) mNil)
    (mSeq (mIfS (L3.tAnd (mB (mBin gEq (mBin gIx (mVar 2) (mC (.int 0))) (mC (.str [98, 101, 103, 117, 110])))) (L3.tAnd (mB (mBin gNe (mVar 7) (mLst []))) (mT (mBin gIx (mBin gIx (mVar 6) (mC (.int 0))) (mC (.int 3)))))) (mRet (mC (.str [116, 119, 105, 99, 101, 32, 98, 101, 103, 117, 110]))) mNil)
    (mSeq (mIfS (L3.tAnd (mB (mBin gEq (mBin gIx (mVar 2) (mC (.int 0))) (mC (.str [98, 101, 103, 117, 110])))) (mB (mBin gNe (mLc 10 (mIter (mVar 8)) (mB (mBin gIn (mVar 10) (mTup [(mTup [(mC (.str [110, 111, 116, 32, 98, 101, 103, 117, 110]))]), (mTup [(mC (.str [98, 117, 115, 121]))])]))) (mC (.int 1))) (mLst [])))) (mRet (mC (.str [97, 102, 116, 101, 114, 32, 110, 111]))) mNil)
    (mSeq (mIfS (L3.tOr (L3.tAnd (mB (mBin gEq (mBin gIx (mVar 2) (mC (.int 0))) (mC (.str [97, 110, 115, 119, 101, 114, 101, 100])))) (mB (mBin gNe (mVar 8) (mLst [])))) (L3.tAnd (mB (mBin gEq (mBin gIx (mVar 2) (mC (.int 0))) (mC (.str [97, 99, 99, 101, 112, 116, 101, 100])))) (mB (mBin gIn (mTup [(mC (.str [98, 117, 115, 121]))]) (mVar 8))))) (mRet (mC (.str [116, 119, 105, 99, 101, 32, 97, 110, 115, 119, 101, 114, 101, 100]))) mNil)
    (mSeq (mIfS (mB (mBin gNe (mBin gIx (mVar 2) (mC (.int 0))) (mC (.str [97, 110, 115, 119, 101, 114, 101, 100])))) (mRet (mC (.str []))) mNil)
    (mSeq (mAsg (gTp [11, 12]) (mIf (mB (mBin gNe (mVar 6) (mLst []))) (mCut (mBin gIx (mVar 6) (mC (.int 0))) (some (mC (.int 3))) none) (mTup [(mC .non), (mC (.str []))])))
    (mRet (mCall f__law_answer_word [(mVar 2), (mVar 11), (mVar 12), (mBin gNe (mVar 7) (mLst []))]))))))))))))))))
def f__law_word_of : Fn := Fb (b__law_word_of) 13
def b__law_judged : Sv :=
  (mSeq (mFor (mEnum (mVar 0)) (gTp [1, 2]) (mSeq (mSet 3 (mCall f__law_word_of [(mVar 0), (mVar 1)]))
    (mIfS (mB (mBin gNe (mVar 3) (mC (.str [])))) (mRet (mTup [(mC (.str [98, 114, 111, 107, 101, 110])), (mVar 1), (mVar 3)])) mNil)))
    (mRet (mTup [(mC (.str [107, 101, 112, 116])), (mUn gLen (mLc 2 (mIter (mVar 0)) (mB (mBin gEq (mBin gIx (mVar 2) (mC (.int 0))) (mC (.str [97, 110, 115, 119, 101, 114, 101, 100])))) (mC (.int 1))))])))
def f__law_judged : Fn := Fb (b__law_judged) 4
def b__law_drawn_request : Sv :=
  (mSeq (mPar [1, 2] [(mCall f__law_pick [(mVar 0), (mTup [(mC (.str [99, 108, 101, 111])), (mC (.str [100, 97, 110]))])]), (mCall f__law_pick [(mVar 0), (mTup [(mC (.int 0)), (mC (.int 1)), (mBin gPow (mC (.int 10)) (mC (.int 9)))])])])
    (mRet (mTup [(mVar 1), (mVar 2), (mBin gNe (mVar 2) (mC (.int 1))), (mIf (mB (mBin gEq (mVar 1) (mC (.str [100, 97, 110])))) (mBin gIx (mTup [(mC (.str [97, 98])), (mC (.str [])), (mC (.str [120, 32, 121]))]) (mCall f__law_draw [(mVar 0), (mC (.int 3))])) (mC (.str [97, 98, 99])))])))
def f__law_drawn_request : Fn := Fb (b__law_drawn_request) 3
def b__law_answered_entry : Sv :=
  (mSeq (mAsg (gTp [3, 4, 5, 6]) (mVar 2))
    (mSeq (mSet 7 (mBin gNe (mLc 8 (mIter (mVar 1)) (L3.tAnd (mB (mBin gEq (mBin gIx (mVar 8) (mC (.int 0))) (mC (.str [98, 101, 103, 117, 110])))) (mB (mBin gEq (mCut (mVar 8) (some (mC (.int 1))) (some (mC (.int 3)))) (mTup [(mVar 3), (mVar 4)])))) (mC (.int 1))) (mLst [])))
    (mSeq (mSet 9 (mLst [(mTup [(mTup [(mC (.str [100, 111, 110, 101])), (mUn gRev (mVar 6))]), (mC (.str [111, 112, 101, 110]))]), (mTup [(mTup [(mC (.str [100, 111, 110, 101])), (mUn gRev (mVar 6))]), (mC (.str [98, 101, 103, 117, 110]))])]))
    (mSeq (mIfS (L3.tNot (mT (mVar 7))) (mSet 9 (mLst [(mTup [(mTup [(mC (.str [110, 111, 116, 32, 98, 101, 103, 117, 110]))]), (mC (.str [110, 111, 116, 32, 98, 101, 103, 117, 110]))])])) mNil)
    (mSeq (mIfS (mT (mVar 5)) (mSet 9 (mBin gAdd (mBin gAdd (mVar 9) (mLst [(mTup [(mTup [(mC (.str [117, 110, 107, 110, 111, 119, 110]))]), (mC (.str [111, 112, 101, 110]))])])) (mIf (mT (mVar 7)) (mLst [(mTup [(mTup [(mC (.str [98, 101, 103, 117, 110]))]), (mC (.str [111, 112, 101, 110]))])]) (mLst [(mTup [(mTup [(mC (.str [110, 111, 116, 32, 98, 101, 103, 117, 110]))]), (mC (.str [111, 112, 101, 110]))])])))) (mSet 9 (mBin gAdd (mVar 9) (mLst [(mTup [(mTup [(mC (.str [110, 111, 110, 101]))]), (mC (.str [111, 112, 101, 110]))]), (mTup [(mTup [(mC (.str [110, 111, 110, 101]))]), (mC (.str [110, 111, 116, 32, 98, 101, 103, 117, 110]))])]))))
    (mSeq (mIfS (mB (mBin gEq (mCall f__law_draw [(mVar 0), (mC (.int 5))]) (mC (.int 4)))) (mSeq (mSet 10 (mTup [(mTup [(mC (.str [98, 117, 115, 121]))]), (mTup [(mC (.str [98, 101, 103, 117, 110]))]), (mTup [(mC (.str [110, 111, 116, 32, 98, 101, 103, 117, 110]))]), (mTup [(mC (.str [117, 110, 107, 110, 111, 119, 110]))]), (mTup [(mC (.str [110, 111, 110, 101]))]), (mTup [(mC (.str [100, 111, 110, 101])), (mVar 6)]), (mTup [(mC (.str [100, 111, 110, 101])), (mC (.str [99, 98, 97]))])]))
    (mSet 9 (mLst [(mTup [(mCall f__law_pick [(mVar 0), (mVar 10)]), (mCall f__law_pick [(mVar 0), (mTup [(mC (.str [111, 112, 101, 110])), (mC (.str [98, 101, 103, 117, 110])), (mC (.str [110, 111, 116, 32, 98, 101, 103, 117, 110])), (mC (.str []))])])])]))) mNil)
    (mSeq (mAsg (gTp [11, 12]) (mCall f__law_pick [(mVar 0), (mVar 9)]))
    (mRet (mTup [(mC (.str [97, 110, 115, 119, 101, 114, 101, 100])), (mVar 3), (mVar 4), (mVar 11), (mVar 12)])))))))))
def f__law_answered_entry : Fn := Fb (b__law_answered_entry) 13
def b__law_drawn_past : Sv :=
  (mSeq (mSet 1 (mTup []))
    (mSeq (mFor (mRange (mCall f__law_pick [(mVar 0), (mTup [(mC (.int 6)), (mC (.int 9)), (mC (.int 3)), (mC (.int 12)), (mC (.int 1)), (mC (.int 16)), (mC (.int 0)), (mC (.int 8))])])) (gNm 2) (mSeq (mAsg (gTp [3, 4, 5, 6]) (mCall f__law_drawn_request [(mVar 0)]))
    (mSeq (mPar [7, 8] [(mTup [(mC (.str [97, 99, 99, 101, 112, 116, 101, 100])), (mVar 3), (mVar 4), (mVar 5), (mVar 6)]), (mCall f__law_draw [(mVar 0), (mC (.int 10))])])
    (mSeq (mSet 9 (mLc 10 (mIter (mVar 1)) (L3.tAnd (mB (mBin gEq (mBin gIx (mVar 10) (mC (.int 0))) (mC (.str [97, 99, 99, 101, 112, 116, 101, 100])))) (mB (mBin gEq (mCut (mVar 10) (some (mC (.int 1))) (some (mC (.int 3)))) (mTup [(mVar 3), (mVar 4)])))) (mVar 10)))
    (mSeq (mIfS (mB (mBin gNe (mVar 9) (mLst []))) (mSeq (mAsg (gTp [5, 6]) (mCut (mBin gIx (mVar 9) (mC (.int 0))) (some (mC (.int 3))) none))
    (mSeq (mSet 7 (mTup [(mC (.str [98, 101, 103, 117, 110])), (mVar 3), (mVar 4), (mCall f__law_pick [(mVar 0), (mTup [(mC (.str [97, 110, 110])), (mC (.str [98, 111, 98]))])]), (mBin gAdd (mC (.int 1)) (mCall f__law_draw [(mVar 0), (mC (.int 3))]))]))
    (mIfS (mB (mBin gGt (mVar 8) (mC (.int 4)))) (mSet 7 (mCall f__law_answered_entry [(mVar 0), (mVar 1), (mTup [(mVar 3), (mVar 4), (mVar 5), (mVar 6)])])) mNil))) mNil)
    (mSeq (mIfS (mB (mBin gEq (mVar 8) (mC (.int 1)))) (mSet 7 (mTup [(mC (.str [97, 110, 115, 119, 101, 114, 101, 100])), (mVar 3), (mVar 4), (mTup [(mC (.str [98, 117, 115, 121]))]), (mC (.str []))])) mNil)
    (mSeq (mIfS (L3.tAnd (mB (mBin gEq (mVar 8) (mC (.int 0)))) (mB (mBin gEq (mCall f__law_draw [(mVar 0), (mC (.int 3))]) (mC (.int 0))))) (mSet 7 (mTup [(mC (.str [103, 111, 110, 101])), (mVar 3)])) mNil)
    (mIfS (L3.tOr (mB (mBin gEq (mCall f__law_word_of [(mBin gAdd (mVar 1) (mTup [(mVar 7)])), (mUn gLen (mVar 1))]) (mC (.str [])))) (mB (mBin gEq (mCall f__law_draw [(mVar 0), (mC (.int 8))]) (mC (.int 7))))) (mSet 1 (mBin gAdd (mVar 1) (mTup [(mVar 7)]))) mNil))))))))
    (mRet (mVar 1))))
def f__law_drawn_past : Fn := Fb (b__law_drawn_past) 11
def b__law_near : Sv :=
  (mSeq (mSet 2 (mTup [(mC (.str [116, 119, 105, 99, 101, 32, 97, 99, 99, 101, 112, 116, 101, 100])), (mC (.str [110, 111, 116, 32, 97, 99, 99, 101, 112, 116, 101, 100])), (mC (.str [103, 111, 110, 101])), (mC (.str [116, 119, 105, 99, 101, 32, 98, 101, 103, 117, 110])), (mC (.str [97, 102, 116, 101, 114, 32, 110, 111])), (mC (.str [116, 119, 105, 99, 101, 32, 97, 110, 115, 119, 101, 114, 101, 100])), (mC (.str [107, 105, 110, 100])), (mC (.str [114, 101, 112, 108, 121])), (mC (.str [98, 101, 103, 117, 110])), (mC (.str [110, 111, 116, 32, 98, 101, 103, 117, 110])), (mC (.str [102, 97, 116, 101]))]))
    (mSeq (mSet 3 (mLst [(mVar 1), (mUn gList (mVar 1)), (mBin gAdd (mVar 1) (mTup [(mC (.int 0))])), (mCut (mVar 1) none (some (mUn gNeg (mC (.int 1))))), (mBin gAdd (mBin gAdd (mCut (mVar 1) none (some (mC (.int 1)))) (mTup [(mBin gAdd (mBin gIx (mVar 1) (mC (.int 1))) (mC (.int 1)))])) (mCut (mVar 1) (some (mC (.int 2))) none)), (mBin gAdd (mBin gAdd (mCut (mVar 1) none (some (mC (.int 1)))) (mTup [(mBin gSub (mBin gIx (mVar 1) (mC (.int 1))) (mC (.int 1)))])) (mCut (mVar 1) (some (mC (.int 2))) none)), (mTup [(mC (.str [107, 101, 112, 116])), (mBin gIx (mVar 1) (mC (.int 1)))]), (mTup [(mC (.str [107, 101, 112, 116])), (mC (.int 0))]), (mTup [(mC (.str [98, 114, 111, 107, 101, 110])), (mBin gIx (mVar 1) (mC (.int 1))), (mCall f__law_pick [(mVar 0), (mVar 2)])]), (mTup [(mC (.str [98, 114, 111, 107, 101, 110])), (mC (.int 0)), (mBin gIx (mVar 1) (mUn gNeg (mC (.int 1))))]), (mBin gAdd (mTup [(mUn gUpper (mBin gIx (mVar 1) (mC (.int 0))))]) (mCut (mVar 1) (some (mC (.int 1))) none)), (mBin gAdd (mBin gAdd (mCut (mVar 1) none (some (mC (.int 1)))) (mTup [(mBin gEq (mBin gIx (mVar 1) (mC (.int 1))) (mC (.int 1)))])) (mCut (mVar 1) (some (mC (.int 2))) none)), (mBin gAdd (mBin gAdd (mCut (mVar 1) none (some (mC (.int 1)))) (mTup [(mUn gStr (mBin gIx (mVar 1) (mC (.int 1))))])) (mCut (mVar 1) (some (mC (.int 2))) none))]))
    (mRet (mCall f__law_pick [(mVar 0), (mBin gAdd (mVar 3) (mLst [(mVar 1), (mCall (f__law_bent 12) [(mVar 0), (mVar 1)]), (mCall f__law_odd [(mVar 0), (mC .non)])]))]))))
def f__law_near : Fn := Fb (b__law_near) 4
def b__law_is_beyond : Sv :=
  (mSeq (mIfS (L3.tNot (mT (mUn (gIsi .tuple) (mVar 0)))) (mRet (mC (.bl false))) mNil)
    (mSeq (mSet 1 (mLc 2 (mIter (mVar 0)) (L3.tAnd (mT (mUn (gIsi .tuple) (mVar 2))) (L3.tAnd (mB (mBin gEq (mCut (mVar 2) none (some (mC (.int 1)))) (mTup [(mC (.str [98, 101, 103, 117, 110]))]))) (mB (mBin gEq (mUn gLen (mVar 2)) (mC (.int 5)))))) (mBin gIx (mVar 2) (mC (.int 4)))))
    (mRet (mBin gNe (mLc 3 (mIter (mVar 1)) (L3.tAnd (mT (mUn (gIsi .int) (mVar 3))) (mB (mBin gGt (mVar 3) (mBin gPow (mC (.int 10)) (mC (.int 6)))))) (mC (.int 1))) (mLst [])))))
def f__law_is_beyond : Fn := Fb (b__law_is_beyond) 4
def b__law_is_right (tabP : Addr) : Sv :=
  (mSeq (mAsg (gTp [2, 3, 4]) (mTup [(mUn gRepr (mVar 1)), (mCall f__law_is_past [(mVar 1)]), (mCall f__law_odd [(mVar 0), (mC .non)])]))
    (mSeq (mSet 5 (mTup [(mC (.str [114, 101, 102, 117, 115, 101, 100])), (mVar 2)]))
    (mSeq (mIfS (L3.tOr (L3.tNot (mT (mCall f__law_same [(mCall f_is_past [(mVar 1)]), (mVar 3)]))) (L3.tNot (mT (mCall f__law_same [(mCallK f_is_past (fun l => l) [(mVar 1)]), (mVar 3)])))) (mRet (mC (.bl false))) mNil)
    (mSeq (mSet 6 (mIf (mT (mVar 3)) (mTup [(mC (.str [116, 111, 108, 100])), (mUn gRepr (mCall f__law_judged [(mVar 1)]))]) (mVar 5)))
    (mSeq (mIfS (mB (mBin gNe (mTold tabP tabQ [116, 111, 108, 100] [114, 101, 102, 117, 115, 101, 100] "BadPast" (mCall f_judge_past [(mVar 1)])) (mVar 6))) (mRet (mC (.bl false))) mNil)
    (mSeq (mIfS (mB (mBin gNe (mTold tabP tabQ [116, 111, 108, 100] [114, 101, 102, 117, 115, 101, 100] "BadPast" (mCallK f_judge_past (fun l => l) [(mVar 1)])) (mVar 6))) (mRet (mC (.bl false))) mNil)
    (mSeq (mIfS (mT (mVar 3)) (mSet 4 (mCall f__law_near [(mVar 0), (mCall f__law_judged [(mVar 1)])])) mNil)
    (mSeq (mPar [6, 7] [(mIf (mT (mVar 3)) (mTup [(mC (.str [116, 111, 108, 100])), (mUn gRepr (mBin gEq (mUn gRepr (mVar 4)) (mUn gRepr (mCall f__law_judged [(mVar 1)]))))]) (mVar 5)), (mUn gRepr (mTup [(mVar 1), (mVar 4)]))])
    (mSeq (mIfS (mB (mBin gNe (mTold tabP tabQ [116, 111, 108, 100] [114, 101, 102, 117, 115, 101, 100] "BadPast" (mCall f_past_holds [(mVar 1), (mVar 4)])) (mVar 6))) (mRet (mC (.bl false))) mNil)
    (mRet (mAnd (mBin gEq (mTold tabP tabQ [116, 111, 108, 100] [114, 101, 102, 117, 115, 101, 100] "BadPast" (mCallK f_past_holds (fun l => l.reverse) [(mVar 4), (mVar 1)])) (mVar 6)) (mBin gEq (mUn gRepr (mTup [(mVar 1), (mVar 4)])) (mVar 7)))))))))))))
def f__law_is_right (tabP : Addr) : Fn := Fb (b__law_is_right tabP) 8
def b_law (tabP : Addr) : Sv :=
  (mSeq (mSet 1 (mCall f__law_deck [(mVar 0)]))
    (mSeq (mFor (mRange (mC (.int 4))) (gNm 2) (mSeq (mSet 3 (mCall f__law_drawn_past [(mVar 1)]))
    (mSeq (mSet 4 (mLst [(mVar 3), (mCall (f__law_bent 12) [(mVar 1), (mVar 3)]), (mCall (f__law_bent 12) [(mVar 1), (mVar 3)]), (mCall f__law_odd [(mVar 1), (mC .non)]), (mUn gList (mVar 3))]))
    (mSeq (mSet 4 (mBin gAdd (mVar 4) (mLst [(mCall (f__law_bent 12) [(mVar 1), (mCall (f__law_bent 12) [(mVar 1), (mVar 3)])]), (mCut (mVar 3) none (some (mC (.int 1)))), (mBin gAdd (mVar 3) (mTup [(mVar 3)]))])))
    (mSeq (mPar [5, 6] [(mBin gMul (mC (.str [121])) (mBin gAdd (mC (.int 150)) (mCall f__law_draw [(mVar 1), (mC (.int 2))]))), (mCall f__law_draw [(mVar 1), (mC (.int 2))])])
    (mSeq (mSet 7 (mTup [(mTup [(mC (.str [97, 99, 99, 101, 112, 116, 101, 100])), (mC (.str [122, 111, 101])), (mC (.int 1)), (mC (.bl true)), (mVar 5)]), (mTup [(mC (.str [98, 101, 103, 117, 110])), (mC (.str [122, 111, 101])), (mC (.int 1)), (mC (.str [97, 110, 110])), (mVar 6)])]))
    (mSeq (mSet 8 (mCall f__law_pick [(mVar 1), (mTup [(mCut (mVar 7) none (some (mC (.int 1)))), (mVar 7), (mBin gAdd (mVar 7) (mTup [(mTup [(mC (.str [97, 110, 115, 119, 101, 114, 101, 100])), (mC (.str [122, 111, 101])), (mC (.int 1)), (mTup [(mC (.str [100, 111, 110, 101])), (mVar 5)]), (mC (.str [111, 112, 101, 110]))])]))])]))
    (mFor (mIter (mBin gAdd (mBin gAdd (mVar 4) (mUn gList (mCut (mVar 3) (some (mUn gNeg (mC (.int 2)))) none))) (mLst [(mBin gAdd (mVar 3) (mVar 8))]))) (gNm 9) (mIfS (L3.tAnd (L3.tNot (mT (mCall f__law_is_beyond [(mVar 9)]))) (L3.tNot (mT (mCall (f__law_is_right tabP) [(mVar 1), (mVar 9)])))) (mRet (mC (.bl false))) mNil)))))))))
    (mRet (mC (.bl true)))))
def f_law (tabP : Addr) : Fn := Fb (b_law tabP) 10
/-! ### what the top has left -/
structure Tx (K : PySem.W.Frag) (mg : Str → Option Value) : Prop where
  z_abs : mg "abs" = none
  z_all : mg "all" = none
  z_any : mg "any" = none
  z_bool : mg "bool" = none
  z_enumerate : mg "enumerate" = none
  z_int : mg "int" = none
  z_isinstance : mg "isinstance" = none
  z_len : mg "len" = none
  z_list : mg "list" = none
  z_max : mg "max" = none
  z_ord : mg "ord" = none
  z_range : mg "range" = none
  z_repr : mg "repr" = none
  z_str : mg "str" = none
  z_super : mg "super" = none
  z_tuple : mg "tuple" = none
  z_zip : mg "zip" = none
  g_MOST_NUMBER : GC K mg "MOST_NUMBER" (.int 1000000000)
  g_MOST_WORD : GC K mg "MOST_WORD" (.int 10)
  g_MOST_BODY : GC K mg "MOST_BODY" (.int 150)
  g_LETTERS : GC K mg "LETTERS" (.str [97, 98, 99, 100, 101, 102, 103, 104, 105, 106, 107, 108, 109, 110, 111, 112, 113, 114, 115, 116, 117, 118, 119, 120, 121, 122])
  g_FATES : GC K mg "FATES" (.ktup v_FATES)
  g_PLAIN : GC K mg "PLAIN" (.ktup v_PLAIN)
  g_ONCE_ONLY : GC K mg "ONCE_ONLY" (.ktup v_ONCE_ONLY)
  f_accepted : FldAt K mg "Judge" "accepted"
  f_begun : FldAt K mg "Judge" "begun"
  f_answers : FldAt K mg "Judge" "answers"
  f_gone : FldAt K mg "Judge" "gone"
  bad : BadAt PySem.Challenge.pw_answergate_k46_any_values_as_pasts K mg "BadPast"
  told : ToldAt K mg "BadPast" "GateError"
  d_is_integer : DefAt K mg "is_integer" (top 8)
  d_is_between : DefAt K mg "is_between" (top 9)
  d_is_row : DefAt K mg "is_row" (top 10)
  d_is_number : DefAt K mg "is_number" (top 11)
  d_is_bool : DefAt K mg "is_bool" (top 12)
  d_is_word : DefAt K mg "is_word" (top 13)
  d_is_line : DefAt K mg "is_line" (top 14)
  d_is_body : DefAt K mg "is_body" (top 15)
  d_are_rising : DefAt K mg "are_rising" (top 16)
  d_is_answer : DefAt K mg "is_answer" (top 21)
  d_is_entry : DefAt K mg "is_entry" (top 22)
  d_is_past_value : DefAt K mg "is_past_value" (top 23)
  d_Judge___init__ : MkDef K mg "Judge" "Judge.__init__" ((clsStmts (top 24)).getD 0 (.Pass ⟨0, 0, 0, 0⟩))
  d_Judge_accept : MethDef K mg "Judge" "accept" "Judge.accept" ((clsStmts (top 24)).getD 1 (.Pass ⟨0, 0, 0, 0⟩))
  d_Judge_begin : MethDef K mg "Judge" "begin" "Judge.begin" ((clsStmts (top 24)).getD 2 (.Pass ⟨0, 0, 0, 0⟩))
  d_Judge_answer : MethDef K mg "Judge" "answer" "Judge.answer" ((clsStmts (top 24)).getD 3 (.Pass ⟨0, 0, 0, 0⟩))
  d_Judge_fault_of : MethDef K mg "Judge" "fault_of" "Judge.fault_of" ((clsStmts (top 24)).getD 4 (.Pass ⟨0, 0, 0, 0⟩))
  d_Judge_take : MethDef K mg "Judge" "take" "Judge.take" ((clsStmts (top 24)).getD 5 (.Pass ⟨0, 0, 0, 0⟩))
  d_judged : DefAt K mg "judged" (top 25)
  d_is_certificate : DefAt K mg "is_certificate" (top 26)
  d_is_past : DefAt K mg "is_past" (top 28)
  d_need_past : DefAt K mg "need_past" (top 29)
  d_judge_past : DefAt K mg "judge_past" (top 30)
  d_past_holds : DefAt K mg "past_holds" (top 31)
  d__law_deck : DefAt K mg "_law_deck" (top 33)
  d__law_draw : DefAt K mg "_law_draw" (top 34)
  d__law_pick : DefAt K mg "_law_pick" (top 35)
  d__law_same : DefAt K mg "_law_same" (top 36)
  d__law_is_int : DefAt K mg "_law_is_int" (top 37)
  d__law_is_word : DefAt K mg "_law_is_word" (top 38)
  d__law_is_body : DefAt K mg "_law_is_body" (top 39)
  d__law_odd : DefAt K mg "_law_odd" (top 40)
  d__law_bent : DefAt K mg "_law_bent" (top 41)
  d__law_is_entry : DefAt K mg "_law_is_entry" (top 42)
  d__law_is_past : DefAt K mg "_law_is_past" (top 43)
  d__law_answer_word : DefAt K mg "_law_answer_word" (top 44)
  d__law_word_of : DefAt K mg "_law_word_of" (top 45)
  d__law_judged : DefAt K mg "_law_judged" (top 46)
  d__law_drawn_request : DefAt K mg "_law_drawn_request" (top 47)
  d__law_answered_entry : DefAt K mg "_law_answered_entry" (top 48)
  d__law_drawn_past : DefAt K mg "_law_drawn_past" (top 49)
  d__law_told : DefAt K mg "_law_told" (top 50)
  d__law_near : DefAt K mg "_law_near" (top 51)
  d__law_is_beyond : DefAt K mg "_law_is_beyond" (top 52)
  d__law_is_right : DefAt K mg "_law_is_right" (top 53)
  d_law : DefAt K mg "law" (top 54)
section
variable {w : World} {K : PySem.W.Frag} {mg : Str → Option Value} {base : Heap}
theorem told46 {X : Cx} {E : XK} {k : Nat} {c tabP : Addr} {params : Arguments} {body : Expr} {scope : Scope} {p lpos pos : Pos} {m : Ev} (cx : CxG X E (k + 2)) (T : Tx X.K X.mg) (TB : LamX.TabB X.base X.mg c tabP) (hcode : X.env.code = .ref c) (hq : X.env.qual ++ "<lambda>" = tabQ)
    (L : LamX.LamS X.env.scope scope) (hdef : defaultsOf params X.env = ([], [])) (hbind : ∀ (q : Str) (cl : List (Str × Addr)) (pm cv ctv : Value), bindArgs (PySem.W.kla_fn "<lambda>" q params body scope cl pm cv ctv) ⟨[], []⟩ = pure []) (hg : Gl X "_law_told")
    (hbody : ∀ (A : Around) (outer : List Env) (s : Shared) (H : Hp) (E : XK) (f c' : Addr), CxG (LamX.lamCx X A outer s H E scope f c') E k → SE (LamX.lamCx X A outer s H E scope f c') E body m) :
    SE X E (.Call (.Name "_law_told" p) [.Lambda params body scope lpos] [] pos) (mTold tabP tabQ [116, 111, 108, 100] [114, 101, 102, 117, 115, 101, 100] "BadPast" m) :=
  se_told (a := "_law_call") (fn := "_law_found") (e := "e") (cb := "BadPast") (gn := "GateError") (st := (top 50)) cx T.told T.d__law_told ⟨rfl, rfl, rfl, by decide +kernel, rfl, by decide +kernel, by decide +kernel⟩ (by rfl) (fun _ _ _ _ _ _ us hl => match us, hl with | [_], _ => rfl) (by first | rfl | decide +kernel) (by first | rfl | decide +kernel) rfl rfl rfl rfl rfl rfl rfl T.z_isinstance T.z_repr TB hcode hq L hdef hbind hg hbody
abbrev PP : Program := PySem.Challenge.pw_answergate_k46_any_values_as_pasts
theorem G_is_integer (T : Tx K mg) : FnAt PP w K mg base "is_integer" 1 ["thing"] f_is_integer :=
  fn_at (k := 0) (N := ["thing"]) (b := b_is_integer) T.d_is_integer ⟨rfl, rfl, rfl, by decide +kernel, rfl, by decide +kernel, by decide +kernel⟩ (fun _ _ _ _ _ _ us hl => match us, hl with | [_], _ => rfl) fun f cdv A outer s H E cx => (ss_one (ss_ret (se_and (se_isi (T := .int) rfl T.z_isinstance (by first | rfl | decide +kernel) (se_var (pe_var rfl (by first | exact .inl rfl | exact .inr (.inl rfl) | exact .inr (.inr rfl)))) rfl T.z_int (by first | rfl | decide +kernel)) (se_one (se_notT (se_isi (T := .bool) rfl T.z_isinstance (by first | rfl | decide +kernel) (se_var (pe_var rfl (by first | exact .inl rfl | exact .inr (.inl rfl) | exact .inr (.inr rfl)))) rfl T.z_bool (by first | rfl | decide +kernel)))))))
theorem G_is_between (T : Tx K mg) (G_is_integer : FnAt PP w K mg base "is_integer" 1 ["thing"] f_is_integer) : FnAt PP w K mg base "is_between" 2 ["thing", "least", "most"] f_is_between :=
  fn_at (k := 1) (N := ["thing", "least", "most"]) (b := b_is_between) T.d_is_between ⟨rfl, rfl, rfl, by decide +kernel, rfl, by decide +kernel, by decide +kernel⟩ (fun _ _ _ _ _ _ us hl => match us, hl with | [_, _, _], _ => rfl) fun f cdv A outer s H E cx => (ss_one (ss_ret (se_and (se_call cx (G_is_integer.mono (by decide)) rfl (sa_cons (se_var (pe_var rfl (by first | exact .inl rfl | exact .inr (.inl rfl) | exact .inr (.inr rfl)))) sa_nil)) (se_one (se_chain ops_le ops_le (se_var (pe_var rfl (by first | exact .inl rfl | exact .inr (.inl rfl) | exact .inr (.inr rfl)))) (se_var (pe_var rfl (by first | exact .inl rfl | exact .inr (.inl rfl) | exact .inr (.inr rfl)))) (se_var (pe_var rfl (by first | exact .inl rfl | exact .inr (.inl rfl) | exact .inr (.inr rfl)))) (pe_chain ops_le ops_le (se_var (pe_var rfl (by first | exact .inl rfl | exact .inr (.inl rfl) | exact .inr (.inr rfl)))) (se_var (pe_var rfl (by first | exact .inl rfl | exact .inr (.inl rfl) | exact .inr (.inr rfl)))) (se_var (pe_var rfl (by first | exact .inl rfl | exact .inr (.inl rfl) | exact .inr (.inr rfl))))))))))
theorem G_is_row (T : Tx K mg) : FnAt PP w K mg base "is_row" 1 ["thing", "many"] f_is_row :=
  fn_at (k := 0) (N := ["thing", "many"]) (b := b_is_row) T.d_is_row ⟨rfl, rfl, rfl, by decide +kernel, rfl, by decide +kernel, by decide +kernel⟩ (fun _ _ _ _ _ _ us hl => match us, hl with | [_, _], _ => rfl) fun f cdv A outer s H E cx => (ss_one (ss_ret (se_and (se_isi (T := .tuple) rfl T.z_isinstance (by first | rfl | decide +kernel) (se_var (pe_var rfl (by first | exact .inl rfl | exact .inr (.inl rfl) | exact .inr (.inr rfl)))) rfl T.z_tuple (by first | rfl | decide +kernel)) (se_one (se_cmp (ops_eq cx.hu) (se_bi cr_len rfl T.z_len (by first | rfl | decide +kernel) (se_var (pe_var rfl (by first | exact .inl rfl | exact .inr (.inl rfl) | exact .inr (.inr rfl))))) (se_var (pe_var rfl (by first | exact .inl rfl | exact .inr (.inl rfl) | exact .inr (.inr rfl)))) rfl)))))
theorem G_is_number (T : Tx K mg) (G_is_between : FnAt PP w K mg base "is_between" 2 ["thing", "least", "most"] f_is_between) : FnAt PP w K mg base "is_number" 3 ["thing"] f_is_number :=
  fn_at (k := 2) (N := ["thing"]) (b := b_is_number) T.d_is_number ⟨rfl, rfl, rfl, by decide +kernel, rfl, by decide +kernel, by decide +kernel⟩ (fun _ _ _ _ _ _ us hl => match us, hl with | [_], _ => rfl) fun f cdv A outer s H E cx => (ss_one (ss_ret (se_call cx (G_is_between.mono (by decide)) rfl (sa_cons (se_var (pe_var rfl (by first | exact .inl rfl | exact .inr (.inl rfl) | exact .inr (.inr rfl)))) (sa_cons se_int (sa_cons (se_glob rfl T.g_MOST_NUMBER) sa_nil))))))
theorem G_is_bool (T : Tx K mg) : FnAt PP w K mg base "is_bool" 1 ["thing"] f_is_bool :=
  fn_at (k := 0) (N := ["thing"]) (b := b_is_bool) T.d_is_bool ⟨rfl, rfl, rfl, by decide +kernel, rfl, by decide +kernel, by decide +kernel⟩ (fun _ _ _ _ _ _ us hl => match us, hl with | [_], _ => rfl) fun f cdv A outer s H E cx => (ss_one (ss_ret (se_isi (T := .bool) rfl T.z_isinstance (by first | rfl | decide +kernel) (se_var (pe_var rfl (by first | exact .inl rfl | exact .inr (.inl rfl) | exact .inr (.inr rfl)))) rfl T.z_bool (by first | rfl | decide +kernel))))
theorem G_is_word (T : Tx K mg) : FnAt PP w K mg base "is_word" 1 ["thing"] f_is_word :=
  fn_at (k := 0) (N := ["thing", "letter"]) (b := b_is_word) T.d_is_word ⟨rfl, rfl, rfl, by decide +kernel, rfl, by decide +kernel, by decide +kernel⟩ (fun _ _ _ _ _ _ us hl => match us, hl with | [_], _ => rfl) fun f cdv A outer s H E cx => (ss_cons (ss_if (st_w (sw_or (st_not (st_tru (se_isi (T := .str) rfl T.z_isinstance (by first | rfl | decide +kernel) (se_var (pe_var rfl (by first | exact .inl rfl | exact .inr (.inl rfl) | exact .inr (.inr rfl)))) rfl T.z_str (by first | rfl | decide +kernel)))) (sw_or1 (st_not (st_chain (pt_chain ops_le ops_le se_int (se_bi cr_len rfl T.z_len (by first | rfl | decide +kernel) (se_var (pe_var rfl (by first | exact .inl rfl | exact .inr (.inl rfl) | exact .inr (.inr rfl))))) (se_glob rfl T.g_MOST_WORD))))))) (ss_one (ss_ret se_bl)) ss_nil)
    (ss_one (ss_ret (se_bi (cr_all' cx.calm) rfl T.z_all (by first | rfl | decide +kernel) (se_lcG cx (si_any (se_var (pe_var rfl (by first | exact .inl rfl | exact .inr (.inl rfl) | exact .inr (.inr rfl))))) (blkOk_by (own := [(("letter" : Str), 1)]) (by show blkC ["thing", "letter"] (defScope (top 13)) _ _ = true; decide +kernel)) (fun _ _ _ _ _ cx => (pg_name cx.nd rfl (.inl rfl))) (fun _ _ _ _ _ cx => (pts0 rfl)) (fun _ _ _ _ _ cx => (se_cmp (ops_in cx.hu) (se_var (pe_var rfl (by first | exact .inl rfl | exact .inr (.inl rfl) | exact .inr (.inr rfl)))) (se_glob rfl T.g_LETTERS) rfl)))))))
theorem G_is_line (T : Tx K mg) : FnAt PP w K mg base "is_line" 1 ["thing", "most"] f_is_line :=
  fn_at (k := 0) (N := ["thing", "most", "sign"]) (b := b_is_line) T.d_is_line ⟨rfl, rfl, rfl, by decide +kernel, rfl, by decide +kernel, by decide +kernel⟩ (fun _ _ _ _ _ _ us hl => match us, hl with | [_, _], _ => rfl) fun f cdv A outer s H E cx => (ss_one (ss_ret (se_and (se_isi (T := .str) rfl T.z_isinstance (by first | rfl | decide +kernel) (se_var (pe_var rfl (by first | exact .inl rfl | exact .inr (.inl rfl) | exact .inr (.inr rfl)))) rfl T.z_str (by first | rfl | decide +kernel)) (se_and (se_cmp ops_le (se_bi cr_len rfl T.z_len (by first | rfl | decide +kernel) (se_var (pe_var rfl (by first | exact .inl rfl | exact .inr (.inl rfl) | exact .inr (.inr rfl))))) (se_var (pe_var rfl (by first | exact .inl rfl | exact .inr (.inl rfl) | exact .inr (.inr rfl)))) rfl) (se_one (se_bi (cr_all' cx.calm) rfl T.z_all (by first | rfl | decide +kernel) (se_lcG cx (si_any (se_var (pe_var rfl (by first | exact .inl rfl | exact .inr (.inl rfl) | exact .inr (.inr rfl))))) (blkOk_by (own := [(("sign" : Str), 2)]) (by show blkC ["thing", "most", "sign"] (defScope (top 14)) _ _ = true; decide +kernel)) (fun _ _ _ _ _ cx => (pg_name cx.nd rfl (.inl rfl))) (fun _ _ _ _ _ cx => (pts0 rfl)) (fun _ _ _ _ _ cx => (se_chain ops_le ops_le (se_str (by first | rfl | decide +kernel)) (se_var (pe_var rfl (by first | exact .inl rfl | exact .inr (.inl rfl) | exact .inr (.inr rfl)))) (se_str (by first | rfl | decide +kernel)) (pe_chain ops_le ops_le (se_str (by first | rfl | decide +kernel)) (se_var (pe_var rfl (by first | exact .inl rfl | exact .inr (.inl rfl) | exact .inr (.inr rfl)))) (se_str (by first | rfl | decide +kernel))))))))))))
theorem G_is_body (T : Tx K mg) (G_is_line : FnAt PP w K mg base "is_line" 1 ["thing", "most"] f_is_line) : FnAt PP w K mg base "is_body" 2 ["thing"] f_is_body :=
  fn_at (k := 1) (N := ["thing"]) (b := b_is_body) T.d_is_body ⟨rfl, rfl, rfl, by decide +kernel, rfl, by decide +kernel, by decide +kernel⟩ (fun _ _ _ _ _ _ us hl => match us, hl with | [_], _ => rfl) fun f cdv A outer s H E cx => (ss_one (ss_ret (se_call cx (G_is_line.mono (by decide)) rfl (sa_cons (se_var (pe_var rfl (by first | exact .inl rfl | exact .inr (.inl rfl) | exact .inr (.inr rfl)))) (sa_cons (se_glob rfl T.g_MOST_BODY) sa_nil)))))
theorem G_are_rising (T : Tx K mg) : FnAt PP w K mg base "are_rising" 1 ["items"] f_are_rising :=
  fn_at (k := 0) (N := ["items", "near", "far"]) (b := b_are_rising) T.d_are_rising ⟨rfl, rfl, rfl, by decide +kernel, rfl, by decide +kernel, by decide +kernel⟩ (fun _ _ _ _ _ _ us hl => match us, hl with | [_], _ => rfl) fun f cdv A outer s H E cx => (ss_one (ss_ret (se_bi (cr_all' cx.calm) rfl T.z_all (by first | rfl | decide +kernel) (se_lc2G cx (by decide) (si_zip rfl T.z_zip (se_var (pe_var rfl (by first | exact .inl rfl | exact .inr (.inl rfl) | exact .inr (.inr rfl)))) (se_cut (se_var (pe_var rfl (by first | exact .inl rfl | exact .inr (.inl rfl) | exact .inr (.inr rfl)))) (show SO _ _ (some _) (some _) from se_int) trivial)) (blkOk_by (own := [(("near" : Str), 1), (("far" : Str), 2)]) (by show blkC ["items", "near", "far"] (defScope (top 16)) _ _ = true; decide +kernel)) (fun _ _ _ _ _ cx => (pg_tup cx.calm (pgs_names_cons (pg_name cx.nd rfl (.inl rfl)) (pgs_names_cons (pg_name cx.nd rfl (.inl rfl)) pgs_names_nil)) rfl rfl)) (fun _ _ _ _ _ cx => (se_cmp ops_lt (se_var (pe_var rfl (by first | exact .inl rfl | exact .inr (.inl rfl) | exact .inr (.inr rfl)))) (se_var (pe_var rfl (by first | exact .inl rfl | exact .inr (.inl rfl) | exact .inr (.inr rfl)))) rfl))))))
theorem G_is_answer (T : Tx K mg) (G_is_body : FnAt PP w K mg base "is_body" 2 ["thing"] f_is_body) : FnAt PP w K mg base "is_answer" 3 ["thing"] f_is_answer :=
  fn_at (k := 2) (N := ["thing"]) (b := b_is_answer) T.d_is_answer ⟨rfl, rfl, rfl, by decide +kernel, rfl, by decide +kernel, by decide +kernel⟩ (fun _ _ _ _ _ _ us hl => match us, hl with | [_], _ => rfl) fun f cdv A outer s H E cx => (ss_cons (ss_if (st_w (sw_or (st_not (st_tru (se_isi (T := .tuple) rfl T.z_isinstance (by first | rfl | decide +kernel) (se_var (pe_var rfl (by first | exact .inl rfl | exact .inr (.inl rfl) | exact .inr (.inr rfl)))) rfl T.z_tuple (by first | rfl | decide +kernel)))) (sw_or (st_cmp (ops_eq cx.hu) (se_var (pe_var rfl (by first | exact .inl rfl | exact .inr (.inl rfl) | exact .inr (.inr rfl)))) (se_tup sa_nil (by simp)) rfl) (sw_or1 (st_not (st_tru (se_isi (T := .str) rfl T.z_isinstance (by first | rfl | decide +kernel) (se_ix (se_var (pe_var rfl (by first | exact .inl rfl | exact .inr (.inl rfl) | exact .inr (.inr rfl)))) se_int) rfl T.z_str (by first | rfl | decide +kernel)))))))) (ss_one (ss_ret se_bl)) ss_nil)
    (ss_cons (ss_if (st_cmp (ops_eq cx.hu) (se_ix (se_var (pe_var rfl (by first | exact .inl rfl | exact .inr (.inl rfl) | exact .inr (.inr rfl)))) se_int) (se_str (by first | rfl | decide +kernel)) rfl) (ss_one (ss_ret (se_and (se_cmp (ops_eq cx.hu) (se_bi cr_len rfl T.z_len (by first | rfl | decide +kernel) (se_var (pe_var rfl (by first | exact .inl rfl | exact .inr (.inl rfl) | exact .inr (.inr rfl))))) se_int rfl) (se_one (se_call cx (G_is_body.mono (by decide)) rfl (sa_cons (se_ix (se_var (pe_var rfl (by first | exact .inl rfl | exact .inr (.inl rfl) | exact .inr (.inr rfl)))) se_int) sa_nil)))))) ss_nil)
    (ss_one (ss_ret (se_and (se_cmp (ops_eq cx.hu) (se_bi cr_len rfl T.z_len (by first | rfl | decide +kernel) (se_var (pe_var rfl (by first | exact .inl rfl | exact .inr (.inl rfl) | exact .inr (.inr rfl))))) se_int rfl) (se_one (se_cmp (ops_in cx.hu) (se_ix (se_var (pe_var rfl (by first | exact .inl rfl | exact .inr (.inl rfl) | exact .inr (.inr rfl)))) se_int) (se_glob rfl T.g_PLAIN) rfl)))))))
theorem G_is_entry (T : Tx K mg) (G_is_answer : FnAt PP w K mg base "is_answer" 3 ["thing"] f_is_answer) (G_is_between : FnAt PP w K mg base "is_between" 2 ["thing", "least", "most"] f_is_between) (G_is_body : FnAt PP w K mg base "is_body" 2 ["thing"] f_is_body) (G_is_bool : FnAt PP w K mg base "is_bool" 1 ["thing"] f_is_bool) (G_is_number : FnAt PP w K mg base "is_number" 3 ["thing"] f_is_number) (G_is_row : FnAt PP w K mg base "is_row" 1 ["thing", "many"] f_is_row) (G_is_word : FnAt PP w K mg base "is_word" 1 ["thing"] f_is_word) : FnAt PP w K mg base "is_entry" 4 ["thing"] f_is_entry :=
  fn_at (k := 3) (N := ["thing"]) (b := b_is_entry) T.d_is_entry ⟨rfl, rfl, rfl, by decide +kernel, rfl, by decide +kernel, by decide +kernel⟩ (fun _ _ _ _ _ _ us hl => match us, hl with | [_], _ => rfl) fun f cdv A outer s H E cx => (ss_cons (ss_if (st_w (sw_or (st_not (st_tru (se_isi (T := .tuple) rfl T.z_isinstance (by first | rfl | decide +kernel) (se_var (pe_var rfl (by first | exact .inl rfl | exact .inr (.inl rfl) | exact .inr (.inr rfl)))) rfl T.z_tuple (by first | rfl | decide +kernel)))) (sw_or (st_cmp ops_lt (se_bi cr_len rfl T.z_len (by first | rfl | decide +kernel) (se_var (pe_var rfl (by first | exact .inl rfl | exact .inr (.inl rfl) | exact .inr (.inr rfl))))) se_int rfl) (sw_or (st_not (st_tru (se_isi (T := .str) rfl T.z_isinstance (by first | rfl | decide +kernel) (se_ix (se_var (pe_var rfl (by first | exact .inl rfl | exact .inr (.inl rfl) | exact .inr (.inr rfl)))) se_int) rfl T.z_str (by first | rfl | decide +kernel)))) (sw_or1 (st_not (st_tru (se_call cx (G_is_word.mono (by decide)) rfl (sa_cons (se_ix (se_var (pe_var rfl (by first | exact .inl rfl | exact .inr (.inl rfl) | exact .inr (.inr rfl)))) se_int) sa_nil))))))))) (ss_one (ss_ret se_bl)) ss_nil)
    (ss_cons (ss_if (st_cmp (ops_eq cx.hu) (se_ix (se_var (pe_var rfl (by first | exact .inl rfl | exact .inr (.inl rfl) | exact .inr (.inr rfl)))) se_int) (se_str (by first | rfl | decide +kernel)) rfl) (ss_one (ss_ret (se_cmp (ops_eq cx.hu) (se_bi cr_len rfl T.z_len (by first | rfl | decide +kernel) (se_var (pe_var rfl (by first | exact .inl rfl | exact .inr (.inl rfl) | exact .inr (.inr rfl))))) se_int rfl))) ss_nil)
    (ss_cons (ss_if (st_w (sw_or (st_not (st_tru (se_call cx (G_is_row.mono (by decide)) rfl (sa_cons (se_var (pe_var rfl (by first | exact .inl rfl | exact .inr (.inl rfl) | exact .inr (.inr rfl)))) (sa_cons se_int sa_nil))))) (sw_or1 (st_not (st_tru (se_call cx (G_is_number.mono (by decide)) rfl (sa_cons (se_ix (se_var (pe_var rfl (by first | exact .inl rfl | exact .inr (.inl rfl) | exact .inr (.inr rfl)))) se_int) sa_nil))))))) (ss_one (ss_ret se_bl)) ss_nil)
    (ss_cons (ss_if (st_cmp (ops_eq cx.hu) (se_ix (se_var (pe_var rfl (by first | exact .inl rfl | exact .inr (.inl rfl) | exact .inr (.inr rfl)))) se_int) (se_str (by first | rfl | decide +kernel)) rfl) (ss_one (ss_ret (se_and (se_call cx (G_is_bool.mono (by decide)) rfl (sa_cons (se_ix (se_var (pe_var rfl (by first | exact .inl rfl | exact .inr (.inl rfl) | exact .inr (.inr rfl)))) se_int) sa_nil)) (se_one (se_call cx (G_is_body.mono (by decide)) rfl (sa_cons (se_ix (se_var (pe_var rfl (by first | exact .inl rfl | exact .inr (.inl rfl) | exact .inr (.inr rfl)))) se_int) sa_nil)))))) ss_nil)
    (ss_cons (ss_if (st_cmp (ops_eq cx.hu) (se_ix (se_var (pe_var rfl (by first | exact .inl rfl | exact .inr (.inl rfl) | exact .inr (.inr rfl)))) se_int) (se_str (by first | rfl | decide +kernel)) rfl) (ss_one (ss_ret (se_and (se_call cx (G_is_word.mono (by decide)) rfl (sa_cons (se_ix (se_var (pe_var rfl (by first | exact .inl rfl | exact .inr (.inl rfl) | exact .inr (.inr rfl)))) se_int) sa_nil)) (se_one (se_call cx (G_is_between.mono (by decide)) rfl (sa_cons (se_ix (se_var (pe_var rfl (by first | exact .inl rfl | exact .inr (.inl rfl) | exact .inr (.inr rfl)))) se_int) (sa_cons se_int (sa_cons (se_glob rfl T.g_MOST_NUMBER) sa_nil)))))))) ss_nil)
    (ss_one (ss_ret (se_and (se_cmp (ops_eq cx.hu) (se_ix (se_var (pe_var rfl (by first | exact .inl rfl | exact .inr (.inl rfl) | exact .inr (.inr rfl)))) se_int) (se_str (by first | rfl | decide +kernel)) rfl) (se_and (se_call cx (G_is_answer.mono (by decide)) rfl (sa_cons (se_ix (se_var (pe_var rfl (by first | exact .inl rfl | exact .inr (.inl rfl) | exact .inr (.inr rfl)))) se_int) sa_nil)) (se_and (se_isi (T := .str) rfl T.z_isinstance (by first | rfl | decide +kernel) (se_ix (se_var (pe_var rfl (by first | exact .inl rfl | exact .inr (.inl rfl) | exact .inr (.inr rfl)))) se_int) rfl T.z_str (by first | rfl | decide +kernel)) (se_one (se_cmp (ops_in cx.hu) (se_ix (se_var (pe_var rfl (by first | exact .inl rfl | exact .inr (.inl rfl) | exact .inr (.inr rfl)))) se_int) (se_glob rfl T.g_FATES) rfl))))))))))))
theorem G_is_past_value (T : Tx K mg) (G_is_entry : FnAt PP w K mg base "is_entry" 4 ["thing"] f_is_entry) : FnAt PP w K mg base "is_past_value" 5 ["thing"] f_is_past_value :=
  fn_at (k := 4) (N := ["thing", "entry"]) (b := b_is_past_value) T.d_is_past_value ⟨rfl, rfl, rfl, by decide +kernel, rfl, by decide +kernel, by decide +kernel⟩ (fun _ _ _ _ _ _ us hl => match us, hl with | [_], _ => rfl) fun f cdv A outer s H E cx => (ss_one (ss_ret (se_and (se_isi (T := .tuple) rfl T.z_isinstance (by first | rfl | decide +kernel) (se_var (pe_var rfl (by first | exact .inl rfl | exact .inr (.inl rfl) | exact .inr (.inr rfl)))) rfl T.z_tuple (by first | rfl | decide +kernel)) (se_one (se_bi (cr_all' cx.calm) rfl T.z_all (by first | rfl | decide +kernel) (se_lcG cx (si_any (se_var (pe_var rfl (by first | exact .inl rfl | exact .inr (.inl rfl) | exact .inr (.inr rfl))))) (blkOk_by (own := [(("entry" : Str), 1)]) (by show blkC ["thing", "entry"] (defScope (top 23)) _ _ = true; decide +kernel)) (fun _ _ _ _ _ cx => (pg_name cx.nd rfl (.inl rfl))) (fun _ _ _ _ _ cx => (pts0 rfl)) (fun _ _ _ _ _ cx => (se_call cx (G_is_entry.mono (by decide)) rfl (sa_cons (se_var (pe_var rfl (by first | exact .inl rfl | exact .inr (.inl rfl) | exact .inr (.inr rfl)))) sa_nil)))))))))
theorem G_Judge___init__ (T : Tx K mg) : MkAt PP w K mg base "Judge" 1 f_Judge___init__ :=
  make_at (k := 0) (N := ["self"]) (b := b_Judge___init__) T.d_Judge___init__ ⟨rfl, rfl, rfl, by decide +kernel, rfl, by decide +kernel, by decide +kernel⟩ (fun _ _ _ _ _ _ us hl => match us, hl with | [_], _ => rfl) fun f cdv A outer s H E cx => (ss_cons (ss_fld T.f_accepted (se_var (pe_var rfl (by first | exact .inl rfl | exact .inr (.inl rfl) | exact .inr (.inr rfl)))) se_newT)
    (ss_cons (ss_fld T.f_begun (se_var (pe_var rfl (by first | exact .inl rfl | exact .inr (.inl rfl) | exact .inr (.inr rfl)))) se_newT)
    (ss_cons (ss_fld T.f_answers (se_var (pe_var rfl (by first | exact .inl rfl | exact .inr (.inl rfl) | exact .inr (.inr rfl)))) se_newT)
    (ss_one (ss_fld T.f_gone (se_var (pe_var rfl (by first | exact .inl rfl | exact .inr (.inl rfl) | exact .inr (.inr rfl)))) se_newK)))))
theorem G_Judge_accept (T : Tx K mg) : MethAt PP w K mg base "Judge" "accept" 1 ["self", "key", "once", "body"] f_Judge_accept :=
  meth_at (k := 0) (N := ["self", "key", "once", "body"]) (b := b_Judge_accept) T.d_Judge_accept ⟨rfl, rfl, rfl, by decide +kernel, rfl, by decide +kernel, by decide +kernel⟩ (fun _ _ _ _ _ _ us hl => match us, hl with | [_, _, _, _], _ => rfl) fun f cdv A outer s H E cx => (ss_cons (ss_if (st_din cx.hu (se_var (pe_var rfl (by first | exact .inl rfl | exact .inr (.inl rfl) | exact .inr (.inr rfl)))) (se_fld T.f_accepted (se_var (pe_var rfl (by first | exact .inl rfl | exact .inr (.inl rfl) | exact .inr (.inr rfl)))))) (ss_one (ss_ret (se_str (by first | rfl | decide +kernel)))) ss_nil)
    (ss_cons (ss_if (st_din cx.hu (se_ix (se_var (pe_var rfl (by first | exact .inl rfl | exact .inr (.inl rfl) | exact .inr (.inr rfl)))) se_int) (se_fld T.f_gone (se_var (pe_var rfl (by first | exact .inl rfl | exact .inr (.inl rfl) | exact .inr (.inr rfl)))))) (ss_one (ss_ret (se_str (by first | rfl | decide +kernel)))) ss_nil)
    (ss_cons (ss_if (st_din cx.hu (se_var (pe_var rfl (by first | exact .inl rfl | exact .inr (.inl rfl) | exact .inr (.inr rfl)))) (se_fld T.f_answers (se_var (pe_var rfl (by first | exact .inl rfl | exact .inr (.inl rfl) | exact .inr (.inr rfl)))))) (ss_one (ss_ret (se_str (by first | rfl | decide +kernel)))) ss_nil)
    (ss_cons (ss_dput cx.hu (se_fld T.f_accepted (se_var (pe_var rfl (by first | exact .inl rfl | exact .inr (.inl rfl) | exact .inr (.inr rfl))))) (se_var (pe_var rfl (by first | exact .inl rfl | exact .inr (.inl rfl) | exact .inr (.inr rfl)))) (se_tup (sa_cons (se_var (pe_var rfl (by first | exact .inl rfl | exact .inr (.inl rfl) | exact .inr (.inr rfl)))) (sa_cons (se_var (pe_var rfl (by first | exact .inl rfl | exact .inr (.inl rfl) | exact .inr (.inr rfl)))) sa_nil)) (by simp)))
    (ss_one (ss_ret se_non))))))
theorem G_Judge_begin (T : Tx K mg) : MethAt PP w K mg base "Judge" "begin" 1 ["self", "key"] f_Judge_begin :=
  meth_at (k := 0) (N := ["self", "key"]) (b := b_Judge_begin) T.d_Judge_begin ⟨rfl, rfl, rfl, by decide +kernel, rfl, by decide +kernel, by decide +kernel⟩ (fun _ _ _ _ _ _ us hl => match us, hl with | [_, _], _ => rfl) fun f cdv A outer s H E cx => (ss_cons (ss_if (st_dnotin cx.hu (se_var (pe_var rfl (by first | exact .inl rfl | exact .inr (.inl rfl) | exact .inr (.inr rfl)))) (se_fld T.f_accepted (se_var (pe_var rfl (by first | exact .inl rfl | exact .inr (.inl rfl) | exact .inr (.inr rfl)))))) (ss_one (ss_ret (se_str (by first | rfl | decide +kernel)))) ss_nil)
    (ss_cons (ss_if (st_w (sw_and (st_din cx.hu (se_var (pe_var rfl (by first | exact .inl rfl | exact .inr (.inl rfl) | exact .inr (.inr rfl)))) (se_fld T.f_begun (se_var (pe_var rfl (by first | exact .inl rfl | exact .inr (.inl rfl) | exact .inr (.inr rfl)))))) (sw_and1 (st_tru (se_ix (se_dget cx.hu (se_fld T.f_accepted (se_var (pe_var rfl (by first | exact .inl rfl | exact .inr (.inl rfl) | exact .inr (.inr rfl))))) (se_var (pe_var rfl (by first | exact .inl rfl | exact .inr (.inl rfl) | exact .inr (.inr rfl))))) se_int))))) (ss_one (ss_ret (se_str (by first | rfl | decide +kernel)))) ss_nil)
    (ss_cons (ss_if (st_cmp (ops_in cx.hu) (se_dget1 cx.hu (se_fld T.f_answers (se_var (pe_var rfl (by first | exact .inl rfl | exact .inr (.inl rfl) | exact .inr (.inr rfl))))) (se_var (pe_var rfl (by first | exact .inl rfl | exact .inr (.inl rfl) | exact .inr (.inr rfl)))) ⟨rfl, rfl, rfl, rfl⟩) (se_tup (sa_cons (se_tup (sa_cons (se_str (by first | rfl | decide +kernel)) sa_nil) (by simp)) (sa_cons (se_tup (sa_cons (se_str (by first | rfl | decide +kernel)) sa_nil) (by simp)) sa_nil)) (by simp)) rfl) (ss_one (ss_ret (se_str (by first | rfl | decide +kernel)))) ss_nil)
    (ss_cons (ss_dput cx.hu (se_fld T.f_begun (se_var (pe_var rfl (by first | exact .inl rfl | exact .inr (.inl rfl) | exact .inr (.inr rfl))))) (se_var (pe_var rfl (by first | exact .inl rfl | exact .inr (.inl rfl) | exact .inr (.inr rfl)))) se_bl)
    (ss_one (ss_ret se_non))))))
theorem G_Judge_fault_of (T : Tx K mg) : MethAt PP w K mg base "Judge" "fault_of" 1 ["self", "key", "word", "fate"] f_Judge_fault_of :=
  meth_at (k := 0) (N := ["self", "key", "word", "fate"]) (b := b_Judge_fault_of) T.d_Judge_fault_of ⟨rfl, rfl, rfl, by decide +kernel, rfl, by decide +kernel, by decide +kernel⟩ (fun _ _ _ _ _ _ us hl => match us, hl with | [_, _, _, _], _ => rfl) fun f cdv A outer s H E cx => (ss_cons (ss_if (st_w (sw_and (st_cmp (ops_eq cx.hu) (se_var (pe_var rfl (by first | exact .inl rfl | exact .inr (.inl rfl) | exact .inr (.inr rfl)))) (se_str (by first | rfl | decide +kernel)) rfl) (sw_and1 (st_dnotin cx.hu (se_var (pe_var rfl (by first | exact .inl rfl | exact .inr (.inl rfl) | exact .inr (.inr rfl)))) (se_fld T.f_begun (se_var (pe_var rfl (by first | exact .inl rfl | exact .inr (.inl rfl) | exact .inr (.inr rfl))))))))) (ss_one (ss_ret (se_str (by first | rfl | decide +kernel)))) ss_nil)
    (ss_cons (ss_if (st_w (sw_and (st_cmp (ops_eq cx.hu) (se_var (pe_var rfl (by first | exact .inl rfl | exact .inr (.inl rfl) | exact .inr (.inr rfl)))) (se_str (by first | rfl | decide +kernel)) rfl) (sw_and1 (st_din cx.hu (se_var (pe_var rfl (by first | exact .inl rfl | exact .inr (.inl rfl) | exact .inr (.inr rfl)))) (se_fld T.f_begun (se_var (pe_var rfl (by first | exact .inl rfl | exact .inr (.inl rfl) | exact .inr (.inr rfl))))))))) (ss_one (ss_ret (se_str (by first | rfl | decide +kernel)))) ss_nil)
    (ss_cons (ss_if (st_w (sw_or (st_cmp (ops_ne cx.hu) (se_cmp (ops_eq cx.hu) (se_var (pe_var rfl (by first | exact .inl rfl | exact .inr (.inl rfl) | exact .inr (.inr rfl)))) (se_str (by first | rfl | decide +kernel)) rfl) (se_cmp (ops_eq cx.hu) (se_var (pe_var rfl (by first | exact .inl rfl | exact .inr (.inl rfl) | exact .inr (.inr rfl)))) (se_str (by first | rfl | decide +kernel)) rfl) rfl) (sw_or1 (st_w (sw_and (st_cmp (ops_eq cx.hu) (se_var (pe_var rfl (by first | exact .inl rfl | exact .inr (.inl rfl) | exact .inr (.inr rfl)))) (se_str (by first | rfl | decide +kernel)) rfl) (sw_and1 (st_cmp (ops_ne cx.hu) (se_var (pe_var rfl (by first | exact .inl rfl | exact .inr (.inl rfl) | exact .inr (.inr rfl)))) (se_str (by first | rfl | decide +kernel)) rfl))))))) (ss_one (ss_ret (se_str (by first | rfl | decide +kernel)))) ss_nil)
    (ss_one (ss_ret (se_if (st_cmp (ops_in cx.hu) (se_tup (sa_cons (se_var (pe_var rfl (by first | exact .inl rfl | exact .inr (.inl rfl) | exact .inr (.inr rfl)))) (sa_cons (se_var (pe_var rfl (by first | exact .inl rfl | exact .inr (.inl rfl) | exact .inr (.inr rfl)))) sa_nil)) (by simp)) (se_tup (sa_cons (se_tup (sa_cons (se_str (by first | rfl | decide +kernel)) (sa_cons (se_str (by first | rfl | decide +kernel)) sa_nil)) (by simp)) (sa_cons (se_tup (sa_cons (se_str (by first | rfl | decide +kernel)) (sa_cons (se_str (by first | rfl | decide +kernel)) sa_nil)) (by simp)) sa_nil)) (by simp)) rfl) (se_str (by first | rfl | decide +kernel)) se_non))))))
theorem G_Judge_answer (T : Tx K mg) (G_Judge_fault_of : MethAt PP w K mg base "Judge" "fault_of" 1 ["self", "key", "word", "fate"] f_Judge_fault_of) : MethAt PP w K mg base "Judge" "answer" 2 ["self", "key", "answer", "fate"] f_Judge_answer :=
  meth_at (k := 1) (N := ["self", "key", "answer", "fate", "word", "once", "body"]) (b := b_Judge_answer) T.d_Judge_answer ⟨rfl, rfl, rfl, by decide +kernel, rfl, by decide +kernel, by decide +kernel⟩ (fun _ _ _ _ _ _ us hl => match us, hl with | [_, _, _, _], _ => rfl) fun f cdv A outer s H E cx => (ss_cons (ss_set cx.nd rfl (by first | exact .inl rfl | exact .inr rfl) (se_ix (se_var (pe_var rfl (by first | exact .inl rfl | exact .inr (.inl rfl) | exact .inr (.inr rfl)))) se_int))
    (ss_cons (ss_if (st_w (sw_and (st_cmp (ops_ne cx.hu) (se_var (pe_var rfl (by first | exact .inl rfl | exact .inr (.inl rfl) | exact .inr (.inr rfl)))) (se_str (by first | rfl | decide +kernel)) rfl) (sw_and1 (st_dnotin cx.hu (se_var (pe_var rfl (by first | exact .inl rfl | exact .inr (.inl rfl) | exact .inr (.inr rfl)))) (se_fld T.f_accepted (se_var (pe_var rfl (by first | exact .inl rfl | exact .inr (.inl rfl) | exact .inr (.inr rfl))))))))) (ss_one (ss_ret (se_str (by first | rfl | decide +kernel)))) ss_nil)
    (ss_cons (ss_if (st_din cx.hu (se_ix (se_var (pe_var rfl (by first | exact .inl rfl | exact .inr (.inl rfl) | exact .inr (.inr rfl)))) se_int) (se_fld T.f_gone (se_var (pe_var rfl (by first | exact .inl rfl | exact .inr (.inl rfl) | exact .inr (.inr rfl)))))) (ss_one (ss_ret (se_str (by first | rfl | decide +kernel)))) ss_nil)
    (ss_cons (ss_if (st_din cx.hu (se_var (pe_var rfl (by first | exact .inl rfl | exact .inr (.inl rfl) | exact .inr (.inr rfl)))) (se_fld T.f_answers (se_var (pe_var rfl (by first | exact .inl rfl | exact .inr (.inl rfl) | exact .inr (.inr rfl)))))) (ss_one (ss_ret (se_str (by first | rfl | decide +kernel)))) ss_nil)
    (ss_cons (ss_dput cx.hu (se_fld T.f_answers (se_var (pe_var rfl (by first | exact .inl rfl | exact .inr (.inl rfl) | exact .inr (.inr rfl))))) (se_var (pe_var rfl (by first | exact .inl rfl | exact .inr (.inl rfl) | exact .inr (.inr rfl)))) (se_var (pe_var rfl (by first | exact .inl rfl | exact .inr (.inl rfl) | exact .inr (.inr rfl)))))
    (ss_cons (ss_if (st_din cx.hu (se_var (pe_var rfl (by first | exact .inl rfl | exact .inr (.inl rfl) | exact .inr (.inr rfl)))) (se_fld T.f_accepted (se_var (pe_var rfl (by first | exact .inl rfl | exact .inr (.inl rfl) | exact .inr (.inr rfl)))))) (ss_cons (ss_asg (se_dget cx.hu (se_fld T.f_accepted (se_var (pe_var rfl (by first | exact .inl rfl | exact .inr (.inl rfl) | exact .inr (.inr rfl))))) (se_var (pe_var rfl (by first | exact .inl rfl | exact .inr (.inl rfl) | exact .inr (.inr rfl))))) (sg_tup cx.calm (pgs_names_cons (pg_name cx.nd rfl (by first | exact .inl rfl | exact .inr rfl)) (pgs_names_cons (pg_name cx.nd rfl (by first | exact .inl rfl | exact .inr rfl)) pgs_names_nil))))
    (ss_cons (ss_if (st_w (sw_or (st_cmp (ops_eq cx.hu) (se_var (pe_var rfl (by first | exact .inl rfl | exact .inr (.inl rfl) | exact .inr (.inr rfl)))) (se_str (by first | rfl | decide +kernel)) rfl) (sw_or (st_w (sw_and (st_tru (se_var (pe_var rfl (by first | exact .inl rfl | exact .inr (.inl rfl) | exact .inr (.inr rfl))))) (sw_and1 (st_cmp (ops_eq cx.hu) (se_var (pe_var rfl (by first | exact .inl rfl | exact .inr (.inl rfl) | exact .inr (.inr rfl)))) (se_str (by first | rfl | decide +kernel)) rfl)))) (sw_or1 (st_w (sw_and (st_not (st_tru (se_var (pe_var rfl (by first | exact .inl rfl | exact .inr (.inl rfl) | exact .inr (.inr rfl)))))) (sw_and1 (st_cmp (ops_in cx.hu) (se_var (pe_var rfl (by first | exact .inl rfl | exact .inr (.inl rfl) | exact .inr (.inr rfl)))) (se_glob rfl T.g_ONCE_ONLY) rfl)))))))) (ss_one (ss_ret (se_str (by first | rfl | decide +kernel)))) ss_nil)
    (ss_one (ss_if (st_w (sw_and (st_cmp (ops_eq cx.hu) (se_var (pe_var rfl (by first | exact .inl rfl | exact .inr (.inl rfl) | exact .inr (.inr rfl)))) (se_str (by first | rfl | decide +kernel)) rfl) (sw_and1 (st_w (sw_or (st_cmp (ops_ne cx.hu) (se_ix (se_var (pe_var rfl (by first | exact .inl rfl | exact .inr (.inl rfl) | exact .inr (.inr rfl)))) se_int) (se_rev (se_var (pe_var rfl (by first | exact .inl rfl | exact .inr (.inl rfl) | exact .inr (.inr rfl))))) rfl) (sw_or1 (st_dnotin cx.hu (se_var (pe_var rfl (by first | exact .inl rfl | exact .inr (.inl rfl) | exact .inr (.inr rfl)))) (se_fld T.f_begun (se_var (pe_var rfl (by first | exact .inl rfl | exact .inr (.inl rfl) | exact .inr (.inr rfl)))))))))))) (ss_one (ss_ret (se_str (by first | rfl | decide +kernel)))) ss_nil)))) ss_nil)
    (ss_one (ss_ret (pe_methG cx (G_Judge_fault_of.mono (by decide)) (se_var (pe_var rfl (by first | exact .inl rfl | exact .inr (.inl rfl) | exact .inr (.inr rfl)))) (sa_cons (se_var (pe_var rfl (by first | exact .inl rfl | exact .inr (.inl rfl) | exact .inr (.inr rfl)))) (sa_cons (se_var (pe_var rfl (by first | exact .inl rfl | exact .inr (.inl rfl) | exact .inr (.inr rfl)))) (sa_cons (se_var (pe_var rfl (by first | exact .inl rfl | exact .inr (.inl rfl) | exact .inr (.inr rfl)))) sa_nil))))))))))))
theorem G_Judge_take (T : Tx K mg) (G_Judge_accept : MethAt PP w K mg base "Judge" "accept" 1 ["self", "key", "once", "body"] f_Judge_accept) (G_Judge_answer : MethAt PP w K mg base "Judge" "answer" 2 ["self", "key", "answer", "fate"] f_Judge_answer) (G_Judge_begin : MethAt PP w K mg base "Judge" "begin" 1 ["self", "key"] f_Judge_begin) : MethAt PP w K mg base "Judge" "take" 3 ["self", "entry"] f_Judge_take :=
  meth_at (k := 2) (N := ["self", "entry", "key"]) (b := b_Judge_take) T.d_Judge_take ⟨rfl, rfl, rfl, by decide +kernel, rfl, by decide +kernel, by decide +kernel⟩ (fun _ _ _ _ _ _ us hl => match us, hl with | [_, _], _ => rfl) fun f cdv A outer s H E cx => (ss_cons (ss_if (st_cmp (ops_eq cx.hu) (se_ix (se_var (pe_var rfl (by first | exact .inl rfl | exact .inr (.inl rfl) | exact .inr (.inr rfl)))) se_int) (se_str (by first | rfl | decide +kernel)) rfl) (ss_cons (ss_dput cx.hu (se_fld T.f_gone (se_var (pe_var rfl (by first | exact .inl rfl | exact .inr (.inl rfl) | exact .inr (.inr rfl))))) (se_ix (se_var (pe_var rfl (by first | exact .inl rfl | exact .inr (.inl rfl) | exact .inr (.inr rfl)))) se_int) se_bl)
    (ss_one (ss_ret se_non))) ss_nil)
    (ss_cons (ss_set cx.nd rfl (by first | exact .inl rfl | exact .inr rfl) (se_tup (sa_cons (se_ix (se_var (pe_var rfl (by first | exact .inl rfl | exact .inr (.inl rfl) | exact .inr (.inr rfl)))) se_int) (sa_cons (se_ix (se_var (pe_var rfl (by first | exact .inl rfl | exact .inr (.inl rfl) | exact .inr (.inr rfl)))) se_int) sa_nil)) (by simp)))
    (ss_cons (ss_if (st_cmp (ops_eq cx.hu) (se_ix (se_var (pe_var rfl (by first | exact .inl rfl | exact .inr (.inl rfl) | exact .inr (.inr rfl)))) se_int) (se_str (by first | rfl | decide +kernel)) rfl) (ss_one (ss_ret (pe_methG cx (G_Judge_accept.mono (by decide)) (se_var (pe_var rfl (by first | exact .inl rfl | exact .inr (.inl rfl) | exact .inr (.inr rfl)))) (sa_cons (se_var (pe_var rfl (by first | exact .inl rfl | exact .inr (.inl rfl) | exact .inr (.inr rfl)))) (sa_cons (se_ix (se_var (pe_var rfl (by first | exact .inl rfl | exact .inr (.inl rfl) | exact .inr (.inr rfl)))) se_int) (sa_cons (se_ix (se_var (pe_var rfl (by first | exact .inl rfl | exact .inr (.inl rfl) | exact .inr (.inr rfl)))) se_int) sa_nil)))))) ss_nil)
    (ss_one (ss_ret (se_if (st_cmp (ops_eq cx.hu) (se_ix (se_var (pe_var rfl (by first | exact .inl rfl | exact .inr (.inl rfl) | exact .inr (.inr rfl)))) se_int) (se_str (by first | rfl | decide +kernel)) rfl) (pe_methG cx (G_Judge_begin.mono (by decide)) (se_var (pe_var rfl (by first | exact .inl rfl | exact .inr (.inl rfl) | exact .inr (.inr rfl)))) (sa_cons (se_var (pe_var rfl (by first | exact .inl rfl | exact .inr (.inl rfl) | exact .inr (.inr rfl)))) sa_nil)) (pe_methG cx (G_Judge_answer.mono (by decide)) (se_var (pe_var rfl (by first | exact .inl rfl | exact .inr (.inl rfl) | exact .inr (.inr rfl)))) (sa_cons (se_var (pe_var rfl (by first | exact .inl rfl | exact .inr (.inl rfl) | exact .inr (.inr rfl)))) (sa_cons (se_ix (se_var (pe_var rfl (by first | exact .inl rfl | exact .inr (.inl rfl) | exact .inr (.inr rfl)))) se_int) (sa_cons (se_ix (se_var (pe_var rfl (by first | exact .inl rfl | exact .inr (.inl rfl) | exact .inr (.inr rfl)))) se_int) sa_nil))))))))))
theorem G_judged (T : Tx K mg) (G_Judge___init__ : MkAt PP w K mg base "Judge" 1 f_Judge___init__) (G_Judge_take : MethAt PP w K mg base "Judge" "take" 3 ["self", "entry"] f_Judge_take) : FnAt PP w K mg base "judged" 4 ["past"] f_judged :=
  fn_at (k := 3) (N := ["past", "judge", "k", "entry", "word"]) (b := b_judged) T.d_judged ⟨rfl, rfl, rfl, by decide +kernel, rfl, by decide +kernel, by decide +kernel⟩ (fun _ _ _ _ _ _ us hl => match us, hl with | [_], _ => rfl) fun f cdv A outer s H E cx => (ss_cons (ss_set cx.nd rfl (by first | exact .inl rfl | exact .inr rfl) (se_make0 cx (G_Judge___init__.mono (by decide)) rfl))
    (ss_cons (ss_for cx.own cx.calm (si_enum rfl T.z_enumerate (se_var (pe_var rfl (by first | exact .inl rfl | exact .inr (.inl rfl) | exact .inr (.inr rfl))))) (sg_tup cx.calm (pgs_names_cons (pg_name cx.nd rfl (by first | exact .inl rfl | exact .inr rfl)) (pgs_names_cons (pg_name cx.nd rfl (by first | exact .inl rfl | exact .inr rfl)) pgs_names_nil))) (ss_cons (ss_set cx.nd rfl (by first | exact .inl rfl | exact .inr rfl) (pe_methG cx (G_Judge_take.mono (by decide)) (se_var (pe_var rfl (by first | exact .inl rfl | exact .inr (.inl rfl) | exact .inr (.inr rfl)))) (sa_cons (se_var (pe_var rfl (by first | exact .inl rfl | exact .inr (.inl rfl) | exact .inr (.inr rfl)))) sa_nil)))
    (ss_one (ss_if (st_cmp ops_isnot (se_var (pe_var rfl (by first | exact .inl rfl | exact .inr (.inl rfl) | exact .inr (.inr rfl)))) se_non rfl) (ss_one (ss_ret (se_tup (sa_cons (se_str (by first | rfl | decide +kernel)) (sa_cons (se_var (pe_var rfl (by first | exact .inl rfl | exact .inr (.inl rfl) | exact .inr (.inr rfl)))) (sa_cons (se_var (pe_var rfl (by first | exact .inl rfl | exact .inr (.inl rfl) | exact .inr (.inr rfl)))) sa_nil))) (by simp)))) ss_nil))))
    (ss_one (ss_ret (se_tup (sa_cons (se_str (by first | rfl | decide +kernel)) (sa_cons (se_bi cr_lenD rfl T.z_len (by first | rfl | decide +kernel) (se_fld T.f_answers (se_var (pe_var rfl (by first | exact .inl rfl | exact .inr (.inl rfl) | exact .inr (.inr rfl)))))) sa_nil)) (by simp))))))
theorem G_is_certificate (T : Tx K mg) (G_are_rising : FnAt PP w K mg base "are_rising" 1 ["items"] f_are_rising) (G_is_bool : FnAt PP w K mg base "is_bool" 1 ["thing"] f_is_bool) (G_judged : FnAt PP w K mg base "judged" 4 ["past"] f_judged) : FnAt PP w K mg base "is_certificate" 5 ["past", "thing"] f_is_certificate :=
  fn_at (k := 4) (N := ["past", "thing", "due", "item"]) (b := b_is_certificate) T.d_is_certificate ⟨rfl, rfl, rfl, by decide +kernel, rfl, by decide +kernel, by decide +kernel⟩ (fun _ _ _ _ _ _ us hl => match us, hl with | [_, _], _ => rfl) fun f cdv A outer s H E cx => (ss_cons (ss_set cx.nd rfl (by first | exact .inl rfl | exact .inr rfl) (se_call cx (G_judged.mono (by decide)) rfl (sa_cons (se_var (pe_var rfl (by first | exact .inl rfl | exact .inr (.inl rfl) | exact .inr (.inr rfl)))) sa_nil)))
    (ss_cons (ss_if (st_w (sw_or (st_not (st_tru (se_isi (T := .tuple) rfl T.z_isinstance (by first | rfl | decide +kernel) (se_var (pe_var rfl (by first | exact .inl rfl | exact .inr (.inl rfl) | exact .inr (.inr rfl)))) rfl T.z_tuple (by first | rfl | decide +kernel)))) (sw_or1 (st_cmp (ops_ne cx.hu) (se_bi cr_len rfl T.z_len (by first | rfl | decide +kernel) (se_var (pe_var rfl (by first | exact .inl rfl | exact .inr (.inl rfl) | exact .inr (.inr rfl))))) (se_bi cr_len rfl T.z_len (by first | rfl | decide +kernel) (se_var (pe_var rfl (by first | exact .inl rfl | exact .inr (.inl rfl) | exact .inr (.inr rfl))))) rfl)))) (ss_one (ss_ret se_bl)) ss_nil)
    (ss_cons (ss_if (st_w (sw_or (st_tru (se_bi (cr_any' cx.calm) rfl T.z_any (by first | rfl | decide +kernel) (se_lcG cx (si_any (se_var (pe_var rfl (by first | exact .inl rfl | exact .inr (.inl rfl) | exact .inr (.inr rfl))))) (blkOk_by (own := [(("item" : Str), 3)]) (by show blkC ["past", "thing", "due", "item"] (defScope (top 26)) _ _ = true; decide +kernel)) (fun _ _ _ _ _ cx => (pg_name cx.nd rfl (.inl rfl))) (fun _ _ _ _ _ cx => (pts0 rfl)) (fun _ _ _ _ _ cx => (se_call cx (G_is_bool.mono (by decide)) rfl (sa_cons (se_var (pe_var rfl (by first | exact .inl rfl | exact .inr (.inl rfl) | exact .inr (.inr rfl)))) sa_nil)))))) (sw_or1 (st_not (st_tru (se_call cx (G_are_rising.mono (by decide)) rfl (sa_cons (se_lst (sa_cons se_int (sa_cons (se_bi cr_len rfl T.z_len (by first | rfl | decide +kernel) (se_var (pe_var rfl (by first | exact .inl rfl | exact .inr (.inl rfl) | exact .inr (.inr rfl))))) sa_nil)) (by simp)) sa_nil))))))) (ss_one (ss_ret se_bl)) ss_nil)
    (ss_one (ss_ret (se_cmp (ops_eq cx.hu) (se_var (pe_var rfl (by first | exact .inl rfl | exact .inr (.inl rfl) | exact .inr (.inr rfl)))) (se_var (pe_var rfl (by first | exact .inl rfl | exact .inr (.inl rfl) | exact .inr (.inr rfl)))) rfl))))))
theorem G_is_past (T : Tx K mg) (G_is_past_value : FnAt PP w K mg base "is_past_value" 5 ["thing"] f_is_past_value) : FnAt PP w K mg base "is_past" 6 ["thing"] f_is_past :=
  fn_at (k := 5) (N := ["thing"]) (b := b_is_past) T.d_is_past ⟨rfl, rfl, rfl, by decide +kernel, rfl, by decide +kernel, by decide +kernel⟩ (fun _ _ _ _ _ _ us hl => match us, hl with | [_], _ => rfl) fun f cdv A outer s H E cx => (ss_one (ss_ret (se_call cx (G_is_past_value.mono (by decide)) rfl (sa_cons (se_var (pe_var rfl (by first | exact .inl rfl | exact .inr (.inl rfl) | exact .inr (.inr rfl)))) sa_nil))))
theorem GK_is_past (T : Tx K mg) (G_is_past_value : FnAt PP w K mg base "is_past_value" 5 ["thing"] f_is_past_value) : FnAtK PP w K mg base "is_past" 6 ["thing"] ["thing"] (fun {_} l => l) f_is_past :=
  fn_atK (k := 5) (N := ["thing"]) (b := b_is_past) T.d_is_past ⟨rfl, rfl, rfl, by decide +kernel, rfl, by decide +kernel, by decide +kernel⟩ (fun _ _ _ _ _ _ us hl => match us, hl with | [_], _ => rfl) fun f cdv A outer s H E cx => (ss_one (ss_ret (se_call cx (G_is_past_value.mono (by decide)) rfl (sa_cons (se_var (pe_var rfl (by first | exact .inl rfl | exact .inr (.inl rfl) | exact .inr (.inr rfl)))) sa_nil))))
theorem G_need_past (T : Tx K mg) (G_is_past_value : FnAt PP w K mg base "is_past_value" 5 ["thing"] f_is_past_value) : FnAt PP w K mg base "need_past" 6 ["past"] f_need_past :=
  fn_at (k := 5) (N := ["past"]) (b := b_need_past) T.d_need_past ⟨rfl, rfl, rfl, by decide +kernel, rfl, by decide +kernel, by decide +kernel⟩ (fun _ _ _ _ _ _ us hl => match us, hl with | [_], _ => rfl) fun f cdv A outer s H E cx => (ss_one (ss_if (st_not (st_tru (se_call cx (G_is_past_value.mono (by decide)) rfl (sa_cons (se_var (pe_var rfl (by first | exact .inl rfl | exact .inr (.inl rfl) | exact .inr (.inr rfl)))) sa_nil)))) (ss_one (ss_raise cx T.bad T.z_super rfl (se_var (pe_var rfl (by first | exact .inl rfl | exact .inr (.inl rfl) | exact .inr (.inr rfl)))))) ss_nil))
theorem G_judge_past (T : Tx K mg) (G_judged : FnAt PP w K mg base "judged" 4 ["past"] f_judged) (G_need_past : FnAt PP w K mg base "need_past" 6 ["past"] f_need_past) : FnAt PP w K mg base "judge_past" 7 ["past"] f_judge_past :=
  fn_at (k := 6) (N := ["past"]) (b := b_judge_past) T.d_judge_past ⟨rfl, rfl, rfl, by decide +kernel, rfl, by decide +kernel, by decide +kernel⟩ (fun _ _ _ _ _ _ us hl => match us, hl with | [_], _ => rfl) fun f cdv A outer s H E cx => (ss_cons (ss_expr (se_call cx (G_need_past.mono (by decide)) rfl (sa_cons (se_var (pe_var rfl (by first | exact .inl rfl | exact .inr (.inl rfl) | exact .inr (.inr rfl)))) sa_nil)))
    (ss_one (ss_ret (se_call cx (G_judged.mono (by decide)) rfl (sa_cons (se_var (pe_var rfl (by first | exact .inl rfl | exact .inr (.inl rfl) | exact .inr (.inr rfl)))) sa_nil)))))
theorem GK_judge_past (T : Tx K mg) (G_judged : FnAt PP w K mg base "judged" 4 ["past"] f_judged) (G_need_past : FnAt PP w K mg base "need_past" 6 ["past"] f_need_past) : FnAtK PP w K mg base "judge_past" 7 ["past"] ["past"] (fun {_} l => l) f_judge_past :=
  fn_atK (k := 6) (N := ["past"]) (b := b_judge_past) T.d_judge_past ⟨rfl, rfl, rfl, by decide +kernel, rfl, by decide +kernel, by decide +kernel⟩ (fun _ _ _ _ _ _ us hl => match us, hl with | [_], _ => rfl) fun f cdv A outer s H E cx => (ss_cons (ss_expr (se_call cx (G_need_past.mono (by decide)) rfl (sa_cons (se_var (pe_var rfl (by first | exact .inl rfl | exact .inr (.inl rfl) | exact .inr (.inr rfl)))) sa_nil)))
    (ss_one (ss_ret (se_call cx (G_judged.mono (by decide)) rfl (sa_cons (se_var (pe_var rfl (by first | exact .inl rfl | exact .inr (.inl rfl) | exact .inr (.inr rfl)))) sa_nil)))))
theorem G_past_holds (T : Tx K mg) (G_is_certificate : FnAt PP w K mg base "is_certificate" 5 ["past", "thing"] f_is_certificate) (G_need_past : FnAt PP w K mg base "need_past" 6 ["past"] f_need_past) : FnAt PP w K mg base "past_holds" 7 ["past", "thing"] f_past_holds :=
  fn_at (k := 6) (N := ["past", "thing"]) (b := b_past_holds) T.d_past_holds ⟨rfl, rfl, rfl, by decide +kernel, rfl, by decide +kernel, by decide +kernel⟩ (fun _ _ _ _ _ _ us hl => match us, hl with | [_, _], _ => rfl) fun f cdv A outer s H E cx => (ss_cons (ss_expr (se_call cx (G_need_past.mono (by decide)) rfl (sa_cons (se_var (pe_var rfl (by first | exact .inl rfl | exact .inr (.inl rfl) | exact .inr (.inr rfl)))) sa_nil)))
    (ss_one (ss_ret (se_call cx (G_is_certificate.mono (by decide)) rfl (sa_cons (se_var (pe_var rfl (by first | exact .inl rfl | exact .inr (.inl rfl) | exact .inr (.inr rfl)))) (sa_cons (se_var (pe_var rfl (by first | exact .inl rfl | exact .inr (.inl rfl) | exact .inr (.inr rfl)))) sa_nil))))))
theorem GK_past_holds (T : Tx K mg) (G_is_certificate : FnAt PP w K mg base "is_certificate" 5 ["past", "thing"] f_is_certificate) (G_need_past : FnAt PP w K mg base "need_past" 6 ["past"] f_need_past) : FnAtK PP w K mg base "past_holds" 7 ["past", "thing"] ["thing", "past"] (fun {_} l => l.reverse) f_past_holds :=
  fn_atK (k := 6) (N := ["past", "thing"]) (b := b_past_holds) T.d_past_holds ⟨rfl, rfl, rfl, by decide +kernel, rfl, by decide +kernel, by decide +kernel⟩ (fun _ _ _ _ _ _ us hl => match us, hl with | [_, _], _ => rfl) fun f cdv A outer s H E cx => (ss_cons (ss_expr (se_call cx (G_need_past.mono (by decide)) rfl (sa_cons (se_var (pe_var rfl (by first | exact .inl rfl | exact .inr (.inl rfl) | exact .inr (.inr rfl)))) sa_nil)))
    (ss_one (ss_ret (se_call cx (G_is_certificate.mono (by decide)) rfl (sa_cons (se_var (pe_var rfl (by first | exact .inl rfl | exact .inr (.inl rfl) | exact .inr (.inr rfl)))) (sa_cons (se_var (pe_var rfl (by first | exact .inl rfl | exact .inr (.inl rfl) | exact .inr (.inr rfl)))) sa_nil))))))
theorem G__law_deck (T : Tx K mg) : FnAt PP w K mg base "_law_deck" 1 ["_law_script"] f__law_deck :=
  fn_at (k := 0) (N := ["_law_script", "_law_mixed", "_law_cell"]) (b := b__law_deck) T.d__law_deck ⟨rfl, rfl, rfl, by decide +kernel, rfl, by decide +kernel, by decide +kernel⟩ (fun _ _ _ _ _ _ us hl => match us, hl with | [_], _ => rfl) fun f cdv A outer s H E cx => (ss_cons (ss_set cx.nd rfl (by first | exact .inl rfl | exact .inr rfl) se_int)
    (ss_cons (ss_for cx.own cx.calm (si_any (se_cut (se_var (pe_var rfl (by first | exact .inl rfl | exact .inr (.inl rfl) | exact .inr (.inr rfl)))) trivial (show SO _ _ (some _) (some _) from se_int))) (sg_name (pg_name cx.nd rfl (by first | exact .inl rfl | exact .inr rfl))) (ss_one (ss_set cx.nd rfl (by first | exact .inl rfl | exact .inr rfl) (se_bin ops_mod (se_ty cr_int rfl T.z_int (by first | rfl | decide +kernel) (se_bin ops_add (se_bin ops_add (se_bin ops_mul (se_var (pe_var rfl (by first | exact .inl rfl | exact .inr (.inl rfl) | exact .inr (.inr rfl)))) se_int) (se_bin ops_mod (se_ty cr_int rfl T.z_int (by first | rfl | decide +kernel) (se_var (pe_var rfl (by first | exact .inl rfl | exact .inr (.inl rfl) | exact .inr (.inr rfl))))) se_int)) se_int)) se_int))))
    (ss_one (ss_ret (se_disp (sp_cons (se_revOwn (se_lcG cx (si_any (se_cut (se_var (pe_var rfl (by first | exact .inl rfl | exact .inr (.inl rfl) | exact .inr (.inr rfl)))) trivial (show SO _ _ (some _) (some _) from se_int))) (blkOk_by (own := [(("_law_cell" : Str), 2)]) (by show blkC ["_law_script", "_law_mixed", "_law_cell"] (defScope (top 33)) _ _ = true; decide +kernel)) (fun _ _ _ _ _ cx => (pg_name cx.nd rfl (.inl rfl))) (fun _ _ _ _ _ cx => (pts0 rfl)) (fun _ _ _ _ _ cx => (se_ty cr_int rfl T.z_int (by first | rfl | decide +kernel) (se_var (pe_var rfl (by first | exact .inl rfl | exact .inr (.inl rfl) | exact .inr (.inr rfl)))))))) (sp_cons (se_var (pe_var rfl (by first | exact .inl rfl | exact .inr (.inl rfl) | exact .inr (.inr rfl)))) (sp_cons se_int sp_nil))) (by simp) (by decide) (by decide +kernel))))))
theorem G__law_draw (T : Tx K mg) : FnAt PP w K mg base "_law_draw" 1 ["_law_deck_here", "_law_many"] f__law_draw :=
  fn_at (k := 0) (N := ["_law_deck_here", "_law_many", "_law_figure", "_law_cell"]) (b := b__law_draw) T.d__law_draw ⟨rfl, rfl, rfl, by decide +kernel, rfl, by decide +kernel, by decide +kernel⟩ (fun _ _ _ _ _ _ us hl => match us, hl with | [_, _], _ => rfl) fun f cdv A outer s H E cx => (ss_cons (ss_dput cx.hu (se_var (pe_var rfl (by first | exact .inl rfl | exact .inr (.inl rfl) | exact .inr (.inr rfl)))) (se_str (by first | rfl | decide +kernel)) (se_bin ops_add (se_dget cx.hu (se_var (pe_var rfl (by first | exact .inl rfl | exact .inr (.inl rfl) | exact .inr (.inr rfl)))) (se_str (by first | rfl | decide +kernel))) se_int))
    (ss_cons (ss_set cx.nd rfl (by first | exact .inl rfl | exact .inr rfl) (se_bin ops_add (se_dget cx.hu (se_var (pe_var rfl (by first | exact .inl rfl | exact .inr (.inl rfl) | exact .inr (.inr rfl)))) (se_str (by first | rfl | decide +kernel))) (se_bin ops_mul se_int (se_dget cx.hu (se_var (pe_var rfl (by first | exact .inl rfl | exact .inr (.inl rfl) | exact .inr (.inr rfl)))) (se_str (by first | rfl | decide +kernel))))))
    (ss_cons (ss_if (st_cmp (ops_neL cx.hu) (se_dget cx.hu (se_var (pe_var rfl (by first | exact .inl rfl | exact .inr (.inl rfl) | exact .inr (.inr rfl)))) (se_str (by first | rfl | decide +kernel))) (se_lst sa_nil (by simp)) rfl) (ss_cons (ss_set cx.nd rfl (by first | exact .inl rfl | exact .inr rfl) (se_pop (se_dget cx.hu (se_var (pe_var rfl (by first | exact .inl rfl | exact .inr (.inl rfl) | exact .inr (.inr rfl)))) (se_str (by first | rfl | decide +kernel)))))
    (ss_cons (ss_if (st_cmp ops_ge (se_var (pe_var rfl (by first | exact .inl rfl | exact .inr (.inl rfl) | exact .inr (.inr rfl)))) (se_bin ops_pow se_int se_int) rfl) (ss_cons (ss_expr (se_append (se_dget cx.hu (se_var (pe_var rfl (by first | exact .inl rfl | exact .inr (.inl rfl) | exact .inr (.inr rfl)))) (se_str (by first | rfl | decide +kernel))) (se_bin ops_div (se_var (pe_var rfl (by first | exact .inl rfl | exact .inr (.inl rfl) | exact .inr (.inr rfl)))) (se_bi2 (cr_max2 cx.calm) rfl T.z_max (by first | rfl | decide +kernel) se_int (se_var (pe_var rfl (by first | exact .inl rfl | exact .inr (.inl rfl) | exact .inr (.inr rfl))))))))
    (ss_one (ss_ret (se_bin ops_mod (se_ty cr_int rfl T.z_int (by first | rfl | decide +kernel) (se_var (pe_var rfl (by first | exact .inl rfl | exact .inr (.inl rfl) | exact .inr (.inr rfl))))) (se_var (pe_var rfl (by first | exact .inl rfl | exact .inr (.inl rfl) | exact .inr (.inr rfl)))))))) ss_nil)
    (ss_one (ss_set cx.nd rfl (by first | exact .inl rfl | exact .inr rfl) (se_bin ops_add (se_var (pe_var rfl (by first | exact .inl rfl | exact .inr (.inl rfl) | exact .inr (.inr rfl)))) (se_bin ops_mod (se_ty cr_int rfl T.z_int (by first | rfl | decide +kernel) (se_var (pe_var rfl (by first | exact .inl rfl | exact .inr (.inl rfl) | exact .inr (.inr rfl))))) se_int)))))) ss_nil)
    (ss_cons (ss_set cx.nd rfl (by first | exact .inl rfl | exact .inr rfl) (se_bin ops_mod (se_ty cr_int rfl T.z_int (by first | rfl | decide +kernel) (se_bin ops_add (se_bin ops_mul (se_var (pe_var rfl (by first | exact .inl rfl | exact .inr (.inl rfl) | exact .inr (.inr rfl)))) se_int) se_int)) se_int))
    (ss_cons (ss_set cx.nd rfl (by first | exact .inl rfl | exact .inr rfl) (se_bin ops_mod (se_ty cr_int rfl T.z_int (by first | rfl | decide +kernel) (se_bin ops_add (se_bin ops_add (se_bin ops_mul (se_var (pe_var rfl (by first | exact .inl rfl | exact .inr (.inl rfl) | exact .inr (.inr rfl)))) (se_var (pe_var rfl (by first | exact .inl rfl | exact .inr (.inl rfl) | exact .inr (.inr rfl))))) (se_bin ops_mul se_int (se_dget cx.hu (se_var (pe_var rfl (by first | exact .inl rfl | exact .inr (.inl rfl) | exact .inr (.inr rfl)))) (se_str (by first | rfl | decide +kernel))))) se_int)) se_int))
    (ss_cons (ss_set cx.nd rfl (by first | exact .inl rfl | exact .inr rfl) (se_bin ops_mod (se_ty cr_int rfl T.z_int (by first | rfl | decide +kernel) (se_bin ops_mul (se_var (pe_var rfl (by first | exact .inl rfl | exact .inr (.inl rfl) | exact .inr (.inr rfl)))) se_int)) se_int))
    (ss_one (ss_ret (se_bin ops_mod (se_ty cr_int rfl T.z_int (by first | rfl | decide +kernel) (se_bin ops_div (se_var (pe_var rfl (by first | exact .inl rfl | exact .inr (.inl rfl) | exact .inr (.inr rfl)))) se_int)) (se_var (pe_var rfl (by first | exact .inl rfl | exact .inr (.inl rfl) | exact .inr (.inr rfl)))))))))))))
theorem G__law_pick (T : Tx K mg) (G__law_draw : FnAt PP w K mg base "_law_draw" 1 ["_law_deck_here", "_law_many"] f__law_draw) : FnAt PP w K mg base "_law_pick" 2 ["_law_deck_here", "_law_some"] f__law_pick :=
  fn_at (k := 1) (N := ["_law_deck_here", "_law_some"]) (b := b__law_pick) T.d__law_pick ⟨rfl, rfl, rfl, by decide +kernel, rfl, by decide +kernel, by decide +kernel⟩ (fun _ _ _ _ _ _ us hl => match us, hl with | [_, _], _ => rfl) fun f cdv A outer s H E cx => (ss_one (ss_ret (se_ix (se_var (pe_var rfl (by first | exact .inl rfl | exact .inr (.inl rfl) | exact .inr (.inr rfl)))) (se_call cx (G__law_draw.mono (by decide)) rfl (sa_cons (se_var (pe_var rfl (by first | exact .inl rfl | exact .inr (.inl rfl) | exact .inr (.inr rfl)))) (sa_cons (se_bi cr_len rfl T.z_len (by first | rfl | decide +kernel) (se_var (pe_var rfl (by first | exact .inl rfl | exact .inr (.inl rfl) | exact .inr (.inr rfl))))) sa_nil))))))
theorem G__law_same (T : Tx K mg) : FnAt PP w K mg base "_law_same" 1 ["_law_told_here", "_law_due"] f__law_same :=
  fn_at (k := 0) (N := ["_law_told_here", "_law_due"]) (b := b__law_same) T.d__law_same ⟨rfl, rfl, rfl, by decide +kernel, rfl, by decide +kernel, by decide +kernel⟩ (fun _ _ _ _ _ _ us hl => match us, hl with | [_, _], _ => rfl) fun f cdv A outer s H E cx => (ss_one (ss_ret (se_cmp (ops_eq cx.hu) (se_bi (cr_repr cx.gd cx.hu) rfl T.z_repr (by first | rfl | decide +kernel) (se_var (pe_var rfl (by first | exact .inl rfl | exact .inr (.inl rfl) | exact .inr (.inr rfl))))) (se_bi (cr_repr cx.gd cx.hu) rfl T.z_repr (by first | rfl | decide +kernel) (se_var (pe_var rfl (by first | exact .inl rfl | exact .inr (.inl rfl) | exact .inr (.inr rfl))))) rfl)))
theorem G__law_is_int (T : Tx K mg) : FnAt PP w K mg base "_law_is_int" 1 ["_law_thing", "_law_least"] f__law_is_int :=
  fn_at (k := 0) (N := ["_law_thing", "_law_least"]) (b := b__law_is_int) T.d__law_is_int ⟨rfl, rfl, rfl, by decide +kernel, rfl, by decide +kernel, by decide +kernel⟩ (fun _ _ _ _ _ _ us hl => match us, hl with | [_, _], _ => rfl) fun f cdv A outer s H E cx => (ss_one (ss_ret (se_and (se_isi (T := .int) rfl T.z_isinstance (by first | rfl | decide +kernel) (se_var (pe_var rfl (by first | exact .inl rfl | exact .inr (.inl rfl) | exact .inr (.inr rfl)))) rfl T.z_int (by first | rfl | decide +kernel)) (se_and (se_notT (se_isi (T := .bool) rfl T.z_isinstance (by first | rfl | decide +kernel) (se_var (pe_var rfl (by first | exact .inl rfl | exact .inr (.inl rfl) | exact .inr (.inr rfl)))) rfl T.z_bool (by first | rfl | decide +kernel))) (se_one (se_cmp ops_ge (se_var (pe_var rfl (by first | exact .inl rfl | exact .inr (.inl rfl) | exact .inr (.inr rfl)))) (se_var (pe_var rfl (by first | exact .inl rfl | exact .inr (.inl rfl) | exact .inr (.inr rfl)))) rfl))))))
theorem G__law_is_word (T : Tx K mg) : FnAt PP w K mg base "_law_is_word" 1 ["_law_thing"] f__law_is_word :=
  fn_at (k := 0) (N := ["_law_thing", "_law_sign"]) (b := b__law_is_word) T.d__law_is_word ⟨rfl, rfl, rfl, by decide +kernel, rfl, by decide +kernel, by decide +kernel⟩ (fun _ _ _ _ _ _ us hl => match us, hl with | [_], _ => rfl) fun f cdv A outer s H E cx => (ss_cons (ss_if (st_w (sw_or (st_not (st_tru (se_isi (T := .str) rfl T.z_isinstance (by first | rfl | decide +kernel) (se_var (pe_var rfl (by first | exact .inl rfl | exact .inr (.inl rfl) | exact .inr (.inr rfl)))) rfl T.z_str (by first | rfl | decide +kernel)))) (sw_or1 (st_not (st_chain (pt_chain ops_le ops_le se_int (se_bi cr_len rfl T.z_len (by first | rfl | decide +kernel) (se_var (pe_var rfl (by first | exact .inl rfl | exact .inr (.inl rfl) | exact .inr (.inr rfl))))) se_int)))))) (ss_one (ss_ret se_bl)) ss_nil)
    (ss_one (ss_ret (se_cmp (ops_eq cx.hu) (se_lcG cx (si_any (se_var (pe_var rfl (by first | exact .inl rfl | exact .inr (.inl rfl) | exact .inr (.inr rfl))))) (blkOk_by (own := [(("_law_sign" : Str), 1)]) (by show blkC ["_law_thing", "_law_sign"] (defScope (top 38)) _ _ = true; decide +kernel)) (fun _ _ _ _ _ cx => (pg_name cx.nd rfl (.inl rfl))) (fun _ _ _ _ _ cx => (pts1 (st_cmp (ops_notin cx.hu) (se_var (pe_var rfl (by first | exact .inl rfl | exact .inr (.inl rfl) | exact .inr (.inr rfl)))) (se_str (by first | rfl | decide +kernel)) rfl))) (fun _ _ _ _ _ cx => se_int)) (se_lst sa_nil (by simp)) rfl))))
theorem G__law_is_body (T : Tx K mg) : FnAt PP w K mg base "_law_is_body" 1 ["_law_thing"] f__law_is_body :=
  fn_at (k := 0) (N := ["_law_thing", "_law_sign"]) (b := b__law_is_body) T.d__law_is_body ⟨rfl, rfl, rfl, by decide +kernel, rfl, by decide +kernel, by decide +kernel⟩ (fun _ _ _ _ _ _ us hl => match us, hl with | [_], _ => rfl) fun f cdv A outer s H E cx => (ss_cons (ss_if (st_w (sw_or (st_not (st_tru (se_isi (T := .str) rfl T.z_isinstance (by first | rfl | decide +kernel) (se_var (pe_var rfl (by first | exact .inl rfl | exact .inr (.inl rfl) | exact .inr (.inr rfl)))) rfl T.z_str (by first | rfl | decide +kernel)))) (sw_or1 (st_cmp ops_gt (se_bi cr_len rfl T.z_len (by first | rfl | decide +kernel) (se_var (pe_var rfl (by first | exact .inl rfl | exact .inr (.inl rfl) | exact .inr (.inr rfl))))) se_int rfl)))) (ss_one (ss_ret se_bl)) ss_nil)
    (ss_one (ss_ret (se_cmp (ops_eq cx.hu) (se_lcG cx (si_any (se_var (pe_var rfl (by first | exact .inl rfl | exact .inr (.inl rfl) | exact .inr (.inr rfl))))) (blkOk_by (own := [(("_law_sign" : Str), 1)]) (by show blkC ["_law_thing", "_law_sign"] (defScope (top 39)) _ _ = true; decide +kernel)) (fun _ _ _ _ _ cx => (pg_name cx.nd rfl (.inl rfl))) (fun _ _ _ _ _ cx => (pts1 (st_not (st_chain (pt_chain ops_le ops_le se_int (se_bi cr_ord rfl T.z_ord (by first | rfl | decide +kernel) (se_var (pe_var rfl (by first | exact .inl rfl | exact .inr (.inl rfl) | exact .inr (.inr rfl))))) se_int))))) (fun _ _ _ _ _ cx => se_int)) (se_lst sa_nil (by simp)) rfl))))
theorem G__law_odd (T : Tx K mg) (G__law_pick : FnAt PP w K mg base "_law_pick" 2 ["_law_deck_here", "_law_some"] f__law_pick) : FnAt PP w K mg base "_law_odd" 3 ["_law_deck_here", "_law_it"] f__law_odd :=
  fn_at (k := 2) (N := ["_law_deck_here", "_law_it", "_law_some"]) (b := b__law_odd) T.d__law_odd ⟨rfl, rfl, rfl, by decide +kernel, rfl, by decide +kernel, by decide +kernel⟩ (fun _ _ _ _ _ _ us hl => match us, hl with | [_, _], _ => rfl) fun f cdv A outer s H E cx => (ss_cons (ss_set cx.nd rfl (by first | exact .inl rfl | exact .inr rfl) (se_lst (sa_cons se_non (sa_cons se_bl (sa_cons se_bl (sa_cons se_int (sa_cons se_int (sa_cons se_int (sa_cons (se_neg se_int) (sa_cons (se_bin ops_pow se_int se_int) (sa_cons (se_bin ops_add (se_bin ops_pow se_int se_int) se_int) (sa_cons (se_str (by first | rfl | decide +kernel)) (sa_cons (se_str (by first | rfl | decide +kernel)) (sa_cons (se_str (by first | rfl | decide +kernel)) (sa_cons (se_str (by first | rfl | decide +kernel)) (sa_cons (se_tup sa_nil (by simp)) (sa_cons (se_tup (sa_cons (se_tup sa_nil (by simp)) sa_nil) (by simp)) (sa_cons (se_lst sa_nil (by simp)) (sa_cons se_newD (sa_cons (se_tup (sa_cons se_int sa_nil) (by simp)) (sa_cons (se_str (by first | rfl | decide +kernel)) (sa_cons (se_lst (sa_cons se_int (sa_cons se_int sa_nil)) (by simp)) (sa_cons (se_str (by first | rfl | decide +kernel)) (sa_cons (se_tup (sa_cons (se_str (by first | rfl | decide +kernel)) sa_nil) (by simp)) (sa_cons (se_lst (sa_cons (se_str (by first | rfl | decide +kernel)) sa_nil) (by simp)) (sa_cons (se_str (by first | rfl | decide +kernel)) (sa_cons (se_str (by first | rfl | decide +kernel)) (sa_cons (se_dispD (sp_cons se_int sp_nil) (by simp) (by decide) (by decide +kernel)) (sa_cons (se_str (by first | rfl | decide +kernel)) (sa_cons (se_bin ops_pow se_int se_int) sa_nil)))))))))))))))))))))))))))) (by simp)))
    (ss_cons (ss_if (st_tru (se_isi (T := .tuple) rfl T.z_isinstance (by first | rfl | decide +kernel) (se_var (pe_var rfl (by first | exact .inl rfl | exact .inr (.inl rfl) | exact .inr (.inr rfl)))) rfl T.z_tuple (by first | rfl | decide +kernel))) (ss_one (ss_set cx.nd rfl (by first | exact .inl rfl | exact .inr rfl) (se_bin ops_add (se_var (pe_var rfl (by first | exact .inl rfl | exact .inr (.inl rfl) | exact .inr (.inr rfl)))) (se_bin ops_mul (se_lst (sa_cons (se_ty cr_list rfl T.z_list (by first | rfl | decide +kernel) (se_var (pe_var rfl (by first | exact .inl rfl | exact .inr (.inl rfl) | exact .inr (.inr rfl))))) (sa_cons (se_bin ops_add (se_var (pe_var rfl (by first | exact .inl rfl | exact .inr (.inl rfl) | exact .inr (.inr rfl)))) (se_tup (sa_cons se_int sa_nil) (by simp))) (sa_cons (se_cut (se_var (pe_var rfl (by first | exact .inl rfl | exact .inr (.inl rfl) | exact .inr (.inr rfl)))) (show SO _ _ (some _) (some _) from se_int) trivial) (sa_cons (se_cut (se_var (pe_var rfl (by first | exact .inl rfl | exact .inr (.inl rfl) | exact .inr (.inr rfl)))) trivial (show SO _ _ (some _) (some _) from (se_neg se_int))) (sa_cons (se_rev (se_var (pe_var rfl (by first | exact .inl rfl | exact .inr (.inl rfl) | exact .inr (.inr rfl))))) (sa_cons (se_bin ops_add (se_var (pe_var rfl (by first | exact .inl rfl | exact .inr (.inl rfl) | exact .inr (.inr rfl)))) (se_cut (se_var (pe_var rfl (by first | exact .inl rfl | exact .inr (.inl rfl) | exact .inr (.inr rfl)))) trivial (show SO _ _ (some _) (some _) from se_int))) (sa_cons (se_tup (sa_cons (se_var (pe_var rfl (by first | exact .inl rfl | exact .inr (.inl rfl) | exact .inr (.inr rfl)))) sa_nil) (by simp)) sa_nil))))))) (by simp)) se_int)))) (ss_one (ss_if (st_tru (se_isi (T := .str) rfl T.z_isinstance (by first | rfl | decide +kernel) (se_var (pe_var rfl (by first | exact .inl rfl | exact .inr (.inl rfl) | exact .inr (.inr rfl)))) rfl T.z_str (by first | rfl | decide +kernel))) (ss_one (ss_set cx.nd rfl (by first | exact .inl rfl | exact .inr rfl) (se_bin ops_add (se_var (pe_var rfl (by first | exact .inl rfl | exact .inr (.inl rfl) | exact .inr (.inr rfl)))) (se_bin ops_mul (se_lst (sa_cons (se_bin ops_add (se_var (pe_var rfl (by first | exact .inl rfl | exact .inr (.inl rfl) | exact .inr (.inr rfl)))) (se_str (by first | rfl | decide +kernel))) (sa_cons (se_cut (se_var (pe_var rfl (by first | exact .inl rfl | exact .inr (.inl rfl) | exact .inr (.inr rfl)))) trivial (show SO _ _ (some _) (some _) from (se_neg se_int))) (sa_cons (se_upper (se_var (pe_var rfl (by first | exact .inl rfl | exact .inr (.inl rfl) | exact .inr (.inr rfl))))) (sa_cons (se_bin ops_add (se_var (pe_var rfl (by first | exact .inl rfl | exact .inr (.inl rfl) | exact .inr (.inr rfl)))) (se_str (by first | rfl | decide +kernel))) (sa_cons (se_lst (sa_cons (se_var (pe_var rfl (by first | exact .inl rfl | exact .inr (.inl rfl) | exact .inr (.inr rfl)))) sa_nil) (by simp)) (sa_cons (se_tup (sa_cons (se_var (pe_var rfl (by first | exact .inl rfl | exact .inr (.inl rfl) | exact .inr (.inr rfl)))) sa_nil) (by simp)) (sa_cons (se_rev (se_var (pe_var rfl (by first | exact .inl rfl | exact .inr (.inl rfl) | exact .inr (.inr rfl))))) (sa_cons (se_bin ops_add (se_var (pe_var rfl (by first | exact .inl rfl | exact .inr (.inl rfl) | exact .inr (.inr rfl)))) (se_str (by first | rfl | decide +kernel))) sa_nil)))))))) (by simp)) se_int)))) (ss_one (ss_if (st_w (sw_and (st_tru (se_isi (T := .int) rfl T.z_isinstance (by first | rfl | decide +kernel) (se_var (pe_var rfl (by first | exact .inl rfl | exact .inr (.inl rfl) | exact .inr (.inr rfl)))) rfl T.z_int (by first | rfl | decide +kernel))) (sw_and1 (st_cmp ops_lt (se_bi cr_abs rfl T.z_abs (by first | rfl | decide +kernel) (se_var (pe_var rfl (by first | exact .inl rfl | exact .inr (.inl rfl) | exact .inr (.inr rfl))))) (se_bin ops_pow se_int se_int) rfl)))) (ss_one (ss_set cx.nd rfl (by first | exact .inl rfl | exact .inr rfl) (se_bin ops_add (se_var (pe_var rfl (by first | exact .inl rfl | exact .inr (.inl rfl) | exact .inr (.inr rfl)))) (se_bin ops_mul (se_lst (sa_cons (se_bin ops_add (se_var (pe_var rfl (by first | exact .inl rfl | exact .inr (.inl rfl) | exact .inr (.inr rfl)))) se_int) (sa_cons (se_bin ops_sub (se_var (pe_var rfl (by first | exact .inl rfl | exact .inr (.inl rfl) | exact .inr (.inr rfl)))) se_int) (sa_cons (se_neg (se_var (pe_var rfl (by first | exact .inl rfl | exact .inr (.inl rfl) | exact .inr (.inr rfl))))) (sa_cons (se_cmp (ops_eq cx.hu) (se_var (pe_var rfl (by first | exact .inl rfl | exact .inr (.inl rfl) | exact .inr (.inr rfl)))) se_int rfl) (sa_cons (se_lst (sa_cons (se_var (pe_var rfl (by first | exact .inl rfl | exact .inr (.inl rfl) | exact .inr (.inr rfl)))) sa_nil) (by simp)) (sa_cons (se_ty cr_str rfl T.z_str (by first | rfl | decide +kernel) (se_var (pe_var rfl (by first | exact .inl rfl | exact .inr (.inl rfl) | exact .inr (.inr rfl))))) (sa_cons (se_cmp (ops_eq cx.hu) (se_var (pe_var rfl (by first | exact .inl rfl | exact .inr (.inl rfl) | exact .inr (.inr rfl)))) se_int rfl) (sa_cons (se_notT (se_var (pe_var rfl (by first | exact .inl rfl | exact .inr (.inl rfl) | exact .inr (.inr rfl))))) sa_nil)))))))) (by simp)) se_int)))) ss_nil)))))
    (ss_one (ss_ret (se_call cx (G__law_pick.mono (by decide)) rfl (sa_cons (se_var (pe_var rfl (by first | exact .inl rfl | exact .inr (.inl rfl) | exact .inr (.inr rfl)))) (sa_cons (se_var (pe_var rfl (by first | exact .inl rfl | exact .inr (.inl rfl) | exact .inr (.inr rfl)))) sa_nil)))))))
theorem G__law_bent (T : Tx K mg) (G__law_draw : FnAt PP w K mg base "_law_draw" 1 ["_law_deck_here", "_law_many"] f__law_draw) (G__law_odd : FnAt PP w K mg base "_law_odd" 3 ["_law_deck_here", "_law_it"] f__law_odd) : ∀ n, FnAt PP w K mg base "_law_bent" (4 + n) ["_law_deck_here", "_law_it"] (f__law_bent n)
  | 0 => fn_none T.d__law_bent (fun _ _ _ _ _ _ us hl => match us, hl with | [_, _], _ => rfl)
  | n + 1 => by
    have G_rec := G__law_bent T G__law_draw G__law_odd n
    have hk : 3 ≤ 4 + n := by omega
    exact fn_at (k := 4 + n) (N := ["_law_deck_here", "_law_it", "_law_at"]) (b := b__law_bent (f__law_bent n)) T.d__law_bent ⟨rfl, rfl, rfl, by decide +kernel, rfl, by decide +kernel, by decide +kernel⟩ (fun _ _ _ _ _ _ us hl => match us, hl with | [_, _], _ => rfl) fun f cdv A outer s H E cx => (ss_cons (ss_if (st_w (sw_or (st_not (st_tru (se_isi (T := .tuple) rfl T.z_isinstance (by first | rfl | decide +kernel) (se_var (pe_var rfl (by first | exact .inl rfl | exact .inr (.inl rfl) | exact .inr (.inr rfl)))) rfl T.z_tuple (by first | rfl | decide +kernel)))) (sw_or (st_cmp (ops_eq cx.hu) (se_var (pe_var rfl (by first | exact .inl rfl | exact .inr (.inl rfl) | exact .inr (.inr rfl)))) (se_tup sa_nil (by simp)) rfl) (sw_or1 (st_cmp (ops_eq cx.hu) (se_call cx (G__law_draw.mono (by omega)) rfl (sa_cons (se_var (pe_var rfl (by first | exact .inl rfl | exact .inr (.inl rfl) | exact .inr (.inr rfl)))) (sa_cons se_int sa_nil))) se_int rfl))))) (ss_one (ss_ret (se_call cx (G__law_odd.mono (by omega)) rfl (sa_cons (se_var (pe_var rfl (by first | exact .inl rfl | exact .inr (.inl rfl) | exact .inr (.inr rfl)))) (sa_cons (se_var (pe_var rfl (by first | exact .inl rfl | exact .inr (.inl rfl) | exact .inr (.inr rfl)))) sa_nil))))) ss_nil)
    (ss_cons (ss_set cx.nd rfl (by first | exact .inl rfl | exact .inr rfl) (se_call cx (G__law_draw.mono (by omega)) rfl (sa_cons (se_var (pe_var rfl (by first | exact .inl rfl | exact .inr (.inl rfl) | exact .inr (.inr rfl)))) (sa_cons (se_bi cr_len rfl T.z_len (by first | rfl | decide +kernel) (se_var (pe_var rfl (by first | exact .inl rfl | exact .inr (.inl rfl) | exact .inr (.inr rfl))))) sa_nil))))
    (ss_one (ss_ret (se_bin ops_add (se_bin ops_add (se_cut (se_var (pe_var rfl (by first | exact .inl rfl | exact .inr (.inl rfl) | exact .inr (.inr rfl)))) trivial (show SO _ _ (some _) (some _) from (se_var (pe_var rfl (by first | exact .inl rfl | exact .inr (.inl rfl) | exact .inr (.inr rfl)))))) (se_tup (sa_cons (se_call cx G_rec rfl (sa_cons (se_var (pe_var rfl (by first | exact .inl rfl | exact .inr (.inl rfl) | exact .inr (.inr rfl)))) (sa_cons (se_ix (se_var (pe_var rfl (by first | exact .inl rfl | exact .inr (.inl rfl) | exact .inr (.inr rfl)))) (se_var (pe_var rfl (by first | exact .inl rfl | exact .inr (.inl rfl) | exact .inr (.inr rfl))))) sa_nil))) sa_nil) (by simp))) (se_cut (se_var (pe_var rfl (by first | exact .inl rfl | exact .inr (.inl rfl) | exact .inr (.inr rfl)))) (show SO _ _ (some _) (some _) from (se_bin ops_add (se_var (pe_var rfl (by first | exact .inl rfl | exact .inr (.inl rfl) | exact .inr (.inr rfl)))) se_int)) trivial))))))
theorem G__law_is_entry (T : Tx K mg) (G__law_is_body : FnAt PP w K mg base "_law_is_body" 1 ["_law_thing"] f__law_is_body) (G__law_is_int : FnAt PP w K mg base "_law_is_int" 1 ["_law_thing", "_law_least"] f__law_is_int) (G__law_is_word : FnAt PP w K mg base "_law_is_word" 1 ["_law_thing"] f__law_is_word) : FnAt PP w K mg base "_law_is_entry" 2 ["_law_thing"] f__law_is_entry :=
  fn_at (k := 1) (N := ["_law_thing", "_law_answer", "_law_fate", "_law_it"]) (b := b__law_is_entry) T.d__law_is_entry ⟨rfl, rfl, rfl, by decide +kernel, rfl, by decide +kernel, by decide +kernel⟩ (fun _ _ _ _ _ _ us hl => match us, hl with | [_], _ => rfl) fun f cdv A outer s H E cx => (ss_cons (ss_if (st_w (sw_or (st_not (st_tru (se_isi (T := .tuple) rfl T.z_isinstance (by first | rfl | decide +kernel) (se_var (pe_var rfl (by first | exact .inl rfl | exact .inr (.inl rfl) | exact .inr (.inr rfl)))) rfl T.z_tuple (by first | rfl | decide +kernel)))) (sw_or (st_cmp ops_lt (se_bi cr_len rfl T.z_len (by first | rfl | decide +kernel) (se_var (pe_var rfl (by first | exact .inl rfl | exact .inr (.inl rfl) | exact .inr (.inr rfl))))) se_int rfl) (sw_or (st_not (st_tru (se_isi (T := .str) rfl T.z_isinstance (by first | rfl | decide +kernel) (se_ix (se_var (pe_var rfl (by first | exact .inl rfl | exact .inr (.inl rfl) | exact .inr (.inr rfl)))) se_int) rfl T.z_str (by first | rfl | decide +kernel)))) (sw_or1 (st_not (st_tru (se_call cx (G__law_is_word.mono (by decide)) rfl (sa_cons (se_ix (se_var (pe_var rfl (by first | exact .inl rfl | exact .inr (.inl rfl) | exact .inr (.inr rfl)))) se_int) sa_nil))))))))) (ss_one (ss_ret se_bl)) ss_nil)
    (ss_cons (ss_if (st_cmp (ops_eq cx.hu) (se_ix (se_var (pe_var rfl (by first | exact .inl rfl | exact .inr (.inl rfl) | exact .inr (.inr rfl)))) se_int) (se_str (by first | rfl | decide +kernel)) rfl) (ss_one (ss_ret (se_cmp (ops_eq cx.hu) (se_bi cr_len rfl T.z_len (by first | rfl | decide +kernel) (se_var (pe_var rfl (by first | exact .inl rfl | exact .inr (.inl rfl) | exact .inr (.inr rfl))))) se_int rfl))) ss_nil)
    (ss_cons (ss_if (st_w (sw_or (st_cmp (ops_ne cx.hu) (se_bi cr_len rfl T.z_len (by first | rfl | decide +kernel) (se_var (pe_var rfl (by first | exact .inl rfl | exact .inr (.inl rfl) | exact .inr (.inr rfl))))) se_int rfl) (sw_or (st_not (st_tru (se_call cx (G__law_is_int.mono (by decide)) rfl (sa_cons (se_ix (se_var (pe_var rfl (by first | exact .inl rfl | exact .inr (.inl rfl) | exact .inr (.inr rfl)))) se_int) (sa_cons se_int sa_nil))))) (sw_or1 (st_cmp ops_gt (se_ix (se_var (pe_var rfl (by first | exact .inl rfl | exact .inr (.inl rfl) | exact .inr (.inr rfl)))) se_int) (se_bin ops_pow se_int se_int) rfl))))) (ss_one (ss_ret se_bl)) ss_nil)
    (ss_cons (ss_if (st_cmp (ops_eq cx.hu) (se_ix (se_var (pe_var rfl (by first | exact .inl rfl | exact .inr (.inl rfl) | exact .inr (.inr rfl)))) se_int) (se_str (by first | rfl | decide +kernel)) rfl) (ss_one (ss_ret (se_and (se_isi (T := .bool) rfl T.z_isinstance (by first | rfl | decide +kernel) (se_ix (se_var (pe_var rfl (by first | exact .inl rfl | exact .inr (.inl rfl) | exact .inr (.inr rfl)))) se_int) rfl T.z_bool (by first | rfl | decide +kernel)) (se_one (se_call cx (G__law_is_body.mono (by decide)) rfl (sa_cons (se_ix (se_var (pe_var rfl (by first | exact .inl rfl | exact .inr (.inl rfl) | exact .inr (.inr rfl)))) se_int) sa_nil)))))) ss_nil)
    (ss_cons (ss_if (st_cmp (ops_eq cx.hu) (se_ix (se_var (pe_var rfl (by first | exact .inl rfl | exact .inr (.inl rfl) | exact .inr (.inr rfl)))) se_int) (se_str (by first | rfl | decide +kernel)) rfl) (ss_one (ss_ret (se_and (se_call cx (G__law_is_word.mono (by decide)) rfl (sa_cons (se_ix (se_var (pe_var rfl (by first | exact .inl rfl | exact .inr (.inl rfl) | exact .inr (.inr rfl)))) se_int) sa_nil)) (se_and (se_call cx (G__law_is_int.mono (by decide)) rfl (sa_cons (se_ix (se_var (pe_var rfl (by first | exact .inl rfl | exact .inr (.inl rfl) | exact .inr (.inr rfl)))) se_int) (sa_cons se_int sa_nil))) (se_one (se_cmp ops_le (se_ix (se_var (pe_var rfl (by first | exact .inl rfl | exact .inr (.inl rfl) | exact .inr (.inr rfl)))) se_int) (se_bin ops_pow se_int se_int) rfl)))))) ss_nil)
    (ss_cons (ss_par cx.calm cx.nd rfl rfl (by decide) rfl rfl (sa_cons (se_ix (se_var (pe_var rfl (by first | exact .inl rfl | exact .inr (.inl rfl) | exact .inr (.inr rfl)))) se_int) (sa_cons (se_ix (se_var (pe_var rfl (by first | exact .inl rfl | exact .inr (.inl rfl) | exact .inr (.inr rfl)))) se_int) sa_nil)) rfl)
    (ss_cons (ss_if (st_w (sw_or (st_cmp (ops_ne cx.hu) (se_ix (se_var (pe_var rfl (by first | exact .inl rfl | exact .inr (.inl rfl) | exact .inr (.inr rfl)))) se_int) (se_str (by first | rfl | decide +kernel)) rfl) (sw_or (st_not (st_tru (se_isi (T := .tuple) rfl T.z_isinstance (by first | rfl | decide +kernel) (se_var (pe_var rfl (by first | exact .inl rfl | exact .inr (.inl rfl) | exact .inr (.inr rfl)))) rfl T.z_tuple (by first | rfl | decide +kernel)))) (sw_or1 (st_not (st_tru (se_isi (T := .str) rfl T.z_isinstance (by first | rfl | decide +kernel) (se_var (pe_var rfl (by first | exact .inl rfl | exact .inr (.inl rfl) | exact .inr (.inr rfl)))) rfl T.z_str (by first | rfl | decide +kernel)))))))) (ss_one (ss_ret se_bl)) ss_nil)
    (ss_cons (ss_if (st_w (sw_or (st_cmp (ops_notin cx.hu) (se_var (pe_var rfl (by first | exact .inl rfl | exact .inr (.inl rfl) | exact .inr (.inr rfl)))) (se_tup (sa_cons (se_str (by first | rfl | decide +kernel)) (sa_cons (se_str (by first | rfl | decide +kernel)) (sa_cons (se_str (by first | rfl | decide +kernel)) (sa_cons (se_str (by first | rfl | decide +kernel)) sa_nil)))) (by simp)) rfl) (sw_or1 (st_cmp (ops_ne cx.hu) (se_lcG cx (si_any (se_var (pe_var rfl (by first | exact .inl rfl | exact .inr (.inl rfl) | exact .inr (.inr rfl))))) (blkOk_by (own := [(("_law_it" : Str), 3)]) (by show blkC ["_law_thing", "_law_answer", "_law_fate", "_law_it"] (defScope (top 42)) _ _ = true; decide +kernel)) (fun _ _ _ _ _ cx => (pg_name cx.nd rfl (.inl rfl))) (fun _ _ _ _ _ cx => (pts1 (st_not (st_tru (se_isi (T := .str) rfl T.z_isinstance (by first | rfl | decide +kernel) (se_var (pe_var rfl (by first | exact .inl rfl | exact .inr (.inl rfl) | exact .inr (.inr rfl)))) rfl T.z_str (by first | rfl | decide +kernel)))))) (fun _ _ _ _ _ cx => se_int)) (se_lst sa_nil (by simp)) rfl)))) (ss_one (ss_ret se_bl)) ss_nil)
    (ss_cons (ss_if (st_cmp (ops_in cx.hu) (se_var (pe_var rfl (by first | exact .inl rfl | exact .inr (.inl rfl) | exact .inr (.inr rfl)))) (se_tup (sa_cons (se_tup (sa_cons (se_str (by first | rfl | decide +kernel)) sa_nil) (by simp)) (sa_cons (se_tup (sa_cons (se_str (by first | rfl | decide +kernel)) sa_nil) (by simp)) (sa_cons (se_tup (sa_cons (se_str (by first | rfl | decide +kernel)) sa_nil) (by simp)) (sa_cons (se_tup (sa_cons (se_str (by first | rfl | decide +kernel)) sa_nil) (by simp)) (sa_cons (se_tup (sa_cons (se_str (by first | rfl | decide +kernel)) sa_nil) (by simp)) sa_nil))))) (by simp)) rfl) (ss_one (ss_ret se_bl)) ss_nil)
    (ss_one (ss_ret (se_and (se_cmp (ops_eq cx.hu) (se_bi cr_len rfl T.z_len (by first | rfl | decide +kernel) (se_var (pe_var rfl (by first | exact .inl rfl | exact .inr (.inl rfl) | exact .inr (.inr rfl))))) se_int rfl) (se_and (se_cmp (ops_eq cx.hu) (se_ix (se_var (pe_var rfl (by first | exact .inl rfl | exact .inr (.inl rfl) | exact .inr (.inr rfl)))) se_int) (se_str (by first | rfl | decide +kernel)) rfl) (se_one (se_call cx (G__law_is_body.mono (by decide)) rfl (sa_cons (se_ix (se_var (pe_var rfl (by first | exact .inl rfl | exact .inr (.inl rfl) | exact .inr (.inr rfl)))) se_int) sa_nil))))))))))))))))
theorem G__law_is_past (T : Tx K mg) (G__law_is_entry : FnAt PP w K mg base "_law_is_entry" 2 ["_law_thing"] f__law_is_entry) : FnAt PP w K mg base "_law_is_past" 3 ["_law_thing"] f__law_is_past :=
  fn_at (k := 2) (N := ["_law_thing", "_law_row"]) (b := b__law_is_past) T.d__law_is_past ⟨rfl, rfl, rfl, by decide +kernel, rfl, by decide +kernel, by decide +kernel⟩ (fun _ _ _ _ _ _ us hl => match us, hl with | [_], _ => rfl) fun f cdv A outer s H E cx => (ss_one (ss_ret (se_and (se_isi (T := .tuple) rfl T.z_isinstance (by first | rfl | decide +kernel) (se_var (pe_var rfl (by first | exact .inl rfl | exact .inr (.inl rfl) | exact .inr (.inr rfl)))) rfl T.z_tuple (by first | rfl | decide +kernel)) (se_one (se_cmp (ops_eq cx.hu) (se_lcG cx (si_any (se_var (pe_var rfl (by first | exact .inl rfl | exact .inr (.inl rfl) | exact .inr (.inr rfl))))) (blkOk_by (own := [(("_law_row" : Str), 1)]) (by show blkC ["_law_thing", "_law_row"] (defScope (top 43)) _ _ = true; decide +kernel)) (fun _ _ _ _ _ cx => (pg_name cx.nd rfl (.inl rfl))) (fun _ _ _ _ _ cx => (pts1 (st_not (st_tru (se_call cx (G__law_is_entry.mono (by decide)) rfl (sa_cons (se_var (pe_var rfl (by first | exact .inl rfl | exact .inr (.inl rfl) | exact .inr (.inr rfl)))) sa_nil)))))) (fun _ _ _ _ _ cx => se_int)) (se_lst sa_nil (by simp)) rfl)))))
theorem G__law_answer_word (T : Tx K mg) : FnAt PP w K mg base "_law_answer_word" 1 ["_law_row", "_law_once", "_law_body", "_law_is_begun"] f__law_answer_word :=
  fn_at (k := 0) (N := ["_law_row", "_law_once", "_law_body", "_law_is_begun", "_law_answer", "_law_fate", "_law_is_bad"]) (b := b__law_answer_word) T.d__law_answer_word ⟨rfl, rfl, rfl, by decide +kernel, rfl, by decide +kernel, by decide +kernel⟩ (fun _ _ _ _ _ _ us hl => match us, hl with | [_, _, _, _], _ => rfl) fun f cdv A outer s H E cx => (ss_cons (ss_par cx.calm cx.nd rfl rfl (by decide) rfl rfl (sa_cons (se_ix (se_var (pe_var rfl (by first | exact .inl rfl | exact .inr (.inl rfl) | exact .inr (.inr rfl)))) se_int) (sa_cons (se_ix (se_var (pe_var rfl (by first | exact .inl rfl | exact .inr (.inl rfl) | exact .inr (.inr rfl)))) se_int) sa_nil)) rfl)
    (ss_cons (ss_if (st_w (sw_or (st_w (sw_and (st_cmp (ops_eq cx.hu) (se_var (pe_var rfl (by first | exact .inl rfl | exact .inr (.inl rfl) | exact .inr (.inr rfl)))) (se_tup (sa_cons (se_str (by first | rfl | decide +kernel)) sa_nil) (by simp)) rfl) (sw_and1 (st_tru (se_var (pe_var rfl (by first | exact .inl rfl | exact .inr (.inl rfl) | exact .inr (.inr rfl)))))))) (sw_or1 (st_w (sw_and (st_cmp (ops_in cx.hu) (se_var (pe_var rfl (by first | exact .inl rfl | exact .inr (.inl rfl) | exact .inr (.inr rfl)))) (se_tup (sa_cons (se_tup (sa_cons (se_str (by first | rfl | decide +kernel)) sa_nil) (by simp)) (sa_cons (se_tup (sa_cons (se_str (by first | rfl | decide +kernel)) sa_nil) (by simp)) (sa_cons (se_tup (sa_cons (se_str (by first | rfl | decide +kernel)) sa_nil) (by simp)) sa_nil))) (by simp)) rfl) (sw_and1 (st_cmp ops_is (se_var (pe_var rfl (by first | exact .inl rfl | exact .inr (.inl rfl) | exact .inr (.inr rfl)))) se_bl rfl))))))) (ss_one (ss_ret (se_str (by first | rfl | decide +kernel)))) ss_nil)
    (ss_cons (ss_if (st_w (sw_and (st_cmp (ops_eq cx.hu) (se_var (pe_var rfl (by first | exact .inl rfl | exact .inr (.inl rfl) | exact .inr (.inr rfl)))) (se_tup (sa_cons (se_str (by first | rfl | decide +kernel)) sa_nil) (by simp)) rfl) (sw_and1 (st_cmp ops_isnot (se_var (pe_var rfl (by first | exact .inl rfl | exact .inr (.inl rfl) | exact .inr (.inr rfl)))) se_non rfl)))) (ss_one (ss_ret (se_str (by first | rfl | decide +kernel)))) ss_nil)
    (ss_cons (ss_if (st_w (sw_and (st_cmp (ops_eq cx.hu) (se_ix (se_var (pe_var rfl (by first | exact .inl rfl | exact .inr (.inl rfl) | exact .inr (.inr rfl)))) se_int) (se_str (by first | rfl | decide +kernel)) rfl) (sw_and1 (st_w (sw_or (st_cmp (ops_ne cx.hu) (se_ix (se_var (pe_var rfl (by first | exact .inl rfl | exact .inr (.inl rfl) | exact .inr (.inr rfl)))) se_int) (se_rev (se_var (pe_var rfl (by first | exact .inl rfl | exact .inr (.inl rfl) | exact .inr (.inr rfl))))) rfl) (sw_or1 (st_not (st_tru (se_var (pe_var rfl (by first | exact .inl rfl | exact .inr (.inl rfl) | exact .inr (.inr rfl)))))))))))) (ss_one (ss_ret (se_str (by first | rfl | decide +kernel)))) ss_nil)
    (ss_cons (ss_if (st_w (sw_and (st_cmp (ops_eq cx.hu) (se_var (pe_var rfl (by first | exact .inl rfl | exact .inr (.inl rfl) | exact .inr (.inr rfl)))) (se_tup (sa_cons (se_str (by first | rfl | decide +kernel)) sa_nil) (by simp)) rfl) (sw_and1 (st_not (st_tru (se_var (pe_var rfl (by first | exact .inl rfl | exact .inr (.inl rfl) | exact .inr (.inr rfl))))))))) (ss_one (ss_ret (se_str (by first | rfl | decide +kernel)))) ss_nil)
    (ss_cons (ss_if (st_w (sw_and (st_cmp (ops_eq cx.hu) (se_var (pe_var rfl (by first | exact .inl rfl | exact .inr (.inl rfl) | exact .inr (.inr rfl)))) (se_tup (sa_cons (se_str (by first | rfl | decide +kernel)) sa_nil) (by simp)) rfl) (sw_and1 (st_tru (se_var (pe_var rfl (by first | exact .inl rfl | exact .inr (.inl rfl) | exact .inr (.inr rfl)))))))) (ss_one (ss_ret (se_str (by first | rfl | decide +kernel)))) ss_nil)
    (ss_cons (ss_set cx.nd rfl (by first | exact .inl rfl | exact .inr rfl) (se_or (se_and (se_cmp (ops_eq cx.hu) (se_var (pe_var rfl (by first | exact .inl rfl | exact .inr (.inl rfl) | exact .inr (.inr rfl)))) (se_tup (sa_cons (se_str (by first | rfl | decide +kernel)) sa_nil) (by simp)) rfl) (se_one (se_cmp (ops_ne cx.hu) (se_var (pe_var rfl (by first | exact .inl rfl | exact .inr (.inl rfl) | exact .inr (.inr rfl)))) (se_str (by first | rfl | decide +kernel)) rfl))) (se_one (se_and (se_cmp (ops_eq cx.hu) (se_var (pe_var rfl (by first | exact .inl rfl | exact .inr (.inl rfl) | exact .inr (.inr rfl)))) (se_tup (sa_cons (se_str (by first | rfl | decide +kernel)) sa_nil) (by simp)) rfl) (se_one (se_cmp (ops_eq cx.hu) (se_var (pe_var rfl (by first | exact .inl rfl | exact .inr (.inl rfl) | exact .inr (.inr rfl)))) (se_str (by first | rfl | decide +kernel)) rfl))))))
    (ss_cons (ss_set cx.nd rfl (by first | exact .inl rfl | exact .inr rfl) (se_or (se_var (pe_var rfl (by first | exact .inl rfl | exact .inr (.inl rfl) | exact .inr (.inr rfl)))) (se_or (se_and (se_cmp (ops_eq cx.hu) (se_var (pe_var rfl (by first | exact .inl rfl | exact .inr (.inl rfl) | exact .inr (.inr rfl)))) (se_tup (sa_cons (se_str (by first | rfl | decide +kernel)) sa_nil) (by simp)) rfl) (se_one (se_cmp (ops_eq cx.hu) (se_var (pe_var rfl (by first | exact .inl rfl | exact .inr (.inl rfl) | exact .inr (.inr rfl)))) (se_str (by first | rfl | decide +kernel)) rfl))) (se_one (se_cmp (ops_ne cx.hu) (se_cmp (ops_eq cx.hu) (se_var (pe_var rfl (by first | exact .inl rfl | exact .inr (.inl rfl) | exact .inr (.inr rfl)))) (se_str (by first | rfl | decide +kernel)) rfl) (se_cmp (ops_eq cx.hu) (se_var (pe_var rfl (by first | exact .inl rfl | exact .inr (.inl rfl) | exact .inr (.inr rfl)))) (se_tup (sa_cons (se_str (by first | rfl | decide +kernel)) sa_nil) (by simp)) rfl) rfl)))))
    (ss_one (ss_ret (se_if (st_tru (se_var (pe_var rfl (by first | exact .inl rfl | exact .inr (.inl rfl) | exact .inr (.inr rfl))))) (se_str (by first | rfl | decide +kernel)) (se_str (by first | rfl | decide +kernel)))))))))))))
theorem G__law_word_of (T : Tx K mg) (G__law_answer_word : FnAt PP w K mg base "_law_answer_word" 1 ["_law_row", "_law_once", "_law_body", "_law_is_begun"] f__law_answer_word) : FnAt PP w K mg base "_law_word_of" 2 ["_law_past", "_law_at"] f__law_word_of :=
  fn_at (k := 1) (N := ["_law_past", "_law_at", "_law_row", "_law_ahead", "_law_mine", "_law_old", "_law_accepted", "_law_begun", "_law_answers", "_law_is_busy", "_law_answer", "_law_once", "_law_body"]) (b := b__law_word_of) T.d__law_word_of ⟨rfl, rfl, rfl, by decide +kernel, rfl, by decide +kernel, by decide +kernel⟩ (fun _ _ _ _ _ _ us hl => match us, hl with | [_, _], _ => rfl) fun f cdv A outer s H E cx => (ss_cons (ss_asg (se_tup (sa_cons (se_ix (se_var (pe_var rfl (by first | exact .inl rfl | exact .inr (.inl rfl) | exact .inr (.inr rfl)))) (se_var (pe_var rfl (by first | exact .inl rfl | exact .inr (.inl rfl) | exact .inr (.inr rfl))))) (sa_cons (se_cut (se_var (pe_var rfl (by first | exact .inl rfl | exact .inr (.inl rfl) | exact .inr (.inr rfl)))) trivial (show SO _ _ (some _) (some _) from (se_var (pe_var rfl (by first | exact .inl rfl | exact .inr (.inl rfl) | exact .inr (.inr rfl)))))) sa_nil)) (by simp)) (sg_tup cx.calm (pgs_names_cons (pg_name cx.nd rfl (by first | exact .inl rfl | exact .inr rfl)) (pgs_names_cons (pg_name cx.nd rfl (by first | exact .inl rfl | exact .inr rfl)) pgs_names_nil))))
    (ss_cons (ss_setLcG cx rfl rfl rfl rfl (by decide +kernel) (si_any (se_var (pe_var rfl (by first | exact .inl rfl | exact .inr (.inl rfl) | exact .inr (.inr rfl))))) (blkOk_by (own := [(("_law_old" : Str), 5)]) (by show blkC ["_law_past", "_law_at", "_law_row", "_law_ahead", "_law_mine", "_law_old", "_law_accepted", "_law_begun", "_law_answers", "_law_is_busy", "_law_answer", "_law_once", "_law_body"] (defScope (top 45)) _ _ = true; decide +kernel)) (fun _ _ _ _ _ cx => (pg_name cx.nd rfl (.inl rfl))) (fun _ _ _ _ _ cx => (pts1 (st_cmp (ops_eq cx.hu) (se_cut (se_var (pe_var rfl (by first | exact .inl rfl | exact .inr (.inl rfl) | exact .inr (.inr rfl)))) (show SO _ _ (some _) (some _) from se_int) (show SO _ _ (some _) (some _) from se_int)) (se_cut (se_var (pe_var rfl (by first | exact .inl rfl | exact .inr (.inl rfl) | exact .inr (.inr rfl)))) (show SO _ _ (some _) (some _) from se_int) (show SO _ _ (some _) (some _) from se_int)) rfl))) (fun _ _ _ _ _ cx => (se_var (pe_var rfl (by first | exact .inl rfl | exact .inr (.inl rfl) | exact .inr (.inr rfl))))))
    (ss_cons (ss_setLcG cx rfl rfl rfl rfl (by decide +kernel) (si_any (se_var (pe_var rfl (by first | exact .inl rfl | exact .inr (.inl rfl) | exact .inr (.inr rfl))))) (blkOk_by (own := [(("_law_old" : Str), 5)]) (by show blkC ["_law_past", "_law_at", "_law_row", "_law_ahead", "_law_mine", "_law_old", "_law_accepted", "_law_begun", "_law_answers", "_law_is_busy", "_law_answer", "_law_once", "_law_body"] (defScope (top 45)) _ _ = true; decide +kernel)) (fun _ _ _ _ _ cx => (pg_name cx.nd rfl (.inl rfl))) (fun _ _ _ _ _ cx => (pts1 (st_cmp (ops_eq cx.hu) (se_ix (se_var (pe_var rfl (by first | exact .inl rfl | exact .inr (.inl rfl) | exact .inr (.inr rfl)))) se_int) (se_str (by first | rfl | decide +kernel)) rfl))) (fun _ _ _ _ _ cx => (se_var (pe_var rfl (by first | exact .inl rfl | exact .inr (.inl rfl) | exact .inr (.inr rfl))))))
    (ss_cons (ss_par cx.calm cx.nd rfl rfl (by decide) rfl rfl (sa_cons (se_lcG cx (si_any (se_var (pe_var rfl (by first | exact .inl rfl | exact .inr (.inl rfl) | exact .inr (.inr rfl))))) (blkOk_by (own := [(("_law_old" : Str), 5)]) (by show blkC ["_law_past", "_law_at", "_law_row", "_law_ahead", "_law_mine", "_law_old", "_law_accepted", "_law_begun", "_law_answers", "_law_is_busy", "_law_answer", "_law_once", "_law_body"] (defScope (top 45)) _ _ = true; decide +kernel)) (fun _ _ _ _ _ cx => (pg_name cx.nd rfl (.inl rfl))) (fun _ _ _ _ _ cx => (pts1 (st_cmp (ops_eq cx.hu) (se_ix (se_var (pe_var rfl (by first | exact .inl rfl | exact .inr (.inl rfl) | exact .inr (.inr rfl)))) se_int) (se_str (by first | rfl | decide +kernel)) rfl))) (fun _ _ _ _ _ cx => (se_var (pe_var rfl (by first | exact .inl rfl | exact .inr (.inl rfl) | exact .inr (.inr rfl)))))) (sa_cons (se_lcG cx (si_any (se_var (pe_var rfl (by first | exact .inl rfl | exact .inr (.inl rfl) | exact .inr (.inr rfl))))) (blkOk_by (own := [(("_law_old" : Str), 5)]) (by show blkC ["_law_past", "_law_at", "_law_row", "_law_ahead", "_law_mine", "_law_old", "_law_accepted", "_law_begun", "_law_answers", "_law_is_busy", "_law_answer", "_law_once", "_law_body"] (defScope (top 45)) _ _ = true; decide +kernel)) (fun _ _ _ _ _ cx => (pg_name cx.nd rfl (.inl rfl))) (fun _ _ _ _ _ cx => (pts1 (st_cmp (ops_eq cx.hu) (se_ix (se_var (pe_var rfl (by first | exact .inl rfl | exact .inr (.inl rfl) | exact .inr (.inr rfl)))) se_int) (se_str (by first | rfl | decide +kernel)) rfl))) (fun _ _ _ _ _ cx => (se_ix (se_var (pe_var rfl (by first | exact .inl rfl | exact .inr (.inl rfl) | exact .inr (.inr rfl)))) se_int))) sa_nil)) rfl)
    (ss_cons (ss_if (st_cmp (ops_eq cx.hu) (se_ix (se_var (pe_var rfl (by first | exact .inl rfl | exact .inr (.inl rfl) | exact .inr (.inr rfl)))) se_int) (se_str (by first | rfl | decide +kernel)) rfl) (ss_one (ss_ret (se_str (by first | rfl | decide +kernel)))) ss_nil)
    (ss_cons (ss_if (st_w (sw_and (st_cmp (ops_eq cx.hu) (se_ix (se_var (pe_var rfl (by first | exact .inl rfl | exact .inr (.inl rfl) | exact .inr (.inr rfl)))) se_int) (se_str (by first | rfl | decide +kernel)) rfl) (sw_and1 (st_cmp (ops_ne cx.hu) (se_var (pe_var rfl (by first | exact .inl rfl | exact .inr (.inl rfl) | exact .inr (.inr rfl)))) (se_lst sa_nil (by simp)) rfl)))) (ss_one (ss_ret (se_str (by first | rfl | decide +kernel)))) ss_nil)
    (ss_cons (ss_set cx.nd rfl (by first | exact .inl rfl | exact .inr rfl) (se_and (se_cmp (ops_eq cx.hu) (se_ix (se_var (pe_var rfl (by first | exact .inl rfl | exact .inr (.inl rfl) | exact .inr (.inr rfl)))) se_int) (se_str (by first | rfl | decide +kernel)) rfl) (se_one (se_cmp (ops_eq cx.hu) (se_ix (se_var (pe_var rfl (by first | exact .inl rfl | exact .inr (.inl rfl) | exact .inr (.inr rfl)))) se_int) (se_tup (sa_cons (se_str (by first | rfl | decide +kernel)) sa_nil) (by simp)) rfl))))
    (ss_cons (ss_if (st_w (sw_and (st_cmp (ops_ne cx.hu) (se_ix (se_var (pe_var rfl (by first | exact .inl rfl | exact .inr (.inl rfl) | exact .inr (.inr rfl)))) se_int) (se_str (by first | rfl | decide +kernel)) rfl) (sw_and (st_not (st_tru (se_var (pe_var rfl (by first | exact .inl rfl | exact .inr (.inl rfl) | exact .inr (.inr rfl)))))) (sw_and1 (st_cmp (ops_eq cx.hu) (se_var (pe_var rfl (by first | exact .inl rfl | exact .inr (.inl rfl) | exact .inr (.inr rfl)))) (se_lst sa_nil (by simp)) rfl))))) (ss_one (ss_ret (se_str (by first | rfl | decide +kernel)))) ss_nil)
    (ss_cons (ss_if (st_w (sw_and (st_cmp (ops_ne cx.hu) (se_ix (se_var (pe_var rfl (by first | exact .inl rfl | exact .inr (.inl rfl) | exact .inr (.inr rfl)))) se_int) (se_str (by first | rfl | decide +kernel)) rfl) (sw_and1 (st_cmp (ops_in cx.hu) (se_tup (sa_cons (se_str (by first | rfl | decide +kernel)) (sa_cons (se_ix (se_var (pe_var rfl (by first | exact .inl rfl | exact .inr (.inl rfl) | exact .inr (.inr rfl)))) se_int) sa_nil)) (by simp)) (se_var (pe_var rfl (by first | exact .inl rfl | exact .inr (.inl rfl) | exact .inr (.inr rfl)))) rfl)))) (ss_one (ss_ret (se_str (by first | rfl | decide +kernel)))) ss_nil)
    (ss_cons (ss_if (st_w (sw_and (st_cmp (ops_eq cx.hu) (se_ix (se_var (pe_var rfl (by first | exact .inl rfl | exact .inr (.inl rfl) | exact .inr (.inr rfl)))) se_int) (se_str (by first | rfl | decide +kernel)) rfl) (sw_and (st_cmp (ops_ne cx.hu) (se_var (pe_var rfl (by first | exact .inl rfl | exact .inr (.inl rfl) | exact .inr (.inr rfl)))) (se_lst sa_nil (by simp)) rfl) (sw_and1 (st_tru (se_ix (se_ix (se_var (pe_var rfl (by first | exact .inl rfl | exact .inr (.inl rfl) | exact .inr (.inr rfl)))) se_int) se_int)))))) (ss_one (ss_ret (se_str (by first | rfl | decide +kernel)))) ss_nil)
    (ss_cons (ss_if (st_w (sw_and (st_cmp (ops_eq cx.hu) (se_ix (se_var (pe_var rfl (by first | exact .inl rfl | exact .inr (.inl rfl) | exact .inr (.inr rfl)))) se_int) (se_str (by first | rfl | decide +kernel)) rfl) (sw_and1 (st_cmp (ops_ne cx.hu) (se_lcG cx (si_any (se_var (pe_var rfl (by first | exact .inl rfl | exact .inr (.inl rfl) | exact .inr (.inr rfl))))) (blkOk_by (own := [(("_law_answer" : Str), 10)]) (by show blkC ["_law_past", "_law_at", "_law_row", "_law_ahead", "_law_mine", "_law_old", "_law_accepted", "_law_begun", "_law_answers", "_law_is_busy", "_law_answer", "_law_once", "_law_body"] (defScope (top 45)) _ _ = true; decide +kernel)) (fun _ _ _ _ _ cx => (pg_name cx.nd rfl (.inl rfl))) (fun _ _ _ _ _ cx => (pts1 (st_cmp (ops_in cx.hu) (se_var (pe_var rfl (by first | exact .inl rfl | exact .inr (.inl rfl) | exact .inr (.inr rfl)))) (se_tup (sa_cons (se_tup (sa_cons (se_str (by first | rfl | decide +kernel)) sa_nil) (by simp)) (sa_cons (se_tup (sa_cons (se_str (by first | rfl | decide +kernel)) sa_nil) (by simp)) sa_nil)) (by simp)) rfl))) (fun _ _ _ _ _ cx => se_int)) (se_lst sa_nil (by simp)) rfl)))) (ss_one (ss_ret (se_str (by first | rfl | decide +kernel)))) ss_nil)
    (ss_cons (ss_if (st_w (sw_or (st_w (sw_and (st_cmp (ops_eq cx.hu) (se_ix (se_var (pe_var rfl (by first | exact .inl rfl | exact .inr (.inl rfl) | exact .inr (.inr rfl)))) se_int) (se_str (by first | rfl | decide +kernel)) rfl) (sw_and1 (st_cmp (ops_ne cx.hu) (se_var (pe_var rfl (by first | exact .inl rfl | exact .inr (.inl rfl) | exact .inr (.inr rfl)))) (se_lst sa_nil (by simp)) rfl)))) (sw_or1 (st_w (sw_and (st_cmp (ops_eq cx.hu) (se_ix (se_var (pe_var rfl (by first | exact .inl rfl | exact .inr (.inl rfl) | exact .inr (.inr rfl)))) se_int) (se_str (by first | rfl | decide +kernel)) rfl) (sw_and1 (st_cmp (ops_in cx.hu) (se_tup (sa_cons (se_str (by first | rfl | decide +kernel)) sa_nil) (by simp)) (se_var (pe_var rfl (by first | exact .inl rfl | exact .inr (.inl rfl) | exact .inr (.inr rfl)))) rfl))))))) (ss_one (ss_ret (se_str (by first | rfl | decide +kernel)))) ss_nil)
    (ss_cons (ss_if (st_cmp (ops_ne cx.hu) (se_ix (se_var (pe_var rfl (by first | exact .inl rfl | exact .inr (.inl rfl) | exact .inr (.inr rfl)))) se_int) (se_str (by first | rfl | decide +kernel)) rfl) (ss_one (ss_ret (se_str (by first | rfl | decide +kernel)))) ss_nil)
    (ss_cons (ss_asg (se_if (st_cmp (ops_ne cx.hu) (se_var (pe_var rfl (by first | exact .inl rfl | exact .inr (.inl rfl) | exact .inr (.inr rfl)))) (se_lst sa_nil (by simp)) rfl) (se_cut (se_ix (se_var (pe_var rfl (by first | exact .inl rfl | exact .inr (.inl rfl) | exact .inr (.inr rfl)))) se_int) (show SO _ _ (some _) (some _) from se_int) trivial) (se_tup (sa_cons se_non (sa_cons (se_str (by first | rfl | decide +kernel)) sa_nil)) (by simp))) (sg_tup cx.calm (pgs_names_cons (pg_name cx.nd rfl (by first | exact .inl rfl | exact .inr rfl)) (pgs_names_cons (pg_name cx.nd rfl (by first | exact .inl rfl | exact .inr rfl)) pgs_names_nil))))
    (ss_one (ss_ret (se_call cx (G__law_answer_word.mono (by decide)) rfl (sa_cons (se_var (pe_var rfl (by first | exact .inl rfl | exact .inr (.inl rfl) | exact .inr (.inr rfl)))) (sa_cons (se_var (pe_var rfl (by first | exact .inl rfl | exact .inr (.inl rfl) | exact .inr (.inr rfl)))) (sa_cons (se_var (pe_var rfl (by first | exact .inl rfl | exact .inr (.inl rfl) | exact .inr (.inr rfl)))) (sa_cons (se_cmp (ops_ne cx.hu) (se_var (pe_var rfl (by first | exact .inl rfl | exact .inr (.inl rfl) | exact .inr (.inr rfl)))) (se_lst sa_nil (by simp)) rfl) sa_nil)))))))))))))))))))))
theorem G__law_judged (T : Tx K mg) (G__law_word_of : FnAt PP w K mg base "_law_word_of" 2 ["_law_past", "_law_at"] f__law_word_of) : FnAt PP w K mg base "_law_judged" 3 ["_law_past"] f__law_judged :=
  fn_at (k := 2) (N := ["_law_past", "_law_at", "_law_row", "_law_word"]) (b := b__law_judged) T.d__law_judged ⟨rfl, rfl, rfl, by decide +kernel, rfl, by decide +kernel, by decide +kernel⟩ (fun _ _ _ _ _ _ us hl => match us, hl with | [_], _ => rfl) fun f cdv A outer s H E cx => (ss_cons (ss_for cx.own cx.calm (si_enum rfl T.z_enumerate (se_var (pe_var rfl (by first | exact .inl rfl | exact .inr (.inl rfl) | exact .inr (.inr rfl))))) (sg_tup cx.calm (pgs_names_cons (pg_name cx.nd rfl (by first | exact .inl rfl | exact .inr rfl)) (pgs_names_cons (pg_name cx.nd rfl (by first | exact .inl rfl | exact .inr rfl)) pgs_names_nil))) (ss_cons (ss_set cx.nd rfl (by first | exact .inl rfl | exact .inr rfl) (se_call cx (G__law_word_of.mono (by decide)) rfl (sa_cons (se_var (pe_var rfl (by first | exact .inl rfl | exact .inr (.inl rfl) | exact .inr (.inr rfl)))) (sa_cons (se_var (pe_var rfl (by first | exact .inl rfl | exact .inr (.inl rfl) | exact .inr (.inr rfl)))) sa_nil))))
    (ss_one (ss_if (st_cmp (ops_ne cx.hu) (se_var (pe_var rfl (by first | exact .inl rfl | exact .inr (.inl rfl) | exact .inr (.inr rfl)))) (se_str (by first | rfl | decide +kernel)) rfl) (ss_one (ss_ret (se_tup (sa_cons (se_str (by first | rfl | decide +kernel)) (sa_cons (se_var (pe_var rfl (by first | exact .inl rfl | exact .inr (.inl rfl) | exact .inr (.inr rfl)))) (sa_cons (se_var (pe_var rfl (by first | exact .inl rfl | exact .inr (.inl rfl) | exact .inr (.inr rfl)))) sa_nil))) (by simp)))) ss_nil))))
    (ss_one (ss_ret (se_tup (sa_cons (se_str (by first | rfl | decide +kernel)) (sa_cons (se_bi cr_len rfl T.z_len (by first | rfl | decide +kernel) (se_lcG cx (si_any (se_var (pe_var rfl (by first | exact .inl rfl | exact .inr (.inl rfl) | exact .inr (.inr rfl))))) (blkOk_by (own := [(("_law_row" : Str), 2)]) (by show blkC ["_law_past", "_law_at", "_law_row", "_law_word"] (defScope (top 46)) _ _ = true; decide +kernel)) (fun _ _ _ _ _ cx => (pg_name cx.nd rfl (.inl rfl))) (fun _ _ _ _ _ cx => (pts1 (st_cmp (ops_eq cx.hu) (se_ix (se_var (pe_var rfl (by first | exact .inl rfl | exact .inr (.inl rfl) | exact .inr (.inr rfl)))) se_int) (se_str (by first | rfl | decide +kernel)) rfl))) (fun _ _ _ _ _ cx => se_int))) sa_nil)) (by simp)))))
theorem G__law_drawn_request (T : Tx K mg) (G__law_draw : FnAt PP w K mg base "_law_draw" 1 ["_law_deck_here", "_law_many"] f__law_draw) (G__law_pick : FnAt PP w K mg base "_law_pick" 2 ["_law_deck_here", "_law_some"] f__law_pick) : FnAt PP w K mg base "_law_drawn_request" 3 ["_law_deck_here"] f__law_drawn_request :=
  fn_at (k := 2) (N := ["_law_deck_here", "_law_client", "_law_number"]) (b := b__law_drawn_request) T.d__law_drawn_request ⟨rfl, rfl, rfl, by decide +kernel, rfl, by decide +kernel, by decide +kernel⟩ (fun _ _ _ _ _ _ us hl => match us, hl with | [_], _ => rfl) fun f cdv A outer s H E cx => (ss_cons (ss_par cx.calm cx.nd rfl rfl (by decide) rfl rfl (sa_cons (se_call cx (G__law_pick.mono (by decide)) rfl (sa_cons (se_var (pe_var rfl (by first | exact .inl rfl | exact .inr (.inl rfl) | exact .inr (.inr rfl)))) (sa_cons (se_tup (sa_cons (se_str (by first | rfl | decide +kernel)) (sa_cons (se_str (by first | rfl | decide +kernel)) sa_nil)) (by simp)) sa_nil))) (sa_cons (se_call cx (G__law_pick.mono (by decide)) rfl (sa_cons (se_var (pe_var rfl (by first | exact .inl rfl | exact .inr (.inl rfl) | exact .inr (.inr rfl)))) (sa_cons (se_tup (sa_cons se_int (sa_cons se_int (sa_cons (se_bin ops_pow se_int se_int) sa_nil))) (by simp)) sa_nil))) sa_nil)) rfl)
    (ss_one (ss_ret (se_tup (sa_cons (se_var (pe_var rfl (by first | exact .inl rfl | exact .inr (.inl rfl) | exact .inr (.inr rfl)))) (sa_cons (se_var (pe_var rfl (by first | exact .inl rfl | exact .inr (.inl rfl) | exact .inr (.inr rfl)))) (sa_cons (se_cmp (ops_ne cx.hu) (se_var (pe_var rfl (by first | exact .inl rfl | exact .inr (.inl rfl) | exact .inr (.inr rfl)))) se_int rfl) (sa_cons (se_if (st_cmp (ops_eq cx.hu) (se_var (pe_var rfl (by first | exact .inl rfl | exact .inr (.inl rfl) | exact .inr (.inr rfl)))) (se_str (by first | rfl | decide +kernel)) rfl) (se_ix (se_tup (sa_cons (se_str (by first | rfl | decide +kernel)) (sa_cons (se_str (by first | rfl | decide +kernel)) (sa_cons (se_str (by first | rfl | decide +kernel)) sa_nil))) (by simp)) (se_call cx (G__law_draw.mono (by decide)) rfl (sa_cons (se_var (pe_var rfl (by first | exact .inl rfl | exact .inr (.inl rfl) | exact .inr (.inr rfl)))) (sa_cons se_int sa_nil)))) (se_str (by first | rfl | decide +kernel))) sa_nil)))) (by simp)))))
theorem G__law_answered_entry (T : Tx K mg) (G__law_draw : FnAt PP w K mg base "_law_draw" 1 ["_law_deck_here", "_law_many"] f__law_draw) (G__law_pick : FnAt PP w K mg base "_law_pick" 2 ["_law_deck_here", "_law_some"] f__law_pick) : FnAt PP w K mg base "_law_answered_entry" 3 ["_law_deck_here", "_law_past", "_law_request"] f__law_answered_entry :=
  fn_at (k := 2) (N := ["_law_deck_here", "_law_past", "_law_request", "_law_client", "_law_number", "_law_once", "_law_body", "_law_begun", "_law_row", "_law_some", "_law_words", "_law_answer", "_law_fate"]) (b := b__law_answered_entry) T.d__law_answered_entry ⟨rfl, rfl, rfl, by decide +kernel, rfl, by decide +kernel, by decide +kernel⟩ (fun _ _ _ _ _ _ us hl => match us, hl with | [_, _, _], _ => rfl) fun f cdv A outer s H E cx => (ss_cons (ss_asg (se_var (pe_var rfl (by first | exact .inl rfl | exact .inr (.inl rfl) | exact .inr (.inr rfl)))) (sg_tup cx.calm (pgs_names_cons (pg_name cx.nd rfl (by first | exact .inl rfl | exact .inr rfl)) (pgs_names_cons (pg_name cx.nd rfl (by first | exact .inl rfl | exact .inr rfl)) (pgs_names_cons (pg_name cx.nd rfl (by first | exact .inl rfl | exact .inr rfl)) (pgs_names_cons (pg_name cx.nd rfl (by first | exact .inl rfl | exact .inr rfl)) pgs_names_nil))))))
    (ss_cons (ss_set cx.nd rfl (by first | exact .inl rfl | exact .inr rfl) (se_cmp (ops_ne cx.hu) (se_lcG cx (si_any (se_var (pe_var rfl (by first | exact .inl rfl | exact .inr (.inl rfl) | exact .inr (.inr rfl))))) (blkOk_by (own := [(("_law_row" : Str), 8)]) (by show blkC ["_law_deck_here", "_law_past", "_law_request", "_law_client", "_law_number", "_law_once", "_law_body", "_law_begun", "_law_row", "_law_some", "_law_words", "_law_answer", "_law_fate"] (defScope (top 48)) _ _ = true; decide +kernel)) (fun _ _ _ _ _ cx => (pg_name cx.nd rfl (.inl rfl))) (fun _ _ _ _ _ cx => (pts1 (st_w (sw_and (st_cmp (ops_eq cx.hu) (se_ix (se_var (pe_var rfl (by first | exact .inl rfl | exact .inr (.inl rfl) | exact .inr (.inr rfl)))) se_int) (se_str (by first | rfl | decide +kernel)) rfl) (sw_and1 (st_cmp (ops_eq cx.hu) (se_cut (se_var (pe_var rfl (by first | exact .inl rfl | exact .inr (.inl rfl) | exact .inr (.inr rfl)))) (show SO _ _ (some _) (some _) from se_int) (show SO _ _ (some _) (some _) from se_int)) (se_tup (sa_cons (se_var (pe_var rfl (by first | exact .inl rfl | exact .inr (.inl rfl) | exact .inr (.inr rfl)))) (sa_cons (se_var (pe_var rfl (by first | exact .inl rfl | exact .inr (.inl rfl) | exact .inr (.inr rfl)))) sa_nil)) (by simp)) rfl)))))) (fun _ _ _ _ _ cx => se_int)) (se_lst sa_nil (by simp)) rfl))
    (ss_cons (ss_set cx.nd rfl (by first | exact .inl rfl | exact .inr rfl) (se_lst (sa_cons (se_tup (sa_cons (se_tup (sa_cons (se_str (by first | rfl | decide +kernel)) (sa_cons (se_rev (se_var (pe_var rfl (by first | exact .inl rfl | exact .inr (.inl rfl) | exact .inr (.inr rfl))))) sa_nil)) (by simp)) (sa_cons (se_str (by first | rfl | decide +kernel)) sa_nil)) (by simp)) (sa_cons (se_tup (sa_cons (se_tup (sa_cons (se_str (by first | rfl | decide +kernel)) (sa_cons (se_rev (se_var (pe_var rfl (by first | exact .inl rfl | exact .inr (.inl rfl) | exact .inr (.inr rfl))))) sa_nil)) (by simp)) (sa_cons (se_str (by first | rfl | decide +kernel)) sa_nil)) (by simp)) sa_nil)) (by simp)))
    (ss_cons (ss_if (st_not (st_tru (se_var (pe_var rfl (by first | exact .inl rfl | exact .inr (.inl rfl) | exact .inr (.inr rfl)))))) (ss_one (ss_set cx.nd rfl (by first | exact .inl rfl | exact .inr rfl) (se_lst (sa_cons (se_tup (sa_cons (se_tup (sa_cons (se_str (by first | rfl | decide +kernel)) sa_nil) (by simp)) (sa_cons (se_str (by first | rfl | decide +kernel)) sa_nil)) (by simp)) sa_nil) (by simp)))) ss_nil)
    (ss_cons (ss_if (st_tru (se_var (pe_var rfl (by first | exact .inl rfl | exact .inr (.inl rfl) | exact .inr (.inr rfl))))) (ss_one (ss_set cx.nd rfl (by first | exact .inl rfl | exact .inr rfl) (se_bin ops_add (se_bin ops_add (se_var (pe_var rfl (by first | exact .inl rfl | exact .inr (.inl rfl) | exact .inr (.inr rfl)))) (se_lst (sa_cons (se_tup (sa_cons (se_tup (sa_cons (se_str (by first | rfl | decide +kernel)) sa_nil) (by simp)) (sa_cons (se_str (by first | rfl | decide +kernel)) sa_nil)) (by simp)) sa_nil) (by simp))) (se_if (st_tru (se_var (pe_var rfl (by first | exact .inl rfl | exact .inr (.inl rfl) | exact .inr (.inr rfl))))) (se_lst (sa_cons (se_tup (sa_cons (se_tup (sa_cons (se_str (by first | rfl | decide +kernel)) sa_nil) (by simp)) (sa_cons (se_str (by first | rfl | decide +kernel)) sa_nil)) (by simp)) sa_nil) (by simp)) (se_lst (sa_cons (se_tup (sa_cons (se_tup (sa_cons (se_str (by first | rfl | decide +kernel)) sa_nil) (by simp)) (sa_cons (se_str (by first | rfl | decide +kernel)) sa_nil)) (by simp)) sa_nil) (by simp)))))) (ss_one (ss_set cx.nd rfl (by first | exact .inl rfl | exact .inr rfl) (se_bin ops_add (se_var (pe_var rfl (by first | exact .inl rfl | exact .inr (.inl rfl) | exact .inr (.inr rfl)))) (se_lst (sa_cons (se_tup (sa_cons (se_tup (sa_cons (se_str (by first | rfl | decide +kernel)) sa_nil) (by simp)) (sa_cons (se_str (by first | rfl | decide +kernel)) sa_nil)) (by simp)) (sa_cons (se_tup (sa_cons (se_tup (sa_cons (se_str (by first | rfl | decide +kernel)) sa_nil) (by simp)) (sa_cons (se_str (by first | rfl | decide +kernel)) sa_nil)) (by simp)) sa_nil)) (by simp))))))
    (ss_cons (ss_if (st_cmp (ops_eq cx.hu) (se_call cx (G__law_draw.mono (by decide)) rfl (sa_cons (se_var (pe_var rfl (by first | exact .inl rfl | exact .inr (.inl rfl) | exact .inr (.inr rfl)))) (sa_cons se_int sa_nil))) se_int rfl) (ss_cons (ss_set cx.nd rfl (by first | exact .inl rfl | exact .inr rfl) (se_tup (sa_cons (se_tup (sa_cons (se_str (by first | rfl | decide +kernel)) sa_nil) (by simp)) (sa_cons (se_tup (sa_cons (se_str (by first | rfl | decide +kernel)) sa_nil) (by simp)) (sa_cons (se_tup (sa_cons (se_str (by first | rfl | decide +kernel)) sa_nil) (by simp)) (sa_cons (se_tup (sa_cons (se_str (by first | rfl | decide +kernel)) sa_nil) (by simp)) (sa_cons (se_tup (sa_cons (se_str (by first | rfl | decide +kernel)) sa_nil) (by simp)) (sa_cons (se_tup (sa_cons (se_str (by first | rfl | decide +kernel)) (sa_cons (se_var (pe_var rfl (by first | exact .inl rfl | exact .inr (.inl rfl) | exact .inr (.inr rfl)))) sa_nil)) (by simp)) (sa_cons (se_tup (sa_cons (se_str (by first | rfl | decide +kernel)) (sa_cons (se_str (by first | rfl | decide +kernel)) sa_nil)) (by simp)) sa_nil))))))) (by simp)))
    (ss_one (ss_set cx.nd rfl (by first | exact .inl rfl | exact .inr rfl) (se_lst (sa_cons (se_tup (sa_cons (se_call cx (G__law_pick.mono (by decide)) rfl (sa_cons (se_var (pe_var rfl (by first | exact .inl rfl | exact .inr (.inl rfl) | exact .inr (.inr rfl)))) (sa_cons (se_var (pe_var rfl (by first | exact .inl rfl | exact .inr (.inl rfl) | exact .inr (.inr rfl)))) sa_nil))) (sa_cons (se_call cx (G__law_pick.mono (by decide)) rfl (sa_cons (se_var (pe_var rfl (by first | exact .inl rfl | exact .inr (.inl rfl) | exact .inr (.inr rfl)))) (sa_cons (se_tup (sa_cons (se_str (by first | rfl | decide +kernel)) (sa_cons (se_str (by first | rfl | decide +kernel)) (sa_cons (se_str (by first | rfl | decide +kernel)) (sa_cons (se_str (by first | rfl | decide +kernel)) sa_nil)))) (by simp)) sa_nil))) sa_nil)) (by simp)) sa_nil) (by simp))))) ss_nil)
    (ss_cons (ss_asg (se_call cx (G__law_pick.mono (by decide)) rfl (sa_cons (se_var (pe_var rfl (by first | exact .inl rfl | exact .inr (.inl rfl) | exact .inr (.inr rfl)))) (sa_cons (se_var (pe_var rfl (by first | exact .inl rfl | exact .inr (.inl rfl) | exact .inr (.inr rfl)))) sa_nil))) (sg_tup cx.calm (pgs_names_cons (pg_name cx.nd rfl (by first | exact .inl rfl | exact .inr rfl)) (pgs_names_cons (pg_name cx.nd rfl (by first | exact .inl rfl | exact .inr rfl)) pgs_names_nil))))
    (ss_one (ss_ret (se_tup (sa_cons (se_str (by first | rfl | decide +kernel)) (sa_cons (se_var (pe_var rfl (by first | exact .inl rfl | exact .inr (.inl rfl) | exact .inr (.inr rfl)))) (sa_cons (se_var (pe_var rfl (by first | exact .inl rfl | exact .inr (.inl rfl) | exact .inr (.inr rfl)))) (sa_cons (se_var (pe_var rfl (by first | exact .inl rfl | exact .inr (.inl rfl) | exact .inr (.inr rfl)))) (sa_cons (se_var (pe_var rfl (by first | exact .inl rfl | exact .inr (.inl rfl) | exact .inr (.inr rfl)))) sa_nil))))) (by simp)))))))))))
theorem G__law_drawn_past (T : Tx K mg) (G__law_answered_entry : FnAt PP w K mg base "_law_answered_entry" 3 ["_law_deck_here", "_law_past", "_law_request"] f__law_answered_entry) (G__law_draw : FnAt PP w K mg base "_law_draw" 1 ["_law_deck_here", "_law_many"] f__law_draw) (G__law_drawn_request : FnAt PP w K mg base "_law_drawn_request" 3 ["_law_deck_here"] f__law_drawn_request) (G__law_pick : FnAt PP w K mg base "_law_pick" 2 ["_law_deck_here", "_law_some"] f__law_pick) (G__law_word_of : FnAt PP w K mg base "_law_word_of" 2 ["_law_past", "_law_at"] f__law_word_of) : FnAt PP w K mg base "_law_drawn_past" 4 ["_law_deck_here"] f__law_drawn_past :=
  fn_at (k := 3) (N := ["_law_deck_here", "_law_past", "_law_go", "_law_client", "_law_number", "_law_once", "_law_body", "_law_entry", "_law_way", "_law_mine", "_law_row"]) (b := b__law_drawn_past) T.d__law_drawn_past ⟨rfl, rfl, rfl, by decide +kernel, rfl, by decide +kernel, by decide +kernel⟩ (fun _ _ _ _ _ _ us hl => match us, hl with | [_], _ => rfl) fun f cdv A outer s H E cx => (ss_cons (ss_set cx.nd rfl (by first | exact .inl rfl | exact .inr rfl) (se_tup sa_nil (by simp)))
    (ss_cons (ss_for cx.own cx.calm (si_range rfl T.z_range (se_call cx (G__law_pick.mono (by decide)) rfl (sa_cons (se_var (pe_var rfl (by first | exact .inl rfl | exact .inr (.inl rfl) | exact .inr (.inr rfl)))) (sa_cons (se_tup (sa_cons se_int (sa_cons se_int (sa_cons se_int (sa_cons se_int (sa_cons se_int (sa_cons se_int (sa_cons se_int (sa_cons se_int sa_nil)))))))) (by simp)) sa_nil)))) (sg_name (pg_name cx.nd rfl (by first | exact .inl rfl | exact .inr rfl))) (ss_cons (ss_asg (se_call cx (G__law_drawn_request.mono (by decide)) rfl (sa_cons (se_var (pe_var rfl (by first | exact .inl rfl | exact .inr (.inl rfl) | exact .inr (.inr rfl)))) sa_nil)) (sg_tup cx.calm (pgs_names_cons (pg_name cx.nd rfl (by first | exact .inl rfl | exact .inr rfl)) (pgs_names_cons (pg_name cx.nd rfl (by first | exact .inl rfl | exact .inr rfl)) (pgs_names_cons (pg_name cx.nd rfl (by first | exact .inl rfl | exact .inr rfl)) (pgs_names_cons (pg_name cx.nd rfl (by first | exact .inl rfl | exact .inr rfl)) pgs_names_nil))))))
    (ss_cons (ss_par cx.calm cx.nd rfl rfl (by decide) rfl rfl (sa_cons (se_tup (sa_cons (se_str (by first | rfl | decide +kernel)) (sa_cons (se_var (pe_var rfl (by first | exact .inl rfl | exact .inr (.inl rfl) | exact .inr (.inr rfl)))) (sa_cons (se_var (pe_var rfl (by first | exact .inl rfl | exact .inr (.inl rfl) | exact .inr (.inr rfl)))) (sa_cons (se_var (pe_var rfl (by first | exact .inl rfl | exact .inr (.inl rfl) | exact .inr (.inr rfl)))) (sa_cons (se_var (pe_var rfl (by first | exact .inl rfl | exact .inr (.inl rfl) | exact .inr (.inr rfl)))) sa_nil))))) (by simp)) (sa_cons (se_call cx (G__law_draw.mono (by decide)) rfl (sa_cons (se_var (pe_var rfl (by first | exact .inl rfl | exact .inr (.inl rfl) | exact .inr (.inr rfl)))) (sa_cons se_int sa_nil))) sa_nil)) rfl)
    (ss_cons (ss_setLcG cx rfl rfl rfl rfl (by decide +kernel) (si_any (se_var (pe_var rfl (by first | exact .inl rfl | exact .inr (.inl rfl) | exact .inr (.inr rfl))))) (blkOk_by (own := [(("_law_row" : Str), 10)]) (by show blkC ["_law_deck_here", "_law_past", "_law_go", "_law_client", "_law_number", "_law_once", "_law_body", "_law_entry", "_law_way", "_law_mine", "_law_row"] (defScope (top 49)) _ _ = true; decide +kernel)) (fun _ _ _ _ _ cx => (pg_name cx.nd rfl (.inl rfl))) (fun _ _ _ _ _ cx => (pts1 (st_w (sw_and (st_cmp (ops_eq cx.hu) (se_ix (se_var (pe_var rfl (by first | exact .inl rfl | exact .inr (.inl rfl) | exact .inr (.inr rfl)))) se_int) (se_str (by first | rfl | decide +kernel)) rfl) (sw_and1 (st_cmp (ops_eq cx.hu) (se_cut (se_var (pe_var rfl (by first | exact .inl rfl | exact .inr (.inl rfl) | exact .inr (.inr rfl)))) (show SO _ _ (some _) (some _) from se_int) (show SO _ _ (some _) (some _) from se_int)) (se_tup (sa_cons (se_var (pe_var rfl (by first | exact .inl rfl | exact .inr (.inl rfl) | exact .inr (.inr rfl)))) (sa_cons (se_var (pe_var rfl (by first | exact .inl rfl | exact .inr (.inl rfl) | exact .inr (.inr rfl)))) sa_nil)) (by simp)) rfl)))))) (fun _ _ _ _ _ cx => (se_var (pe_var rfl (by first | exact .inl rfl | exact .inr (.inl rfl) | exact .inr (.inr rfl))))))
    (ss_cons (ss_if (st_cmp (ops_ne cx.hu) (se_var (pe_var rfl (by first | exact .inl rfl | exact .inr (.inl rfl) | exact .inr (.inr rfl)))) (se_lst sa_nil (by simp)) rfl) (ss_cons (ss_asg (se_cut (se_ix (se_var (pe_var rfl (by first | exact .inl rfl | exact .inr (.inl rfl) | exact .inr (.inr rfl)))) se_int) (show SO _ _ (some _) (some _) from se_int) trivial) (sg_tup cx.calm (pgs_names_cons (pg_name cx.nd rfl (by first | exact .inl rfl | exact .inr rfl)) (pgs_names_cons (pg_name cx.nd rfl (by first | exact .inl rfl | exact .inr rfl)) pgs_names_nil))))
    (ss_cons (ss_set cx.nd rfl (by first | exact .inl rfl | exact .inr rfl) (se_tup (sa_cons (se_str (by first | rfl | decide +kernel)) (sa_cons (se_var (pe_var rfl (by first | exact .inl rfl | exact .inr (.inl rfl) | exact .inr (.inr rfl)))) (sa_cons (se_var (pe_var rfl (by first | exact .inl rfl | exact .inr (.inl rfl) | exact .inr (.inr rfl)))) (sa_cons (se_call cx (G__law_pick.mono (by decide)) rfl (sa_cons (se_var (pe_var rfl (by first | exact .inl rfl | exact .inr (.inl rfl) | exact .inr (.inr rfl)))) (sa_cons (se_tup (sa_cons (se_str (by first | rfl | decide +kernel)) (sa_cons (se_str (by first | rfl | decide +kernel)) sa_nil)) (by simp)) sa_nil))) (sa_cons (se_bin ops_add se_int (se_call cx (G__law_draw.mono (by decide)) rfl (sa_cons (se_var (pe_var rfl (by first | exact .inl rfl | exact .inr (.inl rfl) | exact .inr (.inr rfl)))) (sa_cons se_int sa_nil)))) sa_nil))))) (by simp)))
    (ss_one (ss_if (st_cmp ops_gt (se_var (pe_var rfl (by first | exact .inl rfl | exact .inr (.inl rfl) | exact .inr (.inr rfl)))) se_int rfl) (ss_one (ss_set cx.nd rfl (by first | exact .inl rfl | exact .inr rfl) (se_call cx (G__law_answered_entry.mono (by decide)) rfl (sa_cons (se_var (pe_var rfl (by first | exact .inl rfl | exact .inr (.inl rfl) | exact .inr (.inr rfl)))) (sa_cons (se_var (pe_var rfl (by first | exact .inl rfl | exact .inr (.inl rfl) | exact .inr (.inr rfl)))) (sa_cons (se_tup (sa_cons (se_var (pe_var rfl (by first | exact .inl rfl | exact .inr (.inl rfl) | exact .inr (.inr rfl)))) (sa_cons (se_var (pe_var rfl (by first | exact .inl rfl | exact .inr (.inl rfl) | exact .inr (.inr rfl)))) (sa_cons (se_var (pe_var rfl (by first | exact .inl rfl | exact .inr (.inl rfl) | exact .inr (.inr rfl)))) (sa_cons (se_var (pe_var rfl (by first | exact .inl rfl | exact .inr (.inl rfl) | exact .inr (.inr rfl)))) sa_nil)))) (by simp)) sa_nil)))))) ss_nil)))) ss_nil)
    (ss_cons (ss_if (st_cmp (ops_eq cx.hu) (se_var (pe_var rfl (by first | exact .inl rfl | exact .inr (.inl rfl) | exact .inr (.inr rfl)))) se_int rfl) (ss_one (ss_set cx.nd rfl (by first | exact .inl rfl | exact .inr rfl) (se_tup (sa_cons (se_str (by first | rfl | decide +kernel)) (sa_cons (se_var (pe_var rfl (by first | exact .inl rfl | exact .inr (.inl rfl) | exact .inr (.inr rfl)))) (sa_cons (se_var (pe_var rfl (by first | exact .inl rfl | exact .inr (.inl rfl) | exact .inr (.inr rfl)))) (sa_cons (se_tup (sa_cons (se_str (by first | rfl | decide +kernel)) sa_nil) (by simp)) (sa_cons (se_str (by first | rfl | decide +kernel)) sa_nil))))) (by simp)))) ss_nil)
    (ss_cons (ss_if (st_w (sw_and (st_cmp (ops_eq cx.hu) (se_var (pe_var rfl (by first | exact .inl rfl | exact .inr (.inl rfl) | exact .inr (.inr rfl)))) se_int rfl) (sw_and1 (st_cmp (ops_eq cx.hu) (se_call cx (G__law_draw.mono (by decide)) rfl (sa_cons (se_var (pe_var rfl (by first | exact .inl rfl | exact .inr (.inl rfl) | exact .inr (.inr rfl)))) (sa_cons se_int sa_nil))) se_int rfl)))) (ss_one (ss_set cx.nd rfl (by first | exact .inl rfl | exact .inr rfl) (se_tup (sa_cons (se_str (by first | rfl | decide +kernel)) (sa_cons (se_var (pe_var rfl (by first | exact .inl rfl | exact .inr (.inl rfl) | exact .inr (.inr rfl)))) sa_nil)) (by simp)))) ss_nil)
    (ss_one (ss_if (st_w (sw_or (st_cmp (ops_eq cx.hu) (se_call cx (G__law_word_of.mono (by decide)) rfl (sa_cons (se_bin ops_add (se_var (pe_var rfl (by first | exact .inl rfl | exact .inr (.inl rfl) | exact .inr (.inr rfl)))) (se_tup (sa_cons (se_var (pe_var rfl (by first | exact .inl rfl | exact .inr (.inl rfl) | exact .inr (.inr rfl)))) sa_nil) (by simp))) (sa_cons (se_bi cr_len rfl T.z_len (by first | rfl | decide +kernel) (se_var (pe_var rfl (by first | exact .inl rfl | exact .inr (.inl rfl) | exact .inr (.inr rfl))))) sa_nil))) (se_str (by first | rfl | decide +kernel)) rfl) (sw_or1 (st_cmp (ops_eq cx.hu) (se_call cx (G__law_draw.mono (by decide)) rfl (sa_cons (se_var (pe_var rfl (by first | exact .inl rfl | exact .inr (.inl rfl) | exact .inr (.inr rfl)))) (sa_cons se_int sa_nil))) se_int rfl)))) (ss_one (ss_set cx.nd rfl (by first | exact .inl rfl | exact .inr rfl) (se_bin ops_add (se_var (pe_var rfl (by first | exact .inl rfl | exact .inr (.inl rfl) | exact .inr (.inr rfl)))) (se_tup (sa_cons (se_var (pe_var rfl (by first | exact .inl rfl | exact .inr (.inl rfl) | exact .inr (.inr rfl)))) sa_nil) (by simp))))) ss_nil)))))))))
    (ss_one (ss_ret (se_var (pe_var rfl (by first | exact .inl rfl | exact .inr (.inl rfl) | exact .inr (.inr rfl))))))))
theorem G__law_near (T : Tx K mg) (G__law_bent : ∀ n, FnAt PP w K mg base "_law_bent" (4 + n) ["_law_deck_here", "_law_it"] (f__law_bent n)) (G__law_odd : FnAt PP w K mg base "_law_odd" 3 ["_law_deck_here", "_law_it"] f__law_odd) (G__law_pick : FnAt PP w K mg base "_law_pick" 2 ["_law_deck_here", "_law_some"] f__law_pick) : FnAt PP w K mg base "_law_near" 18 ["_law_deck_here", "_law_due"] f__law_near :=
  fn_at (k := 17) (N := ["_law_deck_here", "_law_due", "_law_words", "_law_some"]) (b := b__law_near) T.d__law_near ⟨rfl, rfl, rfl, by decide +kernel, rfl, by decide +kernel, by decide +kernel⟩ (fun _ _ _ _ _ _ us hl => match us, hl with | [_, _], _ => rfl) fun f cdv A outer s H E cx => (ss_cons (ss_set cx.nd rfl (by first | exact .inl rfl | exact .inr rfl) (se_tup (sa_cons (se_str (by first | rfl | decide +kernel)) (sa_cons (se_str (by first | rfl | decide +kernel)) (sa_cons (se_str (by first | rfl | decide +kernel)) (sa_cons (se_str (by first | rfl | decide +kernel)) (sa_cons (se_str (by first | rfl | decide +kernel)) (sa_cons (se_str (by first | rfl | decide +kernel)) (sa_cons (se_str (by first | rfl | decide +kernel)) (sa_cons (se_str (by first | rfl | decide +kernel)) (sa_cons (se_str (by first | rfl | decide +kernel)) (sa_cons (se_str (by first | rfl | decide +kernel)) (sa_cons (se_str (by first | rfl | decide +kernel)) sa_nil))))))))))) (by simp)))
    (ss_cons (ss_set cx.nd rfl (by first | exact .inl rfl | exact .inr rfl) (se_lst (sa_cons (se_var (pe_var rfl (by first | exact .inl rfl | exact .inr (.inl rfl) | exact .inr (.inr rfl)))) (sa_cons (se_ty cr_list rfl T.z_list (by first | rfl | decide +kernel) (se_var (pe_var rfl (by first | exact .inl rfl | exact .inr (.inl rfl) | exact .inr (.inr rfl))))) (sa_cons (se_bin ops_add (se_var (pe_var rfl (by first | exact .inl rfl | exact .inr (.inl rfl) | exact .inr (.inr rfl)))) (se_tup (sa_cons se_int sa_nil) (by simp))) (sa_cons (se_cut (se_var (pe_var rfl (by first | exact .inl rfl | exact .inr (.inl rfl) | exact .inr (.inr rfl)))) trivial (show SO _ _ (some _) (some _) from (se_neg se_int))) (sa_cons (se_bin ops_add (se_bin ops_add (se_cut (se_var (pe_var rfl (by first | exact .inl rfl | exact .inr (.inl rfl) | exact .inr (.inr rfl)))) trivial (show SO _ _ (some _) (some _) from se_int)) (se_tup (sa_cons (se_bin ops_add (se_ix (se_var (pe_var rfl (by first | exact .inl rfl | exact .inr (.inl rfl) | exact .inr (.inr rfl)))) se_int) se_int) sa_nil) (by simp))) (se_cut (se_var (pe_var rfl (by first | exact .inl rfl | exact .inr (.inl rfl) | exact .inr (.inr rfl)))) (show SO _ _ (some _) (some _) from se_int) trivial)) (sa_cons (se_bin ops_add (se_bin ops_add (se_cut (se_var (pe_var rfl (by first | exact .inl rfl | exact .inr (.inl rfl) | exact .inr (.inr rfl)))) trivial (show SO _ _ (some _) (some _) from se_int)) (se_tup (sa_cons (se_bin ops_sub (se_ix (se_var (pe_var rfl (by first | exact .inl rfl | exact .inr (.inl rfl) | exact .inr (.inr rfl)))) se_int) se_int) sa_nil) (by simp))) (se_cut (se_var (pe_var rfl (by first | exact .inl rfl | exact .inr (.inl rfl) | exact .inr (.inr rfl)))) (show SO _ _ (some _) (some _) from se_int) trivial)) (sa_cons (se_tup (sa_cons (se_str (by first | rfl | decide +kernel)) (sa_cons (se_ix (se_var (pe_var rfl (by first | exact .inl rfl | exact .inr (.inl rfl) | exact .inr (.inr rfl)))) se_int) sa_nil)) (by simp)) (sa_cons (se_tup (sa_cons (se_str (by first | rfl | decide +kernel)) (sa_cons se_int sa_nil)) (by simp)) (sa_cons (se_tup (sa_cons (se_str (by first | rfl | decide +kernel)) (sa_cons (se_ix (se_var (pe_var rfl (by first | exact .inl rfl | exact .inr (.inl rfl) | exact .inr (.inr rfl)))) se_int) (sa_cons (se_call cx (G__law_pick.mono (by decide)) rfl (sa_cons (se_var (pe_var rfl (by first | exact .inl rfl | exact .inr (.inl rfl) | exact .inr (.inr rfl)))) (sa_cons (se_var (pe_var rfl (by first | exact .inl rfl | exact .inr (.inl rfl) | exact .inr (.inr rfl)))) sa_nil))) sa_nil))) (by simp)) (sa_cons (se_tup (sa_cons (se_str (by first | rfl | decide +kernel)) (sa_cons se_int (sa_cons (se_ix (se_var (pe_var rfl (by first | exact .inl rfl | exact .inr (.inl rfl) | exact .inr (.inr rfl)))) (se_neg se_int)) sa_nil))) (by simp)) (sa_cons (se_bin ops_add (se_tup (sa_cons (se_upper (se_ix (se_var (pe_var rfl (by first | exact .inl rfl | exact .inr (.inl rfl) | exact .inr (.inr rfl)))) se_int)) sa_nil) (by simp)) (se_cut (se_var (pe_var rfl (by first | exact .inl rfl | exact .inr (.inl rfl) | exact .inr (.inr rfl)))) (show SO _ _ (some _) (some _) from se_int) trivial)) (sa_cons (se_bin ops_add (se_bin ops_add (se_cut (se_var (pe_var rfl (by first | exact .inl rfl | exact .inr (.inl rfl) | exact .inr (.inr rfl)))) trivial (show SO _ _ (some _) (some _) from se_int)) (se_tup (sa_cons (se_cmp (ops_eq cx.hu) (se_ix (se_var (pe_var rfl (by first | exact .inl rfl | exact .inr (.inl rfl) | exact .inr (.inr rfl)))) se_int) se_int rfl) sa_nil) (by simp))) (se_cut (se_var (pe_var rfl (by first | exact .inl rfl | exact .inr (.inl rfl) | exact .inr (.inr rfl)))) (show SO _ _ (some _) (some _) from se_int) trivial)) (sa_cons (se_bin ops_add (se_bin ops_add (se_cut (se_var (pe_var rfl (by first | exact .inl rfl | exact .inr (.inl rfl) | exact .inr (.inr rfl)))) trivial (show SO _ _ (some _) (some _) from se_int)) (se_tup (sa_cons (se_ty cr_str rfl T.z_str (by first | rfl | decide +kernel) (se_ix (se_var (pe_var rfl (by first | exact .inl rfl | exact .inr (.inl rfl) | exact .inr (.inr rfl)))) se_int)) sa_nil) (by simp))) (se_cut (se_var (pe_var rfl (by first | exact .inl rfl | exact .inr (.inl rfl) | exact .inr (.inr rfl)))) (show SO _ _ (some _) (some _) from se_int) trivial)) sa_nil))))))))))))) (by simp)))
    (ss_one (ss_ret (se_call cx (G__law_pick.mono (by decide)) rfl (sa_cons (se_var (pe_var rfl (by first | exact .inl rfl | exact .inr (.inl rfl) | exact .inr (.inr rfl)))) (sa_cons (se_bin ops_add (se_var (pe_var rfl (by first | exact .inl rfl | exact .inr (.inl rfl) | exact .inr (.inr rfl)))) (se_lst (sa_cons (se_var (pe_var rfl (by first | exact .inl rfl | exact .inr (.inl rfl) | exact .inr (.inr rfl)))) (sa_cons (se_call cx ((G__law_bent 12).mono (by decide)) rfl (sa_cons (se_var (pe_var rfl (by first | exact .inl rfl | exact .inr (.inl rfl) | exact .inr (.inr rfl)))) (sa_cons (se_var (pe_var rfl (by first | exact .inl rfl | exact .inr (.inl rfl) | exact .inr (.inr rfl)))) sa_nil))) (sa_cons (se_call cx (G__law_odd.mono (by decide)) rfl (sa_cons (se_var (pe_var rfl (by first | exact .inl rfl | exact .inr (.inl rfl) | exact .inr (.inr rfl)))) (sa_cons se_non sa_nil))) sa_nil))) (by simp))) sa_nil)))))))
theorem G__law_is_beyond (T : Tx K mg) : FnAt PP w K mg base "_law_is_beyond" 1 ["_law_thing"] f__law_is_beyond :=
  fn_at (k := 0) (N := ["_law_thing", "_law_rows", "_law_row", "_law_boot"]) (b := b__law_is_beyond) T.d__law_is_beyond ⟨rfl, rfl, rfl, by decide +kernel, rfl, by decide +kernel, by decide +kernel⟩ (fun _ _ _ _ _ _ us hl => match us, hl with | [_], _ => rfl) fun f cdv A outer s H E cx => (ss_cons (ss_if (st_not (st_tru (se_isi (T := .tuple) rfl T.z_isinstance (by first | rfl | decide +kernel) (se_var (pe_var rfl (by first | exact .inl rfl | exact .inr (.inl rfl) | exact .inr (.inr rfl)))) rfl T.z_tuple (by first | rfl | decide +kernel)))) (ss_one (ss_ret se_bl)) ss_nil)
    (ss_cons (ss_setLcG cx rfl rfl rfl rfl (by decide +kernel) (si_any (se_var (pe_var rfl (by first | exact .inl rfl | exact .inr (.inl rfl) | exact .inr (.inr rfl))))) (blkOk_by (own := [(("_law_row" : Str), 2)]) (by show blkC ["_law_thing", "_law_rows", "_law_row", "_law_boot"] (defScope (top 52)) _ _ = true; decide +kernel)) (fun _ _ _ _ _ cx => (pg_name cx.nd rfl (.inl rfl))) (fun _ _ _ _ _ cx => (pts1 (st_w (sw_and (st_tru (se_isi (T := .tuple) rfl T.z_isinstance (by first | rfl | decide +kernel) (se_var (pe_var rfl (by first | exact .inl rfl | exact .inr (.inl rfl) | exact .inr (.inr rfl)))) rfl T.z_tuple (by first | rfl | decide +kernel))) (sw_and (st_cmp (ops_eq cx.hu) (se_cut (se_var (pe_var rfl (by first | exact .inl rfl | exact .inr (.inl rfl) | exact .inr (.inr rfl)))) trivial (show SO _ _ (some _) (some _) from se_int)) (se_tup (sa_cons (se_str (by first | rfl | decide +kernel)) sa_nil) (by simp)) rfl) (sw_and1 (st_cmp (ops_eq cx.hu) (se_bi cr_len rfl T.z_len (by first | rfl | decide +kernel) (se_var (pe_var rfl (by first | exact .inl rfl | exact .inr (.inl rfl) | exact .inr (.inr rfl))))) se_int rfl))))))) (fun _ _ _ _ _ cx => (se_ix (se_var (pe_var rfl (by first | exact .inl rfl | exact .inr (.inl rfl) | exact .inr (.inr rfl)))) se_int)))
    (ss_one (ss_ret (se_cmp (ops_ne cx.hu) (se_lcG cx (si_any (se_var (pe_var rfl (by first | exact .inl rfl | exact .inr (.inl rfl) | exact .inr (.inr rfl))))) (blkOk_by (own := [(("_law_boot" : Str), 3)]) (by show blkC ["_law_thing", "_law_rows", "_law_row", "_law_boot"] (defScope (top 52)) _ _ = true; decide +kernel)) (fun _ _ _ _ _ cx => (pg_name cx.nd rfl (.inl rfl))) (fun _ _ _ _ _ cx => (pts1 (st_w (sw_and (st_tru (se_isi (T := .int) rfl T.z_isinstance (by first | rfl | decide +kernel) (se_var (pe_var rfl (by first | exact .inl rfl | exact .inr (.inl rfl) | exact .inr (.inr rfl)))) rfl T.z_int (by first | rfl | decide +kernel))) (sw_and1 (st_cmp ops_gt (se_var (pe_var rfl (by first | exact .inl rfl | exact .inr (.inl rfl) | exact .inr (.inr rfl)))) (se_bin ops_pow se_int se_int) rfl)))))) (fun _ _ _ _ _ cx => se_int)) (se_lst sa_nil (by simp)) rfl)))))
theorem G__law_is_right {c tabP : Addr} (T : Tx K mg) (D : DefAtC K mg "_law_is_right" (top 53) c) (TB : LamX.TabB base mg c tabP) (G__law_is_past : FnAt PP w K mg base "_law_is_past" 3 ["_law_thing"] f__law_is_past) (G__law_judged : FnAt PP w K mg base "_law_judged" 3 ["_law_past"] f__law_judged) (G__law_near : FnAt PP w K mg base "_law_near" 18 ["_law_deck_here", "_law_due"] f__law_near) (G__law_odd : FnAt PP w K mg base "_law_odd" 3 ["_law_deck_here", "_law_it"] f__law_odd) (G__law_same : FnAt PP w K mg base "_law_same" 1 ["_law_told_here", "_law_due"] f__law_same) (G_is_past : FnAt PP w K mg base "is_past" 6 ["thing"] f_is_past) (G_judge_past : FnAt PP w K mg base "judge_past" 7 ["past"] f_judge_past) (G_past_holds : FnAt PP w K mg base "past_holds" 7 ["past", "thing"] f_past_holds) (GK_is_past : FnAtK PP w K mg base "is_past" 6 ["thing"] ["thing"] (fun {_} l => l) f_is_past) (GK_judge_past : FnAtK PP w K mg base "judge_past" 7 ["past"] ["past"] (fun {_} l => l) f_judge_past) (GK_past_holds : FnAtK PP w K mg base "past_holds" 7 ["past", "thing"] ["thing", "past"] (fun {_} l => l.reverse) f_past_holds) : FnAt PP w K mg base "_law_is_right" 21 ["_law_deck_here", "_law_value"] (f__law_is_right tabP) :=
  fn_atC (k := 20) (N := ["_law_deck_here", "_law_value", "_law_text", "_law_is_good", "_law_thing", "_law_refused", "_law_due", "_law_whole"]) (b := b__law_is_right tabP) D ⟨rfl, rfl, rfl, by decide +kernel, rfl, by decide +kernel, by decide +kernel⟩ (fun _ _ _ _ _ _ us hl => match us, hl with | [_, _], _ => rfl) fun f A outer s H E cx => (ss_cons (ss_asg (se_tup (sa_cons (se_bi (cr_repr cx.gd cx.hu) rfl T.z_repr (by first | rfl | decide +kernel) (se_var (pe_var rfl (by first | exact .inl rfl | exact .inr (.inl rfl) | exact .inr (.inr rfl))))) (sa_cons (se_call cx (G__law_is_past.mono (by decide)) rfl (sa_cons (se_var (pe_var rfl (by first | exact .inl rfl | exact .inr (.inl rfl) | exact .inr (.inr rfl)))) sa_nil)) (sa_cons (se_call cx (G__law_odd.mono (by decide)) rfl (sa_cons (se_var (pe_var rfl (by first | exact .inl rfl | exact .inr (.inl rfl) | exact .inr (.inr rfl)))) (sa_cons se_non sa_nil))) sa_nil))) (by simp)) (sg_tup cx.calm (pgs_names_cons (pg_name cx.nd rfl (by first | exact .inl rfl | exact .inr rfl)) (pgs_names_cons (pg_name cx.nd rfl (by first | exact .inl rfl | exact .inr rfl)) (pgs_names_cons (pg_name cx.nd rfl (by first | exact .inl rfl | exact .inr rfl)) pgs_names_nil)))))
    (ss_cons (ss_set cx.nd rfl (by first | exact .inl rfl | exact .inr rfl) (se_tup (sa_cons (se_str (by first | rfl | decide +kernel)) (sa_cons (se_var (pe_var rfl (by first | exact .inl rfl | exact .inr (.inl rfl) | exact .inr (.inr rfl)))) sa_nil)) (by simp)))
    (ss_cons (ss_if (st_w (sw_or (st_not (st_tru (se_call cx (G__law_same.mono (by decide)) rfl (sa_cons (se_call cx (G_is_past.mono (by decide)) rfl (sa_cons (se_var (pe_var rfl (by first | exact .inl rfl | exact .inr (.inl rfl) | exact .inr (.inr rfl)))) sa_nil)) (sa_cons (se_var (pe_var rfl (by first | exact .inl rfl | exact .inr (.inl rfl) | exact .inr (.inr rfl)))) sa_nil))))) (sw_or1 (st_not (st_tru (se_call cx (G__law_same.mono (by decide)) rfl (sa_cons (se_kw cx (GK_is_past.mono (by decide)) rfl (sk_cons (se_var (pe_var rfl (by first | exact .inl rfl | exact .inr (.inl rfl) | exact .inr (.inr rfl)))) sk_nil) rfl rfl rfl rfl (by decide) rfl) (sa_cons (se_var (pe_var rfl (by first | exact .inl rfl | exact .inr (.inl rfl) | exact .inr (.inr rfl)))) sa_nil)))))))) (ss_one (ss_ret se_bl)) ss_nil)
    (ss_cons (ss_set cx.nd rfl (by first | exact .inl rfl | exact .inr rfl) (se_if (st_tru (se_var (pe_var rfl (by first | exact .inl rfl | exact .inr (.inl rfl) | exact .inr (.inr rfl))))) (se_tup (sa_cons (se_str (by first | rfl | decide +kernel)) (sa_cons (se_bi (cr_repr cx.gd cx.hu) rfl T.z_repr (by first | rfl | decide +kernel) (se_call cx (G__law_judged.mono (by decide)) rfl (sa_cons (se_var (pe_var rfl (by first | exact .inl rfl | exact .inr (.inl rfl) | exact .inr (.inr rfl)))) sa_nil))) sa_nil)) (by simp)) (se_var (pe_var rfl (by first | exact .inl rfl | exact .inr (.inl rfl) | exact .inr (.inr rfl))))))
    (ss_cons (ss_if (st_cmp (ops_ne cx.hu) (told46 cx T TB rfl (by first | rfl | decide +kernel) (LamX.lamS_by (by show LamX.lamSB (defScope (top 53)) _ = true; decide +kernel)) rfl (fun _ _ _ _ _ => rfl) rfl (fun _ _ _ _ _ _ _ cx => (se_call cx (G_judge_past.mono (by decide)) rfl (sa_cons (se_var (pe_var rfl (by first | exact .inl rfl | exact .inr (.inl rfl) | exact .inr (.inr rfl)))) sa_nil)))) (se_var (pe_var rfl (by first | exact .inl rfl | exact .inr (.inl rfl) | exact .inr (.inr rfl)))) rfl) (ss_one (ss_ret se_bl)) ss_nil)
    (ss_cons (ss_if (st_cmp (ops_ne cx.hu) (told46 cx T TB rfl (by first | rfl | decide +kernel) (LamX.lamS_by (by show LamX.lamSB (defScope (top 53)) _ = true; decide +kernel)) rfl (fun _ _ _ _ _ => rfl) rfl (fun _ _ _ _ _ _ _ cx => (se_kw cx (GK_judge_past.mono (by decide)) rfl (sk_cons (se_var (pe_var rfl (by first | exact .inl rfl | exact .inr (.inl rfl) | exact .inr (.inr rfl)))) sk_nil) rfl rfl rfl rfl (by decide) rfl))) (se_var (pe_var rfl (by first | exact .inl rfl | exact .inr (.inl rfl) | exact .inr (.inr rfl)))) rfl) (ss_one (ss_ret se_bl)) ss_nil)
    (ss_cons (ss_if (st_tru (se_var (pe_var rfl (by first | exact .inl rfl | exact .inr (.inl rfl) | exact .inr (.inr rfl))))) (ss_one (ss_set cx.nd rfl (by first | exact .inl rfl | exact .inr rfl) (se_call cx (G__law_near.mono (by decide)) rfl (sa_cons (se_var (pe_var rfl (by first | exact .inl rfl | exact .inr (.inl rfl) | exact .inr (.inr rfl)))) (sa_cons (se_call cx (G__law_judged.mono (by decide)) rfl (sa_cons (se_var (pe_var rfl (by first | exact .inl rfl | exact .inr (.inl rfl) | exact .inr (.inr rfl)))) sa_nil)) sa_nil))))) ss_nil)
    (ss_cons (ss_par cx.calm cx.nd rfl rfl (by decide) rfl rfl (sa_cons (se_if (st_tru (se_var (pe_var rfl (by first | exact .inl rfl | exact .inr (.inl rfl) | exact .inr (.inr rfl))))) (se_tup (sa_cons (se_str (by first | rfl | decide +kernel)) (sa_cons (se_bi (cr_repr cx.gd cx.hu) rfl T.z_repr (by first | rfl | decide +kernel) (se_cmp (ops_eq cx.hu) (se_bi (cr_repr cx.gd cx.hu) rfl T.z_repr (by first | rfl | decide +kernel) (se_var (pe_var rfl (by first | exact .inl rfl | exact .inr (.inl rfl) | exact .inr (.inr rfl))))) (se_bi (cr_repr cx.gd cx.hu) rfl T.z_repr (by first | rfl | decide +kernel) (se_call cx (G__law_judged.mono (by decide)) rfl (sa_cons (se_var (pe_var rfl (by first | exact .inl rfl | exact .inr (.inl rfl) | exact .inr (.inr rfl)))) sa_nil))) rfl)) sa_nil)) (by simp)) (se_var (pe_var rfl (by first | exact .inl rfl | exact .inr (.inl rfl) | exact .inr (.inr rfl))))) (sa_cons (se_bi (cr_repr cx.gd cx.hu) rfl T.z_repr (by first | rfl | decide +kernel) (se_tup (sa_cons (se_var (pe_var rfl (by first | exact .inl rfl | exact .inr (.inl rfl) | exact .inr (.inr rfl)))) (sa_cons (se_var (pe_var rfl (by first | exact .inl rfl | exact .inr (.inl rfl) | exact .inr (.inr rfl)))) sa_nil)) (by simp))) sa_nil)) rfl)
    (ss_cons (ss_if (st_cmp (ops_ne cx.hu) (told46 cx T TB rfl (by first | rfl | decide +kernel) (LamX.lamS_by (by show LamX.lamSB (defScope (top 53)) _ = true; decide +kernel)) rfl (fun _ _ _ _ _ => rfl) rfl (fun _ _ _ _ _ _ _ cx => (se_call cx (G_past_holds.mono (by decide)) rfl (sa_cons (se_var (pe_var rfl (by first | exact .inl rfl | exact .inr (.inl rfl) | exact .inr (.inr rfl)))) (sa_cons (se_var (pe_var rfl (by first | exact .inl rfl | exact .inr (.inl rfl) | exact .inr (.inr rfl)))) sa_nil))))) (se_var (pe_var rfl (by first | exact .inl rfl | exact .inr (.inl rfl) | exact .inr (.inr rfl)))) rfl) (ss_one (ss_ret se_bl)) ss_nil)
    (ss_one (ss_ret (se_and (se_cmp (ops_eq cx.hu) (told46 cx T TB rfl (by first | rfl | decide +kernel) (LamX.lamS_by (by show LamX.lamSB (defScope (top 53)) _ = true; decide +kernel)) rfl (fun _ _ _ _ _ => rfl) rfl (fun _ _ _ _ _ _ _ cx => (se_kwR cx (GK_past_holds.mono (by decide)) rfl (sk_cons (se_var (pe_var rfl (by first | exact .inl rfl | exact .inr (.inl rfl) | exact .inr (.inr rfl)))) (sk_cons (se_var (pe_var rfl (by first | exact .inl rfl | exact .inr (.inl rfl) | exact .inr (.inr rfl)))) sk_nil)) rfl rfl rfl rfl (by decide) rfl))) (se_var (pe_var rfl (by first | exact .inl rfl | exact .inr (.inl rfl) | exact .inr (.inr rfl)))) rfl) (se_one (se_cmp (ops_eq cx.hu) (se_bi (cr_repr cx.gd cx.hu) rfl T.z_repr (by first | rfl | decide +kernel) (se_tup (sa_cons (se_var (pe_var rfl (by first | exact .inl rfl | exact .inr (.inl rfl) | exact .inr (.inr rfl)))) (sa_cons (se_var (pe_var rfl (by first | exact .inl rfl | exact .inr (.inl rfl) | exact .inr (.inr rfl)))) sa_nil)) (by simp))) (se_var (pe_var rfl (by first | exact .inl rfl | exact .inr (.inl rfl) | exact .inr (.inr rfl)))) rfl))))))))))))))
theorem G_law {tabP f : Addr} {fd : FuncData} (T : Tx K mg) (F : Fun K "law" "law" (top 54) f fd) (G__law_bent : ∀ n, FnAt PP w K mg base "_law_bent" (4 + n) ["_law_deck_here", "_law_it"] (f__law_bent n)) (G__law_deck : FnAt PP w K mg base "_law_deck" 1 ["_law_script"] f__law_deck) (G__law_draw : FnAt PP w K mg base "_law_draw" 1 ["_law_deck_here", "_law_many"] f__law_draw) (G__law_drawn_past : FnAt PP w K mg base "_law_drawn_past" 4 ["_law_deck_here"] f__law_drawn_past) (G__law_is_beyond : FnAt PP w K mg base "_law_is_beyond" 1 ["_law_thing"] f__law_is_beyond) (G__law_is_right : FnAt PP w K mg base "_law_is_right" 21 ["_law_deck_here", "_law_value"] (f__law_is_right tabP)) (G__law_odd : FnAt PP w K mg base "_law_odd" 3 ["_law_deck_here", "_law_it"] f__law_odd) (G__law_pick : FnAt PP w K mg base "_law_pick" 2 ["_law_deck_here", "_law_some"] f__law_pick) : FnG PP w K mg base 22 f fd ["_law_script"] (f_law tabP) :=
  fn_okG (k := 21) (N := ["_law_script", "_law_deck_here", "_law_turn", "_law_past", "_law_some", "_law_body", "_law_boot", "_law_entries", "_law_more", "_law_value"]) (b := b_law tabP) F ⟨rfl, rfl, rfl, by decide +kernel, rfl, by decide +kernel, by decide +kernel⟩ fun cdv A outer s H E cx => (ss_cons (ss_set cx.nd rfl (by first | exact .inl rfl | exact .inr rfl) (se_call cx (G__law_deck.mono (by decide)) rfl (sa_cons (se_var (pe_var rfl (by first | exact .inl rfl | exact .inr (.inl rfl) | exact .inr (.inr rfl)))) sa_nil)))
    (ss_cons (ss_for cx.own cx.calm (si_range rfl T.z_range se_int) (sg_name (pg_name cx.nd rfl (by first | exact .inl rfl | exact .inr rfl))) (ss_cons (ss_set cx.nd rfl (by first | exact .inl rfl | exact .inr rfl) (se_call cx (G__law_drawn_past.mono (by decide)) rfl (sa_cons (se_var (pe_var rfl (by first | exact .inl rfl | exact .inr (.inl rfl) | exact .inr (.inr rfl)))) sa_nil)))
    (ss_cons (ss_set cx.nd rfl (by first | exact .inl rfl | exact .inr rfl) (se_lst (sa_cons (se_var (pe_var rfl (by first | exact .inl rfl | exact .inr (.inl rfl) | exact .inr (.inr rfl)))) (sa_cons (se_call cx ((G__law_bent 12).mono (by decide)) rfl (sa_cons (se_var (pe_var rfl (by first | exact .inl rfl | exact .inr (.inl rfl) | exact .inr (.inr rfl)))) (sa_cons (se_var (pe_var rfl (by first | exact .inl rfl | exact .inr (.inl rfl) | exact .inr (.inr rfl)))) sa_nil))) (sa_cons (se_call cx ((G__law_bent 12).mono (by decide)) rfl (sa_cons (se_var (pe_var rfl (by first | exact .inl rfl | exact .inr (.inl rfl) | exact .inr (.inr rfl)))) (sa_cons (se_var (pe_var rfl (by first | exact .inl rfl | exact .inr (.inl rfl) | exact .inr (.inr rfl)))) sa_nil))) (sa_cons (se_call cx (G__law_odd.mono (by decide)) rfl (sa_cons (se_var (pe_var rfl (by first | exact .inl rfl | exact .inr (.inl rfl) | exact .inr (.inr rfl)))) (sa_cons se_non sa_nil))) (sa_cons (se_ty cr_list rfl T.z_list (by first | rfl | decide +kernel) (se_var (pe_var rfl (by first | exact .inl rfl | exact .inr (.inl rfl) | exact .inr (.inr rfl))))) sa_nil))))) (by simp)))
    (ss_cons (ss_set cx.nd rfl (by first | exact .inl rfl | exact .inr rfl) (se_bin ops_add (se_var (pe_var rfl (by first | exact .inl rfl | exact .inr (.inl rfl) | exact .inr (.inr rfl)))) (se_lst (sa_cons (se_call cx ((G__law_bent 12).mono (by decide)) rfl (sa_cons (se_var (pe_var rfl (by first | exact .inl rfl | exact .inr (.inl rfl) | exact .inr (.inr rfl)))) (sa_cons (se_call cx ((G__law_bent 12).mono (by decide)) rfl (sa_cons (se_var (pe_var rfl (by first | exact .inl rfl | exact .inr (.inl rfl) | exact .inr (.inr rfl)))) (sa_cons (se_var (pe_var rfl (by first | exact .inl rfl | exact .inr (.inl rfl) | exact .inr (.inr rfl)))) sa_nil))) sa_nil))) (sa_cons (se_cut (se_var (pe_var rfl (by first | exact .inl rfl | exact .inr (.inl rfl) | exact .inr (.inr rfl)))) trivial (show SO _ _ (some _) (some _) from se_int)) (sa_cons (se_bin ops_add (se_var (pe_var rfl (by first | exact .inl rfl | exact .inr (.inl rfl) | exact .inr (.inr rfl)))) (se_tup (sa_cons (se_var (pe_var rfl (by first | exact .inl rfl | exact .inr (.inl rfl) | exact .inr (.inr rfl)))) sa_nil) (by simp))) sa_nil))) (by simp))))
    (ss_cons (ss_par cx.calm cx.nd rfl rfl (by decide) rfl rfl (sa_cons (se_bin ops_mul (se_str (by first | rfl | decide +kernel)) (se_bin ops_add se_int (se_call cx (G__law_draw.mono (by decide)) rfl (sa_cons (se_var (pe_var rfl (by first | exact .inl rfl | exact .inr (.inl rfl) | exact .inr (.inr rfl)))) (sa_cons se_int sa_nil))))) (sa_cons (se_call cx (G__law_draw.mono (by decide)) rfl (sa_cons (se_var (pe_var rfl (by first | exact .inl rfl | exact .inr (.inl rfl) | exact .inr (.inr rfl)))) (sa_cons se_int sa_nil))) sa_nil)) rfl)
    (ss_cons (ss_set cx.nd rfl (by first | exact .inl rfl | exact .inr rfl) (se_tup (sa_cons (se_tup (sa_cons (se_str (by first | rfl | decide +kernel)) (sa_cons (se_str (by first | rfl | decide +kernel)) (sa_cons se_int (sa_cons se_bl (sa_cons (se_var (pe_var rfl (by first | exact .inl rfl | exact .inr (.inl rfl) | exact .inr (.inr rfl)))) sa_nil))))) (by simp)) (sa_cons (se_tup (sa_cons (se_str (by first | rfl | decide +kernel)) (sa_cons (se_str (by first | rfl | decide +kernel)) (sa_cons se_int (sa_cons (se_str (by first | rfl | decide +kernel)) (sa_cons (se_var (pe_var rfl (by first | exact .inl rfl | exact .inr (.inl rfl) | exact .inr (.inr rfl)))) sa_nil))))) (by simp)) sa_nil)) (by simp)))
    (ss_cons (ss_set cx.nd rfl (by first | exact .inl rfl | exact .inr rfl) (se_call cx (G__law_pick.mono (by decide)) rfl (sa_cons (se_var (pe_var rfl (by first | exact .inl rfl | exact .inr (.inl rfl) | exact .inr (.inr rfl)))) (sa_cons (se_tup (sa_cons (se_cut (se_var (pe_var rfl (by first | exact .inl rfl | exact .inr (.inl rfl) | exact .inr (.inr rfl)))) trivial (show SO _ _ (some _) (some _) from se_int)) (sa_cons (se_var (pe_var rfl (by first | exact .inl rfl | exact .inr (.inl rfl) | exact .inr (.inr rfl)))) (sa_cons (se_bin ops_add (se_var (pe_var rfl (by first | exact .inl rfl | exact .inr (.inl rfl) | exact .inr (.inr rfl)))) (se_tup (sa_cons (se_tup (sa_cons (se_str (by first | rfl | decide +kernel)) (sa_cons (se_str (by first | rfl | decide +kernel)) (sa_cons se_int (sa_cons (se_tup (sa_cons (se_str (by first | rfl | decide +kernel)) (sa_cons (se_var (pe_var rfl (by first | exact .inl rfl | exact .inr (.inl rfl) | exact .inr (.inr rfl)))) sa_nil)) (by simp)) (sa_cons (se_str (by first | rfl | decide +kernel)) sa_nil))))) (by simp)) sa_nil) (by simp))) sa_nil))) (by simp)) sa_nil))))
    (ss_one (ss_for cx.own cx.calm (si_any (se_bin ops_add (se_bin ops_add (se_var (pe_var rfl (by first | exact .inl rfl | exact .inr (.inl rfl) | exact .inr (.inr rfl)))) (se_ty cr_list rfl T.z_list (by first | rfl | decide +kernel) (se_cut (se_var (pe_var rfl (by first | exact .inl rfl | exact .inr (.inl rfl) | exact .inr (.inr rfl)))) (show SO _ _ (some _) (some _) from (se_neg se_int)) trivial))) (se_lst (sa_cons (se_bin ops_add (se_var (pe_var rfl (by first | exact .inl rfl | exact .inr (.inl rfl) | exact .inr (.inr rfl)))) (se_var (pe_var rfl (by first | exact .inl rfl | exact .inr (.inl rfl) | exact .inr (.inr rfl))))) sa_nil) (by simp)))) (sg_name (pg_name cx.nd rfl (by first | exact .inl rfl | exact .inr rfl))) (ss_one (ss_if (st_w (sw_and (st_not (st_tru (se_call cx (G__law_is_beyond.mono (by decide)) rfl (sa_cons (se_var (pe_var rfl (by first | exact .inl rfl | exact .inr (.inl rfl) | exact .inr (.inr rfl)))) sa_nil)))) (sw_and1 (st_not (st_tru (se_call cx (G__law_is_right.mono (by decide)) rfl (sa_cons (se_var (pe_var rfl (by first | exact .inl rfl | exact .inr (.inl rfl) | exact .inr (.inr rfl)))) (sa_cons (se_var (pe_var rfl (by first | exact .inl rfl | exact .inr (.inl rfl) | exact .inr (.inr rfl)))) sa_nil)))))))) (ss_one (ss_ret se_bl)) ss_nil)))))))))))
    (ss_one (ss_ret se_bl))))
theorem law_ok {c tabP f : Addr} {fd : FuncData} (T : Tx K mg) (D : DefAtC K mg "_law_is_right" (top 53) c) (F : Fun K "law" "law" (top 54) f fd) (TB : LamX.TabB base mg c tabP) : FnG PP w K mg base 22 f fd ["_law_script"] (f_law tabP) := by
  have h_is_integer := G_is_integer (w := w) (base := base) T  
  have h_is_between := G_is_between (w := w) (base := base) T h_is_integer 
  have h_is_row := G_is_row (w := w) (base := base) T  
  have h_is_number := G_is_number (w := w) (base := base) T h_is_between 
  have h_is_bool := G_is_bool (w := w) (base := base) T  
  have h_is_word := G_is_word (w := w) (base := base) T  
  have h_is_line := G_is_line (w := w) (base := base) T  
  have h_is_body := G_is_body (w := w) (base := base) T h_is_line 
  have h_are_rising := G_are_rising (w := w) (base := base) T  
  have h_is_answer := G_is_answer (w := w) (base := base) T h_is_body 
  have h_is_entry := G_is_entry (w := w) (base := base) T h_is_answer h_is_between h_is_body h_is_bool h_is_number h_is_row h_is_word 
  have h_is_past_value := G_is_past_value (w := w) (base := base) T h_is_entry 
  have h_Judge___init__ := G_Judge___init__ (w := w) (base := base) T  
  have h_Judge_accept := G_Judge_accept (w := w) (base := base) T  
  have h_Judge_begin := G_Judge_begin (w := w) (base := base) T  
  have h_Judge_fault_of := G_Judge_fault_of (w := w) (base := base) T  
  have h_Judge_answer := G_Judge_answer (w := w) (base := base) T h_Judge_fault_of 
  have h_Judge_take := G_Judge_take (w := w) (base := base) T h_Judge_accept h_Judge_answer h_Judge_begin 
  have h_judged := G_judged (w := w) (base := base) T h_Judge___init__ h_Judge_take 
  have h_is_certificate := G_is_certificate (w := w) (base := base) T h_are_rising h_is_bool h_judged 
  have h_is_past := G_is_past (w := w) (base := base) T h_is_past_value 
  have hk_is_past := GK_is_past (w := w) (base := base) T h_is_past_value 
  have h_need_past := G_need_past (w := w) (base := base) T h_is_past_value 
  have h_judge_past := G_judge_past (w := w) (base := base) T h_judged h_need_past 
  have hk_judge_past := GK_judge_past (w := w) (base := base) T h_judged h_need_past 
  have h_past_holds := G_past_holds (w := w) (base := base) T h_is_certificate h_need_past 
  have hk_past_holds := GK_past_holds (w := w) (base := base) T h_is_certificate h_need_past 
  have h__law_deck := G__law_deck (w := w) (base := base) T  
  have h__law_draw := G__law_draw (w := w) (base := base) T  
  have h__law_pick := G__law_pick (w := w) (base := base) T h__law_draw 
  have h__law_same := G__law_same (w := w) (base := base) T  
  have h__law_is_int := G__law_is_int (w := w) (base := base) T  
  have h__law_is_word := G__law_is_word (w := w) (base := base) T  
  have h__law_is_body := G__law_is_body (w := w) (base := base) T  
  have h__law_odd := G__law_odd (w := w) (base := base) T h__law_pick 
  have h__law_bent := G__law_bent (w := w) (base := base) T h__law_draw h__law_odd 
  have h__law_is_entry := G__law_is_entry (w := w) (base := base) T h__law_is_body h__law_is_int h__law_is_word 
  have h__law_is_past := G__law_is_past (w := w) (base := base) T h__law_is_entry 
  have h__law_answer_word := G__law_answer_word (w := w) (base := base) T  
  have h__law_word_of := G__law_word_of (w := w) (base := base) T h__law_answer_word 
  have h__law_judged := G__law_judged (w := w) (base := base) T h__law_word_of 
  have h__law_drawn_request := G__law_drawn_request (w := w) (base := base) T h__law_draw h__law_pick 
  have h__law_answered_entry := G__law_answered_entry (w := w) (base := base) T h__law_draw h__law_pick 
  have h__law_drawn_past := G__law_drawn_past (w := w) (base := base) T h__law_answered_entry h__law_draw h__law_drawn_request h__law_pick h__law_word_of 
  have h__law_near := G__law_near (w := w) (base := base) T h__law_bent h__law_odd h__law_pick 
  have h__law_is_beyond := G__law_is_beyond (w := w) (base := base) T  
  have h__law_is_right := G__law_is_right (w := w) T D TB h__law_is_past h__law_judged h__law_near h__law_odd h__law_same h_is_past h_judge_past h_past_holds hk_is_past hk_judge_past hk_past_holds
  exact G_law T F h__law_bent h__law_deck h__law_draw h__law_drawn_past h__law_is_beyond h__law_is_right h__law_odd h__law_pick 
end
end K46
/-! PL1: the plain law: the small questions. -/
namespace K46
open L3
@[simp] theorem isD_rf (n : Nat) : isD (.rf n) = false := by simp only [isD]
@[simp] theorem isD_scr (l : List Int) : isD (.scr l) = false := by simp only [isD]
mutual
/-- the law's data: no references, texts of plain signs, ints not too large -/
def gd : Val → Bool
  | .non | .bl _ => true
  | .int i => decide (i.natAbs < 10 ^ 40)
  | .str l => l.all (· < 1114112)
  | .tup l | .lst l => gds l
  | .dct _ l => gds l
  | _ => false
def gds : List Val → Bool
  | [] => true
  | v :: l => gd v && gds l
end
mutual
theorem gd_D : ∀ v, gd v = true → isD v = true
  | .non, _ | .bl _, _ | .int _, _ | .str _, _ => by simp only [isD]
  | .tup l, h | .lst l, h => by
    simp only [gd] at h
    simp only [isD]; exact gds_D l h
  | .dct ks l, h => by
    simp only [gd] at h
    simp only [isD]; exact gds_D l h
  | .rf _, h | .ktup _, h | .scr _, h => by simp [gd] at h
theorem gds_D : ∀ l, gds l = true → isDs l = true
  | [], _ => by simp only [isDs]
  | v :: l, h => by
    simp only [gds, Bool.and_eq_true] at h
    simp only [isDs, Bool.and_eq_true]
    exact ⟨gd_D v h.1, gds_D l h.2⟩
end
theorem gds_mem : ∀ {l : List Val}, gds l = true → ∀ v ∈ l, gd v = true
  | v :: l, h, u, hu => by
    simp only [gds, Bool.and_eq_true] at h
    rcases List.mem_cons.mp hu with e | e
    · rw [e]; exact h.1
    · exact gds_mem h.2 u e
theorem gds_of : ∀ {l : List Val}, (∀ v ∈ l, gd v = true) → gds l = true
  | [], _ => by simp only [gds]
  | v :: l, h => by
    simp only [gds, Bool.and_eq_true]
    exact ⟨h v (List.mem_cons_self ..), gds_of fun u hu => h u (List.mem_cons_of_mem _ hu)⟩
/-- ints that are no bools -/
def isIntB : Val → Bool
  | .int _ => true
  | _ => false
def isBlB : Val → Bool
  | .bl _ => true
  | _ => false
def betw (a b : Int) : Val → Bool
  | .int i => decide (a ≤ i) && decide (i ≤ b)
  | _ => false
theorem f_is_integer_eq {v : Val} (h : isD v = true) (S : Store) : f_is_integer [v] S = .ok (.bl (isIntB v)) S := by
  cases v <;> simp [f_is_integer, Fb, b_is_integer, begin, gIsi, isi, nTru, isIntB] at *
theorem f_is_bool_eq {v : Val} (h : isD v = true) (S : Store) : f_is_bool [v] S = .ok (.bl (isBlB v)) S := by
  cases v <;> simp [f_is_bool, Fb, b_is_bool, begin, gIsi, isi, nTru, isBlB] at *
theorem f_is_between_eq {v : Val} (h : isD v = true) (a b : Int) (S : Store) : f_is_between [v, .int a, .int b] S = .ok (.bl (betw a b v)) S := by
  have e := f_is_integer_eq h S
  cases v <;> simp [f_is_between, Fb, b_is_between, begin, isIntB, e, gLe, betw] at *
  rename_i i
  by_cases h1 : a ≤ i <;> simp [h1, e, isIntB]
/-- a tuple's items -/
def tupOf : Val → Option (List Val)
  | .tup l => some l
  | .ktup l => some l
  | _ => none
def isTupB (v : Val) : Bool := (tupOf v).isSome
theorem veq_int (i j : Int) : veq (.int i) (.int j) = (i == j) := by simp only [veq]
theorem gEq_int (i j : Int) (S : Store) : gEq (.int i) (.int j) S = .ok (.bl (i == j)) S := by simp [gEq, okEq, isP, dep, veq]
theorem gNe_int (i j : Int) (S : Store) : gNe (.int i) (.int j) S = .ok (.bl (!(i == j))) S := by simp [gNe, isP, dep, veq]
theorem gEq_str {i j : List Nat} (hi : gd (.str i) = true) (hj : gd (.str j) = true) (S : Store) : gEq (.str i) (.str j) S = .ok (.bl (i == j)) S := by
  simp only [gd] at hi hj
  simp [gEq, okEq, isP, dep, veq, hi, hj, -List.all_eq_true]
theorem gNe_str {i j : List Nat} (hi : gd (.str i) = true) (hj : gd (.str j) = true) (S : Store) : gNe (.str i) (.str j) S = .ok (.bl (!(i == j))) S := by
  simp only [gd] at hi hj
  simp [gNe, isP, dep, veq, hi, hj, -List.all_eq_true]
theorem gEq_bl (i j : Bool) (S : Store) : gEq (.bl i) (.bl j) S = .ok (.bl (i == j)) S := by simp [gEq, okEq, isP, dep, veq]
theorem gNe_bl (i j : Bool) (S : Store) : gNe (.bl i) (.bl j) S = .ok (.bl (!(i == j))) S := by simp [gNe, isP, dep, veq]
def rowB (n : Nat) : Val → Bool
  | .tup l => l.length == n
  | .ktup l => l.length == n
  | _ => false
theorem f_is_row_eq {v : Val} (h : isD v = true) (n : Nat) (S : Store) : f_is_row [v, .int n] S = .ok (.bl (rowB n v)) S := by
  cases v <;> simp [f_is_row, Fb, b_is_row, begin, gIsi, isi, gLen, gEq_int, rowB] at *
  all_goals
    rename_i l
    rw [Bool.eq_iff_iff]
    simp
    omega
theorem f_is_number_eq {v : Val} (h : isD v = true) (S : Store) : f_is_number [v] S = .ok (.bl (betw 0 1000000000 v)) S := by
  have e := f_is_between_eq h 0 1000000000 S
  simp [f_is_number, Fb, b_is_number, begin, e]
/-- [e for x in l], e without effect -/
theorem lcGo_map {i : Nat} {me : Ev} {ρ : Sl} {S : Store} {f : Val → Val} : ∀ (l acc : List Val), (∀ v ∈ l, me (ρ.set i (some v)) S = .ok (f v) S) → acc.length + l.length ≤ 16777216 →
    lcGo i tYesT me ρ l acc S = .ok (.lst (acc ++ l.map f)) S
  | [], acc, _, _ => by simp [lcGo]
  | v :: l, acc, h, hz => by
    have h1 := h v (List.mem_cons_self ..)
    have hz' : acc.length + (l.length + 1) ≤ 16777216 := by simpa using hz
    have hf : fit (acc.length + 1) = true := by unfold fit; exact decide_eq_true (by omega)
    simp only [lcGo, tYesT_eq, h1, hf, if_true]
    rw [lcGo_map l (acc ++ [f v]) (fun u hu => h u (List.mem_cons_of_mem _ hu)) (by simp; omega)]
    simp
/-- [e for x in l if t] -/
theorem lcGo_filter {i : Nat} {mt : Tv} {me : Ev} {ρ : Sl} {S : Store} {f : Val → Val} {t : Val → Bool} : ∀ (l acc : List Val), (∀ v ∈ l, mt (ρ.set i (some v)) S = .ok (t v) S) → (∀ v ∈ l, t v = true → me (ρ.set i (some v)) S = .ok (f v) S) → acc.length + l.length ≤ 16777216 →
    lcGo i mt me ρ l acc S = .ok (.lst (acc ++ (l.filter t).map f)) S
  | [], acc, _, _, _ => by simp [lcGo]
  | v :: l, acc, h0, h, hz => by
    have h1 := h0 v (List.mem_cons_self ..)
    have hz' : acc.length + (l.length + 1) ≤ 16777216 := by simpa using hz
    have hf : fit (acc.length + 1) = true := by unfold fit; exact decide_eq_true (by omega)
    simp only [lcGo, h1]
    cases ht : t v with
    | false =>
      simp only
      rw [lcGo_filter l acc (fun u hu => h0 u (List.mem_cons_of_mem _ hu)) (fun u hu => h u (List.mem_cons_of_mem _ hu)) (by omega)]
      simp [ht]
    | true =>
      simp only [h v (List.mem_cons_self ..) ht, hf, if_true]
      rw [lcGo_filter l (acc ++ [f v]) (fun u hu => h0 u (List.mem_cons_of_mem _ hu)) (fun u hu => h u (List.mem_cons_of_mem _ hu)) (by simp; omega)]
      simp [ht]
theorem bools_all (bs : List Bool) (S : Store) : gAll (.lst (bs.map .bl)) S = .ok (.bl (bs.all id)) S := by simp [gAll, bools_map]
theorem bools_any (bs : List Bool) (S : Store) : gAny (.lst (bs.map .bl)) S = .ok (.bl (bs.any id)) S := by simp [gAny, bools_map]
end K46
/-! PL2: the plain law: the program's question is_past. -/
namespace K46
open L3
mutual
/-- a bound of the text that repr gives, and of all lengths in it -/
def wt : Val → Nat
  | .non | .bl _ => 6
  | .int _ => 60
  | .str l => 10 * l.length + 2
  | .tup l | .lst l => wts l + 4
  | .dct ks l => wts l + 40 * ks.length + 4
  | _ => 0
def wts : List Val → Nat
  | [] => 0
  | v :: l => wt v + 2 + wts l
end
theorem wts_len : ∀ l : List Val, 2 * l.length ≤ wts l
  | [] => by simp
  | v :: l => by
    have := wts_len l
    simp only [wts, List.length_cons]
    omega
theorem wts_mem : ∀ {l : List Val} {v : Val}, v ∈ l → wt v + 2 ≤ wts l
  | u :: l, v, h => by
    simp only [wts]
    rcases List.mem_cons.mp h with e | e
    · rw [e]; omega
    · have := wts_mem e
      omega
/-- the law's values -/
structure OK (v : Val) : Prop where
  g : gd v = true
  w : wt v ≤ 1000000
theorem OK.tup {l : List Val} (h : OK (.tup l)) : ∀ v ∈ l, OK v := fun v hv => by
  have h1 := h.g
  have h2 := h.w
  simp only [gd] at h1
  simp only [wt] at h2
  have := wts_mem hv
  exact ⟨gds_mem h1 v hv, by omega⟩
theorem OK.lst {l : List Val} (h : OK (.lst l)) : ∀ v ∈ l, OK v := fun v hv => by
  have h1 := h.g
  have h2 := h.w
  simp only [gd] at h1
  simp only [wt] at h2
  have := wts_mem hv
  exact ⟨gds_mem h1 v hv, by omega⟩
theorem OK.len {l : List Val} (h : OK (.tup l)) : l.length ≤ 500000 := by
  have h2 := h.w
  have := wts_len l
  simp only [wt] at h2
  omega
theorem OK.slen {l : List Nat} (h : OK (.str l)) : l.length ≤ 100000 := by
  have h2 := h.w
  simp only [wt] at h2
  omega
theorem OK.D {v : Val} (h : OK v) : isD v = true := gd_D v h.g
theorem fit_of {n : Nat} (h : n ≤ 16777216) : fit n = true := by unfold fit; exact decide_eq_true h
theorem gLen_str {l : List Nat} (h : OK (.str l)) (S : Store) : gLen (.str l) S = .ok (.int l.length) S := by
  have := h.slen
  simp [gLen, fit_of (show l.length ≤ 16777216 by omega)]
def lets : List Nat := [97, 98, 99, 100, 101, 102, 103, 104, 105, 106, 107, 108, 109, 110, 111, 112, 113, 114, 115, 116, 117, 118, 119, 120, 121, 122]
def isLet (c : Nat) : Bool := decide (c ∈ lets)
def isPrn (c : Nat) : Bool := decide (32 ≤ c) && decide (c ≤ 126)
def wordB : Val → Bool
  | .str l => decide (1 ≤ l.length) && decide (l.length ≤ 10) && l.all isLet
  | _ => false
def bodyB : Val → Bool
  | .str l => decide (l.length ≤ 150) && l.all isPrn
  | _ => false
theorem lc_map {i : Nat} {mi : Iv} {me : Ev} {ρ : Sl} {S : Store} {l : List Val} {f : Val → Val} (hi : mi ρ S = .ok l S) (hm : ∀ v ∈ l, me ((wipeR ρ [i]).set i (some v)) S = .ok (f v) S) (hz : l.length ≤ 16777216) : mLc i mi tYesT me ρ S = .ok (.lst (l.map f)) S := by
  simp only [mLc, hi]
  have := lcGo_map (ρ := wipeR ρ [i]) l [] hm (by simpa using hz)
  simpa using this
theorem lc_filter {i : Nat} {mi : Iv} {mt : Tv} {me : Ev} {ρ : Sl} {S : Store} {l : List Val} {t : Val → Bool} {f : Val → Val} (hi : mi ρ S = .ok l S) (h0 : ∀ v ∈ l, mt ((wipeR ρ [i]).set i (some v)) S = .ok (t v) S) (hm : ∀ v ∈ l, t v = true → me ((wipeR ρ [i]).set i (some v)) S = .ok (f v) S) (hz : l.length ≤ 16777216) :
    mLc i mi mt me ρ S = .ok (.lst ((l.filter t).map f)) S := by
  simp only [mLc, hi]
  have := lcGo_filter (ρ := wipeR ρ [i]) l [] h0 hm (by simpa using hz)
  simpa using this
theorem map_sign {f : Nat → Bool} (l : List Nat) : (l.map fun c => Val.str [c]).map (fun w => match w with | .str [c] => Val.bl (f c) | _ => .non) = l.map fun c => Val.bl (f c) := by simp
theorem all_bl (f : Nat → Bool) (l : List Nat) (S : Store) : gAll (.lst (l.map fun c => Val.bl (f c))) S = .ok (.bl (l.all f)) S := by
  have e : (l.map fun c => Val.bl (f c)) = (l.map f).map Val.bl := by simp
  rw [e, bools_all]
  simp [List.all_map]
theorem lt1 (a b : Nat) : (([a] : List Nat) < [b]) = (a < b) := by simp [List.cons_lt_cons_iff]
theorem f_is_word_eq {v : Val} (h : OK v) (S : Store) : f_is_word [v] S = .ok (.bl (wordB v)) S := by
  have hD := h.D
  cases v <;> simp [-mLc, f_is_word, Fb, b_is_word, begin, gIsi, isi, truB, wordB] at hD ⊢
  rename_i l
  have hl := h.slen
  have e : mLc 1 (mIter (mVar 0)) tYesT (mBin gIn (mVar 1) (mC (.str lets))) [some (.str l), none] S = .ok (.lst (l.map fun c => Val.bl (isLet c))) S := by
    rw [← map_sign]
    refine lc_map (l := l.map fun c => Val.str [c]) (by simp [itemsOf]) (fun w hw => ?_) (by simp; omega)
    obtain ⟨c, hc, rfl⟩ := List.mem_map.mp hw
    rfl
  rw [gLen_str h]
  simp only [lets] at e
  by_cases h1 : 1 ≤ l.length <;> by_cases h2 : l.length ≤ 10
  · have h1' : (1 : Int) ≤ l.length := by omega
    have h2' : (l.length : Int) ≤ 10 := by omega
    simp [-mLc, gLe, h1', h2', h1, h2, asB, truB, e, all_bl]
  · have h1' : (1 : Int) ≤ l.length := by omega
    have h2' : ¬ (l.length : Int) ≤ 10 := by omega
    simp [-mLc, gLe, h1', h2', h1, h2, asB, truB]
  · have h1' : ¬ (1 : Int) ≤ l.length := by omega
    simp [-mLc, gLe, h1', h1, asB, truB]
  · omega
theorem f_is_line_eq {v : Val} (h : OK v) (S : Store) : f_is_line [v, .int 150] S = .ok (.bl (bodyB v)) S := by
  have hD := h.D
  cases v <;> simp [-mLc, f_is_line, Fb, b_is_line, begin, gIsi, isi, truB, bodyB] at hD ⊢
  rename_i l
  have hl := h.slen
  have e : mLc 2 (mIter (mVar 0)) tYesT (mChain gLe gLe (mC (.str [32])) (mVar 2) (mC (.str [126]))) [some (.str l), some (.int 150), none] S = .ok (.lst (l.map fun c => Val.bl (isPrn c))) S := by
    rw [← map_sign]
    refine lc_map (l := l.map fun c => Val.str [c]) (by simp [itemsOf]) (fun w hw => ?_) (by simp; omega)
    obtain ⟨c, hc, rfl⟩ := List.mem_map.mp hw
    have e1 : gLe (.str [32]) (.str [c]) S = .ok (.bl (decide (32 ≤ c))) S := by
      simp only [gLe, lt1]
      congr 2
      by_cases h : c < 32 <;> simp [h] <;> omega
    have e2 : gLe (.str [c]) (.str [126]) S = .ok (.bl (decide (c ≤ 126))) S := by
      simp only [gLe, lt1]
      congr 2
      by_cases h : 126 < c <;> simp [h] <;> omega
    by_cases h1 : 32 ≤ c
    · simp [wipeR, e1, e2, h1, isPrn]
    · simp [wipeR, e1, h1, isPrn]
  rw [gLen_str h]
  by_cases h1 : l.length ≤ 150
  · have h1' : (l.length : Int) ≤ 150 := by omega
    simp [-mLc, gLe, h1', h1, asB, truB, e, all_bl]
  · have h1' : ¬ (l.length : Int) ≤ 150 := by omega
    simp [-mLc, gLe, h1', h1, asB, truB]
theorem f_is_body_eq {v : Val} (h : OK v) (S : Store) : f_is_body [v] S = .ok (.bl (bodyB v)) S := by
  have e := f_is_line_eq h S
  simp [f_is_body, Fb, b_is_body, begin, e]
end K46
/-! PL3: the plain law: entries and pasts. -/
namespace K46
open L3
theorem ixL_0 (a : Val) (l : List Val) : ixL (a :: l) 0 = some a := L2.atI_nat (j := 0) rfl
theorem ixL_1 (a b : Val) (l : List Val) : ixL (a :: b :: l) 1 = some b := L2.atI_nat (j := 1) rfl
theorem ixL_2 (a b c : Val) (l : List Val) : ixL (a :: b :: c :: l) 2 = some c := L2.atI_nat (j := 2) rfl
theorem ixL_3 (a b c d : Val) (l : List Val) : ixL (a :: b :: c :: d :: l) 3 = some d := L2.atI_nat (j := 3) rfl
theorem ixL_4 (a b c d e : Val) (l : List Val) : ixL (a :: b :: c :: d :: e :: l) 4 = some e := L2.atI_nat (j := 4) rfl
def kGone : List Nat := [103, 111, 110, 101]
def kAcc : List Nat := [97, 99, 99, 101, 112, 116, 101, 100]
def kBeg : List Nat := [98, 101, 103, 117, 110]
def kAns : List Nat := [97, 110, 115, 119, 101, 114, 101, 100]
def kDone : List Nat := [100, 111, 110, 101]
def kBusy : List Nat := [98, 117, 115, 121]
def kNot : List Nat := [110, 111, 116, 32, 98, 101, 103, 117, 110]
def kUnk : List Nat := [117, 110, 107, 110, 111, 119, 110]
def kNone : List Nat := [110, 111, 110, 101]
def kOpen : List Nat := [111, 112, 101, 110]
def plainB (w : List Nat) : Bool := w == kBusy || w == kBeg || w == kNot || w == kUnk || w == kNone
def fateB : Val → Bool
  | .str w => w == kBeg || w == kNot || w == kOpen || w == []
  | _ => false
def ansB : Val → Bool
  | .tup [.str w] => plainB w
  | .tup [.str w, b] => w == kDone && bodyB b
  | _ => false
def entryB : Val → Bool
  | .tup [.str k, c] => wordB c && k == kGone
  | .tup [.str k, c, n, x, y] => wordB c && betw 0 1000000000 n && (if k == kAcc then isBlB x && bodyB y else if k == kBeg then wordB x && betw 1 1000000000 y else k == kAns && ansB x && fateB y)
  | _ => false
def pastB : Val → Bool
  | .tup l => l.all entryB
  | _ => false
theorem gIn_plain {w : List Nat} (h : gd (.str w) = true) (S : Store) : gIn (.str w) (.ktup v_PLAIN) S = .ok (.bl (plainB w)) S := by
  have hp : isP (.str w) = true := by simpa only [isP, gd] using h
  have e : isPs v_PLAIN = true := by decide
  have : gIn (.str w) (.ktup v_PLAIN) S = .ok (.bl (v_PLAIN.any fun z => veq z (.str w))) S := by
    unfold gIn
    split
    · rename_i h2; cases h2
    · simp [seqOf, hp, e, dep]
  rw [this]
  simp only [v_PLAIN, List.any_cons, List.any_nil, veq, plainB, kBusy, kBeg, kNot, kUnk, kNone, Bool.or_false]
  congr 2
  rw [Bool.eq_iff_iff]
  simp only [Bool.or_eq_true, beq_iff_eq]
  constructor
  · rintro (z | z | z | z | z) <;> simp [← z]
  · rintro ((((z | z) | z) | z) | z) <;> simp [z]
theorem gIn_fates {w : List Nat} (h : gd (.str w) = true) (S : Store) : gIn (.str w) (.ktup v_FATES) S = .ok (.bl (fateB (.str w))) S := by
  have hp : isP (.str w) = true := by simpa only [isP, gd] using h
  have e : isPs v_FATES = true := by decide
  have : gIn (.str w) (.ktup v_FATES) S = .ok (.bl (v_FATES.any fun z => veq z (.str w))) S := by
    unfold gIn
    split
    · rename_i h2; cases h2
    · simp [seqOf, hp, e, dep]
  rw [this]
  simp only [v_FATES, List.any_cons, List.any_nil, veq, fateB, kBeg, kNot, kOpen, Bool.or_false]
  congr 2
  rw [Bool.eq_iff_iff]
  simp only [Bool.or_eq_true, beq_iff_eq]
  constructor
  · rintro (z | z | z | z) <;> simp [← z]
  · rintro (((z | z) | z) | z) <;> simp [z]
theorem gEq_nil {l : List Val} (h : isDs l = true) (S : Store) : gEq (.tup l) (.tup []) S = .ok (.bl l.isEmpty) S := by
  have : okEq (.tup l) (.tup []) = true := by simp [okEq, flatEq, h]
  rw [gEq, if_pos this]
  cases l <;> simp [veq, veqs]
theorem f_is_answer_eq {v : Val} (h : OK v) (S : Store) : f_is_answer [v] S = .ok (.bl (ansB v)) S := by
  have hG := h.g
  cases v <;> simp [gd, f_is_answer, Fb, b_is_answer, begin, gIsi, isi, truB, ansB] at hG ⊢
  rename_i l
  have hDs : isDs l = true := gds_D l hG
  rw [gEq_nil hDs]
  match l, h with
  | [], _ => simp [ansB]
  | [a], h =>
    have ha := h.tup a (by simp)
    have haG := ha.g
    cases a <;> simp [gd, gIsi, gIx, ixL_0, isi, ansB, truB] at haG ⊢
    rename_i w
    have e := gEq_str (i := w) (j := kDone) ha.g (by decide)
    simp only [kDone] at e
    simp [e, gLen, gEq_int, gIn_plain ha.g, gIx, ixL_0]
    by_cases hw : w = [100, 111, 110, 101]
    · subst hw; simp [gLen, gEq_int, gIx, ixL_0, ixL_1, e]; decide
    · simp [hw, gLen, gEq_int, gIx, ixL_0, ixL_1, e, gIn_plain ha.g]
  | a :: b :: r, h =>
    have ha := h.tup a (by simp)
    have hb := h.tup b (by simp)
    have haG := ha.g
    cases a <;> simp [gd, gIsi, gIx, ixL_0, ixL_1, isi, ansB, truB] at haG ⊢
    rename_i w
    have e := gEq_str (i := w) (j := kDone) ha.g (by decide)
    have e2 := f_is_body_eq hb
    simp only [kDone] at e
    simp [e, gLen, gEq_int, gIn_plain ha.g, gIx, ixL_0, ixL_1]
    cases r with
    | nil =>
      by_cases hw : w = [100, 111, 110, 101]
      · subst hw; simp [e2, kDone, gLen, gEq_int, gIx, ixL_0, ixL_1, e]
      · simp [hw, kDone, gLen, gEq_int, gIx, ixL_0, ixL_1, e]
    | cons c r =>
      have h1 : (((r.length : Int) + 1 + 1 + 1) == 2) = false := by simp; omega
      have h2 : (((r.length : Int) + 1 + 1 + 1) == 1) = false := by simp; omega
      by_cases hw : w = [100, 111, 110, 101]
      · subst hw; simp [h1, gLen, gEq_int, gIx, ixL_0, ixL_1, e]
      · simp [hw, h2, gLen, gEq_int, gIx, ixL_0, ixL_1, e]
/-- the first signs of an entry -/
def headB : List Val → Bool
  | .str k :: c :: _ => wordB c
  | _ => false
theorem f_is_entry_str {k : List Nat} {b : Val} {r : List Val} (h : OK (.tup (.str k :: b :: r))) (S : Store) : f_is_entry [.tup (.str k :: b :: r)] S = .ok (.bl (entryB (.tup (.str k :: b :: r)))) S := by
  have ha := h.tup _ (List.mem_cons_self ..)
  have hb := h.tup b (by simp)
  have haG := ha.g
  have ew := f_is_word_eq hb
  have h0 : ¬ ((r.length : Int) + 1 + 1 < 2) := by omega
  have i0 : gIx (.tup (.str k :: b :: r)) (.int 0) = fun S => .ok (.str k) S := by funext S; simp [gIx, ixL_0]
  have i1 : gIx (.tup (.str k :: b :: r)) (.int 1) = fun S => .ok b S := by funext S; simp [gIx, ixL_1]
  have l0 : gLen (.tup (.str k :: b :: r)) = fun S => .ok (.int (r.length + 1 + 1)) S := by funext S; simp [gLen]
  have e1 := gEq_str (i := k) (j := kGone) ha.g (by decide)
  have e2 := gEq_str (i := k) (j := kAcc) ha.g (by decide)
  have e3 := gEq_str (i := k) (j := kBeg) ha.g (by decide)
  have e4 := gEq_str (i := k) (j := kAns) ha.g (by decide)
  simp only [kGone, kAcc, kBeg, kAns] at e1 e2 e3 e4
  have row : ∀ S, f_is_row [.tup (.str k :: b :: r), .int 5] S = .ok (.bl (rowB 5 (.tup (.str k :: b :: r)))) S := f_is_row_eq h.D 5
  by_cases k1 : k = [103, 111, 110, 101]
  · subst k1
    have e1' : ∀ S, gEq (.int (r.length + 1 + 1)) (.int 2) S = .ok (.bl r.isEmpty) S := by
      intro S
      rw [gEq_int]
      congr 2
      cases r <;> simp
      omega
    have : entryB (.tup (.str [103, 111, 110, 101] :: b :: r)) = (wordB b && r.isEmpty) := by
      match r with
      | [] => simp [entryB, kGone]
      | [_] | [_, _] => simp [entryB]
      | [_, _, _] => simp [entryB, kAcc, kBeg, kAns]
      | _ :: _ :: _ :: _ :: _ => simp [entryB]
    rw [this]
    cases hw : wordB b <;> simp [f_is_entry, Fb, b_is_entry, begin, gIsi, ew, hw, e1, e1', i0, i1, l0, gLt, h0, isi, truB]
  · have k1' : (k == [103, 111, 110, 101]) = false := by simpa using k1
    have nr : r.length ≠ 3 → f_is_entry [.tup (.str k :: b :: r)] S = .ok (.bl false) S := by
      intro hn
      have hz : rowB 5 (.tup (.str k :: b :: r)) = false := by simp [rowB]; omega
      cases hw : wordB b <;> simp [f_is_entry, Fb, b_is_entry, begin, gIsi, ew, hw, e1, k1', row, hz, i0, i1, l0, gLt, h0, isi, truB]
    match r, h, nr, i0, i1, l0, row, h0 with
    | [], _, nr, _, _, _, _, _ => rw [nr (by simp)]; simp [entryB, kGone, k1']
    | [_], _, nr, _, _, _, _, _ | [_, _], _, nr, _, _, _, _, _ => rw [nr (by simp)]; simp [entryB]
    | _ :: _ :: _ :: _ :: _, _, nr, _, _, _, _, _ => rw [nr (by simp)]; simp [entryB]
    | [n, x, y], h, _, i0, i1, l0, row, h0 =>
      have hn := h.tup n (by simp)
      have hx := h.tup x (by simp)
      have hy := h.tup y (by simp)
      have i2 : gIx (.tup [.str k, b, n, x, y]) (.int 2) = fun S => .ok n S := by funext S; simp [gIx, ixL_2]
      have i3 : gIx (.tup [.str k, b, n, x, y]) (.int 3) = fun S => .ok x S := by funext S; simp [gIx, ixL_3]
      have i4 : gIx (.tup [.str k, b, n, x, y]) (.int 4) = fun S => .ok y S := by funext S; simp [gIx, ixL_4]
      have hz : rowB 5 (.tup [.str k, b, n, x, y]) = true := by simp [rowB]
      have en := f_is_number_eq hn.D
      have exb := f_is_bool_eq hx.D
      have eyb := f_is_body_eq hy
      have exw := f_is_word_eq hx
      have eyi := f_is_between_eq hy.D 1 1000000000
      have exa := f_is_answer_eq hx
      cases hw : wordB b with
      | false => simp [f_is_entry, Fb, b_is_entry, begin, gIsi, ew, hw, e1, k1', row, hz, i0, i1, l0, gLt, h0, isi, truB, entryB]
      | true =>
      cases hb2 : betw 0 1000000000 n with
      | false => simp [f_is_entry, Fb, b_is_entry, begin, gIsi, ew, hw, e1, k1', row, hz, i0, i1, i2, l0, gLt, h0, isi, truB, entryB, en, hb2]
      | true =>
      by_cases k2 : k = [97, 99, 99, 101, 112, 116, 101, 100]
      · subst k2
        cases hb3 : isBlB x <;> simp [f_is_entry, Fb, b_is_entry, begin, gIsi, ew, hw, e1, e2, k1', row, hz, i0, i1, i2, i3, i4, l0, gLt, h0, isi, truB, entryB, en, hb2, kAcc, exb, eyb, hb3]
      have k2' : (k == [97, 99, 99, 101, 112, 116, 101, 100]) = false := by simpa using k2
      by_cases k3 : k = [98, 101, 103, 117, 110]
      · subst k3
        cases hb3 : wordB x <;> simp [f_is_entry, Fb, b_is_entry, begin, gIsi, ew, hw, e1, e2, e3, k1', k2', row, hz, i0, i1, i2, i3, i4, l0, gLt, h0, isi, truB, entryB, en, hb2, kAcc, kBeg, exw, eyi, hb3]
      have k3' : (k == [98, 101, 103, 117, 110]) = false := by simpa using k3
      by_cases k4 : k = [97, 110, 115, 119, 101, 114, 101, 100]
      · subst k4
        cases hb3 : ansB x <;> simp [f_is_entry, Fb, b_is_entry, begin, ew, hw, e1, e2, e3, e4, k1', k2', k3', row, hz, i0, i1, i2, i3, i4, l0, gLt, h0, truB, entryB, en, hb2, kAcc, kBeg, kAns, exa, hb3, gIsi, isi]
        have hyg := hy.g
        have ef := fun (w : List Nat) (hw : gd (.str w) = true) => gIn_fates hw S
        cases y <;> simp [gd, fateB] at hyg ⊢
        rw [ef _ hy.g]
        simp [fateB]
      have k4' : (k == [97, 110, 115, 119, 101, 114, 101, 100]) = false := by simpa using k4
      simp [f_is_entry, Fb, b_is_entry, begin, ew, hw, e1, e2, e3, e4, k1', k2', k3', k4', row, hz, i0, i1, i2, i3, i4, l0, gLt, h0, truB, entryB, en, hb2, kAcc, kBeg, kAns, exa, gIsi, isi]
theorem f_is_entry_eq {v : Val} (h : OK v) (S : Store) : f_is_entry [v] S = .ok (.bl (entryB v)) S := by
  have hG := h.g
  cases v with
  | tup l =>
    match l, h with
    | [], _ => simp [f_is_entry, Fb, b_is_entry, begin, gIsi, isi, truB, gLen, gLt, asB, entryB]
    | [a], _ => simp [f_is_entry, Fb, b_is_entry, begin, gIsi, isi, truB, gLen, gLt, asB, entryB]
    | a :: b :: r, h =>
      have ha := h.tup a (by simp)
      have haG := ha.g
      have h0 : ¬ ((r.length : Int) + 1 + 1 < 2) := by omega
      have i0 : gIx (.tup (a :: b :: r)) (.int 0) = fun S => .ok a S := by funext S; simp [gIx, ixL_0]
      have l0 : gLen (.tup (a :: b :: r)) = fun S => .ok (.int (r.length + 1 + 1)) S := by funext S; simp [gLen]
      cases a with
      | str k => exact f_is_entry_str h S
      | _ => simp [f_is_entry, Fb, b_is_entry, begin, gd, gIsi, i0, l0, gLt, h0, isi, entryB, truB] at haG ⊢
  | _ => simp [gd, f_is_entry, Fb, b_is_entry, begin, gIsi, isi, truB, entryB] at hG ⊢
theorem all_blV (f : Val → Bool) (l : List Val) (S : Store) : gAll (.lst (l.map fun c => Val.bl (f c))) S = .ok (.bl (l.all f)) S := by
  have e : (l.map fun c => Val.bl (f c)) = (l.map f).map Val.bl := by simp
  rw [e, bools_all]
  simp [List.all_map]
theorem f_is_past_value_eq {v : Val} (h : OK v) (S : Store) : f_is_past_value [v] S = .ok (.bl (pastB v)) S := by
  have hG := h.g
  cases v <;> simp [-mLc, gd, f_is_past_value, Fb, b_is_past_value, begin, gIsi, isi, truB, pastB] at hG ⊢
  rename_i l
  have e : mLc 1 (mIter (mVar 0)) tYesT (mCall f_is_entry [mVar 1]) [some (.tup l), none] S = .ok (.lst (l.map fun v => .bl (entryB v))) S := by
    refine lc_map (l := l) (by simp [itemsOf]) (fun w hw => ?_) (by have := h.len; omega)
    simp [wipeR, f_is_entry_eq (h.tup w hw)]
  rw [e]
  simp only [Out.bind, all_blV]
  simp
theorem f_is_past_eq {v : Val} (h : OK v) (S : Store) : f_is_past [v] S = .ok (.bl (pastB v)) S := by
  simp [f_is_past, Fb, b_is_past, begin, f_is_past_value_eq h]
end K46
/-! PL4: the plain law: the law's own questions. -/
namespace K46
open L3
theorem gEq_lnil (l : List Val) (S : Store) : gEq (.lst l) (.lst []) S = .ok (.bl l.isEmpty) S := by
  have : okEq (.lst l) (.lst []) = true := by simp [okEq, flatEq]
  rw [gEq, if_pos this]
  cases l <;> simp [veq, veqs]
def geB (a : Int) : Val → Bool
  | .int i => decide (a ≤ i)
  | _ => false
theorem f__law_is_int_eq {v : Val} (h : OK v) (a : Int) (S : Store) : f__law_is_int [v, .int a] S = .ok (.bl (geB a v)) S := by
  have hG := h.g
  cases v <;> simp [gd, f__law_is_int, Fb, b__law_is_int, begin, gIsi, isi, nTru, gGe, geB] at hG ⊢
theorem isEmpty_filter {α β : Type} (t : α → Bool) (f : α → β) (l : List α) : ((l.filter t).map f).isEmpty = l.all fun x => !t x := by
  induction l with
  | nil => rfl
  | cons x l ih =>
    cases ht : t x with
    | true => simp [ht]
    | false => simpa [ht] using ih
def sgn (f : Nat → Bool) : Val → Bool
  | .str [c] => f c
  | _ => false
theorem sgn_empty (f : Nat → Bool) (l : List Nat) : (((l.map fun c => Val.str [c]).filter (sgn fun c => !f c)).map fun _ => Val.int 1).isEmpty = l.all f := by
  rw [isEmpty_filter]
  simp [List.all_map, Function.comp_def, sgn]
theorem f__law_is_word_eq {v : Val} (h : OK v) (S : Store) : f__law_is_word [v] S = .ok (.bl (wordB v)) S := by
  have hG := h.g
  cases v <;> simp [-mLc, gd, f__law_is_word, Fb, b__law_is_word, begin, gIsi, isi, truB, wordB, -List.all_eq_true] at hG ⊢
  rename_i l
  have hl := h.slen
  have e : mLc 1 (mIter (mVar 0)) (mB (mBin gNotIn (mVar 1) (mC (.str lets)))) (mC (.int 1)) [some (.str l), none] S = .ok (.lst (((l.map fun c => Val.str [c]).filter (sgn fun c => !isLet c)).map fun _ => .int 1)) S := by
    refine lc_filter (l := l.map fun c => Val.str [c]) (by simp [itemsOf]) (fun w hw => ?_) (fun w hw _ => ?_) (by simp; omega)
    · obtain ⟨c, hc, rfl⟩ := List.mem_map.mp hw
      rfl
    · rfl
  rw [gLen_str h]
  simp only [lets] at e
  by_cases h1 : 1 ≤ l.length <;> by_cases h2 : l.length ≤ 10
  · have h1' : (1 : Int) ≤ l.length := by omega
    have h2' : (l.length : Int) ≤ 10 := by omega
    simp only [asB_bl, gLe, h1', h2', h1, h2, decide_true, decide_false, mChain, mBin, mC, Out.bind, mUn, mVar, tNot, OutB.bind, Out.bindB, mIfS, OutB.bindS, OutB.bindE]
    simp [-mLc, gLe, h1', h2', h1, h2, asB, truB, e, gEq_lnil, sgn_empty, -List.isEmpty_map, -List.map_map]
  · have h1' : (1 : Int) ≤ l.length := by omega
    have h2' : ¬ (l.length : Int) ≤ 10 := by omega
    simp [-mLc, gLe, h1', h2', h1, h2, asB, truB]
  · have h1' : ¬ (1 : Int) ≤ l.length := by omega
    simp [-mLc, gLe, h1', h1, asB, truB]
  · omega
theorem f__law_is_body_eq {v : Val} (h : OK v) (S : Store) : f__law_is_body [v] S = .ok (.bl (bodyB v)) S := by
  have hG := h.g
  cases v <;> simp [-mLc, gd, f__law_is_body, Fb, b__law_is_body, begin, gIsi, isi, truB, bodyB, -List.all_eq_true] at hG ⊢
  rename_i l
  have hl := h.slen
  have e : mLc 1 (mIter (mVar 0)) (L3.tNot (mB (mChain gLe gLe (mC (.int 32)) (mUn gOrd (mVar 1)) (mC (.int 126))))) (mC (.int 1)) [some (.str l), none] S = .ok (.lst (((l.map fun c => Val.str [c]).filter (sgn fun c => !isPrn c)).map fun _ => .int 1)) S := by
    refine lc_filter (l := l.map fun c => Val.str [c]) (by simp [itemsOf]) (fun w hw => ?_) (fun w hw _ => ?_) (by simp; omega)
    · obtain ⟨c, hc, rfl⟩ := List.mem_map.mp hw
      by_cases h1 : 32 ≤ c
      · have h1' : (32 : Int) ≤ c := by omega
        simp [wipeR, gOrd, gLe, h1, h1', isPrn, sgn]
        omega
      · have h1' : ¬ (32 : Int) ≤ c := by omega
        simp [wipeR, gOrd, gLe, h1, h1', isPrn, sgn]
    · rfl
  rw [gLen_str h]
  by_cases h1 : l.length ≤ 150
  · have h1' : ¬ (150 : Int) < l.length := by omega
    simp [-mLc, gGt, h1', h1, asB, truB, e, gEq_lnil, sgn_empty, -List.isEmpty_map, -List.map_map]
  · have h1' : (150 : Int) < l.length := by omega
    simp [-mLc, gGt, h1', h1, asB, truB]
theorem gNe_lnil {l : List Val} (h : isPs l = true) (S : Store) : gNe (.lst l) (.lst []) S = .ok (.bl (!l.isEmpty)) S := by
  have : (isP (.lst l) && isP (.lst []) && decide (dep (.lst []) ≤ 60)) = true := by simp [isP, isPs, h, dep, deps]
  rw [gNe, if_pos this]
  cases l <;> simp [veq, veqs]
theorem isPs_ints {α : Type} (i : Int) : ∀ l : List α, isPs (l.map fun _ => Val.int i) = true
  | [] => rfl
  | _ :: l => by simp only [List.map_cons, isPs, isP, isPs_ints i l, Bool.and_self]
def isStrB : Val → Bool
  | .str _ => true
  | _ => false
theorem isPs_strs : ∀ {l : List Val}, gds l = true → l.all isStrB = true → isPs l = true
  | [], _, _ => rfl
  | v :: l, h, h2 => by
    simp only [gds, Bool.and_eq_true] at h
    simp only [List.all_cons, Bool.and_eq_true] at h2
    simp only [isPs, Bool.and_eq_true]
    refine ⟨?_, isPs_strs h.2 h2.2⟩
    have h1 := h.1
    have h3 := h2.1
    cases v <;> simp [isStrB] at h3
    simpa only [isP, gd] using h1
def one (w : List Nat) : Val := .tup [.str w]
def oneB (p : List Nat → Bool) : List Val → Bool
  | [.str w] => p w
  | _ => false
theorem veq_one (w : List Nat) (l : List Val) : veq (.tup [.str w]) (.tup l) = oneB (fun u => w == u) l := by
  match l with
  | [] => simp [veq, veqs, oneB]
  | [a] => cases a <;> simp [veq, veqs, oneB]
  | a :: b :: r => cases a <;> simp [veq, veqs, oneB]
theorem dep_strs : ∀ {l : List Val}, l.all isStrB = true → deps l = 0
  | [], _ => rfl
  | v :: l, h => by
    simp only [List.all_cons, Bool.and_eq_true] at h
    have h3 := h.1
    cases v <;> simp [isStrB] at h3
    simp [deps, dep, dep_strs h.2]
theorem oneB_or (p q : List Nat → Bool) (l : List Val) : (oneB p l || oneB q l) = oneB (fun w => p w || q w) l := by
  match l with
  | [] => rfl
  | [a] => cases a <;> rfl
  | a :: b :: r => cases a <;> rfl
theorem gIn_ones {l : List Val} (ws : List (List Nat)) (hw : ws.all (fun w => gd (.str w)) = true) (h : gds l = true) (hs : l.all isStrB = true) (S : Store) : gIn (.tup l) (.tup (ws.map one)) S = .ok (.bl (oneB (fun w => ws.any fun u => u == w) l)) S := by
  have e : isPs (ws.map one) = true := by
    induction ws with
    | nil => rfl
    | cons w ws ih =>
      simp only [List.all_cons, Bool.and_eq_true] at hw
      have h1 := hw.1
      simp only [gd] at h1
      simp [one, isPs, isP, ih hw.2, h1, -List.all_eq_true]
  have : gIn (.tup l) (.tup (ws.map one)) S = .ok (.bl ((ws.map one).any fun z => veq z (.tup l))) S := by
    unfold gIn
    split
    · rename_i h2; cases h2
    · simp [seqOf, isP, isPs_strs h hs, e, dep, dep_strs hs]
  rw [this]
  congr 2
  clear this e hw
  induction ws with
  | nil =>
    match l with
    | [] => rfl
    | [a] => cases a <;> rfl
    | a :: b :: r => cases a <;> rfl
  | cons w ws ih => simp only [List.map_cons, List.any_cons, ih, one, veq_one, oneB_or]
theorem gGt_pow9 {v : Val} (h : geB 0 v = true) (S : Store) : (gPow (.int 10) (.int 9) S).bind (fun b S => gGt v b S) = .ok (.bl (!betw 0 1000000000 v)) S := by
  cases v <;> simp [geB, gPow, gGt, betw] at h ⊢
  simp [h]
  rw [Bool.eq_iff_iff]
  simp
theorem gNotIn_fates {w : List Nat} (h : gd (.str w) = true) (S : Store) : gNotIn (.str w) (.tup v_FATES) S = .ok (.bl (!fateB (.str w))) S := by
  have hp : isP (.str w) = true := by simpa only [isP, gd] using h
  have e : isPs v_FATES = true := by decide
  have : gIn (.str w) (.tup v_FATES) S = .ok (.bl (fateB (.str w))) S := by
    have := gIn_fates h S
    unfold gIn at this ⊢
    split at this
    · rename_i h2; cases h2
    split
    · rename_i h2; cases h2
    simpa only [seqOf] using this
  rw [gNotIn, this]
theorem notStr (v : Val) (S : Store) (hg : gd v = true) : gIsi .str v S = .ok (.bl (isStrB v)) S := by
  cases v <;> simp [gd, gIsi, isi, isStrB] at hg ⊢
def v_PL : List (List Nat) := [[98, 117, 115, 121], [98, 101, 103, 117, 110], [110, 111, 116, 32, 98, 101, 103, 117, 110], [117, 110, 107, 110, 111, 119, 110], [110, 111, 110, 101]]
theorem oneB_plain (l : List Val) : oneB (fun w => v_PL.any fun u => u == w) l = oneB plainB l := by
  have : (fun w => v_PL.any fun u => u == w) = plainB := by
    funext w
    simp only [v_PL, List.any_cons, List.any_nil, plainB, kBusy, kBeg, kNot, kUnk, kNone, Bool.or_false]
    rw [Bool.eq_iff_iff]
    simp only [Bool.or_eq_true, beq_iff_eq]
    constructor
    · rintro (z | z | z | z | z) <;> simp [← z]
    · rintro ((((z | z) | z) | z) | z) <;> simp [z]
  rw [this]
/-- the last questions about an answer -/
theorem ans_tail {l : List Val} (h : OK (.tup l)) {ρ : Sl} (S : Store) (hr : ρ[1]? = some (some (.tup l))) (hs : ρ.length = 4) :
    mSeq (mIfS (mB (mBin gNe (mLc 3 (mIter (mVar 1)) (L3.tNot (mT (mUn (gIsi .str) (mVar 3)))) (mC (.int 1))) (mLst []))) (mRet (mC (.bl false))) mNil)
      (mSeq (mIfS (mB (mBin gIn (mVar 1) (mTup [(mTup [(mC (.str [98, 117, 115, 121]))]), (mTup [(mC (.str [98, 101, 103, 117, 110]))]), (mTup [(mC (.str [110, 111, 116, 32, 98, 101, 103, 117, 110]))]), (mTup [(mC (.str [117, 110, 107, 110, 111, 119, 110]))]), (mTup [(mC (.str [110, 111, 110, 101]))])]))) (mRet (mC (.bl true))) mNil)
      (mRet (mAnd (mBin gEq (mUn gLen (mVar 1)) (mC (.int 2))) (mAnd (mBin gEq (mBin gIx (mVar 1) (mC (.int 0))) (mC (.str [100, 111, 110, 101]))) (mCall f__law_is_body [(mBin gIx (mVar 1) (mC (.int 1)))]))))) ρ S = .rt (.bl (ansB (.tup l))) S := by
  have e : mLc 3 (mIter (mVar 1)) (L3.tNot (mT (mUn (gIsi .str) (mVar 3)))) (mC (.int 1)) ρ S = .ok (.lst ((l.filter fun v => !isStrB v).map fun _ => .int 1)) S := by
    refine lc_filter (l := l) (by simp [hr, itemsOf]) (fun w hw => ?_) (fun w hw _ => rfl) (by have := h.len; omega)
    have : ((wipeR ρ [3]).set 3 (some w))[3]? = some (some w) := by
      simp [wipeR, hs]
    simp [this, notStr w _ (h.tup w hw).g, truB]
  have hG := h.g
  simp only [gd] at hG
  simp only [mSeq, mIfS, mB, mBin, e, Out.bind, mLst, mArgs, OutL.bind, gNe_lnil (isPs_ints 1 _), Out.bindB, asB_bl, OutB.bindS, isEmpty_filter, Bool.not_not]
  cases hs : l.all isStrB with
  | false =>
    have : ansB (.tup l) = false := by
      match l, hs with
      | [a], hs => cases a <;> simp [ansB, isStrB] at hs ⊢
      | [a, b], hs => cases a <;> cases b <;> simp [ansB, isStrB, bodyB] at hs ⊢
      | a :: b :: c :: r, hs => cases a <;> simp [ansB] at hs ⊢
    simp [this]
  | true =>
    have e1 := gIn_ones v_PL (by decide) hG hs S
    rw [oneB_plain] at e1
    simp only [v_PL, List.map_cons, List.map_nil, one] at e1
    simp [hr, e1]
    match l, h, hs, hr with
    | [], h, hs, hr => simp [oneB, ansB, gLen, gEq_int, hr]
    | [a], h, hs, hr =>
      have ha := (h.tup a (by simp)).g
      cases a <;> simp [isStrB] at hs
      rename_i w
      cases hp : plainB w <;> simp [oneB, ansB, gLen, gEq_int, hp, hr]
    | [a, b], h, hs, hr =>
      have ha := (h.tup a (by simp)).g
      have hb := f__law_is_body_eq (h.tup b (by simp)) S
      cases a <;> simp [isStrB] at hs
      rename_i w
      have ew := gEq_str (j := kDone) ha (by decide) S
      simp only [kDone] at ew
      cases hk : (w == [100, 111, 110, 101]) <;> simp [oneB, ansB, gLen, gEq_int, hr, gIx, ixL_0, ixL_1, ew, hk, hb, kDone]
    | a :: b :: c :: r, h, hs, hr =>
      have h1 : (((r.length : Int) + 1 + 1 + 1) == 2) = false := by simp; omega
      cases a <;> simp [isStrB] at hs
      simp [oneB, ansB, gLen, gEq_int, hr, h1]
end K46
/-! PL5: the plain law: the law's own is_entry and is_past. -/
namespace K46
open L3
/-- the tail of the law's is_entry, an answered entry -/
def lawTail : Sv :=
    (mSeq (mIfS (mB (mBin gNe (mLc 3 (mIter (mVar 1)) (L3.tNot (mT (mUn (gIsi .str) (mVar 3)))) (mC (.int 1))) (mLst []))) (mRet (mC (.bl false))) mNil)
      (mSeq (mIfS (mB (mBin gIn (mVar 1) (mTup [(mTup [(mC (.str [98, 117, 115, 121]))]), (mTup [(mC (.str [98, 101, 103, 117, 110]))]), (mTup [(mC (.str [110, 111, 116, 32, 98, 101, 103, 117, 110]))]), (mTup [(mC (.str [117, 110, 107, 110, 111, 119, 110]))]), (mTup [(mC (.str [110, 111, 110, 101]))])]))) (mRet (mC (.bl true))) mNil)
      (mRet (mAnd (mBin gEq (mUn gLen (mVar 1)) (mC (.int 2))) (mAnd (mBin gEq (mBin gIx (mVar 1) (mC (.int 0))) (mC (.str [100, 111, 110, 101]))) (mCall f__law_is_body [(mBin gIx (mVar 1) (mC (.int 1)))]))))))
theorem lawTail_eq {l : List Val} (h : OK (.tup l)) {ρ : Sl} (S : Store) (hr : ρ[1]? = some (some (.tup l))) (hs : ρ.length = 4) : lawTail ρ S = .rt (.bl (ansB (.tup l))) S := ans_tail h S hr hs
theorem geB_bet {n : Val} : betw 0 1000000000 n = true → geB 0 n = true := by
  cases n <;> simp [betw, geB]
  omega
theorem isi_tt (l : List Val) (S : Store) : gIsi .tuple (.tup l) S = .ok (.bl true) S := rfl
theorem isi_ss (l : List Nat) (S : Store) : gIsi .str (.str l) S = .ok (.bl true) S := rfl
def isTupV : Val → Bool
  | .tup _ => true
  | _ => false
theorem isi_tv {v : Val} (h : gd v = true) (S : Store) : gIsi .tuple v S = .ok (.bl (isTupV v)) S := by
  cases v <;> simp [gd, gIsi, isi, isTupV] at h ⊢
theorem f__law_is_entry_str {k : List Nat} {b : Val} {r : List Val} (h : OK (.tup (.str k :: b :: r))) (S : Store) : f__law_is_entry [.tup (.str k :: b :: r)] S = .ok (.bl (entryB (.tup (.str k :: b :: r)))) S := by
  have ha := h.tup _ (List.mem_cons_self ..)
  have hb := h.tup b (by simp)
  have haG := ha.g
  have ew := f__law_is_word_eq hb
  have h0 : ¬ ((r.length : Int) + 1 + 1 < 2) := by omega
  have i0 : gIx (.tup (.str k :: b :: r)) (.int 0) = fun S => .ok (.str k) S := by funext S; simp [gIx, ixL_0]
  have i1 : gIx (.tup (.str k :: b :: r)) (.int 1) = fun S => .ok b S := by funext S; simp [gIx, ixL_1]
  have l0 : gLen (.tup (.str k :: b :: r)) = fun S => .ok (.int (r.length + 1 + 1)) S := by funext S; simp [gLen]
  have e1 := gEq_str (i := k) (j := kGone) ha.g (by decide)
  have e2 := gEq_str (i := k) (j := kAcc) ha.g (by decide)
  have e3 := gEq_str (i := k) (j := kBeg) ha.g (by decide)
  have e4 := gNe_str (i := k) (j := kAns) ha.g (by decide)
  simp only [kGone, kAcc, kBeg, kAns] at e1 e2 e3 e4
  by_cases k1 : k = [103, 111, 110, 101]
  · subst k1
    have e1' : ∀ S, gEq (.int (r.length + 1 + 1)) (.int 2) S = .ok (.bl r.isEmpty) S := by
      intro S
      rw [gEq_int]
      congr 2
      cases r <;> simp
      omega
    have : entryB (.tup (.str [103, 111, 110, 101] :: b :: r)) = (wordB b && r.isEmpty) := by
      match r with
      | [] => simp [entryB, kGone]
      | [_] | [_, _] => simp [entryB]
      | [_, _, _] => simp [entryB, kAcc, kBeg, kAns]
      | _ :: _ :: _ :: _ :: _ => simp [entryB]
    rw [this]
    cases hw : wordB b <;> simp [f__law_is_entry, Fb, b__law_is_entry, begin, gIsi, ew, hw, e1, e1', i0, i1, l0, gLt, h0, isi, truB]
  · have k1' : (k == [103, 111, 110, 101]) = false := by simpa using k1
    have nr : r.length ≠ 3 → f__law_is_entry [.tup (.str k :: b :: r)] S = .ok (.bl false) S := by
      intro hn
      have hz : (((r.length : Int) + 1 + 1) == 5) = false := by simp; omega
      cases hw : wordB b <;> simp [f__law_is_entry, Fb, b__law_is_entry, begin, gIsi, ew, hw, e1, k1', hz, gNe_int, i0, i1, l0, gLt, h0, isi, truB]
    match r, h, nr, i0, i1, l0, h0 with
    | [], _, nr, _, _, _, _ => rw [nr (by simp)]; simp [entryB, kGone, k1']
    | [_], _, nr, _, _, _, _ | [_, _], _, nr, _, _, _, _ => rw [nr (by simp)]; simp [entryB]
    | _ :: _ :: _ :: _ :: _, _, nr, _, _, _, _ => rw [nr (by simp)]; simp [entryB]
    | [n, x, y], h, _, i0, i1, l0, h0 =>
      have hn := h.tup n (by simp)
      have hx := h.tup x (by simp)
      have hy := h.tup y (by simp)
      have i2 : gIx (.tup [.str k, b, n, x, y]) (.int 2) = fun S => .ok n S := by funext S; simp [gIx, ixL_2]
      have i3 : gIx (.tup [.str k, b, n, x, y]) (.int 3) = fun S => .ok x S := by funext S; simp [gIx, ixL_3]
      have i4 : gIx (.tup [.str k, b, n, x, y]) (.int 4) = fun S => .ok y S := by funext S; simp [gIx, ixL_4]
      have en := f__law_is_int_eq hn 0
      have eyb := f__law_is_body_eq hy
      have exw := f__law_is_word_eq hx
      have eyi := f__law_is_int_eq hy 1
      have P9 : ∀ S, gPow (.int 10) (.int 9) S = .ok (.int 1000000000) S := by intro S; simp [gPow]
      cases hw : wordB b with
      | false => simp [f__law_is_entry, Fb, b__law_is_entry, begin, gIsi, ew, hw, e1, k1', i0, i1, l0, gLt, h0, isi, truB, entryB]
      | true =>
      cases hb2 : betw 0 1000000000 n with
      | false =>
        cases hg : geB 0 n with
        | false => simp [f__law_is_entry, Fb, b__law_is_entry, begin, gIsi, ew, hw, e1, k1', gNe_int, i0, i1, i2, l0, gLt, h0, isi, truB, entryB, en, hb2, hg]
        | true =>
          have g9 := gGt_pow9 hg S
          simp only [P9, Out.bind, hb2] at g9
          simp [f__law_is_entry, Fb, b__law_is_entry, begin, gIsi, ew, hw, e1, k1', gNe_int, i0, i1, i2, l0, gLt, h0, isi, truB, entryB, en, hb2, hg, P9, g9]
      | true =>
      have hg := geB_bet hb2
      have g9 := gGt_pow9 hg S
      simp only [P9, Out.bind, hb2] at g9
      by_cases k2 : k = [97, 99, 99, 101, 112, 116, 101, 100]
      · subst k2
        have hbx : gIsi .bool x = fun S => .ok (.bl (isBlB x)) S := by
          funext S
          have hxg := hx.g
          cases x <;> simp [gd, gIsi, isi, isBlB] at hxg ⊢
        cases hb3 : isBlB x <;> simp [f__law_is_entry, Fb, b__law_is_entry, begin, ew, hw, e1, e2, k1', gNe_int, i0, i1, i2, i3, i4, l0, gLt, h0, truB, entryB, en, hb2, hg, P9, g9, kAcc, hbx, hb3, eyb, isi_tt, isi_ss]
      have k2' : (k == [97, 99, 99, 101, 112, 116, 101, 100]) = false := by simpa using k2
      by_cases k3 : k = [98, 101, 103, 117, 110]
      · subst k3
        cases hb3 : wordB x with
        | false => simp [f__law_is_entry, Fb, b__law_is_entry, begin, gIsi, isi, ew, hw, e1, e2, e3, k1', k2', gNe_int, i0, i1, i2, i3, i4, l0, gLt, h0, truB, entryB, en, hb2, hg, P9, g9, kAcc, kBeg, exw, hb3]
        | true =>
          cases hy1 : geB 1 y with
          | false =>
            have : betw 1 1000000000 y = false := by
              cases y <;> simp [geB, betw] at hy1 ⊢
              omega
            simp [f__law_is_entry, Fb, b__law_is_entry, begin, gIsi, isi, ew, hw, e1, e2, e3, k1', k2', gNe_int, i0, i1, i2, i3, i4, l0, gLt, h0, truB, entryB, en, hb2, hg, P9, g9, kAcc, kBeg, exw, hb3, eyi, hy1, this]
          | true =>
            have : gLe y (.int 1000000000) S = .ok (.bl (betw 1 1000000000 y)) S := by
              cases y <;> simp [geB, betw, gLe] at hy1 ⊢
              simp [hy1]
            simp [f__law_is_entry, Fb, b__law_is_entry, begin, gIsi, isi, ew, hw, e1, e2, e3, k1', k2', gNe_int, i0, i1, i2, i3, i4, l0, gLt, h0, truB, entryB, en, hb2, hg, P9, g9, kAcc, kBeg, exw, hb3, eyi, hy1, this]
      have k3' : (k == [98, 101, 103, 117, 110]) = false := by simpa using k3
      by_cases k4 : k = [97, 110, 115, 119, 101, 114, 101, 100]
      · subst k4
        have txv := isi_tv hx.g
        have tyv := fun S => notStr y S hy.g
        cases hxt : isTupV x with
        | false =>
          have : ansB x = false := by cases x <;> simp [isTupV, ansB] at hxt ⊢
          simp [f__law_is_entry, Fb, b__law_is_entry, begin, ew, hw, e1, e2, e3, e4, k1', k2', k3', gNe_int, i0, i1, i2, i3, i4, l0, gLt, h0, truB, entryB, en, hb2, hg, P9, g9, kAcc, kBeg, kAns, isi_tt, isi_ss, txv, hxt, this]
        | true =>
        cases hyt : isStrB y with
        | false =>
          have : fateB y = false := by cases y <;> simp [isStrB, fateB] at hyt ⊢
          simp [f__law_is_entry, Fb, b__law_is_entry, begin, ew, hw, e1, e2, e3, e4, k1', k2', k3', gNe_int, i0, i1, i2, i3, i4, l0, gLt, h0, truB, entryB, en, hb2, hg, P9, g9, kAcc, kBeg, kAns, isi_tt, isi_ss, txv, hxt, tyv, hyt, this]
        | true =>
          obtain ⟨w, rfl⟩ : ∃ w, y = .str w := by cases y <;> simp [isStrB] at hyt ⊢
          obtain ⟨lx, rfl⟩ : ∃ w, x = .tup w := by cases x <;> simp [isTupV] at hxt ⊢
          have ef := gNotIn_fates hy.g S
          simp only [v_FATES] at ef
          have et := lawTail_eq hx (ρ := [some (.tup [.str [97, 110, 115, 119, 101, 114, 101, 100], b, n, .tup lx, .str w]), some (.tup lx), some (.str w), none]) S rfl rfl
          cases hf : fateB (.str w) with
          | false =>
            rw [hf] at ef
            simp [f__law_is_entry, Fb, b__law_is_entry, begin, ew, hw, e1, e2, e3, e4, k1', k2', k3', gNe_int, i0, i1, i2, i3, i4, l0, gLt, h0, truB, entryB, en, hb2, hg, P9, g9, kAcc, kBeg, kAns, isi_tt, isi_ss, ef, hf]
          | true =>
            rw [hf] at ef
            simp [lawTail] at et
            simp [f__law_is_entry, Fb, b__law_is_entry, begin, ew, hw, e1, e2, e3, e4, k1', k2', k3', gNe_int, i0, i1, i2, i3, i4, l0, gLt, h0, truB, entryB, en, hb2, hg, P9, g9, kAcc, kBeg, kAns, isi_tt, isi_ss, ef, hf, et]
      have k4' : (k == [97, 110, 115, 119, 101, 114, 101, 100]) = false := by simpa using k4
      simp [f__law_is_entry, Fb, b__law_is_entry, begin, ew, hw, e1, e2, e3, e4, k1', k2', k3', k4', gNe_int, i0, i1, i2, i3, i4, l0, gLt, h0, truB, entryB, en, hb2, hg, P9, g9, kAcc, kBeg, kAns, isi_tt, isi_ss]
theorem f__law_is_entry_eq {v : Val} (h : OK v) (S : Store) : f__law_is_entry [v] S = .ok (.bl (entryB v)) S := by
  have hG := h.g
  cases v with
  | tup l =>
    match l, h with
    | [], _ => simp [f__law_is_entry, Fb, b__law_is_entry, begin, gIsi, isi, truB, gLen, gLt, asB, entryB]
    | [a], _ => simp [f__law_is_entry, Fb, b__law_is_entry, begin, gIsi, isi, truB, gLen, gLt, asB, entryB]
    | a :: b :: r, h =>
      have ha := h.tup a (by simp)
      have haG := ha.g
      have h0 : ¬ ((r.length : Int) + 1 + 1 < 2) := by omega
      have i0 : gIx (.tup (a :: b :: r)) (.int 0) = fun S => .ok a S := by funext S; simp [gIx, ixL_0]
      have l0 : gLen (.tup (a :: b :: r)) = fun S => .ok (.int (r.length + 1 + 1)) S := by funext S; simp [gLen]
      cases a with
      | str k => exact f__law_is_entry_str h S
      | _ => simp [f__law_is_entry, Fb, b__law_is_entry, begin, gd, gIsi, i0, l0, gLt, h0, isi, entryB, truB] at haG ⊢
  | _ => simp [gd, f__law_is_entry, Fb, b__law_is_entry, begin, gIsi, isi, truB, entryB] at hG ⊢
theorem f__law_is_past_eq {v : Val} (h : OK v) (S : Store) : f__law_is_past [v] S = .ok (.bl (pastB v)) S := by
  have hG := h.g
  cases v <;> simp [-mLc, gd, f__law_is_past, Fb, b__law_is_past, begin, gIsi, isi, truB, pastB] at hG ⊢
  rename_i l
  have e : mLc 1 (mIter (mVar 0)) (L3.tNot (mT (mCall f__law_is_entry [mVar 1]))) (mC (.int 1)) [some (.tup l), none] S = .ok (.lst ((l.filter fun v => !entryB v).map fun _ => .int 1)) S := by
    refine lc_filter (l := l) (by simp [itemsOf]) (fun w hw => ?_) (fun _ _ _ => rfl) (by have := h.len; omega)
    simp [wipeR, f__law_is_entry_eq (h.tup w hw), truB]
  rw [e]
  simp only [Out.bind, gEq_lnil, isEmpty_filter, Bool.not_not]
  simp
end K46
/-! PL6: the plain law: entries as data, the law's word of an entry. -/
namespace K46
open L3
inductive An where
  | done (b : List Nat)
  | word (w : List Nat)
deriving DecidableEq
inductive En where
  | gone (c : List Nat)
  | acc (c : List Nat) (n : Int) (o : Bool) (b : List Nat)
  | beg (c : List Nat) (n : Int) (s : List Nat) (m : Int)
  | ans (c : List Nat) (n : Int) (a : An) (f : List Nat)
deriving DecidableEq
def An.val : An → Val
  | .done b => .tup [.str kDone, .str b]
  | .word w => .tup [.str w]
def En.val : En → Val
  | .gone c => .tup [.str kGone, .str c]
  | .acc c n o b => .tup [.str kAcc, .str c, .int n, .bl o, .str b]
  | .beg c n s m => .tup [.str kBeg, .str c, .int n, .str s, .int m]
  | .ans c n a f => .tup [.str kAns, .str c, .int n, a.val, .str f]
/-- signs of plain texts -/
def gs (l : List Nat) : Bool := l.all (· < 1114112)
theorem gs_prn {l : List Nat} (h : l.all isPrn = true) : gs l = true := by
  simp only [gs, List.all_eq_true, isPrn, Bool.and_eq_true, decide_eq_true_eq] at h ⊢
  intro x hx
  have := h x hx
  omega
theorem gs_let {l : List Nat} (h : l.all isLet = true) : gs l = true := by
  simp only [gs, List.all_eq_true, isLet, decide_eq_true_eq] at h ⊢
  intro x hx
  have h1 := h x hx
  have : ∀ y ∈ lets, y < 1114112 := by decide
  exact this x h1
def An.ok : An → Bool
  | .done b => decide (b.length ≤ 150) && b.all isPrn
  | .word w => plainB w
def En.ok : En → Bool
  | .gone c => wordB (.str c)
  | .acc c n o b => wordB (.str c) && betw 0 1000000000 (.int n) && bodyB (.str b)
  | .beg c n s m => wordB (.str c) && betw 0 1000000000 (.int n) && wordB (.str s) && betw 1 1000000000 (.int m)
  | .ans c n a f => wordB (.str c) && betw 0 1000000000 (.int n) && a.ok && fateB (.str f)
theorem word_str {v : Val} (h : wordB v = true) : ∃ c, v = .str c := by cases v <;> simp [wordB] at h ⊢
theorem body_str {v : Val} (h : bodyB v = true) : ∃ c, v = .str c := by cases v <;> simp [bodyB] at h ⊢
theorem bet_int {a b : Int} {v : Val} (h : betw a b v = true) : ∃ c, v = .int c := by cases v <;> simp [betw] at h ⊢
theorem bl_bl {v : Val} (h : isBlB v = true) : ∃ c, v = .bl c := by cases v <;> simp [isBlB] at h ⊢
theorem fate_str {v : Val} (h : fateB v = true) : ∃ c, v = .str c := by cases v <;> simp [fateB] at h ⊢
theorem ans_an {v : Val} (h : ansB v = true) : ∃ a : An, v = a.val ∧ a.ok = true := by
  unfold ansB at h
  split at h
  · rename_i w
    exact ⟨.word w, rfl, h⟩
  · rename_i w b
    simp only [Bool.and_eq_true, beq_iff_eq] at h
    obtain ⟨rfl, hb⟩ := h
    obtain ⟨c, rfl⟩ := body_str hb
    exact ⟨.done c, rfl, by simpa [bodyB, An.ok] using hb⟩
  · cases h
theorem entry_en {v : Val} (h : entryB v = true) : ∃ e : En, v = e.val ∧ e.ok = true := by
  unfold entryB at h
  split at h
  · rename_i k c
    simp only [Bool.and_eq_true, beq_iff_eq] at h
    obtain ⟨hc, rfl⟩ := h
    obtain ⟨c, rfl⟩ := word_str hc
    exact ⟨.gone c, rfl, hc⟩
  · rename_i k c n x y
    simp only [Bool.and_eq_true] at h
    obtain ⟨⟨hc, hn⟩, h⟩ := h
    obtain ⟨c, rfl⟩ := word_str hc
    obtain ⟨n, rfl⟩ := bet_int hn
    split at h
    · rename_i hk
      simp only [beq_iff_eq] at hk
      subst hk
      simp only [Bool.and_eq_true] at h
      obtain ⟨o, rfl⟩ := bl_bl h.1
      obtain ⟨b, rfl⟩ := body_str h.2
      exact ⟨.acc c n o b, rfl, by simp only [En.ok, hc, hn, h.2, Bool.and_self]⟩
    split at h
    · rename_i hk
      simp only [beq_iff_eq] at hk
      subst hk
      simp only [Bool.and_eq_true] at h
      obtain ⟨s, rfl⟩ := word_str h.1
      obtain ⟨m, rfl⟩ := bet_int h.2
      exact ⟨.beg c n s m, rfl, by simp only [En.ok, hc, hn, h.1, h.2, Bool.and_self]⟩
    · simp only [Bool.and_eq_true, beq_iff_eq] at h
      obtain ⟨⟨rfl, hx⟩, hy⟩ := h
      obtain ⟨a, rfl, ha⟩ := ans_an hx
      obtain ⟨f, rfl⟩ := fate_str hy
      exact ⟨.ans c n a f, rfl, by simp only [En.ok, hc, hn, ha, hy, Bool.and_self]⟩
  · cases h
theorem past_ens : ∀ {l : List Val}, l.all entryB = true → ∃ es : List En, l = es.map En.val ∧ es.all En.ok = true
  | [], _ => ⟨[], rfl, rfl⟩
  | v :: l, h => by
    simp only [List.all_cons, Bool.and_eq_true] at h
    obtain ⟨e, rfl, he⟩ := entry_en h.1
    obtain ⟨es, rfl, hes⟩ := past_ens h.2
    exact ⟨e :: es, rfl, by simp [he, hes]⟩
/-! ### what a past says of a key -/
def isAccK (c : List Nat) (n : Int) : En → Bool
  | .acc c' n' _ _ => c' == c && n' == n
  | _ => false
def isBegK (c : List Nat) (n : Int) : En → Bool
  | .beg c' n' _ _ => c' == c && n' == n
  | _ => false
def isGoneK (c : List Nat) : En → Bool
  | .gone c' => c' == c
  | _ => false
def ansK (c : List Nat) (n : Int) : En → Option An
  | .ans c' n' a _ => if c' == c && n' == n then some a else none
  | _ => none
def accK (c : List Nat) (n : Int) : En → Option (Bool × List Nat)
  | .acc c' n' o b => if c' == c && n' == n then some (o, b) else none
  | _ => none
def isAns : En → Bool
  | .ans .. => true
  | _ => false
def busy : An := .word kBusy
def kindB (ac : Option (Bool × List Nat)) (a : An) : Bool := match ac with
  | none => false
  | some (o, _) => a == busy || (o && a == An.word kNone) || (!o && (a == An.word kBeg || a == An.word kNot || a == An.word kUnk))
def replyB (ac : Option (Bool × List Nat)) (bg : Bool) (a : An) : Bool := match a with
  | .word _ => false
  | .done t => match ac with
    | some (_, b) => t != b.reverse || !bg
    | none => true
/-- the word on an answer; `ac` is what was accepted of the key, `bg` whether begun -/
def ansWord (ac : Option (Bool × List Nat)) (bg : Bool) (a : An) (f : List Nat) : List Nat :=
  if kindB ac a then [107, 105, 110, 100]
  else if replyB ac bg a then [114, 101, 112, 108, 121]
  else if a == An.word kBeg && !bg then kBeg
  else if a == An.word kNot && bg then kNot
  else if ((a == busy) != (f == [])) || (a == An.word kUnk && f != kOpen) || (a == An.word kNot && f == kBeg) || (a == An.word kBeg && f == kNot) then [102, 97, 116, 101]
  else []
/-- the word on an entry after a past -/
def wordOf (p : List En) : En → List Nat
  | .gone _ => []
  | .acc c n o b =>
    if p.any (isAccK c n) then [116, 119, 105, 99, 101, 32, 97, 99, 99, 101, 112, 116, 101, 100]
    else if p.any (isGoneK c) then kGone
    else if (p.filterMap (ansK c n)).contains busy then [116, 119, 105, 99, 101, 32, 97, 110, 115, 119, 101, 114, 101, 100]
    else []
  | .beg c n s m =>
    match (p.filterMap (accK c n)) with
    | [] => [110, 111, 116, 32, 97, 99, 99, 101, 112, 116, 101, 100]
    | (o, _) :: _ =>
      if p.any (isBegK c n) && o then [116, 119, 105, 99, 101, 32, 98, 101, 103, 117, 110]
      else if (p.filterMap (ansK c n)).any (fun a => a == An.word kNot || a == busy) then [97, 102, 116, 101, 114, 32, 110, 111]
      else []
  | .ans c n a f =>
    if a != busy && !p.any (isAccK c n) then [110, 111, 116, 32, 97, 99, 99, 101, 112, 116, 101, 100]
    else if p.any (isGoneK c) then kGone
    else if !(p.filterMap (ansK c n)).isEmpty then [116, 119, 105, 99, 101, 32, 97, 110, 115, 119, 101, 114, 101, 100]
    else ansWord (p.filterMap (accK c n)).head? (p.any (isBegK c n)) a f
/-- the judgement of a past: the rows before, then the rest -/
def judgeGo (p : List En) : List En → Option (Nat × List Nat)
  | [] => none
  | e :: l => if wordOf p e = [] then judgeGo (p ++ [e]) l else some (p.length, wordOf p e)
def dueOf (es : List En) : Val := match judgeGo [] es with
  | some (k, w) => .tup [.str [98, 114, 111, 107, 101, 110], .int k, .str w]
  | none => .tup [.str [107, 101, 112, 116], .int (es.filter isAns).length]
end K46
/-! PL7: the plain law: the law's word on an entry. -/
namespace K46
open L3
theorem gEq_one {a : An} (w : List Nat) (hw : gs w = true) (h : gd a.val = true) (S : Store) : gEq a.val (.tup [.str w]) S = .ok (.bl (a == An.word w)) S := by
  have : okEq a.val (.tup [.str w]) = true := by
    have := gd_D _ h
    cases a <;> simp [An.val, okEq, flatEq, isD, isSc] at this ⊢ <;> simp_all [isDs]
  rw [gEq, if_pos this]
  congr 2
  cases a with
  | done b => simp [An.val, veq, veqs]
  | word v =>
    simp only [An.val, veq, veqs, Bool.and_true]
    rw [Bool.eq_iff_iff]
    simp
def acV : Option (Bool × List Nat) → Val
  | none => .non
  | some (o, _) => .bl o
def acB : Option (Bool × List Nat) → Val
  | none => .str []
  | some (_, b) => .str b
theorem Fb_of {b : Sv} {n : Nat} {as : List Val} {S : Store} {l : List Nat} (h : outOf (b (begin n as) S) = .ok (.str l) S) : Fb b n as S = .ok (.str l) S := by
  rw [Fb, h]
  simp
theorem fate_cases {f : List Nat} (h : fateB (.str f) = true) : f = kBeg ∨ f = kNot ∨ f = kOpen ∨ f = [] := by
  simp only [fateB, Bool.or_eq_true, beq_iff_eq] at h
  rcases h with ((z | z) | z) | z <;> simp [z]
theorem plain_cases {w : List Nat} (h : plainB w = true) : w = kBusy ∨ w = kBeg ∨ w = kNot ∨ w = kUnk ∨ w = kNone := by
  simp only [plainB, Bool.or_eq_true, beq_iff_eq] at h
  rcases h with (((z | z) | z) | z) | z <;> simp [z]
theorem answer_word_word (c : List Nat) (n : Int) {w f : List Nat} (hw : plainB w = true) (hf : fateB (.str f) = true) (ac : Option (Bool × List Nat)) (bg : Bool) (hn : ac = none → w = kBusy) (S : Store) :
    f__law_answer_word [(En.ans c n (.word w) f).val, acV ac, acB ac, .bl bg] S = .ok (.str (ansWord ac bg (.word w) f)) S := by
  rcases plain_cases hw with rfl | rfl | rfl | rfl | rfl <;> rcases fate_cases hf with rfl | rfl | rfl | rfl <;> rcases ac with _ | ⟨⟨⟩ | ⟨⟩, b⟩ <;> cases bg <;> first | exact Fb_of (by rfl) | exact absurd (hn rfl) (by decide)
theorem answer_word_done (c : List Nat) (n : Int) {t f : List Nat} (ht : bodyB (.str t) = true) (hf : fateB (.str f) = true) (o : Bool) {b : List Nat} (hb : bodyB (.str b) = true) (bg : Bool) (S : Store) :
    f__law_answer_word [(En.ans c n (.done t) f).val, .bl o, .str b, .bl bg] S = .ok (.str (ansWord (some (o, b)) bg (.done t) f)) S := by
  simp only [bodyB, Bool.and_eq_true, decide_eq_true_eq] at ht hb
  have gt : gd (.str t) = true := gs_prn ht.2
  have gb : gd (.str b.reverse) = true := gs_prn (by simpa using hb.2)
  have gdt : gd (An.done t).val = true := by
    have : gd (.str kDone) = true := by decide
    simp only [An.val, gd, gds, Bool.and_true, Bool.and_eq_true] at this gt ⊢
    exact ⟨this, gt⟩
  have e1 := fun w hw => gEq_one (a := .done t) w hw gdt
  have e2 := gNe_str gt gb
  have hfit : fit b.length = true := fit_of (by omega)
  have e3 := gIn_ones (l := [.str kDone, .str t]) [[98, 101, 103, 117, 110], [110, 111, 116, 32, 98, 101, 103, 117, 110], [117, 110, 107, 110, 111, 119, 110]] (by decide) (by simpa only [An.val, gd] using gdt) rfl
  have e4 := e1 kNone (by decide)
  have e5 := e1 kBusy (by decide)
  have e6 := e1 kBeg (by decide)
  have e7 := e1 kNot (by decide)
  have e8 := e1 kUnk (by decide)
  simp [oneB, one, An.val, kNone, kBusy, kBeg, kNot, kUnk, kDone] at e3 e4 e5 e6 e7 e8
  have e9 : ∀ S, gEq (.str [100, 111, 110, 101]) (.str [100, 111, 110, 101]) S = .ok (.bl true) S := fun S => rfl
  have dw : ∀ w, (An.done t == An.word w) = false := fun w => beq_eq_false_iff_ne.mpr (by simp)
  have f1 : gEq (.str [98, 101, 103, 117, 110]) (.str []) S = .ok (.bl false) S := rfl
  have f2 : gEq (.str [110, 111, 116, 32, 98, 101, 103, 117, 110]) (.str []) S = .ok (.bl false) S := rfl
  have f3 : gEq (.str [111, 112, 101, 110]) (.str []) S = .ok (.bl false) S := rfl
  have f4 : gEq (.str []) (.str []) S = .ok (.bl true) S := rfl
  have g1 : ∀ (v : Val) S, gIsN (.bl o) (.bl false) S = .ok (.bl (!o)) S := by intro v S; cases o <;> rfl
  refine Fb_of ?_
  rcases fate_cases hf with rfl | rfl | rfl | rfl <;> cases o <;> cases bg <;> cases hd : (t == b.reverse) <;>
    simp [outOf, b__law_answer_word, begin, En.val, An.val, gIx, ixL_3, ixL_4, ixL_0, ixL_1, kAns, kDone, kBeg, kNot, kOpen, kNone, kBusy, kUnk, e2, e3, e4, e5, e6, e7, e8, e9, truB, gRev, hfit, hd, ansWord, kindB, replyB, busy, bne, dw, f1, f2, f3, f4, gNe_bl]
end K46
/-! PL8: the plain law: the law's word on an entry. -/
namespace K46
open L3
/-- the key of an entry: its second and third items -/
def En.key : En → List Val
  | .gone c => [.str c]
  | .acc c n _ _ => [.str c, .int n]
  | .beg c n _ _ => [.str c, .int n]
  | .ans c n _ _ => [.str c, .int n]
def En.kind : En → List Nat
  | .gone _ => kGone
  | .acc .. => kAcc
  | .beg .. => kBeg
  | .ans .. => kAns
def En.items : En → List Val
  | .gone c => [.str kGone, .str c]
  | .acc c n o b => [.str kAcc, .str c, .int n, .bl o, .str b]
  | .beg c n s m => [.str kBeg, .str c, .int n, .str s, .int m]
  | .ans c n a f => [.str kAns, .str c, .int n, a.val, .str f]
theorem En.val_eq (e : En) : e.val = .tup e.items := by cases e <;> rfl
theorem En.ix0 (e : En) (S : Store) : gIx e.val (.int 0) S = .ok (.str e.kind) S := by
  cases e <;> simp [En.val, gIx, ixL_0, En.kind]
theorem En.cut13 (e : En) (S : Store) : gCut (some 1) (some 3) e.val S = .ok (.tup e.key) S := by
  cases e <;> simp [En.val, gCut, En.key] <;> rfl
theorem En.gd_items {e : En} (h : gd e.val = true) : gds e.items = true := by
  rw [En.val_eq] at h
  simpa only [gd] using h
/-- the same key -/
def En.k : En → List Nat × Option Int
  | .gone c => (c, none)
  | .acc c n _ _ | .beg c n _ _ | .ans c n _ _ => (c, some n)
def keyB (a b : En) : Bool := a.k == b.k
theorem key_scal (e : En) : e.key.all isSc = true := by cases e <;> rfl
theorem veqs_key (a b : En) : veqs a.key b.key = keyB a b := by
  cases a <;> cases b <;> simp [En.key, veqs, veq, keyB, En.k] <;> first | rfl | (rw [Bool.eq_iff_iff]; simp)
theorem gEq_key (a b : En) (S : Store) : gEq (.tup a.key) (.tup b.key) S = .ok (.bl (keyB a b)) S := by
  have hd : isDs a.key = true := by cases a <;> simp [En.key, isDs, isD]
  have : okEq (.tup a.key) (.tup b.key) = true := by simp only [okEq, flatEq, hd, key_scal b, Bool.and_true, Bool.or_true]
  rw [gEq, if_pos this]
  simp only [veq, veqs_key]
/-- [e for x in l if t] over a list of things that stand for values -/
theorem lcGo_gen {α : Type} {g : α → Val} {i : Nat} {mt : Tv} {me : Ev} {ρ : Sl} {S : Store} {f : α → Val} {t : α → Bool} : ∀ (l : List α) (acc : List Val), (∀ v ∈ l, mt (ρ.set i (some (g v))) S = .ok (t v) S) → (∀ v ∈ l, t v = true → me (ρ.set i (some (g v))) S = .ok (f v) S) → acc.length + l.length ≤ 16777216 →
    lcGo i mt me ρ (l.map g) acc S = .ok (.lst (acc ++ (l.filter t).map f)) S
  | [], acc, _, _, _ => by simp [lcGo]
  | v :: l, acc, h0, h, hz => by
    have h1 := h0 v (List.mem_cons_self ..)
    have hz' : acc.length + (l.length + 1) ≤ 16777216 := by simpa using hz
    have hf : fit (acc.length + 1) = true := by unfold fit; exact decide_eq_true (by omega)
    simp only [lcGo, List.map_cons, h1]
    cases ht : t v with
    | false =>
      simp only
      rw [lcGo_gen l acc (fun u hu => h0 u (List.mem_cons_of_mem _ hu)) (fun u hu => h u (List.mem_cons_of_mem _ hu)) (by omega)]
      simp [ht]
    | true =>
      simp only [h v (List.mem_cons_self ..) ht, hf, if_true]
      rw [lcGo_gen l (acc ++ [f v]) (fun u hu => h0 u (List.mem_cons_of_mem _ hu)) (fun u hu => h u (List.mem_cons_of_mem _ hu)) (by simp; omega)]
      simp [ht]
theorem lc_gen {α : Type} {g : α → Val} {i : Nat} {mi : Iv} {mt : Tv} {me : Ev} {ρ : Sl} {S : Store} {l : List α} {t : α → Bool} {f : α → Val} (hi : mi ρ S = .ok (l.map g) S) (h0 : ∀ v ∈ l, mt ((wipeR ρ [i]).set i (some (g v))) S = .ok (t v) S) (hm : ∀ v ∈ l, t v = true → me ((wipeR ρ [i]).set i (some (g v))) S = .ok (f v) S) (hz : l.length ≤ 16777216) :
    mLc i mi mt me ρ S = .ok (.lst ((l.filter t).map f)) S := by
  simp only [mLc, hi]
  have := lcGo_gen (ρ := wipeR ρ [i]) l [] h0 hm (by simpa using hz)
  simpa using this
theorem gd_kinds : gd (.str kGone) = true ∧ gd (.str kAcc) = true ∧ gd (.str kBeg) = true ∧ gd (.str kAns) = true := by decide
theorem En.gs_kind (e : En) : gd (.str e.kind) = true := by
  cases e
  · exact gd_kinds.1
  · exact gd_kinds.2.1
  · exact gd_kinds.2.2.1
  · exact gd_kinds.2.2.2
/-- [e for e in l if e[0] == w] -/
theorem lc_kind {i j : Nat} {ρ : Sl} {S : Store} {l : List En} {w : List Nat} (hw : gd (.str w) = true) (hi : ρ[i]? = some (some (.lst (l.map En.val)))) (hj : j < ρ.length) (hz : l.length ≤ 16777216) :
    mLc j (mIter (mVar i)) (mB (mBin gEq (mBin gIx (mVar j) (mC (.int 0))) (mC (.str w)))) (mVar j) ρ S = .ok (.lst ((l.filter fun e => e.kind == w).map En.val)) S := by
  have hjj : ∀ v, ((wipeR ρ [j]).set j (some v))[j]? = some (some v) := by
    intro v
    simp [wipeR, hj]
  refine lc_gen (g := En.val) (l := l) (by simp [hi, itemsOf]) (fun e he => ?_) (fun e he _ => by simp [hjj]) hz
  simp [hjj, En.ix0, gEq_str e.gs_kind hw]
/-- [e for e in l if e[1:3] == row[1:3]] -/
theorem lc_mine {ρ : Sl} {S : Store} {l : List En} {row : En} (h3 : ρ[3]? = some (some (.tup (l.map En.val)))) (h2 : ρ[2]? = some (some row.val)) (hj : ρ.length = 13) (hz : l.length ≤ 16777216) :
    mLc 5 (mIter (mVar 3)) (mB (mBin gEq (mCut (mVar 5) (some (mC (.int 1))) (some (mC (.int 3)))) (mCut (mVar 2) (some (mC (.int 1))) (some (mC (.int 3)))))) (mVar 5) ρ S = .ok (.lst ((l.filter fun e => keyB e row).map En.val)) S := by
  have hjj : ∀ v, ((wipeR ρ [5]).set 5 (some v))[5]? = some (some v) := by
    intro v
    simp [wipeR, hj]
  have h2' : ∀ v, ((wipeR ρ [5]).set 5 (some v))[2]? = some (some row.val) := by
    intro v
    simp [wipeR, h2]
  refine lc_gen (g := En.val) (l := l) (by simp [h3, itemsOf]) (fun e he => ?_) (fun e he _ => by simp [hjj]) hz
  simp [hjj, h2', En.cut13, gEq_key]
/-- [e[3] for e in l if e[0] == 'answered'] -/
def En.an : En → Option An
  | .ans _ _ a _ => some a
  | _ => none
theorem lc_answers {ρ : Sl} {S : Store} {l : List En} (h4 : ρ[4]? = some (some (.lst (l.map En.val)))) (hj : ρ.length = 13) (hz : l.length ≤ 16777216) :
    mLc 5 (mIter (mVar 4)) (mB (mBin gEq (mBin gIx (mVar 5) (mC (.int 0))) (mC (.str kAns)))) (mBin gIx (mVar 5) (mC (.int 3))) ρ S = .ok (.lst ((l.filterMap En.an).map An.val)) S := by
  have hjj : ∀ v, ((wipeR ρ [5]).set 5 (some v))[5]? = some (some v) := by
    intro v
    simp [wipeR, hj]
  have e := lc_gen (g := En.val) (l := l) (i := 5) (mi := mIter (mVar 4)) (mt := mB (mBin gEq (mBin gIx (mVar 5) (mC (.int 0))) (mC (.str kAns)))) (me := mBin gIx (mVar 5) (mC (.int 3))) (t := fun e => e.kind == kAns) (f := fun e => match e with | .ans _ _ a _ => a.val | _ => .non) (ρ := ρ) (S := S) (by simp [h4, itemsOf]) (fun e he => by simp [hjj, En.ix0, gEq_str e.gs_kind gd_kinds.2.2.2]) (fun e he ht => ?_) hz
  · rw [e]
    congr 2
    clear e h4 hz hjj hj
    induction l with
    | nil => rfl
    | cons e l ih =>
      cases e <;> simp [En.kind, En.an, kGone, kAcc, kBeg, kAns] at ih ⊢ <;> exact ih
  · cases e with
    | ans c n a f => simp [hjj, En.val, gIx, ixL_3]
    | _ => simp [En.kind, kGone, kAcc, kBeg, kAns] at ht
/-! ### entries are plain data -/
theorem gs_isP {l : List Nat} (h : gd (.str l) = true) : isP (.str l) = true := by simpa only [isP, gd] using h
theorem An.isP_val {a : An} (h : gd a.val = true) : isP a.val = true := by
  cases a with
  | done b =>
    simp only [An.val, gd, gds, Bool.and_true, Bool.and_eq_true] at h
    simp only [An.val, isP, isPs, Bool.and_true, Bool.and_eq_true]
    exact h
  | word b =>
    simp only [An.val, gd, gds, Bool.and_true, Bool.and_eq_true] at h
    simp only [An.val, isP, isPs, Bool.and_true, Bool.and_eq_true]
    exact h
theorem En.isP_val {e : En} (h : gd e.val = true) : isP e.val = true := by
  cases e with
  | ans c n a f =>
    simp only [En.val, gd, gds, Bool.and_true, Bool.and_eq_true] at h
    simp only [En.val, isP, isPs, Bool.and_true, Bool.and_eq_true]
    exact ⟨h.1, h.2.1, trivial, An.isP_val h.2.2.2.1, h.2.2.2.2⟩
  | _ =>
    simp only [En.val, gd, gds, Bool.and_true, Bool.and_eq_true] at h
    simp only [En.val, isP, isPs, Bool.and_true, Bool.and_eq_true]
    simp_all
theorem isPs_ens : ∀ {l : List En}, (∀ e ∈ l, gd e.val = true) → isPs (l.map En.val) = true
  | [], _ => rfl
  | e :: l, h => by
    simp only [List.map_cons, isPs, Bool.and_eq_true]
    exact ⟨En.isP_val (h e (List.mem_cons_self ..)), isPs_ens fun u hu => h u (List.mem_cons_of_mem _ hu)⟩
theorem isPs_ans : ∀ {l : List An}, (∀ e ∈ l, gd e.val = true) → isPs (l.map An.val) = true
  | [], _ => rfl
  | e :: l, h => by
    simp only [List.map_cons, isPs, Bool.and_eq_true]
    exact ⟨An.isP_val (h e (List.mem_cons_self ..)), isPs_ans fun u hu => h u (List.mem_cons_of_mem _ hu)⟩
end K46
/-! PL9: the plain law: law_word_of = wordOf. -/
namespace K46
open L3
theorem cut_take (es : List Val) (k : Nat) (h : k ≤ es.length) (S : Store) : gCut none (some (k : Int)) (.tup es) S = .ok (.tup (es.take k)) S := by
  have e : HT.sIx es.length es.length (some (k : Int)) = k := by
    have : ¬ ((k : Int) < 0) := by omega
    simp [HT.sIx, this]
    omega
  simp only [gCut, cutL, e]
  simp [HT.sIx]
theorem ixL_nat {l : List Val} {k : Nat} {v : Val} (h : l[k]? = some v) (S : Store) : gIx (.tup l) (.int k) S = .ok v S := by
  have : ixL l (k : Int) = some v := L2.atI_nat h
  simp [gIx, this]
/-- what word_of does after its four lists -/
def restW : Sv :=
    (mSeq (mIfS (mB (mBin gEq (mBin gIx (mVar 2) (mC (.int 0))) (mC (.str [103, 111, 110, 101])))) (mRet (mC (.str []))) mNil)
    (mSeq (mIfS (L3.tAnd (mB (mBin gEq (mBin gIx (mVar 2) (mC (.int 0))) (mC (.str [97, 99, 99, 101, 112, 116, 101, 100])))) (mB (mBin gNe (mVar 6) (mLst [])))) (mRet (mC (.str [116, 119, 105, 99, 101, 32, 97, 99, 99, 101, 112, 116, 101, 100]))) mNil)
    (mSeq (mSet 9 (mAnd (mBin gEq (mBin gIx (mVar 2) (mC (.int 0))) (mC (.str [97, 110, 115, 119, 101, 114, 101, 100]))) (mBin gEq (mBin gIx (mVar 2) (mC (.int 3))) (mTup [(mC (.str [98, 117, 115, 121]))]))))
    (mSeq (mIfS (L3.tAnd (mB (mBin gNe (mBin gIx (mVar 2) (mC (.int 0))) (mC (.str [97, 99, 99, 101, 112, 116, 101, 100])))) (L3.tAnd (L3.tNot (mT (mVar 9))) (mB (mBin gEq (mVar 6) (mLst []))))) (mRet (mC (.str [110, 111, 116, 32, 97, 99, 99, 101, 112, 116, 101, 100]))) mNil)
    (mSeq (mIfS (L3.tAnd (mB (mBin gNe (mBin gIx (mVar 2) (mC (.int 0))) (mC (.str [98, 101, 103, 117, 110])))) (mB (mBin gIn (mTup [(mC (.str [103, 111, 110, 101])), (mBin gIx (mVar 2) (mC (.int 1)))]) (mVar 3)))) (mRet (mC (.str [103, 111, 110, 101]))) mNil)
    (mSeq (mIfS (L3.tAnd (mB (mBin gEq (mBin gIx (mVar 2) (mC (.int 0))) (mC (.str [98, 101, 103, 117, 110])))) (L3.tAnd (mB (mBin gNe (mVar 7) (mLst []))) (mT (mBin gIx (mBin gIx (mVar 6) (mC (.int 0))) (mC (.int 3)))))) (mRet (mC (.str [116, 119, 105, 99, 101, 32, 98, 101, 103, 117, 110]))) mNil)
    (mSeq (mIfS (L3.tAnd (mB (mBin gEq (mBin gIx (mVar 2) (mC (.int 0))) (mC (.str [98, 101, 103, 117, 110])))) (mB (mBin gNe (mLc 10 (mIter (mVar 8)) (mB (mBin gIn (mVar 10) (mTup [(mTup [(mC (.str [110, 111, 116, 32, 98, 101, 103, 117, 110]))]), (mTup [(mC (.str [98, 117, 115, 121]))])]))) (mC (.int 1))) (mLst [])))) (mRet (mC (.str [97, 102, 116, 101, 114, 32, 110, 111]))) mNil)
    (mSeq (mIfS (L3.tOr (L3.tAnd (mB (mBin gEq (mBin gIx (mVar 2) (mC (.int 0))) (mC (.str [97, 110, 115, 119, 101, 114, 101, 100])))) (mB (mBin gNe (mVar 8) (mLst [])))) (L3.tAnd (mB (mBin gEq (mBin gIx (mVar 2) (mC (.int 0))) (mC (.str [97, 99, 99, 101, 112, 116, 101, 100])))) (mB (mBin gIn (mTup [(mC (.str [98, 117, 115, 121]))]) (mVar 8))))) (mRet (mC (.str [116, 119, 105, 99, 101, 32, 97, 110, 115, 119, 101, 114, 101, 100]))) mNil)
    (mSeq (mIfS (mB (mBin gNe (mBin gIx (mVar 2) (mC (.int 0))) (mC (.str [97, 110, 115, 119, 101, 114, 101, 100])))) (mRet (mC (.str []))) mNil)
    (mSeq (mAsg (gTp [11, 12]) (mIf (mB (mBin gNe (mVar 6) (mLst []))) (mCut (mBin gIx (mVar 6) (mC (.int 0))) (some (mC (.int 3))) none) (mTup [(mC .non), (mC (.str []))])))
    (mRet (mCall f__law_answer_word [(mVar 2), (mVar 11), (mVar 12), (mBin gNe (mVar 7) (mLst []))]))))))))))))
theorem word_pre {es : List En} {k : Nat} {row : En} (h : es[k]? = some row) (hz : es.length ≤ 100000) (S : Store) :
    b__law_word_of (begin 13 [.tup (es.map En.val), .int k]) S = restW [some (.tup (es.map En.val)), some (.int k), some row.val, some (.tup ((es.take k).map En.val)), some (.lst (((es.take k).filter fun e => keyB e row).map En.val)), none, some (.lst ((((es.take k).filter fun e => keyB e row).filter fun e => e.kind == kAcc).map En.val)), some (.lst ((((es.take k).filter fun e => keyB e row).filter fun e => e.kind == kBeg).map En.val)), some (.lst ((((es.take k).filter fun e => keyB e row).filterMap En.an).map An.val)), none, none, none, none] S := by
  have hk : k < es.length := by
    rcases Nat.lt_or_ge k es.length with z | z
    · exact z
    · rw [List.getElem?_eq_none z] at h; cases h
  have h1 : (es.map En.val)[k]? = some row.val := by simp [h]
  have e1 := ixL_nat h1
  have e2 := cut_take (es.map En.val) k (by simp; omega)
  rw [← List.map_take] at e2
  have hl : ((es.take k).filter fun e => keyB e row).length ≤ 16777216 := by
    have := List.length_filter_le (fun e => keyB e row) (es.take k); simp at this ⊢; omega
  have e5 := fun ρ h4 hj => lc_answers (ρ := ρ) (S := S) (l := (es.take k).filter fun e => keyB e row) h4 hj hl
  simp only [kAns] at e5
  simp [-mLc, b__law_word_of, begin, e1, e2, -List.map_take]
  rw [lc_mine (l := es.take k) (row := row) rfl rfl rfl (by simp; omega)]
  simp [-mLc, -List.map_take]
  rw [lc_kind (i := 4) (j := 5) (w := [97, 99, 99, 101, 112, 116, 101, 100]) (l := (es.take k).filter fun e => keyB e row) (by decide) rfl (by simp) hl]
  simp [-mLc, -List.map_take]
  rw [lc_kind (i := 4) (j := 5) (w := [98, 101, 103, 117, 110]) (l := (es.take k).filter fun e => keyB e row) (by decide) rfl (by simp) hl]
  simp [-mLc, -List.map_take]
  rw [e5 _ rfl rfl]
  rfl
theorem word_gone {es : List En} {k : Nat} {c : List Nat} (h : es[k]? = some (.gone c)) (hz : es.length ≤ 100000) (S : Store) :
    f__law_word_of [.tup (es.map En.val), .int k] S = .ok (.str []) S := by
  refine Fb_of ?_
  rw [word_pre h hz]
  have e6 := En.ix0 (.gone c) S
  simp only [En.kind, kGone] at e6
  have e7 : ∀ S, gEq (.str [103, 111, 110, 101]) (.str [103, 111, 110, 101]) S = .ok (.bl true) S := fun S => rfl
  simp [-mLc, -List.map_take, restW, e6, e7, outOf]
end K46
/-! PL10: the plain law: law_word_of = wordOf, row by row. -/
namespace K46
open L3
theorem gIn_tup {a : Val} {l : List Val} {b : Val} (hb : seqOf b = some l) (ht : ∃ t, a = .tup t) (ha : isP a = true) (hl : isPs l = true) (hd : dep a ≤ 60) (S : Store) : gIn a b S = .ok (.bl (l.any fun z => veq z a)) S := by
  obtain ⟨t, rfl⟩ := ht
  unfold gIn
  split
  · rename_i h2; cases h2
  · simp [hb, ha, hl, hd]
theorem veq_gone (e : En) (c : List Nat) : veq e.val (.tup [.str kGone, .str c]) = isGoneK c e := by
  cases e <;> simp [En.val, veq, veqs, isGoneK, kGone, kAcc, kBeg, kAns]
theorem gIn_gone {p : List En} (hp : ∀ e ∈ p, gd e.val = true) {c : List Nat} (hc : gd (.str c) = true) (S : Store) : gIn (.tup [.str kGone, .str c]) (.tup (p.map En.val)) S = .ok (.bl (p.any (isGoneK c))) S := by
  rw [gIn_tup rfl ⟨_, rfl⟩ (by simp only [isP, isPs, Bool.and_true, Bool.and_eq_true]; exact ⟨gd_kinds.1, hc⟩) (isPs_ens hp) (by simp [dep, deps])]
  simp [List.any_map, Function.comp_def, veq_gone]
theorem veq_an (a : An) (w : List Nat) : veq a.val (.tup [.str w]) = (a == An.word w) := by
  cases a with
  | done b => simp [An.val, veq, veqs]
  | word v =>
    simp only [An.val, veq, veqs, Bool.and_true]
    rw [Bool.eq_iff_iff]
    simp
theorem gIn_busy {l : List An} (hp : ∀ e ∈ l, gd e.val = true) (S : Store) : gIn (.tup [.str kBusy]) (.lst (l.map An.val)) S = .ok (.bl (l.contains busy)) S := by
  rw [gIn_tup rfl ⟨_, rfl⟩ (by decide) (isPs_ans hp) (by simp [dep, deps])]
  congr 2
  rw [List.any_map]
  simp only [Function.comp_def, veq_an, busy, List.contains_eq_any_beq]
  rw [Bool.eq_iff_iff]
  simp only [List.any_eq_true, beq_iff_eq]
  constructor <;> (rintro ⟨x, hx, e⟩; exact ⟨x, hx, e.symm⟩)
theorem ff_empty {α β : Type} (a b : α → Bool) (f : α → β) (p : List α) : (((p.filter a).filter b).map f).isEmpty = !p.any fun e => a e && b e := by
  induction p with
  | nil => rfl
  | cons e p ih => cases h1 : a e <;> cases h2 : b e <;> simp [h1, h2] at ih ⊢ <;> exact ih
theorem acc_pt (row : En) {c : List Nat} {n : Int} (hk : row.k = (c, some n)) (e : En) : (keyB e row && e.kind == kAcc) = isAccK c n e := by
  unfold keyB
  rw [hk]
  cases e <;> simp [En.k, En.kind, kGone, kAcc, kBeg, kAns, isAccK] <;> rfl
theorem accs_empty (p : List En) (row : En) {c : List Nat} {n : Int} (hk : row.k = (c, some n)) : (((p.filter fun e => keyB e row).filter fun e => e.kind == kAcc).map En.val).isEmpty = !p.any (isAccK c n) := by
  rw [ff_empty]
  simp only [acc_pt row hk]
theorem beg_pt (row : En) {c : List Nat} {n : Int} (hk : row.k = (c, some n)) (e : En) : (keyB e row && e.kind == kBeg) = isBegK c n e := by
  unfold keyB
  rw [hk]
  cases e <;> simp [En.k, En.kind, kGone, kAcc, kBeg, kAns, isBegK] <;> rfl
theorem begs_empty (p : List En) (row : En) {c : List Nat} {n : Int} (hk : row.k = (c, some n)) : (((p.filter fun e => keyB e row).filter fun e => e.kind == kBeg).map En.val).isEmpty = !p.any (isBegK c n) := by
  rw [ff_empty]
  simp only [beg_pt row hk]
theorem an_pt (row : En) {c : List Nat} {n : Int} (hk : row.k = (c, some n)) (e : En) : (if keyB e row = true then En.an e else none) = ansK c n e := by
  unfold keyB
  rw [hk]
  cases e <;> simp [En.an, ansK, En.k]
theorem ans_pt (row : En) {c : List Nat} {n : Int} (hk : row.k = (c, some n)) (p : List En) : (p.filter fun e => keyB e row).filterMap En.an = p.filterMap (ansK c n) := by
  induction p with
  | nil => rfl
  | cons e p ih =>
    have hh := an_pt row hk e
    cases h : keyB e row with
    | true =>
      rw [h, if_pos rfl] at hh
      rw [List.filter_cons_of_pos (by simpa using h), List.filterMap_cons, List.filterMap_cons, hh, ih]
    | false =>
      rw [h, if_neg (by decide)] at hh
      rw [List.filter_cons_of_neg (by simp [h]), List.filterMap_cons, ← hh, ih]
end K46
/-! PL11:: law_word_of on an accepted row. Generalize the three lists to Bools first, then by_cases. -/
namespace K46
open L3
theorem word_acc {es : List En} {k : Nat} {c b : List Nat} {n : Int} {o : Bool} (h : es[k]? = some (.acc c n o b)) (hz : es.length ≤ 100000) (hg : ∀ e ∈ es, gd e.val = true) (hc : gd (.str c) = true) (S : Store) :
    f__law_word_of [.tup (es.map En.val), .int k] S = .ok (.str (wordOf (es.take k) (.acc c n o b))) S := by
  refine Fb_of ?_
  rw [word_pre h hz]
  have e6 := En.ix0 (.acc c n o b)
  simp only [En.kind, kAcc] at e6
  have g1 : ∀ S, gEq (.str [97, 99, 99, 101, 112, 116, 101, 100]) (.str [103, 111, 110, 101]) S = .ok (.bl false) S := fun S => rfl
  have g2 : ∀ S, gEq (.str [97, 99, 99, 101, 112, 116, 101, 100]) (.str [97, 99, 99, 101, 112, 116, 101, 100]) S = .ok (.bl true) S := fun S => rfl
  have n1 := fun S => gNe_lnil (l := ((((es.take k).filter fun e => keyB e (.acc c n o b)).filter fun e => e.kind == kAcc).map En.val)) (isPs_ens (fun e he => hg e (List.mem_of_mem_take (List.mem_filter.mp (List.mem_filter.mp he).1).1))) S
  simp only [accs_empty _ (.acc c n o b) rfl, Bool.not_not] at n1
  have ga := gIn_gone (p := es.take k) (fun e he => hg e (List.mem_of_mem_take he)) hc
  generalize ha : (((es.take k).filter fun e => keyB e (.acc c n o b)).filter fun e => e.kind == kAcc).map En.val = la at n1 ⊢
  cases h1 : (es.take k).any (isAccK c n) with
  | true =>
    simp only [h1] at n1
    simp [-mLc, -List.map_take, -List.filter_filter, restW, e6, g1, g2, n1, outOf, wordOf, h1]
  | false =>
    simp only [h1] at n1
    have i1 : ∀ S, gIx (En.acc c n o b).val (.int 1) S = .ok (.str c) S := by intro S; simp [En.val, gIx, ixL_1]
    have g3 : ∀ S, gEq (.str [97, 99, 99, 101, 112, 116, 101, 100]) (.str [97, 110, 115, 119, 101, 114, 101, 100]) S = .ok (.bl false) S := fun S => rfl
    have g4 : ∀ S, gNe (.str [97, 99, 99, 101, 112, 116, 101, 100]) (.str [97, 99, 99, 101, 112, 116, 101, 100]) S = .ok (.bl false) S := fun S => rfl
    have g5 : ∀ S, gNe (.str [97, 99, 99, 101, 112, 116, 101, 100]) (.str [98, 101, 103, 117, 110]) S = .ok (.bl true) S := fun S => rfl
    have g6 : ∀ S, gEq (.str [97, 99, 99, 101, 112, 116, 101, 100]) (.str [98, 101, 103, 117, 110]) S = .ok (.bl false) S := fun S => rfl
    have g7 : ∀ S, gNe (.str [97, 99, 99, 101, 112, 116, 101, 100]) (.str [97, 110, 115, 119, 101, 114, 101, 100]) S = .ok (.bl true) S := fun S => rfl
    simp only [kGone] at ga
    cases h2 : (es.take k).any (isGoneK c) with
    | true =>
      simp only [h2] at ga
      simp [-mLc, -List.map_take, -List.filter_filter, restW, e6, i1, g1, g2, g3, g4, g5, n1, ga, outOf, wordOf, h1, h2, kGone]
    | false =>
      simp only [h2] at ga
      have ea := ans_pt (.acc c n o b) (c := c) (n := n) rfl (es.take k)
      have hans : ∀ a ∈ (es.take k).filterMap (ansK c n), gd a.val = true := by
        intro a hm
        obtain ⟨e, he, hx⟩ := List.mem_filterMap.mp hm
        have hge := hg e (List.mem_of_mem_take he)
        cases e <;> simp [ansK] at hx
        obtain ⟨_, rfl⟩ := hx
        simp only [En.val, gd, gds, Bool.and_true, Bool.and_eq_true] at hge
        exact hge.2.2.2.1
      have gb := gIn_busy hans
      simp only [kBusy] at gb
      cases h3 : ((es.take k).filterMap (ansK c n)).contains busy <;> simp only [h3] at gb <;>
        simp [-mLc, -List.map_take, -List.filter_filter, -List.contains_eq_mem, restW, e6, i1, g1, g2, g3, g4, g5, g6, g7, n1, ga, ea, gb, outOf, wordOf, h1, h2, h3]
end K46
/-! PL12: the plain law: law_word_of on a begun row. -/
namespace K46
open L3
/-- what was accepted of a key, as rows -/
theorem accs_map (p : List En) (row : En) {c : List Nat} {n : Int} (hk : row.k = (c, some n)) : (((p.filter fun e => keyB e row).filter fun e => e.kind == kAcc).map En.val) = (p.filterMap (accK c n)).map fun x => (En.acc c n x.1 x.2).val := by
  rw [List.filter_filter]
  have hf : (fun e : En => e.kind == kAcc && keyB e row) = isAccK c n := by
    funext e
    rw [Bool.and_comm]
    exact acc_pt row hk e
  rw [hf]
  clear hf hk
  induction p with
  | nil => rfl
  | cons e p ih =>
    cases e with
    | acc c' n' o b =>
      by_cases h : (c' == c && n' == n) = true
      · have h' := h
        simp only [Bool.and_eq_true, beq_iff_eq] at h'
        obtain ⟨rfl, rfl⟩ := h'
        simpa [isAccK, accK] using ih
      · have h' : (c' == c && n' == n) = false := by simpa using h
        simp only [List.filter_cons, isAccK, List.filterMap_cons, accK, h']
        simpa using ih
    | _ => simpa [isAccK, accK, List.filterMap_cons] using ih
theorem acc_any (p : List En) (c : List Nat) (n : Int) : p.any (isAccK c n) = !(p.filterMap (accK c n)).isEmpty := by
  induction p with
  | nil => rfl
  | cons e p ih =>
    cases e with
    | acc c' n' o b => cases h : (c' == c && n' == n) <;> simp [isAccK, accK, h] at ih ⊢ <;> exact ih
    | _ => simpa [isAccK, accK, List.filterMap_cons] using ih
theorem oneB_an (q : List Nat → Bool) (a : An) : oneB q (match a with | .done b => [.str kDone, .str b] | .word w => [.str w]) = (match a with | .done _ => false | .word w => q w) := by
  cases a <;> rfl
/-- an answer among words -/
theorem gIn_an {a : An} (ws : List (List Nat)) (hw : ws.all (fun w => gd (.str w)) = true) (h : gd a.val = true) (S : Store) : gIn a.val (.tup (ws.map one)) S = .ok (.bl (ws.any fun w => a == An.word w)) S := by
  cases a with
  | done b =>
    have h' : gds [.str kDone, .str b] = true := by simpa only [An.val, gd] using h
    have := gIn_ones (l := [.str kDone, .str b]) ws hw h' rfl S
    simp only [An.val]
    rw [this]
    congr 2
    simp only [oneB]
    symm
    simp
  | word v =>
    have h' : gds [.str v] = true := by simpa only [An.val, gd] using h
    have := gIn_ones (l := [.str v]) ws hw h' rfl S
    simp only [An.val]
    rw [this]
    congr 2
    simp only [oneB]
    induction ws with
    | nil => rfl
    | cons w ws ih =>
      simp only [List.any_cons]
      simp only [List.all_cons, Bool.and_eq_true] at hw
      have e : (w == v) = (An.word v == An.word w) := by
        rw [Bool.eq_iff_iff]
        simp only [beq_iff_eq, An.word.injEq]
        exact eq_comm
      rw [e]
      congr 1
      exact ih hw.2 (gIn_ones (l := [.str v]) ws hw.2 h' rfl S)
theorem answers_gd {es : List En} {k : Nat} (hg : ∀ e ∈ es, gd e.val = true) (c : List Nat) (n : Int) : ∀ a ∈ (es.take k).filterMap (ansK c n), gd a.val = true := by
  intro a hm
  obtain ⟨e, he, hx⟩ := List.mem_filterMap.mp hm
  have hge := hg e (List.mem_of_mem_take he)
  cases e <;> simp [ansK] at hx
  obtain ⟨_, rfl⟩ := hx
  simp only [En.val, gd, gds, Bool.and_true, Bool.and_eq_true] at hge
  exact hge.2.2.2.1
theorem lc_after {ρ : Sl} {S : Store} {l : List An} (hg : ∀ a ∈ l, gd a.val = true) (h8 : ρ[8]? = some (some (.lst (l.map An.val)))) (hj : ρ.length = 13) (hz : l.length ≤ 16777216) :
    mLc 10 (mIter (mVar 8)) (mB (mBin gIn (mVar 10) (mTup [(mTup [(mC (.str [110, 111, 116, 32, 98, 101, 103, 117, 110]))]), (mTup [(mC (.str [98, 117, 115, 121]))])]))) (mC (.int 1)) ρ S = .ok (.lst ((l.filter fun a => a == An.word kNot || a == busy).map fun _ => .int 1)) S := by
  have hjj : ∀ v, ((wipeR ρ [10]).set 10 (some v))[10]? = some (some v) := by
    intro v
    simp [wipeR, hj]
  refine lc_gen (g := An.val) (l := l) (by simp [h8, itemsOf]) (fun a ha => ?_) (fun a ha _ => rfl) hz
  have e := gIn_an [kNot, kBusy] (by decide) (hg a ha)
  simp only [List.map_cons, List.map_nil, one, kNot, kBusy, List.any_cons, List.any_nil, Bool.or_false] at e
  simp [hjj, e, kNot, busy, kBusy]
theorem word_beg {es : List En} {k : Nat} {c s : List Nat} {n m : Int} (h : es[k]? = some (.beg c n s m)) (hz : es.length ≤ 100000) (hg : ∀ e ∈ es, gd e.val = true) (S : Store) :
    f__law_word_of [.tup (es.map En.val), .int k] S = .ok (.str (wordOf (es.take k) (.beg c n s m))) S := by
  refine Fb_of ?_
  rw [word_pre h hz]
  have e6 := En.ix0 (.beg c n s m)
  simp only [En.kind, kBeg] at e6
  have g1 : ∀ S, gEq (.str [98, 101, 103, 117, 110]) (.str [103, 111, 110, 101]) S = .ok (.bl false) S := fun S => rfl
  have g2 : ∀ S, gEq (.str [98, 101, 103, 117, 110]) (.str [97, 99, 99, 101, 112, 116, 101, 100]) S = .ok (.bl false) S := fun S => rfl
  have g3 : ∀ S, gEq (.str [98, 101, 103, 117, 110]) (.str [97, 110, 115, 119, 101, 114, 101, 100]) S = .ok (.bl false) S := fun S => rfl
  have g4 : ∀ S, gNe (.str [98, 101, 103, 117, 110]) (.str [97, 99, 99, 101, 112, 116, 101, 100]) S = .ok (.bl true) S := fun S => rfl
  have g5 : ∀ S, gNe (.str [98, 101, 103, 117, 110]) (.str [98, 101, 103, 117, 110]) S = .ok (.bl false) S := fun S => rfl
  have g6 : ∀ S, gEq (.str [98, 101, 103, 117, 110]) (.str [98, 101, 103, 117, 110]) S = .ok (.bl true) S := fun S => rfl
  have g7 : ∀ S, gNe (.str [98, 101, 103, 117, 110]) (.str [97, 110, 115, 119, 101, 114, 101, 100]) S = .ok (.bl true) S := fun S => rfl
  rw [accs_map _ (.beg c n s m) rfl]
  have nb := fun S => gNe_lnil (l := ((((es.take k).filter fun e => keyB e (.beg c n s m)).filter fun e => e.kind == kBeg).map En.val)) (isPs_ens (fun e he => hg e (List.mem_of_mem_take (List.mem_filter.mp (List.mem_filter.mp he).1).1))) S
  simp only [begs_empty _ (.beg c n s m) rfl, Bool.not_not] at nb
  generalize hB : (((es.take k).filter fun e => keyB e (.beg c n s m)).filter fun e => e.kind == kBeg).map En.val = lb at nb ⊢
  rw [ans_pt (.beg c n s m) rfl]
  have hag := answers_gd (k := k) hg c n
  have hlen : ((es.take k).filterMap (ansK c n)).length ≤ 16777216 := by
    have := List.length_filterMap_le (ansK c n) (es.take k)
    simp at this ⊢; omega
  have e9 := fun ρ h8 hj => lc_after (ρ := ρ) (S := S) hag h8 hj hlen
  have nn := gNe_lnil (isPs_ints 1 (((es.take k).filterMap (ansK c n)).filter fun a => a == An.word kNot || a == busy)) S
  rw [isEmpty_filter] at nn
  cases hA : (es.take k).filterMap (accK c n) with
  | nil => simp [-mLc, -List.map_take, restW, e6, g1, g2, g3, g4, g5, g6, g7, gEq_lnil, outOf, wordOf, hA, truB]
  | cons x r =>
    obtain ⟨o, b⟩ := x
    have ix : ∀ S, gIx (.lst ((En.acc c n o b).val :: r.map fun x => (En.acc c n x.1 x.2).val)) (.int 0) S = .ok (En.acc c n o b).val S := by intro S; simp [gIx, ixL_0]
    have ix3 : ∀ S, gIx (En.acc c n o b).val (.int 3) S = .ok (.bl o) S := by intro S; simp [En.val, gIx, ixL_3]
    have wo : wordOf (es.take k) (.beg c n s m) = if (es.take k).any (isBegK c n) && o then [116, 119, 105, 99, 101, 32, 98, 101, 103, 117, 110] else if ((es.take k).filterMap (ansK c n)).any (fun a => a == An.word kNot || a == busy) then [97, 102, 116, 101, 114, 32, 110, 111] else [] := by
      simp only [wordOf, hA]
    have nn2 : (!((es.take k).filterMap (ansK c n)).all fun x => !(x == An.word kNot || x == busy)) = ((es.take k).filterMap (ansK c n)).any (fun a => a == An.word kNot || a == busy) := by
      rw [List.any_eq_not_all_not]
    rw [nn2] at nn
    rw [wo]
    generalize ((es.take k).filterMap (ansK c n)).any (fun a => a == An.word kNot || a == busy) = bn at nn ⊢
    cases hb : (es.take k).any (isBegK c n) <;> cases o <;> rw [hb] at nb <;> cases bn <;>
      simp [-mLc, -List.map_take, restW, e6, g1, g2, g3, g4, g5, g6, g7, gEq_lnil, outOf, truB, nb, ix, ix3, e9, nn]
end K46
/-! PL13: the plain law: law_word_of on an answered row; on any row. -/
namespace K46
open L3
theorem An.gd_ok {a : An} (h : a.ok = true) : gd a.val = true := by
  cases a with
  | done b =>
    simp only [An.ok, Bool.and_eq_true] at h
    have h1 : gd (.str kDone) = true := by decide
    have h2 : gd (.str b) = true := gs_prn h.2
    simp only [An.val, gd, gds, Bool.and_true, Bool.and_eq_true] at h1 h2 ⊢
    exact ⟨h1, h2⟩
  | word w =>
    have h : plainB w = true := h
    rcases plain_cases h with rfl | rfl | rfl | rfl | rfl <;> decide
theorem gs_word {c : List Nat} (h : wordB (.str c) = true) : gd (.str c) = true := by
  simp only [wordB, Bool.and_eq_true] at h
  exact gs_let h.2
theorem gd_bet {a b n : Int} (ha : -10 ^ 39 ≤ a) (hb : b ≤ 10 ^ 39) (h : betw a b (.int n) = true) : gd (.int n) = true := by
  simp only [betw, Bool.and_eq_true, decide_eq_true_eq] at h
  simp only [gd, decide_eq_true_eq]
  omega
theorem En.gd_ok {e : En} (h : e.ok = true) : gd e.val = true := by
  have kk := gd_kinds
  simp only [gd] at kk
  cases e with
  | gone c =>
    have h1 := gs_word h
    simp only [En.val, gd, gds, Bool.and_true, Bool.and_eq_true] at h1 ⊢
    exact ⟨kk.1, h1⟩
  | acc c n o b =>
    simp only [En.ok, Bool.and_eq_true] at h
    have h1 := gs_word h.1.1
    have h2 := gd_bet (by decide) (by decide) h.1.2
    have h3 := h.2
    simp only [bodyB, Bool.and_eq_true] at h3
    have h3 : gd (.str b) = true := gs_prn h3.2
    simp only [En.val, gd, gds, Bool.and_true, Bool.and_eq_true] at h1 h2 h3 ⊢
    exact ⟨kk.2.1, h1, h2, trivial, h3⟩
  | beg c n s m =>
    simp only [En.ok, Bool.and_eq_true] at h
    have h1 := gs_word h.1.1.1
    have h2 := gd_bet (by decide) (by decide) h.1.1.2
    have h3 := gs_word h.1.2
    have h4 := gd_bet (by decide) (by decide) h.2
    simp only [En.val, gd, gds, Bool.and_true, Bool.and_eq_true] at h1 h2 h3 h4 ⊢
    exact ⟨kk.2.2.1, h1, h2, h3, h4⟩
  | ans c n a f =>
    simp only [En.ok, Bool.and_eq_true] at h
    have h1 := gs_word h.1.1.1
    have h2 := gd_bet (by decide) (by decide) h.1.1.2
    have h3 := An.gd_ok h.1.2
    have h4 : gd (.str f) = true := by
      rcases fate_cases h.2 with rfl | rfl | rfl | rfl <;> decide
    simp only [En.val, gd, gds, Bool.and_true, Bool.and_eq_true] at h1 h2 h3 h4 ⊢
    exact ⟨kk.2.2.2, h1, h2, h3, h4⟩
theorem acc_body {p : List En} (hp : ∀ e ∈ p, e.ok = true) {c : List Nat} {n : Int} {o : Bool} {b : List Nat} {r : List (Bool × List Nat)} (h : p.filterMap (accK c n) = (o, b) :: r) : bodyB (.str b) = true := by
  have hm : (o, b) ∈ p.filterMap (accK c n) := by rw [h]; exact List.mem_cons_self ..
  obtain ⟨e, he, hx⟩ := List.mem_filterMap.mp hm
  have hge := hp e he
  cases e <;> simp [accK] at hx
  obtain ⟨_, rfl, rfl⟩ := hx
  simp only [En.ok, Bool.and_eq_true] at hge
  exact hge.2
theorem answer_word {c : List Nat} {n : Int} {a : An} {f : List Nat} (ha : a.ok = true) (hf : fateB (.str f) = true) (ac : Option (Bool × List Nat)) (hb : ∀ o b, ac = some (o, b) → bodyB (.str b) = true) (bg : Bool) (hn : ac = none → a = busy) (S : Store) :
    f__law_answer_word [(En.ans c n a f).val, acV ac, acB ac, .bl bg] S = .ok (.str (ansWord ac bg a f)) S := by
  cases a with
  | word w => exact answer_word_word c n ha hf ac bg (fun h => by have := hn h; simpa [busy] using this) S
  | done t =>
    cases ac with
    | none => have := hn rfl; simp [busy] at this
    | some x => exact answer_word_done c n ha hf x.1 (hb x.1 x.2 rfl) bg S
theorem word_ans {es : List En} {k : Nat} {c f : List Nat} {n : Int} {a : An} (h : es[k]? = some (.ans c n a f)) (hz : es.length ≤ 100000) (hok : ∀ e ∈ es, e.ok = true) (S : Store) :
    f__law_word_of [.tup (es.map En.val), .int k] S = .ok (.str (wordOf (es.take k) (.ans c n a f))) S := by
  have hg : ∀ e ∈ es, gd e.val = true := fun e he => En.gd_ok (hok e he)
  have hro := hok _ (List.mem_of_getElem? h)
  simp only [En.ok, Bool.and_eq_true] at hro
  have hao := hro.1.2
  have hfo := hro.2
  have hag := An.gd_ok hao
  have hcg := gs_word hro.1.1.1
  refine Fb_of ?_
  rw [word_pre h hz]
  have e6 := En.ix0 (.ans c n a f)
  simp only [En.kind, kAns] at e6
  have g1 : ∀ S, gEq (.str [97, 110, 115, 119, 101, 114, 101, 100]) (.str [103, 111, 110, 101]) S = .ok (.bl false) S := fun S => rfl
  have g2 : ∀ S, gEq (.str [97, 110, 115, 119, 101, 114, 101, 100]) (.str [97, 99, 99, 101, 112, 116, 101, 100]) S = .ok (.bl false) S := fun S => rfl
  have g3 : ∀ S, gEq (.str [97, 110, 115, 119, 101, 114, 101, 100]) (.str [97, 110, 115, 119, 101, 114, 101, 100]) S = .ok (.bl true) S := fun S => rfl
  have g4 : ∀ S, gNe (.str [97, 110, 115, 119, 101, 114, 101, 100]) (.str [97, 99, 99, 101, 112, 116, 101, 100]) S = .ok (.bl true) S := fun S => rfl
  have g5 : ∀ S, gNe (.str [97, 110, 115, 119, 101, 114, 101, 100]) (.str [98, 101, 103, 117, 110]) S = .ok (.bl true) S := fun S => rfl
  have g6 : ∀ S, gEq (.str [97, 110, 115, 119, 101, 114, 101, 100]) (.str [98, 101, 103, 117, 110]) S = .ok (.bl false) S := fun S => rfl
  have g7 : ∀ S, gNe (.str [97, 110, 115, 119, 101, 114, 101, 100]) (.str [97, 110, 115, 119, 101, 114, 101, 100]) S = .ok (.bl false) S := fun S => rfl
  have i3 : ∀ S, gIx (En.ans c n a f).val (.int 3) S = .ok a.val S := by intro S; simp [En.val, gIx, ixL_3]
  have i1 : ∀ S, gIx (En.ans c n a f).val (.int 1) S = .ok (.str c) S := by intro S; simp [En.val, gIx, ixL_1]
  have gb := gEq_one kBusy (by decide) hag
  simp only [kBusy] at gb
  have gb : ∀ S, gEq a.val (.tup [.str [98, 117, 115, 121]]) S = .ok (.bl (a == busy)) S := gb
  have nb := fun S => gNe_lnil (l := ((((es.take k).filter fun e => keyB e (.ans c n a f)).filter fun e => e.kind == kBeg).map En.val)) (isPs_ens (fun e he => hg e (List.mem_of_mem_take (List.mem_filter.mp (List.mem_filter.mp he).1).1))) S
  simp only [begs_empty _ (.ans c n a f) rfl, Bool.not_not] at nb
  generalize hB : (((es.take k).filter fun e => keyB e (.ans c n a f)).filter fun e => e.kind == kBeg).map En.val = lb at nb ⊢
  rw [ans_pt (.ans c n a f) rfl]
  have hags := answers_gd (k := k) hg c n
  have nn := fun S => gNe_lnil (isPs_ans hags) S
  rw [List.isEmpty_map] at nn
  have hpa : isPs ((((es.take k).filter fun e => keyB e (.ans c n a f)).filter fun e => e.kind == kAcc).map En.val) = true := isPs_ens (fun e he => hg e (List.mem_of_mem_take (List.mem_filter.mp (List.mem_filter.mp he).1).1))
  rw [accs_map _ (.ans c n a f) rfl] at hpa ⊢
  have na := fun S => gNe_lnil hpa S
  have ga := gIn_gone (p := es.take k) (fun e he => hg e (List.mem_of_mem_take he)) hcg
  simp only [kGone] at ga
  have hhead : ∀ o b, ((es.take k).filterMap (accK c n)).head? = some (o, b) → bodyB (.str b) = true := by
    intro o b hh
    cases hA : (es.take k).filterMap (accK c n) with
    | nil => rw [hA] at hh; cases hh
    | cons x r =>
      rw [hA] at hh
      cases hh
      exact acc_body (p := es.take k) (fun e he => hok e (List.mem_of_mem_take he)) hA
  have wo : wordOf (es.take k) (.ans c n a f) =
    if a != busy && ((es.take k).filterMap (accK c n)).isEmpty then [110, 111, 116, 32, 97, 99, 99, 101, 112, 116, 101, 100]
    else if (es.take k).any (isGoneK c) then [103, 111, 110, 101]
    else if !((es.take k).filterMap (ansK c n)).isEmpty then [116, 119, 105, 99, 101, 32, 97, 110, 115, 119, 101, 114, 101, 100]
    else ansWord ((es.take k).filterMap (accK c n)).head? ((es.take k).any (isBegK c n)) a f := by
      simp only [wordOf, acc_any, Bool.not_not, kGone]
  rw [wo]
  have aw := fun hn => answer_word (c := c) (n := n) hao hfo _ hhead ((es.take k).any (isBegK c n)) hn
  generalize (es.take k).any (isGoneK c) = bgo at ga ⊢
  generalize ((es.take k).filterMap (ansK c n)).isEmpty = bne at nn ⊢
  generalize (es.take k).any (isBegK c n) = bbe at nb aw ⊢
  have bn : (a != busy) = !(a == busy) := rfl
  rw [bn]
  cases hA : (es.take k).filterMap (accK c n) with
  | nil =>
    rw [hA] at na aw
    cases hbu : a == busy
    · rw [hbu] at gb
      simp [-mLc, -List.map_take, restW, e6, g1, g2, g3, g4, g5, g6, g7, i1, i3, gb, gEq_lnil, outOf, truB]
    · rw [hbu] at gb
      have n0 : ∀ S, gNe (.lst []) (.lst []) S = .ok (.bl false) S := fun S => rfl
      have aw := aw (fun _ => by simpa using hbu)
      simp only [List.head?_nil, acV, acB] at aw
      cases bgo <;> cases bne <;> simp [-mLc, -List.map_take, restW, e6, g1, g2, g3, g4, g5, g6, g7, i1, i3, gb, gEq_lnil, outOf, truB, ga, nn, n0, nb, aw]
  | cons x r =>
    obtain ⟨o, b⟩ := x
    rw [hA] at na aw
    have aw := aw (fun z => by cases z)
    simp only [List.head?_cons, acV, acB] at aw
    have ix : ∀ S, gIx (.lst ((En.acc c n o b).val :: r.map fun x => (En.acc c n x.1 x.2).val)) (.int 0) S = .ok (En.acc c n o b).val S := by intro S; simp [gIx, ixL_0]
    have cu : ∀ S, gCut (some 3) none (En.acc c n o b).val S = .ok (.tup [.bl o, .str b]) S := by intro S; simp [En.val, gCut]; rfl
    have hne : (!((es.take k).filterMap (accK c n)).isEmpty) = true := by rw [hA]; rfl
    simp only [List.map_cons, List.isEmpty_cons, Bool.not_false] at na
    cases hbu : a == busy <;> rw [hbu] at gb <;> cases bgo <;> cases bne <;>
      simp [-mLc, -List.map_take, restW, e6, g1, g2, g3, g4, g5, g6, g7, i1, i3, gb, gEq_lnil, outOf, truB, ga, nn, na, nb, ix, cu, aw]
theorem word_of {es : List En} {k : Nat} {row : En} (h : es[k]? = some row) (hz : es.length ≤ 100000) (hok : ∀ e ∈ es, e.ok = true) (S : Store) :
    f__law_word_of [.tup (es.map En.val), .int k] S = .ok (.str (wordOf (es.take k) row)) S := by
  have hg : ∀ e ∈ es, gd e.val = true := fun e he => En.gd_ok (hok e he)
  have hro := hok _ (List.mem_of_getElem? h)
  cases row with
  | gone c => exact word_gone h hz S
  | acc c n o b =>
    simp only [En.ok, Bool.and_eq_true] at hro
    exact word_acc h hz hg (gs_word hro.1.1) S
  | beg c n s m => exact word_beg h hz hg S
  | ans c n a f => exact word_ans h hz hok S
end K46
/-! PL14: the plain law: the law's own judgement. -/
namespace K46
open L3
theorem Fb_val {b : Sv} {n : Nat} {as : List Val} {S : Store} {v : Val} (h : outOf (b (begin n as) S) = .ok v S) : Fb b n as S = .ok v S := by
  rw [Fb, h]
  simp
/-- rows with their places from k on -/
def rowsFrom (k : Nat) : List En → List Val
  | [] => []
  | e :: l => .tup [.int (k : Nat), e.val] :: rowsFrom (k + 1) l
theorem zip_rows (es : List En) (k : Nat) : (((es.map En.val).zipIdx k).map fun p => Val.tup [.int (p.2 : Nat), p.1]) = rowsFrom k es := by
  induction es generalizing k with
  | nil => rfl
  | cons e es ih =>
    simp only [List.map_cons, List.zipIdx_cons, rowsFrom]
    rw [ih]
def brk (k : Nat) (w : List Nat) : Val := .tup [.str [98, 114, 111, 107, 101, 110], .int k, .str w]
def bodyJ : Sv := (mSeq (mSet 3 (mCall f__law_word_of [(mVar 0), (mVar 1)]))
    (mIfS (mB (mBin gNe (mVar 3) (mC (.str [])))) (mRet (mTup [(mC (.str [98, 114, 111, 107, 101, 110])), (mVar 1), (mVar 3)])) mNil))
theorem ansWord_gd (ac : Option (Bool × List Nat)) (bg : Bool) (a : An) (f : List Nat) : gd (.str (ansWord ac bg a f)) = true := by
  unfold ansWord
  repeat' split
  all_goals decide
theorem wordOf_gd (p : List En) (e : En) : gd (.str (wordOf p e)) = true := by
  cases e with
  | gone c => rfl
  | acc c n o b =>
    simp only [wordOf]
    repeat' split
    all_goals decide
  | beg c n s m =>
    simp only [wordOf]
    repeat' split
    all_goals decide
  | ans c n a f =>
    simp only [wordOf]
    split
    · decide
    split
    · decide
    split
    · decide
    exact ansWord_gd _ _ _ _
theorem judged_loop {es : List En} (hz : es.length ≤ 100000) (hok : ∀ e ∈ es, e.ok = true) (S : Store) : ∀ (r q : List En), es = q ++ r → ∀ a b c : Option Val,
    (judgeGo q r = none → ∃ a' b' c', forGo (gTp [1, 2]) bodyJ (rowsFrom q.length r) [some (.tup (es.map En.val)), a, b, c] S = .nx [some (.tup (es.map En.val)), a', b', c'] S)
    ∧ (∀ k w, judgeGo q r = some (k, w) → forGo (gTp [1, 2]) bodyJ (rowsFrom q.length r) [some (.tup (es.map En.val)), a, b, c] S = .rt (brk k w) S)
  | [], q, _, a, b, c => ⟨fun _ => ⟨a, b, c, rfl⟩, fun k w h => by simp [judgeGo] at h⟩
  | e :: r, q, he, a, b, c => by
    have h1 : es[q.length]? = some e := by rw [he]; simp
    have h2 : es.take q.length = q := by rw [he]; simp
    have hw := word_of h1 hz hok S
    rw [h2] at hw
    have ih := judged_loop hz hok S r (q ++ [e]) (by rw [he]; simp)
    have hn := gNe_str (wordOf_gd q e) (show gd (.str []) = true by decide) S
    have hl : (q ++ [e]).length = q.length + 1 := by simp
    rw [hl] at ih
    by_cases hwe : wordOf q e = []
    · rw [hwe] at hw hn
      have step : ∀ X, forGo (gTp [1, 2]) bodyJ (rowsFrom q.length (e :: r)) [some (.tup (es.map En.val)), a, b, c] S = X ↔ forGo (gTp [1, 2]) bodyJ (rowsFrom (q.length + 1) r) [some (.tup (es.map En.val)), some (.int q.length), some e.val, some (.str [])] S = X := by
        intro X
        simp [rowsFrom, forGo, bodyJ, hw, hn]
      have hj : judgeGo q (e :: r) = judgeGo (q ++ [e]) r := by simp [judgeGo, hwe]
      rw [hj]
      refine ⟨fun hh => ?_, fun k w hh => ?_⟩
      · obtain ⟨a', b', c', h⟩ := (ih (some (.int q.length)) (some e.val) (some (.str []))).1 hh
        exact ⟨a', b', c', (step _).mpr h⟩
      · exact (step _).mpr ((ih _ _ _).2 k w hh)
    · have hj : judgeGo q (e :: r) = some (q.length, wordOf q e) := by simp [judgeGo, hwe]
      have hb : (wordOf q e == []) = false := by simpa using hwe
      rw [hb] at hn
      rw [hj]
      refine ⟨fun hh => (nomatch hh), fun k w hh => ?_⟩
      cases hh
      simp [rowsFrom, forGo, bodyJ, hw, hn, brk]
theorem lc_ans1 {ρ : Sl} {S : Store} {l : List En} (h0 : ρ[0]? = some (some (.tup (l.map En.val)))) (hj : ρ.length = 4) (hz : l.length ≤ 16777216) :
    mLc 2 (mIter (mVar 0)) (mB (mBin gEq (mBin gIx (mVar 2) (mC (.int 0))) (mC (.str kAns)))) (mC (.int 1)) ρ S = .ok (.lst ((l.filter isAns).map fun _ => .int 1)) S := by
  have hjj : ∀ v, ((wipeR ρ [2]).set 2 (some v))[2]? = some (some v) := by
    intro v
    simp [wipeR, hj]
  refine lc_gen (g := En.val) (l := l) (by simp [h0, itemsOf]) (fun e he => ?_) (fun e he _ => rfl) hz
  have hk : (e.kind == kAns) = isAns e := by cases e <;> rfl
  simp [hjj, En.ix0, gEq_str e.gs_kind gd_kinds.2.2.2, hk]
theorem law_judged {es : List En} (hz : es.length ≤ 100000) (hok : ∀ e ∈ es, e.ok = true) (S : Store) : f__law_judged [.tup (es.map En.val)] S = .ok (dueOf es) S := by
  refine Fb_val ?_
  have hl := judged_loop hz hok S es [] rfl none none none
  have e1 := fun ρ h0 hj => lc_ans1 (ρ := ρ) (S := S) (l := es) h0 hj (by omega)
  simp only [kAns] at e1
  have hlen : fit (es.filter isAns).length = true := fit_of (by have := List.length_filter_le isAns es; omega)
  have zr := zip_rows es 0
  simp only [List.length_nil] at hl
  have hb : b__law_judged = (mSeq (mFor (mEnum (mVar 0)) (gTp [1, 2]) bodyJ)
    (mRet (mTup [(mC (.str [107, 101, 112, 116])), (mUn gLen (mLc 2 (mIter (mVar 0)) (mB (mBin gEq (mBin gIx (mVar 2) (mC (.int 0))) (mC (.str [97, 110, 115, 119, 101, 114, 101, 100])))) (mC (.int 1))))]))) := rfl
  rw [hb]
  simp only [begin, mSeq, mFor, mEnum, mVar, List.map_cons, List.map_nil, List.cons_append, List.nil_append, List.length_cons, List.length_nil, List.getElem?_cons_zero, Out.bindL]
  rw [zr]
  simp only [List.replicate, Nat.reduceSub, Nat.reduceAdd, Nat.sub_zero]
  cases hd : judgeGo [] es with
  | none =>
    obtain ⟨a, b, c, h⟩ := hl.1 hd
    rw [h]
    simp only [OutS.bind, mRet, mTup, mArgs, mUn, mC, Out.bind, Out.bindL, OutL.bind, OutL.bindL]
    rw [e1 _ rfl rfl]
    simp [gLen, hlen, dueOf, hd]
  | some x =>
    obtain ⟨k, w⟩ := x
    rw [hl.2 k w hd]
    simp [dueOf, hd, brk]
end K46
/-! PL15: the plain law: the judge as an object of the store. -/
namespace K46
open L3
/-! ### dicts -/
theorem look_repl {κ : Type} [DecidableEq κ] (k k' : κ) (v : Val) : ∀ (ks : List κ) (l : List Val), k' ∈ ks → ks.length = l.length → lookZ k ks (replZ k' v ks l) = if k' = k then some v else lookZ k ks l
  | [], _, h, _ => by simp at h
  | x :: ks, [], _, h => by simp at h
  | x :: ks, w :: l, h, hl => by
    have hl' : ks.length = l.length := by simpa using hl
    simp only [replZ, lookZ]
    by_cases h1 : x = k'
    · subst h1
      by_cases h2 : x = k
      · simp [h2]
      · simp only [h2, if_false]
        by_cases h3 : x ∈ ks
        · rw [look_repl k x v ks l h3 hl']
          simp [h2]
        · clear h hl
          have : ∀ (ks : List κ) (l : List Val), x ∉ ks → replZ x v ks l = l := by
            intro ks
            induction ks with
            | nil => intro l _; cases l <;> rfl
            | cons y ks ih =>
              intro l hn
              cases l with
              | nil => rfl
              | cons u l =>
                simp only [List.mem_cons, not_or] at hn
                simp only [replZ]
                rw [ih l hn.2, if_neg (fun z => hn.1 z.symm)]
          rw [this ks l h3]
    · have hm : k' ∈ ks := by
        rcases List.mem_cons.mp h with z | z
        · exact absurd z.symm h1
        · exact z
      rw [look_repl k k' v ks l hm hl']
      by_cases h2 : x = k
      · have : ¬ k' = k := fun z => h1 (h2.trans z.symm)
        simp [h2, this, h1]
        intro z; exact absurd z.symm this
      · simp [h2]
theorem look_app {κ : Type} [DecidableEq κ] (k k' : κ) (v : Val) : ∀ (ks : List κ) (l : List Val), k' ∉ ks → ks.length = l.length → lookZ k (ks ++ [k']) (l ++ [v]) = if k' = k then some v else lookZ k ks l
  | [], [], _, _ => by simp [lookZ]
  | [], _ :: _, _, h => by simp at h
  | x :: ks, [], _, h => by simp at h
  | x :: ks, w :: l, h, hl => by
    simp only [List.mem_cons, not_or] at h
    simp only [List.cons_append, lookZ]
    rw [look_app k k' v ks l h.2 (by simpa using hl)]
    by_cases h2 : x = k
    · have : ¬ k' = k := fun z => h.1 (z.trans h2.symm)
      simp [h2, this]
    · simp [h2]
theorem look_put {κ : Type} [DecidableEq κ] (k k' : κ) (v : Val) {ks : List κ} {l : List Val} (h : ks.length = l.length) : lookZ k (putZ k' v ks l).1 (putZ k' v ks l).2 = if k' = k then some v else lookZ k ks l := by
  unfold putZ
  split
  · rename_i ha
    refine look_repl k k' v ks l ?_ h
    obtain ⟨x, hx, e⟩ := List.any_eq_true.mp ha
    have := of_decide_eq_true e
    exact this ▸ hx
  · rename_i ha
    refine look_app k k' v ks l (fun hm => ha ?_) h
    exact List.any_eq_true.mpr ⟨k', hm, decide_eq_true rfl⟩
theorem repl_len {κ : Type} [DecidableEq κ] (k : κ) (v : Val) : ∀ (ks : List κ) (l : List Val), (replZ k v ks l).length = l.length
  | [], l => by cases l <;> rfl
  | _ :: _, [] => rfl
  | x :: ks, w :: l => by simp [replZ, repl_len k v ks l]
theorem put_len {κ : Type} [DecidableEq κ] (k : κ) (v : Val) {ks : List κ} {l : List Val} (h : ks.length = l.length) : (putZ k v ks l).1.length = (putZ k v ks l).2.length := by
  unfold putZ
  split
  · simpa [repl_len] using h
  · simp [h]
theorem look_none {κ : Type} [DecidableEq κ] (k : κ) : ∀ (ks : List κ) (l : List Val), ks.length = l.length → lookZ k ks l = none → k ∉ ks
  | [], _, _, _ => by simp
  | x :: ks, [], h, _ => by simp at h
  | x :: ks, w :: l, h, hn => by
    simp only [lookZ] at hn
    split at hn
    · cases hn
    · rename_i hx
      have := look_none k ks l (by simpa using h) hn
      simp only [List.mem_cons, not_or]
      exact ⟨fun z => hx z.symm, this⟩
theorem put_new {κ : Type} [DecidableEq κ] {k : κ} (v : Val) {ks : List κ} {l : List Val} (h : ks.length = l.length) (hn : lookZ k ks l = none) : (putZ k v ks l).1.length = ks.length + 1 := by
  have hm := look_none k ks l h hn
  unfold putZ
  rw [if_neg]
  · simp
  · intro ha
    obtain ⟨x, hx, e⟩ := List.any_eq_true.mp ha
    exact hm ((of_decide_eq_true e) ▸ hx)
theorem put_le {κ : Type} [DecidableEq κ] (k : κ) (v : Val) (ks : List κ) (l : List Val) : (putZ k v ks l).1.length ≤ ks.length + 1 := by
  unfold putZ
  split <;> simp
/-! ### the judge's store -/
structure JD where
  A : List (List L2.Key)
  a : List Val
  B : List (List L2.Key)
  b : List Val
  N : List (List L2.Key)
  n : List Val
  G : List L2.Key
  g : List Val
def JD.obs (k : Nat) (D : JD) : Store := [.ins "Judge" ["accepted", "begun", "answers", "gone"] [.rf (k + 1), .rf (k + 2), .rf (k + 3), .rf (k + 4)], .dt D.A D.a, .dt D.B D.b, .dt D.N D.n, .dk D.G D.g]
def JD.st (S : Store) (D : JD) : Store := S ++ D.obs S.length
theorem st_get (S l : Store) (i : Nat) : (S ++ l)[S.length + i]? = l[i]? := by
  rw [List.getElem?_append_right (by omega)]
  congr 1
  omega
theorem st_set (S l : Store) (i : Nat) (o : Ob) : (S ++ l).set (S.length + i) o = S ++ l.set i o := by
  rw [List.set_append_right _ _ (by omega)]
  congr 2
  omega
section
variable (S : Store) (D : JD)
theorem JD.len : (D.st S).length = S.length + 5 := by simp [JD.st, JD.obs]
theorem JD.at0 : (D.st S)[S.length]? = some (.ins "Judge" ["accepted", "begun", "answers", "gone"] [.rf (S.length + 1), .rf (S.length + 2), .rf (S.length + 3), .rf (S.length + 4)]) := st_get S (D.obs S.length) 0
theorem JD.at1 : (D.st S)[S.length + 1]? = some (.dt D.A D.a) := st_get S (D.obs S.length) 1
theorem JD.at2 : (D.st S)[S.length + 2]? = some (.dt D.B D.b) := st_get S (D.obs S.length) 2
theorem JD.at3 : (D.st S)[S.length + 3]? = some (.dt D.N D.n) := st_get S (D.obs S.length) 3
theorem JD.at4 : (D.st S)[S.length + 4]? = some (.dk D.G D.g) := st_get S (D.obs S.length) 4
theorem JD.set1 (A : List (List L2.Key)) (a : List Val) : (D.st S).set (S.length + 1) (.dt A a) = { D with A := A, a := a }.st S := by
  unfold JD.st; rw [st_set]; rfl
theorem JD.set2 (A : List (List L2.Key)) (a : List Val) : (D.st S).set (S.length + 2) (.dt A a) = { D with B := A, b := a }.st S := by
  unfold JD.st; rw [st_set]; rfl
theorem JD.set3 (A : List (List L2.Key)) (a : List Val) : (D.st S).set (S.length + 3) (.dt A a) = { D with N := A, n := a }.st S := by
  unfold JD.st; rw [st_set]; rfl
theorem JD.set4 (A : List L2.Key) (a : List Val) : (D.st S).set (S.length + 4) (.dk A a) = { D with G := A, g := a }.st S := by
  unfold JD.st; rw [st_set]; rfl
theorem fld_acc {ρ : Sl} (h : ρ[0]? = some (some (.rf S.length))) : mFld "Judge" "accepted" (mVar 0) ρ (D.st S) = .ok (.rf (S.length + 1)) (D.st S) := by
  simp [mFld, h, JD.at0, lookF]
theorem fld_beg {ρ : Sl} (h : ρ[0]? = some (some (.rf S.length))) : mFld "Judge" "begun" (mVar 0) ρ (D.st S) = .ok (.rf (S.length + 2)) (D.st S) := by
  have : ¬ (("accepted" : PySem.Str) = "begun") := by decide
  simp [mFld, h, JD.at0, lookF, this]
theorem fld_ans {ρ : Sl} (h : ρ[0]? = some (some (.rf S.length))) : mFld "Judge" "answers" (mVar 0) ρ (D.st S) = .ok (.rf (S.length + 3)) (D.st S) := by
  have h1 : ¬ (("accepted" : PySem.Str) = "answers") := by decide
  have h2 : ¬ (("begun" : PySem.Str) = "answers") := by decide
  simp [mFld, h, JD.at0, lookF, h1, h2]
theorem fld_gone {ρ : Sl} (h : ρ[0]? = some (some (.rf S.length))) : mFld "Judge" "gone" (mVar 0) ρ (D.st S) = .ok (.rf (S.length + 4)) (D.st S) := by
  have h1 : ¬ (("accepted" : PySem.Str) = "gone") := by decide
  have h2 : ¬ (("begun" : PySem.Str) = "gone") := by decide
  have h3 : ¬ (("answers" : PySem.Str) = "gone") := by decide
  simp [mFld, h, JD.at0, lookF, h1, h2, h3]
def kk (c : List Nat) (n : Int) : List L2.Key := [.inr (mk c), .inl n]
def kv (c : List Nat) (n : Int) : Val := .tup [.str c, .int n]
theorem kk_eq (c c' : List Nat) (n n' : Int) : (kk c n = kk c' n') ↔ (c' == c && n' == n) = true := by
  simp only [kk, List.cons.injEq, Sum.inr.injEq, Sum.inl.injEq, and_true, Bool.and_eq_true, beq_iff_eq]
  constructor
  · rintro ⟨h1, h2⟩; exact ⟨(mk_inj h1).symm, h2.symm⟩
  · rintro ⟨rfl, rfl⟩; exact ⟨rfl, rfl⟩
theorem keyT_kv (c : List Nat) (n : Int) : keyT (kv c n) = some (kk c n) := rfl
theorem dg1 (c : List Nat) (n : Int) : dget (D.st S) (S.length + 1) (kv c n) = some (lookZ (kk c n) D.A D.a) := by simp [dget, JD.at1, keyT_kv]
theorem dg2 (c : List Nat) (n : Int) : dget (D.st S) (S.length + 2) (kv c n) = some (lookZ (kk c n) D.B D.b) := by simp [dget, JD.at2, keyT_kv]
theorem dg3 (c : List Nat) (n : Int) : dget (D.st S) (S.length + 3) (kv c n) = some (lookZ (kk c n) D.N D.n) := by simp [dget, JD.at3, keyT_kv]
theorem dg4 (c : List Nat) : dget (D.st S) (S.length + 4) (.str c) = some (lookZ (.inr (mk c)) D.G D.g) := by simp [dget, JD.at4, keyK]
theorem dp1 (c : List Nat) (n : Int) (v : Val) (h : D.A.length ≤ 200000) : dput (D.st S) (S.length + 1) (kv c n) v = some ({ D with A := (putZ (kk c n) v D.A D.a).1, a := (putZ (kk c n) v D.A D.a).2 }.st S) := by
  have : fit (D.A.length + 1) = true := fit_of (by omega)
  simp [dput, JD.at1, keyT_kv, this, JD.set1]
theorem dp2 (c : List Nat) (n : Int) (v : Val) (h : D.B.length ≤ 200000) : dput (D.st S) (S.length + 2) (kv c n) v = some ({ D with B := (putZ (kk c n) v D.B D.b).1, b := (putZ (kk c n) v D.B D.b).2 }.st S) := by
  have : fit (D.B.length + 1) = true := fit_of (by omega)
  simp [dput, JD.at2, keyT_kv, this, JD.set2]
theorem dp3 (c : List Nat) (n : Int) (v : Val) (h : D.N.length ≤ 200000) : dput (D.st S) (S.length + 3) (kv c n) v = some ({ D with N := (putZ (kk c n) v D.N D.n).1, n := (putZ (kk c n) v D.N D.n).2 }.st S) := by
  have : fit (D.N.length + 1) = true := fit_of (by omega)
  simp [dput, JD.at3, keyT_kv, this, JD.set3]
theorem dp4 (c : List Nat) (v : Val) (h : D.G.length ≤ 200000) : dput (D.st S) (S.length + 4) (.str c) v = some ({ D with G := (putZ (Sum.inr (mk c) : L2.Key) v D.G D.g).1, g := (putZ (Sum.inr (mk c) : L2.Key) v D.G D.g).2 }.st S) := by
  have : fit (D.G.length + 1) = true := fit_of (by omega)
  simp [dput, JD.at4, keyK, this, JD.set4]
theorem isDk3 : isDk (D.st S) (S.length + 3) = true := by simp [isDk, JD.at3]
end
/-- what the judge has noted of a past -/
structure JR (p : List En) (D : JD) : Prop where
  la : D.A.length = D.a.length
  lb : D.B.length = D.b.length
  ln : D.N.length = D.n.length
  lg : D.G.length = D.g.length
  ra : ∀ c n, lookZ (kk c n) D.A D.a = ((p.filterMap (accK c n)).head?).map fun x => .tup [.bl x.1, .str x.2]
  rb : ∀ c n, (lookZ (kk c n) D.B D.b).isSome = p.any (isBegK c n)
  rn : ∀ c n, lookZ (kk c n) D.N D.n = ((p.filterMap (ansK c n)).head?).map An.val
  rg : ∀ c, (lookZ (.inr (mk c)) D.G D.g).isSome = p.any (isGoneK c)
  za : D.A.length ≤ p.length
  zb : D.B.length ≤ p.length
  zn : D.N.length = (p.filter isAns).length
  zg : D.G.length ≤ p.length
/-- a past of which no entry breaks anything -/
structure Clean (p : List En) : Prop where
  g1 : ∀ c n, p.any (isAccK c n) = false → ∀ a ∈ p.filterMap (ansK c n), a = busy
  g2 : ∀ c n, (p.filterMap (ansK c n)).length ≤ 1
theorem Clean.nil : Clean [] := ⟨fun _ _ _ _ h => by simp at h, fun _ _ => by simp⟩
theorem Clean.step {p : List En} (h : Clean p) {e : En} (hw : wordOf p e = []) : Clean (p ++ [e]) := by
  refine ⟨fun c n ha a hm => ?_, fun c n => ?_⟩
  · rw [List.any_append, Bool.or_eq_false_iff] at ha
    rw [List.filterMap_append, List.mem_append] at hm
    rcases hm with hm | hm
    · exact h.g1 c n ha.1 a hm
    · cases e with
      | ans c' n' a' f =>
        simp only [List.filterMap_cons, List.filterMap_nil, ansK] at hm
        by_cases hk : (c' == c && n' == n) = true
        · rw [if_pos hk] at hm
          simp only [List.mem_singleton] at hm
          subst hm
          simp only [Bool.and_eq_true, beq_iff_eq] at hk
          obtain ⟨rfl, rfl⟩ := hk
          simp only [wordOf, ha.1] at hw
          by_cases hb : a = busy
          · exact hb
          · simp [hb] at hw
        · rw [if_neg hk] at hm
          simp at hm
      | _ => simp [ansK] at hm
  · rw [List.filterMap_append, List.length_append]
    have h2 := h.g2 c n
    cases e with
    | ans c' n' a' f =>
      simp only [List.filterMap_cons, List.filterMap_nil, ansK]
      by_cases hk : (c' == c && n' == n) = true
      · rw [if_pos hk]
        simp only [Bool.and_eq_true, beq_iff_eq] at hk
        obtain ⟨rfl, rfl⟩ := hk
        have : (p.filterMap (ansK c' n')) = [] := by
          simp only [wordOf] at hw
          split at hw
          · simp at hw
          split at hw
          · simp [kGone] at hw
          split at hw
          · simp at hw
          rename_i h3
          simpa using h3
        rw [this]
        simp
      · rw [if_neg hk]
        simpa using h2
    | _ => simpa [ansK, List.filterMap_cons] using h2
theorem trunc_len {S S' : Store} {v : Val} (h : S'.length = S.length) : trunc S.length (.ok v S') = .ok v S' := by
  rw [← h]
  exact trunc_same v S'
end K46
/-! PL16: the plain law: the judge takes an entry. -/
namespace K46
open L3
theorem kk_ne {c c' : List Nat} {n n' : Int} (h : ¬ (c' == c && n' == n) = true) : ¬ kk c n = kk c' n' := fun z => h ((kk_eq c c' n n').mp z)
theorem JR.gone {p : List En} {D : JD} (R : JR p D) (c : List Nat) : JR (p ++ [.gone c]) { D with G := (putZ (Sum.inr (L3.mk c) : L2.Key) (.bl true) D.G D.g).1, g := (putZ (Sum.inr (L3.mk c) : L2.Key) (.bl true) D.G D.g).2 } where
  la := R.la
  lb := R.lb
  ln := R.ln
  lg := put_len _ _ R.lg
  ra := fun c n => by rw [R.ra]; simp [List.filterMap_append, List.filterMap_cons, accK]
  rb := fun c n => by rw [R.rb]; simp [isBegK]
  rn := fun c n => by rw [R.rn]; simp [List.filterMap_append, List.filterMap_cons, ansK]
  rg := fun c' => by
    rw [look_put _ _ _ R.lg]
    by_cases h : c = c'
    · subst h; simp [isGoneK]
    · have : ¬ (Sum.inr (L3.mk c) : L2.Key) = Sum.inr (L3.mk c') := fun z => h (mk_inj (by injection z))
      rw [if_neg this, R.rg]
      simp [isGoneK, h]
  za := by have := R.za; simp; omega
  zb := by have := R.zb; simp; omega
  zn := by simp [R.zn, isAns]
  zg := by
    have := put_le (Sum.inr (L3.mk c) : L2.Key) (.bl true) D.G D.g
    have := R.zg
    simp; omega
theorem JR.acc {p : List En} {D : JD} (R : JR p D) (c : List Nat) (n : Int) (o : Bool) (b : List Nat) (hn : p.any (isAccK c n) = false) : JR (p ++ [.acc c n o b]) { D with A := (putZ (kk c n) (.tup [.bl o, .str b]) D.A D.a).1, a := (putZ (kk c n) (.tup [.bl o, .str b]) D.A D.a).2 } where
  la := put_len _ _ R.la
  lb := R.lb
  ln := R.ln
  lg := R.lg
  ra := fun c' n' => by
    rw [look_put _ _ _ R.la]
    by_cases h : kk c n = kk c' n'
    · rw [if_pos h]
      have h := (kk_eq _ _ _ _).mp h
      simp only [Bool.and_eq_true, beq_iff_eq] at h
      obtain ⟨rfl, rfl⟩ := h
      rw [acc_any] at hn
      have : p.filterMap (accK c' n') = [] := by simpa using hn
      rw [List.filterMap_append, this]
      simp [List.filterMap_cons, accK]
    · rw [if_neg h, R.ra]
      have h : (c == c' && n == n') = false := by
        cases hh : (c == c' && n == n')
        · rfl
        · simp only [Bool.and_eq_true, beq_iff_eq] at hh
          obtain ⟨rfl, rfl⟩ := hh
          exact absurd rfl h
      simp [List.filterMap_append, List.filterMap_cons, accK, h]
  rb := fun c n => by rw [R.rb]; simp [isBegK]
  rn := fun c n => by rw [R.rn]; simp [List.filterMap_append, List.filterMap_cons, ansK]
  rg := fun c => by rw [R.rg]; simp [isGoneK]
  za := by
    have := put_le (kk c n) (.tup [.bl o, .str b]) D.A D.a
    have := R.za
    simp; omega
  zb := by have := R.zb; simp; omega
  zn := by simp [R.zn, isAns]
  zg := by have := R.zg; simp; omega
theorem JR.beg {p : List En} {D : JD} (R : JR p D) (c : List Nat) (n : Int) (s : List Nat) (m : Int) : JR (p ++ [.beg c n s m]) { D with B := (putZ (kk c n) (.bl true) D.B D.b).1, b := (putZ (kk c n) (.bl true) D.B D.b).2 } where
  la := R.la
  lb := put_len _ _ R.lb
  ln := R.ln
  lg := R.lg
  ra := fun c n => by rw [R.ra]; simp [List.filterMap_append, List.filterMap_cons, accK]
  rb := fun c' n' => by
    rw [look_put _ _ _ R.lb]
    by_cases h : kk c n = kk c' n'
    · rw [if_pos h]
      have h := (kk_eq _ _ _ _).mp h
      simp only [Bool.and_eq_true, beq_iff_eq] at h
      obtain ⟨rfl, rfl⟩ := h
      simp [isBegK]
    · rw [if_neg h, R.rb]
      have h : (c == c' && n == n') = false := by
        cases hh : (c == c' && n == n')
        · rfl
        · simp only [Bool.and_eq_true, beq_iff_eq] at hh
          obtain ⟨rfl, rfl⟩ := hh
          exact absurd rfl h
      simp [isBegK, h]
  rn := fun c n => by rw [R.rn]; simp [List.filterMap_append, List.filterMap_cons, ansK]
  rg := fun c => by rw [R.rg]; simp [isGoneK]
  za := by have := R.za; simp; omega
  zb := by
    have := put_le (kk c n) (.bl true) D.B D.b
    have := R.zb
    simp; omega
  zn := by simp [R.zn, isAns]
  zg := by have := R.zg; simp; omega
theorem JR.ans {p : List En} {D : JD} (R : JR p D) (c : List Nat) (n : Int) (a : An) (f : List Nat) (hn : (p.filterMap (ansK c n)) = []) : JR (p ++ [.ans c n a f]) { D with N := (putZ (kk c n) a.val D.N D.n).1, n := (putZ (kk c n) a.val D.N D.n).2 } where
  la := R.la
  lb := R.lb
  ln := put_len _ _ R.ln
  lg := R.lg
  ra := fun c n => by rw [R.ra]; simp [List.filterMap_append, List.filterMap_cons, accK]
  rb := fun c n => by rw [R.rb]; simp [isBegK]
  rn := fun c' n' => by
    rw [look_put _ _ _ R.ln]
    by_cases h : kk c n = kk c' n'
    · rw [if_pos h]
      have h := (kk_eq _ _ _ _).mp h
      simp only [Bool.and_eq_true, beq_iff_eq] at h
      obtain ⟨rfl, rfl⟩ := h
      rw [List.filterMap_append, hn]
      simp [List.filterMap_cons, ansK]
    · rw [if_neg h, R.rn]
      have h : (c == c' && n == n') = false := by
        cases hh : (c == c' && n == n')
        · rfl
        · simp only [Bool.and_eq_true, beq_iff_eq] at hh
          obtain ⟨rfl, rfl⟩ := hh
          exact absurd rfl h
      simp [List.filterMap_append, List.filterMap_cons, ansK, h]
  rg := fun c => by rw [R.rg]; simp [isGoneK]
  za := by have := R.za; simp; omega
  zb := by have := R.zb; simp; omega
  zn := by
    have h0 : lookZ (kk c n) D.N D.n = none := by rw [R.rn, hn]; rfl
    rw [put_new _ R.ln h0, R.zn, List.filter_append, List.length_append]
    rfl
  zg := by have := R.zg; simp; omega
/-! ### the methods -/
theorem Fb_len {b : Sv} {n : Nat} {as : List Val} {S S' : Store} {v : Val} (h : outOf (b (begin n as) S) = .ok v S') (hl : S'.length = S.length) : Fb b n as S = .ok v S' := by
  rw [Fb, h]
  exact trunc_len hl
section
variable {S : Store} {D : JD} {p : List En}
theorem st_len (D D' : JD) : (D'.st S).length = (D.st S).length := by rw [JD.len, JD.len]
theorem take_gone (R : JR p D) (hz : p.length ≤ 100000) (c : List Nat) : ∃ D', JR (p ++ [.gone c]) D' ∧ f_Judge_take [.rf S.length, (En.gone c).val] (D.st S) = .ok .non (D'.st S) := by
  refine ⟨_, R.gone c, Fb_len ?_ (st_len _ _)⟩
  have e6 := En.ix0 (.gone c)
  simp only [En.kind, kGone] at e6
  have g1 : ∀ S, gEq (.str [103, 111, 110, 101]) (.str [103, 111, 110, 101]) S = .ok (.bl true) S := fun S => rfl
  have i1 : ∀ S, gIx (En.gone c).val (.int 1) S = .ok (.str c) S := by intro S; simp [En.val, gIx, ixL_1]
  have hd := dp4 S D c (.bl true) (by have := R.zg; omega)
  simp [b_Judge_take, begin, e6, g1, i1, -mFld, fld_gone, hd]
theorem head_acc (p : List En) (c : List Nat) (n : Int) : p.any (isAccK c n) = ((p.filterMap (accK c n)).head?).isSome := by
  rw [acc_any]
  cases p.filterMap (accK c n) <;> rfl
theorem acc_word (R : JR p D) (C : Clean p) (hz : p.length ≤ 100000) (c : List Nat) (n : Int) (o : Bool) (b : List Nat) :
    (wordOf p (.acc c n o b) = [] → ∃ D', JR (p ++ [.acc c n o b]) D' ∧ f_Judge_accept [.rf S.length, kv c n, .bl o, .str b] (D.st S) = .ok .non (D'.st S))
    ∧ (wordOf p (.acc c n o b) ≠ [] → ∃ D', f_Judge_accept [.rf S.length, kv c n, .bl o, .str b] (D.st S) = .ok (.str (wordOf p (.acc c n o b))) (JD.st S D')) := by
  have d1 := dg1 S D c n
  have d3 := dg3 S D c n
  have d4 := dg4 S D c
  rw [R.ra] at d1
  rw [R.rn] at d3
  have g4 := R.rg c
  have i0 : ∀ S, gIx (kv c n) (.int 0) S = .ok (.str c) S := by intro S; simp [kv, gIx, ixL_0]
  have hp := dp1 S D c n (.tup [.bl o, .str b]) (by have := R.za; omega)
  have RA := R.acc c n o b
  have hbz : p.any (isAccK c n) = false → (p.filterMap (ansK c n)).contains busy = ((p.filterMap (ansK c n)).head?).isSome := by
    intro h1
    have := C.g1 c n h1
    cases hh : p.filterMap (ansK c n) with
    | nil => rfl
    | cons x r =>
      have := this x (by rw [hh]; exact List.mem_cons_self ..)
      subst this
      simp
  simp only [wordOf]
  rw [head_acc] at RA hbz ⊢
  generalize (p.filterMap (accK c n)).head? = oA at *
  generalize (p.filterMap (ansK c n)).contains busy = bN at *
  generalize (p.filterMap (ansK c n)).head? = oN at *
  generalize p.any (isGoneK c) = bG at *
  generalize lookZ (Sum.inr (mk c) : L2.Key) D.G D.g = oG at *
  cases oA with
  | some x =>
    refine ⟨fun z => by simp at z, fun _ => ⟨D, Fb_len ?_ rfl⟩⟩
    simp [b_Judge_accept, begin, -mFld, fld_acc, gDIn, d1]
  | none =>
    have hbz := hbz rfl
    cases bG with
    | true =>
      refine ⟨fun z => by simp [kGone] at z, fun _ => ⟨D, Fb_len ?_ rfl⟩⟩
      simp [b_Judge_accept, begin, -mFld, fld_acc, fld_gone, gDIn, d1, i0, d4, g4, kGone]
    | false =>
      cases oN with
      | some x =>
        have : bN = true := hbz
        subst this
        refine ⟨fun z => by simp at z, fun _ => ⟨D, Fb_len ?_ rfl⟩⟩
        simp [b_Judge_accept, begin, -mFld, fld_acc, fld_gone, fld_ans, gDIn, d1, i0, d4, g4, d3]
      | none =>
        have : bN = false := hbz
        subst this
        refine ⟨fun _ => ⟨_, RA rfl, Fb_len ?_ (st_len _ _)⟩, fun z => by simp at z⟩
        simp [b_Judge_accept, begin, -mFld, fld_acc, fld_gone, fld_ans, gDIn, d1, i0, d4, g4, d3, hp]
end
end K46
/-! PL17: the plain law: the judge takes begun and answered entries. -/
namespace K46
open L3
section
variable {S : Store} {D : JD} {p : List En}
theorem word_beg_head (p : List En) (c : List Nat) (n : Int) (s : List Nat) (m : Int) : wordOf p (.beg c n s m) = (match (p.filterMap (accK c n)).head? with
    | none => [110, 111, 116, 32, 97, 99, 99, 101, 112, 116, 101, 100]
    | some x => if p.any (isBegK c n) && x.1 then [116, 119, 105, 99, 101, 32, 98, 101, 103, 117, 110]
      else if (p.filterMap (ansK c n)).any (fun a => a == An.word kNot || a == busy) then [97, 102, 116, 101, 114, 32, 110, 111]
      else []) := by
  simp only [wordOf]
  cases p.filterMap (accK c n) <;> rfl
theorem ans_mem_gd (hok : ∀ e ∈ p, e.ok = true) (c : List Nat) (n : Int) : ∀ a ∈ p.filterMap (ansK c n), gd a.val = true := by
  intro a hm
  obtain ⟨e, he, hx⟩ := List.mem_filterMap.mp hm
  have hge := hok e he
  cases e <;> simp [ansK] at hx
  obtain ⟨_, rfl⟩ := hx
  simp only [En.ok, Bool.and_eq_true] at hge
  exact An.gd_ok hge.1.2
theorem beg_word (R : JR p D) (C : Clean p) (hok : ∀ e ∈ p, e.ok = true) (hz : p.length ≤ 100000) (c : List Nat) (n : Int) (s : List Nat) (m : Int) :
    (wordOf p (.beg c n s m) = [] → ∃ D', JR (p ++ [.beg c n s m]) D' ∧ f_Judge_begin [.rf S.length, kv c n] (D.st S) = .ok .non (D'.st S))
    ∧ (wordOf p (.beg c n s m) ≠ [] → ∃ D', f_Judge_begin [.rf S.length, kv c n] (D.st S) = .ok (.str (wordOf p (.beg c n s m))) (JD.st S D')) := by
  have d1 := dg1 S D c n
  have d2 := dg2 S D c n
  have d3 := dg3 S D c n
  rw [R.ra] at d1
  rw [R.rn] at d3
  have g2 := R.rb c n
  have hp := dp2 S D c n (.bl true) (by have := R.zb; omega)
  have RA := R.beg c n s m
  have k3 := isDk3 S D
  have hg := ans_mem_gd hok c n
  have hC := C.g2 c n
  rw [word_beg_head]
  generalize (p.filterMap (accK c n)).head? = oA at *
  generalize p.any (isBegK c n) = bB at *
  generalize lookZ (kk c n) D.B D.b = oB at *
  have hbn : (p.filterMap (ansK c n)).any (fun a => a == An.word kNot || a == busy) = (match (p.filterMap (ansK c n)).head? with | none => false | some a => a == An.word kNot || a == busy) := by
    generalize p.filterMap (ansK c n) = l at hC
    match l, hC with
    | [], _ => rfl
    | [a], _ => simp
    | _ :: _ :: _, h => simp at h
  have hg : ∀ a, (p.filterMap (ansK c n)).head? = some a → gd a.val = true := fun a ha => hg a (List.mem_of_mem_head? ha)
  rw [hbn]
  generalize (p.filterMap (ansK c n)).head? = oN at *
  have e1 : ∀ S, gIn .non (.tup [.tup [.str [110, 111, 116, 32, 98, 101, 103, 117, 110]], .tup [.str [98, 117, 115, 121]]]) S = .ok (.bl false) S := fun S => rfl
  cases oA with
  | none =>
    refine ⟨fun z => by simp at z, fun _ => ⟨D, Fb_len ?_ rfl⟩⟩
    simp [b_Judge_begin, begin, -mFld, fld_acc, gDIn, d1]
  | some x =>
    obtain ⟨o, b⟩ := x
    have i0 : ∀ S, gIx (.tup [.bl o, .str b]) (.int 0) S = .ok (.bl o) S := by intro S; simp [gIx, ixL_0]
    cases oN with
    | none =>
      cases bB <;> cases o <;> first
        | (refine ⟨fun _ => ⟨_, RA, Fb_len ?_ (st_len _ _)⟩, fun z => by simp at z⟩
           simp [b_Judge_begin, begin, -mFld, fld_acc, fld_beg, fld_ans, gDIn, d1, d2, d3, g2, i0, truB, k3, e1, hp]; done)
        | (refine ⟨fun z => by simp at z, fun _ => ⟨D, Fb_len ?_ rfl⟩⟩
           simp [b_Judge_begin, begin, -mFld, fld_acc, fld_beg, fld_ans, gDIn, d1, d2, d3, g2, i0, truB, k3, e1, hp]; done)
    | some a =>
      have e2 := gIn_an [kNot, kBusy] (by decide) (hg a rfl)
      simp only [List.map_cons, List.map_nil, one, kNot, kBusy, List.any_cons, List.any_nil, Bool.or_false] at e2
      have e2 : ∀ S, gIn a.val (.tup [.tup [.str [110, 111, 116, 32, 98, 101, 103, 117, 110]], .tup [.str [98, 117, 115, 121]]]) S = .ok (.bl (a == An.word kNot || a == busy)) S := e2
      simp only
      obtain ⟨ba, hba⟩ : ∃ ba, (a == An.word kNot || a == busy) = ba := ⟨_, rfl⟩
      simp only [hba] at e2 ⊢
      cases bB <;> cases o <;> cases ba <;> first
        | (refine ⟨fun _ => ⟨_, RA, Fb_len ?_ (st_len _ _)⟩, fun z => by simp at z⟩
           simp [b_Judge_begin, begin, -mFld, fld_acc, fld_beg, fld_ans, gDIn, d1, d2, d3, g2, i0, truB, k3, e2, hp]; done)
        | (refine ⟨fun z => by simp at z, fun _ => ⟨D, Fb_len ?_ rfl⟩⟩
           simp [b_Judge_begin, begin, -mFld, fld_acc, fld_beg, fld_ans, gDIn, d1, d2, d3, g2, i0, truB, k3, e2, hp]; done)
/-! ### answers -/
def An.w : An → List Nat
  | .done _ => kDone
  | .word w => w
def wordV (w : List Nat) : Val := if w = [] then .non else .str w
/-- the last part of the word on an answer -/
def faultW (bg : Bool) (w f : List Nat) : List Nat :=
  if w == kBeg && !bg then kBeg
  else if w == kNot && bg then kNot
  else if ((w == kBusy) != (f == [])) || (w == kUnk && f != kOpen) || (w == kNot && f == kBeg) || (w == kBeg && f == kNot) then [102, 97, 116, 101]
  else []
theorem an_cases {a : An} (h : a.ok = true) : (∃ t, a = .done t) ∨ a = .word kBusy ∨ a = .word kBeg ∨ a = .word kNot ∨ a = .word kUnk ∨ a = .word kNone := by
  cases a with
  | done t => exact .inl ⟨t, rfl⟩
  | word w =>
    have h : plainB w = true := h
    rcases plain_cases h with rfl | rfl | rfl | rfl | rfl <;> simp
theorem ansWord_fault {a : An} (ha : a.ok = true) (ac : Option (Bool × List Nat)) (bg : Bool) (f : List Nat) : ansWord ac bg a f = if kindB ac a then [107, 105, 110, 100] else if replyB ac bg a then [114, 101, 112, 108, 121] else faultW bg a.w f := by
  rcases an_cases ha with ⟨t, rfl⟩ | rfl | rfl | rfl | rfl | rfl <;> rfl
theorem w_cases {a : An} (h : a.ok = true) : a.w = kDone ∨ a.w = kBusy ∨ a.w = kBeg ∨ a.w = kNot ∨ a.w = kUnk ∨ a.w = kNone := by
  rcases an_cases h with ⟨t, rfl⟩ | rfl | rfl | rfl | rfl | rfl <;> simp [An.w]
theorem fault_of {a : An} (ha : a.ok = true) {f : List Nat} (hf : fateB (.str f) = true) (c : List Nat) (n : Int) {bg : Bool} (hb : (lookZ (kk c n) D.B D.b).isSome = bg) :
    f_Judge_fault_of [.rf S.length, kv c n, .str a.w, .str f] (D.st S) = .ok (wordV (faultW bg a.w f)) (D.st S) := by
  refine Fb_len ?_ rfl
  have d2 := dg2 S D c n
  generalize lookZ (kk c n) D.B D.b = oB at *
  have hw := w_cases ha
  generalize a.w = w at *
  have gw : gd (.str w) = true := by rcases hw with rfl | rfl | rfl | rfl | rfl | rfl <;> decide
  have gf : gd (.str f) = true := by rcases fate_cases hf with rfl | rfl | rfl | rfl <;> decide
  have e1 := gEq_str (j := kBeg) gw (by decide)
  have e2 := gEq_str (j := kNot) gw (by decide)
  have e3 := gEq_str (j := kBusy) gw (by decide)
  have e4 := gEq_str (j := []) gf (by decide)
  have e5 := gEq_str (j := kUnk) gw (by decide)
  have e6 := gNe_str (j := kOpen) gf (by decide)
  have e7 : ∀ S, gIn (.tup [.str w, .str f]) (.tup [.tup [.str kNot, .str kBeg], .tup [.str kBeg, .str kNot]]) S = .ok (.bl ((w == kNot && f == kBeg) || (w == kBeg && f == kNot))) S := by
    rcases hw with rfl | rfl | rfl | rfl | rfl | rfl <;> rcases fate_cases hf with rfl | rfl | rfl | rfl <;> exact fun S => rfl
  cases oB <;> simp only [Option.isSome] at hb <;> subst hb <;> rcases hw with rfl | rfl | rfl | rfl | rfl | rfl <;> rcases fate_cases hf with rfl | rfl | rfl | rfl <;>
    (simp only [kBeg, kNot, kBusy, kUnk, kOpen, kDone, kNone] at e1 e2 e3 e4 e5 e6 e7 ⊢
     simp [b_Judge_fault_of, begin, -mFld, fld_beg, gDIn, d2, e1, e2, e3, e4, e5, e6, e7, gNe_bl, wordV, faultW, kBeg, kNot, kBusy, kUnk, kOpen])
end
end K46
/-! PL18: the plain law: the judge takes answered entries; the program's judgement. -/
namespace K46
open L3
section
variable {S : Store} {D : JD} {p : List En}
theorem gIn_once {w : List Nat} (h : gd (.str w) = true) (S : Store) : gIn (.str w) (.ktup v_ONCE_ONLY) S = .ok (.bl (w == kBeg || w == kNot || w == kUnk)) S := by
  have hp : isP (.str w) = true := by simpa only [isP, gd] using h
  have e : isPs v_ONCE_ONLY = true := by decide
  have : gIn (.str w) (.ktup v_ONCE_ONLY) S = .ok (.bl (v_ONCE_ONLY.any fun z => veq z (.str w))) S := by
    unfold gIn
    split
    · rename_i h2; cases h2
    · simp [seqOf, hp, e, dep]
  rw [this]
  simp only [v_ONCE_ONLY, List.any_cons, List.any_nil, veq, kBeg, kNot, kUnk, Bool.or_false]
  congr 2
  rw [Bool.eq_iff_iff]
  simp only [Bool.or_eq_true, beq_iff_eq]
  constructor
  · rintro (z | z | z) <;> simp [← z]
  · rintro ((z | z) | z) <;> simp [z]
theorem an_ix0 (a : An) (S : Store) : gIx a.val (.int 0) S = .ok (.str a.w) S := by
  cases a <;> simp [An.val, gIx, ixL_0, An.w]
theorem word_ans_head (p : List En) (c : List Nat) (n : Int) (a : An) (f : List Nat) : wordOf p (.ans c n a f) =
    if a != busy && !((p.filterMap (accK c n)).head?).isSome then [110, 111, 116, 32, 97, 99, 99, 101, 112, 116, 101, 100]
    else if p.any (isGoneK c) then kGone
    else if ((p.filterMap (ansK c n)).head?).isSome then [116, 119, 105, 99, 101, 32, 97, 110, 115, 119, 101, 114, 101, 100]
    else ansWord (p.filterMap (accK c n)).head? (p.any (isBegK c n)) a f := by
  simp only [wordOf, head_acc]
  have : (!(p.filterMap (ansK c n)).isEmpty) = ((p.filterMap (ansK c n)).head?).isSome := by
    cases p.filterMap (ansK c n) <;> rfl
  rw [this]
theorem busy_w {a : An} (ha : a.ok = true) : (a.w == kBusy) = (a == busy) := by
  rcases an_cases ha with ⟨t, rfl⟩ | rfl | rfl | rfl | rfl | rfl <;> rfl
theorem ans_word (R : JR p D) (C : Clean p) (hok : ∀ e ∈ p, e.ok = true) (hz : p.length ≤ 100000) {c : List Nat} {n : Int} {a : An} {f : List Nat} (ha : a.ok = true) (hf : fateB (.str f) = true) :
    (wordOf p (.ans c n a f) = [] → ∃ D', JR (p ++ [.ans c n a f]) D' ∧ f_Judge_answer [.rf S.length, kv c n, a.val, .str f] (D.st S) = .ok .non (D'.st S))
    ∧ (wordOf p (.ans c n a f) ≠ [] → ∃ D', f_Judge_answer [.rf S.length, kv c n, a.val, .str f] (D.st S) = .ok (.str (wordOf p (.ans c n a f))) (JD.st S D')) := by
  have d1 := dg1 S D c n
  have d3 := dg3 S D c n
  have d4 := dg4 S D c
  have b1 := dg1 S { D with N := (putZ (kk c n) a.val D.N D.n).1, n := (putZ (kk c n) a.val D.N D.n).2 } c n
  have b2 := dg2 S { D with N := (putZ (kk c n) a.val D.N D.n).1, n := (putZ (kk c n) a.val D.N D.n).2 } c n
  simp only at b1 b2
  rw [R.ra] at d1 b1
  rw [R.rn] at d3
  have g2 := R.rb c n
  have g4 := R.rg c
  have hp := dp3 S D c n a.val (by have := R.zn; have := List.length_filter_le isAns p; omega)
  have RA := fun hn => R.ans c n a f hn
  have hbody : ∀ o b, (p.filterMap (accK c n)).head? = some (o, b) → bodyB (.str b) = true := by
    intro o b hh
    cases hA : p.filterMap (accK c n) with
    | nil => rw [hA] at hh; cases hh
    | cons x r =>
      rw [hA] at hh
      cases hh
      exact acc_body hok hA
  have fo := fun D' (h : D'.B = D.B) (h' : D'.b = D.b) => fault_of (S := S) (D := D') ha hf c n (bg := p.any (isBegK c n)) (by rw [h, h']; exact g2)
  have fo := fo { D with N := (putZ (kk c n) a.val D.N D.n).1, n := (putZ (kk c n) a.val D.N D.n).2 } rfl rfl
  have i0 : ∀ S, gIx (kv c n) (.int 0) S = .ok (.str c) S := by intro S; simp [kv, gIx, ixL_0]
  have w0 := an_ix0 a
  have gw : gd (.str a.w) = true := by rcases w_cases ha with h | h | h | h | h | h <;> rw [h] <;> decide
  have e1 := gNe_str (j := kBusy) gw (by decide)
  have e2 := gEq_str (j := kBusy) gw (by decide)
  have e3 := gEq_str (j := kNone) gw (by decide)
  have e4 := gIn_once gw
  have e5 := gEq_str (j := kDone) gw (by decide)
  simp only [kBusy, kNone, kDone] at e1 e2 e3 e5
  have hnn : ((p.filterMap (ansK c n)).head?) = none → p.filterMap (ansK c n) = [] := by
    cases p.filterMap (ansK c n) <;> simp
  rw [word_ans_head]
  have bw : (a != busy) = !(a.w == kBusy) := by rw [busy_w ha]; rfl
  have aw := ansWord_fault ha (p.filterMap (accK c n)).head? (p.any (isBegK c n)) f
  rw [aw]
  generalize (p.filterMap (accK c n)).head? = oA at *
  generalize (p.filterMap (ansK c n)).head? = oN at *
  generalize p.any (isGoneK c) = bG at *
  generalize p.any (isBegK c n) = bB at *
  generalize lookZ (kk c n) D.B D.b = oB at *
  generalize lookZ (Sum.inr (mk c) : L2.Key) D.G D.g = oG at *
  generalize hD : ({ D with N := (putZ (kk c n) a.val D.N D.n).1, n := (putZ (kk c n) a.val D.N D.n).2 } : JD) = D1 at *
  have m1 : ¬ (("fault_of" : PySem.Str) = "accepted") := by decide
  have m2 : ¬ (("fault_of" : PySem.Str) = "begun") := by decide
  have m3 : ¬ (("fault_of" : PySem.Str) = "answers") := by decide
  have m4 : ¬ (("fault_of" : PySem.Str) = "gone") := by decide
  by_cases q1 : (a != busy && !oA.isSome) = true
  · rw [if_pos q1]
    refine ⟨fun z => by simp at z, fun _ => ⟨D, Fb_len ?_ rfl⟩⟩
    rw [bw] at q1
    simp only [Bool.and_eq_true, Bool.not_eq_true'] at q1
    obtain ⟨q1, q2⟩ := q1
    have : oA = none := by cases oA; rfl; cases q2
    subst this
    simp only [kBusy] at q1
    simp [b_Judge_answer, begin, -mFld, fld_acc, gDIn, d1, w0, e1, q1]
  rw [if_neg q1]
  cases oA with
  | none =>
    have hb : a = busy := by
      simp only [Option.isSome, Bool.not_false, Bool.and_true, bne_iff_ne, ne_eq, Decidable.not_not] at q1
      exact q1
    subst hb
    have ew : An.w busy = [98, 117, 115, 121] := rfl
    simp only [ew] at w0 e1 e2 e3 e5 e4 fo ⊢
    cases bG with
    | true =>
      refine ⟨fun z => by simp [kGone] at z, fun _ => ⟨D, Fb_len ?_ rfl⟩⟩
      simp [b_Judge_answer, begin, -mFld, fld_acc, fld_gone, gDIn, d1, w0, e1, i0, d4, g4, kGone]
    | false =>
      cases oN with
      | some x =>
        refine ⟨fun z => by simp at z, fun _ => ⟨D, Fb_len ?_ rfl⟩⟩
        simp [b_Judge_answer, begin, -mFld, fld_acc, fld_gone, fld_ans, gDIn, d1, w0, e1, i0, d4, g4, d3]
      | none =>
        have main : f_Judge_answer [.rf S.length, kv c n, An.val busy, .str f] (D.st S) = .ok (wordV (faultW bB [98, 117, 115, 121] f)) (D1.st S) := by
          refine Fb_len ?_ (st_len _ _)
          simp [b_Judge_answer, begin, -mFld, fld_acc, fld_gone, fld_ans, gDIn, d1, w0, e1, i0, d4, g4, d3, hp, b1, JD.at0, m1, m2, m3, m4, fo]
        have hk : kindB none busy = false := rfl
        have hr : replyB none bB busy = false := rfl
        simp only [hk, hr, Bool.false_eq_true, if_false, Option.isSome]
        exact ⟨fun z => ⟨D1, RA (hnn rfl), by rw [main, z]; rfl⟩, fun z => ⟨D1, by rw [main, wordV, if_neg z]⟩⟩
  | some x =>
    obtain ⟨o, b⟩ := x
    have hb := hbody o b rfl
    cases bG with
    | true =>
      refine ⟨fun z => by simp [kGone] at z, fun _ => ⟨D, Fb_len ?_ rfl⟩⟩
      simp [b_Judge_answer, begin, -mFld, fld_acc, fld_gone, gDIn, d1, w0, e1, i0, d4, g4, kGone]
    | false =>
      cases oN with
      | some x =>
        refine ⟨fun z => by simp at z, fun _ => ⟨D, Fb_len ?_ rfl⟩⟩
        simp [b_Judge_answer, begin, -mFld, fld_acc, fld_gone, fld_ans, gDIn, d1, w0, e1, i0, d4, g4, d3]
      | none =>
        have main : f_Judge_answer [.rf S.length, kv c n, a.val, .str f] (D.st S) = .ok (wordV (if kindB (some (o, b)) a then [107, 105, 110, 100] else if replyB (some (o, b)) bB a then [114, 101, 112, 108, 121] else faultW bB a.w f)) (D1.st S) := by
          refine Fb_len ?_ (st_len _ _)
          rcases an_cases ha with ⟨t, rfl⟩ | rfl | rfl | rfl | rfl | rfl
          · have ht : bodyB (.str t) = true := by simpa only [An.ok, bodyB] using ha
            simp only [bodyB, Bool.and_eq_true, decide_eq_true_eq] at ht hb
            have gt : gd (.str t) = true := gs_prn ht.2
            have gb : gd (.str b.reverse) = true := gs_prn (by simpa using hb.2)
            have er := gNe_str gt gb
            have hfit : fit b.length = true := fit_of (by omega)
            have i1 : ∀ S, gIx (An.done t).val (.int 1) S = .ok (.str t) S := by intro S; simp [An.val, gIx, ixL_1]
            have ew : An.w (.done t) = [100, 111, 110, 101] := rfl
            simp only [ew, kBeg, kNot, kUnk] at w0 e1 e2 e3 e5 e4 fo ⊢
            have gr : ∀ S, gRev (.str b) S = .ok (.str b.reverse) S := by intro S; simp [gRev, hfit]
            have k0 : kindB (some (o, b)) (.done t) = false := by cases o <;> rfl
            have k1 : replyB (some (o, b)) bB (.done t) = (t != b.reverse || !bB) := rfl
            rw [k0, k1]
            have bne' : (t != b.reverse) = !(t == b.reverse) := rfl
            rw [bne']
            cases oB <;> simp only [Option.isSome] at g2 <;> subst g2 <;> cases htb : (t == b.reverse) <;> cases o <;> rw [htb] at er <;>
              simp [b_Judge_answer, begin, -mFld, fld_acc, fld_gone, fld_ans, fld_beg, gDIn, d1, w0, e1, e2, e3, e4, e5, i0, d4, g4, d3, hp, b1, b2, JD.at0, m1, m2, m3, m4, fo, er, gr, i1, truB, wordV]
          all_goals
            simp only [An.w, kBusy, kBeg, kNot, kUnk, kNone, kDone] at w0 e1 e2 e3 e4 e5 fo hp ⊢
            cases o <;>
              simp [b_Judge_answer, begin, -mFld, fld_acc, fld_gone, fld_ans, fld_beg, gDIn, d1, w0, e1, e2, e3, e4, e5, i0, d4, g4, d3, hp, b1, b2, JD.at0, m1, m2, m3, m4, fo, truB, wordV, kindB, replyB, busy, kBusy, kBeg, kNot, kUnk, kNone]
        simp only [Bool.false_eq_true, if_false, Option.isSome]
        exact ⟨fun z => ⟨D1, RA (hnn rfl), by rw [main, z]; rfl⟩, fun z => ⟨D1, by rw [main, wordV, if_neg z]⟩⟩
end
end K46
/-! PL19: the plain law: the program's judgement of a past. -/
namespace K46
open L3
section
variable {S : Store} {D : JD} {p : List En}
theorem take_word (R : JR p D) (C : Clean p) (hok : ∀ e ∈ p, e.ok = true) (hz : p.length ≤ 100000) {e : En} (he : e.ok = true) :
    (wordOf p e = [] → ∃ D', JR (p ++ [e]) D' ∧ f_Judge_take [.rf S.length, e.val] (D.st S) = .ok .non (D'.st S))
    ∧ (wordOf p e ≠ [] → ∃ D', f_Judge_take [.rf S.length, e.val] (D.st S) = .ok (.str (wordOf p e)) (JD.st S D')) := by
  have e6 := En.ix0 e
  have m1 : ∀ x : PySem.Str, x = "accept" ∨ x = "begin" ∨ x = "answer" → ¬ x = "accepted" ∧ ¬ x = "begun" ∧ ¬ x = "answers" ∧ ¬ x = "gone" := by
    rintro x (rfl | rfl | rfl) <;> decide
  have ma := m1 _ (.inl rfl)
  have mb := m1 _ (.inr (.inl rfl))
  have mc := m1 _ (.inr (.inr rfl))
  cases e with
  | gone c => exact ⟨fun _ => take_gone R hz c, fun z => absurd rfl z⟩
  | acc c n o b =>
    simp only [En.kind, kAcc] at e6
    have g1 : ∀ S, gEq (.str [97, 99, 99, 101, 112, 116, 101, 100]) (.str [103, 111, 110, 101]) S = .ok (.bl false) S := fun S => rfl
    have g2 : ∀ S, gEq (.str [97, 99, 99, 101, 112, 116, 101, 100]) (.str [97, 99, 99, 101, 112, 116, 101, 100]) S = .ok (.bl true) S := fun S => rfl
    have i1 : ∀ S, gIx (En.acc c n o b).val (.int 1) S = .ok (.str c) S := by intro S; simp [En.val, gIx, ixL_1]
    have i2 : ∀ S, gIx (En.acc c n o b).val (.int 2) S = .ok (.int n) S := by intro S; simp [En.val, gIx, ixL_2]
    have i3 : ∀ S, gIx (En.acc c n o b).val (.int 3) S = .ok (.bl o) S := by intro S; simp [En.val, gIx, ixL_3]
    have i4 : ∀ S, gIx (En.acc c n o b).val (.int 4) S = .ok (.str b) S := by intro S; simp [En.val, gIx, ixL_4]
    have W := acc_word (S := S) R C hz c n o b
    unfold kv at W
    refine ⟨fun z => ?_, fun z => ?_⟩
    · obtain ⟨D', R', h⟩ := W.1 z
      refine ⟨D', R', Fb_len ?_ (st_len _ _)⟩
      simp [b_Judge_take, begin, e6, g1, g2, i1, i2, i3, i4, JD.at0, ma, h]
    · obtain ⟨D', h⟩ := W.2 z
      refine ⟨D', Fb_len ?_ (st_len _ _)⟩
      simp [b_Judge_take, begin, e6, g1, g2, i1, i2, i3, i4, JD.at0, ma, h]
  | beg c n s m =>
    simp only [En.kind, kBeg] at e6
    have g1 : ∀ S, gEq (.str [98, 101, 103, 117, 110]) (.str [103, 111, 110, 101]) S = .ok (.bl false) S := fun S => rfl
    have g2 : ∀ S, gEq (.str [98, 101, 103, 117, 110]) (.str [97, 99, 99, 101, 112, 116, 101, 100]) S = .ok (.bl false) S := fun S => rfl
    have g3 : ∀ S, gEq (.str [98, 101, 103, 117, 110]) (.str [98, 101, 103, 117, 110]) S = .ok (.bl true) S := fun S => rfl
    have i1 : ∀ S, gIx (En.beg c n s m).val (.int 1) S = .ok (.str c) S := by intro S; simp [En.val, gIx, ixL_1]
    have i2 : ∀ S, gIx (En.beg c n s m).val (.int 2) S = .ok (.int n) S := by intro S; simp [En.val, gIx, ixL_2]
    have W := beg_word (S := S) R C hok hz c n s m
    unfold kv at W
    refine ⟨fun z => ?_, fun z => ?_⟩
    · obtain ⟨D', R', h⟩ := W.1 z
      refine ⟨D', R', Fb_len ?_ (st_len _ _)⟩
      simp [b_Judge_take, begin, e6, g1, g2, g3, i1, i2, JD.at0, mb, h]
    · obtain ⟨D', h⟩ := W.2 z
      refine ⟨D', Fb_len ?_ (st_len _ _)⟩
      simp [b_Judge_take, begin, e6, g1, g2, g3, i1, i2, JD.at0, mb, h]
  | ans c n a f =>
    simp only [En.ok, Bool.and_eq_true] at he
    simp only [En.kind, kAns] at e6
    have g1 : ∀ S, gEq (.str [97, 110, 115, 119, 101, 114, 101, 100]) (.str [103, 111, 110, 101]) S = .ok (.bl false) S := fun S => rfl
    have g2 : ∀ S, gEq (.str [97, 110, 115, 119, 101, 114, 101, 100]) (.str [97, 99, 99, 101, 112, 116, 101, 100]) S = .ok (.bl false) S := fun S => rfl
    have g3 : ∀ S, gEq (.str [97, 110, 115, 119, 101, 114, 101, 100]) (.str [98, 101, 103, 117, 110]) S = .ok (.bl false) S := fun S => rfl
    have i1 : ∀ S, gIx (En.ans c n a f).val (.int 1) S = .ok (.str c) S := by intro S; simp [En.val, gIx, ixL_1]
    have i2 : ∀ S, gIx (En.ans c n a f).val (.int 2) S = .ok (.int n) S := by intro S; simp [En.val, gIx, ixL_2]
    have i3 : ∀ S, gIx (En.ans c n a f).val (.int 3) S = .ok a.val S := by intro S; simp [En.val, gIx, ixL_3]
    have i4 : ∀ S, gIx (En.ans c n a f).val (.int 4) S = .ok (.str f) S := by intro S; simp [En.val, gIx, ixL_4]
    have W := ans_word (S := S) R C hok hz (c := c) (n := n) he.1.2 he.2
    unfold kv at W
    refine ⟨fun z => ?_, fun z => ?_⟩
    · obtain ⟨D', R', h⟩ := W.1 z
      refine ⟨D', R', Fb_len ?_ (st_len _ _)⟩
      simp [b_Judge_take, begin, e6, g1, g2, g3, i1, i2, i3, i4, JD.at0, mc, h]
    · obtain ⟨D', h⟩ := W.2 z
      refine ⟨D', Fb_len ?_ (st_len _ _)⟩
      simp [b_Judge_take, begin, e6, g1, g2, g3, i1, i2, i3, i4, JD.at0, mc, h]
end
def D0 : JD := ⟨[], [], [], [], [], [], [], []⟩
theorem JR.nil : JR [] D0 := ⟨rfl, rfl, rfl, rfl, fun _ _ => rfl, fun _ _ => rfl, fun _ _ => rfl, fun _ => rfl, by simp [D0], by simp [D0], rfl, by simp [D0]⟩
theorem st_get0 (S l : Store) : (S ++ l)[S.length]? = l[0]? := st_get S l 0
theorem st_set0 (S l : Store) (o : Ob) : (S ++ l).set S.length o = S ++ l.set 0 o := st_set S l 0 o
theorem judge_init (S : Store) : f_Judge___init__ [.rf S.length] (S ++ [.ins "Judge" [] []]) = .ok .non (D0.st S) := by
  have m1 : ¬ (("accepted" : PySem.Str) = "begun") := by decide
  have m2 : ¬ (("accepted" : PySem.Str) = "answers") := by decide
  have m3 : ¬ (("accepted" : PySem.Str) = "gone") := by decide
  have m4 : ¬ (("begun" : PySem.Str) = "answers") := by decide
  have m5 : ¬ (("begun" : PySem.Str) = "gone") := by decide
  have m6 : ¬ (("answers" : PySem.Str) = "gone") := by decide
  have h : outOf (b_Judge___init__ (begin 1 [.rf S.length]) (S ++ [.ins "Judge" [] []])) = .ok .non (D0.st S) := by
    simp [b_Judge___init__, begin, st_get0, st_set0, putNs, putVs, m1, m2, m3, m4, m5, m6, JD.st, JD.obs, D0]
  rw [f_Judge___init__, Fb, h]
  have hl : ¬ (D0.st S).length ≤ (S ++ [Ob.ins "Judge" [] []]).length := by rw [JD.len]; simp
  have hc : ((D0.st S).take (S ++ [Ob.ins "Judge" [] []]).length).all (closedO (S ++ [Ob.ins "Judge" [] []]).length) = false := by
    have : (D0.st S).take (S ++ [Ob.ins "Judge" [] []]).length = S ++ (D0.obs S.length).take 1 := by
      rw [JD.st, List.length_append, List.take_append]
      simp
      exact List.take_of_length_le (by omega)
    rw [this]
    simp [JD.obs, closedO, closedVs, closedV]
  simp only [trunc, if_neg hl, hc, Bool.and_false, Bool.false_eq_true, if_false]
def bodyP : Sv := (mSeq (mSet 4 (mMeth "Judge" "take" f_Judge_take (mVar 1) [(mVar 3)]))
    (mIfS (mB (mBin gIsNot (mVar 4) (mC .non))) (mRet (mTup [(mC (.str [98, 114, 111, 107, 101, 110])), (mVar 2), (mVar 4)])) mNil))
theorem judge_loop {es : List En} (hz : es.length ≤ 100000) (hok : ∀ e ∈ es, e.ok = true) (S : Store) (v0 : Option Val) : ∀ (r q : List En), es = q ++ r → Clean q → ∀ D, JR q D → ∀ a b c : Option Val,
    (judgeGo q r = none → ∃ D' a' b' c', JR es D' ∧ forGo (gTp [2, 3]) bodyP (rowsFrom q.length r) [v0, some (.rf S.length), a, b, c] (D.st S) = .nx [v0, some (.rf S.length), a', b', c'] (D'.st S))
    ∧ (∀ k w, judgeGo q r = some (k, w) → ∃ D', forGo (gTp [2, 3]) bodyP (rowsFrom q.length r) [v0, some (.rf S.length), a, b, c] (D.st S) = .rt (brk k w) (JD.st S D'))
  | [], q, he, C, D, R, a, b, c => by
    have : es = q := by simpa using he
    subst this
    exact ⟨fun _ => ⟨D, a, b, c, R, rfl⟩, fun k w h => by simp [judgeGo] at h⟩
  | e :: r, q, he, C, D, R, a, b, c => by
    have hq : ∀ e ∈ q, e.ok = true := fun x hx => hok x (by rw [he]; exact List.mem_append_left _ hx)
    have hee : e.ok = true := hok e (by rw [he]; simp)
    have hql : q.length ≤ 100000 := by rw [he] at hz; simp at hz; omega
    have hw := take_word (S := S) R C hq hql hee
    have hl : (q ++ [e]).length = q.length + 1 := by simp
    have m1 : ¬ (("take" : PySem.Str) = "accepted") := by decide
    have m2 : ¬ (("take" : PySem.Str) = "begun") := by decide
    have m3 : ¬ (("take" : PySem.Str) = "answers") := by decide
    have m4 : ¬ (("take" : PySem.Str) = "gone") := by decide
    have n1 : ∀ S, gIsNot .non .non S = .ok (.bl false) S := fun S => rfl
    have n2 : ∀ w S, gIsNot (.str w) .non S = .ok (.bl true) S := fun w S => rfl
    by_cases hwe : wordOf q e = []
    · obtain ⟨D1, R1, h1⟩ := hw.1 hwe
      have ih := judge_loop hz hok S v0 r (q ++ [e]) (by rw [he]; simp) (C.step hwe) D1 R1
      rw [hl] at ih
      have step : forGo (gTp [2, 3]) bodyP (rowsFrom q.length (e :: r)) [v0, some (.rf S.length), a, b, c] (D.st S) = forGo (gTp [2, 3]) bodyP (rowsFrom (q.length + 1) r) [v0, some (.rf S.length), some (.int q.length), some e.val, some .non] (D1.st S) := by
        simp [rowsFrom, forGo, bodyP, JD.at0, m1, m2, m3, m4, h1, n1]
      have hj : judgeGo q (e :: r) = judgeGo (q ++ [e]) r := by simp [judgeGo, hwe]
      rw [hj, step]
      exact ih _ _ _
    · obtain ⟨D1, h1⟩ := hw.2 hwe
      have hj : judgeGo q (e :: r) = some (q.length, wordOf q e) := by simp [judgeGo, hwe]
      rw [hj]
      refine ⟨fun hh => (nomatch hh), fun k w hh => ⟨D1, ?_⟩⟩
      cases hh
      simp [rowsFrom, forGo, bodyP, JD.at0, m1, m2, m3, m4, h1, n2, brk]
theorem judged_eq {es : List En} (hz : es.length ≤ 100000) (hok : ∀ e ∈ es, e.ok = true) {S : Store} (hS : S.all (closedO S.length) = true) : f_judged [.tup (es.map En.val)] S = .ok (dueOf es) S := by
  have hl := judge_loop hz hok S (some (.tup (es.map En.val))) es [] rfl Clean.nil D0 JR.nil none none none
  have hc : ∀ (D' : JD) (v : Val), closedV S.length v = true → trunc S.length (.ok v (D'.st S)) = .ok v S := by
    intro D' v hv
    have hn : ¬ (D'.st S).length ≤ S.length := by rw [JD.len]; omega
    have ht : (D'.st S).take S.length = S := by simp [JD.st]
    simp only [trunc, if_neg hn, ht, hv, hS, Bool.and_self, if_true]
  have ji := judge_init S
  have zr := zip_rows es 0
  simp only [List.length_nil] at hl
  have hb : b_judged = (mSeq (mSet 1 (mMake "Judge" f_Judge___init__))
    (mSeq (mFor (mEnum (mVar 0)) (gTp [2, 3]) bodyP)
    (mRet (mTup [(mC (.str [107, 101, 112, 116])), (mUn gLenD (mFld "Judge" "answers" (mVar 1)))])))) := rfl
  rw [f_judged, Fb, hb]
  have e1 : (mSet 1 (mMake "Judge" f_Judge___init__)) (begin 5 [.tup (es.map En.val)]) S = .nx [some (.tup (es.map En.val)), some (.rf S.length), none, none, none] (D0.st S) := by
    simp [begin, ji]
  simp only [mSeq, e1, OutS.bind, mFor, mEnum, mVar, List.getElem?_cons_zero, Out.bindL]
  rw [zr]
  cases hd : judgeGo [] es with
  | none =>
    obtain ⟨D', a, b, c, R, h⟩ := hl.1 hd
    rw [h]
    have fa : mFld "Judge" "answers" (mVar 1) [some (.tup (es.map En.val)), some (.rf S.length), a, b, c] (D'.st S) = .ok (.rf (S.length + 3)) (D'.st S) := by
      have h1 : ¬ (("accepted" : PySem.Str) = "answers") := by decide
      have h2 : ¬ (("begun" : PySem.Str) = "answers") := by decide
      simp [JD.at0, lookF, h1, h2]
    have := hc D' (dueOf es) (by simp [dueOf, hd, closedV, closedVs])
    rw [← this]
    congr 1
    simp [-mFld, fa, gLenD, JD.at3, dueOf, hd, R.zn]
  | some x =>
    obtain ⟨k, w⟩ := x
    obtain ⟨D', h⟩ := hl.2 k w hd
    rw [h]
    have := hc D' (dueOf es) (by simp [dueOf, hd, closedV, closedVs])
    rw [← this]
    congr 1
    simp [dueOf, hd, brk]
end K46
/-! PL20: the plain law: what repr shows. -/
namespace K46
open L3
def aKey : L2.Key := Sum.inr (L3.mk [97])
mutual
/-- the law's values: plain signs, ints not too large, its two dicts -/
def ga : Val → Bool
  | .non | .bl _ => true
  | .int i => decide (i.natAbs < 10 ^ 40)
  | .str l => l.all (· < 128)
  | .tup l | .lst l => gas l
  | .dct ks l => (decide (ks = []) && l.isEmpty) || (decide (ks = [aKey]) && (match l with | [.int 1] => true | _ => false))
  | _ => false
def gas : List Val → Bool
  | [] => true
  | v :: l => ga v && gas l
end
mutual
theorem ga_gd : ∀ v, ga v = true → gd v = true
  | .non, _ | .bl _, _ => by simp only [gd]
  | .int i, h => by simpa only [ga, gd] using h
  | .str l, h => by
    simp only [ga, gd, List.all_eq_true, decide_eq_true_eq] at h ⊢
    intro x hx
    have := h x hx
    omega
  | .tup l, h => by simp only [ga] at h; simp only [gd]; exact gas_gd l h
  | .lst l, h => by simp only [ga] at h; simp only [gd]; exact gas_gd l h
  | .dct ks l, h => by
    simp only [ga, Bool.or_eq_true, Bool.and_eq_true] at h
    simp only [gd]
    rcases h with h | h
    · have : l = [] := by simpa using h.2
      subst this
      simp only [gds]
    · have h2 := h.2
      split at h2
      · decide
      · cases h2
  | .rf _, h | .ktup _, h | .scr _, h => by simp [ga] at h
theorem gas_gd : ∀ l, gas l = true → gds l = true
  | [], _ => by simp only [gds]
  | v :: l, h => by
    simp only [gas, Bool.and_eq_true] at h
    simp only [gds, Bool.and_eq_true]
    exact ⟨ga_gd v h.1, gas_gd l h.2⟩
end
theorem gas_mem : ∀ {l : List Val}, gas l = true → ∀ v ∈ l, ga v = true
  | v :: l, h, u, hu => by
    simp only [gas, Bool.and_eq_true] at h
    rcases List.mem_cons.mp hu with e | e
    · rw [e]; exact h.1
    · exact gas_mem h.2 u e
theorem gas_of : ∀ {l : List Val}, (∀ v ∈ l, ga v = true) → gas l = true
  | [], _ => by simp only [gas]
  | v :: l, h => by
    simp only [gas, Bool.and_eq_true]
    exact ⟨h v (List.mem_cons_self ..), gas_of fun u hu => h u (List.mem_cons_of_mem _ hu)⟩
section
open PySem
/-! ### texts -/
def quo (l : List Nat) : Nat := if l.contains 39 && !l.contains 34 then 34 else 39
theorem fold_flat (q : Nat) : ∀ (l : List Nat) (acc : Array Nat), (l.foldl (fun out c => out ++ (Builtin.Str.reprChar q c).toArray) acc).toList = acc.toList ++ l.flatMap (Builtin.Str.reprChar q)
  | [], acc => by simp
  | c :: l, acc => by
    rw [List.foldl_cons, fold_flat q l]
    simp
theorem tl_repr (x : Str) : TL.tl (reprText x) = quo (TL.tl x) :: ((TL.tl x).flatMap (Builtin.Str.reprChar (quo (TL.tl x))) ++ [quo (TL.tl x)]) := by
  have hq : reprQuote x = quo (TL.tl x) := by
    unfold reprQuote quo
    simp [TL.tl]
  unfold reprText
  rw [hq]
  show (((x.cps.foldl (fun out c => out ++ (Builtin.Str.reprChar (quo (TL.tl x)) c).toArray) #[quo (TL.tl x)])).push (quo (TL.tl x))).toList = _
  rw [Array.toList_push, ← Array.foldl_toList, fold_flat]
  rfl
theorem shown_str (l : List Nat) : shownL (.str l) = quo l :: (l.flatMap (Builtin.Str.reprChar (quo l)) ++ [quo l]) := tl_repr (L3.mk l)
theorem shownAll_map : ∀ l : List Val, ((PyData.shownAll (toPys l)).map TL.tl) = l.map shownL
  | [] => rfl
  | v :: l => by
    simp only [toPys, PyData.shownAll, List.map_cons]
    rw [shownAll_map l]
    rfl
def tailT (n : Nat) : List Nat := if n == 1 then [44, 41] else [41]
theorem shown_tup (l : List Val) : shownL (.tup l) = 40 :: (TL.joinL [44, 32] (l.map shownL) ++ tailT l.length) := by
  show TL.tl (PyData.shown (.tuple (toPys l))) = _
  have hl : (PyData.shownAll (toPys l)).length = l.length := by
    have := congrArg List.length (shownAll_map l)
    simpa using this
  simp only [PyData.shown, tupleText]
  rw [TL.tl_append, TL.tl_append, TL.tl_join, shownAll_map, hl]
  have e1 : TL.tl ((", " : String) : Str) = [44, 32] := by decide +kernel
  have e2 : TL.tl (("(" : String) : Str) = [40] := by decide +kernel
  have e3 : TL.tl ((",)" : String) : Str) = [44, 41] := by decide +kernel
  have e4 : TL.tl ((")" : String) : Str) = [41] := by decide +kernel
  rw [e1, e2]
  unfold tailT
  by_cases h : (l.length == 1) = true
  · rw [if_pos h, if_pos h, e3]; simp
  · rw [if_neg h, if_neg h, e4]; simp
theorem shown_lst (l : List Val) : shownL (.lst l) = 91 :: (TL.joinL [44, 32] (l.map shownL) ++ [93]) := by
  show TL.tl (PyData.shown (.list (toPys l))) = _
  simp only [PyData.shown, listText_eq_join]
  rw [TL.tl_append, TL.tl_append, TL.tl_join, shownAll_map]
  have e1 : TL.tl ((", " : String) : Str) = [44, 32] := by decide +kernel
  have e2 : TL.tl (("[" : String) : Str) = [91] := by decide +kernel
  have e3 : TL.tl (("]" : String) : Str) = [93] := by decide +kernel
  rw [e1, e2, e3]
  simp
theorem shown_int (i : Int) : shownL (.int i) = digs i := rfl
theorem digs_nat (m : Nat) : digs (m : Int) = TL.numL m := TL.tl_num m
theorem digs_neg (m : Nat) : digs (Int.negSucc m) = 45 :: TL.numL (m + 1) := by
  unfold digs
  show TL.tl (Str.ofString (toString (Int.negSucc m))) = _
  rw [TL.tl_ofString]
  show (("-" ++ Nat.repr (m + 1) : String)).toList.map Char.toNat = _
  rw [String.toList_append, List.map_append, Nat.toList_repr]
  rfl
end
end K46
/-! PL21: the plain law: repr is never stuck; its signs and its length. -/
namespace K46
open L3
open PySem.Builtin.Str (reprChar)
theorem rc_all : ∀ c < 128, (reprChar 39 c).all (· < 128) = true ∧ (reprChar 34 c).all (· < 128) = true ∧ (reprChar 39 c).length ≤ 10 ∧ (reprChar 34 c).length ≤ 10 := by decide +kernel
theorem quo_two (l : List Nat) : quo l = 34 ∨ quo l = 39 := by
  unfold quo
  split
  · exact .inl rfl
  · exact .inr rfl
theorem rc_q {q c : Nat} (hq : q = 34 ∨ q = 39) (hc : c < 128) : (reprChar q c).all (· < 128) = true ∧ (reprChar q c).length ≤ 10 := by
  have := rc_all c hc
  rcases hq with rfl | rfl
  · exact ⟨this.2.1, this.2.2.2⟩
  · exact ⟨this.1, this.2.2.1⟩
theorem flat_len {q : Nat} (hq : q = 34 ∨ q = 39) : ∀ {l : List Nat}, l.all (· < 128) = true → (l.flatMap (reprChar q)).length ≤ 10 * l.length ∧ (l.flatMap (reprChar q)).all (· < 128) = true
  | [], _ => by simp
  | c :: l, h => by
    simp only [List.all_cons, Bool.and_eq_true, decide_eq_true_eq] at h
    have h1 := rc_q hq h.1
    have h2 := flat_len hq (l := l) h.2
    rw [List.flatMap_cons, List.length_append, List.all_append, h1.1, h2.2]
    refine ⟨?_, rfl⟩
    have := h1.2
    have := h2.1
    simp only [List.length_cons]
    omega
theorem dch : ∀ d < 10, (Nat.digitChar d).toNat = 48 + d := by decide
theorem num_all (n : Nat) : (TL.numL n).all (fun c => decide (48 ≤ c) && decide (c ≤ 57)) = true := by
  simp only [List.all_eq_true, Bool.and_eq_true, decide_eq_true_eq]
  intro c hc
  unfold TL.numL at hc
  obtain ⟨ch, hch, rfl⟩ := List.mem_map.mp hc
  have := PyProof.Rows.digit_range (Nat.isDigit_of_mem_toDigits (by decide) (by decide) hch)
  exact this
theorem num_len {n k : Nat} (hk : 1 ≤ k) (h : n < 10 ^ k) : (TL.numL n).length ≤ k := by
  unfold TL.numL
  rw [List.length_map]
  exact PyProof.Rows.digits10_le hk h
theorem num_inj {m n : Nat} (h : TL.numL m = TL.numL n) : m = n := by
  have h1 := PySem.W.KIN.val_back m
  have h2 := PySem.W.KIN.val_back n
  unfold TL.numL at h
  rw [h] at h1
  exact h1.symm.trans h2
def signD (c : Nat) : Bool := c == 45 || (decide (48 ≤ c) && decide (c ≤ 57))
theorem digs_all (i : Int) : (digs i).all signD = true := by
  have base : ∀ n, (TL.numL n).all signD = true := by
    intro n
    have := num_all n
    simp only [List.all_eq_true] at this ⊢
    intro x hx
    have := this x hx
    simp only [signD, this, Bool.or_true]
  cases i with
  | ofNat m => rw [show digs (Int.ofNat m) = TL.numL m from digs_nat m]; exact base m
  | negSucc m => rw [digs_neg]; simp only [List.all_cons, base, Bool.and_true]; rfl
theorem num_ne (n : Nat) : TL.numL n ≠ [] := by
  intro e
  unfold TL.numL at e
  have h := PySem.toDigits_len_ge 10 n
  rw [List.map_eq_nil_iff.mp e] at h
  exact absurd h (by decide)
theorem digs_ne (i : Int) : digs i ≠ [] := by
  cases i with
  | ofNat m => rw [show digs (Int.ofNat m) = TL.numL m from digs_nat m]; exact num_ne m
  | negSucc m => rw [digs_neg]; simp
theorem digs_len {i : Int} (h : i.natAbs < 10 ^ 40) : (digs i).length ≤ 41 := by
  cases i with
  | ofNat m =>
    rw [show digs (Int.ofNat m) = TL.numL m from digs_nat m]
    have := num_len (k := 40) (by decide) (show m < 10 ^ 40 from h)
    omega
  | negSucc m =>
    rw [digs_neg]
    have := num_len (k := 40) (by decide) (show m + 1 < 10 ^ 40 from h)
    simp only [List.length_cons]
    omega
theorem digs_inj {i j : Int} (h : digs i = digs j) : i = j := by
  have hd : ∀ n m, TL.numL n ≠ 45 :: TL.numL m := by
    intro n m z
    have := num_all n
    rw [z] at this
    simp at this
  cases i with
  | ofNat m =>
    rw [show digs (Int.ofNat m) = TL.numL m from digs_nat m] at h
    cases j with
    | ofNat n =>
      rw [show digs (Int.ofNat n) = TL.numL n from digs_nat n] at h
      rw [num_inj h]
    | negSucc n => rw [digs_neg] at h; exact absurd h (hd _ _)
  | negSucc m =>
    rw [digs_neg] at h
    cases j with
    | ofNat n =>
      rw [show digs (Int.ofNat n) = TL.numL n from digs_nat n] at h
      exact absurd h.symm (hd _ _)
    | negSucc n =>
      rw [digs_neg] at h
      injection h with _ h
      have := num_inj h
      have : m = n := by omega
      rw [this]
theorem digs_128 (i : Int) : (digs i).all (· < 128) = true := by
  have := digs_all i
  simp only [List.all_eq_true, signD, Bool.or_eq_true, beq_iff_eq, Bool.and_eq_true, decide_eq_true_eq] at this ⊢
  intro x hx
  have := this x hx
  omega
theorem join_len (S : List Nat) (hS : S.length = 2) : ∀ ps : List (List Nat), (TL.joinL S ps).length ≤ (ps.map fun p => p.length + 2).sum
  | [] => by simp [TL.joinL]
  | [p] => by simp [TL.joinL]
  | p :: q :: r => by
    have := join_len S hS (q :: r)
    simp only [TL.joinL, List.length_append, hS, List.map_cons, List.sum_cons] at this ⊢
    omega
theorem join_all (f : Nat → Bool) (S : List Nat) (hS : S.all f = true) : ∀ ps : List (List Nat), (∀ p ∈ ps, p.all f = true) → (TL.joinL S ps).all f = true
  | [], _ => by simp [TL.joinL]
  | [p], h => by simp only [TL.joinL]; exact h p (List.mem_cons_self ..)
  | p :: q :: r, h => by
    have := join_all f S hS (q :: r) fun x hx => h x (List.mem_cons_of_mem _ hx)
    simp only [TL.joinL, List.all_append, this, hS, h p (List.mem_cons_self ..), Bool.and_self]
theorem tailT_len (n : Nat) : (tailT n).length ≤ 2 ∧ (tailT n).all (· < 128) = true := by
  unfold tailT
  split <;> simp
theorem dct1_shown : shownL (.dct [aKey] [.int 1]) = [123, 39, 97, 39, 58, 32, 49, 125] := by decide +kernel
theorem dct0_shown : shownL (.dct [] []) = [123, 125] := by decide +kernel
theorem ga_dct {ks : List L2.Key} {l : List Val} (h : ga (.dct ks l) = true) : (ks = [] ∧ l = []) ∨ (ks = [aKey] ∧ l = [.int 1]) := by
  simp only [ga, Bool.or_eq_true, Bool.and_eq_true, decide_eq_true_eq] at h
  rcases h with h | h
  · exact .inl ⟨h.1, by simpa using h.2⟩
  · refine .inr ⟨h.1, ?_⟩
    have h2 := h.2
    split at h2
    · rfl
    · cases h2
mutual
theorem shown_ok : ∀ v, ga v = true → (shownL v).length ≤ wt v ∧ (shownL v).all (· < 128) = true
  | .non, _ => by decide +kernel
  | .bl true, _ => by decide +kernel
  | .bl false, _ => by decide +kernel
  | .int i, h => by
    simp only [ga, decide_eq_true_eq] at h
    have := digs_len h
    exact ⟨by rw [shown_int]; simp only [wt]; omega, digs_128 i⟩
  | .str l, h => by
    have := flat_len (quo_two l) (l := l) h
    rw [shown_str]
    simp only [List.length_cons, List.length_append, List.length_nil, wt, List.all_cons, List.all_append, List.all_nil, this.2, Bool.and_true]
    refine ⟨by omega, ?_⟩
    rcases quo_two l with z | z <;> rw [z] <;> rfl
  | .tup l, h => by
    simp only [ga] at h
    have := shown_oks l h
    have h2 := join_len [44, 32] rfl (l.map shownL)
    have h3 := join_all (· < 128) [44, 32] rfl (l.map shownL) this.2
    have h4 := tailT_len l.length
    rw [shown_tup]
    simp only [List.length_cons, List.length_append, wt, List.all_cons, List.all_append, h3, h4.2, Bool.and_true]
    refine ⟨?_, by decide⟩
    have := this.1
    omega
  | .lst l, h => by
    simp only [ga] at h
    have := shown_oks l h
    have h2 := join_len [44, 32] rfl (l.map shownL)
    have h3 := join_all (· < 128) [44, 32] rfl (l.map shownL) this.2
    rw [shown_lst]
    simp only [List.length_cons, List.length_append, List.length_nil, wt, List.all_cons, List.all_append, List.all_nil, h3, Bool.and_true]
    refine ⟨?_, by decide⟩
    have := this.1
    omega
  | .dct ks l, h => by
    rcases ga_dct h with ⟨rfl, rfl⟩ | ⟨rfl, rfl⟩
    · rw [dct0_shown]; decide
    · rw [dct1_shown]; decide
  | .rf _, h | .ktup _, h | .scr _, h => by simp [ga] at h
theorem shown_oks : ∀ l, gas l = true → ((l.map shownL).map fun p => p.length + 2).sum ≤ wts l ∧ ∀ p ∈ l.map shownL, p.all (· < 128) = true
  | [], _ => by simp [wts]
  | v :: l, h => by
    simp only [gas, Bool.and_eq_true] at h
    have h1 := shown_ok v h.1
    have h2 := shown_oks l h.2
    simp only [List.map_cons, List.sum_cons, wts]
    refine ⟨by have := h1.1; have := h2.1; omega, fun p hp => ?_⟩
    rcases List.mem_cons.mp hp with e | e
    · rw [e]; exact h1.2
    · exact h2.2 p e
end
mutual
theorem showable_ok : ∀ v, ga v = true → (toPy v).showable = true
  | .non, _ | .bl _, _ | .str _, _ => by simp only [toPy, PySem.PyData.showable]
  | .int i, h => by
    simp only [ga, decide_eq_true_eq] at h
    simp only [toPy, PySem.PyData.showable, decide_eq_true_eq]
    exact log_small (Nat.lt_of_lt_of_le h (by decide))
  | .tup l, h => by simp only [ga] at h; simp only [toPy, PySem.PyData.showable]; exact showable_oks l h
  | .lst l, h => by simp only [ga] at h; simp only [toPy, PySem.PyData.showable]; exact showable_oks l h
  | .dct ks l, h => by
    rcases ga_dct h with ⟨rfl, rfl⟩ | ⟨rfl, rfl⟩
    · decide +kernel
    · decide +kernel
  | .rf _, h | .ktup _, h | .scr _, h => by simp [ga] at h
theorem showable_oks : ∀ l, gas l = true → PySem.PyData.showableAll (toPys l) = true
  | [], _ => by simp only [toPys, PySem.PyData.showableAll]
  | v :: l, h => by
    simp only [gas, Bool.and_eq_true] at h
    simp only [toPys, PySem.PyData.showableAll, Bool.and_eq_true]
    exact ⟨showable_ok v h.1, showable_oks l h.2⟩
end
mutual
theorem depth_ok : ∀ v, ga v = true → (toPy v).depth = dep v
  | .non, _ | .bl _, _ | .str _, _ | .int _, _ => by simp only [toPy, PySem.PyData.depth, dep]
  | .tup l, h => by simp only [ga] at h; simp only [toPy, PySem.PyData.depth, dep]; rw [depth_oks l h]
  | .lst l, h => by simp only [ga] at h; simp only [toPy, PySem.PyData.depth, dep]; rw [depth_oks l h]
  | .dct ks l, h => by
    rcases ga_dct h with ⟨rfl, rfl⟩ | ⟨rfl, rfl⟩
    · decide +kernel
    · decide +kernel
  | .rf _, h | .ktup _, h | .scr _, h => by simp [ga] at h
theorem depth_oks : ∀ l, gas l = true → PySem.PyData.depthAll (toPys l) = deps l
  | [], _ => by simp only [toPys, PySem.PyData.depthAll, deps]
  | v :: l, h => by
    simp only [gas, Bool.and_eq_true] at h
    simp only [toPys, PySem.PyData.depthAll, deps]
    rw [depth_ok v h.1, depth_oks l h.2]
end
/-- the law's values, with the bounds that repr asks -/
structure Gd (v : Val) : Prop where
  a : ga v = true
  w : wt v ≤ 200000
  d : dep v ≤ 50
theorem Gd.ok {v : Val} (h : Gd v) : OK v := ⟨ga_gd v h.a, Nat.le_trans h.w (by decide)⟩
theorem gRepr_ok {v : Val} (h : Gd v) (S : Store) : gRepr v S = .ok (.str (shownL v)) S := by
  have h1 := gd_D v (ga_gd v h.a)
  have h2 := showable_ok v h.a
  have h3 := depth_ok v h.a
  have h4 := (shown_ok v h.a).1
  have hw := h.w
  have hd := h.d
  rw [gRepr, if_pos]
  simp only [h1, h2, h3, Bool.true_and, Bool.and_eq_true, decide_eq_true_eq]
  omega
theorem gd_shown {v : Val} (h : Gd v) : gd (.str (shownL v)) = true := by
  have := (shown_ok v h.a).2
  simp only [gd, List.all_eq_true, decide_eq_true_eq] at this ⊢
  intro x hx
  have := this x hx
  omega
end K46
/-! PL22: the plain law: repr tells certificates apart. -/
namespace K46
open L3
open PySem.Builtin.Str (reprChar)
/-- words of plain letters and blanks -/
def plainW (w : List Nat) : Bool := w.all fun c => c == 32 || (decide (97 ≤ c) && decide (c ≤ 122))
/-- what a certificate holds -/
def dueV : Val → Bool
  | .int _ => true
  | .str w => plainW w
  | _ => false
theorem rc_plain : ∀ c < 128, (c == 32 || (decide (97 ≤ c) && decide (c ≤ 122))) = true → reprChar 39 c = [c] := by decide +kernel
theorem rc_head (x : Nat) : (reprChar 39 x = [x] ∧ x ≠ 39 ∧ x ≠ 92) ∨ ∃ r, reprChar 39 x = 92 :: r := by
  unfold reprChar
  dsimp only
  split
  · exact .inr ⟨_, rfl⟩
  split
  · exact .inr ⟨_, rfl⟩
  split
  · exact .inr ⟨_, rfl⟩
  split
  · exact .inr ⟨_, rfl⟩
  rename_i h _ _ _
  simp only [Bool.or_eq_true, beq_iff_eq, not_or] at h
  split
  · exact .inl ⟨rfl, h.1, h.2⟩
  split
  · exact .inr ⟨_, rfl⟩
  split
  · exact .inr ⟨_, rfl⟩
  · exact .inr ⟨_, rfl⟩
theorem flat_plain : ∀ {w : List Nat}, plainW w = true → w.flatMap (reprChar 39) = w
  | [], _ => rfl
  | c :: w, h => by
    simp only [plainW, List.all_cons, Bool.and_eq_true] at h
    have hc : c < 128 := by
      have := h.1
      simp only [Bool.or_eq_true, beq_iff_eq, Bool.and_eq_true, decide_eq_true_eq] at this
      omega
    rw [List.flatMap_cons, rc_plain c hc h.1, flat_plain (w := w) h.2]
    rfl
theorem plain_ne {c : Nat} (h : (c == 32 || (decide (97 ≤ c) && decide (c ≤ 122))) = true) : c ≠ 39 ∧ c ≠ 92 ∧ c ≠ 34 := by
  simp only [Bool.or_eq_true, beq_iff_eq, Bool.and_eq_true, decide_eq_true_eq] at h
  omega
theorem quo_plain {w : List Nat} (h : plainW w = true) : quo w = 39 := by
  unfold quo
  have : w.contains 39 = false := by
    rw [List.contains_eq_any_beq]
    rw [List.any_eq_false]
    intro x hx z
    simp only [plainW, List.all_eq_true] at h
    have := plain_ne (h x hx)
    simp only [beq_iff_eq] at z
    exact this.1 z.symm
  rw [this]
  rfl
theorem str_inj : ∀ (u w r r' : List Nat), plainW w = true → u.flatMap (reprChar 39) ++ 39 :: r = w ++ 39 :: r' → u = w ∧ r = r'
  | [], [], r, r', _, h => by simpa using h
  | [], c :: w, r, r', hw, h => by
    simp only [plainW, List.all_cons, Bool.and_eq_true] at hw
    simp only [List.flatMap_nil, List.nil_append, List.cons_append, List.cons.injEq] at h
    exact absurd h.1.symm (plain_ne hw.1).1
  | x :: u, [], r, r', _, h => by
    rw [List.flatMap_cons] at h
    rcases rc_head x with ⟨e, h1, _⟩ | ⟨s, e⟩
    · rw [e] at h
      simp only [List.cons_append, List.nil_append, List.cons.injEq] at h
      exact absurd h.1 h1
    · rw [e] at h
      simp only [List.cons_append, List.nil_append, List.cons.injEq] at h
      exact absurd h.1 (by decide)
  | x :: u, c :: w, r, r', hw, h => by
    simp only [plainW, List.all_cons, Bool.and_eq_true] at hw
    rw [List.flatMap_cons] at h
    rcases rc_head x with ⟨e, h1, _⟩ | ⟨s, e⟩
    · rw [e] at h
      simp only [List.cons_append, List.nil_append, List.cons.injEq] at h
      have := str_inj u w r r' hw.2 h.2
      exact ⟨by rw [h.1, this.1], this.2⟩
    · rw [e] at h
      simp only [List.cons_append, List.nil_append, List.cons.injEq] at h
      exact absurd h.1.symm (plain_ne hw.1).2.1
/-- the first sign -/
def fst (v : Val) : Nat := (shownL v).headD 0
theorem fst_eq {v : Val} {c : Nat} {l : List Nat} (h : shownL v = c :: l) : fst v = c := by unfold fst; rw [h]; rfl
theorem fst_int (i : Int) : signD (fst (.int i)) = true := by
  unfold fst
  rw [shown_int]
  have h1 := digs_all i
  have h2 := digs_ne i
  cases h : digs i with
  | nil => exact absurd h h2
  | cons c l => rw [h] at h1; simp only [List.all_cons, Bool.and_eq_true] at h1; exact h1.1
theorem fst_str (l : List Nat) : fst (.str l) = quo l := fst_eq (shown_str l)
theorem fst_tup (l : List Val) : fst (.tup l) = 40 := fst_eq (shown_tup l)
theorem fst_lst (l : List Val) : fst (.lst l) = 91 := fst_eq (shown_lst l)
theorem fst_non : fst .non = 78 := by decide +kernel
theorem fst_bl (b : Bool) : fst (.bl b) = 84 ∨ fst (.bl b) = 70 := by cases b <;> decide +kernel
theorem fst_dct {ks : List L2.Key} {l : List Val} (h : ga (.dct ks l) = true) : fst (.dct ks l) = 123 := by
  rcases ga_dct h with ⟨rfl, rfl⟩ | ⟨rfl, rfl⟩
  · exact fst_eq dct0_shown
  · exact fst_eq dct1_shown
theorem shown_ne {v : Val} (h : ga v = true) : shownL v = fst v :: (shownL v).tail := by
  unfold fst
  have : shownL v ≠ [] := by
    cases v with
    | non => decide +kernel
    | bl b => cases b <;> decide +kernel
    | int i => exact digs_ne i
    | str l => rw [shown_str]; simp
    | tup l => rw [shown_tup]; simp
    | lst l => rw [shown_lst]; simp
    | dct ks l =>
      rcases ga_dct h with ⟨rfl, rfl⟩ | ⟨rfl, rfl⟩
      · rw [dct0_shown]; simp
      · rw [dct1_shown]; simp
    | _ => simp [ga] at h
  cases hh : shownL v with
  | nil => exact absurd hh this
  | cons c l => rfl
/-- what stands behind an item -/
def stop (r : List Nat) : Prop := ∃ c l, r = c :: l ∧ (c = 44 ∨ c = 41)
theorem digs_split : ∀ (a b r r' : List Nat), a.all signD = true → b.all signD = true → stop r → stop r' → a ++ r = b ++ r' → a = b ∧ r = r'
  | [], [], r, r', _, _, _, _, h => by simpa using h
  | [], c :: b, r, r', _, hb, hr, _, h => by
    obtain ⟨x, l, rfl, hx⟩ := hr
    simp only [List.nil_append, List.cons_append, List.cons.injEq] at h
    simp only [List.all_cons, Bool.and_eq_true] at hb
    rw [← h.1] at hb
    rcases hx with rfl | rfl <;> simp [signD] at hb
  | c :: a, [], r, r', ha, _, _, hr, h => by
    obtain ⟨x, l, rfl, hx⟩ := hr
    simp only [List.nil_append, List.cons_append, List.cons.injEq] at h
    simp only [List.all_cons, Bool.and_eq_true] at ha
    rw [h.1] at ha
    rcases hx with rfl | rfl <;> simp [signD] at ha
  | c :: a, d :: b, r, r', ha, hb, hr, hr', h => by
    simp only [List.cons_append, List.cons.injEq] at h
    simp only [List.all_cons, Bool.and_eq_true] at ha hb
    have := digs_split a b r r' ha.2 hb.2 hr hr' h.2
    exact ⟨by rw [h.1, this.1], this.2⟩
theorem item_inj {v d : Val} {r r' : List Nat} (hv : ga v = true) (hd : dueV d = true) (hr : stop r) (hr' : stop r') (h : shownL v ++ r = shownL d ++ r') : v = d ∧ r = r' := by
  have hga : ga d = true ∨ True := .inr trivial
  have hf : fst v = (shownL d ++ r').headD 0 := by
    rw [← h, shown_ne hv]
    rfl
  cases d with
  | int j =>
    have hs : signD (fst v) = true := by
      rw [hf]
      have := fst_int j
      unfold fst at this
      rw [shown_int] at this ⊢
      cases hh : digs j with
      | nil => exact absurd hh (digs_ne j)
      | cons c l => rw [hh] at this; exact this
    cases v with
    | int i =>
      rw [shown_int, shown_int] at h
      have := digs_split _ _ _ _ (digs_all i) (digs_all j) hr hr' h
      exact ⟨by rw [digs_inj this.1], this.2⟩
    | non => rw [fst_non] at hs; cases hs
    | bl b => rcases fst_bl b with z | z <;> rw [z] at hs <;> cases hs
    | str l => rw [fst_str] at hs; rcases quo_two l with z | z <;> rw [z] at hs <;> cases hs
    | tup l => rw [fst_tup] at hs; cases hs
    | lst l => rw [fst_lst] at hs; cases hs
    | dct ks l => rw [fst_dct hv] at hs; cases hs
    | _ => simp [ga] at hv
  | str w =>
    have hw : plainW w = true := hd
    rw [shown_str, quo_plain hw, flat_plain hw] at h hf
    have hf : fst v = 39 := hf
    cases v with
    | str l =>
      rw [fst_str] at hf
      rw [shown_str, hf] at h
      simp only [List.cons_append, List.cons.injEq, true_and, List.append_assoc, List.nil_append] at h
      have := str_inj _ _ _ _ hw h
      exact ⟨by rw [this.1], this.2⟩
    | int i => have := fst_int i; rw [hf] at this; cases this
    | non => rw [fst_non] at hf; cases hf
    | bl b => rcases fst_bl b with z | z <;> rw [z] at hf <;> cases hf
    | tup l => rw [fst_tup] at hf; cases hf
    | lst l => rw [fst_lst] at hf; cases hf
    | dct ks l => rw [fst_dct hv] at hf; cases hf
    | _ => simp [ga] at hv
  | _ => simp [dueV] at hd
theorem due_fst {d : Val} (hd : dueV d = true) : ∃ c l, shownL d = c :: l ∧ (c = 39 ∨ signD c = true) := by
  cases d with
  | int j =>
    have := fst_int j
    unfold fst at this
    rw [shown_int] at this ⊢
    cases hh : digs j with
    | nil => exact absurd hh (digs_ne j)
    | cons c l => rw [hh] at this; exact ⟨c, l, rfl, .inr this⟩
  | str w =>
    have hw : plainW w = true := hd
    exact ⟨_, _, by rw [shown_str, quo_plain hw], .inl rfl⟩
  | _ => simp [dueV] at hd
theorem items_inj : ∀ (l ds : List Val) (t : List Nat), gas l = true → (∀ d ∈ ds, dueV d = true) → l ≠ [] → ds ≠ [] → (t = [41] ∨ t = [44, 41]) → TL.joinL [44, 32] (l.map shownL) ++ t = TL.joinL [44, 32] (ds.map shownL) ++ [41] → l = ds
  | [], _, _, _, _, h, _, _, _ => absurd rfl h
  | _, [], _, _, _, _, h, _, _ => absurd rfl h
  | [a], [d], t, hl, hd, _, _, ht, h => by
    simp only [gas, Bool.and_true] at hl
    simp only [List.map_cons, List.map_nil, TL.joinL] at h
    have hs : stop t := by rcases ht with rfl | rfl; exact ⟨41, _, rfl, .inr rfl⟩; exact ⟨44, _, rfl, .inl rfl⟩
    have := item_inj hl (hd d (List.mem_cons_self ..)) hs ⟨41, _, rfl, .inr rfl⟩ h
    rw [this.1]
  | [a], d :: d2 :: ds, t, hl, hd, _, _, ht, h => by
    simp only [gas, Bool.and_true] at hl
    simp only [List.map_cons, List.map_nil, TL.joinL, List.append_assoc] at h
    have hs : stop t := by rcases ht with rfl | rfl; exact ⟨41, _, rfl, .inr rfl⟩; exact ⟨44, _, rfl, .inl rfl⟩
    have := item_inj hl (hd d (List.mem_cons_self ..)) hs ⟨44, _, rfl, .inl rfl⟩ h
    rcases ht with rfl | rfl
    · have := this.2
      simp at this
    · have := this.2
      simp at this
  | a :: b :: l, [d], t, hl, hd, _, _, ht, h => by
    simp only [gas, Bool.and_eq_true] at hl
    simp only [List.map_cons, List.map_nil, TL.joinL, List.append_assoc] at h
    have := item_inj hl.1 (hd d (List.mem_cons_self ..)) ⟨44, _, rfl, .inl rfl⟩ ⟨41, _, rfl, .inr rfl⟩ h
    have := this.2
    simp at this
  | a :: b :: l, d :: d2 :: ds, t, hl, hd, _, _, ht, h => by
    have hl0 := hl
    simp only [gas, Bool.and_eq_true] at hl
    simp only [List.map_cons, TL.joinL, List.append_assoc] at h
    have hi := item_inj hl.1 (hd d (List.mem_cons_self ..)) ⟨44, _, rfl, .inl rfl⟩ ⟨44, _, rfl, .inl rfl⟩ h
    have h2 := hi.2
    have h2 : (32 : Nat) :: (TL.joinL [44, 32] ((b :: l).map shownL) ++ t) = 32 :: (TL.joinL [44, 32] ((d2 :: ds).map shownL) ++ [41]) := by
      injection h2
    injection h2 with _ h2
    have hg : gas (b :: l) = true := by simp only [gas, Bool.and_eq_true]; exact hl.2
    have := items_inj (b :: l) (d2 :: ds) t hg (fun x hx => hd x (List.mem_cons_of_mem _ hx)) (by simp) (by simp) ht h2
    rw [hi.1, this]
/-- a certificate's text is no other value's -/
theorem due_inj {v : Val} {ds : List Val} (hv : ga v = true) (hd : ∀ d ∈ ds, dueV d = true) (hn : 2 ≤ ds.length) (h : shownL v = shownL (.tup ds)) : v = .tup ds := by
  have hf : fst v = 40 := by unfold fst; rw [h]; exact fst_tup ds
  cases v with
  | tup l =>
    rw [shown_tup, shown_tup] at h
    simp only [List.cons.injEq, true_and] at h
    have ht : tailT ds.length = [41] := by
      unfold tailT
      rw [if_neg]
      simp; omega
    rw [ht] at h
    have hds : ds ≠ [] := by intro z; rw [z] at hn; simp at hn
    cases l with
    | nil =>
      exfalso
      cases ds with
      | nil => exact hds rfl
      | cons d ds =>
        obtain ⟨c, r, e, hc⟩ := due_fst (hd d (List.mem_cons_self ..))
        cases ds with
        | nil => simp at hn
        | cons d2 ds =>
          simp only [List.map_nil, TL.joinL, List.map_cons, e, List.nil_append, List.cons_append, tailT] at h
          simp at h
          all_goals
            rcases hc with rfl | hc
            · exact absurd h.1 (by decide)
            · rw [← h.1] at hc
              cases hc
    | cons a l =>
      have htt : tailT (a :: l).length = [41] ∨ tailT (a :: l).length = [44, 41] := by
        unfold tailT
        split
        · exact .inr rfl
        · exact .inl rfl
      have := items_inj (a :: l) ds _ (by simpa only [ga] using hv) hd (by simp) hds htt h
      rw [this]
  | int i => have := fst_int i; rw [hf] at this; cases this
  | non => rw [fst_non] at hf; cases hf
  | bl b => rcases fst_bl b with z | z <;> rw [z] at hf <;> cases hf
  | str l => rw [fst_str] at hf; rcases quo_two l with z | z <;> rw [z] at hf <;> cases hf
  | lst l => rw [fst_lst] at hf; cases hf
  | dct ks l => rw [fst_dct hv] at hf; cases hf
  | _ => simp [ga] at hv
end K46
/-! PL23: the plain law: the program's answers about a value. -/
namespace K46
open L3
theorem ansWord_plain (ac : Option (Bool × List Nat)) (bg : Bool) (a : An) (f : List Nat) : plainW (ansWord ac bg a f) = true := by
  unfold ansWord
  repeat' split
  all_goals decide
theorem wordOf_plain (p : List En) (e : En) : plainW (wordOf p e) = true := by
  cases e with
  | gone c => rfl
  | acc c n o b =>
    simp only [wordOf]
    repeat' split
    all_goals decide
  | beg c n s m =>
    simp only [wordOf]
    repeat' split
    all_goals decide
  | ans c n a f =>
    simp only [wordOf]
    split
    · decide
    split
    · decide
    split
    · decide
    exact ansWord_plain _ _ _ _
theorem ansWord_short (ac : Option (Bool × List Nat)) (bg : Bool) (a : An) (f : List Nat) : (ansWord ac bg a f).length ≤ 20 := by
  unfold ansWord
  repeat' split
  all_goals decide
theorem wordOf_short (p : List En) (e : En) : (wordOf p e).length ≤ 20 := by
  cases e with
  | gone c => simp [wordOf]
  | acc c n o b =>
    simp only [wordOf]
    repeat' split
    all_goals decide
  | beg c n s m =>
    simp only [wordOf]
    repeat' split
    all_goals decide
  | ans c n a f =>
    simp only [wordOf]
    split
    · decide
    split
    · decide
    split
    · decide
    exact ansWord_short _ _ _ _
theorem judgeGo_some : ∀ (r q : List En) {k : Nat} {w : List Nat}, judgeGo q r = some (k, w) → plainW w = true ∧ w.length ≤ 20 ∧ k ≤ q.length + r.length
  | [], q, k, w, h => by simp [judgeGo] at h
  | e :: r, q, k, w, h => by
    simp only [judgeGo] at h
    split at h
    · have := judgeGo_some r (q ++ [e]) h
      refine ⟨this.1, this.2.1, ?_⟩
      have := this.2.2
      simp at this ⊢
      omega
    · cases h
      exact ⟨wordOf_plain _ _, wordOf_short _ _, by omega⟩
/-- a certificate's form -/
theorem due_form (es : List En) (hz : es.length ≤ 100000) : (∃ k w, dueOf es = .tup [.str [98, 114, 111, 107, 101, 110], .int (k : Nat), .str w] ∧ plainW w = true ∧ w.length ≤ 20 ∧ k ≤ 100000) ∨ ∃ n, dueOf es = .tup [.str [107, 101, 112, 116], .int (n : Nat)] ∧ n ≤ 100000 := by
  cases h : judgeGo [] es with
  | some x =>
    obtain ⟨k, w⟩ := x
    have := judgeGo_some es [] h
    refine .inl ⟨k, w, by simp [dueOf, h], this.1, this.2.1, ?_⟩
    have := this.2.2
    simp at this
    omega
  | none =>
    refine .inr ⟨(es.filter isAns).length, by simp only [dueOf, h], ?_⟩
    have := List.length_filter_le isAns es
    omega
theorem plain_128 {w : List Nat} (h : plainW w = true) : w.all (· < 128) = true := by
  simp only [plainW, List.all_eq_true, Bool.or_eq_true, beq_iff_eq, Bool.and_eq_true, decide_eq_true_eq] at h ⊢
  intro x hx
  have := h x hx
  omega
theorem due_gd (es : List En) (hz : es.length ≤ 100000) : Gd (dueOf es) := by
  rcases due_form es hz with ⟨k, w, e, h1, h2, h3⟩ | ⟨n, e, h3⟩
  · rw [e]
    refine ⟨?_, ?_, by simp [dep, deps]⟩
    · have hk : ((k : Int)).natAbs < 10 ^ 40 := by simp; omega
      have := plain_128 h1
      simp only [ga, gas, Bool.and_true, Bool.and_eq_true, decide_eq_true_eq]
      exact ⟨by decide, hk, this⟩
    · simp only [wt, wts, List.length_cons, List.length_nil]
      omega
  · rw [e]
    refine ⟨?_, ?_, by simp [dep, deps]⟩
    · have hk : ((n : Int)).natAbs < 10 ^ 40 := by simp; omega
      simp only [ga, gas, Bool.and_true, Bool.and_eq_true, decide_eq_true_eq]
      exact ⟨by decide, hk⟩
    · simp only [wt, wts, List.length_cons, List.length_nil]
      omega
theorem due_items (es : List En) (hz : es.length ≤ 100000) : ∃ ds, dueOf es = .tup ds ∧ (∀ d ∈ ds, dueV d = true) ∧ (ds.length = 2 ∨ ds.length = 3) := by
  rcases due_form es hz with ⟨k, w, e, h1, h2, h3⟩ | ⟨n, e, h3⟩
  · refine ⟨_, e, ?_, .inr rfl⟩
    intro d hd
    simp only [List.mem_cons, List.not_mem_nil, or_false] at hd
    rcases hd with rfl | rfl | rfl
    · decide
    · rfl
    · exact h1
  · refine ⟨_, e, ?_, .inl rfl⟩
    intro d hd
    simp only [List.mem_cons, List.not_mem_nil, or_false] at hd
    rcases hd with rfl | rfl
    · decide
    · rfl
theorem veqs_due : ∀ {l ds : List Val}, (∀ d ∈ ds, dueV d = true) → l.any isBlB = false → (veqs l ds = true ↔ l = ds)
  | [], [], _, _ => by simp [veqs]
  | [], _ :: _, _, _ => by simp [veqs]
  | _ :: _, [], _, _ => by simp [veqs]
  | v :: l, d :: ds, hd, hb => by
    simp only [List.any_cons, Bool.or_eq_false_iff] at hb
    have ih := veqs_due (l := l) (ds := ds) (fun x hx => hd x (List.mem_cons_of_mem _ hx)) hb.2
    have h1 := hd d (List.mem_cons_self ..)
    simp only [veqs, Bool.and_eq_true, ih, List.cons.injEq]
    have : veq v d = true ↔ v = d := by
      have h2 := hb.1
      cases d <;> simp only [dueV] at h1 <;> try (cases h1; done)
      all_goals
        cases v <;> simp_all [veq, isBlB]
    rw [this]
theorem due_notbl : ∀ {ds : List Val}, (∀ d ∈ ds, dueV d = true) → ds.any isBlB = false
  | [], _ => rfl
  | d :: ds, h => by
    have h1 := h d (List.mem_cons_self ..)
    simp only [List.any_cons, due_notbl (fun x hx => h x (List.mem_cons_of_mem _ hx)), Bool.or_false]
    cases d <;> simp [dueV, isBlB] at h1 ⊢
theorem rising2 (S : Store) : f_are_rising [.lst [.int 0, .int 2]] S = .ok (.bl true) S := Fb_val (by rfl)
theorem rising3 (S : Store) : f_are_rising [.lst [.int 0, .int 3]] S = .ok (.bl true) S := Fb_val (by rfl)
theorem any_blV (f : Val → Bool) (l : List Val) (S : Store) : gAny (.lst (l.map fun c => Val.bl (f c))) S = .ok (.bl (l.any f)) S := by
  have e : (l.map fun c => Val.bl (f c)) = (l.map f).map Val.bl := by simp
  rw [e, bools_any]
  simp [List.any_map]
theorem lc_bools {ρ : Sl} {S : Store} {l : List Val} (hd : isDs l = true) (h1 : ρ[1]? = some (some (.tup l))) (hj : ρ.length = 4) (hz : l.length ≤ 16777216) :
    mLc 3 (mIter (mVar 1)) tYesT (mCall f_is_bool [(mVar 3)]) ρ S = .ok (.lst (l.map fun v => .bl (isBlB v))) S := by
  have hjj : ∀ v, ((wipeR ρ [3]).set 3 (some v))[3]? = some (some v) := by
    intro v
    simp [wipeR, hj]
  refine lc_map (l := l) (by simp [h1, itemsOf]) (fun v hv => ?_) hz
  have hm : ∀ {l : List Val}, isDs l = true → ∀ v ∈ l, isD v = true := by
    intro l
    induction l with
    | nil => intro _ v hv; cases hv
    | cons u l ih =>
      intro h v hv
      simp only [isDs, Bool.and_eq_true] at h
      rcases List.mem_cons.mp hv with e | e
      · rw [e]; exact h.1
      · exact ih h.2 v e
  simp [hjj, f_is_bool_eq (hm hd v hv)]
theorem certificate_eq {es : List En} (hz : es.length ≤ 100000) (hok : ∀ e ∈ es, e.ok = true) {S : Store} (hS : S.all (closedO S.length) = true) {v : Val} (hv : Gd v) :
    f_is_certificate [.tup (es.map En.val), v] S = .ok (.bl (shownL v == shownL (dueOf es))) S := by
  have hj := judged_eq hz hok hS
  obtain ⟨ds, e, hd, hn⟩ := due_items es hz
  have hdg := due_gd es hz
  rw [e] at hj hdg ⊢
  have key : (shownL v == shownL (.tup ds)) = true ↔ v = .tup ds := by
    rw [beq_iff_eq]
    refine ⟨fun h => due_inj hv.a hd (by omega) h, fun h => by rw [h]⟩
  have kf : (∀ l, v ≠ .tup l) → (shownL v == shownL (.tup ds)) = false := fun h => by
    rw [Bool.eq_false_iff]
    exact fun z => h ds (key.mp z)
  refine Fb_val ?_
  have hG := hv.ok.g
  cases v with
  | tup l =>
    have hl : isDs l = true := by
      have := gd_D _ hG
      simpa only [isD] using this
    have ll : l.length ≤ 100000 := by
      have := hv.w
      have := wts_len l
      simp only [wt] at *
      omega
    have h1 : ∀ S, gLen (.tup l) S = .ok (.int l.length) S := fun S => rfl
    have h2 : ∀ S, gLen (.tup ds) S = .ok (.int ds.length) S := fun S => rfl
    have hr : ∀ S, f_are_rising [.lst [.int 0, .int ds.length]] S = .ok (.bl true) S := by
      intro S
      rcases hn with z | z <;> rw [z]
      · exact rising2 S
      · exact rising3 S
    have lb := fun ρ h1 hj => lc_bools (ρ := ρ) (S := S) hl h1 hj (by omega)
    have hgE : ∀ S, gEq (.tup l) (.tup ds) S = .ok (.bl (veqs l ds)) S := by
      intro S
      have : okEq (.tup l) (.tup ds) = true := by
        have : ds.all isSc = true := by
          rw [List.all_eq_true]
          intro d hdm
          have := hd d hdm
          cases d <;> simp [dueV, isSc] at this ⊢
        simp [okEq, flatEq, hl, this]
      rw [gEq, if_pos this]
      simp only [veq]
    have neI := gNe_int (l.length) (ds.length)
    by_cases hlen : l.length = ds.length
    · have hb0 : (((l.length : Int)) == (ds.length : Int)) = true := by rw [hlen]; simp
      rw [hb0] at neI
      cases hb : l.any isBlB with
      | true =>
        have : (shownL (.tup l) == shownL (.tup ds)) = false := by
          cases hk : (shownL (.tup l) == shownL (.tup ds)) with
          | false => rfl
          | true =>
            have := key.mp hk
            injection this with this
            rw [this, due_notbl hd] at hb
            cases hb
        rw [this]
        simp [-mLc, b_is_certificate, begin, hj, isi_tt, truB, h1, h2, neI, -List.any_eq_true]
        rw [lb _ rfl rfl]
        simp only [Out.bind, any_blV, hb]
        simp [truB]
      | false =>
        have : (shownL (.tup l) == shownL (.tup ds)) = veqs l ds := by
          rw [Bool.eq_iff_iff, key, veqs_due hd hb]
          simp
        rw [this]
        simp [-mLc, b_is_certificate, begin, hj, isi_tt, truB, h1, h2, neI, -List.any_eq_true]
        rw [lb _ rfl rfl]
        simp only [Out.bind, any_blV, hb]
        simp [truB, hr, hgE]
    · have : (shownL (.tup l) == shownL (.tup ds)) = false := by
        cases hk : (shownL (.tup l) == shownL (.tup ds)) with
        | false => rfl
        | true =>
          have := key.mp hk
          injection this with this
          rw [this] at hlen
          exact absurd rfl hlen
      have hb0 : (((l.length : Int)) == (ds.length : Int)) = false := by
        rw [beq_eq_false_iff_ne]
        intro z
        exact hlen (by omega)
      rw [hb0] at neI
      rw [this]
      simp [-mLc, b_is_certificate, begin, hj, isi_tt, truB, h1, h2, neI]
  | _ =>
    first
      | (simp [gd] at hG; done)
      | (rw [kf (by intro l z; cases z)]
         simp [-mLc, b_is_certificate, begin, hj, gIsi, isi, truB])
theorem past_of {v : Val} (hv : Gd v) (h : pastB v = true) : ∃ es : List En, v = .tup (es.map En.val) ∧ (∀ e ∈ es, e.ok = true) ∧ es.length ≤ 100000 := by
  cases v <;> simp only [pastB] at h <;> try (cases h; done)
  rename_i l
  obtain ⟨es, rfl, he⟩ := past_ens h
  refine ⟨es, rfl, List.all_eq_true.mp he, ?_⟩
  have := hv.w
  have := wts_len (es.map En.val)
  simp only [wt, List.length_map] at *
  omega
theorem need_yes {v : Val} (hv : Gd v) (h : pastB v = true) (S : Store) : f_need_past [v] S = .ok .non S := by
  refine Fb_val ?_
  simp [b_need_past, begin, f_is_past_value_eq hv.ok, h, truB]
theorem need_no {v : Val} (hv : Gd v) (h : pastB v = false) (S : Store) : f_need_past [v] S = .ex "BadPast" v S := by
  have : outOf (b_need_past (begin 1 [v]) S) = .ex "BadPast" v S := by
    simp [b_need_past, begin, f_is_past_value_eq hv.ok, h, truB]
  rw [f_need_past, Fb, this]
  simp
theorem judge_yes {es : List En} (hz : es.length ≤ 100000) (hok : ∀ e ∈ es, e.ok = true) {S : Store} (hS : S.all (closedO S.length) = true) (hv : Gd (.tup (es.map En.val))) (h : pastB (.tup (es.map En.val)) = true) : f_judge_past [.tup (es.map En.val)] S = .ok (dueOf es) S := by
  refine Fb_val ?_
  simp [b_judge_past, begin, need_yes hv h, judged_eq hz hok hS]
theorem judge_no {v : Val} (hv : Gd v) (h : pastB v = false) (S : Store) : f_judge_past [v] S = .ex "BadPast" v S := by
  have : outOf (b_judge_past (begin 1 [v]) S) = .ex "BadPast" v S := by
    simp [b_judge_past, begin, need_no hv h]
  rw [f_judge_past, Fb, this]
  simp
theorem holds_yes {es : List En} (hz : es.length ≤ 100000) (hok : ∀ e ∈ es, e.ok = true) {S : Store} (hS : S.all (closedO S.length) = true) (hv : Gd (.tup (es.map En.val))) (h : pastB (.tup (es.map En.val)) = true) {t : Val} (ht : Gd t) : f_past_holds [.tup (es.map En.val), t] S = .ok (.bl (shownL t == shownL (dueOf es))) S := by
  refine Fb_val ?_
  simp [b_past_holds, begin, need_yes hv h, certificate_eq hz hok hS ht]
theorem holds_no {v : Val} (hv : Gd v) (h : pastB v = false) (t : Val) (S : Store) : f_past_holds [v, t] S = .ex "BadPast" v S := by
  have : outOf (b_past_holds (begin 2 [v, t]) S) = .ex "BadPast" v S := by
    simp [b_past_holds, begin, need_no hv h]
  rw [f_past_holds, Fb, this]
  simp
end K46
/-! PL24: the plain law: draws. -/
namespace K46
open L3
open PySem (Addr)
def DkS (P : Addr) (left : List Int) (m d : Int) : Store := [.tab P tabQ, .lst (left.map Val.int), .dk [Sum.inr (L3.mk [108, 101, 102, 116]), Sum.inr (L3.mk [109, 105, 120, 101, 100]), Sum.inr (L3.mk [100, 114, 97, 119, 115])] [.rf 1, .int m, .int d]]
/-- the store with the deck -/
def Dk (P : Addr) (S : Store) : Prop := ∃ left m d, left.length ≤ 64 ∧ S = DkS P left m d
theorem isPs_int (l : List Int) : isPs (l.map Val.int) = true := by
  induction l with
  | nil => rfl
  | cons i l ih => simp only [List.map_cons, isPs, isP, ih, Bool.and_self]
theorem closed_int (n : Nat) (l : List Int) : closedVs n (l.map Val.int) = true := by
  induction l with
  | nil => rfl
  | cons i l ih => simp only [List.map_cons, closedVs, closedV, ih, Bool.and_self]
theorem Dk.closed {P : Addr} {S : Store} (h : Dk P S) : S.all (closedO S.length) = true := by
  obtain ⟨left, m, d, _, rfl⟩ := h
  simp [DkS, closedO, closed_int, closedVs, closedV]
theorem Dk.len {P : Addr} {S : Store} (h : Dk P S) : S.length = 3 := by
  obtain ⟨left, m, d, _, rfl⟩ := h
  rfl
section
variable (P : Addr) (left : List Int) (m d : Int)
theorem dgL : dget (DkS P left m d) 2 (.str [108, 101, 102, 116]) = some (some (.rf 1)) := by rfl
theorem dgM : dget (DkS P left m d) 2 (.str [109, 105, 120, 101, 100]) = some (some (.int m)) := by rfl
theorem dgD : dget (DkS P left m d) 2 (.str [100, 114, 97, 119, 115]) = some (some (.int d)) := by rfl
theorem dpD (d' : Int) : dput (DkS P left m d) 2 (.str [100, 114, 97, 119, 115]) (.int d') = some (DkS P left m d') := by rfl
theorem DkS.at1 : (DkS P left m d)[1]? = some (.lst (left.map Val.int)) := rfl
theorem DkS.set1 (l : List Int) : (DkS P left m d).set 1 (.lst (l.map Val.int)) = DkS P l m d := rfl
end
def tailD : Sv :=
    (mSeq (mSet 2 (mBin gMod (mUn gInt (mBin gAdd (mBin gMul (mVar 2) (mC (.int 40014))) (mC (.int 91)))) (mC (.int 2147483563))))
    (mSeq (mSet 2 (mBin gMod (mUn gInt (mBin gAdd (mBin gAdd (mBin gMul (mVar 2) (mVar 2)) (mBin gMul (mC (.int 52774)) (mDGet (mVar 0) (mC (.str [100, 114, 97, 119, 115]))))) (mC (.int 17)))) (mC (.int 2147483399))))
    (mSeq (mSet 2 (mBin gMod (mUn gInt (mBin gMul (mVar 2) (mC (.int 40692)))) (mC (.int 2147483647))))
    (mRet (mBin gMod (mUn gInt (mBin gDiv (mVar 2) (mC (.int 64)))) (mVar 1))))))
theorem mul_r {i j : Int} (h : -(2 ^ 64) < j ∧ j < 2 ^ 64) (S : Store) : gMul (.int i) (.int j) S = .ok (.int (i * j)) S := by
  have : small64 j = true := decide_eq_true h
  simp [gMul, this]
theorem mul_l {i j : Int} (h : -(2 ^ 64) < i ∧ i < 2 ^ 64) (S : Store) : gMul (.int i) (.int j) S = .ok (.int (i * j)) S := by
  have : small64 i = true := decide_eq_true h
  simp [gMul, this]
theorem add_ii (i j : Int) (S : Store) : gAdd (.int i) (.int j) S = .ok (.int (i + j)) S := rfl
theorem mod_ii {i j : Int} (h : 0 < j) (S : Store) : gMod (.int i) (.int j) S = .ok (.int (i % j)) S := by simp [gMod, h]
theorem int_i (i : Int) (S : Store) : gInt (.int i) S = .ok (.int i) S := rfl
theorem div_ii {i j : Int} (h : 0 < j ∧ j < 1073741824) (S : Store) : gDiv (.int i) (.int j) S = .ok (.int (i / j)) S := by
  have : decide (0 < j ∧ j < 1073741824) = true := decide_eq_true h
  simp only [gDiv, this, if_true]
theorem tailD_ok (P : Addr) (left : List Int) (m d : Int) {n fig : Int} (x : Option Val) (h0 : 0 < n) : ∃ j, tailD [some (.rf 2), some (.int n), some (.int fig), x] (DkS P left m d) = .rt (.int j) (DkS P left m d) ∧ 0 ≤ j ∧ j < n := by
  have e0 : ∀ S, gMul (.int fig) (.int 40014) S = .ok (.int (fig * 40014)) S := mul_r (by decide)
  have e1 : ∀ S, gMod (.int (fig * 40014 + 91)) (.int 2147483563) S = .ok (.int ((fig * 40014 + 91) % 2147483563)) S := mod_ii (by decide)
  have hb : 0 ≤ (fig * 40014 + 91) % 2147483563 ∧ (fig * 40014 + 91) % 2147483563 < 2147483563 := ⟨Int.emod_nonneg _ (by decide), Int.emod_lt_of_pos _ (by decide)⟩
  generalize (fig * 40014 + 91) % 2147483563 = g at e1 hb
  have e2 : ∀ S, gMul (.int g) (.int g) S = .ok (.int (g * g)) S := mul_r (by omega)
  have e3 : ∀ S, gMul (.int 52774) (.int d) S = .ok (.int (52774 * d)) S := mul_l (by decide)
  have e4 : ∀ S, gMod (.int (g * g + 52774 * d + 17)) (.int 2147483399) S = .ok (.int ((g * g + 52774 * d + 17) % 2147483399)) S := mod_ii (by decide)
  generalize (g * g + 52774 * d + 17) % 2147483399 = g2 at e4
  have e5 : ∀ S, gMul (.int g2) (.int 40692) S = .ok (.int (g2 * 40692)) S := mul_r (by decide)
  have e6 : ∀ S, gMod (.int (g2 * 40692)) (.int 2147483647) S = .ok (.int ((g2 * 40692) % 2147483647)) S := mod_ii (by decide)
  generalize (g2 * 40692) % 2147483647 = g3 at e6
  have e7 : ∀ S, gDiv (.int g3) (.int 64) S = .ok (.int (g3 / 64)) S := div_ii (by decide)
  have e8 : ∀ S, gMod (.int (g3 / 64)) (.int n) S = .ok (.int ((g3 / 64) % n)) S := mod_ii h0
  refine ⟨(g3 / 64) % n, ?_, Int.emod_nonneg _ (by omega), Int.emod_lt_of_pos _ h0⟩
  simp [tailD, e0, e1, e2, e3, e4, e5, e6, e7, e8, add_ii, int_i, dgD]
theorem draw_ok {P : Addr} {S : Store} (h : Dk P S) {n : Int} (h0 : 0 < n) (h1 : n < 1000000000) : ∃ j S', f__law_draw [.rf 2, .int n] S = .ok (.int j) S' ∧ Dk P S' ∧ 0 ≤ j ∧ j < n := by
  obtain ⟨left, m, d, hl, rfl⟩ := h
  have hb : b__law_draw = (mSeq (mDPut (mVar 0) (mC (.str [100, 114, 97, 119, 115])) (mBin gAdd (mDGet (mVar 0) (mC (.str [100, 114, 97, 119, 115]))) (mC (.int 1))))
    (mSeq (mSet 2 (mBin gAdd (mDGet (mVar 0) (mC (.str [109, 105, 120, 101, 100]))) (mBin gMul (mC (.int 69713)) (mDGet (mVar 0) (mC (.str [100, 114, 97, 119, 115]))))))
    (mSeq (mIfS (mB (mBin gNeL (mDGet (mVar 0) (mC (.str [108, 101, 102, 116]))) (mLst []))) (mSeq (mSet 3 (mPop (mDGet (mVar 0) (mC (.str [108, 101, 102, 116])))))
    (mSeq (mIfS (mB (mBin gGe (mVar 3) (mBin gPow (mC (.int 10)) (mC (.int 18))))) (mSeq (mDrop (mAppend (mDGet (mVar 0) (mC (.str [108, 101, 102, 116]))) (mBin gDiv (mVar 3) (mBi2 gMax (mC (.int 2)) (mVar 1)))))
    (mRet (mBin gMod (mUn gInt (mVar 3)) (mVar 1)))) mNil)
    (mSet 2 (mBin gAdd (mVar 2) (mBin gMod (mUn gInt (mVar 3)) (mC (.int 2147483629))))))) mNil) tailD))) := rfl
  have e3 : ∀ S, gMul (.int 69713) (.int (d + 1)) S = .ok (.int (69713 * (d + 1))) S := mul_l (by decide)
  have gn : ∀ l : List Int, ∀ d', gNeL (.rf 1) (.lst []) (DkS P l m d') = .ok (.bl (!(l.map Val.int).isEmpty)) (DkS P l m d') := by
    intro l d'
    simp only [gNeL, DkS.at1, isPs_int, closed_int, Bool.and_self, if_true]
  rcases List.eq_nil_or_concat left with rfl | ⟨l, c, rfl⟩
  · obtain ⟨j, hj, hj1, hj2⟩ := tailD_ok P [] m (d + 1) (fig := m + 69713 * (d + 1)) none h0
    refine ⟨j, DkS P [] m (d + 1), Fb_len ?_ rfl, ⟨[], m, d + 1, hl, rfl⟩, hj1, hj2⟩
    rw [hb]
    simp [begin, dgD, dgM, dgL, dpD, add_ii, e3, gn, hj]
  · have hl' : l.length + 1 ≤ 64 := by simpa using hl
    have pop : ∀ ρ : Sl, ρ[0]? = some (some (.rf 2)) → mPop (mDGet (mVar 0) (mC (.str [108, 101, 102, 116]))) ρ (DkS P (l.concat c) m (d + 1)) = .ok (.int c) (DkS P l m (d + 1)) := by
      intro ρ h
      have e1 : ((l.concat c).map Val.int).dropLast = l.map Val.int := by simp
      have e2 : ((l.concat c).map Val.int)[((l.concat c).map Val.int).length - 1]? = some (.int c) := by simp
      simp only [mPop, mDGet, mVar, mC, h, Out.bind, dgL, DkS.at1, e2, e1, DkS.set1]
    have ep : ∀ S, gPow (.int 10) (.int 18) S = .ok (.int 1000000000000000000) S := by intro S; simp [gPow]
    have hne : ¬ l.concat c = [] := by simp
    have eg : ∀ S, gGe (.int c) (.int 1000000000000000000) S = .ok (.bl (decide (1000000000000000000 ≤ c))) S := fun S => rfl
    have em : ∀ S, gMod (.int c) (.int 2147483629) S = .ok (.int (c % 2147483629)) S := mod_ii (by decide)
    have emn : ∀ S, gMod (.int c) (.int n) S = .ok (.int (c % n)) S := mod_ii h0
    by_cases hc : 1000000000000000000 ≤ c
    · have hx : ∃ q, 0 < q ∧ q < 1073741824 ∧ ∀ S, gMax (.int 2) (.int n) S = .ok (.int q) S := by
        refine ⟨if n > 2 then n else 2, ?_, ?_, fun S => rfl⟩
        · split <;> omega
        · split <;> omega
      obtain ⟨q, hq1, hq2, hq⟩ := hx
      have ed : ∀ S, gDiv (.int c) (.int q) S = .ok (.int (c / q)) S := div_ii ⟨hq1, hq2⟩
      have app : ∀ ρ : Sl, ρ[0]? = some (some (.rf 2)) → ρ[1]? = some (some (.int n)) → ρ[3]? = some (some (.int c)) → mAppend (mDGet (mVar 0) (mC (.str [108, 101, 102, 116]))) (mBin gDiv (mVar 3) (mBin gMax (mC (.int 2)) (mVar 1))) ρ (DkS P l m (d + 1)) = .ok .non (DkS P (l.concat (c / q)) m (d + 1)) := by
        intro ρ h0 h1 h3
        have hf : fit ((l.map Val.int).length + 1) = true := fit_of (by simp; omega)
        have il : isLs (DkS P l m (d + 1)) 1 = true := rfl
        have e1 : l.map Val.int ++ [.int (c / q)] = (l.concat (c / q)).map Val.int := by simp
        simp only [mAppend, mDGet, mVar, mC, h0, h1, h3, Out.bind, dgL, il, if_true, mBin, hq, ed, DkS.at1, hf, e1, DkS.set1]
      refine ⟨c % n, DkS P (l.concat (c / q)) m (d + 1), Fb_len ?_ rfl, ⟨_, m, d + 1, by simpa using hl', rfl⟩, Int.emod_nonneg _ (by omega), Int.emod_lt_of_pos _ h0⟩
      rw [hb]
      simp [-mPop, -mAppend, -List.concat_eq_append, begin, dgD, dgM, dgL, dpD, add_ii, e3, gn, hne, pop, ep, eg, hc, app, emn, int_i]
    · obtain ⟨j, hj, hj1, hj2⟩ := tailD_ok P l m (d + 1) (fig := m + 69713 * (d + 1) + c % 2147483629) (some (.int c)) h0
      refine ⟨j, DkS P l m (d + 1), Fb_len ?_ rfl, ⟨l, m, d + 1, by omega, rfl⟩, hj1, hj2⟩
      rw [hb]
      simp [-mPop, -mAppend, -List.concat_eq_append, begin, dgD, dgM, dgL, dpD, add_ii, e3, gn, hne, pop, ep, eg, hc, em, int_i, hj]
end K46
/-! PL25: the plain law: pick, odd. -/
namespace K46
open L3
open PySem (Addr)
/-- the law's values within bounds -/
structure Gb (w d : Nat) (v : Val) : Prop where
  a : ga v = true
  w : wt v ≤ w
  d : dep v ≤ d
theorem Gb.mono {w d w' d' : Nat} {v : Val} (h : Gb w d v) (hw : w ≤ w') (hd : d ≤ d') : Gb w' d' v := ⟨h.a, Nat.le_trans h.w hw, Nat.le_trans h.d hd⟩
theorem Gb.gd {w d : Nat} {v : Val} (h : Gb w d v) (hw : w ≤ 200000) (hd : d ≤ 50) : Gd v := ⟨h.a, Nat.le_trans h.w hw, Nat.le_trans h.d hd⟩
theorem Gd.gb {v : Val} (h : Gd v) : Gb (wt v) (dep v) v := ⟨h.a, Nat.le_refl _, Nat.le_refl _⟩
theorem ixL_list {l : List Val} {k : Nat} {v : Val} (h : l[k]? = some v) (S : Store) : gIx (.lst l) (.int k) S = .ok v S := by
  have : ixL l (k : Int) = some v := L2.atI_nat h
  simp [gIx, this]
/-- a list or tuple of things to be picked -/
def seqV : Val → Option (List Val)
  | .lst l | .tup l => some l
  | _ => none
theorem pick_ok {P : Addr} {S : Store} (h : Dk P S) {s : Val} {l : List Val} (hs : seqV s = some l) (h0 : l ≠ []) (h1 : l.length < 1000000000) : ∃ v S', f__law_pick [.rf 2, s] S = .ok v S' ∧ Dk P S' ∧ v ∈ l := by
  have hp : 0 < l.length := List.length_pos_iff.mpr h0
  obtain ⟨j, S', e, hd, hj0, hj1⟩ := draw_ok h (n := l.length) (by omega) (by omega)
  obtain ⟨k, rfl⟩ := Int.eq_ofNat_of_zero_le hj0
  have hk : k < l.length := by omega
  have hv : l[k]? = some l[k] := List.getElem?_eq_getElem hk
  refine ⟨l[k], S', Fb_len ?_ (by rw [hd.len, h.len]), hd, List.getElem_mem hk⟩
  cases s with
  | lst m =>
    have : m = l := by simpa [seqV] using hs
    subst this
    have hl : ∀ S, gLen (.lst m) S = .ok (.int m.length) S := fun S => rfl
    simp [b__law_pick, begin, hl, e, ixL_list hv]
  | tup m =>
    have : m = l := by simpa [seqV] using hs
    subst this
    have hl : ∀ S, gLen (.tup m) S = .ok (.int m.length) S := fun S => rfl
    simp [b__law_pick, begin, hl, e, ixL_nat hv]
  | _ => simp [seqV] at hs
/-! ### weights and depths of what is cut -/
theorem wts_app : ∀ l m : List Val, wts (l ++ m) = wts l + wts m
  | [], m => by simp [wts]
  | v :: l, m => by simp only [List.cons_append, wts, wts_app l m]; omega
theorem deps_app : ∀ l m : List Val, deps (l ++ m) = max (deps l) (deps m)
  | [], m => by simp [deps]
  | v :: l, m => by simp only [List.cons_append, deps, deps_app l m]; omega
theorem gas_app : ∀ l m : List Val, gas (l ++ m) = (gas l && gas m)
  | [], m => by simp [gas]
  | v :: l, m => by simp only [List.cons_append, gas, gas_app l m, Bool.and_assoc]
theorem take_b : ∀ (n : Nat) (l : List Val), wts (l.take n) ≤ wts l ∧ deps (l.take n) ≤ deps l ∧ (gas l = true → gas (l.take n) = true)
  | 0, l => by simp [wts, deps, gas]
  | n + 1, [] => by simp
  | n + 1, v :: l => by
    have := take_b n l
    simp only [List.take_succ_cons, wts, deps, gas, Bool.and_eq_true]
    exact ⟨by omega, by omega, fun h => ⟨h.1, this.2.2 h.2⟩⟩
theorem drop_b : ∀ (n : Nat) (l : List Val), wts (l.drop n) ≤ wts l ∧ deps (l.drop n) ≤ deps l ∧ (gas l = true → gas (l.drop n) = true)
  | 0, l => by simp
  | n + 1, [] => by simp
  | n + 1, v :: l => by
    have := drop_b n l
    simp only [List.drop_succ_cons, wts, deps, gas, Bool.and_eq_true]
    exact ⟨by omega, by omega, fun h => this.2.2 h.2⟩
theorem cut_b (lo hi : Option Int) (l : List Val) : wts (cutL l lo hi) ≤ wts l ∧ deps (cutL l lo hi) ≤ deps l ∧ (gas l = true → gas (cutL l lo hi) = true) := by
  unfold cutL
  have h1 := drop_b (HT.sIx l.length 0 lo) l
  have h2 := take_b (HT.sIx l.length l.length hi - HT.sIx l.length 0 lo) (l.drop (HT.sIx l.length 0 lo))
  exact ⟨by omega, by omega, fun h => h2.2.2 (h1.2.2 h)⟩
theorem rev_b : ∀ l : List Val, wts l.reverse = wts l ∧ deps l.reverse = deps l ∧ gas l.reverse = gas l
  | [] => by simp
  | v :: l => by
    have := rev_b l
    rw [List.reverse_cons, wts_app, deps_app, gas_app]
    simp only [wts, deps, gas, this.1, this.2.1, this.2.2, Bool.and_true]
    refine ⟨by omega, by omega, Bool.and_comm _ _⟩
theorem strcut (lo hi : Option Int) (l : List Nat) : (cutL l lo hi).length ≤ l.length ∧ (l.all (· < 128) = true → (cutL l lo hi).all (· < 128) = true) := by
  unfold cutL
  refine ⟨by simp only [List.length_take, List.length_drop]; omega, fun h => ?_⟩
  rw [List.all_eq_true] at h ⊢
  intro x hx
  exact h x (List.mem_of_mem_drop (List.mem_of_mem_take hx))
/-! ### odd -/
def oddBase : List Val := [.non, .bl true, .bl false, .int 0, .int 1, .int 2, .int (-1), .int 1000000000, .int 1000000001, .str [], .str [97], .str [116, 105, 99, 107], .str [99, 108, 101, 111], .tup [], .tup [.tup []], .lst [], .dct [] [], .tup [.int 0], .str [65, 32, 98], .lst [.int 0, .int 1], .str [111, 112, 101, 110], .tup [.str [116, 105, 99, 107]], .lst [.str [116, 105, 99, 107]], .str [98, 101, 103, 105, 110], .str [10], .dct [aKey] [.int 1], .str [97, 98, 99, 100, 101, 102, 103, 104, 105, 106, 107], .int 1000000000000000000000000000000000000000]
def oddTup (l : List Val) : List Val := [.lst l, .tup (l ++ [.int 0]), .tup (cutL l (some 1) none), .tup (cutL l none (some (-1))), .tup l.reverse, .tup (l ++ cutL l none (some 1)), .tup [.tup l]]
def oddStr (l : List Nat) : List Val := [.str (l ++ [97]), .str (cutL l none (some (-1))), .str (l.map PyProof.Rows.up1), .str (l ++ [32]), .lst [.str l], .tup [.str l], .str l.reverse, .str (l ++ [10])]
def oddInt (i : Int) : List Val := [.int (i + 1), .int (i - 1), .int (-i), .bl (i == 1), .lst [.int i], .str (digs i), .bl (i == 0), .bl !(i != 0)]
def oddBl (b : Bool) : List Val := [.int (b2n b + 1), .int (b2n b - 1), .int (-(b2n b)), .bl ((if b then (1 : Int) else 0) == 1), .lst [.bl b], .str (if b then [84, 114, 117, 101] else [70, 97, 108, 115, 101]), .bl ((if b then (1 : Int) else 0) == 0), .bl !b]
def oddMore : Val → List Val
  | .tup l => oddTup l
  | .str l => oddStr l
  | .int i => if i.natAbs < 10 ^ 30 then oddInt i else []
  | .bl b => oddBl b
  | _ => []
def tri (l : List Val) : List Val := l ++ (l ++ l)
theorem mul3 (l : List Val) (h : l.length ≤ 100) (S : Store) : gMul (.lst l) (.int 3) S = .ok (.lst (tri l)) S := by
  have hf : fit (l.length * 3) = true := fit_of (by omega)
  have : (List.replicate 3 l).flatten = tri l := by simp [tri, List.replicate]
  have h3 : (3 : Int).toNat = 3 := rfl
  simp [gMul, h3, hf, tri]
theorem addL (l m : List Val) (h : l.length + m.length ≤ 1000) (S : Store) : gAdd (.lst l) (.lst m) S = .ok (.lst (l ++ m)) S := by
  have hf : fit (l.length + m.length) = true := fit_of (by omega)
  simp [gAdd, hf]
theorem upper_eq {l : List Nat} (h : l.all (· < 128) = true) (hl : l.length ≤ 100000) (S : Store) : gUpper (.str l) S = .ok (.str (l.map PyProof.Rows.up1)) S := by
  have : PySem.Txt.upper (L3.mk l) = ⟨(L3.mk l).cps.map PyProof.Rows.up1⟩ := PyProof.Rows.upper_ascii (fun c hc => by
    rw [List.all_eq_true] at h
    exact of_decide_eq_true (h c hc))
  simp only [gUpper, decide_eq_true hl, if_true, this]
  simp [L3.mk]
theorem tup_list {l : List Val} (hl : l.length ≤ 100000) {ρ : Sl} (h1 : ρ[1]? = some (some (.tup l))) (S : Store) : mLst [(mUn gList (mVar 1)), (mBin gAdd (mVar 1) (mTup [(mC (.int 0))])), (mCut (mVar 1) (some (mC (.int 1))) none), (mCut (mVar 1) none (some (mUn gNeg (mC (.int 1))))), (mUn gRev (mVar 1)), (mBin gAdd (mVar 1) (mCut (mVar 1) none (some (mC (.int 1))))), (mTup [(mVar 1)])] ρ S = .ok (.lst (oddTup l)) S := by
  have n1 : ∀ i S, gNeg (.int i) S = .ok (.int (-i)) S := fun i S => rfl
  have f1 : fit (l.length + 1) = true := fit_of (by omega)
  have f2 : fit (l.length + (cutL l none (some 1)).length) = true := fit_of (by
    have : (cutL l none (some 1)).length ≤ l.length := by unfold cutL; simp only [List.length_take, List.length_drop]; omega
    omega)
  have e1 : ∀ S, gAdd (.tup l) (.tup [.int 0]) S = .ok (.tup (l ++ [.int 0])) S := by intro S; simp [gAdd, f1]
  have e2 : ∀ S, gAdd (.tup l) (.tup (cutL l none (some 1))) S = .ok (.tup (l ++ cutL l none (some 1))) S := by intro S; simp [gAdd, f2]
  have e3 : ∀ lo hi S, gCut lo hi (.tup l) S = .ok (.tup (cutL l lo hi)) S := fun lo hi S => rfl
  have e4 : ∀ S, gList (.tup l) S = .ok (.lst l) S := fun S => rfl
  have e5 : ∀ S, gRev (.tup l) S = .ok (.tup l.reverse) S := fun S => rfl
  simp [h1, e1, e2, e3, e4, e5, n1, oddTup]
theorem str_list {l : List Nat} (ha : l.all (· < 128) = true) (hl : l.length ≤ 100000) {ρ : Sl} (h1 : ρ[1]? = some (some (.str l))) (S : Store) : mLst [(mBin gAdd (mVar 1) (mC (.str [97]))), (mCut (mVar 1) none (some (mUn gNeg (mC (.int 1))))), (mUn gUpper (mVar 1)), (mBin gAdd (mVar 1) (mC (.str [32]))), (mLst [(mVar 1)]), (mTup [(mVar 1)]), (mUn gRev (mVar 1)), (mBin gAdd (mVar 1) (mC (.str [10])))] ρ S = .ok (.lst (oddStr l)) S := by
  have n1 : ∀ i S, gNeg (.int i) S = .ok (.int (-i)) S := fun i S => rfl
  have f1 : fit (l.length + 1) = true := fit_of (by omega)
  have f2 : fit l.length = true := fit_of (by omega)
  have e1 : ∀ x S, gAdd (.str l) (.str [x]) S = .ok (.str (l ++ [x])) S := by intro x S; simp [gAdd, f1]
  have e3 : ∀ lo hi S, gCut lo hi (.str l) S = .ok (.str (cutL l lo hi)) S := by intro lo hi S; simp [gCut, f2]
  have e4 : ∀ S, gUpper (.str l) S = .ok (.str (l.map PyProof.Rows.up1)) S := upper_eq ha hl
  have e5 : ∀ S, gRev (.str l) S = .ok (.str l.reverse) S := by intro S; simp [gRev, f2]
  simp [h1, e1, e3, e4, e5, n1, oddStr]
def intL : Ev := mLst [(mBin gAdd (mVar 1) (mC (.int 1))), (mBin gSub (mVar 1) (mC (.int 1))), (mUn gNeg (mVar 1)), (mBin gEq (mVar 1) (mC (.int 1))), (mLst [(mVar 1)]), (mUn gStr (mVar 1)), (mBin gEq (mVar 1) (mC (.int 0))), (mUn nTru (mVar 1))]
theorem int_list {i : Int} (hi : i.natAbs < 10 ^ 40) {ρ : Sl} (h1 : ρ[1]? = some (some (.int i))) (S : Store) : intL ρ S = .ok (.lst (oddInt i)) S := by
  have e1 : ∀ S, gSub (.int i) (.int 1) S = .ok (.int (i - 1)) S := fun S => rfl
  have e2 : ∀ S, gNeg (.int i) S = .ok (.int (-i)) S := fun S => rfl
  have e3 : ∀ S, gStr (.int i) S = .ok (.str (digs i)) S := by
    intro S
    have : i.natAbs < 10 ^ 50 := Nat.lt_of_lt_of_le hi (by decide)
    simp only [gStr, decide_eq_true this, if_true]
  have e4 : ∀ S, nTru (.int i) S = .ok (.bl !(i != 0)) S := fun S => rfl
  simp [intL, h1, e1, e2, e3, e4, add_ii, gEq_int, oddInt]
theorem bl_list {b : Bool} {ρ : Sl} (h1 : ρ[1]? = some (some (.bl b))) (S : Store) : intL ρ S = .ok (.lst (oddBl b)) S := by
  have e0 : ∀ S, gAdd (.bl b) (.int 1) S = .ok (.int (b2n b + 1)) S := fun S => rfl
  have e1 : ∀ S, gSub (.bl b) (.int 1) S = .ok (.int (b2n b - 1)) S := fun S => rfl
  have e2 : ∀ S, gNeg (.bl b) S = .ok (.int (-(b2n b))) S := fun S => rfl
  have e3 : ∀ S, gStr (.bl b) S = .ok (.str (if b then [84, 114, 117, 101] else [70, 97, 108, 115, 101])) S := fun S => rfl
  have e4 : ∀ S, nTru (.bl b) S = .ok (.bl !b) S := fun S => rfl
  have e5 : ∀ j S, gEq (.bl b) (.int j) S = .ok (.bl ((if b then (1 : Int) else 0) == j)) S := by
    intro j S
    simp [gEq, okEq, isP, dep, veq]
  simp only [intL, mLst, mArgs, mBin, mUn, mVar, h1, mC, Out.bind, Out.bindL, OutL.bindL, OutL.bind, e0, e1, e2, e3, e4, e5, oddBl]
theorem base_list (ρ : Sl) (S : Store) : mLst [(mC .non), (mC (.bl true)), (mC (.bl false)), (mC (.int 0)), (mC (.int 1)), (mC (.int 2)), (mUn gNeg (mC (.int 1))), (mBin gPow (mC (.int 10)) (mC (.int 9))), (mBin gAdd (mBin gPow (mC (.int 10)) (mC (.int 9))) (mC (.int 1))), (mC (.str [])), (mC (.str [97])), (mC (.str [116, 105, 99, 107])), (mC (.str [99, 108, 101, 111])), (mTup []), (mTup [(mTup [])]), (mLst []), (mC (.dct [] [])), (mTup [(mC (.int 0))]), (mC (.str [65, 32, 98])), (mLst [(mC (.int 0)), (mC (.int 1))]), (mC (.str [111, 112, 101, 110])), (mTup [(mC (.str [116, 105, 99, 107]))]), (mLst [(mC (.str [116, 105, 99, 107]))]), (mC (.str [98, 101, 103, 105, 110])), (mC (.str [10])), (mDispD [("a" : PySem.Str)] [(mC (.int 1))]), (mC (.str [97, 98, 99, 100, 101, 102, 103, 104, 105, 106, 107])), (mBin gPow (mC (.int 10)) (mC (.int 39)))] ρ S = .ok (.lst oddBase) S := by
  have p9 : ∀ S, gPow (.int 10) (.int 9) S = .ok (.int 1000000000) S := by intro S; simp [gPow]
  have p39 : ∀ S, gPow (.int 10) (.int 39) S = .ok (.int 1000000000000000000000000000000000000000) S := by intro S; simp [gPow]
  have hk : (PySem.Str.ofString "a") = L3.mk [97] := by decide +kernel
  have n1 : ∀ i S, gNeg (.int i) S = .ok (.int (-i)) S := fun i S => rfl
  simp [p9, p39, n1, add_ii, oddBase, aKey, hk]
def oddM : Ev := (mLst [(mC .non), (mC (.bl true)), (mC (.bl false)), (mC (.int 0)), (mC (.int 1)), (mC (.int 2)), (mUn gNeg (mC (.int 1))), (mBin gPow (mC (.int 10)) (mC (.int 9))), (mBin gAdd (mBin gPow (mC (.int 10)) (mC (.int 9))) (mC (.int 1))), (mC (.str [])), (mC (.str [97])), (mC (.str [116, 105, 99, 107])), (mC (.str [99, 108, 101, 111])), (mTup []), (mTup [(mTup [])]), (mLst []), (mC (.dct [] [])), (mTup [(mC (.int 0))]), (mC (.str [65, 32, 98])), (mLst [(mC (.int 0)), (mC (.int 1))]), (mC (.str [111, 112, 101, 110])), (mTup [(mC (.str [116, 105, 99, 107]))]), (mLst [(mC (.str [116, 105, 99, 107]))]), (mC (.str [98, 101, 103, 105, 110])), (mC (.str [10])), (mDispD [("a" : PySem.Str)] [(mC (.int 1))]), (mC (.str [97, 98, 99, 100, 101, 102, 103, 104, 105, 106, 107])), (mBin gPow (mC (.int 10)) (mC (.int 39)))])
def tupL : Ev := (mLst [(mUn gList (mVar 1)), (mBin gAdd (mVar 1) (mTup [(mC (.int 0))])), (mCut (mVar 1) (some (mC (.int 1))) none), (mCut (mVar 1) none (some (mUn gNeg (mC (.int 1))))), (mUn gRev (mVar 1)), (mBin gAdd (mVar 1) (mCut (mVar 1) none (some (mC (.int 1))))), (mTup [(mVar 1)])])
def strL : Ev := (mLst [(mBin gAdd (mVar 1) (mC (.str [97]))), (mCut (mVar 1) none (some (mUn gNeg (mC (.int 1))))), (mUn gUpper (mVar 1)), (mBin gAdd (mVar 1) (mC (.str [32]))), (mLst [(mVar 1)]), (mTup [(mVar 1)]), (mUn gRev (mVar 1)), (mBin gAdd (mVar 1) (mC (.str [10])))])
def b_odd (m lt ls li : Ev) : Sv := (mSeq (mSet 2 m) (mSeq (mIfS (mT (mUn (gIsi .tuple) (mVar 1))) (mSet 2 (mBin gAdd (mVar 2) (mBin gMul lt (mC (.int 3))))) (mIfS (mT (mUn (gIsi .str) (mVar 1))) (mSet 2 (mBin gAdd (mVar 2) (mBin gMul ls (mC (.int 3))))) (mIfS (L3.tAnd (mT (mUn (gIsi .int) (mVar 1))) (mB (mBin gLt (mUn gAbs (mVar 1)) (mBin gPow (mC (.int 10)) (mC (.int 30)))))) (mSet 2 (mBin gAdd (mVar 2) (mBin gMul li (mC (.int 3))))) mNil)))
    (mRet (mCall f__law_pick [(mVar 0), (mVar 2)]))))
theorem b_odd_eq : b__law_odd = b_odd oddM tupL strL intL := rfl
theorem odd_gen {P : Addr} {S : Store} {it : Val} {w d : Nat} (g : Gb w d it) {m lt ls li : Ev} {B : List Val} (hm : ∀ (ρ : Sl) S, m ρ S = .ok (.lst B) S) (hB : B.length ≤ 100)
    (ht : ∀ l, it = .tup l → ∀ (ρ : Sl) S, ρ[1]? = some (some it) → lt ρ S = .ok (.lst (oddMore it)) S) (hs : ∀ l, it = .str l → ∀ (ρ : Sl) S, ρ[1]? = some (some it) → ls ρ S = .ok (.lst (oddMore it)) S)
    (hi : ∀ (ρ : Sl) S, (∀ i, it = .int i → i.natAbs < 10 ^ 30) → ((∃ i, it = .int i) ∨ ∃ b, it = .bl b) → ρ[1]? = some (some it) → li ρ S = .ok (.lst (oddMore it)) S)
    {v : Val} {S' : Store} (e : f__law_pick [.rf 2, .lst (B ++ tri (oddMore it))] S = .ok v S') :
    outOf (b_odd m lt ls li (begin 3 [.rf 2, it]) S) = .ok v S' := by
  have p30 : ∀ S, gPow (.int 10) (.int 30) S = .ok (.int 1000000000000000000000000000000) S := by intro S; simp [gPow]
  have hlen : (oddMore it).length ≤ 8 := by
    cases it <;> simp only [oddMore] <;> try (simp [oddTup, oddStr, oddInt, oddBl]; done)
    split <;> simp [oddInt]
  have hl3 : (tri (oddMore it)).length = 3 * (oddMore it).length := by simp [tri]; omega
  have m3 := mul3 (oddMore it) (by omega)
  have ad := addL B (tri (oddMore it)) (by omega)
  have hG := g.a
  simp only [b_odd, mSeq, mSet, hm, Out.bindS, OutS.bind]
  cases it with
  | tup l =>
    have tl := fun ρ S h1 => ht l rfl ρ S h1
    simp [begin, isi_tt, truB, tl, m3, ad, e]
  | str l =>
    have sl := fun ρ S h1 => hs l rfl ρ S h1
    have i1 : ∀ S, gIsi .tuple (.str l) S = .ok (.bl false) S := fun S => rfl
    simp [begin, i1, isi_ss, truB, sl, m3, ad, e]
  | int i =>
    have i1 : ∀ S, gIsi .tuple (.int i) S = .ok (.bl false) S := fun S => rfl
    have i2 : ∀ S, gIsi .str (.int i) S = .ok (.bl false) S := fun S => rfl
    have i3 : ∀ S, gIsi .int (.int i) S = .ok (.bl true) S := fun S => rfl
    have i4 : ∀ S, gAbs (.int i) S = .ok (.int (if i < 0 then -i else i)) S := fun S => rfl
    have i5 : ∀ S, gLt (.int (if i < 0 then -i else i)) (.int 1000000000000000000000000000000) S = .ok (.bl (decide ((if i < 0 then -i else i) < 1000000000000000000000000000000))) S := by
      intro S
      simp only [gLt]
    have i6 : ((if i < 0 then -i else i) < 1000000000000000000000000000000) ↔ i.natAbs < 10 ^ 30 := by
      split <;> omega
    by_cases hs : i.natAbs < 10 ^ 30
    · have il := fun ρ S h1 => hi ρ S (fun j hj => by injection hj with hj; rw [← hj]; exact hs) (.inl ⟨i, rfl⟩) h1
      have i7 : decide ((if i < 0 then -i else i) < 1000000000000000000000000000000) = true := decide_eq_true (i6.mpr hs)
      rw [i7] at i5
      simp [begin, i1, i2, i3, i4, i5, truB, p30, il, m3, ad, e]
    · simp only [oddMore, if_neg hs, tri, List.append_nil] at e
      have i7 : decide ((if i < 0 then -i else i) < 1000000000000000000000000000000) = false := decide_eq_false (fun z => hs (i6.mp z))
      rw [i7] at i5
      simp [begin, i1, i2, i3, i4, i5, truB, p30, e]
  | bl b =>
    have i1 : ∀ S, gIsi .tuple (.bl b) S = .ok (.bl false) S := fun S => rfl
    have i2 : ∀ S, gIsi .str (.bl b) S = .ok (.bl false) S := fun S => rfl
    have i3 : ∀ S, gIsi .int (.bl b) S = .ok (.bl true) S := fun S => rfl
    have i4 : ∀ S, gAbs (.bl b) S = .ok (.int (b2n b)) S := fun S => rfl
    have i5 : ∀ S, gLt (.int (b2n b)) (.int 1000000000000000000000000000000) S = .ok (.bl true) S := by
      intro S
      have : b2n b < 1000000000000000000000000000000 := by cases b <;> simp [b2n]
      simp only [gLt, decide_eq_true this]
    have bl := fun ρ S h1 => hi ρ S (fun j hj => by cases hj) (.inr ⟨b, rfl⟩) h1
    simp [begin, i1, i2, i3, i4, i5, truB, p30, bl, m3, ad, e]
  | rf _ => simp [ga] at hG
  | ktup _ => simp [ga] at hG
  | scr _ => simp [ga] at hG
  | non =>
    simp only [oddMore, tri, List.append_nil] at e
    simp [begin, gIsi, isi, truB, e]
  | lst l =>
    simp only [oddMore, tri, List.append_nil] at e
    simp [begin, gIsi, isi, truB, e]
  | dct ks l =>
    simp only [oddMore, tri, List.append_nil] at e
    simp [begin, gIsi, isi, truB, e]
theorem odd_ok {P : Addr} {S : Store} (h : Dk P S) {it : Val} {w d : Nat} (g : Gb w d it) (hw : w ≤ 90000) : ∃ v S', f__law_odd [.rf 2, it] S = .ok v S' ∧ Dk P S' ∧ v ∈ oddBase ++ tri (oddMore it) := by
  have hlen : (oddMore it).length ≤ 8 := by
    cases it <;> simp only [oddMore] <;> try (simp [oddTup, oddStr, oddInt, oddBl]; done)
    split <;> simp [oddInt]
  have ht : (tri (oddMore it)).length = 3 * (oddMore it).length := by simp [tri]; omega
  have hb : oddBase.length = 28 := rfl
  obtain ⟨v, S', e, hd, hv⟩ := pick_ok h (s := .lst (oddBase ++ tri (oddMore it))) rfl (by simp [oddBase]) (by simp; omega)
  refine ⟨v, S', Fb_len ?_ (by rw [hd.len, h.len]), hd, hv⟩
  rw [b_odd_eq]
  have hG := g.a
  have hwt := g.w
  refine odd_gen (P := P) g base_list (by rw [hb]; decide) ?_ ?_ ?_ e
  · rintro l rfl ρ S h1
    have hl : l.length ≤ 100000 := by
      have := wts_len l
      simp only [wt] at hwt
      omega
    exact tup_list hl h1 S
  · rintro l rfl ρ S h1
    have hl : l.length ≤ 100000 := by
      simp only [wt] at hwt
      omega
    exact str_list (show l.all (· < 128) = true from hG) hl h1 S
  · rintro ρ S hi (⟨i, rfl⟩ | ⟨b, rfl⟩) h1
    · have h2 : i.natAbs < 10 ^ 40 := by simpa only [ga, decide_eq_true_eq] using hG
      simp only [oddMore, if_pos (hi i rfl)]
      exact int_list h2 h1 S
    · exact bl_list h1 S
theorem base_gb : ∀ v ∈ oddBase, Gb 400 2 v := by
  have h : oddBase.all (fun v => ga v && decide (wt v ≤ 400) && decide (dep v ≤ 2)) = true := by decide +kernel
  intro v hv
  have := List.all_eq_true.mp h v hv
  simp only [Bool.and_eq_true, decide_eq_true_eq] at this
  exact ⟨this.1.1, this.1.2, this.2⟩
theorem more_gb {it : Val} {w d : Nat} (g : Gb w d it) : ∀ v ∈ oddMore it, Gb (2 * w + 400) (d + 1) v := by
  have hG := g.a
  have hW := g.w
  have hD := g.d
  intro v hv
  cases it with
  | tup l =>
    simp only [ga] at hG
    simp only [wt] at hW
    simp only [dep] at hD
    have c1 := cut_b (some 1) none l
    have c2 := cut_b none (some (-1)) l
    have c3 := cut_b none (some 1) l
    have r := rev_b l
    simp only [oddMore, oddTup, List.mem_cons, List.not_mem_nil, or_false] at hv
    rcases hv with rfl | rfl | rfl | rfl | rfl | rfl | rfl
    · exact ⟨by simpa only [ga] using hG, by simp only [wt]; omega, by simp only [dep]; omega⟩
    · refine ⟨by simp only [ga, gas_app, hG, gas, Bool.true_and]; decide, by simp only [wt, wts_app, wts]; omega, by simp only [dep, deps_app, deps]; omega⟩
    · exact ⟨by simp only [ga]; exact c1.2.2 hG, by simp only [wt]; omega, by simp only [dep]; omega⟩
    · exact ⟨by simp only [ga]; exact c2.2.2 hG, by simp only [wt]; omega, by simp only [dep]; omega⟩
    · exact ⟨by simp only [ga, r.2.2, hG], by simp only [wt, r.1]; omega, by simp only [dep, r.2.1]; omega⟩
    · exact ⟨by simp only [ga, gas_app, hG, c3.2.2 hG, Bool.and_self], by simp only [wt, wts_app]; omega, by simp only [dep, deps_app]; omega⟩
    · exact ⟨by simp only [ga, gas, hG, Bool.and_self], by simp only [wt, wts]; omega, by simp only [dep, deps]; omega⟩
  | str l =>
    have hA : l.all (· < 128) = true := hG
    simp only [wt] at hW
    have c := strcut none (some (-1)) l
    have hu : (l.map PyProof.Rows.up1).all (· < 128) = true := by
      rw [List.all_eq_true] at hA ⊢
      intro x hx
      obtain ⟨y, hy, rfl⟩ := List.mem_map.mp hx
      have := of_decide_eq_true (hA y hy)
      refine decide_eq_true ?_
      unfold PyProof.Rows.up1
      split <;> omega
    simp only [oddMore, oddStr, List.mem_cons, List.not_mem_nil, or_false] at hv
    rcases hv with rfl | rfl | rfl | rfl | rfl | rfl | rfl | rfl
    · exact ⟨by simp only [ga, List.all_append, hA]; decide, by simp only [wt, List.length_append, List.length_cons, List.length_nil]; omega, by simp only [dep]; omega⟩
    · exact ⟨by simp only [ga, c.2 hA], by simp only [wt]; omega, by simp only [dep]; omega⟩
    · exact ⟨by simp only [ga, hu], by simp only [wt, List.length_map]; omega, by simp only [dep]; omega⟩
    · exact ⟨by simp only [ga, List.all_append, hA]; decide, by simp only [wt, List.length_append, List.length_cons, List.length_nil]; omega, by simp only [dep]; omega⟩
    · exact ⟨by simp only [ga, gas, hA, Bool.and_self], by simp only [wt, wts]; omega, by simp only [dep, deps]; omega⟩
    · exact ⟨by simp only [ga, gas, hA, Bool.and_self], by simp only [wt, wts]; omega, by simp only [dep, deps]; omega⟩
    · exact ⟨by simp only [ga, List.all_reverse, hA], by simp only [wt, List.length_reverse]; omega, by simp only [dep]; omega⟩
    · exact ⟨by simp only [ga, List.all_append, hA]; decide, by simp only [wt, List.length_append, List.length_cons, List.length_nil]; omega, by simp only [dep]; omega⟩
  | int i =>
    simp only [oddMore] at hv
    split at hv
    · rename_i hi
      have hn : ∀ j : Int, j.natAbs < 10 ^ 40 → ga (.int j) = true := fun j hj => decide_eq_true hj
      have hl := digs_len (Nat.lt_of_lt_of_le hi (by decide : 10 ^ 30 ≤ 10 ^ 40))
      simp only [wt] at hW
      simp only [oddInt, List.mem_cons, List.not_mem_nil, or_false] at hv
      rcases hv with rfl | rfl | rfl | rfl | rfl | rfl | rfl | rfl
      · exact ⟨hn _ (by omega), by simp only [wt]; omega, by simp only [dep]; omega⟩
      · exact ⟨hn _ (by omega), by simp only [wt]; omega, by simp only [dep]; omega⟩
      · exact ⟨hn _ (by omega), by simp only [wt]; omega, by simp only [dep]; omega⟩
      · exact ⟨rfl, by simp only [wt]; omega, by simp only [dep]; omega⟩
      · exact ⟨by simp only [ga, gas, Bool.and_true]; exact hG, by simp only [wt, wts]; omega, by simp only [dep, deps]; omega⟩
      · exact ⟨digs_128 i, by simp only [wt]; omega, by simp only [dep]; omega⟩
      · exact ⟨rfl, by simp only [wt]; omega, by simp only [dep]; omega⟩
      · exact ⟨rfl, by simp only [wt]; omega, by simp only [dep]; omega⟩
    · cases hv
  | bl b =>
    have : ∀ v ∈ oddBl b, Gb 400 1 v := by
      have h : (oddBl true).all (fun v => ga v && decide (wt v ≤ 400) && decide (dep v ≤ 1)) = true ∧ (oddBl false).all (fun v => ga v && decide (wt v ≤ 400) && decide (dep v ≤ 1)) = true := by decide +kernel
      intro v hv
      have h' : (oddBl b).all (fun v => ga v && decide (wt v ≤ 400) && decide (dep v ≤ 1)) = true := by cases b; exact h.2; exact h.1
      have := List.all_eq_true.mp h' v hv
      simp only [Bool.and_eq_true, decide_eq_true_eq] at this
      exact ⟨this.1.1, this.1.2, this.2⟩
    exact (this v hv).mono (by omega) (by omega)
  | _ => simp [oddMore] at hv
theorem odd_gb {P : Addr} {S : Store} (h : Dk P S) {it : Val} {w d : Nat} (g : Gb w d it) (hw : w ≤ 90000) (hd : 1 ≤ d) : ∃ v S', f__law_odd [.rf 2, it] S = .ok v S' ∧ Dk P S' ∧ Gb (2 * w + 400) (d + 1) v := by
  obtain ⟨v, S', e, h', hv⟩ := odd_ok h g hw
  refine ⟨v, S', e, h', ?_⟩
  rcases List.mem_append.mp hv with hv | hv
  · exact (base_gb v hv).mono (by omega) (by omega)
  · refine more_gb g v ?_
    simp only [tri, List.mem_append] at hv
    rcases hv with z | z | z <;> exact z
end K46
/-! PL26: the plain law: bent. -/
namespace K46
open L3
open PySem (Addr)
theorem odd_gx {P : Addr} {S : Store} (h : Dk P S) {it : Val} (g : ga it = true) (hw : wt it ≤ 90000) : ∃ v S', f__law_odd [.rf 2, it] S = .ok v S' ∧ Dk P S' ∧ Gb (2 * wt it + 400) (dep it + 2) v := by
  have g : Gb (wt it) (dep it) it := ⟨g, Nat.le_refl _, Nat.le_refl _⟩
  obtain ⟨v, S', e, h', hv⟩ := odd_ok h g hw
  refine ⟨v, S', e, h', ?_⟩
  rcases List.mem_append.mp hv with hv | hv
  · exact (base_gb v hv).mono (by omega) (by omega)
  · refine (more_gb g v ?_).mono (by omega) (by omega)
    simp only [tri, List.mem_append] at hv
    rcases hv with z | z | z <;> exact z
theorem cut_drop (es : List Val) (k : Nat) (h : k ≤ es.length) (S : Store) : gCut (some (k : Int)) none (.tup es) S = .ok (.tup (es.drop k)) S := by
  have e : HT.sIx es.length 0 (some (k : Int)) = k := by
    have : ¬ ((k : Int) < 0) := by omega
    simp [HT.sIx, this]
    omega
  simp only [gCut, cutL, e]
  simp only [HT.sIx]
  rw [List.take_of_length_le (by simp)]
theorem split_at {l : List Val} {k : Nat} {x : Val} (h : l[k]? = some x) : wts l = wts (l.take k) + (wt x + 2) + wts (l.drop (k + 1)) ∧ deps l = max (deps (l.take k)) (max (dep x) (deps (l.drop (k + 1)))) ∧ gas l = (gas (l.take k) && (ga x && gas (l.drop (k + 1)))) := by
  obtain ⟨hk, hx⟩ := List.getElem?_eq_some_iff.mp h
  have e : l = l.take k ++ (x :: l.drop (k + 1)) := by
    rw [← hx, List.getElem_cons_drop, List.take_append_drop]
  refine ⟨?_, ?_, ?_⟩
  · conv => lhs; rw [e]
    rw [wts_app]
    simp only [wts]
    omega
  · conv => lhs; rw [e]
    rw [deps_app]
    simp only [deps]
  · conv => lhs; rw [e]
    rw [gas_app]
    simp only [gas]
theorem bent_ok {P : Addr} : ∀ (n : Nat) {S : Store} (h : Dk P S) {it : Val} (g : ga it = true) (hw : wt it ≤ 90000) (hd : dep it < n), ∃ v S', f__law_bent n [.rf 2, it] S = .ok v S' ∧ Dk P S' ∧ Gb (2 * wt it + 400) (dep it + 2) v
  | 0, _, _, _, _, _, hd => absurd hd (Nat.not_lt_zero _)
  | n + 1, S, h, it, g, hw, hd => by
    obtain ⟨vo, So, eo, ho, go⟩ := odd_gx h g hw
    have hG := ga_gd _ g
    cases it with
    | tup l =>
      have hds : isDs l = true := by
        have := gd_D _ hG
        simpa only [isD] using this
      have hnil := gEq_nil hds
      have hl : l.length ≤ 90000 := by
        have := wts_len l
        simp only [wt] at hw
        omega
      cases hle : l.isEmpty with
      | true =>
        rw [hle] at hnil
        refine ⟨vo, So, Fb_len ?_ (by rw [ho.len, h.len]), ho, go⟩
        simp [b__law_bent, begin, isi_tt, truB, hnil, eo]
      | false =>
        rw [hle] at hnil
        obtain ⟨j, S1, e1, h1, hj0, hj1⟩ := draw_ok h (n := 5) (by decide) (by decide)
        have ej := gEq_int j 4
        cases h4 : (j == 4) with
        | true =>
          rw [h4] at ej
          obtain ⟨vo, So, eo, ho, go⟩ := odd_gx h1 g hw
          refine ⟨vo, So, Fb_len ?_ (by rw [ho.len, h.len]), ho, go⟩
          simp [b__law_bent, begin, isi_tt, truB, hnil, e1, ej, eo]
        | false =>
          rw [h4] at ej
          have hp : 0 < l.length := by
            cases l with
            | nil => simp at hle
            | cons a r => simp
          obtain ⟨k', S2, e2, h2, hk0, hk1⟩ := draw_ok h1 (n := l.length) (by omega) (by omega)
          obtain ⟨k, rfl⟩ := Int.eq_ofNat_of_zero_le hk0
          have hk : k < l.length := by omega
          have hx : l[k]? = some l[k] := List.getElem?_eq_getElem hk
          generalize l[k] = x at hx
          have sp := split_at hx
          simp only [ga] at g
          have g3 := g
          rw [sp.2.2] at g3
          simp only [Bool.and_eq_true] at g3
          simp only [wt] at hw
          simp only [dep] at hd
          obtain ⟨v, S3, e3, h3, gv⟩ := bent_ok n h2 (it := x) g3.2.1 (by omega) (by omega)
          have c1 := cut_take l k (by omega)
          have c2 := cut_drop l (k + 1) (by omega)
          have ix := ixL_nat hx
          have f1 : fit (min k l.length + 1) = true := fit_of (by omega)
          have f2 : fit (min k l.length + 1 + (l.length - (k + 1))) = true := fit_of (by omega)
          have a1 : ∀ S, gAdd (.tup (l.take k)) (.tup [v]) S = .ok (.tup (l.take k ++ [v])) S := by
            intro S
            simp [gAdd, f1]
          have a2 : ∀ S, gAdd (.tup (l.take k ++ [v])) (.tup (l.drop (k + 1))) S = .ok (.tup (l.take k ++ [v] ++ l.drop (k + 1))) S := by
            intro S
            simp [gAdd, f2]
          have hl1 : ∀ S, gLen (.tup l) S = .ok (.int l.length) S := fun S => rfl
          have c2 : ∀ S, gCut (some ((k : Int) + 1)) none (.tup l) S = .ok (.tup (l.drop (k + 1))) S := c2
          refine ⟨.tup (l.take k ++ [v] ++ l.drop (k + 1)), S3, Fb_len ?_ (by rw [h3.len, h.len]), h3, ?_⟩
          · simp [-List.append_assoc, b__law_bent, begin, isi_tt, truB, hnil, e1, ej, hl1, e2, c1, ix, e3, a1, add_ii, c2, a2]
          · have gw := gv.w
            have gd' := gv.d
            refine ⟨?_, ?_, ?_⟩
            · simp only [ga, gas_app, gas, g3.1, gv.a, g3.2.2, Bool.and_self]
            · simp only [wt, wts_app, wts]
              omega
            · simp only [dep, deps_app, deps]
              omega
    | rf _ => simp [ga] at g
    | ktup _ => simp [ga] at g
    | scr _ => simp [ga] at g
    | _ =>
      refine ⟨vo, So, Fb_len ?_ (by rw [ho.len, h.len]), ho, go⟩
      simp [b__law_bent, begin, gIsi, isi, truB, eo]
end K46
/-! PL27: the plain law: the deck. -/
namespace K46
open L3
open PySem (Addr)
theorem deck_loop (v0 : Option Val) (S : Store) : ∀ (l : List Int) (m : Int) (x : Option Val), ∃ m' x', forGo (gNm 2) (mSet 1 (mBin gMod (mUn gInt (mBin gAdd (mBin gAdd (mBin gMul (mVar 1) (mC (.int 48271))) (mBin gMod (mUn gInt (mVar 2)) (mC (.int 2147483629)))) (mC (.int 57)))) (mC (.int 2147483587)))) (l.map Val.int) [v0, some (.int m), x] S = .nx [v0, some (.int m'), x'] S
  | [], m, x => ⟨m, x, rfl⟩
  | c :: l, m, x => by
    obtain ⟨m', x', h⟩ := deck_loop v0 S l ((m * 48271 + c % 2147483629 + 57) % 2147483587) (some (.int c))
    refine ⟨m', x', ?_⟩
    have e1 : ∀ S, gMul (.int m) (.int 48271) S = .ok (.int (m * 48271)) S := mul_r (by decide)
    have e2 : ∀ S, gMod (.int c) (.int 2147483629) S = .ok (.int (c % 2147483629)) S := mod_ii (by decide)
    have e3 : ∀ S, gMod (.int (m * 48271 + c % 2147483629 + 57)) (.int 2147483587) S = .ok (.int ((m * 48271 + c % 2147483629 + 57) % 2147483587)) S := mod_ii (by decide)
    simp [forGo, e1, e2, e3, add_ii, int_i]
    simpa [e1, e2, e3, add_ii, int_i] using h
theorem deck_ok (P : Addr) (ns : List Int) : ∃ S', f__law_deck [.scr ns] [.tab P tabQ] = .ok (.rf 2) S' ∧ Dk P S' := by
  have hc : ∀ S, gCut none (some 63) (.scr ns) S = .ok (.lst ((cutL ns none (some 63)).map Val.int)) S := fun S => rfl
  have hl : (cutL ns none (some 63)).length ≤ 63 := by
    unfold cutL
    simp [HT.sIx]
    omega
  generalize cutL ns none (some 63) = l at hc hl
  obtain ⟨m, x, hf⟩ := deck_loop (some (.scr ns)) [.tab P tabQ] l 13749460 none
  have el : ∀ x S, mLc 2 (mIter (mCut (mVar 0) none (some (mC (.int 63))))) tYesT (mUn gInt (mVar 2)) [some (.scr ns), some (.int m), x] S = .ok (.lst (l.map Val.int)) S := by
    intro x S
    have := lc_map (i := 2) (mi := mIter (mCut (mVar 0) none (some (mC (.int 63))))) (me := mUn gInt (mVar 2)) (ρ := [some (.scr ns), some (.int m), x]) (S := S) (l := l.map Val.int) (f := id) (by simp [hc, itemsOf]) (fun v hv => by
      obtain ⟨i, _, rfl⟩ := List.mem_map.mp hv
      simp [wipeR, int_i]) (by simp; omega)
    simpa using this
  have k1 : (PySem.Str.ofString "left") = L3.mk [108, 101, 102, 116] := by decide +kernel
  have k2 : (PySem.Str.ofString "mixed") = L3.mk [109, 105, 120, 101, 100] := by decide +kernel
  have k3 : (PySem.Str.ofString "draws") = L3.mk [100, 114, 97, 119, 115] := by decide +kernel
  refine ⟨DkS P l.reverse m 0, ?_, ⟨_, m, 0, by simp; omega, rfl⟩⟩
  have main : outOf (b__law_deck (begin 3 [.scr ns]) [.tab P tabQ]) = .ok (.rf 2) (DkS P l.reverse m 0) := by
    simp only [b__law_deck, mSeq, mSet, mC, Out.bindS, OutS.bind, mFor, begin, mIter, mCut, evPart, mVar, List.map_cons, List.map_nil, List.cons_append, List.nil_append, List.getElem?_cons_zero, List.set_cons_succ, List.set_cons_zero, List.length_cons, List.length_nil, List.replicate, Nat.reduceAdd, Nat.reduceSub, Nat.zero_add, Out.bind, hc, Out.bindL, itemsOf]
    rw [hf]
    simp only [mRet, mDisp, mArgs, mUn, Out.bindL]
    rw [el]
    simp [gRevOwn, k1, k2, k3, DkS]
  rw [f__law_deck, Fb, main]
  simp [trunc, DkS, closedV]
end K46
/-! PL28: the plain law: drawn requests and answers. -/
namespace K46
open L3
open PySem (Addr)
def nOk (n : Int) : Bool := n == 0 || n == 1 || n == 1000000000
def cOk (c : List Nat) : Bool := c == [99, 108, 101, 111] || c == [100, 97, 110]
def bOk (b : List Nat) : Bool := decide (b.length ≤ 3) && b.all isPrn
theorem pow9 (S : Store) : gPow (.int 10) (.int 9) S = .ok (.int 1000000000) S := by simp [gPow]
theorem request_ok {P : Addr} {S : Store} (h : Dk P S) : ∃ c n o b S', f__law_drawn_request [.rf 2] S = .ok (.tup [.str c, .int n, .bl o, .str b]) S' ∧ Dk P S' ∧ cOk c = true ∧ nOk n = true ∧ bOk b = true := by
  obtain ⟨v1, S1, e1, h1, m1⟩ := pick_ok h (s := .tup [.str [99, 108, 101, 111], .str [100, 97, 110]]) rfl (by simp) (by decide)
  obtain ⟨v2, S2, e2, h2, m2⟩ := pick_ok h1 (s := .tup [.int 0, .int 1, .int 1000000000]) rfl (by simp) (by decide)
  obtain ⟨n, rfl, hn⟩ : ∃ n, v2 = .int n ∧ nOk n = true := by
    simp only [List.mem_cons, List.not_mem_nil, or_false] at m2
    rcases m2 with rfl | rfl | rfl <;> exact ⟨_, rfl, by decide⟩
  have ne := gNe_int n 1
  simp only [List.mem_cons, List.not_mem_nil, or_false] at m1
  rcases m1 with rfl | rfl
  · have g1 : ∀ S, gEq (.str [99, 108, 101, 111]) (.str [100, 97, 110]) S = .ok (.bl false) S := fun S => rfl
    refine ⟨[99, 108, 101, 111], n, !(n == 1), [97, 98, 99], S2, Fb_len ?_ (by rw [h2.len, h.len]), h2, by decide, hn, by decide⟩
    simp [b__law_drawn_request, begin, e1, pow9, e2, ne, g1]
  · have g1 : ∀ S, gEq (.str [100, 97, 110]) (.str [100, 97, 110]) S = .ok (.bl true) S := fun S => rfl
    obtain ⟨j, S3, e3, h3, j0, j1⟩ := draw_ok h2 (n := 3) (by decide) (by decide)
    obtain ⟨b, hb, ix⟩ : ∃ b, bOk b = true ∧ ∀ S, gIx (.tup [.str [97, 98], .str [], .str [120, 32, 121]]) (.int j) S = .ok (.str b) S := by
      have : j = 0 ∨ j = 1 ∨ j = 2 := by omega
      rcases this with rfl | rfl | rfl
      · exact ⟨[97, 98], by decide, fun S => by simp [gIx, ixL_0]⟩
      · exact ⟨[], by decide, fun S => by simp [gIx, ixL_1]⟩
      · exact ⟨[120, 32, 121], by decide, fun S => by simp [gIx, ixL_2]⟩
    refine ⟨[100, 97, 110], n, !(n == 1), b, S3, Fb_len ?_ (by rw [h3.len, h.len]), h3, by decide, hn, hb⟩
    simp [b__law_drawn_request, begin, e1, pow9, e2, ne, g1, e3, ix]
/-- small entries, as the law draws them -/
def aSm : An → Bool
  | .done t => bOk t
  | .word w => plainB w
def eSm : En → Bool
  | .gone c => cOk c
  | .acc c n _ b => cOk c && nOk n && bOk b
  | .beg c n s m => cOk c && nOk n && (s == [97, 110, 110] || s == [98, 111, 98]) && (m == 1 || m == 2 || m == 3)
  | .ans c n a f => cOk c && nOk n && aSm a && fateB (.str f)
def afV (x : An × List Nat) : Val := .tup [x.1.val, .str x.2]
def afOk (x : An × List Nat) : Bool := aSm x.1 && fateB (.str x.2)
theorem bOk_rev {b : List Nat} (h : bOk b = true) : bOk b.reverse = true := by
  simp only [bOk, Bool.and_eq_true, decide_eq_true_eq] at h ⊢
  simpa using h
theorem bOk_bd {b : List Nat} (h : bOk b = true) : bodyB (.str b) = true := by
  simp only [bOk, bodyB, Bool.and_eq_true, decide_eq_true_eq] at h ⊢
  exact ⟨by omega, h.2⟩
theorem aSm_ok {a : An} (h : aSm a = true) : a.ok = true := by
  cases a with
  | done t => exact bOk_bd h
  | word w => exact h
theorem cOk_w {c : List Nat} (h : cOk c = true) : wordB (.str c) = true := by
  simp only [cOk, Bool.or_eq_true, beq_iff_eq] at h
  rcases h with rfl | rfl <;> decide
theorem nOk_b {n : Int} (h : nOk n = true) : betw 0 1000000000 (.int n) = true := by
  simp only [nOk, Bool.or_eq_true, beq_iff_eq] at h
  rcases h with (rfl | rfl) | rfl <;> decide
theorem eSm_ok {e : En} (h : eSm e = true) : e.ok = true := by
  cases e with
  | gone c => exact cOk_w h
  | acc c n o b =>
    simp only [eSm, Bool.and_eq_true] at h
    simp only [En.ok, Bool.and_eq_true]
    exact ⟨⟨cOk_w h.1.1, nOk_b h.1.2⟩, bOk_bd h.2⟩
  | beg c n s m =>
    simp only [eSm, Bool.and_eq_true, Bool.or_eq_true, beq_iff_eq] at h
    simp only [En.ok, Bool.and_eq_true]
    refine ⟨⟨⟨cOk_w h.1.1.1, nOk_b h.1.1.2⟩, ?_⟩, ?_⟩
    · rcases h.1.2 with z | z <;> rw [z] <;> decide
    · rcases h.2 with (z | z) | z <;> rw [z] <;> decide
  | ans c n a f =>
    simp only [eSm, Bool.and_eq_true] at h
    simp only [En.ok, Bool.and_eq_true]
    exact ⟨⟨⟨cOk_w h.1.1.1, nOk_b h.1.1.2⟩, aSm_ok h.1.2⟩, h.2⟩
def someL (bg o : Bool) (b : List Nat) : List (An × List Nat) :=
  (if bg then [(.done b.reverse, kOpen), (.done b.reverse, kBeg)] else [(.word kNot, kNot)]) ++ (if o then [(.word kUnk, kOpen)] ++ (if bg then [(.word kBeg, kOpen)] else [(.word kNot, kOpen)]) else [(.word kNone, kOpen), (.word kNone, kNot)])
theorem someL_ok (bg o : Bool) {b : List Nat} (h : bOk b = true) : ∀ x ∈ someL bg o b, afOk x = true := by
  have hr := bOk_rev h
  intro x hx
  cases bg <;> cases o <;> simp only [someL, if_true, if_false, Bool.false_eq_true, List.mem_append, List.mem_cons, List.not_mem_nil, or_false, List.cons_append, List.nil_append] at hx
  · rcases hx with rfl | rfl | rfl <;> decide
  · rcases hx with rfl | rfl | rfl <;> decide
  · rcases hx with rfl | rfl | rfl | rfl
    · simp only [afOk, aSm, hr]; decide
    · simp only [afOk, aSm, hr]; decide
    · decide
    · decide
  · rcases hx with rfl | rfl | rfl | rfl
    · simp only [afOk, aSm, hr]; decide
    · simp only [afOk, aSm, hr]; decide
    · decide
    · decide
theorem lc_begun {ρ : Sl} {S : Store} {es : List En} {c : List Nat} {n : Int} (h1 : ρ[1]? = some (some (.tup (es.map En.val)))) (h3 : ρ[3]? = some (some (.str c))) (h4 : ρ[4]? = some (some (.int n))) (hj : ρ.length = 13) (hz : es.length ≤ 16777216) :
    mLc 8 (mIter (mVar 1)) (L3.tAnd (mB (mBin gEq (mBin gIx (mVar 8) (mC (.int 0))) (mC (.str [98, 101, 103, 117, 110])))) (mB (mBin gEq (mCut (mVar 8) (some (mC (.int 1))) (some (mC (.int 3)))) (mTup [(mVar 3), (mVar 4)])))) (mC (.int 1)) ρ S = .ok (.lst ((es.filter fun e => e.kind == kBeg && keyB e (.acc c n true [])).map fun _ => .int 1)) S := by
  have hjj : ∀ v, ((wipeR ρ [8]).set 8 (some v))[8]? = some (some v) := by
    intro v
    simp [wipeR, hj]
  have h3' : ∀ v, ((wipeR ρ [8]).set 8 (some v))[3]? = some (some (.str c)) := by intro v; simp [wipeR, h3]
  have h4' : ∀ v, ((wipeR ρ [8]).set 8 (some v))[4]? = some (some (.int n)) := by intro v; simp [wipeR, h4]
  refine lc_gen (g := En.val) (l := es) (by simp [h1, itemsOf]) (fun e he => ?_) (fun e he _ => rfl) hz
  have ek : ∀ S, gEq (.str e.kind) (.str [98, 101, 103, 117, 110]) S = .ok (.bl (e.kind == kBeg)) S := gEq_str (j := kBeg) e.gs_kind gd_kinds.2.2.1
  have kk : ∀ S, gEq (.tup e.key) (.tup [.str c, .int n]) S = .ok (.bl (keyB e (.acc c n true []))) S := gEq_key e (.acc c n true [])
  cases hk : (e.kind == kBeg) <;> simp [hjj, h3', h4', En.ix0, En.cut13, ek, kk, hk]
def wordsL (b : List Nat) : List An := [.word kBusy, .word kBeg, .word kNot, .word kUnk, .word kNone, .done b, .done [99, 98, 97]]
theorem answered_ok {P : Addr} {S : Store} (h : Dk P S) {es : List En} (hz : es.length ≤ 1000) {c : List Nat} {n : Int} {o : Bool} {b : List Nat} (hc : cOk c = true) (hn : nOk n = true) (hb : bOk b = true) :
    ∃ e S', f__law_answered_entry [.rf 2, .tup (es.map En.val), .tup [.str c, .int n, .bl o, .str b]] S = .ok (En.val e) S' ∧ Dk P S' ∧ eSm e = true := by
  have lb := fun ρ S h1 h3 h4 hj => lc_begun (ρ := ρ) (S := S) (es := es) (c := c) (n := n) h1 h3 h4 hj (by omega)
  have gn := gNe_lnil (isPs_ints 1 (es.filter fun e => e.kind == kBeg && keyB e (.acc c n true [])))
  generalize ((es.filter fun e => e.kind == kBeg && keyB e (.acc c n true [])).map fun _ => Val.int 1) = lx at lb gn
  generalize (!lx.isEmpty) = bg at gn
  have fb : fit b.length = true := fit_of (by simp only [bOk, Bool.and_eq_true, decide_eq_true_eq] at hb; omega)
  have gr : ∀ S, gRev (.str b) S = .ok (.str b.reverse) S := by intro S; simp [gRev, fb]
  obtain ⟨j, S1, e1, h1, j0, j1⟩ := draw_ok h (n := 5) (by decide) (by decide)
  have ej := gEq_int j 4
  have al : ∀ (l m : List Val), l.length + m.length ≤ 100 → ∀ S, gAdd (.lst l) (.lst m) S = .ok (.lst (l ++ m)) S := fun l m hl S => addL l m (by omega) S
  have fin : ∀ (L : List (An × List Nat)) {S : Store}, Dk P S → L ≠ [] → L.length < 1000 → (∀ x ∈ L, afOk x = true) → ∃ va a f S', En.val (.ans c n a f) = .tup [.str [97, 110, 115, 119, 101, 114, 101, 100], .str c, .int n, va, .str f] ∧ f__law_pick [.rf 2, .lst (L.map afV)] S = .ok (.tup [va, .str f]) S' ∧ Dk P S' ∧ eSm (.ans c n a f) = true := by
    intro L S h hne hl hL
    obtain ⟨v, S', e, h', hv⟩ := pick_ok h (s := .lst (L.map afV)) rfl (by simpa using hne) (by simp; omega)
    obtain ⟨x, hx, rfl⟩ := List.mem_map.mp hv
    have := hL x hx
    simp only [afOk, Bool.and_eq_true] at this
    exact ⟨_, x.1, x.2, S', rfl, e, h', by simp only [eSm, hc, hn, this.1, this.2, Bool.and_self]⟩
  cases h4 : (j == 4) with
  | false =>
    rw [h4] at ej
    obtain ⟨va, a, f, S2, ev, e2, h2, hs⟩ := fin (someL bg o b) h1 (by cases bg <;> cases o <;> simp [someL]) (by cases bg <;> cases o <;> simp [someL]) (someL_ok bg o hb)
    refine ⟨.ans c n a f, S2, Fb_len ?_ (by rw [h2.len, h.len]), h2, hs⟩
    rw [ev]
    clear ev
    cases bg <;> cases o <;> simp only [someL, if_true, if_false, Bool.false_eq_true, List.map_cons, List.map_nil, List.cons_append, List.nil_append, afV, An.val, kOpen, kBeg, kNot, kUnk, kNone, kDone] at e2 <;>
    · simp [-mLc, b__law_answered_entry, begin]
      rw [lb _ _ rfl rfl rfl rfl]
      simp [gn, gr, truB, al, e1, ej, e2]
  | true =>
    rw [h4] at ej
    obtain ⟨v1, S2, e2, h2, m2⟩ := pick_ok h1 (s := .tup ((wordsL b).map An.val)) rfl (by simp [wordsL]) (by simp [wordsL])
    obtain ⟨a, ha, rfl⟩ := List.mem_map.mp m2
    obtain ⟨v2, S3, e3, h3, m3⟩ := pick_ok h2 (s := .tup [.str kOpen, .str kBeg, .str kNot, .str []]) rfl (by simp) (by decide)
    obtain ⟨f, rfl, hf⟩ : ∃ f, v2 = .str f ∧ fateB (.str f) = true := by
      simp only [List.mem_cons, List.not_mem_nil, or_false] at m3
      rcases m3 with rfl | rfl | rfl | rfl <;> exact ⟨_, rfl, by decide⟩
    have hsa : aSm a = true := by
      simp only [wordsL, List.mem_cons, List.not_mem_nil, or_false] at ha
      rcases ha with rfl | rfl | rfl | rfl | rfl | rfl | rfl
      · decide
      · decide
      · decide
      · decide
      · decide
      · exact hb
      · decide
    obtain ⟨va, a', f', S4, ev, e4, h4', hs⟩ := fin [(a, f)] h3 (by simp) (by simp) (fun x hx => by
      simp only [List.mem_cons, List.not_mem_nil, or_false] at hx
      subst hx
      simp only [afOk, hsa, hf, Bool.and_self])
    simp only [List.map_cons, List.map_nil, afV] at e4
    generalize a.val = va0 at e2 e4
    simp only [wordsL, List.map_cons, List.map_nil, An.val, kBusy, kBeg, kNot, kUnk, kNone, kDone] at e2
    simp only [kOpen, kBeg, kNot] at e3
    refine ⟨.ans c n a' f', S4, Fb_len ?_ (by rw [h4'.len, h.len]), h4', hs⟩
    rw [ev]
    clear ev
    cases bg <;> cases o <;>
    · simp [-mLc, b__law_answered_entry, begin]
      rw [lb _ _ rfl rfl rfl rfl]
      simp [gn, gr, truB, al, e1, ej, e2, e3, e4]
end K46
/-! PL29: the plain law: drawn pasts. -/
namespace K46
open L3
open PySem (Addr)
def mineL : Ev := (mLc 10 (mIter (mVar 1)) (L3.tAnd (mB (mBin gEq (mBin gIx (mVar 10) (mC (.int 0))) (mC (.str [97, 99, 99, 101, 112, 116, 101, 100])))) (mB (mBin gEq (mCut (mVar 10) (some (mC (.int 1))) (some (mC (.int 3)))) (mTup [(mVar 3), (mVar 4)])))) (mVar 10))
def D4 : Sv := (mIfS (mB (mBin gNe (mVar 9) (mLst []))) (mSeq (mAsg (gTp [5, 6]) (mCut (mBin gIx (mVar 9) (mC (.int 0))) (some (mC (.int 3))) none))
    (mSeq (mSet 7 (mTup [(mC (.str [98, 101, 103, 117, 110])), (mVar 3), (mVar 4), (mCall f__law_pick [(mVar 0), (mTup [(mC (.str [97, 110, 110])), (mC (.str [98, 111, 98]))])]), (mBin gAdd (mC (.int 1)) (mCall f__law_draw [(mVar 0), (mC (.int 3))]))]))
    (mIfS (mB (mBin gGt (mVar 8) (mC (.int 4)))) (mSet 7 (mCall f__law_answered_entry [(mVar 0), (mVar 1), (mTup [(mVar 3), (mVar 4), (mVar 5), (mVar 6)])])) mNil))) mNil)
def D5 : Sv := (mIfS (mB (mBin gEq (mVar 8) (mC (.int 1)))) (mSet 7 (mTup [(mC (.str [97, 110, 115, 119, 101, 114, 101, 100])), (mVar 3), (mVar 4), (mTup [(mC (.str [98, 117, 115, 121]))]), (mC (.str []))])) mNil)
def D6 : Sv := (mIfS (L3.tAnd (mB (mBin gEq (mVar 8) (mC (.int 0)))) (mB (mBin gEq (mCall f__law_draw [(mVar 0), (mC (.int 3))]) (mC (.int 0))))) (mSet 7 (mTup [(mC (.str [103, 111, 110, 101])), (mVar 3)])) mNil)
def D7 : Sv := (mIfS (L3.tOr (mB (mBin gEq (mCall f__law_word_of [(mBin gAdd (mVar 1) (mTup [(mVar 7)])), (mUn gLen (mVar 1))]) (mC (.str [])))) (mB (mBin gEq (mCall f__law_draw [(mVar 0), (mC (.int 8))]) (mC (.int 7))))) (mSet 1 (mBin gAdd (mVar 1) (mTup [(mVar 7)]))) mNil)
def D1 : Sv := (mAsg (gTp [3, 4, 5, 6]) (mCall f__law_drawn_request [(mVar 0)]))
def D2 : Sv := (mPar [7, 8] [(mTup [(mC (.str [97, 99, 99, 101, 112, 116, 101, 100])), (mVar 3), (mVar 4), (mVar 5), (mVar 6)]), (mCall f__law_draw [(mVar 0), (mC (.int 10))])])
def DB : Sv := mSeq D1 (mSeq D2 (mSeq (mSet 9 mineL) (mSeq D4 (mSeq D5 (mSeq D6 D7)))))
theorem drawn_eq : b__law_drawn_past = (mSeq (mSet 1 (mTup []))
    (mSeq (mFor (mRange (mCall f__law_pick [(mVar 0), (mTup [(mC (.int 6)), (mC (.int 9)), (mC (.int 3)), (mC (.int 12)), (mC (.int 1)), (mC (.int 16)), (mC (.int 0)), (mC (.int 8))])])) (gNm 2) DB)
    (mRet (mVar 1)))) := rfl
theorem lc_mineA {ρ : Sl} {S : Store} {es : List En} {c : List Nat} {n : Int} (h1 : ρ[1]? = some (some (.tup (es.map En.val)))) (h3 : ρ[3]? = some (some (.str c))) (h4 : ρ[4]? = some (some (.int n))) (hj : ρ.length = 11) (hz : es.length ≤ 16777216) :
    mineL ρ S = .ok (.lst ((es.filter fun e => e.kind == kAcc && keyB e (.acc c n true [])).map En.val)) S := by
  have hjj : ∀ v, ((wipeR ρ [10]).set 10 (some v))[10]? = some (some v) := by
    intro v
    simp [wipeR, hj]
  have h3' : ∀ v, ((wipeR ρ [10]).set 10 (some v))[3]? = some (some (.str c)) := by intro v; simp [wipeR, h3]
  have h4' : ∀ v, ((wipeR ρ [10]).set 10 (some v))[4]? = some (some (.int n)) := by intro v; simp [wipeR, h4]
  refine lc_gen (g := En.val) (l := es) (by simp [h1, itemsOf]) (fun e he => ?_) (fun e he _ => by simp [hjj]) hz
  have ek : ∀ S, gEq (.str e.kind) (.str [97, 99, 99, 101, 112, 116, 101, 100]) S = .ok (.bl (e.kind == kAcc)) S := gEq_str (j := kAcc) e.gs_kind gd_kinds.2.1
  have kk : ∀ S, gEq (.tup e.key) (.tup [.str c, .int n]) S = .ok (.bl (keyB e (.acc c n true []))) S := gEq_key e (.acc c n true [])
  cases hk : (e.kind == kAcc) <;> simp [hjj, h3', h4', En.ix0, En.cut13, ek, kk, hk]
/-- the names' values in the loop -/
def Rw (es : List En) (c : List Nat) (n : Int) (e : En) (w : Int) (ρ : Sl) : Prop := ∃ x2 x5 x6 x9 x10, ρ = [some (.rf 2), some (.tup (es.map En.val)), x2, some (.str c), some (.int n), x5, x6, some e.val, some (.int w), x9, x10]
section
variable {P : Addr} {S : Store} {es : List En} {c : List Nat} {n : Int} {w : Int} {e : En}
theorem D5_ok (hc : cOk c = true) (hn : nOk n = true) (he : eSm e = true) {ρ : Sl} (r : Rw es c n e w ρ) : ∃ e' ρ', D5 ρ S = .nx ρ' S ∧ Rw es c n e' w ρ' ∧ eSm e' = true := by
  obtain ⟨x2, x5, x6, x9, x10, rfl⟩ := r
  have ew := gEq_int w 1
  cases hw : (w == 1) with
  | true =>
    rw [hw] at ew
    refine ⟨.ans c n busy [], _, ?_, ⟨x2, x5, x6, x9, x10, rfl⟩, by simp only [eSm, hc, hn]; decide⟩
    simp [D5, ew, En.val, An.val, busy, kBusy, kAns]
  | false =>
    rw [hw] at ew
    refine ⟨e, _, ?_, ⟨x2, x5, x6, x9, x10, rfl⟩, he⟩
    simp [D5, ew]
theorem D6_ok (h : Dk P S) (hc : cOk c = true) (he : eSm e = true) {ρ : Sl} (r : Rw es c n e w ρ) : ∃ e' ρ' S', D6 ρ S = .nx ρ' S' ∧ Dk P S' ∧ Rw es c n e' w ρ' ∧ eSm e' = true := by
  obtain ⟨x2, x5, x6, x9, x10, rfl⟩ := r
  have ew := gEq_int w 0
  cases hw : (w == 0) with
  | false =>
    rw [hw] at ew
    refine ⟨e, _, S, ?_, h, ⟨x2, x5, x6, x9, x10, rfl⟩, he⟩
    simp [D6, ew]
  | true =>
    rw [hw] at ew
    obtain ⟨j, S1, e1, h1, j0, j1⟩ := draw_ok h (n := 3) (by decide) (by decide)
    have ej := gEq_int j 0
    cases hj : (j == 0) with
    | false =>
      rw [hj] at ej
      refine ⟨e, _, S1, ?_, h1, ⟨x2, x5, x6, x9, x10, rfl⟩, he⟩
      simp [D6, ew, e1, ej]
    | true =>
      rw [hj] at ej
      refine ⟨.gone c, _, S1, ?_, h1, ⟨x2, x5, x6, x9, x10, rfl⟩, hc⟩
      simp [D6, ew, e1, ej, En.val, kGone]
theorem D7_ok (h : Dk P S) (hz : es.length ≤ 1000) (hes : ∀ e ∈ es, eSm e = true) (he : eSm e = true) {ρ : Sl} (r : Rw es c n e w ρ) : ∃ (es' : List En) (ρ' : Sl) (S' : Store), D7 ρ S = .nx ρ' S' ∧ Dk P S' ∧ (∃ x2 x3 x4 x5 x6 x7 x8 x9 x10, ρ' = [some (.rf 2), some (.tup (es'.map En.val)), x2, x3, x4, x5, x6, x7, x8, x9, x10]) ∧ (∀ e ∈ es', eSm e = true) ∧ es'.length ≤ es.length + 1 := by
  obtain ⟨x2, x5, x6, x9, x10, rfl⟩ := r
  have hes' : ∀ e' ∈ es ++ [e], eSm e' = true := by
    intro e' he'
    rcases List.mem_append.mp he' with z | z
    · exact hes e' z
    · simp only [List.mem_cons, List.not_mem_nil, or_false] at z
      rw [z]; exact he
  have hl : (es.map En.val).length = es.length := by simp
  have hf : fit (es.length + 1) = true := fit_of (by omega)
  have ad : ∀ S, gAdd (.tup (es.map En.val)) (.tup [e.val]) S = .ok (.tup ((es ++ [e]).map En.val)) S := by
    intro S
    simp [gAdd, hf]
  have wo := word_of (es := es ++ [e]) (k := es.length) (row := e) (by simp) (by simp; omega) (fun e' he' => eSm_ok (hes' e' he'))
  have ln : ∀ S, gLen (.tup (es.map En.val)) S = .ok (.int es.length) S := by intro S; simp [gLen]
  have eq := gEq_str (wordOf_gd ((es ++ [e]).take es.length) e) (show gd (.str []) = true by decide)
  generalize wordOf ((es ++ [e]).take es.length) e = wd at wo eq
  cases hw : (wd == []) with
  | true =>
    rw [hw] at eq
    refine ⟨es ++ [e], _, S, ?_, h, ⟨x2, some (.str c), some (.int n), x5, x6, some e.val, some (.int w), x9, x10, rfl⟩, hes', by simp⟩
    simp [-List.map_append, D7, ad, ln, wo, eq]
  | false =>
    rw [hw] at eq
    obtain ⟨j, S1, e1, h1, j0, j1⟩ := draw_ok h (n := 8) (by decide) (by decide)
    have ej := gEq_int j 7
    cases hj : (j == 7) with
    | true =>
      rw [hj] at ej
      refine ⟨es ++ [e], _, S1, ?_, h1, ⟨x2, some (.str c), some (.int n), x5, x6, some e.val, some (.int w), x9, x10, rfl⟩, hes', by simp⟩
      simp [-List.map_append, D7, ad, ln, wo, eq, e1, ej]
    | false =>
      rw [hj] at ej
      refine ⟨es, _, S1, ?_, h1, ⟨x2, some (.str c), some (.int n), x5, x6, some e.val, some (.int w), x9, x10, rfl⟩, hes, by simp⟩
      simp [-List.map_append, D7, ad, ln, wo, eq, e1, ej]
theorem D4_ok (h : Dk P S) (hz : es.length ≤ 1000) (hes : ∀ e ∈ es, eSm e = true) (hc : cOk c = true) (hn : nOk n = true) (he : eSm e = true) {x2 x10 : Option Val} {o : Bool} {b : List Nat} {A : List En} (hA : ∀ a ∈ A, a ∈ es ∧ a.kind = kAcc) :
    ∃ e' ρ' S', D4 [some (.rf 2), some (.tup (es.map En.val)), x2, some (.str c), some (.int n), some (.bl o), some (.str b), some e.val, some (.int w), some (.lst (A.map En.val)), x10] S = .nx ρ' S' ∧ Dk P S' ∧ Rw es c n e' w ρ' ∧ eSm e' = true := by
  have nb := gNe_lnil (l := A.map En.val) (isPs_ens (fun a ha => En.gd_ok (eSm_ok (hes a (hA a ha).1))))
  cases A with
  | nil =>
    refine ⟨e, _, S, ?_, h, ⟨x2, some (.bl o), some (.str b), some (.lst []), x10, rfl⟩, he⟩
    have n0 : ∀ S, gNe (.lst []) (.lst []) S = .ok (.bl false) S := fun S => rfl
    simp [D4, n0]
  | cons a A =>
    have ha := hA a (List.mem_cons_self ..)
    have hsa := hes a ha.1
    cases a with
    | acc c' n' o' b' =>
      simp only [eSm, Bool.and_eq_true] at hsa
      have nb : ∀ S, gNe (.lst ((En.acc c' n' o' b').val :: A.map En.val)) (.lst []) S = .ok (.bl true) S := nb
      have ix : ∀ S, gIx (.lst ((En.acc c' n' o' b').val :: A.map En.val)) (.int 0) S = .ok (En.acc c' n' o' b').val S := by intro S; simp [gIx, ixL_0]
      have cu : ∀ S, gCut (some 3) none (En.acc c' n' o' b').val S = .ok (.tup [.bl o', .str b']) S := by intro S; simp [En.val, gCut]; rfl
      obtain ⟨v1, S1, e1, h1, m1⟩ := pick_ok h (s := .tup [.str [97, 110, 110], .str [98, 111, 98]]) rfl (by simp) (by decide)
      obtain ⟨s, rfl, hs⟩ : ∃ s, v1 = .str s ∧ (s == [97, 110, 110] || s == [98, 111, 98]) = true := by
        simp only [List.mem_cons, List.not_mem_nil, or_false] at m1
        rcases m1 with rfl | rfl <;> exact ⟨_, rfl, by decide⟩
      obtain ⟨j, S2, e2, h2, j0, j1⟩ := draw_ok h1 (n := 3) (by decide) (by decide)
      have hm : (1 + j == 1 || 1 + j == 2 || 1 + j == 3) = true := by
        have : j = 0 ∨ j = 1 ∨ j = 2 := by omega
        rcases this with rfl | rfl | rfl <;> decide
      have gw : ∀ S, gGt (.int w) (.int 4) S = .ok (.bl (decide (4 < w))) S := fun S => rfl
      by_cases hw : 4 < w
      · obtain ⟨e3, S3, q3, h3, hs3⟩ := answered_ok h2 hz (o := o') (b := b') hc hn hsa.2
        refine ⟨e3, _, S3, ?_, h3, ⟨x2, some (.bl o'), some (.str b'), some (.lst ((En.acc c' n' o' b').val :: A.map En.val)), x10, rfl⟩, hs3⟩
        simp [D4, nb, ix, cu, e1, e2, add_ii, gw, hw, q3]
      · refine ⟨.beg c n s (1 + j), _, S2, ?_, h2, ⟨x2, some (.bl o'), some (.str b'), some (.lst ((En.acc c' n' o' b').val :: A.map En.val)), x10, rfl⟩, by simp only [eSm, hc, hn, hs, hm, Bool.and_self]⟩
        have eb : (En.beg c n s (1 + j)).val = .tup [.str [98, 101, 103, 117, 110], .str c, .int n, .str s, .int (1 + j)] := rfl
        simp [D4, nb, ix, cu, e1, e2, add_ii, gw, hw, eb]
    | _ => have := ha.2; simp [En.kind, kGone, kAcc, kBeg, kAns] at this
theorem DB_ok (h : Dk P S) (hz : es.length ≤ 1000) (hes : ∀ e ∈ es, eSm e = true) {x2 x3 x4 x5 x6 x7 x8 x9 x10 : Option Val} :
    ∃ (es' : List En) (ρ' : Sl) (S' : Store), DB [some (.rf 2), some (.tup (es.map En.val)), x2, x3, x4, x5, x6, x7, x8, x9, x10] S = .nx ρ' S' ∧ Dk P S' ∧ (∃ x2 x3 x4 x5 x6 x7 x8 x9 x10, ρ' = [some (.rf 2), some (.tup (es'.map En.val)), x2, x3, x4, x5, x6, x7, x8, x9, x10]) ∧ (∀ e ∈ es', eSm e = true) ∧ es'.length ≤ es.length + 1 := by
  obtain ⟨c, n, o, b, S1, e1, h1, hc, hn, hb⟩ := request_ok h
  obtain ⟨w, S2, e2, h2, w0, w1⟩ := draw_ok h1 (n := 10) (by decide) (by decide)
  have p1 : D1 [some (.rf 2), some (.tup (es.map En.val)), x2, x3, x4, x5, x6, x7, x8, x9, x10] S = .nx [some (.rf 2), some (.tup (es.map En.val)), x2, some (.str c), some (.int n), some (.bl o), some (.str b), x7, x8, x9, x10] S1 := by
    simp [D1, e1]
  have p2 : D2 [some (.rf 2), some (.tup (es.map En.val)), x2, some (.str c), some (.int n), some (.bl o), some (.str b), x7, x8, x9, x10] S1 = .nx [some (.rf 2), some (.tup (es.map En.val)), x2, some (.str c), some (.int n), some (.bl o), some (.str b), some (En.acc c n o b).val, some (.int w), x9, x10] S2 := by
    simp [D2, e2, En.val, kAcc]
  have p3 := lc_mineA (ρ := [some (.rf 2), some (.tup (es.map En.val)), x2, some (.str c), some (.int n), some (.bl o), some (.str b), some (En.acc c n o b).val, some (.int w), x9, x10]) (S := S2) (es := es) (c := c) (n := n) rfl rfl rfl rfl (by omega)
  have hA : ∀ a ∈ es.filter (fun e => e.kind == kAcc && keyB e (.acc c n true [])), a ∈ es ∧ a.kind = kAcc := by
    intro a ha
    have := List.mem_filter.mp ha
    simp only [Bool.and_eq_true, beq_iff_eq] at this
    exact ⟨this.1, this.2.1⟩
  obtain ⟨e4, ρ4, S4, p4, h4, r4, s4⟩ := D4_ok (x2 := x2) (x10 := x10) (o := o) (b := b) (w := w) (e := .acc c n o b) h2 hz hes hc hn (by simp only [eSm, hc, hn, hb, Bool.and_self]) hA
  obtain ⟨e5, ρ5, p5, r5, s5⟩ := D5_ok (S := S4) hc hn s4 r4
  obtain ⟨e6, ρ6, S6, p6, h6, r6, s6⟩ := D6_ok h4 hc s5 r5
  obtain ⟨es', ρ7, S7, p7, h7, r7, s7, l7⟩ := D7_ok h6 hz hes s6 r6
  refine ⟨es', ρ7, S7, ?_, h7, r7, s7, l7⟩
  simp only [DB, mSeq, p1, OutS.bind, p2, mSet, p3, Out.bindS, List.set_cons_succ, List.set_cons_zero, p4, p5, p6, p7]
end
theorem drawn_loop {P : Addr} : ∀ (l : List Val) {S : Store}, Dk P S → ∀ {es : List En}, es.length + l.length ≤ 1000 → (∀ e ∈ es, eSm e = true) → ∀ (x2 x3 x4 x5 x6 x7 x8 x9 x10 : Option Val),
    ∃ (es' : List En) (ρ' : Sl) (S' : Store), forGo (gNm 2) DB l [some (.rf 2), some (.tup (es.map En.val)), x2, x3, x4, x5, x6, x7, x8, x9, x10] S = .nx ρ' S' ∧ Dk P S' ∧ ρ'[1]? = some (some (.tup (es'.map En.val))) ∧ (∀ e ∈ es', eSm e = true) ∧ es'.length ≤ es.length + l.length
  | [], S, h, es, hz, hes, x2, x3, x4, x5, x6, x7, x8, x9, x10 => ⟨es, _, S, rfl, h, rfl, hes, by simp⟩
  | v :: l, S, h, es, hz, hes, x2, x3, x4, x5, x6, x7, x8, x9, x10 => by
    simp only [List.length_cons] at hz
    obtain ⟨es1, ρ1, S1, p1, h1, ⟨y2, y3, y4, y5, y6, y7, y8, y9, y10, rfl⟩, s1, l1⟩ := DB_ok (x2 := some v) (x3 := x3) (x4 := x4) (x5 := x5) (x6 := x6) (x7 := x7) (x8 := x8) (x9 := x9) (x10 := x10) h (by omega) hes
    obtain ⟨es2, ρ2, S2, p2, h2, q2, s2, l2⟩ := drawn_loop l h1 (es := es1) (by omega) s1 y2 y3 y4 y5 y6 y7 y8 y9 y10
    refine ⟨es2, ρ2, S2, ?_, h2, q2, s2, by simp only [List.length_cons]; omega⟩
    simp only [forGo, gNm, List.set_cons_succ, List.set_cons_zero, p1, p2]
theorem drawn_ok {P : Addr} {S : Store} (h : Dk P S) : ∃ (es : List En) (S' : Store), f__law_drawn_past [.rf 2] S = .ok (.tup (es.map En.val)) S' ∧ Dk P S' ∧ (∀ e ∈ es, eSm e = true) ∧ es.length ≤ 16 := by
  obtain ⟨v, S1, e1, h1, m1⟩ := pick_ok h (s := .tup [.int 6, .int 9, .int 3, .int 12, .int 1, .int 16, .int 0, .int 8]) rfl (by simp) (by decide)
  obtain ⟨k, rfl, hk⟩ : ∃ k : Nat, v = .int k ∧ k ≤ 16 := by
    simp only [List.mem_cons, List.not_mem_nil, or_false] at m1
    rcases m1 with rfl | rfl | rfl | rfl | rfl | rfl | rfl | rfl
    · exact ⟨6, rfl, by decide⟩
    · exact ⟨9, rfl, by decide⟩
    · exact ⟨3, rfl, by decide⟩
    · exact ⟨12, rfl, by decide⟩
    · exact ⟨1, rfl, by decide⟩
    · exact ⟨16, rfl, by decide⟩
    · exact ⟨0, rfl, by decide⟩
    · exact ⟨8, rfl, by decide⟩
  obtain ⟨es, ρ, S2, e2, h2, q2, s2, l2⟩ := drawn_loop ((List.range k).map fun i => Val.int (i : Nat)) h1 (es := []) (by simp; omega) (by simp) none none none none none none none none none
  refine ⟨es, S2, Fb_len ?_ (by rw [h2.len, h.len]), h2, s2, by simp at l2; omega⟩
  rw [drawn_eq]
  have hr : decide ((0 : Int) ≤ k ∧ (k : Int) ≤ 1000000) = true := decide_eq_true (by omega)
  have hk' : ((k : Int)).toNat = k := by simp
  have er : (mRange (mCall f__law_pick [(mVar 0), (mTup [(mC (.int 6)), (mC (.int 9)), (mC (.int 3)), (mC (.int 12)), (mC (.int 1)), (mC (.int 16)), (mC (.int 0)), (mC (.int 8))])])) [some (.rf 2), some (.tup []), none, none, none, none, none, none, none, none, none] S = .ok ((List.range k).map fun i => Val.int (i : Nat)) S1 := by
    simp only [mRange, mCall, mArgs, mVar, mTup, mC, List.getElem?_cons_zero, Out.bindL, OutL.bindL, OutL.bind, Out.bind, e1, hr, if_true, hk']
  simp only [mSeq, mSet, mTup, mArgs, OutL.bind, Out.bindS, OutS.bind, begin, List.map_cons, List.map_nil, List.cons_append, List.nil_append, List.length_cons, List.length_nil, List.replicate, Nat.reduceAdd, Nat.reduceSub, Nat.zero_add, List.set_cons_succ, List.set_cons_zero, mFor, er]
  simp only [List.map_nil] at e2
  rw [e2]
  simp only [OutS.bind, mRet, mVar, q2, Out.bindS, outOf]
end K46
/-! PL30: the plain law: values near a certificate. -/
namespace K46
open L3
open PySem (Addr)
def wordsV : List Val := [.str [116, 119, 105, 99, 101, 32, 97, 99, 99, 101, 112, 116, 101, 100], .str [110, 111, 116, 32, 97, 99, 99, 101, 112, 116, 101, 100], .str [103, 111, 110, 101], .str [116, 119, 105, 99, 101, 32, 98, 101, 103, 117, 110], .str [97, 102, 116, 101, 114, 32, 110, 111], .str [116, 119, 105, 99, 101, 32, 97, 110, 115, 119, 101, 114, 101, 100], .str [107, 105, 110, 100], .str [114, 101, 112, 108, 121], .str [98, 101, 103, 117, 110], .str [110, 111, 116, 32, 98, 101, 103, 117, 110], .str [102, 97, 116, 101]]
def N0 : Ev := (mTup [(mC (.str [116, 119, 105, 99, 101, 32, 97, 99, 99, 101, 112, 116, 101, 100])), (mC (.str [110, 111, 116, 32, 97, 99, 99, 101, 112, 116, 101, 100])), (mC (.str [103, 111, 110, 101])), (mC (.str [116, 119, 105, 99, 101, 32, 98, 101, 103, 117, 110])), (mC (.str [97, 102, 116, 101, 114, 32, 110, 111])), (mC (.str [116, 119, 105, 99, 101, 32, 97, 110, 115, 119, 101, 114, 101, 100])), (mC (.str [107, 105, 110, 100])), (mC (.str [114, 101, 112, 108, 121])), (mC (.str [98, 101, 103, 117, 110])), (mC (.str [110, 111, 116, 32, 98, 101, 103, 117, 110])), (mC (.str [102, 97, 116, 101]))])
def N2 : Ev := (mUn gList (mVar 1))
def N3 : Ev := (mBin gAdd (mVar 1) (mTup [(mC (.int 0))]))
def N4 : Ev := (mCut (mVar 1) none (some (mUn gNeg (mC (.int 1)))))
def N5 : Ev := (mBin gAdd (mBin gAdd (mCut (mVar 1) none (some (mC (.int 1)))) (mTup [(mBin gAdd (mBin gIx (mVar 1) (mC (.int 1))) (mC (.int 1)))])) (mCut (mVar 1) (some (mC (.int 2))) none))
def N6 : Ev := (mBin gAdd (mBin gAdd (mCut (mVar 1) none (some (mC (.int 1)))) (mTup [(mBin gSub (mBin gIx (mVar 1) (mC (.int 1))) (mC (.int 1)))])) (mCut (mVar 1) (some (mC (.int 2))) none))
def N7 : Ev := (mTup [(mC (.str [107, 101, 112, 116])), (mBin gIx (mVar 1) (mC (.int 1)))])
def N8 : Ev := (mTup [(mC (.str [107, 101, 112, 116])), (mC (.int 0))])
def N9 : Ev := (mTup [(mC (.str [98, 114, 111, 107, 101, 110])), (mBin gIx (mVar 1) (mC (.int 1))), (mCall f__law_pick [(mVar 0), (mVar 2)])])
def N10 : Ev := (mTup [(mC (.str [98, 114, 111, 107, 101, 110])), (mC (.int 0)), (mBin gIx (mVar 1) (mUn gNeg (mC (.int 1))))])
def N11 : Ev := (mBin gAdd (mTup [(mUn gUpper (mBin gIx (mVar 1) (mC (.int 0))))]) (mCut (mVar 1) (some (mC (.int 1))) none))
def N12 : Ev := (mBin gAdd (mBin gAdd (mCut (mVar 1) none (some (mC (.int 1)))) (mTup [(mBin gEq (mBin gIx (mVar 1) (mC (.int 1))) (mC (.int 1)))])) (mCut (mVar 1) (some (mC (.int 2))) none))
def N13 : Ev := (mBin gAdd (mBin gAdd (mCut (mVar 1) none (some (mC (.int 1)))) (mTup [(mUn gStr (mBin gIx (mVar 1) (mC (.int 1))))])) (mCut (mVar 1) (some (mC (.int 2))) none))
def b_near (n0 n2 n3 n4 n5 n6 n7 n8 n9 n10 n11 n12 n13 : Ev) : Sv :=
  (mSeq (mSet 2 n0)
    (mSeq (mSet 3 (mLst [(mVar 1), n2, n3, n4, n5, n6, n7, n8, n9, n10, n11, n12, n13]))
    (mRet (mCall f__law_pick [(mVar 0), (mBin gAdd (mVar 3) (mLst [(mVar 1), (mCall (f__law_bent 12) [(mVar 0), (mVar 1)]), (mCall f__law_odd [(mVar 0), (mC .non)])]))]))))
theorem near_eq : b__law_near = b_near N0 N2 N3 N4 N5 N6 N7 N8 N9 N10 N11 N12 N13 := rfl
/-- a certificate's head and tail -/
theorem cert_cut (a k : Val) (r : List Val) (hr : r.length ≤ 1) : (∀ S, gCut none (some 1) (.tup (a :: k :: r)) S = .ok (.tup [a]) S) ∧ (∀ S, gCut (some 2) none (.tup (a :: k :: r)) S = .ok (.tup r) S) ∧ (∀ S, gCut (some 1) none (.tup (a :: k :: r)) S = .ok (.tup (k :: r)) S)
    ∧ (∃ x, x ∈ a :: k :: r ∧ ∀ S, gIx (.tup (a :: k :: r)) (.int (-1)) S = .ok x S) := by
  match r, hr with
  | [], _ => exact ⟨fun S => rfl, fun S => rfl, fun S => rfl, k, by simp, fun S => rfl⟩
  | [w], _ => exact ⟨fun S => rfl, fun S => rfl, fun S => rfl, w, by simp, fun S => rfl⟩
theorem near_gen {P : Addr} {S : Store} {due : Val} {n0 n2 n3 n4 n5 n6 n7 n8 n9 n10 n11 n12 n13 : Ev} {v0 v2 v3 v4 v5 v6 v7 v8 v9 v10 v11 v12 v13 vb vo v : Val} {S1 S2 S3 S4 : Store}
    (h0 : ∀ ρ S, n0 ρ S = .ok v0 S) (h2 : ∀ (ρ : Sl) S, ρ[1]? = some (some due) → n2 ρ S = .ok v2 S) (h3 : ∀ (ρ : Sl) S, ρ[1]? = some (some due) → n3 ρ S = .ok v3 S) (h4 : ∀ (ρ : Sl) S, ρ[1]? = some (some due) → n4 ρ S = .ok v4 S) (h5 : ∀ (ρ : Sl) S, ρ[1]? = some (some due) → n5 ρ S = .ok v5 S) (h6 : ∀ (ρ : Sl) S, ρ[1]? = some (some due) → n6 ρ S = .ok v6 S)
    (h7 : ∀ (ρ : Sl) S, ρ[1]? = some (some due) → n7 ρ S = .ok v7 S) (h8 : ∀ (ρ : Sl) S, n8 ρ S = .ok v8 S) (h9 : ∀ (ρ : Sl), ρ[0]? = some (some (.rf 2)) → ρ[1]? = some (some due) → ρ[2]? = some (some v0) → n9 ρ S = .ok v9 S1) (h10 : ∀ (ρ : Sl) S, ρ[1]? = some (some due) → n10 ρ S = .ok v10 S) (h11 : ∀ (ρ : Sl) S, ρ[1]? = some (some due) → n11 ρ S = .ok v11 S) (h12 : ∀ (ρ : Sl) S, ρ[1]? = some (some due) → n12 ρ S = .ok v12 S) (h13 : ∀ (ρ : Sl) S, ρ[1]? = some (some due) → n13 ρ S = .ok v13 S)
    (hb : f__law_bent 12 [.rf 2, due] S1 = .ok vb S2) (ho : f__law_odd [.rf 2, .non] S2 = .ok vo S3) (hp : f__law_pick [.rf 2, .lst [due, v2, v3, v4, v5, v6, v7, v8, v9, v10, v11, v12, v13, due, vb, vo]] S3 = .ok v S4) :
    outOf (b_near n0 n2 n3 n4 n5 n6 n7 n8 n9 n10 n11 n12 n13 (begin 4 [.rf 2, due]) S) = .ok v S4 := by
  have a1 : ∀ S, gAdd (.lst [due, v2, v3, v4, v5, v6, v7, v8, v9, v10, v11, v12, v13]) (.lst [due, vb, vo]) S = .ok (.lst [due, v2, v3, v4, v5, v6, v7, v8, v9, v10, v11, v12, v13, due, vb, vo]) S := addL _ _ (by simp)
  simp only [b_near, begin, mSeq, mSet, h0, Out.bindS, OutS.bind, List.map_cons, List.map_nil, List.cons_append, List.nil_append, List.length_cons, List.length_nil, List.replicate, Nat.reduceAdd, Nat.reduceSub, Nat.zero_add, List.set_cons_succ, List.set_cons_zero, mLst, mArgs, Out.bindL, mVar, List.getElem?_cons_zero, List.getElem?_cons_succ, h2, h3, h4, h5, h6, h7, h8, h9, h10, h11, h12, h13, OutL.bindL, OutL.bind, mRet, mCall, mBin, Out.bind, mC, hb, ho, a1, hp, outOf]
theorem tup_app {l m : List Val} (h : l.length + m.length ≤ 100) (S : Store) : gAdd (.tup l) (.tup m) S = .ok (.tup (l ++ m)) S := by
  have hf : fit (l.length + m.length) = true := fit_of (by omega)
  simp [gAdd, hf]
/-- all that is near -/
theorem near_ok {P : Addr} {S : Store} (h : Dk P S) {a : List Nat} {k : Int} {r : List Val} (ha : a.all (· < 128) = true) (hal : a.length ≤ 10) (hk : k.natAbs ≤ 100000) (hr : r.length ≤ 1) (hrg : ∀ x ∈ r, Gb 300 0 x) :
    ∃ v S', f__law_near [.rf 2, .tup (.str a :: .int k :: r)] S = .ok v S' ∧ Dk P S' ∧ Gb 5000 5 v := by
  obtain ⟨c1, c2, c3, x, hx, ix⟩ := cert_cut (.str a) (.int k) r hr
  have ga' : Gb 300 0 (.str a) := ⟨ha, by simp only [wt]; omega, by simp [dep]⟩
  have hki : ∀ j : Int, j.natAbs ≤ 100001 → Gb 300 0 (.int j) := fun j hj => ⟨decide_eq_true (Nat.lt_of_le_of_lt hj (by decide)), by simp only [wt]; omega, by simp [dep]⟩
  have hd : ∀ y ∈ Val.str a :: .int k :: r, Gb 300 0 y := by
    intro y hy
    simp only [List.mem_cons] at hy
    rcases hy with rfl | rfl | hy
    · exact ga'
    · exact hki k (by omega)
    · exact hrg y hy
  have tb : ∀ l : List Val, l.length ≤ 4 → (∀ y ∈ l, Gb 300 0 y) → Gb 2000 1 (.tup l) ∧ Gb 2000 1 (.lst l) := by
    intro l hl hy
    have : wts l ≤ 302 * l.length ∧ deps l = 0 ∧ gas l = true := by
      clear hl
      induction l with
      | nil => simp [wts, deps, gas]
      | cons y l ih =>
        have h1 := hy y (List.mem_cons_self ..)
        have h2 := ih fun z hz => hy z (List.mem_cons_of_mem _ hz)
        have := h1.w
        have hd0 := h1.d
        have h21 := h2.1
        have h22 := h2.2.1
        refine ⟨by simp only [wts, List.length_cons]; omega, by simp only [deps]; omega, by simp only [gas, h1.a, h2.2.2, Bool.and_self]⟩
    refine ⟨⟨this.2.2, ?_, ?_⟩, ⟨this.2.2, ?_, ?_⟩⟩
    · simp only [wt]; omega
    · simp only [dep]; omega
    · simp only [wt]; omega
    · simp only [dep]; omega
  have hdue := tb (.str a :: .int k :: r) (by simp only [List.length_cons]; omega) hd
  have i0 : ∀ S, gIx (.tup (.str a :: .int k :: r)) (.int 0) S = .ok (.str a) S := by intro S; simp [gIx, ixL_0]
  have i1 : ∀ S, gIx (.tup (.str a :: .int k :: r)) (.int 1) S = .ok (.int k) S := by intro S; simp [gIx, ixL_1]
  have n1 : ∀ i S, gNeg (.int i) S = .ok (.int (-i)) S := fun i S => rfl
  have gc : ∀ lo hi S, gCut lo hi (.tup (.str a :: .int k :: r)) S = .ok (.tup (cutL (.str a :: .int k :: r) lo hi)) S := fun lo hi S => rfl
  have ap : ∀ (y : Val) S, gAdd (.tup [.str a]) (.tup [y]) S = .ok (.tup [.str a, y]) S := fun y S => tup_app (l := [.str a]) (m := [y]) (by simp) S
  have ap2 : ∀ (y : Val) S, gAdd (.tup [.str a, y]) (.tup r) S = .ok (.tup (.str a :: y :: r)) S := fun y S => tup_app (l := [.str a, y]) (m := r) (by simp; omega) S
  have gup := upper_eq ha (by omega)
  have gst : ∀ S, gStr (.int k) S = .ok (.str (digs k)) S := by
    intro S
    have : k.natAbs < 10 ^ 50 := Nat.lt_of_le_of_lt hk (by decide)
    simp only [gStr, decide_eq_true this, if_true]
  have hup : (a.map PyProof.Rows.up1).all (· < 128) = true := by
    rw [List.all_eq_true] at ha ⊢
    intro z hz
    obtain ⟨y, hy, rfl⟩ := List.mem_map.mp hz
    have := of_decide_eq_true (ha y hy)
    refine decide_eq_true ?_
    unfold PyProof.Rows.up1
    split <;> omega
  obtain ⟨v9, S1, e9, h1, m9⟩ := pick_ok h (s := .tup wordsV) rfl (by simp [wordsV]) (by decide)
  obtain ⟨vb, S2, eb, h2, gb⟩ := bent_ok 12 h1 (it := .tup (.str a :: .int k :: r)) hdue.1.a (Nat.le_trans hdue.1.w (by decide)) (by have := hdue.1.d; omega)
  obtain ⟨vo, S3, eo, h3, go⟩ := odd_gx h2 (it := .non) rfl (by decide)
  have w9 : Gb 300 0 v9 := by
    have hw : wordsV.all (fun v => ga v && decide (wt v ≤ 300) && decide (dep v ≤ 0)) = true := by decide +kernel
    have := List.all_eq_true.mp hw v9 m9
    simp only [Bool.and_eq_true, decide_eq_true_eq] at this
    exact ⟨this.1.1, this.1.2, this.2⟩
  have hkep : Gb 300 0 (.str [107, 101, 112, 116]) := ⟨by decide, by decide, by decide⟩
  have hbro : Gb 300 0 (.str [98, 114, 111, 107, 101, 110]) := ⟨by decide, by decide, by decide⟩
  have hup' : Gb 300 0 (.str (a.map PyProof.Rows.up1)) := ⟨hup, by simp only [wt, List.length_map]; omega, by simp [dep]⟩
  have hdg : Gb 300 0 (.str (digs k)) := by
    have hkl : (digs k).length ≤ 8 := by
      cases k with
      | ofNat m =>
        rw [show digs (Int.ofNat m) = TL.numL m from digs_nat m]
        have := num_len (k := 6) (by decide) (show m < 10 ^ 6 from Nat.lt_of_le_of_lt hk (by decide))
        omega
      | negSucc m =>
        rw [digs_neg]
        have := num_len (k := 6) (by decide) (show m + 1 < 10 ^ 6 from Nat.lt_of_le_of_lt hk (by decide))
        simp only [List.length_cons]
        omega
    exact ⟨digs_128 k, by simp only [wt]; omega, by simp [dep]⟩
  have hbl : ∀ b : Bool, Gb 300 0 (.bl b) := fun b => ⟨rfl, by simp [wt], by simp [dep]⟩
  obtain ⟨v, S4, e4, h4, m4⟩ := pick_ok h3 (s := .lst [.tup (.str a :: .int k :: r), .lst (.str a :: .int k :: r), .tup ((.str a :: .int k :: r) ++ [.int 0]), .tup (cutL (.str a :: .int k :: r) none (some (-1))), .tup (.str a :: .int (k + 1) :: r), .tup (.str a :: .int (k - 1) :: r), .tup [.str [107, 101, 112, 116], .int k], .tup [.str [107, 101, 112, 116], .int 0], .tup [.str [98, 114, 111, 107, 101, 110], .int k, v9], .tup [.str [98, 114, 111, 107, 101, 110], .int 0, x], .tup (.str (a.map PyProof.Rows.up1) :: .int k :: r), .tup (.str a :: .bl (k == 1) :: r), .tup (.str a :: .str (digs k) :: r), .tup (.str a :: .int k :: r), vb, vo]) rfl (by simp) (by simp)
  refine ⟨v, S4, Fb_len ?_ (by rw [h4.len, h.len]), h4, ?_⟩
  · rw [near_eq]
    refine near_gen (P := P) (v0 := .tup wordsV) (S1 := S1) ?_ ?_ ?_ ?_ ?_ ?_ ?_ ?_ ?_ ?_ ?_ ?_ ?_ eb eo e4
    · intro ρ S; rfl
    · intro ρ S h; simp only [N2, mUn, mVar, h, Out.bind, gList]
    · intro ρ S h
      have := tup_app (l := .str a :: .int k :: r) (m := [.int 0]) (by simp; omega) S
      simp only [N3, mBin, mVar, h, Out.bind, mTup, mArgs, mC, Out.bindL, OutL.bindL, OutL.bind, this]
    · intro ρ S h; simp only [N4, mCut, evPart, mUn, mVar, h, Out.bind, mC, n1, gc]
    · intro ρ S h; simp only [N5, mBin, mCut, evPart, mVar, h, Out.bind, mC, c1, c2, i1, add_ii, mTup, mArgs, Out.bindL, OutL.bindL, OutL.bind, ap, ap2]
    · intro ρ S h
      have gs : ∀ S, gSub (.int k) (.int 1) S = .ok (.int (k - 1)) S := fun S => rfl
      simp only [N6, mBin, mCut, evPart, mVar, h, Out.bind, mC, c1, c2, i1, gs, mTup, mArgs, Out.bindL, OutL.bindL, OutL.bind, ap, ap2]
    · intro ρ S h; simp only [N7, mBin, mVar, h, Out.bind, mC, i1, mTup, mArgs, Out.bindL, OutL.bindL, OutL.bind]
    · intro ρ S; rfl
    · intro ρ h0 h1 h2; simp only [N9, mBin, mVar, h0, h1, h2, Out.bind, mC, i1, mTup, mArgs, Out.bindL, OutL.bindL, OutL.bind, mCall, e9]
    · intro ρ S h; simp only [N10, mBin, mUn, mVar, h, Out.bind, mC, n1, ix, mTup, mArgs, Out.bindL, OutL.bindL, OutL.bind]
    · intro ρ S h
      have := tup_app (l := [.str (a.map PyProof.Rows.up1)]) (m := .int k :: r) (by simp; omega) S
      simp only [N11, mBin, mUn, mCut, evPart, mVar, h, Out.bind, mC, i0, gup, c3, mTup, mArgs, Out.bindL, OutL.bindL, OutL.bind, this, List.cons_append, List.nil_append]
    · intro ρ S h
      have ge := gEq_int k 1
      simp only [N12, mBin, mCut, evPart, mVar, h, Out.bind, mC, c1, c2, i1, ge, mTup, mArgs, Out.bindL, OutL.bindL, OutL.bind, ap, ap2]
    · intro ρ S h
      simp only [N13, mBin, mUn, mCut, evPart, mVar, h, Out.bind, mC, c1, c2, i1, gst, mTup, mArgs, Out.bindL, OutL.bindL, OutL.bind, ap, ap2]
  · have r2 : ∀ y z : Val, Gb 300 0 y → Gb 300 0 z → Gb 5000 5 (.tup (y :: z :: r)) := fun y z hy hz => ((tb (y :: z :: r) (by simp only [List.length_cons]; omega) (fun u hu => by
      simp only [List.mem_cons] at hu
      rcases hu with rfl | rfl | hu
      · exact hy
      · exact hz
      · exact hrg u hu)).1).mono (by decide) (by decide)
    have t2 : ∀ y z : Val, Gb 300 0 y → Gb 300 0 z → Gb 5000 5 (.tup [y, z]) := fun y z hy hz => ((tb [y, z] (by simp) (fun u hu => by
      simp only [List.mem_cons, List.not_mem_nil, or_false] at hu
      rcases hu with rfl | rfl
      · exact hy
      · exact hz)).1).mono (by decide) (by decide)
    have t3 : ∀ y z u : Val, Gb 300 0 y → Gb 300 0 z → Gb 300 0 u → Gb 5000 5 (.tup [y, z, u]) := fun y z u hy hz hu => ((tb [y, z, u] (by simp) (fun t ht => by
      simp only [List.mem_cons, List.not_mem_nil, or_false] at ht
      rcases ht with rfl | rfl | rfl
      · exact hy
      · exact hz
      · exact hu)).1).mono (by decide) (by decide)
    simp only [List.mem_cons, List.not_mem_nil, or_false] at m4
    rcases m4 with rfl | rfl | rfl | rfl | rfl | rfl | rfl | rfl | rfl | rfl | rfl | rfl | rfl | rfl | rfl | rfl
    · exact hdue.1.mono (by decide) (by decide)
    · exact hdue.2.mono (by decide) (by decide)
    · refine ((tb _ (by simp only [List.length_append, List.length_cons, List.length_nil]; omega) (fun u hu => ?_)).1).mono (by decide) (by decide)
      rcases List.mem_append.mp hu with hu | hu
      · exact hd u hu
      · simp only [List.mem_cons, List.not_mem_nil, or_false] at hu
        rw [hu]; exact hki 0 (by decide)
    · have hl4 : (cutL (.str a :: .int k :: r) none (some (-1))).length ≤ 4 := by
        unfold cutL
        simp only [List.length_take, List.length_drop, List.length_cons]
        omega
      refine ((tb _ hl4 (fun u hu => hd u ?_)).1).mono (by decide) (by decide)
      unfold cutL at hu
      exact List.mem_of_mem_drop (List.mem_of_mem_take hu)
    · exact r2 _ _ ga' (hki _ (by omega))
    · exact r2 _ _ ga' (hki _ (by omega))
    · exact t2 _ _ hkep (hki _ (by omega))
    · exact t2 _ _ hkep (hki _ (by omega))
    · exact t3 _ _ _ hbro (hki _ (by omega)) w9
    · exact t3 _ _ _ hbro (hki _ (by omega)) (hd x hx)
    · exact r2 _ _ hup' (hki _ (by omega))
    · exact r2 _ _ ga' (hbl _)
    · exact r2 _ _ ga' hdg
    · exact hdue.1.mono (by decide) (by decide)
    · have := hdue.1.w
      have := hdue.1.d
      exact gb.mono (by omega) (by omega)
    · exact go.mono (by decide) (by decide)
end K46
/-! PL31: the plain law: is_beyond. -/
namespace K46
open L3
open PySem (Addr)
def headBeg : Val → Bool
  | .tup l => veqs (cutL l none (some 1)) [.str [98, 101, 103, 117, 110]] && ((l.length : Int) == 5)
  | _ => false
def at4 : Val → Val
  | .tup l => (l[4]?).getD .non
  | _ => .non
def bigB : Val → Bool
  | .int i => decide (1000000 < i)
  | .bl b => decide (1000000 < b2n b)
  | _ => false
theorem isDs_cut {l : List Val} (h : isDs l = true) (lo hi : Option Int) : isDs (cutL l lo hi) = true := by
  have hm : ∀ {l : List Val}, isDs l = true → ∀ v ∈ l, isD v = true := by
    intro l
    induction l with
    | nil => intro _ v hv; cases hv
    | cons u l ih =>
      intro h v hv
      simp only [isDs, Bool.and_eq_true] at h
      rcases List.mem_cons.mp hv with e | e
      · rw [e]; exact h.1
      · exact ih h.2 v e
  have ho : ∀ {l : List Val}, (∀ v ∈ l, isD v = true) → isDs l = true := by
    intro l
    induction l with
    | nil => intro _; rfl
    | cons u l ih =>
      intro h
      simp only [isDs, Bool.and_eq_true]
      exact ⟨h u (List.mem_cons_self ..), ih fun v hv => h v (List.mem_cons_of_mem _ hv)⟩
  refine ho fun v hv => hm h v ?_
  unfold cutL at hv
  exact List.mem_of_mem_drop (List.mem_of_mem_take hv)
theorem lc_rows {ρ : Sl} {S : Store} {l : List Val} (hg : gds l = true) (h0 : ρ[0]? = some (some (.tup l))) (hj : ρ.length = 4) (hz : l.length ≤ 16777216) :
    mLc 2 (mIter (mVar 0)) (L3.tAnd (mT (mUn (gIsi .tuple) (mVar 2))) (L3.tAnd (mB (mBin gEq (mCut (mVar 2) none (some (mC (.int 1)))) (mTup [(mC (.str [98, 101, 103, 117, 110]))]))) (mB (mBin gEq (mUn gLen (mVar 2)) (mC (.int 5)))))) (mBin gIx (mVar 2) (mC (.int 4))) ρ S = .ok (.lst ((l.filter headBeg).map at4)) S := by
  have hjj : ∀ v, ((wipeR ρ [2]).set 2 (some v))[2]? = some (some v) := by
    intro v
    simp [wipeR, hj]
  refine lc_filter (l := l) (by simp [h0, itemsOf]) (fun v hv => ?_) (fun v hv ht => ?_) hz
  · have hG := gds_mem hg v hv
    cases v with
    | tup m =>
      have hD : isDs m = true := by
        have := gd_D _ hG
        simpa only [isD] using this
      have ge : ∀ S, gEq (.tup (cutL m none (some 1))) (.tup [.str [98, 101, 103, 117, 110]]) S = .ok (.bl (veqs (cutL m none (some 1)) [.str [98, 101, 103, 117, 110]])) S := by
        intro S
        have : okEq (.tup (cutL m none (some 1))) (.tup [.str [98, 101, 103, 117, 110]]) = true := by
          simp [okEq, flatEq, isDs_cut hD, isSc]
        rw [gEq, if_pos this]
        simp only [veq]
      have gc : ∀ S, gCut none (some 1) (.tup m) S = .ok (.tup (cutL m none (some 1))) S := fun S => rfl
      have gl : ∀ S, gLen (.tup m) S = .ok (.int m.length) S := fun S => rfl
      have gi := gEq_int (m.length) 5
      cases h1 : veqs (cutL m none (some 1)) [.str [98, 101, 103, 117, 110]] <;> rw [h1] at ge <;> simp [hjj, isi_tt, truB, gc, ge, gl, gi, headBeg, h1]
    | rf _ => simp [gd] at hG
    | ktup _ => simp [gd] at hG
    | scr _ => simp [gd] at hG
    | _ => simp [hjj, gIsi, isi, truB, headBeg]
  · cases v with
    | tup m =>
      simp only [headBeg, Bool.and_eq_true, beq_iff_eq] at ht
      have hl : m.length = 5 := by omega
      have hx : m[4]? = some (m[4]'(by omega)) := List.getElem?_eq_getElem (by omega)
      have ix := ixL_nat hx S
      have ix : gIx (.tup m) (.int 4) S = .ok (m[4]'(by omega)) S := ix
      simp [hjj, at4, hx, ix]
    | _ => simp [headBeg] at ht
theorem lc_big {ρ : Sl} {S : Store} {l : List Val} (hg : ∀ v ∈ l, gd v = true) (h1 : ρ[1]? = some (some (.lst l))) (hj : ρ.length = 4) (hz : l.length ≤ 16777216) :
    mLc 3 (mIter (mVar 1)) (L3.tAnd (mT (mUn (gIsi .int) (mVar 3))) (mB (mBin gGt (mVar 3) (mBin gPow (mC (.int 10)) (mC (.int 6)))))) (mC (.int 1)) ρ S = .ok (.lst ((l.filter bigB).map fun _ => .int 1)) S := by
  have hjj : ∀ v, ((wipeR ρ [3]).set 3 (some v))[3]? = some (some v) := by
    intro v
    simp [wipeR, hj]
  have p6 : ∀ S, gPow (.int 10) (.int 6) S = .ok (.int 1000000) S := by intro S; simp [gPow]
  refine lc_filter (l := l) (by simp [h1, itemsOf]) (fun v hv => ?_) (fun v hv ht => rfl) hz
  have hG := hg v hv
  cases v with
  | rf _ => simp [gd] at hG
  | ktup _ => simp [gd] at hG
  | scr _ => simp [gd] at hG
  | int i =>
    have gi : ∀ S, gIsi .int (.int i) S = .ok (.bl true) S := fun S => rfl
    have gg : ∀ S, gGt (.int i) (.int 1000000) S = .ok (.bl (decide (1000000 < i))) S := fun S => rfl
    simp [hjj, gi, gg, truB, p6, bigB]
  | bl b =>
    have gi : ∀ S, gIsi .int (.bl b) S = .ok (.bl true) S := fun S => rfl
    have gg : ∀ S, gGt (.bl b) (.int 1000000) S = .ok (.bl (decide (1000000 < b2n b))) S := fun S => rfl
    simp [hjj, gi, gg, truB, p6, bigB]
  | _ => simp [hjj, gIsi, isi, truB, bigB]
theorem beyond_ok {v : Val} (hv : OK v) (S : Store) : ∃ b, f__law_is_beyond [v] S = .ok (.bl b) S := by
  have hG := hv.g
  cases v with
  | tup l =>
    have hgs : gds l = true := by simpa only [gd] using hG
    have hl : l.length ≤ 500000 := hv.len
    have r1 := fun ρ h0 hj => lc_rows (ρ := ρ) (S := S) hgs h0 hj (by omega)
    have hm : ∀ u ∈ (l.filter headBeg).map at4, gd u = true := by
      intro u hu
      obtain ⟨y, hy, rfl⟩ := List.mem_map.mp hu
      have hy := List.mem_filter.mp hy
      cases y with
      | tup m =>
        have hg := gds_mem hgs _ hy.1
        simp only [gd] at hg
        simp only [at4]
        cases h4 : m[4]? with
        | none => rfl
        | some z => exact gds_mem hg z (List.mem_of_getElem? h4)
      | _ => rfl
    have r2 := fun ρ h1 hj => lc_big (ρ := ρ) (S := S) hm h1 hj (by
      have := List.length_filter_le headBeg l
      simp; omega)
    have gn := gNe_lnil (isPs_ints 1 (((l.filter headBeg).map at4).filter bigB)) S
    generalize (l.filter headBeg).map at4 = rows at r1 r2 gn
    refine ⟨!((rows.filter bigB).map fun _ => Val.int 1).isEmpty, Fb_val ?_⟩
    simp [-mLc, b__law_is_beyond, begin, isi_tt, truB]
    rw [r1 _ rfl rfl]
    simp [-mLc]
    rw [r2 _ rfl rfl]
    simp only [Out.bind, gn]
    simp
  | rf _ => simp [gd] at hG
  | ktup _ => simp [gd] at hG
  | scr _ => simp [gd] at hG
  | _ =>
    refine ⟨false, Fb_val ?_⟩
    simp [b__law_is_beyond, begin, gIsi, isi, truB]
end K46
/-! PL32: the plain law: is_right. -/
namespace K46
open L3
open PySem (Addr)
theorem Dk.at0 {P : Addr} {S : Store} (h : Dk P S) : S[0]? = some (.tab P tabQ) := by
  obtain ⟨left, m, d, _, rfl⟩ := h
  rfl
def tld : List Nat := [116, 111, 108, 100]
def rfd : List Nat := [114, 101, 102, 117, 115, 101, 100]
theorem pair_ne {a b b' : List Nat} (ha : gd (.str a) = true) (hb : gd (.str b) = true) (hb' : gd (.str b') = true) (S : Store) : gNe (.tup [.str a, .str b]) (.tup [.str a, .str b']) S = .ok (.bl (!(b == b'))) S := by
  have h1 : (isP (.tup [.str a, .str b]) && isP (.tup [.str a, .str b']) && decide (dep (.tup [.str a, .str b']) ≤ 60)) = true := by
    simp only [gd] at ha hb hb'
    simp [isP, isPs, ha, hb, hb', dep, deps, -List.all_eq_true]
  rw [gNe, if_pos h1]
  simp [veq, veqs]
theorem pair_eq {a b b' : List Nat} (ha : gd (.str a) = true) (hb : gd (.str b) = true) (hb' : gd (.str b') = true) (S : Store) : gEq (.tup [.str a, .str b]) (.tup [.str a, .str b']) S = .ok (.bl (b == b')) S := by
  have h1 : okEq (.tup [.str a, .str b]) (.tup [.str a, .str b']) = true := by
    simp [okEq, flatEq, isDs, isD, isSc]
  rw [gEq, if_pos h1]
  simp [veq, veqs]
theorem same_bl (b : Bool) (S : Store) : f__law_same [.bl b, .bl b] S = .ok (.bl true) S := by
  have g : Gd (.bl b) := ⟨rfl, by simp [wt], by simp [dep]⟩
  refine Fb_val ?_
  have e := gEq_str (gd_shown g) (gd_shown g) S
  simp [b__law_same, begin, gRepr_ok g, e]
/-- what a told call gives -/
theorem told_ok {P : Addr} {S : Store} (h : Dk P S) {m : Ev} {ρ : Sl} {v : Val} (hm : m ρ S = .ok v S) (hv : Gd v) : mTold P tabQ [116, 111, 108, 100] [114, 101, 102, 117, 115, 101, 100] "BadPast" m ρ S = .ok (.tup [.str tld, .str (shownL v)]) S := by
  simp [mTold, h.at0, hm, gRepr_ok hv, tld]
theorem told_ex {P : Addr} {S : Store} (h : Dk P S) {m : Ev} {ρ : Sl} {v : Val} (hm : m ρ S = .ex "BadPast" v S) (hv : Gd v) : mTold P tabQ [116, 111, 108, 100] [114, 101, 102, 117, 115, 101, 100] "BadPast" m ρ S = .ok (.tup [.str rfd, .str (shownL v)]) S := by
  simp [mTold, h.at0, hm, gRepr_ok hv, rfd]
theorem right_no {P : Addr} {S : Store} (h : Dk P S) {v : Val} (hv : Gb 90000 40 v) (hp : pastB v = false) : ∃ S', f__law_is_right P [.rf 2, v] S = .ok (.bl true) S' ∧ Dk P S' := by
  have g := hv.gd (by decide) (by decide)
  obtain ⟨vo, S1, eo, h1, go⟩ := odd_gx h (it := .non) rfl (by decide)
  have go' : Gb 1000 2 vo := go.mono (by decide) (by decide)
  have g2 : Gd (.tup [v, vo]) := ⟨by simp only [ga, gas, hv.a, go'.a, Bool.and_self], by have := hv.w; have := go'.w; simp only [wt, wts]; omega, by have := hv.d; have := go'.d; simp only [dep, deps]; omega⟩
  have ip := f__law_is_past_eq g.ok
  have ip2 := f_is_past_eq g.ok
  rw [hp] at ip ip2
  have rt : gd (.str rfd) = true := by decide
  have sv := gd_shown g
  have ne := pair_ne rt sv sv
  have eq := pair_eq rt sv sv
  have es := gEq_str (gd_shown g2) (gd_shown g2)
  have t1 : ∀ ρ : Sl, ρ[1]? = some (some v) → mTold P tabQ [116, 111, 108, 100] [114, 101, 102, 117, 115, 101, 100] "BadPast" (mCall f_judge_past [(mVar 1)]) ρ S1 = .ok (.tup [.str rfd, .str (shownL v)]) S1 := fun ρ h => told_ex h1 (by simp [h, judge_no g hp]) g
  have t2 : ∀ ρ : Sl, ρ[1]? = some (some v) → mTold P tabQ [116, 111, 108, 100] [114, 101, 102, 117, 115, 101, 100] "BadPast" (mCallK f_judge_past (fun l => l) [(mVar 1)]) ρ S1 = .ok (.tup [.str rfd, .str (shownL v)]) S1 := fun ρ h => told_ex h1 (by simp [h, judge_no g hp]) g
  have t3 : ∀ ρ : Sl, ρ[1]? = some (some v) → ρ[4]? = some (some vo) → mTold P tabQ [116, 111, 108, 100] [114, 101, 102, 117, 115, 101, 100] "BadPast" (mCall f_past_holds [(mVar 1), (mVar 4)]) ρ S1 = .ok (.tup [.str rfd, .str (shownL v)]) S1 := fun ρ h h4 => told_ex h1 (by simp [h, h4, holds_no g hp]) g
  have t4 : ∀ ρ : Sl, ρ[1]? = some (some v) → ρ[4]? = some (some vo) → mTold P tabQ [116, 111, 108, 100] [114, 101, 102, 117, 115, 101, 100] "BadPast" (mCallK f_past_holds (fun l => l.reverse) [(mVar 4), (mVar 1)]) ρ S1 = .ok (.tup [.str rfd, .str (shownL v)]) S1 := fun ρ h h4 => told_ex h1 (by simp [h, h4, holds_no g hp]) g
  refine ⟨S1, Fb_len ?_ (by rw [h1.len, h.len]), h1⟩
  have rp := gRepr_ok g
  have rp2 := gRepr_ok g2
  have sb := same_bl false
  have rfd' : rfd = [114, 101, 102, 117, 115, 101, 100] := rfl
  simp only [rfd'] at ne eq t1 t2 t3 t4
  simp [-mTold, b__law_is_right, begin, rp, ip, eo, ip2, sb, truB, t1, t2, t3, t4, ne, eq, rp2, es]
theorem right_yes {P : Addr} {S : Store} (h : Dk P S) {v : Val} (hv : Gb 90000 40 v) (hp : pastB v = true) : ∃ S', f__law_is_right P [.rf 2, v] S = .ok (.bl true) S' ∧ Dk P S' := by
  have g := hv.gd (by decide) (by decide)
  obtain ⟨es, rfl, hok, hz⟩ := past_of g hp
  obtain ⟨vo, S1, eo, h1, go⟩ := odd_gx h (it := .non) rfl (by decide)
  have lj := law_judged hz hok
  have gdue := due_gd es hz
  have jy := fun {S : Store} (hS : Dk P S) => judge_yes hz hok hS.closed g hp
  have nr : ∃ t S2, f__law_near [.rf 2, dueOf es] S1 = .ok t S2 ∧ Dk P S2 ∧ Gb 5000 5 t := by
    rcases due_form es hz with ⟨k, w, e, p1, p2, p3⟩ | ⟨n, e, p3⟩
    · rw [e]
      refine near_ok h1 (by decide) (by decide) (by simp; omega) (by simp) ?_
      intro x hx
      simp only [List.mem_cons, List.not_mem_nil, or_false] at hx
      subst hx
      exact ⟨plain_128 p1, by simp only [wt]; omega, by simp [dep]⟩
    · rw [e]
      exact near_ok h1 (by decide) (by decide) (by simp; omega) (by simp) (by simp)
  obtain ⟨t, S2, et, h2, gt⟩ := nr
  have gt' := gt.gd (by decide) (by decide)
  have hy := holds_yes hz hok h2.closed g hp gt'
  generalize dueOf es = due at *
  generalize hV : Val.tup (es.map En.val) = V at *
  have g2 : Gd (.tup [V, t]) := ⟨by simp only [ga, gas, hv.a, gt.a, Bool.and_self], by have := hv.w; have := gt.w; simp only [wt, wts]; omega, by have := hv.d; have := gt.d; simp only [dep, deps]; omega⟩
  have ip := f__law_is_past_eq g.ok
  have ip2 := f_is_past_eq g.ok
  rw [hp] at ip ip2
  have tt : gd (.str tld) = true := by decide
  have gbl : Gd (.bl (shownL t == shownL due)) := ⟨rfl, by simp [wt], by simp [dep]⟩
  have sv := gd_shown g
  have sd := gd_shown gdue
  have sb := gd_shown gbl
  have ne := pair_ne tt sd sd
  have ne2 := pair_ne tt sb sb
  have eq2 := pair_eq tt sb sb
  have es2 := gEq_str (gd_shown g2) (gd_shown g2)
  have etd := gEq_str (gd_shown gt') sd
  have t1 : ∀ ρ : Sl, ρ[1]? = some (some V) → mTold P tabQ [116, 111, 108, 100] [114, 101, 102, 117, 115, 101, 100] "BadPast" (mCall f_judge_past [(mVar 1)]) ρ S1 = .ok (.tup [.str tld, .str (shownL due)]) S1 := fun ρ h => told_ok h1 (by simp [h, jy h1]) gdue
  have t2 : ∀ ρ : Sl, ρ[1]? = some (some V) → mTold P tabQ [116, 111, 108, 100] [114, 101, 102, 117, 115, 101, 100] "BadPast" (mCallK f_judge_past (fun l => l) [(mVar 1)]) ρ S1 = .ok (.tup [.str tld, .str (shownL due)]) S1 := fun ρ h => told_ok h1 (by simp [h, jy h1]) gdue
  have t3 : ∀ ρ : Sl, ρ[1]? = some (some V) → ρ[4]? = some (some t) → mTold P tabQ [116, 111, 108, 100] [114, 101, 102, 117, 115, 101, 100] "BadPast" (mCall f_past_holds [(mVar 1), (mVar 4)]) ρ S2 = .ok (.tup [.str tld, .str (shownL (.bl (shownL t == shownL due)))]) S2 := fun ρ h h4 => told_ok h2 (by simp [h, h4, hy]) gbl
  have t4 : ∀ ρ : Sl, ρ[1]? = some (some V) → ρ[4]? = some (some t) → mTold P tabQ [116, 111, 108, 100] [114, 101, 102, 117, 115, 101, 100] "BadPast" (mCallK f_past_holds (fun l => l.reverse) [(mVar 4), (mVar 1)]) ρ S2 = .ok (.tup [.str tld, .str (shownL (.bl (shownL t == shownL due)))]) S2 := fun ρ h h4 => told_ok h2 (by simp [h, h4, hy]) gbl
  refine ⟨S2, Fb_len ?_ (by rw [h2.len, h.len]), h2⟩
  have rp := gRepr_ok g
  have rpd := gRepr_ok gdue
  have rpt := gRepr_ok gt'
  have rpb := gRepr_ok gbl
  have rp2 := gRepr_ok g2
  have sbl := same_bl true
  have tld' : tld = [116, 111, 108, 100] := rfl
  simp only [tld'] at ne ne2 eq2 t1 t2 t3 t4
  generalize shownL (Val.bl (shownL t == shownL due)) = sB at *
  generalize (shownL t == shownL due) = bT at *
  generalize shownL V = sV at *
  generalize shownL due = sD at *
  generalize shownL t = sT at *
  generalize shownL (Val.tup [V, t]) = s2 at *
  simp [-mTold, b__law_is_right, begin, rp, ip, eo, ip2, sbl, truB, lj, rpd, t1, t2, et, rpt, etd, rpb, t3, t4, ne, ne2, eq2, rp2, es2]
theorem right_ok {P : Addr} {S : Store} (h : Dk P S) {v : Val} (hv : Gb 90000 40 v) : ∃ S', f__law_is_right P [.rf 2, v] S = .ok (.bl true) S' ∧ Dk P S' := by
  cases hp : pastB v with
  | true => exact right_yes h hv hp
  | false => exact right_no h hv hp
end K46
/-! PL33: the plain law: the law itself. -/
namespace K46
open L3
open PySem (Addr)
theorem bOk_128 {b : List Nat} (h : bOk b = true) : b.all (· < 128) = true ∧ b.length ≤ 3 := by
  simp only [bOk, Bool.and_eq_true, decide_eq_true_eq] at h
  refine ⟨?_, h.1⟩
  have := h.2
  simp only [List.all_eq_true, isPrn, Bool.and_eq_true, decide_eq_true_eq] at this ⊢
  intro x hx
  have := this x hx
  omega
theorem eSm_gb {e : En} (h : eSm e = true) : Gb 600 2 e.val := by
  have hc : ∀ c, cOk c = true → c.all (· < 128) = true ∧ c.length ≤ 4 := by
    intro c hc
    simp only [cOk, Bool.or_eq_true, beq_iff_eq] at hc
    rcases hc with rfl | rfl <;> decide
  have hn : ∀ n, nOk n = true → ga (.int n) = true := by
    intro n hn
    simp only [nOk, Bool.or_eq_true, beq_iff_eq] at hn
    rcases hn with (rfl | rfl) | rfl <;> decide
  have k1 : kGone.all (· < 128) = true ∧ kGone.length = 4 := by decide
  have k2 : kAcc.all (· < 128) = true ∧ kAcc.length = 8 := by decide
  have k3 : kBeg.all (· < 128) = true ∧ kBeg.length = 5 := by decide
  have k4 : kAns.all (· < 128) = true ∧ kAns.length = 8 := by decide
  cases e with
  | gone c =>
    have := hc c h
    refine ⟨by simp only [En.val, ga, gas, k1.1, this.1, Bool.and_self], ?_, by simp [En.val, dep, deps]⟩
    have := this.2
    simp only [En.val, wt, wts, k1.2]
    omega
  | acc c n o b =>
    simp only [eSm, Bool.and_eq_true] at h
    have h1 := hc c h.1.1
    have h2 := hn n h.1.2
    have h3 := bOk_128 h.2
    simp only [ga] at h2
    refine ⟨by simp only [En.val, ga, gas, k2.1, h1.1, h2, h3.1, Bool.and_self], ?_, by simp [En.val, dep, deps]⟩
    have := h1.2
    have := h3.2
    simp only [En.val, wt, wts, k2.2]
    omega
  | beg c n s m =>
    simp only [eSm, Bool.and_eq_true] at h
    have h1 := hc c h.1.1.1
    have h2 := hn n h.1.1.2
    have h3 : s.all (· < 128) = true ∧ s.length ≤ 3 := by
      have := h.1.2
      simp only [Bool.or_eq_true, beq_iff_eq] at this
      rcases this with rfl | rfl <;> decide
    have h4 : ga (.int m) = true := by
      have := h.2
      simp only [Bool.or_eq_true, beq_iff_eq] at this
      rcases this with (rfl | rfl) | rfl <;> decide
    simp only [ga] at h2 h4
    refine ⟨by simp only [En.val, ga, gas, k3.1, h1.1, h2, h3.1, h4, Bool.and_self], ?_, by simp [En.val, dep, deps]⟩
    have := h1.2
    have := h3.2
    simp only [En.val, wt, wts, k3.2]
    omega
  | ans c n a f =>
    simp only [eSm, Bool.and_eq_true] at h
    have h1 := hc c h.1.1.1
    have h2 := hn n h.1.1.2
    have h3 : Gb 120 1 a.val := by
      cases a with
      | done t =>
        have ht := bOk_128 (show bOk t = true from h.1.2)
        have hk : kDone.all (· < 128) = true ∧ kDone.length = 4 := by decide
        refine ⟨by simp only [An.val, ga, gas, hk.1, ht.1, Bool.and_self], ?_, by simp [An.val, dep, deps]⟩
        have := ht.2
        simp only [An.val, wt, wts, hk.2]
        omega
      | word w =>
        rcases plain_cases (show plainB w = true from h.1.2) with rfl | rfl | rfl | rfl | rfl <;> exact ⟨by decide, by decide, by decide⟩
    have h4 : f.all (· < 128) = true ∧ f.length ≤ 9 := by
      rcases fate_cases h.2 with rfl | rfl | rfl | rfl <;> decide
    simp only [ga] at h2
    refine ⟨by simp only [En.val, ga, gas, k4.1, h1.1, h2, h3.a, h4.1, Bool.and_self], ?_, by have := h3.d; simp [En.val, dep, deps]; omega⟩
    have := h1.2
    have := h3.w
    have := h4.2
    simp only [En.val, wt, wts, k4.2]
    omega
theorem ens_b : ∀ {es : List En}, (∀ e ∈ es, eSm e = true) → wts (es.map En.val) ≤ 602 * es.length ∧ deps (es.map En.val) ≤ 2 ∧ gas (es.map En.val) = true
  | [], _ => by simp [wts, deps, gas]
  | e :: es, h => by
    have h1 := eSm_gb (h e (List.mem_cons_self ..))
    have h2 := ens_b (es := es) fun x hx => h x (List.mem_cons_of_mem _ hx)
    have h11 := h1.w
    have h12 := h1.d
    have h21 := h2.1
    have h22 := h2.2.1
    refine ⟨by simp only [List.map_cons, wts, List.length_cons]; omega, by simp only [List.map_cons, deps]; omega, by simp only [List.map_cons, gas, h1.a, h2.2.2, Bool.and_self]⟩
/-! ### the values that are looked at -/
def bodyR (P : Addr) : Sv := (mIfS (L3.tAnd (L3.tNot (mT (mCall f__law_is_beyond [(mVar 9)]))) (L3.tNot (mT (mCall (f__law_is_right P) [(mVar 1), (mVar 9)])))) (mRet (mC (.bl false))) mNil)
theorem look_loop {P : Addr} : ∀ (l : List Val) {S : Store}, Dk P S → (∀ v ∈ l, Gb 90000 40 v) → ∀ (x0 x2 x3 x4 x5 x6 x7 x8 x9 : Option Val), ∃ (y9 : Option Val) (S' : Store), forGo (gNm 9) (bodyR P) l [x0, some (.rf 2), x2, x3, x4, x5, x6, x7, x8, x9] S = .nx [x0, some (.rf 2), x2, x3, x4, x5, x6, x7, x8, y9] S' ∧ Dk P S'
  | [], S, h, _, x0, x2, x3, x4, x5, x6, x7, x8, x9 => ⟨x9, S, rfl, h⟩
  | v :: l, S, h, hl, x0, x2, x3, x4, x5, x6, x7, x8, x9 => by
    have hv := hl v (List.mem_cons_self ..)
    obtain ⟨b, eb⟩ := beyond_ok (hv.gd (by decide) (by decide)).ok S
    obtain ⟨S1, e1, h1⟩ := right_ok h hv
    cases b with
    | true =>
      obtain ⟨y9, S', e, h'⟩ := look_loop l h (fun u hu => hl u (List.mem_cons_of_mem _ hu)) x0 x2 x3 x4 x5 x6 x7 x8 (some v)
      refine ⟨y9, S', ?_, h'⟩
      rw [← e]
      simp [forGo, bodyR, eb, truB]
    | false =>
      obtain ⟨y9, S', e, h'⟩ := look_loop l h1 (fun u hu => hl u (List.mem_cons_of_mem _ hu)) x0 x2 x3 x4 x5 x6 x7 x8 (some v)
      refine ⟨y9, S', ?_, h'⟩
      rw [← e]
      simp [forGo, bodyR, eb, e1, truB]
/-! ### one turn -/
def T1 : Sv := (mSet 3 (mCall f__law_drawn_past [(mVar 1)]))
def T2 : Sv := (mSet 4 (mLst [(mVar 3), (mCall (f__law_bent 12) [(mVar 1), (mVar 3)]), (mCall (f__law_bent 12) [(mVar 1), (mVar 3)]), (mCall f__law_odd [(mVar 1), (mC .non)]), (mUn gList (mVar 3))]))
def T3 : Sv := (mSet 4 (mBin gAdd (mVar 4) (mLst [(mCall (f__law_bent 12) [(mVar 1), (mCall (f__law_bent 12) [(mVar 1), (mVar 3)])]), (mCut (mVar 3) none (some (mC (.int 1)))), (mBin gAdd (mVar 3) (mTup [(mVar 3)]))])))
def T4 : Sv := (mPar [5, 6] [(mBin gMul (mC (.str [121])) (mBin gAdd (mC (.int 150)) (mCall f__law_draw [(mVar 1), (mC (.int 2))]))), (mCall f__law_draw [(mVar 1), (mC (.int 2))])])
def T5 : Sv := (mSet 7 (mTup [(mTup [(mC (.str [97, 99, 99, 101, 112, 116, 101, 100])), (mC (.str [122, 111, 101])), (mC (.int 1)), (mC (.bl true)), (mVar 5)]), (mTup [(mC (.str [98, 101, 103, 117, 110])), (mC (.str [122, 111, 101])), (mC (.int 1)), (mC (.str [97, 110, 110])), (mVar 6)])]))
def T6 : Sv := (mSet 8 (mCall f__law_pick [(mVar 1), (mTup [(mCut (mVar 7) none (some (mC (.int 1)))), (mVar 7), (mBin gAdd (mVar 7) (mTup [(mTup [(mC (.str [97, 110, 115, 119, 101, 114, 101, 100])), (mC (.str [122, 111, 101])), (mC (.int 1)), (mTup [(mC (.str [100, 111, 110, 101])), (mVar 5)]), (mC (.str [111, 112, 101, 110]))])]))])]))
def T7 (P : Addr) : Sv := (mFor (mIter (mBin gAdd (mBin gAdd (mVar 4) (mUn gList (mCut (mVar 3) (some (mUn gNeg (mC (.int 2)))) none))) (mLst [(mBin gAdd (mVar 3) (mVar 8))]))) (gNm 9) (bodyR P))
def TB (P : Addr) : Sv := mSeq T1 (mSeq T2 (mSeq T3 (mSeq T4 (mSeq T5 (mSeq T6 (T7 P))))))
theorem law_eq (P : Addr) : b_law P = (mSeq (mSet 1 (mCall f__law_deck [(mVar 0)])) (mSeq (mFor (mRange (mC (.int 4))) (gNm 2) (TB P)) (mRet (mC (.bl true))))) := rfl
section
variable {P : Addr} {S : Store}
theorem turn_ok (h : Dk P S) (x0 x2 x3 x4 x5 x6 x7 x8 x9 : Option Val) : ∃ (y3 y4 y5 y6 y7 y8 y9 : Option Val) (S' : Store), TB P [x0, some (.rf 2), x2, x3, x4, x5, x6, x7, x8, x9] S = .nx [x0, some (.rf 2), x2, y3, y4, y5, y6, y7, y8, y9] S' ∧ Dk P S' := by
  obtain ⟨es, S1, e1, h1, hes, hl⟩ := drawn_ok h
  have eb := ens_b hes
  have hpast : Gb 10000 3 (.tup (es.map En.val)) := ⟨by simp only [ga]; exact eb.2.2, by have := eb.1; simp only [wt]; omega, by have := eb.2.1; simp only [dep]; omega⟩
  have hplist : Gb 10000 3 (.lst (es.map En.val)) := ⟨by simp only [ga]; exact eb.2.2, by have := eb.1; simp only [wt]; omega, by have := eb.2.1; simp only [dep]; omega⟩
  have hev : ∀ y ∈ es.map En.val, Gb 600 2 y := by
    intro y hy
    obtain ⟨e, he, rfl⟩ := List.mem_map.mp hy
    exact eSm_gb (hes e he)
  have hll : (es.map En.val).length ≤ 16 := by simpa using hl
  generalize es.map En.val = L at *
  have p1 : T1 [x0, some (.rf 2), x2, x3, x4, x5, x6, x7, x8, x9] S = .nx [x0, some (.rf 2), x2, some (.tup L), x4, x5, x6, x7, x8, x9] S1 := by
    simp [T1, e1]
  obtain ⟨v1, S2, q1, h2, g1⟩ := bent_ok 12 h1 hpast.a (Nat.le_trans hpast.w (by decide)) (by have := hpast.d; omega)
  obtain ⟨v2, S3, q2, h3, g2⟩ := bent_ok 12 h2 hpast.a (Nat.le_trans hpast.w (by decide)) (by have := hpast.d; omega)
  obtain ⟨v3, S4, q3, h4, g3⟩ := odd_gx h3 (it := .non) rfl (by decide)
  have hw := hpast.w
  have hd := hpast.d
  have g1 : Gb 20400 5 v1 := g1.mono (by omega) (by omega)
  have g2 : Gb 20400 5 v2 := g2.mono (by omega) (by omega)
  have g3 : Gb 20400 5 v3 := g3.mono (by decide) (by decide)
  have gl : ∀ S, gList (.tup L) S = .ok (.lst L) S := fun S => rfl
  have p2 : T2 [x0, some (.rf 2), x2, some (.tup L), x4, x5, x6, x7, x8, x9] S1 = .nx [x0, some (.rf 2), x2, some (.tup L), some (.lst [.tup L, v1, v2, v3, .lst L]), x5, x6, x7, x8, x9] S4 := by
    simp [T2, q1, q2, q3, gl]
  obtain ⟨v4, S5, q4, h5, g4⟩ := bent_ok 12 h4 hpast.a (Nat.le_trans hpast.w (by decide)) (by have := hpast.d; omega)
  have g4 : Gb 20400 5 v4 := g4.mono (by omega) (by omega)
  obtain ⟨v5, S6, q5, h6, g5⟩ := bent_ok 12 h5 g4.a (Nat.le_trans g4.w (by decide)) (by have := g4.d; omega)
  have g4w := g4.w
  have g4d := g4.d
  have g5 : Gb 41200 7 v5 := g5.mono (by omega) (by omega)
  have gc : ∀ lo hi S, gCut lo hi (.tup L) S = .ok (.tup (cutL L lo hi)) S := fun lo hi S => rfl
  have aL : ∀ S, gAdd (.tup L) (.tup [.tup L]) S = .ok (.tup (L ++ [.tup L])) S := tup_app (by simp; omega)
  have a4 : ∀ S, gAdd (.lst [.tup L, v1, v2, v3, .lst L]) (.lst [v5, .tup (cutL L none (some 1)), .tup (L ++ [.tup L])]) S = .ok (.lst [.tup L, v1, v2, v3, .lst L, v5, .tup (cutL L none (some 1)), .tup (L ++ [.tup L])]) S := addL _ _ (by simp)
  have p3 : T3 [x0, some (.rf 2), x2, some (.tup L), some (.lst [.tup L, v1, v2, v3, .lst L]), x5, x6, x7, x8, x9] S4 = .nx [x0, some (.rf 2), x2, some (.tup L), some (.lst [.tup L, v1, v2, v3, .lst L, v5, .tup (cutL L none (some 1)), .tup (L ++ [.tup L])]), x5, x6, x7, x8, x9] S6 := by
    simp [T3, q4, q5, gc, aL, a4]
  obtain ⟨j, S7, q6, h7, j0, j1⟩ := draw_ok h6 (n := 2) (by decide) (by decide)
  obtain ⟨m, S8, q7, h8, m0, m1⟩ := draw_ok h7 (n := 2) (by decide) (by decide)
  obtain ⟨B, hBa, hBl, gm⟩ : ∃ B : List Nat, B.all (· < 128) = true ∧ B.length ≤ 151 ∧ ∀ S, gMul (.str [121]) (.int (150 + j)) S = .ok (.str B) S := by
    have hj : 150 + j = 150 ∨ 150 + j = 151 := by omega
    rcases hj with hj | hj <;> rw [hj]
    · exact ⟨(List.replicate 150 [121]).flatten, by decide, by decide, fun S => rfl⟩
    · exact ⟨(List.replicate 151 [121]).flatten, by decide, by decide, fun S => rfl⟩
  have p4 : ∀ x4, T4 [x0, some (.rf 2), x2, some (.tup L), x4, x5, x6, x7, x8, x9] S6 = .nx [x0, some (.rf 2), x2, some (.tup L), x4, some (.str B), some (.int m), x7, x8, x9] S8 := by
    intro x4
    simp [T4, q6, q7, gm, add_ii]
  obtain ⟨E1, hE1⟩ : ∃ E1, E1 = Val.tup [.str [97, 99, 99, 101, 112, 116, 101, 100], .str [122, 111, 101], .int 1, .bl true, .str B] := ⟨_, rfl⟩
  obtain ⟨E2, hE2⟩ : ∃ E2, E2 = Val.tup [.str [98, 101, 103, 117, 110], .str [122, 111, 101], .int 1, .str [97, 110, 110], .int m] := ⟨_, rfl⟩
  obtain ⟨E3, hE3⟩ : ∃ E3, E3 = Val.tup [.str [97, 110, 115, 119, 101, 114, 101, 100], .str [122, 111, 101], .int 1, .tup [.str [100, 111, 110, 101], .str B], .str [111, 112, 101, 110]] := ⟨_, rfl⟩
  have gE1 : Gb 2000 2 E1 := by
    rw [hE1]
    refine ⟨by simp only [ga, gas, hBa]; decide, ?_, by simp [dep, deps]⟩
    simp only [wt, wts, List.length_cons, List.length_nil]
    omega
  have gE2 : Gb 2000 2 E2 := by
    rw [hE2]
    have : m = 0 ∨ m = 1 := by omega
    rcases this with rfl | rfl <;> exact ⟨by decide, by decide, by decide⟩
  have gE3 : Gb 2000 2 E3 := by
    rw [hE3]
    refine ⟨by simp only [ga, gas, hBa]; decide, ?_, by simp [dep, deps]⟩
    simp only [wt, wts, List.length_cons, List.length_nil]
    omega
  have p5 : ∀ x4, T5 [x0, some (.rf 2), x2, some (.tup L), x4, some (.str B), some (.int m), x7, x8, x9] S8 = .nx [x0, some (.rf 2), x2, some (.tup L), x4, some (.str B), some (.int m), some (.tup [E1, E2]), x8, x9] S8 := by
    intro x4
    simp [T5, hE1, hE2]
  obtain ⟨w, S9, q8, h9, mw⟩ := pick_ok h8 (s := .tup [.tup [E1], .tup [E1, E2], .tup [E1, E2, E3]]) rfl (by simp) (by simp)
  obtain ⟨M, rfl, hM, hMl⟩ : ∃ M, w = .tup M ∧ (∀ y ∈ M, Gb 2000 2 y) ∧ M.length ≤ 3 := by
    simp only [List.mem_cons, List.not_mem_nil, or_false] at mw
    rcases mw with rfl | rfl | rfl
    · exact ⟨_, rfl, by simpa using gE1, by simp⟩
    · exact ⟨_, rfl, by simpa using ⟨gE1, gE2⟩, by simp⟩
    · exact ⟨_, rfl, by simpa using ⟨gE1, gE2, gE3⟩, by simp⟩
  have p6 : ∀ x4, T6 [x0, some (.rf 2), x2, some (.tup L), x4, some (.str B), some (.int m), some (.tup [E1, E2]), x8, x9] S8 = .nx [x0, some (.rf 2), x2, some (.tup L), x4, some (.str B), some (.int m), some (.tup [E1, E2]), some (.tup M), x9] S9 := by
    intro x4
    have c1 : ∀ S, gCut none (some 1) (.tup [E1, E2]) S = .ok (.tup [E1]) S := fun S => rfl
    have a1 : ∀ S, gAdd (.tup [E1, E2]) (.tup [E3]) S = .ok (.tup [E1, E2, E3]) S := tup_app (l := [E1, E2]) (m := [E3]) (by simp)
    rw [hE3] at a1 q8
    simp [T6, c1, a1, q8]
  have aM : ∀ S, gAdd (.tup L) (.tup M) S = .ok (.tup (L ++ M)) S := tup_app (by omega)
  have n1 : ∀ i S, gNeg (.int i) S = .ok (.int (-i)) S := fun i S => rfl
  have gl2 : ∀ S, gList (.tup (cutL L (some (-2)) none)) S = .ok (.lst (cutL L (some (-2)) none)) S := fun S => rfl
  have hc2 : (cutL L (some (-2)) none).length ≤ 16 := by
    unfold cutL
    simp only [List.length_take, List.length_drop]
    omega
  obtain ⟨V8, hV8⟩ : ∃ V8, V8 = [Val.tup L, v1, v2, v3, .lst L, v5, .tup (cutL L none (some 1)), .tup (L ++ [.tup L])] := ⟨_, rfl⟩
  have hV8l : V8.length = 8 := by rw [hV8]; rfl
  have a5 : ∀ S, gAdd (.lst V8) (.lst (cutL L (some (-2)) none)) S = .ok (.lst (V8 ++ cutL L (some (-2)) none)) S := addL _ _ (by omega)
  have a6 : ∀ S, gAdd (.lst (V8 ++ cutL L (some (-2)) none)) (.lst [.tup (L ++ M)]) S = .ok (.lst (V8 ++ cutL L (some (-2)) none ++ [.tup (L ++ M)])) S := addL _ _ (by simp; omega)
  have hLb : wts L ≤ 9700 ∧ deps L ≤ 2 ∧ gas L = true := ⟨by have := eb.1; omega, eb.2.1, eb.2.2⟩
  have hMb : wts M ≤ 6006 ∧ deps M ≤ 2 ∧ gas M = true := by
    have : ∀ {M : List Val}, (∀ y ∈ M, Gb 2000 2 y) → wts M ≤ 2002 * M.length ∧ deps M ≤ 2 ∧ gas M = true := by
      intro M
      induction M with
      | nil => intro _; simp [wts, deps, gas]
      | cons y M ih =>
        intro hy
        have h1 := hy y (List.mem_cons_self ..)
        have h2 := ih fun z hz => hy z (List.mem_cons_of_mem _ hz)
        have h11 := h1.w
        have h12 := h1.d
        have h21 := h2.1
        have h22 := h2.2.1
        exact ⟨by simp only [wts, List.length_cons]; omega, by simp only [deps]; omega, by simp only [gas, h1.a, h2.2.2, Bool.and_self]⟩
    have := this hM
    exact ⟨by omega, this.2⟩
  have hall : ∀ v ∈ V8 ++ cutL L (some (-2)) none ++ [.tup (L ++ M)], Gb 90000 40 v := by
    intro v hv
    rcases List.mem_append.mp hv with hv | hv
    · rcases List.mem_append.mp hv with hv | hv
      · rw [hV8] at hv
        simp only [List.mem_cons, List.not_mem_nil, or_false] at hv
        rcases hv with rfl | rfl | rfl | rfl | rfl | rfl | rfl | rfl
        · exact hpast.mono (by decide) (by decide)
        · exact g1.mono (by decide) (by decide)
        · exact g2.mono (by decide) (by decide)
        · exact g3.mono (by decide) (by decide)
        · exact hplist.mono (by decide) (by decide)
        · exact g5.mono (by decide) (by decide)
        · have c := cut_b none (some 1) L
          exact ⟨by simp only [ga]; exact c.2.2 hLb.2.2, by simp only [wt]; omega, by simp only [dep]; omega⟩
        · exact ⟨by simp only [ga, gas_app, gas, hLb.2.2, Bool.and_self], by simp only [wt, wts_app, wts]; omega, by simp only [dep, deps_app, deps]; omega⟩
      · refine (hev v ?_).mono (by decide) (by decide)
        unfold cutL at hv
        exact List.mem_of_mem_drop (List.mem_of_mem_take hv)
    · simp only [List.mem_cons, List.not_mem_nil, or_false] at hv
      rw [hv]
      exact ⟨by simp only [ga, gas_app, hLb.2.2, hMb.2.2, Bool.and_self], by simp only [wt, wts_app]; omega, by simp only [dep, deps_app]; omega⟩
  obtain ⟨y9, S', q9, h'⟩ := look_loop _ h9 hall x0 x2 (some (.tup L)) (some (.lst V8)) (some (.str B)) (some (.int m)) (some (.tup [E1, E2])) (some (.tup M)) x9
  have it : (mIter (mBin gAdd (mBin gAdd (mVar 4) (mUn gList (mCut (mVar 3) (some (mUn gNeg (mC (.int 2)))) none))) (mLst [(mBin gAdd (mVar 3) (mVar 8))]))) [x0, some (.rf 2), x2, some (.tup L), some (.lst V8), some (.str B), some (.int m), some (.tup [E1, E2]), some (.tup M), x9] S9 = .ok (V8 ++ cutL L (some (-2)) none ++ [.tup (L ++ M)]) S9 := by
    simp only [mIter, mBin, mVar, mUn, mCut, evPart, mLst, mArgs, List.getElem?_cons_zero, List.getElem?_cons_succ, Out.bind, Out.bindL, OutL.bindL, OutL.bind, mC, n1, gc, gl2, a5, aM, a6, itemsOf]
  have p7 : T7 P [x0, some (.rf 2), x2, some (.tup L), some (.lst V8), some (.str B), some (.int m), some (.tup [E1, E2]), some (.tup M), x9] S9 = .nx [x0, some (.rf 2), x2, some (.tup L), some (.lst V8), some (.str B), some (.int m), some (.tup [E1, E2]), some (.tup M), y9] S' := by
    simp only [T7, mFor, it, q9]
  refine ⟨some (.tup L), some (.lst V8), some (.str B), some (.int m), some (.tup [E1, E2]), some (.tup M), y9, S', ?_, h'⟩
  rw [← hV8] at p3
  simp only [TB, mSeq, p1, OutS.bind, p2, p3, p4, p5, p6, p7]
theorem turns {P : Addr} : ∀ (l : List Val) {S : Store}, Dk P S → ∀ (x0 x2 x3 x4 x5 x6 x7 x8 x9 : Option Val), ∃ (ρ' : Sl) (S' : Store), forGo (gNm 2) (TB P) l [x0, some (.rf 2), x2, x3, x4, x5, x6, x7, x8, x9] S = .nx ρ' S' ∧ Dk P S'
  | [], S, h, x0, x2, x3, x4, x5, x6, x7, x8, x9 => ⟨_, S, rfl, h⟩
  | v :: l, S, h, x0, x2, x3, x4, x5, x6, x7, x8, x9 => by
    obtain ⟨y3, y4, y5, y6, y7, y8, y9, S1, e1, h1⟩ := turn_ok h x0 (some v) x3 x4 x5 x6 x7 x8 x9
    obtain ⟨ρ', S', e2, h2⟩ := turns l h1 x0 (some v) y3 y4 y5 y6 y7 y8 y9
    refine ⟨ρ', S', ?_, h2⟩
    simp only [forGo, gNm, List.set_cons_succ, List.set_cons_zero, e1, e2]
end
theorem law_ok' (P : Addr) (ns : List Int) : ∃ S', f_law P [.scr ns] [.tab P tabQ] = .ok (.bl true) S' := by
  obtain ⟨S1, e1, h1⟩ := deck_ok P ns
  obtain ⟨ρ, S2, e2, h2⟩ := turns [.int 0, .int 1, .int 2, .int 3] h1 (some (.scr ns)) none none none none none none none none
  have er : ∀ ρ S, (mRange (mC (.int 4))) ρ S = .ok [.int 0, .int 1, .int 2, .int 3] S := fun ρ S => rfl
  have main : outOf (b_law P (begin 10 [.scr ns]) [.tab P tabQ]) = .ok (.bl true) S2 := by
    rw [law_eq]
    simp only [begin, mSeq, mSet, mCall, mArgs, mVar, List.map_cons, List.map_nil, List.cons_append, List.nil_append, List.length_cons, List.length_nil, List.replicate, Nat.reduceAdd, Nat.reduceSub, Nat.zero_add, List.getElem?_cons_zero, Out.bindL, OutL.bindL, OutL.bind, e1, Out.bindS, OutS.bind, List.set_cons_succ, List.set_cons_zero, mFor, er, e2, mRet, mC, outOf]
  rw [f_law, Fb, main]
  simp only [trunc]
  split
  · exact ⟨_, rfl⟩
  split <;> exact ⟨_, rfl⟩
theorem plain (P : Addr) (ns : List Int) (h : ns.length ≤ 63) : ∃ S', f_law P [.scr ns] [.tab P tabQ] = .ok (.bl true) S' := law_ok' P ns
end K46
/-! FIN46 (printed by fin46.py): what the top has left, and the end. -/
namespace K46
open PySem PySem.Spec PyProof.Rows L2 L3
theorem all_mk {w : World} {K : PySem.W.Frag} {h : Heap} {mg : Str → Option Value} {fa : Addr} (X : K.In h) (G : h.Ns mainGlobals mg) (hfa : mg "law" = some (.ref fa))
    {CB CG CJ : Addr}
    {t_MOST_NUMBER : Tok}
    {t_MOST_WORD : Tok}
    {t_MOST_BODY : Tok}
    {t_LETTERS : Tok}
    {a_FATES : Addr} {dd_FATES : Option Addr} {n_FATES : Nat} {sl_FATES : Array (Option Value)} {t_FATES0 t_FATES1 t_FATES2 t_FATES3 : Tok}
    {a_PLAIN : Addr} {dd_PLAIN : Option Addr} {n_PLAIN : Nat} {sl_PLAIN : Array (Option Value)} {t_PLAIN0 t_PLAIN1 t_PLAIN2 t_PLAIN3 t_PLAIN4 : Tok}
    {a_ONCE_ONLY : Addr} {dd_ONCE_ONLY : Option Addr} {n_ONCE_ONLY : Nat} {sl_ONCE_ONLY : Array (Option Value)} {t_ONCE_ONLY0 t_ONCE_ONLY1 t_ONCE_ONLY2 : Tok}
    {fu_is_integer : Addr} {oc_is_integer kV_is_integer dc_is_integer pm_is_integer cd_is_integer ct_is_integer : Value} {od_is_integer an_is_integer : Option Addr} {sl_is_integer : Array (Option Value)}
    {fu_is_between : Addr} {oc_is_between kV_is_between dc_is_between pm_is_between cd_is_between ct_is_between : Value} {od_is_between an_is_between : Option Addr} {sl_is_between : Array (Option Value)}
    {fu_is_row : Addr} {oc_is_row kV_is_row dc_is_row pm_is_row cd_is_row ct_is_row : Value} {od_is_row an_is_row : Option Addr} {sl_is_row : Array (Option Value)}
    {fu_is_number : Addr} {oc_is_number kV_is_number dc_is_number pm_is_number cd_is_number ct_is_number : Value} {od_is_number an_is_number : Option Addr} {sl_is_number : Array (Option Value)}
    {fu_is_bool : Addr} {oc_is_bool kV_is_bool dc_is_bool pm_is_bool cd_is_bool ct_is_bool : Value} {od_is_bool an_is_bool : Option Addr} {sl_is_bool : Array (Option Value)}
    {fu_is_word : Addr} {oc_is_word kV_is_word dc_is_word pm_is_word cd_is_word ct_is_word : Value} {od_is_word an_is_word : Option Addr} {sl_is_word : Array (Option Value)}
    {fu_is_line : Addr} {oc_is_line kV_is_line dc_is_line pm_is_line cd_is_line ct_is_line : Value} {od_is_line an_is_line : Option Addr} {sl_is_line : Array (Option Value)}
    {fu_is_body : Addr} {oc_is_body kV_is_body dc_is_body pm_is_body cd_is_body ct_is_body : Value} {od_is_body an_is_body : Option Addr} {sl_is_body : Array (Option Value)}
    {fu_are_rising : Addr} {oc_are_rising kV_are_rising dc_are_rising pm_are_rising cd_are_rising ct_are_rising : Value} {od_are_rising an_are_rising : Option Addr} {sl_are_rising : Array (Option Value)}
    {fu_is_answer : Addr} {oc_is_answer kV_is_answer dc_is_answer pm_is_answer cd_is_answer ct_is_answer : Value} {od_is_answer an_is_answer : Option Addr} {sl_is_answer : Array (Option Value)}
    {fu_is_entry : Addr} {oc_is_entry kV_is_entry dc_is_entry pm_is_entry cd_is_entry ct_is_entry : Value} {od_is_entry an_is_entry : Option Addr} {sl_is_entry : Array (Option Value)}
    {fu_is_past_value : Addr} {oc_is_past_value kV_is_past_value dc_is_past_value pm_is_past_value cd_is_past_value ct_is_past_value : Value} {od_is_past_value an_is_past_value : Option Addr} {sl_is_past_value : Array (Option Value)}
    {fu_judged : Addr} {oc_judged kV_judged dc_judged pm_judged cd_judged ct_judged : Value} {od_judged an_judged : Option Addr} {sl_judged : Array (Option Value)}
    {fu_is_certificate : Addr} {oc_is_certificate kV_is_certificate dc_is_certificate pm_is_certificate cd_is_certificate ct_is_certificate : Value} {od_is_certificate an_is_certificate : Option Addr} {sl_is_certificate : Array (Option Value)}
    {fu_is_past : Addr} {oc_is_past kV_is_past dc_is_past pm_is_past cd_is_past ct_is_past : Value} {od_is_past an_is_past : Option Addr} {sl_is_past : Array (Option Value)}
    {fu_need_past : Addr} {oc_need_past kV_need_past dc_need_past pm_need_past cd_need_past ct_need_past : Value} {od_need_past an_need_past : Option Addr} {sl_need_past : Array (Option Value)}
    {fu_judge_past : Addr} {oc_judge_past kV_judge_past dc_judge_past pm_judge_past cd_judge_past ct_judge_past : Value} {od_judge_past an_judge_past : Option Addr} {sl_judge_past : Array (Option Value)}
    {fu_past_holds : Addr} {oc_past_holds kV_past_holds dc_past_holds pm_past_holds cd_past_holds ct_past_holds : Value} {od_past_holds an_past_holds : Option Addr} {sl_past_holds : Array (Option Value)}
    {fu__law_deck : Addr} {oc__law_deck kV__law_deck dc__law_deck pm__law_deck cd__law_deck ct__law_deck : Value} {od__law_deck an__law_deck : Option Addr} {sl__law_deck : Array (Option Value)}
    {fu__law_draw : Addr} {oc__law_draw kV__law_draw dc__law_draw pm__law_draw cd__law_draw ct__law_draw : Value} {od__law_draw an__law_draw : Option Addr} {sl__law_draw : Array (Option Value)}
    {fu__law_pick : Addr} {oc__law_pick kV__law_pick dc__law_pick pm__law_pick cd__law_pick ct__law_pick : Value} {od__law_pick an__law_pick : Option Addr} {sl__law_pick : Array (Option Value)}
    {fu__law_same : Addr} {oc__law_same kV__law_same dc__law_same pm__law_same cd__law_same ct__law_same : Value} {od__law_same an__law_same : Option Addr} {sl__law_same : Array (Option Value)}
    {fu__law_is_int : Addr} {oc__law_is_int kV__law_is_int dc__law_is_int pm__law_is_int cd__law_is_int ct__law_is_int : Value} {od__law_is_int an__law_is_int : Option Addr} {sl__law_is_int : Array (Option Value)}
    {fu__law_is_word : Addr} {oc__law_is_word kV__law_is_word dc__law_is_word pm__law_is_word cd__law_is_word ct__law_is_word : Value} {od__law_is_word an__law_is_word : Option Addr} {sl__law_is_word : Array (Option Value)}
    {fu__law_is_body : Addr} {oc__law_is_body kV__law_is_body dc__law_is_body pm__law_is_body cd__law_is_body ct__law_is_body : Value} {od__law_is_body an__law_is_body : Option Addr} {sl__law_is_body : Array (Option Value)}
    {fu__law_odd : Addr} {oc__law_odd kV__law_odd dc__law_odd pm__law_odd cd__law_odd ct__law_odd : Value} {od__law_odd an__law_odd : Option Addr} {sl__law_odd : Array (Option Value)}
    {fu__law_bent : Addr} {oc__law_bent kV__law_bent dc__law_bent pm__law_bent cd__law_bent ct__law_bent : Value} {od__law_bent an__law_bent : Option Addr} {sl__law_bent : Array (Option Value)}
    {fu__law_is_entry : Addr} {oc__law_is_entry kV__law_is_entry dc__law_is_entry pm__law_is_entry cd__law_is_entry ct__law_is_entry : Value} {od__law_is_entry an__law_is_entry : Option Addr} {sl__law_is_entry : Array (Option Value)}
    {fu__law_is_past : Addr} {oc__law_is_past kV__law_is_past dc__law_is_past pm__law_is_past cd__law_is_past ct__law_is_past : Value} {od__law_is_past an__law_is_past : Option Addr} {sl__law_is_past : Array (Option Value)}
    {fu__law_answer_word : Addr} {oc__law_answer_word kV__law_answer_word dc__law_answer_word pm__law_answer_word cd__law_answer_word ct__law_answer_word : Value} {od__law_answer_word an__law_answer_word : Option Addr} {sl__law_answer_word : Array (Option Value)}
    {fu__law_word_of : Addr} {oc__law_word_of kV__law_word_of dc__law_word_of pm__law_word_of cd__law_word_of ct__law_word_of : Value} {od__law_word_of an__law_word_of : Option Addr} {sl__law_word_of : Array (Option Value)}
    {fu__law_judged : Addr} {oc__law_judged kV__law_judged dc__law_judged pm__law_judged cd__law_judged ct__law_judged : Value} {od__law_judged an__law_judged : Option Addr} {sl__law_judged : Array (Option Value)}
    {fu__law_drawn_request : Addr} {oc__law_drawn_request kV__law_drawn_request dc__law_drawn_request pm__law_drawn_request cd__law_drawn_request ct__law_drawn_request : Value} {od__law_drawn_request an__law_drawn_request : Option Addr} {sl__law_drawn_request : Array (Option Value)}
    {fu__law_answered_entry : Addr} {oc__law_answered_entry kV__law_answered_entry dc__law_answered_entry pm__law_answered_entry cd__law_answered_entry ct__law_answered_entry : Value} {od__law_answered_entry an__law_answered_entry : Option Addr} {sl__law_answered_entry : Array (Option Value)}
    {fu__law_drawn_past : Addr} {oc__law_drawn_past kV__law_drawn_past dc__law_drawn_past pm__law_drawn_past cd__law_drawn_past ct__law_drawn_past : Value} {od__law_drawn_past an__law_drawn_past : Option Addr} {sl__law_drawn_past : Array (Option Value)}
    {fu__law_told : Addr} {oc__law_told kV__law_told dc__law_told pm__law_told cd__law_told ct__law_told : Value} {od__law_told an__law_told : Option Addr} {sl__law_told : Array (Option Value)}
    {fu__law_near : Addr} {oc__law_near kV__law_near dc__law_near pm__law_near cd__law_near ct__law_near : Value} {od__law_near an__law_near : Option Addr} {sl__law_near : Array (Option Value)}
    {fu__law_is_beyond : Addr} {oc__law_is_beyond kV__law_is_beyond dc__law_is_beyond pm__law_is_beyond cd__law_is_beyond ct__law_is_beyond : Value} {od__law_is_beyond an__law_is_beyond : Option Addr} {sl__law_is_beyond : Array (Option Value)}
    {fu__law_is_right : Addr} {oc__law_is_right kV__law_is_right dc__law_is_right pm__law_is_right ct__law_is_right : Value} {od__law_is_right an__law_is_right : Option Addr} {sl__law_is_right : Array (Option Value)} {cR : Addr}
    {fu_law : Addr} {oc_law kV_law dc_law pm_law cd_law ct_law : Value} {od_law an_law : Option Addr} {sl_law : Array (Option Value)}
    {fu_J__init__ : Addr} {oc_J__init__ kV_J__init__ dc_J__init__ pm_J__init__ cd_J__init__ ct_J__init__ : Value} {od_J__init__ an_J__init__ : Option Addr} {sl_J__init__ : Array (Option Value)}
    {fu_Jaccept : Addr} {oc_Jaccept kV_Jaccept dc_Jaccept pm_Jaccept cd_Jaccept ct_Jaccept : Value} {od_Jaccept an_Jaccept : Option Addr} {sl_Jaccept : Array (Option Value)}
    {fu_Jbegin : Addr} {oc_Jbegin kV_Jbegin dc_Jbegin pm_Jbegin cd_Jbegin ct_Jbegin : Value} {od_Jbegin an_Jbegin : Option Addr} {sl_Jbegin : Array (Option Value)}
    {fu_Janswer : Addr} {oc_Janswer kV_Janswer dc_Janswer pm_Janswer cd_Janswer ct_Janswer : Value} {od_Janswer an_Janswer : Option Addr} {sl_Janswer : Array (Option Value)}
    {fu_Jfault_of : Addr} {oc_Jfault_of kV_Jfault_of dc_Jfault_of pm_Jfault_of cd_Jfault_of ct_Jfault_of : Value} {od_Jfault_of an_Jfault_of : Option Addr} {sl_Jfault_of : Array (Option Value)}
    {fu_Jtake : Addr} {oc_Jtake kV_Jtake dc_Jtake pm_Jtake cd_Jtake ct_Jtake : Value} {od_Jtake an_Jtake : Option Addr} {sl_Jtake : Array (Option Value)}
    {bnm bq : Str} {bN : Addr} {bbs bbm : List Value} {bsn : List Str} {bsub : List Value} {bab : Bool} {bcol : Option Bool} {bdd : Option Addr} {bk0 bk1 bk2 bk3 bk5 : Option Value}
    {fI cc cda : Addr} {qI : Str} {xparams : Arguments} {xscope : Scope} {xdV xkV xdoc xpm : Value} {xan : Option Addr} {xct xoc : Value} {xod : Option Addr} {xosl : Array (Option Value)} {xvs : Array Value} {c1 : Value} {c2 : Option Addr} {c3 : Array (Option Value)} {file : Str} {tf : Tok} {e1 : Value} {e2 : Option Addr} {e3 : Array (Option Value)} {ar : Arg} {p0 p1 p2 p3 p4 p5 p6 p7 p8 p9 : Pos}
    {tabP : Addr} {tE : Value} {tD : Option Addr} {tV : Array Value} {tS : Array (Option Value)}
    (aB : PySem.W.nsIn K mainGlobals "BadPast" = some (some (.ref CB)))
    (aG : PySem.W.nsIn K mainGlobals "GateError" = some (some (.ref CG)))
    (aJ : PySem.W.nsIn K mainGlobals "Judge" = some (some (.ref CJ)))
    (z_abs : PySem.W.nsIn K mainGlobals "abs" = some none)
    (z_all : PySem.W.nsIn K mainGlobals "all" = some none)
    (z_any : PySem.W.nsIn K mainGlobals "any" = some none)
    (z_bool : PySem.W.nsIn K mainGlobals "bool" = some none)
    (z_enumerate : PySem.W.nsIn K mainGlobals "enumerate" = some none)
    (z_int : PySem.W.nsIn K mainGlobals "int" = some none)
    (z_isinstance : PySem.W.nsIn K mainGlobals "isinstance" = some none)
    (z_len : PySem.W.nsIn K mainGlobals "len" = some none)
    (z_list : PySem.W.nsIn K mainGlobals "list" = some none)
    (z_max : PySem.W.nsIn K mainGlobals "max" = some none)
    (z_ord : PySem.W.nsIn K mainGlobals "ord" = some none)
    (z_range : PySem.W.nsIn K mainGlobals "range" = some none)
    (z_repr : PySem.W.nsIn K mainGlobals "repr" = some none)
    (z_str : PySem.W.nsIn K mainGlobals "str" = some none)
    (z_super : PySem.W.nsIn K mainGlobals "super" = some none)
    (z_tuple : PySem.W.nsIn K mainGlobals "tuple" = some none)
    (z_zip : PySem.W.nsIn K mainGlobals "zip" = some none)
    (g_MOST_NUMBER : PySem.W.nsIn K mainGlobals "MOST_NUMBER" = some (some (.int 1000000000 t_MOST_NUMBER)))
    (g_MOST_WORD : PySem.W.nsIn K mainGlobals "MOST_WORD" = some (some (.int 10 t_MOST_WORD)))
    (g_MOST_BODY : PySem.W.nsIn K mainGlobals "MOST_BODY" = some (some (.int 150 t_MOST_BODY)))
    (g_LETTERS : PySem.W.nsIn K mainGlobals "LETTERS" = some (some (.str "abcdefghijklmnopqrstuvwxyz" t_LETTERS)))
    (g_FATES : PySem.W.nsIn K mainGlobals "FATES" = some (some (.ref a_FATES)))
    (l_FATES : K.lookup a_FATES = some ⟨.type "tuple", dd_FATES, .seq #[.str "begun" t_FATES0, .str "not begun" t_FATES1, .str "open" t_FATES2, .str "" t_FATES3] n_FATES, sl_FATES⟩)
    (g_PLAIN : PySem.W.nsIn K mainGlobals "PLAIN" = some (some (.ref a_PLAIN)))
    (l_PLAIN : K.lookup a_PLAIN = some ⟨.type "tuple", dd_PLAIN, .seq #[.str "busy" t_PLAIN0, .str "begun" t_PLAIN1, .str "not begun" t_PLAIN2, .str "unknown" t_PLAIN3, .str "none" t_PLAIN4] n_PLAIN, sl_PLAIN⟩)
    (g_ONCE_ONLY : PySem.W.nsIn K mainGlobals "ONCE_ONLY" = some (some (.ref a_ONCE_ONLY)))
    (l_ONCE_ONLY : K.lookup a_ONCE_ONLY = some ⟨.type "tuple", dd_ONCE_ONLY, .seq #[.str "begun" t_ONCE_ONLY0, .str "not begun" t_ONCE_ONLY1, .str "unknown" t_ONCE_ONLY2] n_ONCE_ONLY, sl_ONCE_ONLY⟩)
    (jpg : PySem.W.plainGet K CJ Str.empty = true)
    (jhd : PySem.W.hasDictIn K CJ = true)
    (jpo : PySem.W.plainOver K CJ = true)
    (jsa : PySem.W.findIn K (.ref CJ) "__setattr__" = some (some (.builtin "object.__setattr__")))
    (jmk : PySem.W.makesIn K CJ = true)
    (jkc : PySem.W.keepIn K (.ref CJ) = true)
    (jn_accepted : PySem.W.findIn K (.ref CJ) "accepted" = some none)
    (jn_begun : PySem.W.findIn K (.ref CJ) "begun" = some none)
    (jn_answers : PySem.W.findIn K (.ref CJ) "answers" = some none)
    (jn_gone : PySem.W.findIn K (.ref CJ) "gone" = some none)
    (a_is_integer : PySem.W.nsIn K mainGlobals "is_integer" = some (some (.ref fu_is_integer)))
    (l_is_integer : K.lookup fu_is_integer = some ⟨oc_is_integer, od_is_integer, .func (PySem.W.fnOf "is_integer" "is_integer" (defArgs (top 8)) (defBody (top 8)) (defScope (top 8)) .none kV_is_integer dc_is_integer pm_is_integer an_is_integer cd_is_integer ct_is_integer), sl_is_integer⟩)
    (c_is_integer : PySem.W.codeIn K cd_is_integer "is_integer" = true)
    (k_is_integer : PySem.W.keepIn K (.ref fu_is_integer) = true)
    (a_is_between : PySem.W.nsIn K mainGlobals "is_between" = some (some (.ref fu_is_between)))
    (l_is_between : K.lookup fu_is_between = some ⟨oc_is_between, od_is_between, .func (PySem.W.fnOf "is_between" "is_between" (defArgs (top 9)) (defBody (top 9)) (defScope (top 9)) .none kV_is_between dc_is_between pm_is_between an_is_between cd_is_between ct_is_between), sl_is_between⟩)
    (c_is_between : PySem.W.codeIn K cd_is_between "is_between" = true)
    (k_is_between : PySem.W.keepIn K (.ref fu_is_between) = true)
    (a_is_row : PySem.W.nsIn K mainGlobals "is_row" = some (some (.ref fu_is_row)))
    (l_is_row : K.lookup fu_is_row = some ⟨oc_is_row, od_is_row, .func (PySem.W.fnOf "is_row" "is_row" (defArgs (top 10)) (defBody (top 10)) (defScope (top 10)) .none kV_is_row dc_is_row pm_is_row an_is_row cd_is_row ct_is_row), sl_is_row⟩)
    (c_is_row : PySem.W.codeIn K cd_is_row "is_row" = true)
    (k_is_row : PySem.W.keepIn K (.ref fu_is_row) = true)
    (a_is_number : PySem.W.nsIn K mainGlobals "is_number" = some (some (.ref fu_is_number)))
    (l_is_number : K.lookup fu_is_number = some ⟨oc_is_number, od_is_number, .func (PySem.W.fnOf "is_number" "is_number" (defArgs (top 11)) (defBody (top 11)) (defScope (top 11)) .none kV_is_number dc_is_number pm_is_number an_is_number cd_is_number ct_is_number), sl_is_number⟩)
    (c_is_number : PySem.W.codeIn K cd_is_number "is_number" = true)
    (k_is_number : PySem.W.keepIn K (.ref fu_is_number) = true)
    (a_is_bool : PySem.W.nsIn K mainGlobals "is_bool" = some (some (.ref fu_is_bool)))
    (l_is_bool : K.lookup fu_is_bool = some ⟨oc_is_bool, od_is_bool, .func (PySem.W.fnOf "is_bool" "is_bool" (defArgs (top 12)) (defBody (top 12)) (defScope (top 12)) .none kV_is_bool dc_is_bool pm_is_bool an_is_bool cd_is_bool ct_is_bool), sl_is_bool⟩)
    (c_is_bool : PySem.W.codeIn K cd_is_bool "is_bool" = true)
    (k_is_bool : PySem.W.keepIn K (.ref fu_is_bool) = true)
    (a_is_word : PySem.W.nsIn K mainGlobals "is_word" = some (some (.ref fu_is_word)))
    (l_is_word : K.lookup fu_is_word = some ⟨oc_is_word, od_is_word, .func (PySem.W.fnOf "is_word" "is_word" (defArgs (top 13)) (defBody (top 13)) (defScope (top 13)) .none kV_is_word dc_is_word pm_is_word an_is_word cd_is_word ct_is_word), sl_is_word⟩)
    (c_is_word : PySem.W.codeIn K cd_is_word "is_word" = true)
    (k_is_word : PySem.W.keepIn K (.ref fu_is_word) = true)
    (a_is_line : PySem.W.nsIn K mainGlobals "is_line" = some (some (.ref fu_is_line)))
    (l_is_line : K.lookup fu_is_line = some ⟨oc_is_line, od_is_line, .func (PySem.W.fnOf "is_line" "is_line" (defArgs (top 14)) (defBody (top 14)) (defScope (top 14)) .none kV_is_line dc_is_line pm_is_line an_is_line cd_is_line ct_is_line), sl_is_line⟩)
    (c_is_line : PySem.W.codeIn K cd_is_line "is_line" = true)
    (k_is_line : PySem.W.keepIn K (.ref fu_is_line) = true)
    (a_is_body : PySem.W.nsIn K mainGlobals "is_body" = some (some (.ref fu_is_body)))
    (l_is_body : K.lookup fu_is_body = some ⟨oc_is_body, od_is_body, .func (PySem.W.fnOf "is_body" "is_body" (defArgs (top 15)) (defBody (top 15)) (defScope (top 15)) .none kV_is_body dc_is_body pm_is_body an_is_body cd_is_body ct_is_body), sl_is_body⟩)
    (c_is_body : PySem.W.codeIn K cd_is_body "is_body" = true)
    (k_is_body : PySem.W.keepIn K (.ref fu_is_body) = true)
    (a_are_rising : PySem.W.nsIn K mainGlobals "are_rising" = some (some (.ref fu_are_rising)))
    (l_are_rising : K.lookup fu_are_rising = some ⟨oc_are_rising, od_are_rising, .func (PySem.W.fnOf "are_rising" "are_rising" (defArgs (top 16)) (defBody (top 16)) (defScope (top 16)) .none kV_are_rising dc_are_rising pm_are_rising an_are_rising cd_are_rising ct_are_rising), sl_are_rising⟩)
    (c_are_rising : PySem.W.codeIn K cd_are_rising "are_rising" = true)
    (k_are_rising : PySem.W.keepIn K (.ref fu_are_rising) = true)
    (a_is_answer : PySem.W.nsIn K mainGlobals "is_answer" = some (some (.ref fu_is_answer)))
    (l_is_answer : K.lookup fu_is_answer = some ⟨oc_is_answer, od_is_answer, .func (PySem.W.fnOf "is_answer" "is_answer" (defArgs (top 21)) (defBody (top 21)) (defScope (top 21)) .none kV_is_answer dc_is_answer pm_is_answer an_is_answer cd_is_answer ct_is_answer), sl_is_answer⟩)
    (c_is_answer : PySem.W.codeIn K cd_is_answer "is_answer" = true)
    (k_is_answer : PySem.W.keepIn K (.ref fu_is_answer) = true)
    (a_is_entry : PySem.W.nsIn K mainGlobals "is_entry" = some (some (.ref fu_is_entry)))
    (l_is_entry : K.lookup fu_is_entry = some ⟨oc_is_entry, od_is_entry, .func (PySem.W.fnOf "is_entry" "is_entry" (defArgs (top 22)) (defBody (top 22)) (defScope (top 22)) .none kV_is_entry dc_is_entry pm_is_entry an_is_entry cd_is_entry ct_is_entry), sl_is_entry⟩)
    (c_is_entry : PySem.W.codeIn K cd_is_entry "is_entry" = true)
    (k_is_entry : PySem.W.keepIn K (.ref fu_is_entry) = true)
    (a_is_past_value : PySem.W.nsIn K mainGlobals "is_past_value" = some (some (.ref fu_is_past_value)))
    (l_is_past_value : K.lookup fu_is_past_value = some ⟨oc_is_past_value, od_is_past_value, .func (PySem.W.fnOf "is_past_value" "is_past_value" (defArgs (top 23)) (defBody (top 23)) (defScope (top 23)) .none kV_is_past_value dc_is_past_value pm_is_past_value an_is_past_value cd_is_past_value ct_is_past_value), sl_is_past_value⟩)
    (c_is_past_value : PySem.W.codeIn K cd_is_past_value "is_past_value" = true)
    (k_is_past_value : PySem.W.keepIn K (.ref fu_is_past_value) = true)
    (a_judged : PySem.W.nsIn K mainGlobals "judged" = some (some (.ref fu_judged)))
    (l_judged : K.lookup fu_judged = some ⟨oc_judged, od_judged, .func (PySem.W.fnOf "judged" "judged" (defArgs (top 25)) (defBody (top 25)) (defScope (top 25)) .none kV_judged dc_judged pm_judged an_judged cd_judged ct_judged), sl_judged⟩)
    (c_judged : PySem.W.codeIn K cd_judged "judged" = true)
    (k_judged : PySem.W.keepIn K (.ref fu_judged) = true)
    (a_is_certificate : PySem.W.nsIn K mainGlobals "is_certificate" = some (some (.ref fu_is_certificate)))
    (l_is_certificate : K.lookup fu_is_certificate = some ⟨oc_is_certificate, od_is_certificate, .func (PySem.W.fnOf "is_certificate" "is_certificate" (defArgs (top 26)) (defBody (top 26)) (defScope (top 26)) .none kV_is_certificate dc_is_certificate pm_is_certificate an_is_certificate cd_is_certificate ct_is_certificate), sl_is_certificate⟩)
    (c_is_certificate : PySem.W.codeIn K cd_is_certificate "is_certificate" = true)
    (k_is_certificate : PySem.W.keepIn K (.ref fu_is_certificate) = true)
    (a_is_past : PySem.W.nsIn K mainGlobals "is_past" = some (some (.ref fu_is_past)))
    (l_is_past : K.lookup fu_is_past = some ⟨oc_is_past, od_is_past, .func (PySem.W.fnOf "is_past" "is_past" (defArgs (top 28)) (defBody (top 28)) (defScope (top 28)) .none kV_is_past dc_is_past pm_is_past an_is_past cd_is_past ct_is_past), sl_is_past⟩)
    (c_is_past : PySem.W.codeIn K cd_is_past "is_past" = true)
    (k_is_past : PySem.W.keepIn K (.ref fu_is_past) = true)
    (a_need_past : PySem.W.nsIn K mainGlobals "need_past" = some (some (.ref fu_need_past)))
    (l_need_past : K.lookup fu_need_past = some ⟨oc_need_past, od_need_past, .func (PySem.W.fnOf "need_past" "need_past" (defArgs (top 29)) (defBody (top 29)) (defScope (top 29)) .none kV_need_past dc_need_past pm_need_past an_need_past cd_need_past ct_need_past), sl_need_past⟩)
    (c_need_past : PySem.W.codeIn K cd_need_past "need_past" = true)
    (k_need_past : PySem.W.keepIn K (.ref fu_need_past) = true)
    (a_judge_past : PySem.W.nsIn K mainGlobals "judge_past" = some (some (.ref fu_judge_past)))
    (l_judge_past : K.lookup fu_judge_past = some ⟨oc_judge_past, od_judge_past, .func (PySem.W.fnOf "judge_past" "judge_past" (defArgs (top 30)) (defBody (top 30)) (defScope (top 30)) .none kV_judge_past dc_judge_past pm_judge_past an_judge_past cd_judge_past ct_judge_past), sl_judge_past⟩)
    (c_judge_past : PySem.W.codeIn K cd_judge_past "judge_past" = true)
    (k_judge_past : PySem.W.keepIn K (.ref fu_judge_past) = true)
    (a_past_holds : PySem.W.nsIn K mainGlobals "past_holds" = some (some (.ref fu_past_holds)))
    (l_past_holds : K.lookup fu_past_holds = some ⟨oc_past_holds, od_past_holds, .func (PySem.W.fnOf "past_holds" "past_holds" (defArgs (top 31)) (defBody (top 31)) (defScope (top 31)) .none kV_past_holds dc_past_holds pm_past_holds an_past_holds cd_past_holds ct_past_holds), sl_past_holds⟩)
    (c_past_holds : PySem.W.codeIn K cd_past_holds "past_holds" = true)
    (k_past_holds : PySem.W.keepIn K (.ref fu_past_holds) = true)
    (a__law_deck : PySem.W.nsIn K mainGlobals "_law_deck" = some (some (.ref fu__law_deck)))
    (l__law_deck : K.lookup fu__law_deck = some ⟨oc__law_deck, od__law_deck, .func (PySem.W.fnOf "_law_deck" "_law_deck" (defArgs (top 33)) (defBody (top 33)) (defScope (top 33)) .none kV__law_deck dc__law_deck pm__law_deck an__law_deck cd__law_deck ct__law_deck), sl__law_deck⟩)
    (c__law_deck : PySem.W.codeIn K cd__law_deck "_law_deck" = true)
    (k__law_deck : PySem.W.keepIn K (.ref fu__law_deck) = true)
    (a__law_draw : PySem.W.nsIn K mainGlobals "_law_draw" = some (some (.ref fu__law_draw)))
    (l__law_draw : K.lookup fu__law_draw = some ⟨oc__law_draw, od__law_draw, .func (PySem.W.fnOf "_law_draw" "_law_draw" (defArgs (top 34)) (defBody (top 34)) (defScope (top 34)) .none kV__law_draw dc__law_draw pm__law_draw an__law_draw cd__law_draw ct__law_draw), sl__law_draw⟩)
    (c__law_draw : PySem.W.codeIn K cd__law_draw "_law_draw" = true)
    (k__law_draw : PySem.W.keepIn K (.ref fu__law_draw) = true)
    (a__law_pick : PySem.W.nsIn K mainGlobals "_law_pick" = some (some (.ref fu__law_pick)))
    (l__law_pick : K.lookup fu__law_pick = some ⟨oc__law_pick, od__law_pick, .func (PySem.W.fnOf "_law_pick" "_law_pick" (defArgs (top 35)) (defBody (top 35)) (defScope (top 35)) .none kV__law_pick dc__law_pick pm__law_pick an__law_pick cd__law_pick ct__law_pick), sl__law_pick⟩)
    (c__law_pick : PySem.W.codeIn K cd__law_pick "_law_pick" = true)
    (k__law_pick : PySem.W.keepIn K (.ref fu__law_pick) = true)
    (a__law_same : PySem.W.nsIn K mainGlobals "_law_same" = some (some (.ref fu__law_same)))
    (l__law_same : K.lookup fu__law_same = some ⟨oc__law_same, od__law_same, .func (PySem.W.fnOf "_law_same" "_law_same" (defArgs (top 36)) (defBody (top 36)) (defScope (top 36)) .none kV__law_same dc__law_same pm__law_same an__law_same cd__law_same ct__law_same), sl__law_same⟩)
    (c__law_same : PySem.W.codeIn K cd__law_same "_law_same" = true)
    (k__law_same : PySem.W.keepIn K (.ref fu__law_same) = true)
    (a__law_is_int : PySem.W.nsIn K mainGlobals "_law_is_int" = some (some (.ref fu__law_is_int)))
    (l__law_is_int : K.lookup fu__law_is_int = some ⟨oc__law_is_int, od__law_is_int, .func (PySem.W.fnOf "_law_is_int" "_law_is_int" (defArgs (top 37)) (defBody (top 37)) (defScope (top 37)) .none kV__law_is_int dc__law_is_int pm__law_is_int an__law_is_int cd__law_is_int ct__law_is_int), sl__law_is_int⟩)
    (c__law_is_int : PySem.W.codeIn K cd__law_is_int "_law_is_int" = true)
    (k__law_is_int : PySem.W.keepIn K (.ref fu__law_is_int) = true)
    (a__law_is_word : PySem.W.nsIn K mainGlobals "_law_is_word" = some (some (.ref fu__law_is_word)))
    (l__law_is_word : K.lookup fu__law_is_word = some ⟨oc__law_is_word, od__law_is_word, .func (PySem.W.fnOf "_law_is_word" "_law_is_word" (defArgs (top 38)) (defBody (top 38)) (defScope (top 38)) .none kV__law_is_word dc__law_is_word pm__law_is_word an__law_is_word cd__law_is_word ct__law_is_word), sl__law_is_word⟩)
    (c__law_is_word : PySem.W.codeIn K cd__law_is_word "_law_is_word" = true)
    (k__law_is_word : PySem.W.keepIn K (.ref fu__law_is_word) = true)
    (a__law_is_body : PySem.W.nsIn K mainGlobals "_law_is_body" = some (some (.ref fu__law_is_body)))
    (l__law_is_body : K.lookup fu__law_is_body = some ⟨oc__law_is_body, od__law_is_body, .func (PySem.W.fnOf "_law_is_body" "_law_is_body" (defArgs (top 39)) (defBody (top 39)) (defScope (top 39)) .none kV__law_is_body dc__law_is_body pm__law_is_body an__law_is_body cd__law_is_body ct__law_is_body), sl__law_is_body⟩)
    (c__law_is_body : PySem.W.codeIn K cd__law_is_body "_law_is_body" = true)
    (k__law_is_body : PySem.W.keepIn K (.ref fu__law_is_body) = true)
    (a__law_odd : PySem.W.nsIn K mainGlobals "_law_odd" = some (some (.ref fu__law_odd)))
    (l__law_odd : K.lookup fu__law_odd = some ⟨oc__law_odd, od__law_odd, .func (PySem.W.fnOf "_law_odd" "_law_odd" (defArgs (top 40)) (defBody (top 40)) (defScope (top 40)) .none kV__law_odd dc__law_odd pm__law_odd an__law_odd cd__law_odd ct__law_odd), sl__law_odd⟩)
    (c__law_odd : PySem.W.codeIn K cd__law_odd "_law_odd" = true)
    (k__law_odd : PySem.W.keepIn K (.ref fu__law_odd) = true)
    (a__law_bent : PySem.W.nsIn K mainGlobals "_law_bent" = some (some (.ref fu__law_bent)))
    (l__law_bent : K.lookup fu__law_bent = some ⟨oc__law_bent, od__law_bent, .func (PySem.W.fnOf "_law_bent" "_law_bent" (defArgs (top 41)) (defBody (top 41)) (defScope (top 41)) .none kV__law_bent dc__law_bent pm__law_bent an__law_bent cd__law_bent ct__law_bent), sl__law_bent⟩)
    (c__law_bent : PySem.W.codeIn K cd__law_bent "_law_bent" = true)
    (k__law_bent : PySem.W.keepIn K (.ref fu__law_bent) = true)
    (a__law_is_entry : PySem.W.nsIn K mainGlobals "_law_is_entry" = some (some (.ref fu__law_is_entry)))
    (l__law_is_entry : K.lookup fu__law_is_entry = some ⟨oc__law_is_entry, od__law_is_entry, .func (PySem.W.fnOf "_law_is_entry" "_law_is_entry" (defArgs (top 42)) (defBody (top 42)) (defScope (top 42)) .none kV__law_is_entry dc__law_is_entry pm__law_is_entry an__law_is_entry cd__law_is_entry ct__law_is_entry), sl__law_is_entry⟩)
    (c__law_is_entry : PySem.W.codeIn K cd__law_is_entry "_law_is_entry" = true)
    (k__law_is_entry : PySem.W.keepIn K (.ref fu__law_is_entry) = true)
    (a__law_is_past : PySem.W.nsIn K mainGlobals "_law_is_past" = some (some (.ref fu__law_is_past)))
    (l__law_is_past : K.lookup fu__law_is_past = some ⟨oc__law_is_past, od__law_is_past, .func (PySem.W.fnOf "_law_is_past" "_law_is_past" (defArgs (top 43)) (defBody (top 43)) (defScope (top 43)) .none kV__law_is_past dc__law_is_past pm__law_is_past an__law_is_past cd__law_is_past ct__law_is_past), sl__law_is_past⟩)
    (c__law_is_past : PySem.W.codeIn K cd__law_is_past "_law_is_past" = true)
    (k__law_is_past : PySem.W.keepIn K (.ref fu__law_is_past) = true)
    (a__law_answer_word : PySem.W.nsIn K mainGlobals "_law_answer_word" = some (some (.ref fu__law_answer_word)))
    (l__law_answer_word : K.lookup fu__law_answer_word = some ⟨oc__law_answer_word, od__law_answer_word, .func (PySem.W.fnOf "_law_answer_word" "_law_answer_word" (defArgs (top 44)) (defBody (top 44)) (defScope (top 44)) .none kV__law_answer_word dc__law_answer_word pm__law_answer_word an__law_answer_word cd__law_answer_word ct__law_answer_word), sl__law_answer_word⟩)
    (c__law_answer_word : PySem.W.codeIn K cd__law_answer_word "_law_answer_word" = true)
    (k__law_answer_word : PySem.W.keepIn K (.ref fu__law_answer_word) = true)
    (a__law_word_of : PySem.W.nsIn K mainGlobals "_law_word_of" = some (some (.ref fu__law_word_of)))
    (l__law_word_of : K.lookup fu__law_word_of = some ⟨oc__law_word_of, od__law_word_of, .func (PySem.W.fnOf "_law_word_of" "_law_word_of" (defArgs (top 45)) (defBody (top 45)) (defScope (top 45)) .none kV__law_word_of dc__law_word_of pm__law_word_of an__law_word_of cd__law_word_of ct__law_word_of), sl__law_word_of⟩)
    (c__law_word_of : PySem.W.codeIn K cd__law_word_of "_law_word_of" = true)
    (k__law_word_of : PySem.W.keepIn K (.ref fu__law_word_of) = true)
    (a__law_judged : PySem.W.nsIn K mainGlobals "_law_judged" = some (some (.ref fu__law_judged)))
    (l__law_judged : K.lookup fu__law_judged = some ⟨oc__law_judged, od__law_judged, .func (PySem.W.fnOf "_law_judged" "_law_judged" (defArgs (top 46)) (defBody (top 46)) (defScope (top 46)) .none kV__law_judged dc__law_judged pm__law_judged an__law_judged cd__law_judged ct__law_judged), sl__law_judged⟩)
    (c__law_judged : PySem.W.codeIn K cd__law_judged "_law_judged" = true)
    (k__law_judged : PySem.W.keepIn K (.ref fu__law_judged) = true)
    (a__law_drawn_request : PySem.W.nsIn K mainGlobals "_law_drawn_request" = some (some (.ref fu__law_drawn_request)))
    (l__law_drawn_request : K.lookup fu__law_drawn_request = some ⟨oc__law_drawn_request, od__law_drawn_request, .func (PySem.W.fnOf "_law_drawn_request" "_law_drawn_request" (defArgs (top 47)) (defBody (top 47)) (defScope (top 47)) .none kV__law_drawn_request dc__law_drawn_request pm__law_drawn_request an__law_drawn_request cd__law_drawn_request ct__law_drawn_request), sl__law_drawn_request⟩)
    (c__law_drawn_request : PySem.W.codeIn K cd__law_drawn_request "_law_drawn_request" = true)
    (k__law_drawn_request : PySem.W.keepIn K (.ref fu__law_drawn_request) = true)
    (a__law_answered_entry : PySem.W.nsIn K mainGlobals "_law_answered_entry" = some (some (.ref fu__law_answered_entry)))
    (l__law_answered_entry : K.lookup fu__law_answered_entry = some ⟨oc__law_answered_entry, od__law_answered_entry, .func (PySem.W.fnOf "_law_answered_entry" "_law_answered_entry" (defArgs (top 48)) (defBody (top 48)) (defScope (top 48)) .none kV__law_answered_entry dc__law_answered_entry pm__law_answered_entry an__law_answered_entry cd__law_answered_entry ct__law_answered_entry), sl__law_answered_entry⟩)
    (c__law_answered_entry : PySem.W.codeIn K cd__law_answered_entry "_law_answered_entry" = true)
    (k__law_answered_entry : PySem.W.keepIn K (.ref fu__law_answered_entry) = true)
    (a__law_drawn_past : PySem.W.nsIn K mainGlobals "_law_drawn_past" = some (some (.ref fu__law_drawn_past)))
    (l__law_drawn_past : K.lookup fu__law_drawn_past = some ⟨oc__law_drawn_past, od__law_drawn_past, .func (PySem.W.fnOf "_law_drawn_past" "_law_drawn_past" (defArgs (top 49)) (defBody (top 49)) (defScope (top 49)) .none kV__law_drawn_past dc__law_drawn_past pm__law_drawn_past an__law_drawn_past cd__law_drawn_past ct__law_drawn_past), sl__law_drawn_past⟩)
    (c__law_drawn_past : PySem.W.codeIn K cd__law_drawn_past "_law_drawn_past" = true)
    (k__law_drawn_past : PySem.W.keepIn K (.ref fu__law_drawn_past) = true)
    (a__law_told : PySem.W.nsIn K mainGlobals "_law_told" = some (some (.ref fu__law_told)))
    (l__law_told : K.lookup fu__law_told = some ⟨oc__law_told, od__law_told, .func (PySem.W.fnOf "_law_told" "_law_told" (defArgs (top 50)) (defBody (top 50)) (defScope (top 50)) .none kV__law_told dc__law_told pm__law_told an__law_told cd__law_told ct__law_told), sl__law_told⟩)
    (c__law_told : PySem.W.codeIn K cd__law_told "_law_told" = true)
    (k__law_told : PySem.W.keepIn K (.ref fu__law_told) = true)
    (a__law_near : PySem.W.nsIn K mainGlobals "_law_near" = some (some (.ref fu__law_near)))
    (l__law_near : K.lookup fu__law_near = some ⟨oc__law_near, od__law_near, .func (PySem.W.fnOf "_law_near" "_law_near" (defArgs (top 51)) (defBody (top 51)) (defScope (top 51)) .none kV__law_near dc__law_near pm__law_near an__law_near cd__law_near ct__law_near), sl__law_near⟩)
    (c__law_near : PySem.W.codeIn K cd__law_near "_law_near" = true)
    (k__law_near : PySem.W.keepIn K (.ref fu__law_near) = true)
    (a__law_is_beyond : PySem.W.nsIn K mainGlobals "_law_is_beyond" = some (some (.ref fu__law_is_beyond)))
    (l__law_is_beyond : K.lookup fu__law_is_beyond = some ⟨oc__law_is_beyond, od__law_is_beyond, .func (PySem.W.fnOf "_law_is_beyond" "_law_is_beyond" (defArgs (top 52)) (defBody (top 52)) (defScope (top 52)) .none kV__law_is_beyond dc__law_is_beyond pm__law_is_beyond an__law_is_beyond cd__law_is_beyond ct__law_is_beyond), sl__law_is_beyond⟩)
    (c__law_is_beyond : PySem.W.codeIn K cd__law_is_beyond "_law_is_beyond" = true)
    (k__law_is_beyond : PySem.W.keepIn K (.ref fu__law_is_beyond) = true)
    (a__law_is_right : PySem.W.nsIn K mainGlobals "_law_is_right" = some (some (.ref fu__law_is_right)))
    (l__law_is_right : K.lookup fu__law_is_right = some ⟨oc__law_is_right, od__law_is_right, .func (PySem.W.fnOf "_law_is_right" "_law_is_right" (defArgs (top 53)) (defBody (top 53)) (defScope (top 53)) .none kV__law_is_right dc__law_is_right pm__law_is_right an__law_is_right (.ref cR) ct__law_is_right), sl__law_is_right⟩)
    (c__law_is_right : PySem.W.codeIn K (.ref cR) "_law_is_right" = true)
    (k__law_is_right : PySem.W.keepIn K (.ref fu__law_is_right) = true)
    (a_law : PySem.W.nsIn K mainGlobals "law" = some (some (.ref fu_law)))
    (l_law : K.lookup fu_law = some ⟨oc_law, od_law, .func (PySem.W.fnOf "law" "law" (defArgs (top 54)) (defBody (top 54)) (defScope (top 54)) .none kV_law dc_law pm_law an_law cd_law ct_law), sl_law⟩)
    (c_law : PySem.W.codeIn K cd_law "law" = true)
    (k_law : PySem.W.keepIn K (.ref fu_law) = true)
    (a_J__init__ : PySem.W.findIn K (.ref CJ) "__init__" = some (some (.ref fu_J__init__)))
    (i_J__init__ : PySem.W.isFn K (.ref fu_J__init__) = true)
    (l_J__init__ : K.lookup fu_J__init__ = some ⟨oc_J__init__, od_J__init__, .func (PySem.W.fnOf "__init__" "Judge.__init__" (defArgs ((clsStmts (top 24)).getD 0 (.Pass ⟨0, 0, 0, 0⟩))) (defBody ((clsStmts (top 24)).getD 0 (.Pass ⟨0, 0, 0, 0⟩))) (defScope ((clsStmts (top 24)).getD 0 (.Pass ⟨0, 0, 0, 0⟩))) .none kV_J__init__ dc_J__init__ pm_J__init__ an_J__init__ cd_J__init__ ct_J__init__), sl_J__init__⟩)
    (c_J__init__ : PySem.W.codeIn K cd_J__init__ "Judge.__init__" = true)
    (k_J__init__ : PySem.W.keepIn K (.ref fu_J__init__) = true)
    (a_Jaccept : PySem.W.findIn K (.ref CJ) "accept" = some (some (.ref fu_Jaccept)))
    (i_Jaccept : PySem.W.isFn K (.ref fu_Jaccept) = true)
    (l_Jaccept : K.lookup fu_Jaccept = some ⟨oc_Jaccept, od_Jaccept, .func (PySem.W.fnOf "accept" "Judge.accept" (defArgs ((clsStmts (top 24)).getD 1 (.Pass ⟨0, 0, 0, 0⟩))) (defBody ((clsStmts (top 24)).getD 1 (.Pass ⟨0, 0, 0, 0⟩))) (defScope ((clsStmts (top 24)).getD 1 (.Pass ⟨0, 0, 0, 0⟩))) .none kV_Jaccept dc_Jaccept pm_Jaccept an_Jaccept cd_Jaccept ct_Jaccept), sl_Jaccept⟩)
    (c_Jaccept : PySem.W.codeIn K cd_Jaccept "Judge.accept" = true)
    (k_Jaccept : PySem.W.keepIn K (.ref fu_Jaccept) = true)
    (a_Jbegin : PySem.W.findIn K (.ref CJ) "begin" = some (some (.ref fu_Jbegin)))
    (i_Jbegin : PySem.W.isFn K (.ref fu_Jbegin) = true)
    (l_Jbegin : K.lookup fu_Jbegin = some ⟨oc_Jbegin, od_Jbegin, .func (PySem.W.fnOf "begin" "Judge.begin" (defArgs ((clsStmts (top 24)).getD 2 (.Pass ⟨0, 0, 0, 0⟩))) (defBody ((clsStmts (top 24)).getD 2 (.Pass ⟨0, 0, 0, 0⟩))) (defScope ((clsStmts (top 24)).getD 2 (.Pass ⟨0, 0, 0, 0⟩))) .none kV_Jbegin dc_Jbegin pm_Jbegin an_Jbegin cd_Jbegin ct_Jbegin), sl_Jbegin⟩)
    (c_Jbegin : PySem.W.codeIn K cd_Jbegin "Judge.begin" = true)
    (k_Jbegin : PySem.W.keepIn K (.ref fu_Jbegin) = true)
    (a_Janswer : PySem.W.findIn K (.ref CJ) "answer" = some (some (.ref fu_Janswer)))
    (i_Janswer : PySem.W.isFn K (.ref fu_Janswer) = true)
    (l_Janswer : K.lookup fu_Janswer = some ⟨oc_Janswer, od_Janswer, .func (PySem.W.fnOf "answer" "Judge.answer" (defArgs ((clsStmts (top 24)).getD 3 (.Pass ⟨0, 0, 0, 0⟩))) (defBody ((clsStmts (top 24)).getD 3 (.Pass ⟨0, 0, 0, 0⟩))) (defScope ((clsStmts (top 24)).getD 3 (.Pass ⟨0, 0, 0, 0⟩))) .none kV_Janswer dc_Janswer pm_Janswer an_Janswer cd_Janswer ct_Janswer), sl_Janswer⟩)
    (c_Janswer : PySem.W.codeIn K cd_Janswer "Judge.answer" = true)
    (k_Janswer : PySem.W.keepIn K (.ref fu_Janswer) = true)
    (a_Jfault_of : PySem.W.findIn K (.ref CJ) "fault_of" = some (some (.ref fu_Jfault_of)))
    (i_Jfault_of : PySem.W.isFn K (.ref fu_Jfault_of) = true)
    (l_Jfault_of : K.lookup fu_Jfault_of = some ⟨oc_Jfault_of, od_Jfault_of, .func (PySem.W.fnOf "fault_of" "Judge.fault_of" (defArgs ((clsStmts (top 24)).getD 4 (.Pass ⟨0, 0, 0, 0⟩))) (defBody ((clsStmts (top 24)).getD 4 (.Pass ⟨0, 0, 0, 0⟩))) (defScope ((clsStmts (top 24)).getD 4 (.Pass ⟨0, 0, 0, 0⟩))) .none kV_Jfault_of dc_Jfault_of pm_Jfault_of an_Jfault_of cd_Jfault_of ct_Jfault_of), sl_Jfault_of⟩)
    (c_Jfault_of : PySem.W.codeIn K cd_Jfault_of "Judge.fault_of" = true)
    (k_Jfault_of : PySem.W.keepIn K (.ref fu_Jfault_of) = true)
    (a_Jtake : PySem.W.findIn K (.ref CJ) "take" = some (some (.ref fu_Jtake)))
    (i_Jtake : PySem.W.isFn K (.ref fu_Jtake) = true)
    (l_Jtake : K.lookup fu_Jtake = some ⟨oc_Jtake, od_Jtake, .func (PySem.W.fnOf "take" "Judge.take" (defArgs ((clsStmts (top 24)).getD 5 (.Pass ⟨0, 0, 0, 0⟩))) (defBody ((clsStmts (top 24)).getD 5 (.Pass ⟨0, 0, 0, 0⟩))) (defScope ((clsStmts (top 24)).getD 5 (.Pass ⟨0, 0, 0, 0⟩))) .none kV_Jtake dc_Jtake pm_Jtake an_Jtake cd_Jtake ct_Jtake), sl_Jtake⟩)
    (c_Jtake : PySem.W.codeIn K cd_Jtake "Judge.take" = true)
    (k_Jtake : PySem.W.keepIn K (.ref fu_Jtake) = true)
    (xcl : K.lookup CB = some (excClassObj bnm bq CB bN bbs bbm true bsn bsub bab bcol bdd bk0 bk1 bk2 bk3 bk5 "Exception.__new__"))
    (xre : PySem.L3X.refsEx bbm = true)
    (xal : PySem.W.alongIn K "__init__" bbm = some (some (.builtin "Exception.__init__")))
    (xsa : PySem.W.findIn K (.ref CB) "__setattr__" = some (some (.builtin "object.__setattr__")))
    (xno : PySem.W.findIn K (.ref CB) "thing" = some none)
    (xeC : PySem.W.subIn K (.ref CB) (.type "BaseException") = some true)
    (xeE : PySem.W.subIn K (.ref CB) (.type "Exception") = some true)
    (xow : PySem.W.mroIn K CB (.ref CB) = some true)
    (xty : PySem.W.typeIn K (.ref CB) = some (.type "type"))
    (xkC : PySem.W.keepIn K (.ref CB) = true)
    (xop : PySem.W.nsIn K cStatics "thirdparty.any" = some none)
    (xga : PySem.W.findIn K (.ref CB) "__getattribute__" = some (some (.builtin "BaseException.__getattribute__")))
    (xgg : PySem.W.findIn K (.ref CB) "__getattr__" = some none)
    (xhd : PySem.W.hasDictIn K CB = true)
    (xcc : PySem.W.findIn K (.ref CB) "__class__" = some (some (.builtin "object.__class__")))
    (xsp : PySem.W.specialIn K (.builtin "object.__class__") "__get__" = some (some (.builtin "getset_descriptor.__get__")))
    (xtk : PySem.W.takesIn K (.builtin "object.__class__") = some true)
    (xob : PySem.W.mroIn K CB (.type "object") = some true)
    (xki : PySem.W.kitOne K (.ref CB) (.ref CG) = some true)
    (xss : PySem.W.subIn K (.ref CB) (.ref CB) = some true)
    (x1 : PySem.W.findIn K (.ref CB) "__init__" = some (some (.ref fI)))
    (x2 : PySem.W.typeIn K (.ref fI) = some (.type "function"))
    (x3 : K.lookup fI = some ⟨xoc, xod, .func (PySem.W.fnX "__init__" qI xparams (badBody p0 p1 p2 p3 p4 p5 p6 p7 p8 p9) xscope [("__class__", cc)] xdV xkV xdoc xpm xan (.ref cda) xct), xosl⟩)
    (x4 : PySem.W.codeIn K (.ref cda) qI = true)
    (x5 : K.lookup cda = some ⟨c1, c2, .fields xvs, c3⟩)
    (x6 : xvs[2]? = some (.str file tf))
    (x7 : ((PP.main.file : Str) == file) = true)
    (x8 : K.lookup cc = some ⟨e1, e2, .cell (some (.ref CB)), e3⟩)
    (x9 : (xparams.posonlyargs ++ xparams.args).head? = some ar)
    (x10 : ar.arg = "self")
    (x11 : xscope.names.lookup ("super" : Str) = some .globalImplicit)
    (x12 : xscope.names.lookup ("__class__" : Str) = some .free)
    (x13 : xscope.names.lookup ("self" : Str) = some .local)
    (x14 : xscope.names.lookup ("thing" : Str) = some .local)
    (x15 : xscope.kind = .function)
    (x16 : xscope.isCoroutine = false)
    (x17 : xscope.isGenerator = false)
    (x18 : ∀ x ∈ xscope.names, x.2 ≠ .cell)
    (x19 : ∀ a b : Value, bindArgs (PySem.W.fnX "__init__" qI xparams (badBody p0 p1 p2 p3 p4 p5 p6 p7 p8 p9) xscope [("__class__", cc)] xdV xkV xdoc xpm xan (.ref cda) xct) ⟨[a, b], []⟩ = pure [(("self" : Str), a), (("thing" : Str), b)])
    (x20 : (PP.main.scope.names.lookup ("super" : Str)).isSome = false)
    (x21 : ∀ env : Env, ∃ pl : Sem Bool, eval (.Call (.Attribute (.Call (.Name "super" p0) [] [] p1) "__init__" p2) [.Name "thing" p3] [] p4) env = (do
      let ov ← attributeBase (.Call (.Name "super" p0) [] [] p1) "__init__" env (eval (.Call (.Name "super" p0) [] [] p1) env)
      standAt p2.atName
      let (f, first) ← holding [ov] (getMethod ov "__init__" pl)
      callWith p4 f first (backTo p4 (starEach [.Name "thing" p3] env)) []))
    (t1 : K.lookup cR = some ⟨tE, tD, .fields tV, tS⟩)
    (t2 : tV[11]? = some (.ref tabP))
    (t3 : K.lookup tabP = none)
    (t4 : K.lookup sysModules = none)
    (hplain : ∀ ns : List Int, ns.length ≤ 63 → ∃ S', f_law tabP [.scr ns] [.tab tabP tabQ] = .ok (.bl true) S') :
    LawAtG PySem.Challenge.rw_answergate_k46_any_values_as_pasts w K 22 63 "_law_script" "_law_is_right" mg fa := by
  have e := hfa.symm.trans (PySem.W.mg_of X G a_law)
  cases e
  have mB := PySem.W.mg_of X G aB
  have mG := PySem.W.mg_of X G aG
  have mJ := PySem.W.mg_of X G aJ
  have jc : Cls K CJ := ⟨jpg, jhd, jpo, jsa⟩
  have jat : ∀ C, mg "Judge" = some (.ref C) → C = CJ := fun C hC => by
    rw [mJ] at hC
    cases hC
    rfl
  have T : Tx K mg := {
    z_abs := PySem.W.mg_none_of X G z_abs
    z_all := PySem.W.mg_none_of X G z_all
    z_any := PySem.W.mg_none_of X G z_any
    z_bool := PySem.W.mg_none_of X G z_bool
    z_enumerate := PySem.W.mg_none_of X G z_enumerate
    z_int := PySem.W.mg_none_of X G z_int
    z_isinstance := PySem.W.mg_none_of X G z_isinstance
    z_len := PySem.W.mg_none_of X G z_len
    z_list := PySem.W.mg_none_of X G z_list
    z_max := PySem.W.mg_none_of X G z_max
    z_ord := PySem.W.mg_none_of X G z_ord
    z_range := PySem.W.mg_none_of X G z_range
    z_repr := PySem.W.mg_none_of X G z_repr
    z_str := PySem.W.mg_none_of X G z_str
    z_super := PySem.W.mg_none_of X G z_super
    z_tuple := PySem.W.mg_none_of X G z_tuple
    z_zip := PySem.W.mg_none_of X G z_zip
    g_MOST_NUMBER := gc_int (PySem.W.mg_of X G g_MOST_NUMBER)
    g_MOST_WORD := gc_int (PySem.W.mg_of X G g_MOST_WORD)
    g_MOST_BODY := gc_int (PySem.W.mg_of X G g_MOST_BODY)
    g_LETTERS := gc_str (PySem.W.mg_of X G g_LETTERS) (by first | rfl | decide +kernel)
    g_FATES := gc_tup (vs := [.str "begun" t_FATES0, .str "not begun" t_FATES1, .str "open" t_FATES2, .str "" t_FATES3]) (PySem.W.mg_of X G g_FATES) l_FATES (.cons (by first | rfl | decide +kernel) (.cons (by first | rfl | decide +kernel) (.cons (by first | rfl | decide +kernel) (.cons (by first | rfl | decide +kernel) .nil)))) (by show 4 ≤ 1000; omega)
    g_PLAIN := gc_tup (vs := [.str "busy" t_PLAIN0, .str "begun" t_PLAIN1, .str "not begun" t_PLAIN2, .str "unknown" t_PLAIN3, .str "none" t_PLAIN4]) (PySem.W.mg_of X G g_PLAIN) l_PLAIN (.cons (by first | rfl | decide +kernel) (.cons (by first | rfl | decide +kernel) (.cons (by first | rfl | decide +kernel) (.cons (by first | rfl | decide +kernel) (.cons (by first | rfl | decide +kernel) .nil))))) (by show 5 ≤ 1000; omega)
    g_ONCE_ONLY := gc_tup (vs := [.str "begun" t_ONCE_ONLY0, .str "not begun" t_ONCE_ONLY1, .str "unknown" t_ONCE_ONLY2]) (PySem.W.mg_of X G g_ONCE_ONLY) l_ONCE_ONLY (.cons (by first | rfl | decide +kernel) (.cons (by first | rfl | decide +kernel) (.cons (by first | rfl | decide +kernel) .nil))) (by show 3 ≤ 1000; omega)
    f_accepted := ⟨fun C hC => by
      rw [jat C hC]
      exact ⟨jc, jn_accepted⟩⟩
    f_begun := ⟨fun C hC => by
      rw [jat C hC]
      exact ⟨jc, jn_begun⟩⟩
    f_answers := ⟨fun C hC => by
      rw [jat C hC]
      exact ⟨jc, jn_answers⟩⟩
    f_gone := ⟨fun C hC => by
      rw [jat C hC]
      exact ⟨jc, jn_gone⟩⟩
    bad := ⟨CB, mB, ⟨⟨_, _, _, _, _, _, _, _, _, _, _, _, _, _, _, xcl, xre, xal⟩, xsa, xno, xeC, xeE, xow, xty, xkC, xop, ⟨fI, cc, cda, qI, xparams, xscope, xdV, xkV, xdoc, xpm, xan, xct, xoc, xod, xosl, xvs, c1, c2, c3, file, tf, e1, e2, e3, ar, p0, p1, p2, p3, p4, p5, p6, p7, p8, p9, x1, x2, x3, x4, x5, x6, x7, x8, x9, x10, x11, x12, x13, x14, x15, x16, x17, x18, x19, x20, x21⟩⟩⟩
    told := ⟨CB, CG, mB, mG, ⟨⟨xga, xgg, xeC, xhd⟩, xno, ⟨xga, xgg, xeC, xhd, xcc, xsp, xtk, xob⟩, xki, xeC, xhd, xty, xss⟩⟩
    d_is_integer := ⟨_, _, PySem.W.mg_of X G a_is_integer, fun_mk (st := top 8) l_is_integer c_is_integer k_is_integer⟩
    d_is_between := ⟨_, _, PySem.W.mg_of X G a_is_between, fun_mk (st := top 9) l_is_between c_is_between k_is_between⟩
    d_is_row := ⟨_, _, PySem.W.mg_of X G a_is_row, fun_mk (st := top 10) l_is_row c_is_row k_is_row⟩
    d_is_number := ⟨_, _, PySem.W.mg_of X G a_is_number, fun_mk (st := top 11) l_is_number c_is_number k_is_number⟩
    d_is_bool := ⟨_, _, PySem.W.mg_of X G a_is_bool, fun_mk (st := top 12) l_is_bool c_is_bool k_is_bool⟩
    d_is_word := ⟨_, _, PySem.W.mg_of X G a_is_word, fun_mk (st := top 13) l_is_word c_is_word k_is_word⟩
    d_is_line := ⟨_, _, PySem.W.mg_of X G a_is_line, fun_mk (st := top 14) l_is_line c_is_line k_is_line⟩
    d_is_body := ⟨_, _, PySem.W.mg_of X G a_is_body, fun_mk (st := top 15) l_is_body c_is_body k_is_body⟩
    d_are_rising := ⟨_, _, PySem.W.mg_of X G a_are_rising, fun_mk (st := top 16) l_are_rising c_are_rising k_are_rising⟩
    d_is_answer := ⟨_, _, PySem.W.mg_of X G a_is_answer, fun_mk (st := top 21) l_is_answer c_is_answer k_is_answer⟩
    d_is_entry := ⟨_, _, PySem.W.mg_of X G a_is_entry, fun_mk (st := top 22) l_is_entry c_is_entry k_is_entry⟩
    d_is_past_value := ⟨_, _, PySem.W.mg_of X G a_is_past_value, fun_mk (st := top 23) l_is_past_value c_is_past_value k_is_past_value⟩
    d_judged := ⟨_, _, PySem.W.mg_of X G a_judged, fun_mk (st := top 25) l_judged c_judged k_judged⟩
    d_is_certificate := ⟨_, _, PySem.W.mg_of X G a_is_certificate, fun_mk (st := top 26) l_is_certificate c_is_certificate k_is_certificate⟩
    d_is_past := ⟨_, _, PySem.W.mg_of X G a_is_past, fun_mk (st := top 28) l_is_past c_is_past k_is_past⟩
    d_need_past := ⟨_, _, PySem.W.mg_of X G a_need_past, fun_mk (st := top 29) l_need_past c_need_past k_need_past⟩
    d_judge_past := ⟨_, _, PySem.W.mg_of X G a_judge_past, fun_mk (st := top 30) l_judge_past c_judge_past k_judge_past⟩
    d_past_holds := ⟨_, _, PySem.W.mg_of X G a_past_holds, fun_mk (st := top 31) l_past_holds c_past_holds k_past_holds⟩
    d__law_deck := ⟨_, _, PySem.W.mg_of X G a__law_deck, fun_mk (st := top 33) l__law_deck c__law_deck k__law_deck⟩
    d__law_draw := ⟨_, _, PySem.W.mg_of X G a__law_draw, fun_mk (st := top 34) l__law_draw c__law_draw k__law_draw⟩
    d__law_pick := ⟨_, _, PySem.W.mg_of X G a__law_pick, fun_mk (st := top 35) l__law_pick c__law_pick k__law_pick⟩
    d__law_same := ⟨_, _, PySem.W.mg_of X G a__law_same, fun_mk (st := top 36) l__law_same c__law_same k__law_same⟩
    d__law_is_int := ⟨_, _, PySem.W.mg_of X G a__law_is_int, fun_mk (st := top 37) l__law_is_int c__law_is_int k__law_is_int⟩
    d__law_is_word := ⟨_, _, PySem.W.mg_of X G a__law_is_word, fun_mk (st := top 38) l__law_is_word c__law_is_word k__law_is_word⟩
    d__law_is_body := ⟨_, _, PySem.W.mg_of X G a__law_is_body, fun_mk (st := top 39) l__law_is_body c__law_is_body k__law_is_body⟩
    d__law_odd := ⟨_, _, PySem.W.mg_of X G a__law_odd, fun_mk (st := top 40) l__law_odd c__law_odd k__law_odd⟩
    d__law_bent := ⟨_, _, PySem.W.mg_of X G a__law_bent, fun_mk (st := top 41) l__law_bent c__law_bent k__law_bent⟩
    d__law_is_entry := ⟨_, _, PySem.W.mg_of X G a__law_is_entry, fun_mk (st := top 42) l__law_is_entry c__law_is_entry k__law_is_entry⟩
    d__law_is_past := ⟨_, _, PySem.W.mg_of X G a__law_is_past, fun_mk (st := top 43) l__law_is_past c__law_is_past k__law_is_past⟩
    d__law_answer_word := ⟨_, _, PySem.W.mg_of X G a__law_answer_word, fun_mk (st := top 44) l__law_answer_word c__law_answer_word k__law_answer_word⟩
    d__law_word_of := ⟨_, _, PySem.W.mg_of X G a__law_word_of, fun_mk (st := top 45) l__law_word_of c__law_word_of k__law_word_of⟩
    d__law_judged := ⟨_, _, PySem.W.mg_of X G a__law_judged, fun_mk (st := top 46) l__law_judged c__law_judged k__law_judged⟩
    d__law_drawn_request := ⟨_, _, PySem.W.mg_of X G a__law_drawn_request, fun_mk (st := top 47) l__law_drawn_request c__law_drawn_request k__law_drawn_request⟩
    d__law_answered_entry := ⟨_, _, PySem.W.mg_of X G a__law_answered_entry, fun_mk (st := top 48) l__law_answered_entry c__law_answered_entry k__law_answered_entry⟩
    d__law_drawn_past := ⟨_, _, PySem.W.mg_of X G a__law_drawn_past, fun_mk (st := top 49) l__law_drawn_past c__law_drawn_past k__law_drawn_past⟩
    d__law_told := ⟨_, _, PySem.W.mg_of X G a__law_told, fun_mk (st := top 50) l__law_told c__law_told k__law_told⟩
    d__law_near := ⟨_, _, PySem.W.mg_of X G a__law_near, fun_mk (st := top 51) l__law_near c__law_near k__law_near⟩
    d__law_is_beyond := ⟨_, _, PySem.W.mg_of X G a__law_is_beyond, fun_mk (st := top 52) l__law_is_beyond c__law_is_beyond k__law_is_beyond⟩
    d__law_is_right := ⟨_, _, PySem.W.mg_of X G a__law_is_right, fun_mk (st := top 53) l__law_is_right c__law_is_right k__law_is_right⟩
    d_law := ⟨_, _, PySem.W.mg_of X G a_law, fun_mk (st := top 54) l_law c_law k_law⟩
    d_Judge___init__ := ⟨CJ, _, _, mJ, ⟨jmk, a_J__init__, i_J__init__, jkc⟩, fun_mk (st := ((clsStmts (top 24)).getD 0 (.Pass ⟨0, 0, 0, 0⟩))) l_J__init__ c_J__init__ k_J__init__⟩
    d_Judge_accept := ⟨fun C hC => by
      rw [jat C hC]
      exact ⟨jc, _, _, ⟨a_Jaccept, i_Jaccept, k_Jaccept⟩, fun_mk (st := ((clsStmts (top 24)).getD 1 (.Pass ⟨0, 0, 0, 0⟩))) l_Jaccept c_Jaccept k_Jaccept⟩⟩
    d_Judge_begin := ⟨fun C hC => by
      rw [jat C hC]
      exact ⟨jc, _, _, ⟨a_Jbegin, i_Jbegin, k_Jbegin⟩, fun_mk (st := ((clsStmts (top 24)).getD 2 (.Pass ⟨0, 0, 0, 0⟩))) l_Jbegin c_Jbegin k_Jbegin⟩⟩
    d_Judge_answer := ⟨fun C hC => by
      rw [jat C hC]
      exact ⟨jc, _, _, ⟨a_Janswer, i_Janswer, k_Janswer⟩, fun_mk (st := ((clsStmts (top 24)).getD 3 (.Pass ⟨0, 0, 0, 0⟩))) l_Janswer c_Janswer k_Janswer⟩⟩
    d_Judge_fault_of := ⟨fun C hC => by
      rw [jat C hC]
      exact ⟨jc, _, _, ⟨a_Jfault_of, i_Jfault_of, k_Jfault_of⟩, fun_mk (st := ((clsStmts (top 24)).getD 4 (.Pass ⟨0, 0, 0, 0⟩))) l_Jfault_of c_Jfault_of k_Jfault_of⟩⟩
    d_Judge_take := ⟨fun C hC => by
      rw [jat C hC]
      exact ⟨jc, _, _, ⟨a_Jtake, i_Jtake, k_Jtake⟩, fun_mk (st := ((clsStmts (top 24)).getD 5 (.Pass ⟨0, 0, 0, 0⟩))) l_Jtake c_Jtake k_Jtake⟩⟩
  }
  have D : DefAtC K mg "_law_is_right" (top 53) cR := ⟨_, _, PySem.W.mg_of X G a__law_is_right, fun_mk (st := top 53) l__law_is_right c__law_is_right k__law_is_right, rfl⟩
  have FL := fun_mk (st := top 54) l_law c_law k_law
  refine ⟨_, cR, tabP, tabQ, f_law tabP, _, _, _, _, _, _, _, PySem.W.mg_of X G a__law_is_right, l__law_is_right, rfl, rfl, t1, t2, t3, t4, fun s u => ?_, hplain, fun base _ _ TB => law_ok (w := w) T D FL TB⟩
  exact .of_eq rfl
end K46
open PySem PySem.W PyProof.Rows
set_option maxRecDepth 100000 in
set_option maxHeartbeats 0 in
theorem PySem.Challenge.cw_answergate_k46_any_values_as_pasts_holds : PySem.Challenge.rw_answergate_k46_any_values_as_pasts.Holds := by
  w_on; o_law; k_head; (case hw => w_witness2)
  k_fill
  refine L3.walk_ofG (l := PySem.Challenge.rw_answergate_k46_any_values_as_pasts) (n := 63) (k := 22) (x := "_law_script") (lr := "_law_is_right") rfl (by decide) rfl ⟨rfl, by decide, by decide⟩ (by decide +kernel) (by decide +kernel) (fun w h Y => PySem.W.km_in_of Y) ?F
  case F =>
    intro w mg fa h Y KX G hmg
    refine' K46.all_mk KX G hmg ?aB ?aG ?aJ ?z_abs ?z_all ?z_any ?z_bool ?z_enumerate ?z_int ?z_isinstance ?z_len ?z_list ?z_max ?z_ord ?z_range ?z_repr ?z_str ?z_super ?z_tuple ?z_zip ?g_MOST_NUMBER ?g_MOST_WORD ?g_MOST_BODY ?g_LETTERS ?g_FATES ?l_FATES ?g_PLAIN ?l_PLAIN ?g_ONCE_ONLY ?l_ONCE_ONLY ?jpg ?jhd ?jpo ?jsa ?jmk ?jkc ?jn_accepted ?jn_begun ?jn_answers ?jn_gone ?a_is_integer ?l_is_integer ?c_is_integer ?k_is_integer ?a_is_between ?l_is_between ?c_is_between ?k_is_between ?a_is_row ?l_is_row ?c_is_row ?k_is_row ?a_is_number ?l_is_number ?c_is_number ?k_is_number ?a_is_bool ?l_is_bool ?c_is_bool ?k_is_bool ?a_is_word ?l_is_word ?c_is_word ?k_is_word ?a_is_line ?l_is_line ?c_is_line ?k_is_line ?a_is_body ?l_is_body ?c_is_body ?k_is_body ?a_are_rising ?l_are_rising ?c_are_rising ?k_are_rising ?a_is_answer ?l_is_answer ?c_is_answer ?k_is_answer ?a_is_entry ?l_is_entry ?c_is_entry ?k_is_entry ?a_is_past_value ?l_is_past_value ?c_is_past_value ?k_is_past_value ?a_judged ?l_judged ?c_judged ?k_judged ?a_is_certificate ?l_is_certificate ?c_is_certificate ?k_is_certificate ?a_is_past ?l_is_past ?c_is_past ?k_is_past ?a_need_past ?l_need_past ?c_need_past ?k_need_past ?a_judge_past ?l_judge_past ?c_judge_past ?k_judge_past ?a_past_holds ?l_past_holds ?c_past_holds ?k_past_holds ?a__law_deck ?l__law_deck ?c__law_deck ?k__law_deck ?a__law_draw ?l__law_draw ?c__law_draw ?k__law_draw ?a__law_pick ?l__law_pick ?c__law_pick ?k__law_pick ?a__law_same ?l__law_same ?c__law_same ?k__law_same ?a__law_is_int ?l__law_is_int ?c__law_is_int ?k__law_is_int ?a__law_is_word ?l__law_is_word ?c__law_is_word ?k__law_is_word ?a__law_is_body ?l__law_is_body ?c__law_is_body ?k__law_is_body ?a__law_odd ?l__law_odd ?c__law_odd ?k__law_odd ?a__law_bent ?l__law_bent ?c__law_bent ?k__law_bent ?a__law_is_entry ?l__law_is_entry ?c__law_is_entry ?k__law_is_entry ?a__law_is_past ?l__law_is_past ?c__law_is_past ?k__law_is_past ?a__law_answer_word ?l__law_answer_word ?c__law_answer_word ?k__law_answer_word ?a__law_word_of ?l__law_word_of ?c__law_word_of ?k__law_word_of ?a__law_judged ?l__law_judged ?c__law_judged ?k__law_judged ?a__law_drawn_request ?l__law_drawn_request ?c__law_drawn_request ?k__law_drawn_request ?a__law_answered_entry ?l__law_answered_entry ?c__law_answered_entry ?k__law_answered_entry ?a__law_drawn_past ?l__law_drawn_past ?c__law_drawn_past ?k__law_drawn_past ?a__law_told ?l__law_told ?c__law_told ?k__law_told ?a__law_near ?l__law_near ?c__law_near ?k__law_near ?a__law_is_beyond ?l__law_is_beyond ?c__law_is_beyond ?k__law_is_beyond ?a__law_is_right ?l__law_is_right ?c__law_is_right ?k__law_is_right ?a_law ?l_law ?c_law ?k_law ?a_J__init__ ?i_J__init__ ?l_J__init__ ?c_J__init__ ?k_J__init__ ?a_Jaccept ?i_Jaccept ?l_Jaccept ?c_Jaccept ?k_Jaccept ?a_Jbegin ?i_Jbegin ?l_Jbegin ?c_Jbegin ?k_Jbegin ?a_Janswer ?i_Janswer ?l_Janswer ?c_Janswer ?k_Janswer ?a_Jfault_of ?i_Jfault_of ?l_Jfault_of ?c_Jfault_of ?k_Jfault_of ?a_Jtake ?i_Jtake ?l_Jtake ?c_Jtake ?k_Jtake ?xcl ?xre ?xal ?xsa ?xno ?xeC ?xeE ?xow ?xty ?xkC ?xop ?xga ?xgg ?xhd ?xcc ?xsp ?xtk ?xob ?xki ?xss ?x1 ?x2 ?x3 ?x4 ?x5 ?x6 ?x7 ?x8 ?x9 ?x10 ?x11 ?x12 ?x13 ?x14 ?x15 ?x16 ?x17 ?x18 ?x19 ?x20 ?x21 ?t1 ?t2 ?t3 ?t4 ?hplain
    case aB => k_is
    case aG => k_is
    case aJ => k_is
    case z_abs => k_is
    case z_all => k_is
    case z_any => k_is
    case z_bool => k_is
    case z_enumerate => k_is
    case z_int => k_is
    case z_isinstance => k_is
    case z_len => k_is
    case z_list => k_is
    case z_max => k_is
    case z_ord => k_is
    case z_range => k_is
    case z_repr => k_is
    case z_str => k_is
    case z_super => k_is
    case z_tuple => k_is
    case z_zip => k_is
    case g_MOST_NUMBER => k_is
    case g_MOST_WORD => k_is
    case g_MOST_BODY => k_is
    case g_LETTERS => k_is
    case g_FATES => k_is
    case l_FATES => k_is
    case g_PLAIN => k_is
    case l_PLAIN => k_is
    case g_ONCE_ONLY => k_is
    case l_ONCE_ONLY => k_is
    case jpg => k_is
    case jhd => k_is
    case jpo => k_is
    case jsa => k_is
    case jmk => k_is
    case jkc => k_is
    case jn_accepted => k_is
    case jn_begun => k_is
    case jn_answers => k_is
    case jn_gone => k_is
    case a_is_integer => k_is
    case l_is_integer => k_is
    case c_is_integer => k_is
    case k_is_integer => k_is
    case a_is_between => k_is
    case l_is_between => k_is
    case c_is_between => k_is
    case k_is_between => k_is
    case a_is_row => k_is
    case l_is_row => k_is
    case c_is_row => k_is
    case k_is_row => k_is
    case a_is_number => k_is
    case l_is_number => k_is
    case c_is_number => k_is
    case k_is_number => k_is
    case a_is_bool => k_is
    case l_is_bool => k_is
    case c_is_bool => k_is
    case k_is_bool => k_is
    case a_is_word => k_is
    case l_is_word => k_is
    case c_is_word => k_is
    case k_is_word => k_is
    case a_is_line => k_is
    case l_is_line => k_is
    case c_is_line => k_is
    case k_is_line => k_is
    case a_is_body => k_is
    case l_is_body => k_is
    case c_is_body => k_is
    case k_is_body => k_is
    case a_are_rising => k_is
    case l_are_rising => k_is
    case c_are_rising => k_is
    case k_are_rising => k_is
    case a_is_answer => k_is
    case l_is_answer => k_is
    case c_is_answer => k_is
    case k_is_answer => k_is
    case a_is_entry => k_is
    case l_is_entry => k_is
    case c_is_entry => k_is
    case k_is_entry => k_is
    case a_is_past_value => k_is
    case l_is_past_value => k_is
    case c_is_past_value => k_is
    case k_is_past_value => k_is
    case a_judged => k_is
    case l_judged => k_is
    case c_judged => k_is
    case k_judged => k_is
    case a_is_certificate => k_is
    case l_is_certificate => k_is
    case c_is_certificate => k_is
    case k_is_certificate => k_is
    case a_is_past => k_is
    case l_is_past => k_is
    case c_is_past => k_is
    case k_is_past => k_is
    case a_need_past => k_is
    case l_need_past => k_is
    case c_need_past => k_is
    case k_need_past => k_is
    case a_judge_past => k_is
    case l_judge_past => k_is
    case c_judge_past => k_is
    case k_judge_past => k_is
    case a_past_holds => k_is
    case l_past_holds => k_is
    case c_past_holds => k_is
    case k_past_holds => k_is
    case a__law_deck => k_is
    case l__law_deck => k_is
    case c__law_deck => k_is
    case k__law_deck => k_is
    case a__law_draw => k_is
    case l__law_draw => k_is
    case c__law_draw => k_is
    case k__law_draw => k_is
    case a__law_pick => k_is
    case l__law_pick => k_is
    case c__law_pick => k_is
    case k__law_pick => k_is
    case a__law_same => k_is
    case l__law_same => k_is
    case c__law_same => k_is
    case k__law_same => k_is
    case a__law_is_int => k_is
    case l__law_is_int => k_is
    case c__law_is_int => k_is
    case k__law_is_int => k_is
    case a__law_is_word => k_is
    case l__law_is_word => k_is
    case c__law_is_word => k_is
    case k__law_is_word => k_is
    case a__law_is_body => k_is
    case l__law_is_body => k_is
    case c__law_is_body => k_is
    case k__law_is_body => k_is
    case a__law_odd => k_is
    case l__law_odd => k_is
    case c__law_odd => k_is
    case k__law_odd => k_is
    case a__law_bent => k_is
    case l__law_bent => k_is
    case c__law_bent => k_is
    case k__law_bent => k_is
    case a__law_is_entry => k_is
    case l__law_is_entry => k_is
    case c__law_is_entry => k_is
    case k__law_is_entry => k_is
    case a__law_is_past => k_is
    case l__law_is_past => k_is
    case c__law_is_past => k_is
    case k__law_is_past => k_is
    case a__law_answer_word => k_is
    case l__law_answer_word => k_is
    case c__law_answer_word => k_is
    case k__law_answer_word => k_is
    case a__law_word_of => k_is
    case l__law_word_of => k_is
    case c__law_word_of => k_is
    case k__law_word_of => k_is
    case a__law_judged => k_is
    case l__law_judged => k_is
    case c__law_judged => k_is
    case k__law_judged => k_is
    case a__law_drawn_request => k_is
    case l__law_drawn_request => k_is
    case c__law_drawn_request => k_is
    case k__law_drawn_request => k_is
    case a__law_answered_entry => k_is
    case l__law_answered_entry => k_is
    case c__law_answered_entry => k_is
    case k__law_answered_entry => k_is
    case a__law_drawn_past => k_is
    case l__law_drawn_past => k_is
    case c__law_drawn_past => k_is
    case k__law_drawn_past => k_is
    case a__law_told => k_is
    case l__law_told => k_is
    case c__law_told => k_is
    case k__law_told => k_is
    case a__law_near => k_is
    case l__law_near => k_is
    case c__law_near => k_is
    case k__law_near => k_is
    case a__law_is_beyond => k_is
    case l__law_is_beyond => k_is
    case c__law_is_beyond => k_is
    case k__law_is_beyond => k_is
    case a__law_is_right => k_is
    case l__law_is_right => k_is
    case c__law_is_right => k_is
    case k__law_is_right => k_is
    case a_law => k_is
    case l_law => k_is
    case c_law => k_is
    case k_law => k_is
    case a_J__init__ => k_is
    case i_J__init__ => k_is
    case l_J__init__ => k_is
    case c_J__init__ => k_is
    case k_J__init__ => k_is
    case a_Jaccept => k_is
    case i_Jaccept => k_is
    case l_Jaccept => k_is
    case c_Jaccept => k_is
    case k_Jaccept => k_is
    case a_Jbegin => k_is
    case i_Jbegin => k_is
    case l_Jbegin => k_is
    case c_Jbegin => k_is
    case k_Jbegin => k_is
    case a_Janswer => k_is
    case i_Janswer => k_is
    case l_Janswer => k_is
    case c_Janswer => k_is
    case k_Janswer => k_is
    case a_Jfault_of => k_is
    case i_Jfault_of => k_is
    case l_Jfault_of => k_is
    case c_Jfault_of => k_is
    case k_Jfault_of => k_is
    case a_Jtake => k_is
    case i_Jtake => k_is
    case l_Jtake => k_is
    case c_Jtake => k_is
    case k_Jtake => k_is
    case xcl => k_is
    case xre => first | rfl | k_is | decide +kernel
    case xal => kernel_rfl
    case xsa => k_is
    case xno => k_is
    case xeC => k_is
    case xeE => k_is
    case xow => k_is
    case xty => k_is
    case xkC => k_is
    case xop => k_is
    case xga => k_is
    case xgg => k_is
    case xhd => k_is
    case xcc => k_is
    case xsp => k_is
    case xtk => k_is
    case xob => k_is
    case xki => kernel_rfl
    case xss => k_is
    case x1 => k_is
    case x2 => k_is
    case x3 => k_is
    case x4 => k_is
    case x5 => k_is
    case x6 => first | rfl | k_is
    case x7 => first | rfl | decide +kernel
    case x8 => k_is
    case x9 => first | rfl | k_is
    case x10 => rfl
    case x11 => first | rfl | decide +kernel
    case x12 => first | rfl | decide +kernel
    case x13 => first | rfl | decide +kernel
    case x14 => first | rfl | decide +kernel
    case x15 => rfl
    case x16 => rfl
    case x17 => rfl
    case x18 => decide +kernel
    case x19 => exact fun _ _ => rfl
    case x20 => first | rfl | decide +kernel
    case x21 => exact fun _ => ⟨_, rfl⟩
    case t1 => k_is
    case t2 => first | rfl | k_is
    case t3 => kernel_rfl
    case t4 => kernel_rfl
    case hplain => exact K46.plain _
