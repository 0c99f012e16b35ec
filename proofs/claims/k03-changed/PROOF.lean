import PyProof.Rows.All
import Wide.All
import OpenK.AllK
import Wide.FinOn
import HandS.ForMost
import HandS.Walk
import HandS.TupAny
import HandS.TupMul
import HandS.IsInst
import HandS.Defaults
import HandS.Flow
import HandS.Text
import HandS.WideBits
import PyProof.P3In
import PyProof.ReprRoads
import HandS.Star
import HandS.StrMore
import HandS.FStr
import HandS.Zip
import HandS.TupLe
import PyProof.CallFns
import PyProof.NoPylong
import HandS.RaiseMore
import KE.GoesNew
import KE.GoesEnumKw
import HandS.Rev
import HandS.Style
import HandS.HeadEnd
import HandS.Words
import PyProof.FitsInt
import PySem.Challenge.RW_tallypeaks_k03_logs_changed
set_option Elab.async false
set_option linter.all false
set_option maxRecDepth 100000
set_option maxHeartbeats 4100000
set_option maxHeartbeats 8000000
/-! D0: deep values by tree, the store, the relation to HandS's slots and abstract heap. -/
namespace D
open PySem PySem.Spec L2

/-- a value as a tree; ref: an object that may change (the store tells it) -/
inductive P where
  | non | bl (b : Bool) | int (i : Int) | str (s : Str) | ty (n : String) | ref (a : Addr)
  | tup (xs : List P) | lst (xs : List P) | scr (xs : List P) | dct (kvs : List (P × P)) | ins (C : Addr) (fs : List (Str × P))
/-- what stands at an address that may change -/
inductive SO where
  | lst (xs : List P) | dct (kvs : List (P × P)) | ins (C : Addr) (fs : List (Str × P)) | set (xs : List P)
abbrev Store := Addr → Option SO
def ups (S : Store) (a : Addr) (o : SO) : Store := fun b => if b = a then some o else S b
theorem ups_same {S : Store} {a : Addr} {o : SO} : ups S a o a = some o := if_pos rfl
theorem ups_ne {S : Store} {a b : Addr} {o : SO} (h : b ≠ a) : ups S a o b = S b := if_neg h
theorem ups_ups {S : Store} {a : Addr} {o u : SO} : ups (ups S a o) a u = ups S a u := by
  funext b; unfold ups; split <;> rfl
/-- a slot: nothing, a value, an object of the slot's own -/
inductive Sl where
  | un | v (p : P) | own (o : SO)
abbrev Env := List Sl
/-- what an expression gives: a value, or the object that slot i owns -/
inductive R where
  | v (p : P) | loc (i : Nat)
/-- the fixed part: the written part, the world, the callers' objects, the entry's frozen ones -/
structure Gm where
  K : PySem.W.Frag
  w : World
  F : Hp
  I0 : Hp
def Le (I J : Hp) : Prop := ∀ a o, I a = some o → J a = some o
theorem Le.refl {I : Hp} : Le I I := fun _ _ h => h
theorem Le.trans {I J L : Hp} (h : Le I J) (k : Le J L) : Le I L := fun a o e => k a o (h a o e)
theorem Le.upd {I : Hp} {p : Addr} {o : HO} (h : I p = none) : Le I (upd I p o) := fun a u e => by
  rw [upd_ne (ne_of_none e h)]; exact e
theorem Le.rd {I J : Hp} (h : Le I J) {a : Addr} {u : HO} (r : Rd I a u) : Rd J a u := by
  rcases r with r | ⟨o, r⟩
  · exact .inl (h a _ r)
  · exact .inr ⟨o, h a _ r⟩
theorem Le.sqt {K : PySem.W.Frag} {I J : Hp} (h : Le I J) {a : Addr} {xs : List V} (r : SqT K I a xs) : SqT K J a xs := r.imp h.rd id
theorem Le.sql {K : PySem.W.Frag} {I J : Hp} (h : Le I J) {a : Addr} {xs : List V} (r : SqL K I a xs) : SqL K J a xs := r.imp h.rd id

mutual
/-- the tree p stands for the value x, by the frozen part I -/
def RP (G : Gm) (I : Hp) : P → V → Prop
  | .non, x => x = .non
  | .bl b, x => x = .bl b
  | .int i, x => x = .int i
  | .str s, x => x = .str s ∧ s.length ≤ sizeLine ∧ PyData.strOk s = true
  | .ty n, x => x = .ty n
  | .ref a, x => x = .ref a
  | .tup ps, x => ∃ a vs, x = .ref a ∧ SqT G.K I a vs ∧ RPs G I ps vs
  | .lst ps, x => ∃ a vs, x = .ref a ∧ I a = some (.lst vs) ∧ RPs G I ps vs
  | .scr ps, x => ∃ a vs, x = .ref a ∧ SqL G.K I a vs ∧ RPs G I ps vs
  | .dct kvs, x => ∃ a, x = .ref a ∧ I a = some (.dK []) ∧ kvs = []
  | .ins C fs, x => ∃ a dx gs, x = .ref a ∧ I a = some (.ins C dx gs) ∧ RFs G I fs gs
def RPs (G : Gm) (I : Hp) : List P → List V → Prop
  | [], vs => vs = []
  | p :: ps, vs => ∃ x r, vs = x :: r ∧ RP G I p x ∧ RPs G I ps r
def RFs (G : Gm) (I : Hp) : List (Str × P) → List (Str × V) → Prop
  | [], gs => gs = []
  | (f, p) :: ps, gs => ∃ x r, gs = (f, x) :: r ∧ RP G I p x ∧ RFs G I ps r
end
section
variable {G : Gm} {I J : Hp}
mutual
theorem RP.mono (h : Le I J) : ∀ (p : P) (x : V), RP G I p x → RP G J p x
  | .non, _, r => r
  | .bl _, _, r => r
  | .int _, _, r => r
  | .str _, _, r => r
  | .ty _, _, r => r
  | .ref _, _, r => r
  | .tup ps, _, ⟨a, vs, e, s, r⟩ => ⟨a, vs, e, h.sqt s, RPs.mono h ps vs r⟩
  | .lst ps, _, ⟨a, vs, e, s, r⟩ => ⟨a, vs, e, h _ _ s, RPs.mono h ps vs r⟩
  | .scr ps, _, ⟨a, vs, e, s, r⟩ => ⟨a, vs, e, h.sql s, RPs.mono h ps vs r⟩
  | .dct _, _, ⟨a, e, s, r⟩ => ⟨a, e, h _ _ s, r⟩
  | .ins _ fs, _, ⟨a, dx, gs, e, s, r⟩ => ⟨a, dx, gs, e, h _ _ s, RFs.mono h fs gs r⟩
theorem RPs.mono (h : Le I J) : ∀ (ps : List P) (vs : List V), RPs G I ps vs → RPs G J ps vs
  | [], _, r => r
  | p :: ps, _, ⟨x, q, e, r, t⟩ => ⟨x, q, e, RP.mono h p x r, RPs.mono h ps q t⟩
theorem RFs.mono (h : Le I J) : ∀ (ps : List (Str × P)) (gs : List (Str × V)), RFs G I ps gs → RFs G J ps gs
  | [], _, r => r
  | (_, p) :: ps, _, ⟨x, q, e, r, t⟩ => ⟨x, q, e, RP.mono h p x r, RFs.mono h ps q t⟩
end
theorem RP.mkI {i : Int} : RP G I (.int i) (.int i) := rfl
theorem RP.mkB {b : Bool} : RP G I (.bl b) (.bl b) := rfl
theorem RP.mkN : RP G I .non .non := rfl
theorem RP.mkS {s : Str} (h : s.length ≤ sizeLine) (k : PyData.strOk s = true) : RP G I (.str s) (.str s) := ⟨rfl, h, k⟩
theorem RP.mkT {a : Addr} {vs : List V} {ps : List P} (h : I a = some (.tup vs)) (t : RPs G I ps vs) : RP G I (.tup ps) (.ref a) := ⟨a, vs, rfl, SqT.of h, t⟩
theorem RP.mkL {a : Addr} {vs : List V} {ps : List P} (h : I a = some (.lst vs)) (t : RPs G I ps vs) : RP G I (.lst ps) (.ref a) := ⟨a, vs, rfl, h, t⟩
theorem RPs.length : ∀ {ps : List P} {vs : List V}, RPs G I ps vs → ps.length = vs.length
  | [], _, r => by cases r; rfl
  | _ :: _, _, ⟨_, _, e, _, t⟩ => by subst e; exact congrArg Nat.succ (RPs.length t)
theorem RPs.append : ∀ {ps qs : List P} {vs ws : List V}, RPs G I ps vs → RPs G I qs ws → RPs G I (ps ++ qs) (vs ++ ws)
  | [], _, _, _, r, t => by cases r; exact t
  | _ :: _, _, _, _, ⟨x, q, e, r, t⟩, u => by subst e; exact ⟨x, _, rfl, r, RPs.append t u⟩
theorem RPs.take : ∀ {ps : List P} {vs : List V} (n : Nat), RPs G I ps vs → RPs G I (ps.take n) (vs.take n)
  | _, _, 0, _ => rfl
  | [], _, _ + 1, r => by cases r; rfl
  | _ :: _, _, n + 1, ⟨x, q, e, r, t⟩ => by subst e; exact ⟨x, _, rfl, r, RPs.take n t⟩
theorem RPs.drop : ∀ {ps : List P} {vs : List V} (n : Nat), RPs G I ps vs → RPs G I (ps.drop n) (vs.drop n)
  | _, _, 0, r => r
  | [], _, _ + 1, r => by cases r; rfl
  | _ :: _, _, n + 1, ⟨x, q, e, r, t⟩ => by subst e; exact RPs.drop n t
theorem RPs.get : ∀ {ps : List P} {vs : List V} {i : Nat} {p : P}, RPs G I ps vs → ps[i]? = some p → ∃ x, vs[i]? = some x ∧ RP G I p x
  | [], _, _, _, _, e => by simp at e
  | _ :: _, _, 0, _, ⟨x, q, e, r, t⟩, h => by subst e; simp at h; subst h; exact ⟨x, rfl, r⟩
  | _ :: ps, _, i + 1, _, ⟨x, q, e, r, t⟩, h => by subst e; exact RPs.get (ps := ps) (i := i) t (by simpa using h)
theorem RPs.get' : ∀ {ps : List P} {vs : List V} {i : Nat} {x : V}, RPs G I ps vs → vs[i]? = some x → ∃ p, ps[i]? = some p ∧ RP G I p x
  | [], _, _, _, r, e => by cases r; simp at e
  | p :: _, _, 0, _, ⟨x, q, e, r, t⟩, h => by subst e; simp at h; subst h; exact ⟨p, rfl, r⟩
  | _ :: ps, _, i + 1, _, ⟨x, q, e, r, t⟩, h => by subst e; exact RPs.get' (ps := ps) (i := i) t (by simpa using h)
theorem RPs.set {p : P} {x : V} (r : RP G I p x) : ∀ {ps : List P} {vs : List V} (i : Nat), RPs G I ps vs → RPs G I (ps.set i p) (vs.set i x)
  | [], _, _, q => by cases q; rfl
  | _ :: _, _, 0, ⟨y, q, e, _, t⟩ => by subst e; exact ⟨x, q, rfl, r, t⟩
  | _ :: _, _, i + 1, ⟨y, q, e, h, t⟩ => by subst e; exact ⟨y, _, rfl, h, RPs.set r i t⟩
theorem RPs.reverse : ∀ {ps : List P} {vs : List V}, RPs G I ps vs → RPs G I ps.reverse vs.reverse
  | [], _, r => by cases r; rfl
  | _ :: _, _, ⟨x, q, e, r, t⟩ => by subst e; rw [List.reverse_cons, List.reverse_cons]; exact (RPs.reverse t).append ⟨x, [], rfl, r, rfl⟩
theorem RPs.one {p : P} {x : V} (r : RP G I p x) : RPs G I [p] [x] := ⟨x, [], rfl, r, rfl⟩
theorem RPs.rep {ps : List P} {vs : List V} (r : RPs G I ps vs) : ∀ k : Nat, RPs G I (List.replicate k ps).flatten (List.replicate k vs).flatten
  | 0 => rfl
  | k + 1 => by rw [List.replicate_succ, List.replicate_succ, List.flatten_cons, List.flatten_cons]; exact r.append (RPs.rep r k)
theorem RFs.lookup : ∀ {fs : List (Str × P)} {gs : List (Str × V)} {f : Str} {p : P}, RFs G I fs gs → fs.lookup f = some p → ∃ x, gs.lookup f = some x ∧ RP G I p x
  | [], _, _, _, _, e => by cases e
  | (g, q) :: fs, _, f, p, ⟨x, r, e, h, t⟩, k => by
    subst e
    rw [List.lookup_cons] at k ⊢
    cases c : f == g with
    | true => rw [c] at k; cases k; exact ⟨x, rfl, h⟩
    | false => rw [c] at k; exact RFs.lookup t k
theorem RFs.lookup_none : ∀ {fs : List (Str × P)} {gs : List (Str × V)} {f : Str}, RFs G I fs gs → fs.lookup f = none → gs.lookup f = none
  | [], _, _, r, _ => by cases r; rfl
  | (g, q) :: fs, _, f, ⟨x, r, e, h, t⟩, k => by
    subst e
    rw [List.lookup_cons] at k ⊢
    cases c : f == g with
    | true => rw [c] at k; cases k
    | false => rw [c] at k; exact RFs.lookup_none t k
theorem RFs.length : ∀ {fs : List (Str × P)} {gs : List (Str × V)}, RFs G I fs gs → fs.length = gs.length
  | [], _, r => by cases r; rfl
  | (_, _) :: _, _, ⟨_, _, e, _, t⟩ => by subst e; exact congrArg Nat.succ (RFs.length t)
end
/-- a field is put, as HandS's putF does it -/
def putD (f : Str) (p : P) : List (Str × P) → List (Str × P)
  | [] => [(f, p)]
  | (g, q) :: r => if g = f then (g, p) :: r else (g, q) :: putD f p r
theorem RFs.put {G : Gm} {I : Hp} {f : Str} {p : P} {x : V} (h : RP G I p x) : ∀ {fs : List (Str × P)} {gs : List (Str × V)}, RFs G I fs gs → RFs G I (putD f p fs) (putF f x gs)
  | [], _, r => by cases r; exact ⟨x, [], rfl, h, rfl⟩
  | (g, q) :: fs, _, ⟨y, r, e, k, t⟩ => by
    subst e
    unfold putD putF
    split
    · rename_i c
      exact ⟨x, r, rfl, h, t⟩
    · exact ⟨y, _, rfl, k, RFs.put h t⟩

/-- the object of the store at a -/
def OkO (G : Gm) (I H : Hp) (a : Addr) : SO → Prop
  | .lst ps => ∃ vs, H a = some (.lst vs) ∧ RPs G I ps vs
  | .dct kvs => H a = some (.dK []) ∧ kvs = []
  | .ins C fs => ∃ dx gs, H a = some (.ins C dx gs) ∧ RFs G I fs gs
  | .set _ => False
theorem OkO.mono {G : Gm} {I J H : Hp} {a : Addr} (h : Le I J) : ∀ {o : SO}, OkO G I H a o → OkO G J H a o
  | .lst _, ⟨vs, e, r⟩ => ⟨vs, e, RPs.mono h _ _ r⟩
  | .dct _, r => r
  | .ins _ _, ⟨dx, gs, e, r⟩ => ⟨dx, gs, e, RFs.mono h _ _ r⟩
theorem OkO.there {G : Gm} {I H : Hp} {a : Addr} : ∀ {o : SO}, OkO G I H a o → ∃ u, H a = some u
  | .lst _, ⟨_, e, _⟩ => ⟨_, e⟩
  | .dct _, r => ⟨_, r.1⟩
  | .ins _ _, ⟨_, _, e, _⟩ => ⟨_, e⟩
theorem OkO.at {G : Gm} {I H H' : Hp} {a : Addr} (q : H' a = H a) : ∀ {o : SO}, OkO G I H a o → OkO G I H' a o
  | .lst _, ⟨vs, e, r⟩ => ⟨vs, q.trans e, r⟩
  | .dct _, r => ⟨q.trans r.1, r.2⟩
  | .ins _ _, ⟨dx, gs, e, r⟩ => ⟨dx, gs, q.trans e, r⟩

/-- the store and the frozen part lie in the heap, the callers' objects beside them -/
structure StR (G : Gm) (S : Store) (I : Hp) (H : Hp) : Prop where
  i0 : Le G.I0 I
  imm : Le I H
  fr : Le G.F H
  fi : ∀ a u, G.F a = some u → I a = none ∧ S a = none
  st : ∀ a o, S a = some o → OkO G I H a o ∧ I a = none
/-- the slots too -/
structure Rel (G : Gm) (ρ : Env) (S : Store) (I : Hp) (σ : L2.St) (H : Hp) : Prop where
  sr : StR G S I H
  len : σ.length = ρ.length
  vs : ∀ (i : Nat) (p : P), ρ[i]? = some (.v p) → ∃ x, σ[i]? = some (some x) ∧ RP G I p x
  ow : ∀ (i : Nat) (o : SO), ρ[i]? = some (.own o) → ∃ a, σ[i]? = some (some (.ref a)) ∧ OkO G I H a o ∧ I a = none ∧ S a = none ∧ G.F a = none
  ap : ∀ (i j : Nat) (o u : SO) (a : Addr), i ≠ j → ρ[i]? = some (.own o) → ρ[j]? = some (.own u) → σ[i]? = some (some (.ref a)) → σ[j]? = some (some (.ref a)) → False
/-- a result -/
def RR (G : Gm) (I : Hp) (σ : L2.St) : R → V → Prop
  | .v p, x => RP G I p x
  | .loc i, x => σ[i]? = some (some x)
theorem RR.mono {G : Gm} {I J : Hp} {σ : L2.St} (h : Le I J) : ∀ {r : R} {x : V}, RR G I σ r x → RR G J σ r x
  | .v p, x, k => RP.mono h p x k
  | .loc _, _, k => k
def RRs (G : Gm) (I : Hp) (σ : L2.St) : List R → List V → Prop
  | [], vs => vs = []
  | r :: rs, vs => ∃ x q, vs = x :: q ∧ RR G I σ r x ∧ RRs G I σ rs q
theorem RRs.mono {G : Gm} {I J : Hp} {σ : L2.St} (h : Le I J) : ∀ {rs : List R} {vs : List V}, RRs G I σ rs vs → RRs G J σ rs vs
  | [], _, k => k
  | _ :: _, _, ⟨x, q, e, k, t⟩ => ⟨x, q, e, RR.mono h k, RRs.mono h t⟩

abbrev DQ := R → Env → Store → Prop
abbrev DT := Env → Store → DQ → Prop
/-- the deep reading as a reading of HandS's -/
def tr (G : Gm) (T : DT) : TE := fun σ H Q => ∃ (ρ : Env) (S : Store) (I : Hp) (Q0 : DQ), Rel G ρ S I σ H ∧ T ρ S Q0 ∧
  ∀ x H' r ρ' S' I', Le I I' → Rel G ρ' S' I' σ H' → RR G I' σ r x → Q0 r ρ' S' → Q x H'
def trT (G : Gm) (T : Env → Store → (Bool → Env → Store → Prop) → Prop) : TT := fun σ H Q => ∃ (ρ : Env) (S : Store) (I : Hp) (Q0 : Bool → Env → Store → Prop), Rel G ρ S I σ H ∧ T ρ S Q0 ∧
  ∀ b H' ρ' S' I', Le I I' → Rel G ρ' S' I' σ H' → Q0 b ρ' S' → Q b H'
abbrev DA := Env → Store → (List R → Env → Store → Prop) → Prop
def trA (G : Gm) (T : DA) : TA := fun σ H Q => ∃ (ρ : Env) (S : Store) (I : Hp) (Q0 : List R → Env → Store → Prop), Rel G ρ S I σ H ∧ T ρ S Q0 ∧
  ∀ xs H' rs ρ' S' I', Le I I' → Rel G ρ' S' I' σ H' → RRs G I' σ rs xs → Q0 rs ρ' S' → Q xs H'
structure DEnds where
  nx : Env → Store → Prop
  rt : P → Store → Prop
  bk : Env → Store → Prop := fun _ _ => False
  ct : Env → Store → Prop := fun _ _ => False
abbrev DS := DEnds → Env → Store → Prop
def trS (G : Gm) (T : DS) : TS := fun D σ H => ∃ (ρ : Env) (S : Store) (I : Hp) (D0 : DEnds), Rel G ρ S I σ H ∧ T D0 ρ S ∧
  (∀ σ' H' ρ' S' I', Le I I' → Rel G ρ' S' I' σ' H' → D0.nx ρ' S' → D.nx σ' H') ∧
  (∀ x H' p S' I', Le I I' → StR G S' I' H' → RP G I' p x → D0.rt p S' → D.rt x H') ∧
  (∀ σ' H' ρ' S' I', Le I I' → Rel G ρ' S' I' σ' H' → D0.bk ρ' S' → D.bk σ' H') ∧
  (∀ σ' H' ρ' S' I', Le I I' → Rel G ρ' S' I' σ' H' → D0.ct ρ' S' → D.ct σ' H')
/-- the context's own fixed part -/
abbrev gm (F I0 : Hp) (X : Cx) : Gm := ⟨X.K, X.w, F, I0⟩
abbrev DE (F I0 : Hp) (X : Cx) (e : Expr) (T : DT) : Prop := PE X e (tr (gm F I0 X) T)
abbrev DTs (F I0 : Hp) (X : Cx) (e : Expr) (T : Env → Store → (Bool → Env → Store → Prop) → Prop) : Prop := PT X e (trT (gm F I0 X) T)
abbrev DAs (F I0 : Hp) (X : Cx) (es : List Expr) (T : DA) : Prop := PA X es (trA (gm F I0 X) T)
abbrev DSt (F I0 : Hp) (X : Cx) (st : Stmt) (T : DS) : Prop := PS X st (trS (gm F I0 X) T)
abbrev DSs (F I0 : Hp) (X : Cx) (st : List Stmt) (T : DS) : Prop := PSs X st (trS (gm F I0 X) T)

theorem _root_.L2.PE.weak {X : Cx} {e : Expr} {t t' : TE} (h : PE X e t) (k : ∀ σ H Q, t' σ H Q → t σ H Q) : PE X e t' := ⟨fun p s σ H Q I q => h.run p s σ H Q I (k _ _ _ q)⟩
theorem _root_.L2.PT.weak {X : Cx} {e : Expr} {t t' : TT} (h : PT X e t) (k : ∀ σ H Q, t' σ H Q → t σ H Q) : PT X e t' := ⟨fun p s σ H Q I q => h.run p s σ H Q I (k _ _ _ q)⟩
theorem _root_.L2.PA.weak {X : Cx} {e : List Expr} {t t' : TA} (h : PA X e t) (k : ∀ σ H Q, t' σ H Q → t σ H Q) : PA X e t' := ⟨fun o p s σ H Q I q => h.run o p s σ H Q I (k _ _ _ q)⟩
theorem _root_.L2.PS.weak {X : Cx} {e : Stmt} {t t' : TS} (h : PS X e t) (k : ∀ D σ H, t' D σ H → t D σ H) : PS X e t' := ⟨fun p s σ H D I q => h.run p s σ H D I (k _ _ _ q)⟩
theorem _root_.L2.PSs.weak {X : Cx} {e : List Stmt} {t t' : TS} (h : PSs X e t) (k : ∀ D σ H, t' D σ H → t D σ H) : PSs X e t' := ⟨fun p s σ H D I q => h.run p s σ H D I (k _ _ _ q)⟩

section
variable {G : Gm} {ρ : Env} {S : Store} {I : Hp} {σ : L2.St} {H : Hp}
/-- a new object is laid: it is frozen -/
theorem StR.frz (r : StR G S I H) {p : Addr} {o : HO} (h : H p = none) : Le I (upd I p o) ∧ StR G S (upd I p o) (upd H p o) := by
  have hi : I p = none := by
    cases e : I p with
    | none => rfl
    | some u => rw [r.imm p u e] at h; cases h
  have hl : Le I (upd I p o) := Le.upd hi
  have hf : G.F p = none := by
    cases e : G.F p with
    | none => rfl
    | some u => rw [r.fr p u e] at h; cases h
  have hs : S p = none := by
    cases e : S p with
    | none => rfl
    | some u => obtain ⟨v, q⟩ := (r.st p u e).1.there; rw [h] at q; cases q
  refine ⟨hl, r.i0.trans hl, fun a u e => ?_, fun a u e => ?_, fun a u e => ?_, fun a u e => ?_⟩
  · by_cases c : a = p
    · subst c; rw [upd_same] at e ⊢; exact e
    · rw [upd_ne c] at e ⊢; exact r.imm a u e
  · rw [upd_ne (ne_of_none e hf)]; exact r.fr a u e
  · obtain ⟨h1, h2⟩ := r.fi a u e
    exact ⟨by rw [upd_ne (ne_of_none e hf)]; exact h1, h2⟩
  · obtain ⟨h1, h2⟩ := r.st a u e
    have c : a ≠ p := by rintro rfl; rw [hs] at e; cases e
    exact ⟨(h1.mono hl).at (upd_ne c), by rw [upd_ne c]; exact h2⟩
theorem Rel.ownNe (r : Rel G ρ S I σ H) {i : Nat} {o : SO} {a p : Addr} (e : ρ[i]? = some (.own o)) (ha : σ[i]? = some (some (.ref a))) (h : H p = none) : a ≠ p := by
  obtain ⟨b, h1, h2, _⟩ := r.ow i o e
  rw [ha] at h1; cases h1
  rintro rfl
  obtain ⟨u, q⟩ := h2.there
  rw [h] at q; cases q
theorem Rel.frz (r : Rel G ρ S I σ H) {p : Addr} {o : HO} (h : H p = none) : Le I (upd I p o) ∧ Rel G ρ S (upd I p o) σ (upd H p o) := by
  obtain ⟨hl, q⟩ := r.sr.frz (o := o) h
  refine ⟨hl, q, r.len, fun i x e => ?_, fun i u e => ?_, r.ap⟩
  · obtain ⟨v, h1, h2⟩ := r.vs i x e
    exact ⟨v, h1, RP.mono hl _ _ h2⟩
  · obtain ⟨a, h1, h2, h3, h4⟩ := r.ow i u e
    have c : a ≠ p := r.ownNe e h1 h
    exact ⟨a, h1, (h2.mono hl).at (upd_ne c), by rw [upd_ne c]; exact h3, h4⟩
/-- a slot gets a value -/
theorem Rel.put (r : Rel G ρ S I σ H) {i : Nat} {p : P} {x : V} (h : RP G I p x) : Rel G (ρ.set i (.v p)) S I (σ.set i (some x)) H := by
  have hlen : σ.length = ρ.length := r.len
  refine ⟨r.sr, by simpa using hlen, fun j q e => ?_, fun j o e => ?_, fun j k o u a hjk e1 e2 h1 h2 => ?_⟩
  · by_cases c : i = j
    · subst c
      by_cases hi : i < ρ.length
      · rw [List.getElem?_set_self hi] at e; cases e
        exact ⟨x, List.getElem?_set_self (by omega), h⟩
      · rw [List.getElem?_eq_none (by simpa using hi)] at e; cases e
    · rw [List.getElem?_set_ne c] at e ⊢; exact r.vs j q e
  · by_cases c : i = j
    · subst c
      by_cases hi : i < ρ.length
      · rw [List.getElem?_set_self hi] at e; cases e
      · rw [List.getElem?_eq_none (by simpa using hi)] at e; cases e
    · rw [List.getElem?_set_ne c] at e ⊢; exact r.ow j o e
  · have nj : ∀ {m : Nat} {w : SO}, (ρ.set i (.v p))[m]? = some (.own w) → i ≠ m := by
      rintro m w e rfl
      by_cases hi : i < ρ.length
      · rw [List.getElem?_set_self hi] at e; cases e
      · rw [List.getElem?_eq_none (by simpa using hi)] at e; cases e
    have c1 := nj e1
    have c2 := nj e2
    rw [List.getElem?_set_ne c1] at e1 h1
    rw [List.getElem?_set_ne c2] at e2 h2
    exact r.ap j k o u a hjk e1 e2 h1 h2
/-- slots are forgotten -/
theorem Rel.weak (r : Rel G ρ S I σ H) {ρ' : Env} (hl : ρ'.length = ρ.length) (w : ∀ (i : Nat) (s : Sl), ρ'[i]? = some s → s ≠ .un → ρ[i]? = some s) : Rel G ρ' S I σ H :=
  ⟨r.sr, r.len.trans hl.symm, fun i p e => r.vs i p (w i _ e (by intro q; cases q)), fun i o e => r.ow i o (w i _ e (by intro q; cases q)),
    fun i j o u a h e1 e2 => r.ap i j o u a h (w i _ e1 (by intro q; cases q)) (w j _ e2 (by intro q; cases q))⟩
/-- a new object is laid: the slot's own -/
theorem Rel.newOwn (r : Rel G ρ S I σ H) {i : Nat} {p : Addr} {o : SO} {u : HO} (h : H p = none) (ho : OkO G I (upd H p u) p o) : Rel G (ρ.set i (.own o)) S I (σ.set i (some (.ref p))) (upd H p u) := by
  have hi : I p = none := by
    cases e : I p with
    | none => rfl
    | some u => rw [r.sr.imm p u e] at h; cases h
  have hf : G.F p = none := by
    cases e : G.F p with
    | none => rfl
    | some u => rw [r.sr.fr p u e] at h; cases h
  have hs : S p = none := by
    cases e : S p with
    | none => rfl
    | some u => obtain ⟨v, q⟩ := (r.sr.st p u e).1.there; rw [h] at q; cases q
  have cut : ∀ {m : Nat} {w : Sl}, (ρ.set i (.own o))[m]? = some w → (m = i ∧ w = .own o) ∨ (i ≠ m ∧ ρ[m]? = some w) := by
    intro m w e
    by_cases c : i = m
    · subst c
      by_cases hi : i < ρ.length
      · rw [List.getElem?_set_self hi] at e; cases e; exact .inl ⟨rfl, rfl⟩
      · rw [List.getElem?_eq_none (by simpa using hi)] at e; cases e
    · rw [List.getElem?_set_ne c] at e; exact .inr ⟨c, e⟩
  refine ⟨⟨r.sr.i0, fun a w e => ?_, fun a w e => ?_, r.sr.fi, fun a w e => ?_⟩, by simpa using r.len, fun j q e => ?_, fun j w e => ?_, fun j k w z a hjk e1 e2 h1 h2 => ?_⟩
  · rw [upd_ne (ne_of_none e hi)]; exact r.sr.imm a w e
  · rw [upd_ne (ne_of_none e hf)]; exact r.sr.fr a w e
  · obtain ⟨h1, h2⟩ := r.sr.st a w e
    have c : a ≠ p := by rintro rfl; rw [hs] at e; cases e
    exact ⟨h1.at (upd_ne c), h2⟩
  · rcases cut e with ⟨_, q⟩ | ⟨c, e⟩
    · cases q
    · rw [List.getElem?_set_ne c]; exact r.vs j q e
  · rcases cut e with ⟨rfl, q⟩ | ⟨c, e⟩
    · cases q
      have hj : j < σ.length := by
        have := (List.getElem?_eq_some_iff.mp e).1
        rw [r.len]; simpa using this
      exact ⟨p, List.getElem?_set_self hj, ho, hi, hs, hf⟩
    · obtain ⟨a, h1, h2, h3⟩ := r.ow j w e
      have ca : a ≠ p := r.ownNe e h1 h
      exact ⟨a, by rw [List.getElem?_set_ne c]; exact h1, h2.at (upd_ne ca), h3⟩
  · rcases cut e1 with ⟨rfl, q⟩ | ⟨c1, f1⟩
    · rcases cut e2 with ⟨rfl, q2⟩ | ⟨c2, e2⟩
      · exact hjk rfl
      · rw [List.getElem?_set_ne c2] at h2
        have hj : j < σ.length := by
          by_cases hj : j < σ.length
          · exact hj
          · rw [List.getElem?_eq_none (by simpa using hj)] at h1; cases h1
        rw [List.getElem?_set_self hj] at h1; cases h1
        exact r.ownNe e2 h2 h rfl
    · rcases cut e2 with ⟨rfl, q2⟩ | ⟨c2, e2⟩
      · rw [List.getElem?_set_ne c1] at h1
        have hj : k < σ.length := by
          by_cases hj : k < σ.length
          · exact hj
          · rw [List.getElem?_eq_none (by simpa using hj)] at h2; cases h2
        rw [List.getElem?_set_self hj] at h2; cases h2
        exact r.ownNe f1 h1 h rfl
      · rw [List.getElem?_set_ne c1] at h1
        rw [List.getElem?_set_ne c2] at h2
        exact r.ap j k w z a hjk f1 e2 h1 h2
/-- the slot's own object is written -/
theorem Rel.setOwn (r : Rel G ρ S I σ H) {i : Nat} {a : Addr} {o o' : SO} {u : HO} (e : ρ[i]? = some (.own o)) (ha : σ[i]? = some (some (.ref a))) (ho : OkO G I (upd H a u) a o') : Rel G (ρ.set i (.own o')) S I σ (upd H a u) := by
  obtain ⟨b, h1, h2, h3, h4, h5⟩ := r.ow i o e
  rw [ha] at h1; cases h1
  have cut : ∀ {m : Nat} {w : Sl}, (ρ.set i (.own o'))[m]? = some w → (m = i ∧ w = .own o') ∨ (i ≠ m ∧ ρ[m]? = some w) := by
    intro m w e
    by_cases c : i = m
    · subst c
      by_cases hi : i < ρ.length
      · rw [List.getElem?_set_self hi] at e; cases e; exact .inl ⟨rfl, rfl⟩
      · rw [List.getElem?_eq_none (by simpa using hi)] at e; cases e
    · rw [List.getElem?_set_ne c] at e; exact .inr ⟨c, e⟩
  refine ⟨⟨r.sr.i0, fun b w e => ?_, fun b w e => ?_, r.sr.fi, fun b w e => ?_⟩, by simpa using r.len, fun j q e => ?_, fun j w e => ?_, fun j k w z b hjk e1 e2 k1 k2 => ?_⟩
  · rw [upd_ne (ne_of_none e h3)]; exact r.sr.imm b w e
  · rw [upd_ne (ne_of_none e h5)]; exact r.sr.fr b w e
  · obtain ⟨k1, k2⟩ := r.sr.st b w e
    have c : b ≠ a := by rintro rfl; rw [h4] at e; cases e
    exact ⟨k1.at (upd_ne c), k2⟩
  · rcases cut e with ⟨_, q⟩ | ⟨c, e⟩
    · cases q
    · exact r.vs j q e
  · rcases cut e with ⟨rfl, q⟩ | ⟨c, e'⟩
    · cases q
      exact ⟨a, ha, ho, h3, h4, h5⟩
    · obtain ⟨b, k1, k2, k3⟩ := r.ow j w e'
      have cb : b ≠ a := by rintro rfl; exact r.ap i j o w b c ‹ρ[i]? = some (.own o)› e' ha k1
      exact ⟨b, k1, k2.at (upd_ne cb), k3⟩
  · rcases cut e1 with ⟨rfl, q⟩ | ⟨c1, f1⟩
    · rcases cut e2 with ⟨rfl, q2⟩ | ⟨c2, e2⟩
      · exact hjk rfl
      · exact r.ap j k o z b hjk ‹ρ[j]? = some (.own o)› e2 k1 k2
    · rcases cut e2 with ⟨rfl, q2⟩ | ⟨c2, e2⟩
      · exact r.ap j k w o b hjk f1 ‹ρ[k]? = some (.own o)› k1 k2
      · exact r.ap j k w z b hjk f1 e2 k1 k2
/-- an object of the store is written -/
theorem Rel.setSt (r : Rel G ρ S I σ H) {a : Addr} {o o' : SO} {u : HO} (e : S a = some o) (ho : OkO G I (upd H a u) a o') : Rel G ρ (ups S a o') I σ (upd H a u) := by
  obtain ⟨h2, h3⟩ := r.sr.st a o e
  have hf : G.F a = none := by
    cases q : G.F a with
    | none => rfl
    | some u => have := (r.sr.fi a u q).2; rw [e] at this; cases this
  refine ⟨⟨r.sr.i0, fun b w e => ?_, fun b w e => ?_, fun b w q => ?_, fun b w q => ?_⟩, r.len, r.vs, fun j w q => ?_, r.ap⟩
  · rw [upd_ne (ne_of_none e h3)]; exact r.sr.imm b w e
  · rw [upd_ne (ne_of_none e hf)]; exact r.sr.fr b w e
  · obtain ⟨k1, k2⟩ := r.sr.fi b w q
    exact ⟨k1, by rw [ups_ne (ne_of_none q hf)]; exact k2⟩
  · by_cases c : b = a
    · subst c; rw [ups_same] at q; cases q; exact ⟨ho, h3⟩
    · rw [ups_ne c] at q
      obtain ⟨k1, k2⟩ := r.sr.st b w q
      exact ⟨k1.at (upd_ne c), k2⟩
  · obtain ⟨b, k1, k2, k3, k4, k5⟩ := r.ow j w q
    have c : b ≠ a := by rintro rfl; rw [e] at k4; cases k4
    exact ⟨b, k1, k2.at (upd_ne c), k3, by rw [ups_ne c]; exact k4, k5⟩
/-- a new object is laid: the store's -/
theorem Rel.newSt (r : Rel G ρ S I σ H) {p : Addr} {o : SO} {u : HO} (h : H p = none) (ho : OkO G I (upd H p u) p o) : S p = none ∧ Rel G ρ (ups S p o) I σ (upd H p u) := by
  have hi : I p = none := by
    cases e : I p with
    | none => rfl
    | some u => rw [r.sr.imm p u e] at h; cases h
  have hf : G.F p = none := by
    cases e : G.F p with
    | none => rfl
    | some u => rw [r.sr.fr p u e] at h; cases h
  have hs : S p = none := by
    cases e : S p with
    | none => rfl
    | some u => obtain ⟨v, q⟩ := (r.sr.st p u e).1.there; rw [h] at q; cases q
  refine ⟨hs, ⟨r.sr.i0, fun b w e => ?_, fun b w e => ?_, fun b w q => ?_, fun b w q => ?_⟩, r.len, r.vs, fun j w q => ?_, r.ap⟩
  · rw [upd_ne (ne_of_none e hi)]; exact r.sr.imm b w e
  · rw [upd_ne (ne_of_none e hf)]; exact r.sr.fr b w e
  · obtain ⟨k1, k2⟩ := r.sr.fi b w q
    exact ⟨k1, by rw [ups_ne (ne_of_none q hf)]; exact k2⟩
  · by_cases c : b = p
    · subst c; rw [ups_same] at q; cases q; exact ⟨ho, hi⟩
    · rw [ups_ne c] at q
      obtain ⟨k1, k2⟩ := r.sr.st b w q
      exact ⟨k1.at (upd_ne c), k2⟩
  · obtain ⟨b, k1, k2, k3, k4, k5⟩ := r.ow j w q
    have c : b ≠ p := r.ownNe q k1 h
    exact ⟨b, k1, k2.at (upd_ne c), k3, by rw [ups_ne c]; exact k4, k5⟩
end
end D
/-! D1: values as data, the operators by deep values. -/
namespace D
open PySem PySem.Spec L2

/-! ### a tree as data -/
mutual
def P.dat : P → PyData
  | .non => .none
  | .bl b => .bool b
  | .int i => .int i
  | .str s => .str s
  | .tup xs => .tuple (P.dats xs)
  | .lst xs => .list (P.dats xs)
  | .dct _ => .dict []
  | .ty _ => .none
  | .scr _ => .none
  | .ref _ => .none
  | .ins _ _ => .none
def P.dats : List P → List PyData
  | [] => []
  | p :: ps => p.dat :: P.dats ps
end
mutual
/-- data: it can be shown -/
def P.isD : P → Bool
  | .non | .bl _ | .int _ | .str _ => true
  | .tup xs | .lst xs => P.isDs xs
  | .dct kvs => kvs.isEmpty
  | .ty _ | .scr _ | .ref _ | .ins _ _ => false
def P.isDs : List P → Bool
  | [] => true
  | p :: ps => p.isD && P.isDs ps
end
mutual
/-- data that is compared: no dict in it -/
def P.isE : P → Bool
  | .non | .bl _ | .int _ | .str _ => true
  | .tup xs | .lst xs => P.isEs xs
  | .dct _ | .scr _ | .ty _ | .ref _ | .ins _ _ => false
def P.isEs : List P → Bool
  | [] => true
  | p :: ps => p.isE && P.isEs ps
end
theorem P.dats_map : ∀ xs : List P, P.dats xs = xs.map P.dat
  | [] => rfl
  | p :: ps => congrArg (p.dat :: ·) (P.dats_map ps)
theorem P.isEs_all : ∀ xs : List P, P.isEs xs = xs.all P.isE
  | [] => rfl
  | p :: ps => by rw [P.isEs, P.isEs_all ps]; rfl
theorem P.isDs_all : ∀ xs : List P, P.isDs xs = xs.all P.isD
  | [] => rfl
  | p :: ps => by rw [P.isDs, P.isDs_all ps]; rfl
/-- the comparison of two trees, as Python's == -/
def eqP (p q : P) : Bool := PyData.eqv p.dat q.dat
/-- how deep a tree is -/
def P.dep (p : P) : Nat := p.dat.depth
def eqOk (p q : P) : Bool := p.isE && q.isE && decide (min p.dep q.dep ≤ 50)

section
variable {X : Cx} {pins : List (Addr × Obj)} {σ : L2.St} {H I : Hp} {s : Shared} {G : Gm}
mutual
theorem RP.reads (J : Inv X pins σ H s) (hk : G.K = X.K) (hl : Le I H) : ∀ (p : P) (x : V) (u : Value), RP G I p x → RelV x u → p.isE = true → ∃ as, Reads s.heap u p.dat as
  | .non, _, _, r, e, _ => by cases r; cases e; exact ⟨_, .none⟩
  | .bl b, _, _, r, e, _ => by cases r; cases e; exact ⟨_, .bool b⟩
  | .int i, _, _, r, e, _ => by cases r; obtain ⟨t, rfl⟩ := e; exact ⟨_, .int i t⟩
  | .str i, _, _, r, e, _ => by cases r.1; obtain ⟨t, rfl⟩ := e; exact ⟨_, .str i t⟩
  | .tup ps, _, _, ⟨a, vs, e, h, t⟩, ru, hd => by
    subst e; cases ru
    obtain ⟨its, rv, ⟨o, ho, hc, n, hdt⟩, _⟩ := J.tuple (hl.sqt (hk ▸ h))
    obtain ⟨as, q1⟩ := RPs.reads J hk hl ps vs its t rv hd
    exact ⟨as, .tuple ho hc hdt (by simpa using q1)⟩
  | .lst ps, _, _, ⟨a, vs, e, h, t⟩, ru, hd => by
    subst e; cases ru
    obtain ⟨its, rv, ⟨o, n, ho, hc, hdd, hdt⟩, _⟩ := J.list (SqL.of (hl _ _ h))
    obtain ⟨as, q1⟩ := RPs.reads J hk hl ps vs its t rv hd
    exact ⟨a :: as, .list ho hc hdt (by simpa using q1)⟩
  | .scr _, _, _, _, _, hd => nomatch hd
  | .dct _, _, _, _, _, hd => nomatch hd
  | .ty _, _, _, _, _, hd => nomatch hd
  | .ref _, _, _, _, _, hd => nomatch hd
  | .ins _ _, _, _, _, _, hd => nomatch hd
theorem RPs.reads (J : Inv X pins σ H s) (hk : G.K = X.K) (hl : Le I H) : ∀ (ps : List P) (xs : List V) (us : List Value), RPs G I ps xs → Vals xs us → P.isEs ps = true → ∃ as, ReadsAll s.heap us (P.dats ps) as
  | [], _, _, r, e, _ => by cases r; cases e; exact ⟨_, .nil⟩
  | p :: ps, _, _, ⟨x, q, e, r, t⟩, ru, hd => by
    subst e
    cases ru with
    | cons ru rt =>
      have hd' : p.isE = true ∧ P.isEs ps = true := by simpa [P.isEs] using hd
      obtain ⟨as, a1⟩ := RP.reads J hk hl p x _ r ru hd'.1
      obtain ⟨bs, b1⟩ := RPs.reads J hk hl ps q _ t rt hd'.2
      exact ⟨as ++ bs, .cons a1 b1⟩
end
mutual
theorem RP.lay : ∀ (p : P) (x : V), RP G I p x → p.isE = true → p.dat.canLay0 = true
  | .non, _, _, _ => rfl
  | .bl b, _, _, _ => rfl
  | .int i, _, _, _ => rfl
  | .str i, _, r, _ => r.2.2
  | .tup ps, _, ⟨a, vs, e, h, t⟩, hd => RPs.lay ps vs t hd
  | .lst ps, _, ⟨a, vs, e, h, t⟩, hd => RPs.lay ps vs t hd
  | .scr _, _, _, hd => nomatch hd
  | .dct _, _, _, hd => nomatch hd
  | .ty _, _, _, hd => nomatch hd
  | .ref _, _, _, hd => nomatch hd
  | .ins _ _, _, _, hd => nomatch hd
theorem RPs.lay : ∀ (ps : List P) (xs : List V), RPs G I ps xs → P.isEs ps = true → PyData.canLayAll0 (P.dats ps) = true
  | [], _, _, _ => rfl
  | p :: ps, _, ⟨x, q, e, r, t⟩, hd => by
    have hd' : p.isE = true ∧ P.isEs ps = true := by simpa [P.isEs] using hd
    show (p.dat.canLay0 && PyData.canLayAll0 (P.dats ps)) = true
    rw [RP.lay p x r hd'.1, RPs.lay ps q t hd'.2] <;> rfl
end
end

/-! ### operations by values -/
abbrev K1 := P → Prop
/-- what is wanted behind an operation: a value, the slots and the store as they were -/
abbrev Pst (G : Gm) (ρ : Env) (S : Store) (I : Hp) (σ : L2.St) (k : K1) (Q : VK) : Prop := ∀ (z : V) (H' : Hp) (p : P) (I' : Hp), Le I I' → Rel G ρ S I' σ H' → RP G I' p z → k p → Q z H'
/-- a link: HandS's reading of two values by the deep one -/
def Lk2 (X : Cx) (r : R2) (d : R → R → Env → Store → K1 → Prop) : Prop :=
  ∀ (F I0 : Hp) (ρ : Env) (S : Store) (I : Hp) (σ : L2.St) (H : Hp) (x y : V) (a b : R) (k : K1) (Q : VK), Rel (gm F I0 X) ρ S I σ H → RR (gm F I0 X) I σ a x → RR (gm F I0 X) I σ b y → d a b ρ S k → Pst (gm F I0 X) ρ S I σ k Q → r x y H Q
/-- an operation of two values keeps what the deep one says -/
def Op2 (X : Cx) (f : Value → Value → Sem Value) (d : R → R → Env → Store → K1 → Prop) : Prop :=
  ∀ (F I0 : Hp) (pins : List (Addr × Obj)) (s : Shared) (ρ : Env) (S : Store) (I : Hp) (σ τ : L2.St) (H : Hp) (x y : V) (v u : Value) (a b : R) (k : K1) (Q : VK), Inv X pins τ H s → Rel (gm F I0 X) ρ S I σ H → RR (gm F I0 X) I σ a x → RR (gm F I0 X) I σ b y → RelV x v → RelV y u → d a b ρ S k →
    Pst (gm F I0 X) ρ S I σ k Q → wpAny (model X.prog X.w) X.A (f v u) (EP X pins τ Q) X.xe s
theorem Op2.of {X : Cx} {f : Value → Value → Sem Value} {r : R2} {d : R → R → Env → Store → K1 → Prop} (h : OpR X f r) (l : Lk2 X r d) : Op2 X f d :=
  fun F I0 pins s ρ S I σ τ H x y v u a b k Q J R ra rb rx ry q post => h pins s τ H x y v u Q J rx ry (l F I0 ρ S I σ H x y a b k Q R ra rb q post)
/-- the deep operation as a reading of HandS's -/
def rD2 (G : Gm) (d : R → R → Env → Store → K1 → Prop) : R2 := fun x y H Q => ∃ (ρ : Env) (S : Store) (I : Hp) (σ : L2.St) (a b : R) (k : K1), Rel G ρ S I σ H ∧ RR G I σ a x ∧ RR G I σ b y ∧ d a b ρ S k ∧ Pst G ρ S I σ k Q
theorem Op2.r {X : Cx} {f : Value → Value → Sem Value} {d : R → R → Env → Store → K1 → Prop} (h : Op2 X f d) (F I0 : Hp) : OpR X f (rD2 (gm F I0 X) d) := by
  intro pins s σ H x y v u Q J rx ry q
  obtain ⟨ρ, S, I, σ', a, b, k, R, ra, rb, q, post⟩ := q
  exact h F I0 pins s ρ S I σ' σ H x y v u a b k Q J R ra rb rx ry q post
def T2 (d : R → R → Env → Store → K1 → Prop) (ta tb : DT) : DT := fun ρ S Q => ta ρ S fun a ρ1 S1 => tb ρ1 S1 fun b ρ2 S2 => d a b ρ2 S2 fun p => Q (.v p) ρ2 S2
def T1 (d : R → Env → Store → K1 → Prop) (ta : DT) : DT := fun ρ S Q => ta ρ S fun a ρ1 S1 => d a ρ1 S1 fun p => Q (.v p) ρ1 S1
theorem weak2 {G : Gm} {d : R → R → Env → Store → K1 → Prop} {Ta Tb : DT} {r : R2} (hr : ∀ x y H Q, rD2 G d x y H Q → r x y H Q) : ∀ σ H Q, tr G (T2 d Ta Tb) σ H Q → tOp r (tr G Ta) (tr G Tb) σ H Q := by
  intro σ H Q ⟨ρ, S, I, Q0, R, h, post⟩
  refine ⟨ρ, S, I, _, R, h, fun x H1 a ρ1 S1 I1 l1 R1 ra q1 => ?_⟩
  refine ⟨ρ1, S1, I1, _, R1, q1, fun y H2 b ρ2 S2 I2 l2 R2 rb q2 => ?_⟩
  exact hr _ _ _ _ ⟨ρ2, S2, I2, σ, a, b, _, R2, ra.mono l2, rb, q2, fun z H' p I' l R' rp kp => post z H' (.v p) ρ2 S2 I' (l1.trans (l2.trans l)) R' rp kp⟩
section
variable {X : Cx} {F I0 : Hp} {a b c : Expr} {Ta Tb Tc : DT} {pos : Pos}
theorem d_op {op : Operator} {d : R → R → Env → Store → K1 → Prop} (ho : Op2 X (binaryOp op) d) (ha : DE F I0 X a Ta) (hb : DE F I0 X b Tb) : DE F I0 X (.BinOp a op b pos) (T2 d Ta Tb) :=
  (pe_op (ho.r F I0) ha hb).weak (weak2 fun _ _ _ _ h => h)
theorem d_cmp {op : CmpOp} {d : R → R → Env → Store → K1 → Prop} (ho : Op2 X (compareOp op) d) (ha : DE F I0 X a Ta) (hb : DE F I0 X b Tb) (hm : behindInMarks op b = false) : DE F I0 X (.Compare a [op] [b] pos) (T2 d Ta Tb) :=
  (pe_cmpR (ho.r F I0) ha hb hm).weak (weak2 fun _ _ _ _ h => h)
end

/-! ### what a result shows -/
/-- a list that is read -/
def asL (ρ : Env) (S : Store) : R → Option (List P)
  | .v (.lst xs) => some xs
  | .v (.scr xs) => some xs
  | .v (.ref a) => match S a with | some (.lst xs) => some xs | _ => none
  | .loc i => match ρ[i]? with | some (.own (.lst xs)) => some xs | _ => none
  | _ => none
/-- a list that is no script -/
def asL0 (ρ : Env) (S : Store) : R → Option (List P)
  | .v (.lst xs) => some xs
  | .v (.ref a) => match S a with | some (.lst xs) => some xs | _ => none
  | .loc i => match ρ[i]? with | some (.own (.lst xs)) => some xs | _ => none
  | _ => none
/-- a list or tuple that is read -/
def asQ (ρ : Env) (S : Store) : R → Option (List P)
  | .v (.tup xs) => some xs
  | r => asL ρ S r
/-- data, a list that may change as it is now -/
def asD (ρ : Env) (S : Store) (r : R) : Option P := match r with
  | .v (.ref a) => (asL0 ρ S (.v (.ref a))).map P.lst
  | .loc i => (asL0 ρ S (.loc i)).map P.lst
  | .v p => some p
section
variable {G : Gm} {ρ : Env} {S : Store} {I : Hp} {σ : L2.St} {H : Hp}
theorem Rel.asL0 (h : Rel G ρ S I σ H) {r : R} {x : V} {xs : List P} (rr : RR G I σ r x) (e : D.asL0 ρ S r = some xs) : ∃ a vs, x = .ref a ∧ H a = some (.lst vs) ∧ RPs G I xs vs := by
  unfold D.asL0 at e
  split at e
  · cases e
    obtain ⟨a, vs, e, q, t⟩ := rr
    exact ⟨a, vs, e, h.sr.imm _ _ q, t⟩
  · rename_i a
    split at e
    · rename_i ys q
      cases e
      obtain ⟨⟨vs, h1, h2⟩, _⟩ := h.sr.st a _ q
      exact ⟨a, vs, rr, h1, h2⟩
    · cases e
  · rename_i i
    split at e
    · rename_i ys q
      cases e
      obtain ⟨a, h1, ⟨vs, h2, h3⟩, _⟩ := h.ow i _ q
      have : some (some x) = some (some (V.ref a)) := (show σ[i]? = some (some x) from rr).symm.trans h1
      cases this
      exact ⟨a, vs, rfl, h2, h3⟩
    · cases e
  · cases e
theorem Rel.asL (h : Rel G ρ S I σ H) {r : R} {x : V} {xs : List P} (rr : RR G I σ r x) (e : D.asL ρ S r = some xs) : ∃ a vs, x = .ref a ∧ SqL G.K H a vs ∧ RPs G I xs vs := by
  by_cases c : ∃ ys, r = .v (.scr ys)
  · obtain ⟨ys, rfl⟩ := c
    cases e
    obtain ⟨a, vs, e, q, t⟩ := rr
    exact ⟨a, vs, e, h.sr.imm.sql q, t⟩
  · have e' : D.asL0 ρ S r = some xs := by
      rw [← e]
      unfold D.asL D.asL0
      cases r with
      | loc i => rfl
      | v p => cases p <;> first | rfl | exact (c ⟨_, rfl⟩).elim
    obtain ⟨a, vs, h1, h2, h3⟩ := h.asL0 rr e'
    exact ⟨a, vs, h1, SqL.of h2, h3⟩
theorem Rel.asQ (h : Rel G ρ S I σ H) {r : R} {x : V} {xs : List P} (rr : RR G I σ r x) (e : D.asQ ρ S r = some xs) : ∃ a vs, x = .ref a ∧ (SqL G.K H a vs ∨ SqT G.K H a vs) ∧ RPs G I xs vs := by
  unfold D.asQ at e
  split at e
  · cases e
    obtain ⟨a, vs, e, q, t⟩ := rr
    exact ⟨a, vs, e, .inr (h.sr.imm.sqt q), t⟩
  · obtain ⟨a, vs, h1, h2, h3⟩ := h.asL rr e
    exact ⟨a, vs, h1, .inl h2, h3⟩
theorem Rel.asD {X : Cx} {F I0 : Hp} {pins : List (Addr × Obj)} {s : Shared} {τ : L2.St} (J : Inv X pins τ H s) (h : Rel (gm F I0 X) ρ S I σ H) {r : R} {x : V} {u : Value} {p : P} (rr : RR (gm F I0 X) I σ r x) (e : D.asD ρ S r = some p) (ru : RelV x u) (hp : p.isE = true) :
    (∃ as, Reads s.heap u p.dat as) ∧ p.dat.canLay0 = true := by
  have lst : ∀ {xs : List P}, p = .lst xs → (∃ a vs, x = .ref a ∧ SqL X.K H a vs ∧ RPs (gm F I0 X) I xs vs) → (∃ as, Reads s.heap u p.dat as) ∧ p.dat.canLay0 = true := by
    rintro xs rfl ⟨a, vs, rfl, hs, t⟩
    cases ru
    obtain ⟨its, rv, ⟨o, n, ho, hc, hdd, hdt⟩, _⟩ := J.list hs
    obtain ⟨as, q1⟩ := RPs.reads J rfl h.sr.imm xs vs its t rv hp
    exact ⟨⟨a :: as, .list ho hc hdt (by simpa using q1)⟩, RPs.lay xs vs t hp⟩
  have lst0 : ∀ {r : R}, RR (gm F I0 X) I σ r x → (D.asL0 ρ S r).map P.lst = some p → (∃ as, Reads s.heap u p.dat as) ∧ p.dat.canLay0 = true := by
    intro r rr e
    obtain ⟨xs, hx, rfl⟩ := Option.map_eq_some_iff.mp e
    obtain ⟨a, vs, h1, h2, h3⟩ := h.asL0 rr hx
    exact lst rfl ⟨a, vs, h1, SqL.of h2, h3⟩
  have pln : ∀ {q : P}, RP (gm F I0 X) I q x → q = p → (∃ as, Reads s.heap u p.dat as) ∧ p.dat.canLay0 = true := by
    rintro q rq rfl
    exact ⟨RP.reads (G := gm F I0 X) J rfl h.sr.imm _ x u rq ru hp, RP.lay _ x rq hp⟩
  cases r with
  | loc i => exact lst0 rr e
  | v q =>
    cases q with
    | ref a => exact lst0 rr e
    | _ => exact pln rr (Option.some.inj e)
end

/-! ### arithmetic -/
def mulOk (i j : Int) : Prop := CMul i j ∨ CMulW i j
def addD : R → R → Env → Store → K1 → Prop
  | .v (.int i), .v (.int j), _, _, k => k (.int (i + j))
  | .v (.str s), .v (.str t), _, _, k => s.length + t.length ≤ sizeLine ∧ k (.str (s ++ t))
  | .v (.tup xs), .v (.tup ys), _, _, k => xs.length + ys.length ≤ sizeLine ∧ k (.tup (xs ++ ys))
  | a, b, ρ, S, k => ∃ xs ys, asL0 ρ S a = some xs ∧ asL0 ρ S b = some ys ∧ xs.length + ys.length ≤ sizeLine ∧ k (.lst (xs ++ ys))
def ii (C : Int → Int → Prop) (f : Int → Int → P) : R → R → Env → Store → K1 → Prop
  | .v (.int i), .v (.int j), _, _, k => C i j ∧ k (f i j)
  | _, _, _, _, _ => False
def mulD : R → R → Env → Store → K1 → Prop
  | .v (.int i), .v (.int j), _, _, k => mulOk i j ∧ k (.int (i * j))
  | .v (.tup xs), .v (.int j), _, _, k => xs ≠ [] ∧ 2 ≤ j ∧ j ≤ 1000 ∧ xs.length ≤ 1000 ∧ k (.tup (List.replicate j.toNat xs).flatten)
  | a, .v (.int j), ρ, S, k => ∃ xs, asL0 ρ S a = some xs ∧ -(2 ^ 63) ≤ j ∧ j < 2 ^ 63 ∧ xs.length * j.toNat ≤ sizeLine ∧ k (.lst (List.replicate j.toNat xs).flatten)
  | _, _, _, _, _ => False
section
variable {X : Cx}
theorem cat_strOk {s t : Str} (h1 : PyData.strOk s = true) (h2 : PyData.strOk t = true) : PyData.strOk (s ++ t) = true := by
  have e : (s ++ t).cps = s.cps ++ t.cps := rfl
  unfold PyData.strOk at *
  rw [e, Array.all_append, h1, h2] <;> rfl
theorem cat_len {s t : Str} : (s ++ t).length = s.length + t.length := by
  show (s.cps ++ t.cps).size = _
  rw [Array.size_append] <;> rfl
theorem o_ii {f : Value → Value → Sem Value} {C : Int → Int → Prop} {g : Int → Int → V} {p : Int → Int → P} (h : OpR X f (rI C g)) (hp : ∀ (G : Gm) (I : Hp) i j, RP G I (p i j) (g i j)) : Op2 X f (ii C p) := by
  refine Op2.of h ?_
  intro F I0 ρ S I σ H x y a b k Q R ra rb q post
  unfold ii at q
  split at q
  · rename_i i j
    cases ra; cases rb
    exact ⟨i, j, rfl, rfl, q.1, post _ _ _ _ Le.refl R (hp _ _ _ _) q.2⟩
  · exact q.elim
theorem o_ii0 {f : Value → Value → Sem Value} {g : Int → Int → V} {p : Int → Int → P} (h : OpR X f (rI0 g)) (hp : ∀ (G : Gm) (I : Hp) i j, RP G I (p i j) (g i j)) : Op2 X f (ii (fun _ _ => True) p) := by
  refine Op2.of h ?_
  intro F I0 ρ S I σ H x y a b k Q R ra rb q post
  unfold ii at q
  split at q
  · rename_i i j
    cases ra; cases rb
    exact ⟨i, j, rfl, rfl, post _ _ _ _ Le.refl R (hp _ _ _ _) q.2⟩
  · exact q.elim
abbrev subD := ii (fun _ _ => True) fun i j => .int (i - j)
abbrev modD := ii (fun _ j => 0 < j) fun i j => .int (i % j)
abbrev fdivD := ii CDivW fun i j => .int (i / j)
abbrev powD := ii CPow fun i j => .int (i ^ j.toNat)
theorem o_sub : Op2 X (binaryOp .Sub) subD := o_ii0 op_sub fun _ _ _ _ => rfl
theorem o_mod : Op2 X (binaryOp .Mod) modD := o_ii op_mod fun _ _ _ _ => rfl
theorem o_fdiv : Op2 X (binaryOp .FloorDiv) fdivD := o_ii op_fdivW fun _ _ _ _ => rfl
theorem o_pow : Op2 X (binaryOp .Pow) powD := o_ii op_pow fun _ _ _ _ => rfl
theorem o_add : Op2 X (binaryOp .Add) addD := by
  refine Op2.of (OpR.or op_add (OpR.or op_add_str (OpR.or op_catA op_cat))) ?_
  intro F I0 ρ S I σ H x y a b k Q R ra rb q post
  unfold addD at q
  split at q
  · rename_i i j
    cases ra; cases rb
    exact .inl ⟨i, j, rfl, rfl, post _ _ _ _ Le.refl R .mkI q⟩
  · rename_i i j
    obtain ⟨rfl, l1, o1⟩ := ra
    obtain ⟨rfl, l2, o2⟩ := rb
    exact .inr (.inl ⟨i, j, rfl, rfl, q.1, post _ _ _ _ Le.refl R (.mkS (by rw [cat_len]; exact q.1) (cat_strOk o1 o2)) q.2⟩)
  · rename_i xs ys
    obtain ⟨a, vs, rfl, h1, t1⟩ := id ra
    obtain ⟨b, ws, rfl, h2, t2⟩ := id rb
    have e1 := t1.length
    have e2 := t2.length
    have g1 := R.sr.imm.sqt h1
    have g2 := R.sr.imm.sqt h2
    refine .inr (.inr (.inl ⟨a, b, vs, ws, rfl, rfl, g1, g2, by omega, fun e => ?_, fun _ e => ?_, fun _ _ p hp => ?_⟩))
    · have z : xs = [] := List.length_eq_zero_iff.mp (by rw [e1, e]; rfl)
      subst z
      exact post _ _ _ _ Le.refl R rb q.2
    · have z : ys = [] := List.length_eq_zero_iff.mp (by rw [e2, e]; rfl)
      subst z
      refine post _ _ _ _ Le.refl R ra ?_
      have := q.2
      rwa [List.append_nil] at this
    · obtain ⟨l, R'⟩ := R.frz (o := .tup (vs ++ ws)) hp
      exact post _ _ _ _ l R' (.mkT upd_same ((RPs.mono l _ _ t1).append (RPs.mono l _ _ t2))) q.2
  · obtain ⟨xs, ys, e1, e2, hz, q⟩ := q
    obtain ⟨a, vs, rfl, h1, t1⟩ := R.asL0 ra e1
    obtain ⟨b, ws, rfl, h2, t2⟩ := R.asL0 rb e2
    have e1 := t1.length
    have e2 := t2.length
    refine .inr (.inr (.inr ⟨a, b, vs, ws, rfl, rfl, h1, h2, by omega, fun p hp => ?_⟩))
    obtain ⟨l, R'⟩ := R.frz (o := .lst (vs ++ ws)) hp
    exact post _ _ _ _ l R' (.mkL upd_same ((RPs.mono l _ _ t1).append (RPs.mono l _ _ t2))) q
theorem o_mul : Op2 X (binaryOp .Mult) mulD := by
  refine Op2.of (OpR.or op_mul (OpR.or op_mulW (OpR.or op_repT op_rep))) ?_
  intro F I0 ρ S I σ H x y a b k Q R ra rb q post
  unfold mulD at q
  split at q
  · rename_i i j
    cases ra; cases rb
    rcases q.1 with c | c
    · exact .inl ⟨i, j, rfl, rfl, c, post _ _ _ _ Le.refl R .mkI q.2⟩
    · exact .inr (.inl ⟨i, j, rfl, rfl, c, post _ _ _ _ Le.refl R .mkI q.2⟩)
  · rename_i xs j
    cases rb
    obtain ⟨a, vs, rfl, h1, t1⟩ := ra
    have e1 := t1.length
    obtain ⟨q1, q2, q3, q4, q5⟩ := q
    refine .inr (.inr (.inl ⟨a, j, vs, rfl, rfl, R.sr.imm.sqt h1, ?_, q2, q3, by omega, fun p hp => ?_⟩))
    · rintro rfl
      exact q1 (List.length_eq_zero_iff.mp (by rw [e1] <;> rfl))
    · obtain ⟨l, R'⟩ := R.frz (o := .tup (List.replicate j.toNat vs).flatten) hp
      exact post _ _ _ _ l R' (.mkT upd_same ((RPs.mono l _ _ t1).rep _)) q5
  · rename_i j _ _
    cases rb
    obtain ⟨xs, e1, q2, q3, q4, q5⟩ := q
    obtain ⟨a, vs, rfl, h1, t1⟩ := R.asL0 ra e1
    have e1 := t1.length
    refine .inr (.inr (.inr ⟨a, j, vs, rfl, rfl, h1, q2, q3, by rw [← e1]; exact q4, fun p hp => ?_⟩))
    obtain ⟨l, R'⟩ := R.frz (o := .lst (List.replicate j.toNat vs).flatten) hp
    exact post _ _ _ _ l R' (.mkL upd_same ((RPs.mono l _ _ t1).rep _)) q5
  · exact q.elim
end
end D
/-! D2: comparisons, truth, tests, names, displays, subscripts, built-in calls by deep values. -/
namespace D
open PySem PySem.Spec L2

/-! ### comparisons -/
def eqD : R → R → Env → Store → K1 → Prop := fun a b ρ S k => match asD ρ S a, asD ρ S b with
  | some p, some q => eqOk p q = true ∧ k (.bl (eqP p q))
  | _, _ => False
def neD : R → R → Env → Store → K1 → Prop := fun a b ρ S k => match asD ρ S a, asD ρ S b with
  | some p, some q => eqOk p q = true ∧ k (.bl (!eqP p q))
  | _, _ => False
def ltS (s t : Str) : Bool := decide (s.cps.toList < t.cps.toList)
/-- an order of ints, of texts -/
def ordD (f : Int → Int → Bool) (g : Str → Str → Bool) : R → R → Env → Store → K1 → Prop
  | .v (.int i), .v (.int j), _, _, k => k (.bl (f i j))
  | .v (.str s), .v (.str t), _, _, k => k (.bl (g s t))
  | _, _, _, _, _ => False
abbrev ltD := ordD (fun i j => decide (i < j)) ltS
abbrev leD := ordD (fun i j => decide (i ≤ j)) fun s t => !ltS t s
abbrev gtD := ordD (fun i j => decide (j < i)) fun s t => ltS t s
abbrev geD := ordD (fun i j => decide (j ≤ i)) fun s t => !ltS s t
def isNon : P → Bool
  | .non => true
  | _ => false
def isD : R → R → Env → Store → K1 → Prop
  | .v p, .v .non, _, _, k => k (.bl (isNon p))
  | .v (.bl a), .v (.bl b), _, _, k => k (.bl (a == b))
  | _, _, _, _, _ => False
def nisD : R → R → Env → Store → K1 → Prop
  | .v p, .v .non, _, _, k => k (.bl (!isNon p))
  | .v (.bl a), .v (.bl b), _, _, k => k (.bl (!(a == b)))
  | _, _, _, _, _ => False
/-- one text in another -/
def subS (s t : Str) : Bool := !(Builtin.Str.occurrences t s 0 t.length 1).isEmpty
def memP (p : P) (xs : List P) : Bool := xs.any fun q => eqP q p
def inD : R → R → Env → Store → K1 → Prop := fun a b ρ S k => match a, b with
  | .v (.str s), .v (.str t) => k (.bl (subS s t))
  | a, b => match asD ρ S a, asQ ρ S b with
    | some p, some xs => p.isE = true ∧ P.isEs xs = true ∧ p.dep ≤ 50 ∧ k (.bl (memP p xs))
    | _, _ => False
def ninD : R → R → Env → Store → K1 → Prop := fun a b ρ S k => match a, b with
  | .v (.str s), .v (.str t) => k (.bl (!subS s t))
  | a, b => match asD ρ S a, asQ ρ S b with
    | some p, some xs => p.isE = true ∧ P.isEs xs = true ∧ p.dep ≤ 50 ∧ k (.bl (!memP p xs))
    | _, _ => False
section
variable {X : Cx}
theorem eqOk_of {p q : P} (h : eqOk p q = true) : p.isE = true ∧ q.isE = true ∧ min p.dep q.dep ≤ 50 := by
  unfold eqOk at h
  rw [Bool.and_eq_true, Bool.and_eq_true] at h
  exact ⟨h.1.1, h.1.2, of_decide_eq_true h.2⟩
theorem o_eq (hu : X.A.units + 64 < cLine) : Op2 X (compareOp .Eq) eqD := by
  intro F I0 pins s ρ S I σ τ H x y v u a b k Q J R ra rb rx ry q post
  unfold eqD at q
  split at q
  · rename_i p r e1 e2
    obtain ⟨c1, c2, c3⟩ := eqOk_of q.1
    obtain ⟨⟨as, r1⟩, l1⟩ := Rel.asD J R ra e1 rx c1
    obtain ⟨⟨bs, r2⟩, l2⟩ := Rel.asD J R rb e2 ry c2
    have c4 : min p.dat.depth r.dat.depth ≤ 50 := c3
    exact SeqAt.compareEq_reads r1 r2 l1 l2 (by omega) ⟨.bl _, H, J, rfl, post _ _ _ _ Le.refl R .mkB q.2⟩
  · exact q.elim
theorem o_ne (hu : X.A.units + 64 < cLine) : Op2 X (compareOp .NotEq) neD := by
  intro F I0 pins s ρ S I σ τ H x y v u a b k Q J R ra rb rx ry q post
  unfold neD at q
  split at q
  · rename_i p r e1 e2
    obtain ⟨c1, c2, c3⟩ := eqOk_of q.1
    obtain ⟨⟨as, r1⟩, l1⟩ := Rel.asD J R ra e1 rx c1
    obtain ⟨⟨bs, r2⟩, l2⟩ := Rel.asD J R rb e2 ry c2
    have c4 : min p.dat.depth r.dat.depth ≤ 50 := c3
    exact SeqAt.compareNe_reads r1 r2 l1 l2 (by omega) ⟨.bl _, H, J, rfl, post _ _ _ _ Le.refl R .mkB q.2⟩
  · exact q.elim
theorem o_ord {op : CmpOp} {f : Int → Int → Bool} {g : Str → Str → Bool} (h1 : OpR X (compareOp op) (rI0 fun i j => .bl (f i j))) (h2 : OpR X (compareOp op) (fun x y H Q => ∃ i j, x = .str i ∧ y = .str j ∧ Q (.bl (g i j)) H)) : Op2 X (compareOp op) (ordD f g) := by
  refine Op2.of (OpR.or h1 h2) ?_
  intro F I0 ρ S I σ H x y a b k Q R ra rb q post
  unfold ordD at q
  split at q
  · rename_i i j
    cases ra; cases rb
    exact .inl ⟨i, j, rfl, rfl, post _ _ _ _ Le.refl R .mkB q⟩
  · rename_i i j
    cases ra.1; cases rb.1
    exact .inr ⟨i, j, rfl, rfl, post _ _ _ _ Le.refl R .mkB q⟩
  · exact q.elim
theorem o_lt : Op2 X (compareOp .Lt) ltD := o_ord op_lt op_lt_str
theorem o_le : Op2 X (compareOp .LtE) leD := o_ord op_le op_le_str
theorem o_gt : Op2 X (compareOp .Gt) gtD := o_ord op_gt op_gt_str
theorem o_ge : Op2 X (compareOp .GtE) geD := o_ord op_ge op_ge_str
theorem isNon_of {G : Gm} {I : Hp} {p : P} {x : V} (rr : RP G I p x) : decide (x = .non) = isNon p := by
  cases p with
  | non => cases rr; rfl
  | bl _ => cases rr; rfl
  | int _ => cases rr; rfl
  | str _ => cases rr.1; rfl
  | ty _ => cases rr; rfl
  | ref _ => cases rr; rfl
  | tup _ => obtain ⟨_, _, rfl, _⟩ := rr; rfl
  | lst _ => obtain ⟨_, _, rfl, _⟩ := rr; rfl
  | scr _ => obtain ⟨_, _, rfl, _⟩ := rr; rfl
  | dct _ => obtain ⟨_, rfl, _⟩ := rr; rfl
  | ins _ _ => obtain ⟨_, _, _, rfl, _⟩ := rr; rfl
theorem o_is : Op2 X (compareOp .Is) isD := by
  refine Op2.of (OpR.or op_isN op_is_bl) ?_
  intro F I0 ρ S I σ H x y a b k Q R ra rb q post
  unfold isD at q
  split at q
  · cases rb
    refine .inl ⟨rfl, ?_⟩
    rw [isNon_of ra]
    exact post _ _ _ _ Le.refl R .mkB q
  · rename_i i j
    cases ra; cases rb
    refine .inr ⟨i, j, rfl, rfl, ?_⟩
    rw [show decide (i = j) = (i == j) by cases i <;> cases j <;> rfl]
    exact post _ _ _ _ Le.refl R .mkB q
  · exact q.elim
theorem o_nis : Op2 X (compareOp .IsNot) nisD := by
  refine Op2.of (OpR.or op_notN op_isnot_bl) ?_
  intro F I0 ρ S I σ H x y a b k Q R ra rb q post
  unfold nisD at q
  split at q
  · cases rb
    refine .inl ⟨rfl, ?_⟩
    rw [isNon_of ra]
    exact post _ _ _ _ Le.refl R .mkB q
  · rename_i i j
    cases ra; cases rb
    refine .inr ⟨i, j, rfl, rfl, ?_⟩
    rw [show decide (i = j) = (i == j) by cases i <;> cases j <;> rfl]
    exact post _ _ _ _ Le.refl R .mkB q
  · exact q.elim
theorem dep_dats : ∀ (xs : List P) (p : P) , (P.dats xs).any (fun y => PyData.eqv y p.dat) = memP p xs
  | [], _ => rfl
  | x :: xs, p => by
    show (PyData.eqv x.dat p.dat || (P.dats xs).any _) = (eqP x p || memP p xs)
    rw [dep_dats xs p]; rfl
/-- a list or tuple that is read, as data -/
theorem Rel.asQD {F I0 : Hp} {pins : List (Addr × Obj)} {s : Shared} {ρ : Env} {S : Store} {I : Hp} {σ τ : L2.St} {H : Hp} (J : Inv X pins τ H s) (h : Rel (gm F I0 X) ρ S I σ H) {r : D.R} {x : V} {u : Value} {xs : List P} (rr : RR (gm F I0 X) I σ r x) (e : D.asQ ρ S r = some xs) (ru : RelV x u) (hp : P.isEs xs = true) :
    (∃ as, Reads s.heap u (.list (P.dats xs)) as ∨ Reads s.heap u (.tuple (P.dats xs)) as) ∧ PyData.canLayAll0 (P.dats xs) = true := by
  obtain ⟨a, vs, rfl, hs, t⟩ := h.asQ rr e
  cases ru
  rcases hs with hs | hs
  · obtain ⟨its, rv, ⟨o, n, ho, hc, hdd, hdt⟩, _⟩ := J.list hs
    obtain ⟨as, q1⟩ := RPs.reads (G := gm F I0 X) J rfl h.sr.imm xs vs its t rv hp
    exact ⟨⟨a :: as, .inl (.list ho hc hdt (by simpa using q1))⟩, RPs.lay xs vs t hp⟩
  · obtain ⟨its, rv, ⟨o, ho, hc, n, hdt⟩, _⟩ := J.tuple hs
    obtain ⟨as, q1⟩ := RPs.reads (G := gm F I0 X) J rfl h.sr.imm xs vs its t rv hp
    exact ⟨⟨as, .inr (.tuple ho hc hdt (by simpa using q1))⟩, RPs.lay xs vs t hp⟩
theorem o_in (hu : X.A.units + 64 < cLine) : Op2 X (compareOp .In) inD := by
  intro F I0 pins s ρ S I σ τ H x y v u a b k Q J R ra rb rx ry q post
  unfold inD at q
  split at q
  · rename_i i j
    cases ra.1; cases rb.1
    exact op_in_str pins s τ H _ _ v u Q J rx ry ⟨i, j, rfl, rfl, post _ _ _ _ Le.refl R .mkB q⟩
  · split at q
    · rename_i p xs e1 e2
      obtain ⟨c1, c2, c3, q⟩ := q
      obtain ⟨⟨as, r1⟩, l1⟩ := Rel.asD J R ra e1 rx c1
      obtain ⟨⟨bs, r2⟩, l2⟩ := Rel.asQD J R rb e2 ry c2
      have c4 : p.dat.depth ≤ 50 := c3
      have c5 : min (PyData.depthAll (P.dats xs)) p.dat.depth ≤ p.dat.depth := Nat.min_le_right _ _
      have fin : EP X pins τ Q (.bool ((P.dats xs).any fun y => PyData.eqv y p.dat)) s := ⟨.bl _, H, J, rfl, by rw [dep_dats]; exact post _ _ _ _ Le.refl R .mkB q⟩
      rcases r2 with r2 | r2
      · exact SeqAt.in_list_reads r2 r1 l2 l1 (by omega) fin
      · exact SeqAt.in_tuple_reads r2 r1 l2 l1 (by omega) fin
    · exact q.elim
theorem o_nin (hu : X.A.units + 64 < cLine) : Op2 X (compareOp .NotIn) ninD := by
  intro F I0 pins s ρ S I σ τ H x y v u a b k Q J R ra rb rx ry q post
  unfold ninD at q
  split at q
  · rename_i i j
    cases ra.1; cases rb.1
    refine op_notIn_str pins s τ H _ _ v u Q J rx ry ⟨i, j, rfl, rfl, post _ _ _ _ Le.refl R .mkB q⟩
  · split at q
    · rename_i p xs e1 e2
      obtain ⟨c1, c2, c3, q⟩ := q
      obtain ⟨⟨as, r1⟩, l1⟩ := Rel.asD J R ra e1 rx c1
      obtain ⟨⟨bs, r2⟩, l2⟩ := Rel.asQD J R rb e2 ry c2
      have c4 : p.dat.depth ≤ 50 := c3
      have c5 : min (PyData.depthAll (P.dats xs)) p.dat.depth ≤ p.dat.depth := Nat.min_le_right _ _
      have fin : EP X pins τ Q (.bool (!(P.dats xs).any fun y => PyData.eqv y p.dat)) s := ⟨.bl _, H, J, rfl, by rw [dep_dats]; exact post _ _ _ _ Le.refl R .mkB q⟩
      rcases r2 with r2 | r2
      · exact SeqAt.notIn_list_reads r2 r1 l2 l1 (by omega) fin
      · exact SeqAt.notIn_tuple_reads r2 r1 l2 l1 (by omega) fin
    · exact q.elim
end

/-! ### truth -/
def truD (ρ : Env) (S : Store) : R → Option Bool
  | .v .non => some false
  | .v (.bl b) => some b
  | .v (.int i) => some (i != 0)
  | .v (.str s) => some ((s.length : Int) != 0)
  | .v (.dct []) => some false
  | r => (asQ ρ S r).map fun xs => !xs.isEmpty
theorem isEmpty_RPs {G : Gm} {I : Hp} {xs : List P} {vs : List V} (t : RPs G I xs vs) : (!vs.isEmpty) = !xs.isEmpty := by
  cases xs with
  | nil => cases t; rfl
  | cons p ps => obtain ⟨x, q, rfl, _⟩ := t; rfl
theorem Rel.tru {X : Cx} {F I0 : Hp} {ρ : Env} {S : Store} {I : Hp} {σ : L2.St} {H : Hp} (R : Rel (gm F I0 X) ρ S I σ H) {r : D.R} {x : V} {b : Bool} (rr : RR (gm F I0 X) I σ r x) (e : truD ρ S r = some b) : TruV X.K x H b := by
  unfold truD at e
  split at e
  · cases e; cases rr; rfl
  · cases e; cases rr; rfl
  · cases e; cases rr; rfl
  · cases e; cases rr.1; exact ⟨rr.2.1, rfl⟩
  · cases e
    obtain ⟨a, rfl, h, _⟩ := rr
    exact .inr (.inr ⟨[], R.sr.imm _ _ h, rfl⟩)
  · obtain ⟨xs, hx, rfl⟩ := Option.map_eq_some_iff.mp e
    obtain ⟨a, vs, rfl, hs, t⟩ := R.asQ rr hx
    rcases hs with hs | hs
    · exact .inl ⟨vs, hs, (isEmpty_RPs t).symm⟩
    · exact .inr (.inl ⟨vs, hs, (isEmpty_RPs t).symm⟩)

/-! ### tests -/
abbrev DB := Env → Store → (Bool → Env → Store → Prop) → Prop
/-- a value's truth -/
def BTru (T : DT) : DB := fun ρ S Q => T ρ S fun r ρ1 S1 => match truD ρ1 S1 r with
  | some b => Q b ρ1 S1
  | none => False
def B2 (d : R → R → Env → Store → K1 → Prop) (ta tb : DT) : DB := fun ρ S Q => T2 d ta tb ρ S fun r ρ1 S1 => match r with
  | .v (.bl b) => Q b ρ1 S1
  | _ => False
def BAnd (t u : DB) : DB := fun ρ S Q => t ρ S fun c ρ1 S1 => if c = true then u ρ1 S1 Q else Q false ρ1 S1
def BOr (t u : DB) : DB := fun ρ S Q => t ρ S fun c ρ1 S1 => if c = true then Q true ρ1 S1 else u ρ1 S1 Q
def BNot (t : DB) : DB := fun ρ S Q => t ρ S fun c ρ1 S1 => Q (!c) ρ1 S1
def TIf (t : DB) (a b : DT) : DT := fun ρ S Q => t ρ S fun c ρ1 S1 => if c = true then a ρ1 S1 Q else b ρ1 S1 Q
/-- a and b, a or b, not a, as values -/
def TAnd (a b : DT) : DT := fun ρ S Q => a ρ S fun r ρ1 S1 => match truD ρ1 S1 r with
  | some true => b ρ1 S1 Q
  | some false => Q r ρ1 S1
  | none => False
def TOr (a b : DT) : DT := fun ρ S Q => a ρ S fun r ρ1 S1 => match truD ρ1 S1 r with
  | some true => Q r ρ1 S1
  | some false => b ρ1 S1 Q
  | none => False
def TNot (a : DT) : DT := fun ρ S Q => a ρ S fun r ρ1 S1 => match truD ρ1 S1 r with
  | some c => Q (.v (.bl (!c))) ρ1 S1
  | none => False
section
variable {X : Cx} {F I0 : Hp} {a b c : Expr} {Ta Tb : DT} {Ba Bb : DB} {pos : Pos} {rest : List Expr}
abbrev DW (F I0 : Hp) (X : Cx) (e : Expr) (T : DB) : Prop := PW X e (trT (gm F I0 X) T)
theorem b_tru (ha : DE F I0 X a Ta) (he : ∀ whole, isTrue a X.env whole = (do let v ← whole; standAt a.pos; holding [v] (truthy v))) : DTs F I0 X a (BTru Ta) := by
  refine (pt_truth ha he).weak fun σ H Q h => ?_
  obtain ⟨ρ, S, I, Q0, R, h, post⟩ := h
  refine ⟨ρ, S, I, _, R, h, fun x H' r ρ' S' I' l R' rr q => ?_⟩
  split at q
  · rename_i k e
    exact ⟨k, R'.tru rr e, post _ _ _ _ _ l R' q⟩
  · exact q.elim
theorem b_of2 {d : R → R → Env → Store → K1 → Prop} {r : R2} (hr : ∀ x y H Q, rD2 (gm F I0 X) d x y H Q → r x y H Q) : ∀ σ H Q, trT (gm F I0 X) (B2 d Ta Tb) σ H Q → tTest (tOp r (tr (gm F I0 X) Ta) (tr (gm F I0 X) Tb)) σ H Q := by
  intro σ H Q ⟨ρ, S, I, Q0, R, h, post⟩
  refine weak2 hr σ H _ ⟨ρ, S, I, _, R, h, fun x H' r ρ' S' I' l R' rr q => ?_⟩
  split at q
  · rename_i k
    exact ⟨k, rr, post _ _ _ _ _ l R' q⟩
  · exact q.elim
theorem b_cmp {op : CmpOp} {d : R → R → Env → Store → K1 → Prop} (ho : Op2 X (compareOp op) d) (ha : DE F I0 X a Ta) (hb : DE F I0 X b Tb) (hm : behindInMarks op b = false) : DTs F I0 X (.Compare a [op] [b] pos) (B2 d Ta Tb) :=
  (pt_cmpR (ho.r F I0) ha hb hm).weak (b_of2 fun _ _ _ _ h => h)
/-- a < b < c -/
def TCh (d e : R → R → Env → Store → K1 → Prop) (ta tb tc : DT) : DT := fun ρ S Q => ta ρ S fun a ρ1 S1 => tb ρ1 S1 fun b ρ2 S2 => d a b ρ2 S2 fun z => match z with
  | .bl true => tc ρ2 S2 fun c ρ3 S3 => e b c ρ3 S3 fun p => Q (.v p) ρ3 S3
  | .bl false => Q (.v (.bl false)) ρ2 S2
  | _ => False
def BCh (d e : R → R → Env → Store → K1 → Prop) (ta tb tc : DT) : DB := fun ρ S Q => TCh d e ta tb tc ρ S fun r ρ1 S1 => match r with
  | .v (.bl b) => Q b ρ1 S1
  | _ => False
theorem weakCh {d e : R → R → Env → Store → K1 → Prop} {Tc : DT} : ∀ σ H Q, tr (gm F I0 X) (TCh d e Ta Tb Tc) σ H Q → tChain (rD2 (gm F I0 X) d) (rD2 (gm F I0 X) e) (tr (gm F I0 X) Ta) (tr (gm F I0 X) Tb) (tr (gm F I0 X) Tc) σ H Q := by
  intro σ H Q ⟨ρ, S, I, Q0, R, h, post⟩
  refine ⟨ρ, S, I, _, R, h, fun x H1 a ρ1 S1 I1 l1 R1 ra q1 => ?_⟩
  refine ⟨ρ1, S1, I1, _, R1, q1, fun y H2 b ρ2 S2 I2 l2 R2 rb q2 => ?_⟩
  refine ⟨ρ2, S2, I2, σ, a, b, _, R2, ra.mono l2, rb, q2, fun z H3 p I3 l3 R3 rp kp => ?_⟩
  split at kp
  · cases rp
    refine ⟨true, rfl, ?_⟩
    rw [if_pos rfl]
    refine ⟨ρ2, S2, I3, _, R3, kp, fun z H4 c ρ4 S4 I4 l4 R4 rc q4 => ?_⟩
    exact ⟨ρ4, S4, I4, σ, b, c, _, R4, rb.mono (l3.trans l4), rc, q4, fun z H' p I' l R' rp kp => post z H' (.v p) ρ4 S4 I' (l1.trans (l2.trans (l3.trans (l4.trans l)))) R' rp kp⟩
  · cases rp
    refine ⟨false, rfl, ?_⟩
    rw [if_neg (by decide)]
    exact post _ _ (.v (.bl false)) _ _ _ (l1.trans (l2.trans l3)) R3 (RP.mkB : RP (gm F I0 X) I3 (.bl false) (.bl false)) kp
  · exact kp.elim
theorem d_ch {op op' : CmpOp} {d e : R → R → Env → Store → K1 → Prop} {Tc : DT} (ho : Op2 X (compareOp op) d) (ho' : Op2 X (compareOp op') e) (ha : DE F I0 X a Ta) (hb : DE F I0 X b Tb) (hc : DE F I0 X c Tc) (hm : lastMarks [op, op'] [b, c] = false := by with_unfolding_all rfl) :
    DE F I0 X (.Compare a [op, op'] [b, c] pos) (TCh d e Ta Tb Tc) := (pe_chain (ho.r F I0) (ho'.r F I0) ha hb hc hm).weak weakCh
theorem b_ch {op op' : CmpOp} {d e : R → R → Env → Store → K1 → Prop} {Tc : DT} (ho : Op2 X (compareOp op) d) (ho' : Op2 X (compareOp op') e) (ha : DE F I0 X a Ta) (hb : DE F I0 X b Tb) (hc : DE F I0 X c Tc) (hm : lastMarks [op, op'] [b, c] = false := by with_unfolding_all rfl) :
    DTs F I0 X (.Compare a [op, op'] [b, c] pos) (BCh d e Ta Tb Tc) := by
  refine (pt_chain (ho.r F I0) (ho'.r F I0) ha hb hc hm).weak fun σ H Q h => ?_
  obtain ⟨ρ, S, I, Q0, R, h, post⟩ := h
  refine weakCh σ H _ ⟨ρ, S, I, _, R, h, fun x H' r ρ' S' I' l R' rr q => ?_⟩
  split at q
  · rename_i k
    exact ⟨k, rr, post _ _ _ _ _ l R' q⟩
  · exact q.elim
theorem w_and1 (ha : DTs F I0 X a Ba) : DW F I0 X (.BoolOp .And [a] pos) Ba := pw_and1 ha
theorem w_or1 (ha : DTs F I0 X a Ba) : DW F I0 X (.BoolOp .Or [a] pos) Ba := pw_or1 ha
theorem w_and (ha : DTs F I0 X a Ba) (hb : DW F I0 X (.BoolOp .And (b :: rest) pos) Bb) : DW F I0 X (.BoolOp .And (a :: b :: rest) pos) (BAnd Ba Bb) := by
  refine ⟨fun whole pins s σ H Q J h => (pw_and ha hb).run whole pins s σ H Q J ?_⟩
  obtain ⟨ρ, S, I, Q0, R, h, post⟩ := h
  refine ⟨ρ, S, I, _, R, h, fun c H' ρ' S' I' l R' q => ?_⟩
  cases c with
  | true => exact ⟨ρ', S', I', Q0, R', q, fun c H2 ρ2 S2 I2 l2 => post c H2 ρ2 S2 I2 (l.trans l2)⟩
  | false => exact post _ _ _ _ _ l R' q
theorem w_or (ha : DTs F I0 X a Ba) (hb : DW F I0 X (.BoolOp .Or (b :: rest) pos) Bb) : DW F I0 X (.BoolOp .Or (a :: b :: rest) pos) (BOr Ba Bb) := by
  refine ⟨fun whole pins s σ H Q J h => (pw_or ha hb).run whole pins s σ H Q J ?_⟩
  obtain ⟨ρ, S, I, Q0, R, h, post⟩ := h
  refine ⟨ρ, S, I, _, R, h, fun c H' ρ' S' I' l R' q => ?_⟩
  cases c with
  | false => exact ⟨ρ', S', I', Q0, R', q, fun c H2 ρ2 S2 I2 l2 => post c H2 ρ2 S2 I2 (l.trans l2)⟩
  | true => exact post _ _ _ _ _ l R' q
theorem b_not (ha : DTs F I0 X a Ba) : DTs F I0 X (.UnaryOp .Not a pos) (BNot Ba) := by
  refine (pt_not ha).weak fun σ H Q h => ?_
  obtain ⟨ρ, S, I, Q0, R, h, post⟩ := h
  exact ⟨ρ, S, I, _, R, h, fun c H' ρ' S' I' l R' q => post _ _ _ _ _ l R' q⟩
theorem d_if (hc : DTs F I0 X c Ba) (ha : DE F I0 X a Ta) (hb : DE F I0 X b Tb) : DE F I0 X (.IfExp c a b pos) (TIf Ba Ta Tb) := by
  refine (pe_ifExp hc ha hb).weak fun σ H Q h => ?_
  obtain ⟨ρ, S, I, Q0, R, h, post⟩ := h
  refine ⟨ρ, S, I, _, R, h, fun c H' ρ' S' I' l R' q => ?_⟩
  cases c with
  | true => exact ⟨ρ', S', I', Q0, R', q, fun c H2 r ρ2 S2 I2 l2 => post c H2 r ρ2 S2 I2 (l.trans l2)⟩
  | false => exact ⟨ρ', S', I', Q0, R', q, fun c H2 r ρ2 S2 I2 l2 => post c H2 r ρ2 S2 I2 (l.trans l2)⟩
theorem d_one {op : BoolOp} (ha : DE F I0 X a Ta) : DE F I0 X (.BoolOp op [a] pos) Ta := pe_one ha
theorem d_and (ha : DE F I0 X a Ta) (hb : DE F I0 X (.BoolOp .And (b :: rest) pos) Tb) : DE F I0 X (.BoolOp .And (a :: b :: rest) pos) (TAnd Ta Tb) := by
  refine (pe_andT ha hb).weak fun σ H Q h => ?_
  obtain ⟨ρ, S, I, Q0, R, h, post⟩ := h
  refine ⟨ρ, S, I, _, R, h, fun x H' r ρ' S' I' l R' rr q => ?_⟩
  split at q
  · rename_i e
    refine ⟨true, R'.tru rr e, ?_⟩
    exact ⟨ρ', S', I', Q0, R', q, fun c H2 r ρ2 S2 I2 l2 => post c H2 r ρ2 S2 I2 (l.trans l2)⟩
  · rename_i e
    exact ⟨false, R'.tru rr e, post _ _ _ _ _ _ l R' rr q⟩
  · exact q.elim
theorem d_or (ha : DE F I0 X a Ta) (hb : DE F I0 X (.BoolOp .Or (b :: rest) pos) Tb) : DE F I0 X (.BoolOp .Or (a :: b :: rest) pos) (TOr Ta Tb) := by
  refine (pe_orT ha hb).weak fun σ H Q h => ?_
  obtain ⟨ρ, S, I, Q0, R, h, post⟩ := h
  refine ⟨ρ, S, I, _, R, h, fun x H' r ρ' S' I' l R' rr q => ?_⟩
  split at q
  · rename_i e
    exact ⟨true, R'.tru rr e, post _ _ _ _ _ _ l R' rr q⟩
  · rename_i e
    refine ⟨false, R'.tru rr e, ?_⟩
    exact ⟨ρ', S', I', Q0, R', q, fun c H2 r ρ2 S2 I2 l2 => post c H2 r ρ2 S2 I2 (l.trans l2)⟩
  · exact q.elim
theorem d_not (ha : DE F I0 X a Ta) : DE F I0 X (.UnaryOp .Not a pos) (TNot Ta) := by
  refine (pe_notT ha).weak fun σ H Q h => ?_
  obtain ⟨ρ, S, I, Q0, R, h, post⟩ := h
  refine ⟨ρ, S, I, _, R, h, fun x H' r ρ' S' I' l R' rr q => ?_⟩
  split at q
  · rename_i k e
    exact ⟨k, R'.tru rr e, post _ _ (.v (.bl (!k))) _ _ _ l R' (RP.mkB : RP (gm F I0 X) I' (.bl (!k)) (.bl (!k))) q⟩
  · exact q.elim
end
end D
/-! D3: names, constants, displays, subscripts, calls of what is built in. -/
namespace D
open PySem PySem.Spec L2

/-! ### deep: names, constants -/
def TC (p : P) : DT := fun ρ S Q => Q (.v p) ρ S
def TV (i : Nat) : DT := fun ρ S Q => match ρ[i]? with
  | some (.v p) => Q (.v p) ρ S
  | some (.own _) => Q (.loc i) ρ S
  | _ => False
/-- the slot's own list is frozen from here on -/
def TF (i : Nat) : DT := fun ρ S Q => match ρ[i]? with
  | some (.own (.lst xs)) => Q (.v (.lst xs)) (ρ.set i (.v (.lst xs))) S
  | _ => False
section
variable {X : Cx} {F I0 : Hp} {a b c : Expr} {Ta Tb Tc : DT} {pos : Pos}
theorem d_var {i : Nat} {x : Str} (hN : X.N[i]? = some x) (hv : Vis X.env.scope x) (hd : (x == ("__debug__" : Str)) = false := by decide) (hcd : (x == ("__classdict__" : Str)) = false := by decide) : DE F I0 X (.Name x pos) (TV i) := by
  refine (pe_var hN hv hd hcd).weak fun σ H Q h => ?_
  obtain ⟨ρ, S, I, Q0, R, h, post⟩ := h
  unfold TV at h
  split at h
  · rename_i p e
    obtain ⟨x, h1, h2⟩ := R.vs i p e
    exact ⟨x, h1, post _ _ (.v p) _ _ _ Le.refl R h2 h⟩
  · rename_i o e
    obtain ⟨a, h1, h2⟩ := R.ow i o e
    exact ⟨.ref a, h1, post _ _ (.loc i) _ _ _ Le.refl R h1 h⟩
  · exact h.elim
theorem Rel.freeze {G : Gm} {ρ : Env} {S : Store} {I : Hp} {σ : L2.St} {H : Hp} (R : Rel G ρ S I σ H) {i : Nat} {xs : List P} (e : ρ[i]? = some (.own (.lst xs))) :
    ∃ a I', σ[i]? = some (some (.ref a)) ∧ Le I I' ∧ Rel G (ρ.set i (.v (.lst xs))) S I' σ H ∧ RP G I' (.lst xs) (.ref a) := by
  obtain ⟨a, h1, ⟨vs, h2, h3⟩, h4, h5, h6⟩ := R.ow i _ e
  have hl : Le I (upd I a (.lst vs)) := Le.upd h4
  have rp : RP G (upd I a (.lst vs)) (.lst xs) (.ref a) := .mkL upd_same (RPs.mono hl _ _ h3)
  refine ⟨a, upd I a (.lst vs), h1, hl, ?_, rp⟩
  have R1 : Rel G (ρ.set i .un) S (upd I a (.lst vs)) σ H := by
    have cut : ∀ {m : Nat} {w : Sl}, w ≠ .un → (ρ.set i .un)[m]? = some w → i ≠ m ∧ ρ[m]? = some w := by
      intro m w hw e
      by_cases c : i = m
      · subst c
        by_cases hi : i < ρ.length
        · rw [List.getElem?_set_self hi] at e; cases e; exact (hw rfl).elim
        · rw [List.getElem?_eq_none (by simpa using hi)] at e; cases e
      · rw [List.getElem?_set_ne c] at e; exact ⟨c, e⟩
    refine ⟨⟨R.sr.i0.trans hl, fun b w q => ?_, R.sr.fr, fun b w q => ?_, fun b w q => ?_⟩, by simpa using R.len, fun j q e' => ?_, fun j w e' => ?_, fun j k w z b hjk e1 e2 h1 h2 => ?_⟩
    · by_cases c : b = a
      · subst c; rw [upd_same] at q; cases q; exact h2
      · rw [upd_ne c] at q; exact R.sr.imm b w q
    · obtain ⟨k1, k2⟩ := R.sr.fi b w q
      have c : b ≠ a := by rintro rfl; rw [h6] at q; cases q
      exact ⟨by rw [upd_ne c]; exact k1, k2⟩
    · obtain ⟨k1, k2⟩ := R.sr.st b w q
      have c : b ≠ a := by rintro rfl; rw [h5] at q; cases q
      exact ⟨k1.mono hl, by rw [upd_ne c]; exact k2⟩
    · obtain ⟨c, e'⟩ := cut (by intro z; cases z) e'
      obtain ⟨x, k1, k2⟩ := R.vs j q e'
      exact ⟨x, k1, RP.mono hl _ _ k2⟩
    · obtain ⟨c, e'⟩ := cut (by intro z; cases z) e'
      obtain ⟨b, k1, k2, k3, k4⟩ := R.ow j w e'
      have cb : b ≠ a := by rintro rfl; exact R.ap i j _ w b c e e' h1 k1
      exact ⟨b, k1, k2.mono hl, by rw [upd_ne cb]; exact k3, k4⟩
    · exact R.ap j k w z b hjk (cut (by intro z; cases z) e1).2 (cut (by intro z; cases z) e2).2 h1 h2
  have R2 := R1.put (i := i) rp
  have hi : i < σ.length := by
    rw [R.len]; exact (List.getElem?_eq_some_iff.mp e).1
  have e1 : (ρ.set i .un).set i (.v (.lst xs)) = ρ.set i (.v (.lst xs)) := List.set_set ..
  have e2 : σ.set i (some (.ref a)) = σ := by
    refine List.ext_getElem? fun m => ?_
    by_cases c : i = m
    · subst c; rw [List.getElem?_set_self hi]; exact h1.symm
    · rw [List.getElem?_set_ne c]
  rw [e1, e2] at R2
  exact R2
theorem d_frz {i : Nat} {x : Str} (hN : X.N[i]? = some x) (hv : Vis X.env.scope x) (hd : (x == ("__debug__" : Str)) = false := by decide) (hcd : (x == ("__classdict__" : Str)) = false := by decide) : DE F I0 X (.Name x pos) (TF i) := by
  refine (pe_var hN hv hd hcd).weak fun σ H Q h => ?_
  obtain ⟨ρ, S, I, Q0, R, h, post⟩ := h
  unfold TF at h
  split at h
  · rename_i xs e
    obtain ⟨a, I', h1, l, R', rp⟩ := R.freeze e
    exact ⟨.ref a, h1, post _ _ (.v (.lst xs)) _ _ _ l R' rp h⟩
  · exact h.elim
/-- a constant reading -/
theorem d_c {e : Expr} {v : V} {p : P} (h : PE X e (tC v)) (hp : ∀ I, Le I0 I → RP (gm F I0 X) I p v) : DE F I0 X e (TC p) := by
  refine h.weak fun σ H Q h => ?_
  obtain ⟨ρ, S, I, Q0, R, h, post⟩ := h
  exact post _ _ (.v p) _ _ _ Le.refl R (hp I R.sr.i0) h
theorem d_int {i j} : DE F I0 X (.Constant (.int i) j pos) (TC (.int i)) := d_c pe_int fun _ _ => rfl
theorem d_bl {b j} : DE F I0 X (.Constant (.bool b) j pos) (TC (.bl b)) := d_c pe_bl fun _ _ => rfl
theorem d_non {j} : DE F I0 X (.Constant .none j pos) (TC .non) := d_c pe_non fun _ _ => rfl
theorem d_str {x j} (h : (decide (x.length ≤ sizeLine) && PyData.strOk x) = true := by decide +kernel) : DE F I0 X (.Constant (.str x) j pos) (TC (.str x)) := d_c pe_str fun _ _ => by
  rw [Bool.and_eq_true] at h
  exact ⟨rfl, of_decide_eq_true h.1, h.2⟩
theorem d_glob {x : Str} {v : V} {u : Value} {p : P} (hg : Gl X x) (hm : X.mg x = some u) (r : RelV v u) (hp : ∀ I, Le I0 I → RP (gm F I0 X) I p v) (hd : (x == ("__debug__" : Str)) = false := by decide) : DE F I0 X (.Name x pos) (TC p) := d_c (pe_glob hg hm r hd) hp
theorem d_ty {x : Str} {n : String} (hg : Gl X x) (hm : X.mg x = none) (hv : bootBuiltins x = some (.type n)) (hn : x ≠ "__name__" := by decide) (hd : (x == ("__debug__" : Str)) = false := by decide) : DE F I0 X (.Name x pos) (TC (.ty n)) := d_c (v := .ty n) (pe_bltn hg hm hv (show RelV (.ty n) (.type n) from rfl) hn hd) fun _ _ => rfl

/-! ### argument lists, displays -/
def ANil : DA := fun ρ S Q => Q [] ρ S
def ACons (t : DT) (u : DA) : DA := fun ρ S Q => t ρ S fun r ρ1 S1 => u ρ1 S1 fun rs ρ2 S2 => Q (r :: rs) ρ2 S2
def AStar (t : DT) (u : DA) : DA := fun ρ S Q => t ρ S fun r ρ1 S1 => match asQ ρ1 S1 r with
  | some ps => u ρ1 S1 fun rs ρ2 S2 => Q (ps.map R.v ++ rs) ρ2 S2
  | none => False
/-- the values of results, none of them an object of a slot's own -/
def vals : List R → Option (List P)
  | [] => some []
  | .v p :: rs => (vals rs).map (p :: ·)
  | .loc _ :: _ => none
theorem vals_of {G : Gm} {I : Hp} {σ : L2.St} : ∀ {rs : List R} {xs : List V} {ps : List P}, RRs G I σ rs xs → vals rs = some ps → RPs G I ps xs
  | [], _, _, r, e => by cases e; exact r
  | .v p :: rs, _, _, ⟨x, q, e, h, t⟩, k => by
    obtain ⟨qs, k1, rfl⟩ := Option.map_eq_some_iff.mp k
    exact ⟨x, q, e, h, vals_of t k1⟩
theorem RRs.of_vals {G : Gm} {I : Hp} {σ : L2.St} : ∀ {ps : List P} {xs : List V}, RPs G I ps xs → RRs G I σ (ps.map R.v) xs
  | [], _, r => r
  | _ :: _, _, ⟨x, q, e, h, t⟩ => ⟨x, q, e, h, RRs.of_vals t⟩
theorem RRs.append {G : Gm} {I : Hp} {σ : L2.St} : ∀ {rs qs : List R} {xs ys : List V}, RRs G I σ rs xs → RRs G I σ qs ys → RRs G I σ (rs ++ qs) (xs ++ ys)
  | [], _, _, _, r, t => by cases r; exact t
  | _ :: _, _, _, _, ⟨x, q, e, h, t⟩, u => by subst e; exact ⟨x, _, rfl, h, RRs.append t u⟩
theorem a_nil : DAs F I0 X [] ANil := pa_nil.weak fun σ H Q h => by
  obtain ⟨ρ, S, I, Q0, R, h, post⟩ := h
  exact post [] _ [] _ _ _ Le.refl R rfl h
theorem a_cons {e : Expr} {es : List Expr} {t : DT} {u : DA} (h1 : DE F I0 X e t) (h2 : DAs F I0 X es u) (hs : starEach (e :: es) X.env = (false, eval e X.env) :: starEach es X.env := by rfl) : DAs F I0 X (e :: es) (ACons t u) := by
  refine (pa_cons h1 h2 hs).weak fun σ H Q h => ?_
  obtain ⟨ρ, S, I, Q0, R, h, post⟩ := h
  refine ⟨ρ, S, I, _, R, h, fun x H1 r ρ1 S1 I1 l1 R1 rr q => ⟨ρ1, S1, I1, _, R1, q, fun xs H2 rs ρ2 S2 I2 l2 R2 rrs q2 => ?_⟩⟩
  exact post _ _ (r :: rs) _ _ _ (l1.trans l2) R2 ⟨x, xs, rfl, rr.mono l2, rrs⟩ q2
theorem a_star {e : Expr} {es : List Expr} {t : DT} {u : DA} {p : Pos} (h1 : DE F I0 X e t) (h2 : DAs F I0 X es u) (hs : starEach (.Starred e p :: es) X.env = (true, eval e X.env) :: starEach es X.env := by rfl) : DAs F I0 X (.Starred e p :: es) (AStar t u) := by
  refine (StX.pa_star h1 h2 hs).weak fun σ H Q h => ?_
  obtain ⟨ρ, S, I, Q0, R, h, post⟩ := h
  refine ⟨ρ, S, I, _, R, h, fun x H1 r ρ1 S1 I1 l1 R1 rr q => ?_⟩
  split at q
  · rename_i ps e
    obtain ⟨a, vs, rfl, hq, t1⟩ := R1.asQ rr e
    refine ⟨a, vs, rfl, hq.symm, ρ1, S1, I1, _, R1, q, fun xs H2 rs ρ2 S2 I2 l2 R2 rrs q2 => ?_⟩
    exact post _ _ _ _ _ _ (l1.trans l2) R2 (RRs.append (RRs.of_vals (RPs.mono l2 _ _ t1)) rrs) q2
  · exact q.elim
def TTup (u : DA) : DT := fun ρ S Q => u ρ S fun rs ρ1 S1 => match vals rs with
  | some ps => ps.length ≤ sizeLine ∧ Q (.v (.tup ps)) ρ1 S1
  | none => False
def TLst (u : DA) : DT := fun ρ S Q => u ρ S fun rs ρ1 S1 => match vals rs with
  | some ps => ps.length ≤ sizeLine ∧ Q (.v (.lst ps)) ρ1 S1
  | none => False
/-- a list of the store -/
def TLstS (u : DA) : DT := fun ρ S Q => u ρ S fun rs ρ1 S1 => match vals rs with
  | some ps => ps.length ≤ sizeLine ∧ ∀ a, S1 a = none → Q (.v (.ref a)) ρ1 (ups S1 a (.lst ps))
  | none => False
theorem d_tup {es : List Expr} {u : DA} {x1} (h : DAs F I0 X es u) : DE F I0 X (.Tuple es x1 pos) (TTup u) := by
  refine (pe_tup h).weak fun σ H Q h => ?_
  obtain ⟨ρ, S, I, Q0, R, h, post⟩ := h
  refine ⟨ρ, S, I, _, R, h, fun xs H1 rs ρ1 S1 I1 l1 R1 rr q => ?_⟩
  split at q
  · rename_i ps e
    have t := vals_of rr e
    refine ⟨by rw [← t.length]; exact q.1, fun p hp => ?_⟩
    obtain ⟨l, R'⟩ := R1.frz (o := .tup xs) hp
    exact post _ _ (.v (.tup ps)) _ _ _ (l1.trans l) R' (RP.mkT upd_same (RPs.mono l _ _ t)) q.2
  · exact q.elim
theorem d_lst {es : List Expr} {u : DA} (h : DAs F I0 X es u) : DE F I0 X (.List es pos) (TLst u) := by
  refine (pe_lst h).weak fun σ H Q h => ?_
  obtain ⟨ρ, S, I, Q0, R, h, post⟩ := h
  refine ⟨ρ, S, I, _, R, h, fun xs H1 rs ρ1 S1 I1 l1 R1 rr q => ?_⟩
  split at q
  · rename_i ps e
    have t := vals_of rr e
    refine ⟨by rw [← t.length]; exact q.1, fun p hp => ?_⟩
    obtain ⟨l, R'⟩ := R1.frz (o := .lst xs) hp
    exact post _ _ (.v (.lst ps)) _ _ _ (l1.trans l) R' (RP.mkL upd_same (RPs.mono l _ _ t)) q.2
  · exact q.elim
theorem d_lstS {es : List Expr} {u : DA} (h : DAs F I0 X es u) : DE F I0 X (.List es pos) (TLstS u) := by
  refine (pe_lst h).weak fun σ H Q h => ?_
  obtain ⟨ρ, S, I, Q0, R, h, post⟩ := h
  refine ⟨ρ, S, I, _, R, h, fun xs H1 rs ρ1 S1 I1 l1 R1 rr q => ?_⟩
  split at q
  · rename_i ps e
    have t := vals_of rr e
    refine ⟨by rw [← t.length]; exact q.1, fun p hp => ?_⟩
    obtain ⟨hs, R'⟩ := R1.newSt (o := .lst ps) (u := .lst xs) hp ⟨xs, upd_same, t⟩
    exact post _ _ (.v (.ref p)) _ _ _ l1 R' rfl (q.2 p hs)
  · exact q.elim
/-- {} -/
theorem d_dct0 : DE F I0 X (.Dict [] [] pos) (TC (.dct [])) := by
  refine (pe_dnewK (pos := pos)).weak fun σ H Q h => ?_
  obtain ⟨ρ, S, I, Q0, R, h, post⟩ := h
  intro p hp
  obtain ⟨l, R'⟩ := R.frz (o := .dK []) hp
  exact post _ _ (.v (.dct [])) _ _ _ l R' ⟨p, rfl, upd_same, rfl⟩ h
end

/-! ### subscripts -/
def ixD : R → R → Env → Store → K1 → Prop := fun a b ρ S k => match b with
  | .v (.int i) => match a with
    | .v (.str s) => match atI s.cps.toList i with
      | some c => k (.str ⟨#[c]⟩)
      | none => False
    | a => match asQ ρ S a with
      | some xs => match atI xs i with
        | some p => k p
        | none => False
      | none => False
  | _ => False
theorem atI_RPs {G : Gm} {I : Hp} {xs : List P} {vs : List V} {i : Int} {p : P} (t : RPs G I xs vs) (e : atI xs i = some p) : ∃ x, atI vs i = some x ∧ RP G I p x := by
  unfold atI at e ⊢
  rw [← t.length]
  cases c : ixN xs.length i with
  | none => rw [c] at e; cases e
  | some j => rw [c] at e; exact t.get e
theorem sign_ok {s : Str} {c : Nat} (h : PyData.strOk s = true) (e : c ∈ s.cps.toList) : PyData.strOk ⟨#[c]⟩ = true := by
  unfold PyData.strOk at h ⊢
  have := Array.all_eq_true_iff_forall_mem.mp h c (by simpa using e)
  simpa using this
theorem atI_mem {α : Type} {xs : List α} {i : Int} {x : α} (e : atI xs i = some x) : x ∈ xs := by
  unfold atI at e
  cases c : ixN xs.length i with
  | none => rw [c] at e; cases e
  | some j => rw [c] at e; exact List.mem_of_getElem? e
theorem l_ix {X : Cx} : Lk2 X (rIx X.K) ixD := by
  intro F I0 ρ S I σ H x y a b k Q R ra rb q post
  unfold ixD at q
  split at q
  · rename_i i
    cases rb
    split at q
    · rename_i s
      split at q
      · rename_i c e
        cases ra.1
        refine .inr (.inr ⟨s, i, c, rfl, rfl, ra.2.1, e, post _ _ _ _ Le.refl R (.mkS (by show 1 ≤ sizeLine; decide) (sign_ok ra.2.2 (atI_mem e))) q⟩)
      · exact q.elim
    · split at q
      · rename_i xs e
        split at q
        · rename_i p e2
          obtain ⟨a, vs, rfl, hq, t⟩ := R.asQ ra e
          obtain ⟨x, h1, h2⟩ := atI_RPs t e2
          rcases hq with hq | hq
          · exact .inl ⟨a, vs, i, x, rfl, rfl, hq, h1, post _ _ _ _ Le.refl R h2 q⟩
          · exact .inr (.inl ⟨a, vs, i, x, rfl, rfl, hq, h1, post _ _ _ _ Le.refl R h2 q⟩)
        · exact q.elim
      · exact q.elim
  · exact q.elim
section
variable {X : Cx} {F I0 : Hp} {a b c : Expr} {Ta Tb Tc : DT} {pos : Pos}
theorem d_ix (ha : DE F I0 X a Ta) (hb : DE F I0 X b Tb) (hs : PlainIx b := by exact fun _ _ => rfl) : DE F I0 X (.Subscript a b pos) (T2 ixD Ta Tb) :=
  (pe_ix ix_seq ha hb hs).weak (weak2 fun x y H Q ⟨ρ, S, I, σ, a, b, k, R, ra, rb, q, post⟩ => l_ix F I0 ρ S I σ H x y a b k Q R ra rb q post)
end

/-! ### slices -/
abbrev DO := Env → Store → (Option Int → Env → Store → Prop) → Prop
def trO (G : Gm) (T : DO) : TO := fun σ H Q => ∃ (ρ : Env) (S : Store) (I : Hp) (Q0 : Option Int → Env → Store → Prop), Rel G ρ S I σ H ∧ T ρ S Q0 ∧
  ∀ i H' ρ' S' I', Le I I' → Rel G ρ' S' I' σ H' → Q0 i ρ' S' → Q i H'
def OPart (t : DT) : DO := fun ρ S Q => t ρ S fun r ρ1 S1 => match r with
  | .v (.int i) => Q (some i) ρ1 S1
  | _ => False
def ONo : DO := fun ρ S Q => Q none ρ S
def cut {α : Type} (xs : List α) (lo hi : Option Int) : List α := (xs.drop (HT.sIx xs.length 0 lo)).take (HT.sIx xs.length xs.length hi - HT.sIx xs.length 0 lo)
theorem cut_whole {α : Type} {xs : List α} {lo hi : Option Int} (h : HT.sIx xs.length 0 lo = 0 ∧ HT.sIx xs.length xs.length hi = xs.length) : cut xs lo hi = xs := by
  unfold cut
  rw [h.1, h.2, List.drop_zero, Nat.sub_zero, List.take_length]
theorem RPs.cut {G : Gm} {I : Hp} {xs : List P} {vs : List V} (t : RPs G I xs vs) (lo hi : Option Int) : RPs G I (D.cut xs lo hi) (cutV vs lo hi) := by
  unfold D.cut cutV
  rw [t.length]
  exact (t.drop _).take _
def slD : R → Option Int → Option Int → Env → Store → K1 → Prop := fun a lo hi ρ S k => match a with
  | .v (.str s) => k (.str (cutS s lo hi))
  | .v (.tup xs) => k (.tup (cut xs lo hi))
  | a => match asL ρ S a with
    | some xs => k (.lst (cut xs lo hi))
    | none => False
def TSl (ta : DT) (lo hi : DO) : DT := fun ρ S Q => ta ρ S fun a ρ1 S1 => lo ρ1 S1 fun l ρ2 S2 => hi ρ2 S2 fun h ρ3 S3 => slD a l h ρ3 S3 fun p => Q (.v p) ρ3 S3
end D
/-! D4: slices, calls of built-in functions and methods, by deep values. -/
namespace D
open PySem PySem.Spec L2

/-! ### signs of texts -/
theorem strOk_iff {s : Str} : PyData.strOk s = true ↔ ∀ c ∈ s.cps.toList, c < 0x110000 := by
  unfold PyData.strOk
  rw [Array.all_eq_true_iff_forall_mem]
  constructor
  · intro h c hc; simpa using h c (by simpa using hc)
  · intro h c hc; simpa using h c (by simpa using hc)
theorem strOk_str (s : String) : PyData.strOk (Str.ofString s) = true := by
  rw [strOk_iff]
  intro c hc
  rw [Str.ofString_eq_toList] at hc
  obtain ⟨d, _, rfl⟩ := List.mem_map.mp (show c ∈ s.toList.map Char.toNat by simpa using hc)
  have h := d.valid; simp only [UInt32.isValidChar, Nat.isValidChar] at h
  show d.val.toNat < _
  omega
theorem strOk_cut {s : Str} (h : PyData.strOk s = true) (lo hi : Option Int) : PyData.strOk (cutS s lo hi) = true := by
  rw [strOk_iff] at h ⊢
  intro c hc
  unfold cutS at hc
  exact h c (List.mem_of_mem_drop (List.mem_of_mem_take (by simpa using hc)))
theorem len_cut {s : Str} (lo hi : Option Int) : (cutS s lo hi).length ≤ s.length := by
  unfold cutS Str.length; simp only [List.size_toArray, List.length_take, List.length_drop, Array.length_toList]
  omega
theorem digit_ok {b n : Nat} (hb : b ≤ 16) {c : Char} (h : c ∈ Nat.toDigits b n) : c.toNat < 0x110000 := by
  have := c.valid
  simp only [UInt32.isValidChar, Nat.isValidChar] at this
  show c.val.toNat < _
  omega
theorem reprChar_ok {q c : Nat} (h : c < 0x110000) (hq : q < 0x110000) : ∀ x ∈ Builtin.Str.reprChar q c, x < 0x110000 := by
  have hx : ∀ (w : Nat), ∀ x ∈ (List.replicate (w - ((Nat.toDigits 16 c).map Char.toNat).length) 48 ++ (Nat.toDigits 16 c).map Char.toNat), x < 0x110000 := by
    intro w x hx
    rcases List.mem_append.mp hx with k | k
    · have := List.eq_of_mem_replicate k; omega
    · obtain ⟨d, hd, rfl⟩ := List.mem_map.mp k
      exact digit_ok (by decide) hd
  intro x hm
  unfold Builtin.Str.reprChar at hm
  simp only at hm
  split at hm
  · rcases List.mem_cons.mp hm with qz | hm
    · omega
    · rcases List.mem_cons.mp hm with qz | hm
      · omega
      · cases hm
  · split at hm
    · simp at hm; omega
    · split at hm
      · simp at hm; omega
      · split at hm
        · simp at hm; omega
        · split at hm
          · simp at hm; omega
          · split at hm
            · rcases List.mem_append.mp hm with k | k
              · simp at k; omega
              · exact hx 2 x k
            · split at hm
              · rcases List.mem_append.mp hm with k | k
                · simp at k; omega
                · exact hx 4 x k
              · rcases List.mem_append.mp hm with k | k
                · simp at k; omega
                · exact hx 8 x k
theorem strOk_repr {s : Str} (h : PyData.strOk s = true) : PyData.strOk (reprText s) = true := by
  have hq : reprQuote s < 0x110000 := by unfold reprQuote; split <;> omega
  rw [strOk_iff] at h ⊢
  unfold reprText
  have key : ∀ (l : List Nat) (acc : Array Nat), (∀ c ∈ l, c < 0x110000) → (∀ c ∈ acc.toList, c < 0x110000) → ∀ c ∈ (l.foldl (fun out c => out ++ (Builtin.Str.reprChar (reprQuote s) c).toArray) acc).toList, c < 0x110000 := by
    intro l
    induction l with
    | nil => intro acc _ ha; exact ha
    | cons d r ih =>
      intro acc hl ha
      refine ih _ (fun c hc => hl c (List.mem_cons_of_mem _ hc)) fun c hc => ?_
      rcases List.mem_append.mp (show c ∈ acc.toList ++ Builtin.Str.reprChar (reprQuote s) d by simpa using hc) with k | k
      · exact ha c k
      · exact reprChar_ok (hl d (List.mem_cons_self ..)) hq c k
  intro c hc
  rw [← Array.foldl_toList, Array.toList_push] at hc
  rcases List.mem_append.mp hc with k | k
  · exact key s.cps.toList #[reprQuote s] h (by intro c hc; simp at hc; omega) c k
  · simp at k; omega
theorem strOk_join {s : Str} (h : PyData.strOk s = true) : ∀ ts : List Str, (∀ t ∈ ts, PyData.strOk t = true) → PyData.strOk (Str.join s ts) = true
  | [], _ => by unfold Str.join; decide +kernel
  | [x], k => k x (List.mem_cons_self ..)
  | x :: y :: r, k => cat_strOk (cat_strOk (k x (List.mem_cons_self ..)) h) (strOk_join h (y :: r) fun t ht => k t (List.mem_cons_of_mem _ ht))
theorem strOk_from : ∀ (ts : List Str) (k : Nat) (acc : Str), (∀ t ∈ ts, PyData.strOk t = true) → PyData.strOk acc = true → PyData.strOk (textFrom k acc ts) = true
  | [], _, _, _, h => h
  | t :: r, k, acc, h, ha => strOk_from r (k + 1) _ (fun u hu => h u (List.mem_cons_of_mem _ hu)) (cat_strOk (cat_strOk ha (by split <;> exact strOk_str _)) (h t (List.mem_cons_self ..)))
mutual
theorem strOk_shown : ∀ d : PyData, d.canLay0 = true → PyData.strOk d.shown = true
  | .none, _ => strOk_str _
  | .bool b, _ => by cases b <;> exact strOk_str _
  | .int i, _ => strOk_str _
  | .str x, h => strOk_repr h
  | .list xs, h => cat_strOk (strOk_from _ 0 _ (strOk_shownAll xs h) (strOk_str _)) (strOk_str _)
  | .tuple xs, h => cat_strOk (cat_strOk (strOk_str _) (strOk_join (strOk_str _) _ (strOk_shownAll xs h))) (by split <;> exact strOk_str _)
  | .dict _, h => nomatch h
theorem strOk_shownAll : ∀ xs : List PyData, PyData.canLayAll0 xs = true → ∀ t ∈ PyData.shownAll xs, PyData.strOk t = true
  | [], _, _, h => nomatch h
  | x :: xs, h, t, ht => by
    have h' : x.canLay0 = true ∧ PyData.canLayAll0 xs = true := by
      simpa [PyData.canLayAll0] using h
    rcases List.mem_cons.mp ht with rfl | ht
    · exact strOk_shown x h'.1
    · exact strOk_shownAll xs h'.2 t ht
end

/-! ### slices -/
section
variable {X : Cx} {F I0 : Hp} {a b c : Expr} {Ta Tb Tc : DT} {pos p2 : Pos}
theorem o_none : PO X none (trO (gm F I0 X) ONo) := by
  refine ⟨fun pins s σ H Q J h => po_none.run pins s σ H Q J ?_⟩
  obtain ⟨ρ, S, I, Q0, R, h, post⟩ := h
  exact post _ _ _ _ _ Le.refl R h
theorem o_some (h : DE F I0 X a Ta) : PO X (some a) (trO (gm F I0 X) (OPart Ta)) := by
  refine ⟨fun pins s σ H Q J q => (po_some h).run pins s σ H Q J ?_⟩
  obtain ⟨ρ, S, I, Q0, R, q, post⟩ := q
  refine ⟨ρ, S, I, _, R, q, fun x H' r ρ' S' I' l R' rr q => ?_⟩
  split at q
  · rename_i i
    exact ⟨i, rr, post _ _ _ _ _ l R' q⟩
  · exact q.elim
theorem d_sl {lo hi : Option Expr} {Tl Th : DO} (ha : DE F I0 X a Ta) (hl : PO X lo (trO (gm F I0 X) Tl)) (hh : PO X hi (trO (gm F I0 X) Th)) : DE F I0 X (.Subscript a (.Slice lo hi none p2) pos) (TSl Ta Tl Th) := by
  refine (pe_slice (SlR.or sl_list (SlR.or sl_tupA sl_str)) ha hl hh).weak fun σ H Q h => ?_
  obtain ⟨ρ, S, I, Q0, R, h, post⟩ := h
  refine ⟨ρ, S, I, _, R, h, fun x H1 r ρ1 S1 I1 l1 R1 rr0 q1 => ⟨ρ1, S1, I1, _, R1, q1, fun i H2 ρ2 S2 I2 l2 R2 q2 => ⟨ρ2, S2, I2, _, R2, q2, fun j H3 ρ3 S3 I3 l3 R3 q => ?_⟩⟩⟩
  have rr := rr0.mono (l2.trans l3)
  clear rr0 q1 q2
  have l4 := l1.trans (l2.trans l3)
  unfold slD at q
  split at q
  · rename_i s
    cases rr.1
    exact .inr (.inr ⟨s, rfl, rr.2.1, post _ _ (.v (.str _)) _ _ _ l4 R3 (RP.mkS (G := gm F I0 X) (I := I3) (Nat.le_trans (len_cut i j) rr.2.1) (strOk_cut rr.2.2 i j)) q⟩)
  · rename_i xs
    obtain ⟨a, vs, rfl, h1, t1⟩ := id rr
    refine .inr (.inl ⟨a, vs, rfl, R3.sr.imm.sqt h1, fun hw => ?_, fun _ p hp => ?_⟩)
    · rw [← t1.length] at hw
      rw [cut_whole hw] at q
      exact post _ _ (.v (.tup xs)) _ _ _ l4 R3 rr q
    · obtain ⟨l, R'⟩ := R3.frz (o := .tup (cutV vs i j)) hp
      exact post _ _ (.v (.tup _)) _ _ _ (l4.trans l) R' (RP.mkT (G := gm F I0 X) upd_same (RPs.mono l _ _ (t1.cut i j))) q
  · split at q
    · rename_i xs e
      obtain ⟨a, vs, rfl, h1, t1⟩ := R3.asL rr e
      refine .inl ⟨a, vs, rfl, h1, fun p hp => ?_⟩
      obtain ⟨l, R'⟩ := R3.frz (o := .lst (cutV vs i j)) hp
      exact post _ _ (.v (.lst _)) _ _ _ (l4.trans l) R' (RP.mkL (G := gm F I0 X) upd_same (RPs.mono l _ _ (t1.cut i j))) q
    · exact q.elim
end

/-! ### calls of what is built in -/
abbrev NOp := List R → Env → Store → K1 → Prop
def OpN (X : Cx) (f : Value) (d : NOp) : Prop :=
  ∀ (F I0 : Hp) (pins : List (Addr × Obj)) (s : Shared) (ρ : Env) (S : Store) (I : Hp) (σ τ : L2.St) (H : Hp) (xs : List V) (us : List Value) (rs : List R) (k : K1) (Q : VK), Inv X pins τ H s → Rel (gm F I0 X) ρ S I σ H → RRs (gm F I0 X) I σ rs xs → Vals xs us → d rs ρ S k →
    Pst (gm F I0 X) ρ S I σ k Q → wpAny (model X.prog X.w) X.A (call f us) (EP X pins τ Q) X.xe s
def LkN (X : Cx) (r : List V → Hp → VK → Prop) (d : NOp) : Prop :=
  ∀ (F I0 : Hp) (ρ : Env) (S : Store) (I : Hp) (σ : L2.St) (H : Hp) (xs : List V) (rs : List R) (k : K1) (Q : VK), Rel (gm F I0 X) ρ S I σ H → RRs (gm F I0 X) I σ rs xs → d rs ρ S k → Pst (gm F I0 X) ρ S I σ k Q → r xs H Q
theorem OpN.of {X : Cx} {f : Value} {r : List V → Hp → VK → Prop} {d : NOp} (h : CallR X f r) (l : LkN X r d) : OpN X f d :=
  fun F I0 pins s ρ S I σ τ H xs us rs k Q J R rr rv q post => h pins s τ H xs us Q J rv (l F I0 ρ S I σ H xs rs k Q R rr q post)
theorem OpN.or {X : Cx} {f : Value} {d e : NOp} (h : OpN X f d) (h' : OpN X f e) : OpN X f (fun rs ρ S k => d rs ρ S k ∨ e rs ρ S k) :=
  fun F I0 pins s ρ S I σ τ H xs us rs k Q J R rr rv q post => q.elim (fun q => h F I0 pins s ρ S I σ τ H xs us rs k Q J R rr rv q post) fun q => h' F I0 pins s ρ S I σ τ H xs us rs k Q J R rr rv q post
theorem OpN.imp {X : Cx} {f : Value} {d e : NOp} (h : OpN X f d) (l : ∀ rs ρ S k, e rs ρ S k → d rs ρ S k) : OpN X f e :=
  fun F I0 pins s ρ S I σ τ H xs us rs k Q J R rr rv q post => h F I0 pins s ρ S I σ τ H xs us rs k Q J R rr rv (l _ _ _ _ q) post
def rDN (G : Gm) (d : NOp) : List V → Hp → VK → Prop := fun xs H Q => ∃ (ρ : Env) (S : Store) (I : Hp) (σ : L2.St) (rs : List R) (k : K1), Rel G ρ S I σ H ∧ RRs G I σ rs xs ∧ d rs ρ S k ∧ Pst G ρ S I σ k Q
theorem OpN.r {X : Cx} {f : Value} {d : NOp} (h : OpN X f d) (F I0 : Hp) : CallR X f (rDN (gm F I0 X) d) := by
  intro pins s σ H xs us Q J rv q
  obtain ⟨ρ, S, I, σ', rs, k, R, rr, q, post⟩ := q
  exact h F I0 pins s ρ S I σ' σ H xs us rs k Q J R rr rv q post
def TCall (d : NOp) (A : DA) : DT := fun ρ S Q => A ρ S fun rs ρ1 S1 => d rs ρ1 S1 fun p => Q (.v p) ρ1 S1
theorem weakN {G : Gm} {d : NOp} {A : DA} : ∀ σ H Q, tr G (TCall d A) σ H Q → tCB (rDN G d) (trA G A) σ H Q := by
  intro σ H Q ⟨ρ, S, I, Q0, R, h, post⟩
  refine ⟨ρ, S, I, _, R, h, fun xs H1 rs ρ1 S1 I1 l1 R1 rr q => ?_⟩
  exact ⟨ρ1, S1, I1, σ, rs, _, R1, rr, q, fun z H' p I' l R' rp kp => post z H' (.v p) ρ1 S1 I' (l1.trans l) R' rp kp⟩
section
variable {X : Cx} {F I0 : Hp} {e : Expr} {es : List Expr} {A : DA} {pos p : Pos} {x : Str} {id T : String} {d : NOp}
theorem d_callB (hc : OpN X (.builtin id) d) (hg : Gl X x) (hm : X.mg x = none) (hv : bootBuiltins x = some (.builtin id)) (ha : DAs F I0 X (e :: es) A) (hn : x ≠ "__name__" := by decide) (hdb : (x == ("__debug__" : Str)) = false := by decide)
    (he : starEach (e :: es) X.env = (false, eval e X.env) :: starEach es X.env := by rfl) (hpl : (backTo pos (starEach es X.env)).any (·.1) = false := by rfl) : DE F I0 X (.Call (.Name x p) (e :: es) [] pos) (TCall d A) :=
  (pe_callB (hc.r F I0) hg hm hv ha hn hdb he hpl).weak weakN
theorem d_callTy (hc : OpN X (.type T) d) (hg : Gl X x) (hm : X.mg x = none) (hv : bootBuiltins x = some (.type T)) (ha : DAs F I0 X (e :: es) A) (hn : x ≠ "__name__" := by decide) (hdb : (x == ("__debug__" : Str)) = false := by decide)
    (he : starEach (e :: es) X.env = (false, eval e X.env) :: starEach es X.env := by rfl) (hpl : (backTo pos (starEach es X.env)).any (·.1) = false := by rfl) : DE F I0 X (.Call (.Name x p) (e :: es) [] pos) (TCall d A) :=
  (pe_callTy (hc.r F I0) hg hm hv ha hn hdb he hpl).weak weakN
end

/-! ### the built-in functions -/
def lenD : NOp := fun rs ρ S k => match rs with
  | [.v (.str s)] => k (.int s.length)
  | [r] => match asQ ρ S r with
    | some xs => k (.int xs.length)
    | none => False
  | _ => False
section
variable {X : Cx}
theorem n_len : OpN X (.builtin "len") lenD := by
  intro F I0 pins s ρ S I σ τ H xs us rs k Q J R rr rv q post
  unfold lenD at q
  split at q
  · obtain ⟨x, r, rfl, h, e⟩ := rr
    cases e
    obtain ⟨rfl, hl, _⟩ := h
    exact call_len_str pins s τ H _ us Q J rv ⟨_, rfl, hl, post _ _ _ _ Le.refl R .mkI q⟩
  · split at q
    · rename_i ys e2
      obtain ⟨x, r, rfl, h, e⟩ := rr
      cases e
      obtain ⟨a, vs, rfl, hq, t⟩ := R.asQ h e2
      refine call_len_seq pins s τ H _ us Q J rv ⟨a, vs, rfl, hq, ?_⟩
      rw [← t.length]
      exact post _ _ _ _ Le.refl R .mkI q
    · exact q.elim
  · exact q.elim
/-- the name of a built-in value's type -/
def tyN (ρ : Env) (S : Store) : R → Option String
  | .v .non => some "NoneType"
  | .v (.bl _) => some "bool"
  | .v (.int _) => some "int"
  | .v (.str _) => some "str"
  | .v (.tup _) => some "tuple"
  | .v (.dct _) => some "dict"
  | r => (asL0 ρ S r).map fun _ => "list"
def isB (a b : String) : Bool := a == b || (a == "bool" && b == "int")
def isKnown (b : String) : Bool := ["int", "bool", "str", "tuple", "list", "dict"].contains b
theorem isB_ok {a b : String} (ha : a ∈ ["NoneType", "bool", "int", "str", "tuple", "dict", "list"]) (hb : isKnown b = true) : kitB a b = some (isB a b) := by
  have hb : b ∈ ["int", "bool", "str", "tuple", "list", "dict"] := by simpa [isKnown] using hb
  have key : ∀ a ∈ ["NoneType", "bool", "int", "str", "tuple", "dict", "list"], ∀ b ∈ ["int", "bool", "str", "tuple", "list", "dict"], kitB a b = some (isB a b) := by decide +kernel
  exact key a ha b hb
theorem Rel.ty {F I0 : Hp} {ρ : Env} {S : Store} {I : Hp} {σ : L2.St} {H : Hp} (R : Rel (gm F I0 X) ρ S I σ H) {r : D.R} {x : V} {n : String} (rr : RR (gm F I0 X) I σ r x) (e : tyN ρ S r = some n) : TyX X.K H x (.type n) ∧ n ∈ ["NoneType", "bool", "int", "str", "tuple", "dict", "list"] := by
  unfold tyN at e
  split at e
  · cases e; cases rr; exact ⟨.base .non, by simp⟩
  · cases e; cases rr; exact ⟨.base (.bl _), by simp⟩
  · cases e; cases rr; exact ⟨.base (.int _), by simp⟩
  · cases e; cases rr.1; exact ⟨.base (.str _), by simp⟩
  · cases e
    obtain ⟨a, vs, rfl, h, _⟩ := rr
    refine ⟨?_, by simp⟩
    rcases R.sr.imm.sqt h with (h | ⟨o, h⟩) | ⟨o, its, n, h1, h2, _⟩
    · exact .base (.tup h)
    · exact .fTuple h
    · exact .kTuple h1 h2
  · cases e
    obtain ⟨a, rfl, h, _⟩ := rr
    exact ⟨.base (.dK (R.sr.imm _ _ h)), by simp⟩
  · obtain ⟨xs, hx, rfl⟩ := Option.map_eq_some_iff.mp e
    obtain ⟨a, vs, rfl, h, _⟩ := R.asL0 rr hx
    exact ⟨.base (.lst h), by simp⟩
def isiD : NOp := fun rs ρ S k => match rs with
  | [r, .v (.ty b)] => isKnown b = true ∧ match tyN ρ S r with
    | some a => k (.bl (isB a b))
    | none => False
  | _ => False
theorem n_isi : OpN X (.builtin "isinstance") isiD := by
  refine OpN.of call_isi ?_
  intro F I0 ρ S I σ H xs rs k Q R rr q post
  unfold isiD at q
  split at q
  · rename_i r b
    obtain ⟨hb, q⟩ := q
    split at q
    · rename_i a e
      obtain ⟨x, _, rfl, h, y, _, rfl, h2, e2⟩ := rr
      cases e2
      cases h2
      obtain ⟨ty, hm⟩ := R.ty h e
      exact ⟨x, .ty b, .type a, .type b, isB a b, rfl, .ty b, ty, kit_ty (isB_ok hm hb), post _ _ _ _ Le.refl R .mkB q⟩
    · exact q.elim
  · exact q.elim
/-- one int -/
def iD (C : Int → Prop) (f : Int → P) : NOp := fun rs ρ S k => match rs with
  | [.v (.int i)] => C i ∧ k (f i)
  | _ => False
def absD : NOp := fun rs ρ S k => match rs with
  | [.v (.int i)] => k (.int (if i < 0 then -i else i))
  | _ => False
theorem n_abs : OpN X (.builtin "abs") absD := by
  refine OpN.of call_abs ?_
  intro F I0 ρ S I σ H xs rs k Q R rr q post
  unfold absD at q
  split at q
  · obtain ⟨x, _, rfl, h, e⟩ := rr
    cases e; cases h
    exact ⟨_, rfl, post _ _ _ _ Le.refl R .mkI q⟩
  · exact q.elim
/-- max(m, n), or of a list of ints -/
def intL : List P → Option (List Int)
  | [] => some []
  | .int i :: r => (intL r).map (i :: ·)
  | _ :: _ => none
theorem ints_of {G : Gm} {I : Hp} : ∀ (ps : List P) {vs : List V} {ns : List Int}, RPs G I ps vs → intL ps = some ns → vs = ns.map V.int := by
  intro ps
  induction ps with
  | nil => intro vs ns r e; cases e; exact r
  | cons p ps ih =>
    intro vs ns ⟨x, q, e, h, t⟩ k
    cases p with
    | int i =>
      obtain ⟨ms, k1, rfl⟩ := Option.map_eq_some_iff.mp k
      cases h
      rw [e, ih t k1] <;> rfl
    | _ => cases k
def maxD : NOp := fun rs ρ S k => match rs with
  | [.v (.int i), .v (.int j)] => k (.int (if j > i then j else i))
  | [r] => match (asL ρ S r).bind intL with
    | some ns => ns ≠ [] ∧ ∀ m, m ∈ ns → (∀ y, y ∈ ns → y ≤ m) → k (.int m)
    | none => False
  | _ => False
def minD : NOp := fun rs ρ S k => match rs with
  | [.v (.int i), .v (.int j)] => k (.int (if j < i then j else i))
  | [r] => match (asL ρ S r).bind intL with
    | some ns => ns ≠ [] ∧ ∀ m, m ∈ ns → (∀ y, y ∈ ns → m ≤ y) → k (.int m)
    | none => False
  | _ => False
theorem n_max (hc : X.calm = true) : OpN X (.builtin "max") maxD := by
  intro F I0 pins s ρ S I σ τ H xs us rs k Q J R rr rv q post
  unfold maxD at q
  split at q
  · obtain ⟨x, _, rfl, h, y, _, rfl, h2, e⟩ := rr
    cases e; cases h; cases h2
    exact call_max2 hc pins s τ H _ us Q J rv ⟨_, _, rfl, post _ _ _ _ Le.refl R .mkI q⟩
  · split at q
    · rename_i ns e
      obtain ⟨ys, e1, e2⟩ := Option.bind_eq_some_iff.mp e
      obtain ⟨x, _, rfl, h, e⟩ := rr
      cases e
      obtain ⟨a, vs, rfl, hs, t⟩ := R.asL h e1
      cases ints_of _ t e2
      exact cr_max hc pins s τ H _ us Q J rv ⟨a, ns, rfl, hs, List.length_pos_iff.mpr q.1, fun m hm hy => post _ _ _ _ Le.refl R .mkI (q.2 m hm hy)⟩
    · exact q.elim
  · exact q.elim
theorem n_min (hc : X.calm = true) : OpN X (.builtin "min") minD := by
  intro F I0 pins s ρ S I σ τ H xs us rs k Q J R rr rv q post
  unfold minD at q
  split at q
  · obtain ⟨x, _, rfl, h, y, _, rfl, h2, e⟩ := rr
    cases e; cases h; cases h2
    exact call_min2 hc pins s τ H _ us Q J rv ⟨_, _, rfl, post _ _ _ _ Le.refl R .mkI q⟩
  · split at q
    · rename_i ns e
      obtain ⟨ys, e1, e2⟩ := Option.bind_eq_some_iff.mp e
      obtain ⟨x, _, rfl, h, e⟩ := rr
      cases e
      obtain ⟨a, vs, rfl, hs, t⟩ := R.asL h e1
      cases ints_of _ t e2
      exact cr_min hc pins s τ H _ us Q J rv ⟨a, ns, rfl, hs, List.length_pos_iff.mpr q.1, fun m hm hy => post _ _ _ _ Le.refl R .mkI (q.2 m hm hy)⟩
    · exact q.elim
  · exact q.elim
def sumD : NOp := fun rs ρ S k => match rs with
  | [r] => match (asL ρ S r).bind intL with
    | some ns => k (.int ns.sum)
    | none => False
  | _ => False
theorem n_sum (hc : X.calm = true) : OpN X (.builtin "sum") sumD := by
  refine OpN.of (cr_sum hc) ?_
  intro F I0 ρ S I σ H xs rs k Q R rr q post
  unfold sumD at q
  split at q
  · split at q
    · rename_i ns e
      obtain ⟨ys, e1, e2⟩ := Option.bind_eq_some_iff.mp e
      obtain ⟨x, _, rfl, h, e⟩ := rr
      cases e
      obtain ⟨a, vs, rfl, hs, t⟩ := R.asL h e1
      cases ints_of _ t e2
      exact ⟨a, ns, rfl, hs, post _ _ _ _ Le.refl R .mkI q⟩
    · exact q.elim
  · exact q.elim
def bls : List P → Option (List Bool)
  | [] => some []
  | .bl b :: r => (bls r).map (b :: ·)
  | _ :: _ => none
theorem bls_of {G : Gm} {I : Hp} : ∀ (ps : List P) {vs : List V} {ns : List Bool}, RPs G I ps vs → bls ps = some ns → vs = ns.map V.bl := by
  intro ps
  induction ps with
  | nil => intro vs ns r e; cases e; exact r
  | cons p ps ih =>
    intro vs ns ⟨x, q, e, h, t⟩ k
    cases p with
    | bl i =>
      obtain ⟨ms, k1, rfl⟩ := Option.map_eq_some_iff.mp k
      cases h
      rw [e, ih t k1] <;> rfl
    | _ => cases k
def allD : NOp := fun rs ρ S k => match rs with
  | [r] => match (asL ρ S r).bind bls with
    | some bs => k (.bl (bs.all id))
    | none => False
  | _ => False
def anyD : NOp := fun rs ρ S k => match rs with
  | [r] => match (asL ρ S r).bind bls with
    | some bs => k (.bl (bs.any id))
    | none => False
  | _ => False
theorem n_all (hc : X.calm = true) : OpN X (.builtin "all") allD := by
  refine OpN.of (cr_all hc) ?_
  intro F I0 ρ S I σ H xs rs k Q R rr q post
  unfold allD at q
  split at q
  · split at q
    · rename_i ns e
      obtain ⟨ys, e1, e2⟩ := Option.bind_eq_some_iff.mp e
      obtain ⟨x, _, rfl, h, e⟩ := rr
      cases e
      obtain ⟨a, vs, rfl, hs, t⟩ := R.asL h e1
      cases bls_of _ t e2
      exact ⟨a, ns, rfl, hs, post _ _ _ _ Le.refl R .mkB q⟩
    · exact q.elim
  · exact q.elim
theorem n_any (hc : X.calm = true) : OpN X (.builtin "any") anyD := by
  refine OpN.of (cr_any hc) ?_
  intro F I0 ρ S I σ H xs rs k Q R rr q post
  unfold anyD at q
  split at q
  · split at q
    · rename_i ns e
      obtain ⟨ys, e1, e2⟩ := Option.bind_eq_some_iff.mp e
      obtain ⟨x, _, rfl, h, e⟩ := rr
      cases e
      obtain ⟨a, vs, rfl, hs, t⟩ := R.asL h e1
      cases bls_of _ t e2
      exact ⟨a, ns, rfl, hs, post _ _ _ _ Le.refl R .mkB q⟩
    · exact q.elim
  · exact q.elim
def divmodD : NOp := fun rs ρ S k => match rs with
  | [.v (.int i), .v (.int j)] => CDivW i j ∧ k (.tup [.int (i / j), .int (i % j)])
  | _ => False
theorem n_divmod : OpN X (.builtin "divmod") divmodD := by
  refine OpN.of call_divmodW ?_
  intro F I0 ρ S I σ H xs rs k Q R rr q post
  unfold divmodD at q
  split at q
  · rename_i i j
    obtain ⟨x, _, rfl, h, y, _, rfl, h2, e⟩ := rr
    cases e; cases h; cases h2
    refine ⟨i, j, rfl, ⟨q.1.1, PyProof.noPylong_of_log2 q.1.2⟩, fun p hp => ?_⟩
    obtain ⟨l, R'⟩ := R.frz (o := .tup [.int (i / j), .int (i % j)]) hp
    exact post _ _ _ _ l R' (.mkT (ps := [.int (i / j), .int (i % j)]) upd_same ⟨_, _, rfl, rfl, _, _, rfl, rfl, rfl⟩) q.2
  · exact q.elim
def tupD : NOp := fun rs ρ S k => match rs with
  | [r] => match asQ ρ S r with
    | some xs => k (.tup xs)
    | none => False
  | _ => False
theorem n_tup : OpN X (.type "tuple") tupD := by
  refine OpN.of call_tuple_of ?_
  intro F I0 ρ S I σ H xs rs k Q R rr q post
  unfold tupD at q
  split at q
  · rename_i r
    split at q
    · rename_i ys e
      obtain ⟨x, _, rfl, h, e2⟩ := rr
      cases e2
      by_cases c : ∃ zs, r = .v (.tup zs)
      · obtain ⟨zs, rfl⟩ := c
        cases e
        obtain ⟨a, vs, rfl, hs, t⟩ := id h
        exact ⟨a, vs, rfl, .inr ⟨R.sr.imm.sqt hs, post _ _ _ _ Le.refl R h q⟩⟩
      · have e' : asL ρ S r = some ys := by
          rw [← e]
          unfold asQ
          split
          · rename_i zs; exact (c ⟨_, rfl⟩).elim
          · rfl
        obtain ⟨a, vs, rfl, hs, t⟩ := R.asL h e'
        refine ⟨a, vs, rfl, .inl ⟨hs, fun p hp => ?_⟩⟩
        obtain ⟨l, R'⟩ := R.frz (o := .tup vs) hp
        exact post _ _ _ _ l R' (.mkT upd_same (RPs.mono l _ _ t)) q
    · exact q.elim
  · exact q.elim
def lstD : NOp := fun rs ρ S k => match rs with
  | [r] => match asQ ρ S r with
    | some xs => k (.lst xs)
    | none => False
  | _ => False
theorem n_lst : OpN X (.type "list") lstD := by
  refine OpN.of call_list_of ?_
  intro F I0 ρ S I σ H xs rs k Q R rr q post
  unfold lstD at q
  split at q
  · split at q
    · rename_i ys e
      obtain ⟨x, _, rfl, h, e2⟩ := rr
      cases e2
      obtain ⟨a, vs, rfl, hs, t⟩ := R.asQ h e
      refine ⟨a, vs, rfl, hs, fun p hp => ?_⟩
      obtain ⟨l, R'⟩ := R.frz (o := .lst vs) hp
      exact post _ _ _ _ l R' (.mkL upd_same (RPs.mono l _ _ t)) q
    · exact q.elim
  · exact q.elim
def intD : NOp := fun rs ρ S k => match rs with
  | [.v (.int i)] => k (.int i)
  | [.v (.bl b)] => k (.int (if b then 1 else 0))
  | [.v (.str s)] => match PySem.intText? s with
    | some n => s.length ≤ 640 ∧ k (.int n)
    | none => False
  | _ => False
theorem n_int : OpN X (.type "int") intD := by
  intro F I0 pins s ρ S I σ τ H xs us rs k Q J R rr rv q post
  unfold intD at q
  split at q
  · obtain ⟨x, _, rfl, h, e⟩ := rr
    cases e; cases h
    exact call_int1 pins s τ H _ us Q J rv (.inl ⟨_, rfl, post _ _ _ _ Le.refl R .mkI q⟩)
  · obtain ⟨x, _, rfl, h, e⟩ := rr
    cases e; cases h
    exact call_int1 pins s τ H _ us Q J rv (.inr ⟨_, rfl, post _ _ _ _ Le.refl R .mkI q⟩)
  · split at q
    · rename_i n e2
      obtain ⟨x, _, rfl, h, e⟩ := rr
      cases e; cases h.1
      exact call_int_str pins s τ H _ us Q J rv ⟨_, n, rfl, e2, q.1, post _ _ _ _ Le.refl R .mkI q.2⟩
    · exact q.elim
  · exact q.elim
/-- the text of an int -/
def numS (i : Int) : Str := Str.ofString (toString i)
def strD : NOp := fun rs ρ S k => match rs with
  | [.v (.int i)] => i.natAbs.log2 < 1920 ∧ k (.str (numS i))
  | [.v (.str s)] => k (.str s)
  | _ => False
theorem n_str : OpN X (.type "str") strD := by
  intro F I0 pins s ρ S I σ τ H xs us rs k Q J R rr rv q post
  unfold strD at q
  split at q
  · obtain ⟨x, _, rfl, h, e⟩ := rr
    cases e; cases h
    exact call_str_int pins s τ H _ us Q J rv ⟨_, rfl, q.1, post _ _ _ _ Le.refl R (.mkS (int_text_fits q.1) (strOk_str _)) q.2⟩
  · obtain ⟨x, _, rfl, h, e⟩ := rr
    cases e; cases h.1
    exact SkE.call_str_str pins s τ H _ us Q J rv ⟨_, rfl, post _ _ _ _ Le.refl R h q⟩
  · exact q.elim
/-- repr of data -/
def reprD : NOp := fun rs ρ S k => match rs with
  | [r] => match asD ρ S r with
    | some p => p.isE = true ∧ p.dep ≤ 50 ∧ p.dat.showable = true ∧ p.dat.shown.length ≤ sizeLine ∧ k (.str p.dat.shown)
    | none => False
  | _ => False
theorem repr_at {A : Around} {E : Value → Shared → Prop} {prog : Program} {w : World} {s : Shared} {u : Value} {d : PyData} {as : List Addr} {Q : Value → Shared → Prop} (r : Reads s.heap u d as) (l : d.canLay0 = true) (hs : d.showable = true) (dp : d.depth ≤ 50) (hu : A.units + 64 < cLine) (hg : A.guards = some []) (hz : d.shown.length ≤ sizeLine)
    (fin : ∀ (h' : Heap) (t tk : Nat), (∀ b o, s.heap.get? b = some o → h'.get? b = some o) → Q (.str d.shown t) { s with heap := h', toks := tk }) : wpAny (model prog w) A (call (.builtin "repr") [u]) Q E s := by
  have hsm : d.hasDict = true → sysModules ∉ as := PyData.noDict_hsm (PyData.hasDict_of_canLay _ l)
  cases r with
  | none => exact PySem.P.repr_of_none (fin s.heap _ _ fun _ _ q => q)
  | bool b => exact PySem.P.repr_of_bool (fin s.heap _ _ fun _ _ q => q)
  | int i t => exact PySem.P.repr_of_int (by simpa [PyData.showable] using hs) (fin s.heap _ _ fun _ _ q => q)
  | str z t => exact PySem.P.repr_of_str (fin s.heap _ _ fun _ _ q => q) hz
  | list h1 h2 h3 h4 => exact repr_of_reads' (.list h1 h2 h3 h4) hs hsm hg (by omega) (fun _ _ q => q) (fun h' u tk hk => fin h' u tk hk) hz
  | tuple h1 h2 h3 h4 => exact repr_of_reads' (.tuple h1 h2 h3 h4) hs hsm hg (by omega) (fun _ _ q => q) (fun h' u tk hk => fin h' u tk hk) hz
  | dict h1 h2 h3 h4 h5 => exact absurd (PyData.hasDict_of_canLay _ l) (by simp [PyData.hasDict])
theorem n_repr (hu : X.A.units + 64 < cLine) (hg : X.A.guards = some []) : OpN X (.builtin "repr") reprD := by
  intro F I0 pins s ρ S I σ τ H xs us rs k Q J R rr rv q post
  unfold reprD at q
  split at q
  · split at q
    · rename_i r p e
      obtain ⟨c1, c2, c3, c4, q⟩ := q
      obtain ⟨x, _, rfl, h, e2⟩ := rr
      cases e2
      obtain ⟨u, rfl, ru⟩ := vals1 rv
      obtain ⟨⟨as, r1⟩, l1⟩ := Rel.asD J R h e ru c1
      exact repr_at r1 l1 c3 c2 hu hg c4 fun h' t tk hk => ⟨.str p.dat.shown, H, J.kept hk, ⟨t, rfl⟩, post _ _ _ _ Le.refl R (.mkS c4 (strOk_shown _ l1)) q⟩
    · exact q.elim
  · exact q.elim
end
end D
/-! D5: iteration: sources (list, tuple, text), enumerate, zip, range, reversed; by deep values. -/
namespace D
open PySem PySem.Spec L2

/-! ### sources -/
/-- what is drawn at turn i -/
abbrev Dr (vs : List V) : Nat → Value → Prop := fun i v => ∃ x, vs[i]? = some x ∧ RelV x v
structure Src (P : Program) (w : World) (K : PySem.W.Frag) (u : Value) (ob : Obj) (adr : List Addr) (vs : List V) (S : Hp → Prop) (own : Addr → Nat → Heap → Prop) : Prop where
  begins : ∀ (X : Cx) (pins : List (Addr × Obj)) (σ : L2.St) (H : Hp) (s : Shared), X.K = K → Inv X pins σ H s → S H → (∃ Hh, Begins u ob Hh ∧ Hh s.heap) ∧ ∀ b ∈ adr, b < s.heap.objs.size
  obj : ∀ it i h, own it i h → ∃ o, h.get? it = some o ∧ ∀ v, o.data ≠ .cell v
  keep : ∀ it i h h', own it i h → (∀ o, h.get? it = some o → h'.get? it = some o) → own it i h'
  start : ∀ it h, h.get? it = some ob → own it 0 h
  self : ∀ (A : Around) (it : Addr) (i : Nat) (s : Shared) (Q : Value → Shared → Prop) (E : Value → Shared → Prop), own it i s.heap → Q (.ref it) s → wpAny (model P w) A (pyIter (.ref it)) Q E s
  draws : ∀ (X : Cx) (pins : List (Addr × Obj)) (σ : L2.St) (H : Hp) (s : Shared) (it : Addr), X.prog = P → X.w = w → X.K = K → X.calm = true → Inv X pins σ H s → S H → it ∉ adr →
    ∃ (src : Heap → Prop), src s.heap ∧ Draws P w X.A.in1 it (it :: adr) vs.length (Dr vs) (fun i h => own it i h ∧ src h) ∧
      ∀ tg, Goes P w X.A tg it (it :: adr) [it] vs.length (fun i v _ => Dr vs i v) (fun i h => own it i h ∧ src h)
theorem draws_mono {prog : Program} {w : World} {A : Around} {it : Addr} {fp : List Addr} {n : Nat} {P P' : Nat → Value → Prop} {St : Nat → Heap → Prop} (d : Draws prog w A it fp n P St) (h : ∀ i v, P i v → P' i v) : Draws prog w A it fp n P' St :=
  ⟨d.live, d.frame, fun i s Q E hi st k => d.item i s Q E hi st fun x h' tk p st' sb => k x h' tk (h _ _ p) st' sb, d.done⟩
theorem dr_of {vs : List V} {its : List Value} (rv : Vals vs its) {i : Nat} {v : Value} (h : its.toArray[i]? = some v) : Dr vs i v := by
  have h' : its[i]? = some v := by simpa using h
  have hl := rv.length
  have hi : i < vs.length := by
    have := (List.getElem?_eq_some_iff.mp h').1
    omega
  obtain ⟨u, hu, r⟩ := rv.get (List.getElem?_eq_getElem hi)
  rw [h'] at hu
  cases hu
  exact ⟨_, List.getElem?_eq_getElem hi, r⟩
def signs (x : Str) : List V := x.cps.toList.map fun c => .str ⟨#[c]⟩
theorem signs_len {x : Str} : (signs x).length = x.cps.size := by simp [signs]
section
variable {P : Program} {w : World} {K : PySem.W.Frag}
theorem src_list {a : Addr} {vs : List V} : Src P w K (.ref a) { cls := .type "list_iterator", data := .fields #[.ref a, .int 0 0] } [a] vs (fun H => SqL K H a vs) (fun it i h => h.IsListIter it a i) where
  begins := fun X pins σ H s hK J hS => by
    subst hK
    obtain ⟨its, rv, p, hz⟩ := J.list hS
    exact ⟨⟨_, begins_list a its.toArray, p.isList⟩, fun b hb => by rw [List.mem_singleton.mp hb]; exact p.lt⟩
  obj := fun it i h ⟨o, e, c, d⟩ => ⟨o, e, fun v z => by rw [d] at z; cases z⟩
  keep := fun it i h h' st k => st.at fun o e => k o e
  start := fun it h e => ⟨_, e, rfl, rfl⟩
  self := fun A it i s Q E st h => (turn_list (K := K) (tg := .Constant .none 0 default) a it).self A i s Q E st h
  draws := fun X pins σ H s it hP hw hK hc J hS hn => by
    subst hP hw hK
    obtain ⟨its, rv, p, hz⟩ := J.list hS
    have hne : a ≠ it := fun e => hn (by simp [e])
    have hlen : its.toArray.size = vs.length := by rw [List.size_toArray, rv.length]
    refine ⟨fun h => h.IsList a its.toArray, p.isList, ?_, fun tg => ?_⟩
    · rw [← hlen]
      exact draws_mono (Draws.list (A := X.A.in1) (J.ok.hd hc) it a hne its.toArray) fun i v h => dr_of rv h
    · rw [← hlen]
      exact (Goes.list (J.ok.hd hc) it a hne its.toArray).mono fun i v _ _ h => dr_of rv h
theorem src_tup {a : Addr} {vs : List V} : Src P w K (.ref a) { cls := .type "tuple_iterator", data := .fields #[.ref a, .int 0 0] } [a] vs (fun H => SqT K H a vs) (fun it i h => h.IsTupleIter it a i) where
  begins := fun X pins σ H s hK J hS => by
    subst hK
    obtain ⟨its, rv, p, hz⟩ := J.tuple hS
    refine ⟨⟨_, begins_tuple a its.toArray, p⟩, fun b hb => ?_⟩
    rw [List.mem_singleton.mp hb]
    obtain ⟨o, e, _⟩ := p
    exact Heap.lt_size e
  obj := fun it i h ⟨o, e, c, d⟩ => ⟨o, e, fun v z => by rw [d] at z; cases z⟩
  keep := fun it i h h' st k => st.at fun o e => k o e
  start := fun it h e => ⟨_, e, rfl, rfl⟩
  self := fun A it i s Q E st h => (turn_tuple (K := K) (tg := .Constant .none 0 default) a it).self A i s Q E st h
  draws := fun X pins σ H s it hP hw hK hc J hS hn => by
    subst hP hw hK
    obtain ⟨its, rv, p, hz⟩ := J.tuple hS
    have hne : a ≠ it := fun e => hn (by simp [e])
    have hlen : its.toArray.size = vs.length := by rw [List.size_toArray, rv.length]
    refine ⟨fun h => h.IsTuple a its.toArray, p, ?_, fun tg => ?_⟩
    · rw [← hlen]
      exact draws_mono (Draws.tuple (A := X.A.in1) (J.ok.hd hc) it a hne its.toArray) fun i v h => dr_of rv h
    · rw [← hlen]
      exact (Goes.tuple (J.ok.hd hc) it a hne its.toArray).mono fun i v _ _ h => dr_of rv h
theorem signs_at {x : Str} {i c : Nat} {u : Tok} (h : x.cps[i]? = some c) : Dr (signs x) i (.str ⟨#[c]⟩ u) :=
  ⟨.str ⟨#[c]⟩, by unfold signs; rw [List.getElem?_map, Array.getElem?_toList, h]; rfl, u, rfl⟩
theorem src_str {x : Str} {t : Tok} : Src P w K (.str x t) { cls := .type (strIterType x), data := .fields #[.str x t, .int 0 0] } [] (signs x) (fun _ => True) (fun it i h => h.IsStrIter it (strIterType x) x t i) where
  begins := fun X pins σ H s hK J hS => ⟨⟨_, begins_text x t, trivial⟩, fun b hb => nomatch hb⟩
  obj := fun it i h ⟨o, e, c, d⟩ => ⟨o, e, fun v z => by rw [d] at z; cases z⟩
  keep := fun it i h h' st k => let ⟨o, e, r⟩ := st; ⟨o, k o e, r⟩
  start := fun it h e => ⟨_, e, rfl, rfl⟩
  self := fun A it i s Q E st h => (turn_str (K := K) (tg := .Constant .none 0 default) it x t (strIterType x) (by unfold strIterType; split <;> simp)).self A i s Q E st h
  draws := fun X pins σ H s it hP hw hK hc J hS hn => by
    subst hP hw hK
    refine ⟨fun _ => True, trivial, ?_, fun tg => ?_⟩
    · rw [signs_len]
      have d := draws_mono (P' := Dr (signs x)) (Draws.text (prog := X.prog) (w := X.w) (A := X.A.in1) (J.ok.hd hc) it x t) (by rintro i v ⟨c, u, h, rfl⟩; exact signs_at h)
      exact ⟨fun i h st => d.live i h st.1, fun i h h' st k => ⟨d.frame i h h' st.1 k, trivial⟩, fun i s Q E hi st k => d.item i s Q E hi st.1 fun y h' tk p st' sb => k y h' tk p ⟨st', trivial⟩ sb, fun s Q E st k => d.done s Q E st.1 k⟩
    · rw [signs_len]
      have d := (Goes.text (prog := X.prog) (w := X.w) (A := X.A) (target := tg) (J.ok.hd hc) it x t).mono (Y' := fun i v _ => Dr (signs x) i v) (by rintro i v _ _ ⟨c, u, h, rfl⟩; exact signs_at h)
      exact ⟨d.sub, fun i h h' st k => ⟨d.frame i h h' st.1 k, trivial⟩, fun i s Q E hi st k => d.goes i s Q E hi st.1 fun y h' tk p st' sb => k y h' tk p ⟨st', trivial⟩ sb, fun s Q E st k => d.stops s Q E st.1 k, fun i s Q E st k => d.self i s Q E st.1 k⟩
end

/-! ### turns -/
/-- one after another -/
def It1 (vs : List V) (S : Hp → Prop) : It := ⟨fun i H => i < vs.length ∧ S H, fun i H x H' => H' = H ∧ vs[i]? = some x, fun i H => i = vs.length ∧ S H⟩
/-- in new tuples -/
def ItN (rows : List (List V)) (S : Hp → Prop) : It :=
  ⟨fun i H => i < rows.length ∧ S H, fun i H x H' => ∃ T row, x = .ref T ∧ H T = none ∧ H' = upd H T (.tup row) ∧ rows[i]? = some row, fun i H => i = rows.length ∧ S H⟩
section
variable {P : Program} {w : World} {K : PySem.W.Frag} {tg : Expr}
theorem turn1 {u : Value} {ob : Obj} {adr : List Addr} {vs : List V} {S : Hp → Prop} {own : Addr → Nat → Heap → Prop} (sr : Src P w K u ob adr vs S own) (it : Addr) (hn : it ∉ adr) : Turn P w K tg (It1 vs S) [it] it (own it) where
  mem := by simp
  obj := fun i h st b hb => by rw [List.mem_singleton.mp hb]; exact sr.obj it i h st
  keep := fun i h h' st k => sr.keep it i h h' st fun o e => k it (by simp) o e
  item := by
    intro X hP hw hK hc i pins s σ H E J hf st hg
    obtain ⟨src, h1, _, G⟩ := sr.draws X pins σ H s it hP hw hK hc J hg.2 hn
    subst hP hw hK
    obtain ⟨g0, g1, g2, g3, g4, g5⟩ := hf it (by simp)
    refine (G tg).goes i s _ E hg.1 ⟨st, h1⟩ fun v h' tk ⟨x, hx, rx⟩ st' kk _ => ?_
    exact ⟨x, H, J.turned (fun b o hb e => kk b o (by simpa using hb) e) g0 g1 g3 g4 g5, rx, ⟨rfl, hx⟩, st'.1, fun b hb => (hf b hb).1⟩
  done := by
    intro X hP hw hK hc i pins s σ H E J hf st hg
    obtain ⟨src, h1, _, G⟩ := sr.draws X pins σ H s it hP hw hK hc J hg.2 hn
    subst hP hw hK
    obtain ⟨g0, g1, g2, g3, g4, g5⟩ := hf it (by simp)
    obtain ⟨rfl, _⟩ := hg
    exact (G tg).stops s _ E ⟨st, h1⟩ fun h' tk kk _ => J.turned (fun b o hb e => kk b o (by simpa using hb) e) g0 g1 g3 g4 g5
  self := fun A i s Q E st h => sr.self A it i s Q E st h
theorem turnN {rows : List (List V)} {S : Hp → Prop} {it : Addr} {fp : List Addr} {tn : Nat → Heap → Prop} (hr : ∀ r ∈ rows, r.length ≤ sizeLine) (mem : it ∈ fp) (obj : ∀ i h, tn i h → ∀ b ∈ fp, ∃ o, h.get? b = some o ∧ ∀ v, o.data ≠ .cell v)
    (keep : ∀ i h h', tn i h → (∀ b ∈ fp, ∀ o, h.get? b = some o → h'.get? b = some o) → tn i h')
    (self : ∀ (A : Around) (i : Nat) (s : Shared) (Q : Value → Shared → Prop) (E : Value → Shared → Prop), tn i s.heap → Q (.ref it) s → wpAny (model P w) A (pyIter (.ref it)) Q E s)
    (go : ∀ (X : Cx) (pins : List (Addr × Obj)) (σ : L2.St) (H : Hp) (s : Shared) (i : Nat), X.prog = P → X.w = w → X.K = K → X.calm = true → Inv X pins σ H s → S H → tn i s.heap →
      ∃ (fp' wr : List Addr) (St : Nat → Heap → Prop), GoesN P w X.A tg it fp' wr rows.length (fun i h₀ v h => ∃ T us row, v = .ref T ∧ h₀.objs.size ≤ T ∧ rows[i]? = some row ∧ Vals row us ∧ h.IsTuple T us.toArray) St ∧ St i s.heap ∧ (∀ j h, St j h → tn j h) ∧ ∀ b ∈ wr, b ∈ fp) :
    Turn P w K tg (ItN rows S) fp it tn where
  mem := mem
  obj := obj
  keep := keep
  self := self
  item := by
    intro X hP hw hK hc i pins s σ H E J hf st hg
    obtain ⟨fp', wr, St, G, st0, back, sub⟩ := go X pins σ H s i hP hw hK hc J hg.2 st
    subst hP hw hK
    refine G.goes i s _ E hg.1 st0 fun v h' tk ⟨T, us, row, ev, hT, hrow, rv, hu⟩ st' kk _ => ?_
    subst ev
    have J1 : Inv X pins σ (upd H T (.tup row)) { s with heap := h', toks := tk } := J.turnedNew (ch := wr) (fun b o hb e => kk b o hb e) (fun b hb => hf b (sub b hb)) hT ⟨hr row (List.mem_of_getElem? hrow), us, rv, hu⟩
    refine ⟨.ref T, _, J1, rfl, ⟨T, row, rfl, J.hok.fresh hT, rfl, hrow⟩, back _ _ st', fun b hb => ?_⟩
    obtain ⟨o, e, _⟩ := obj i s.heap st b hb
    rw [upd_ne (Nat.ne_of_lt (Nat.lt_of_lt_of_le (Heap.lt_size e) hT))]
    exact (hf b hb).1
  done := by
    intro X hP hw hK hc i pins s σ H E J hf st hg
    obtain ⟨fp', wr, St, G, st0, back, sub⟩ := go X pins σ H s i hP hw hK hc J hg.2 st
    subst hP hw hK
    obtain ⟨rfl, _⟩ := hg
    exact G.stops s _ E st0 fun h' tk kk _ => J.turnedL (ch := wr) (fun b o hb e => kk b o hb e) (fun b hb => hf b (sub b hb))

/-- enumerate, from k -/
def rowsE (k : Int) (vs : List V) : List (List V) := vs.mapIdx fun i x => [.int (k + i), x]
theorem rowsE_get {k : Int} {vs : List V} {i : Nat} {x : V} (h : vs[i]? = some x) : (rowsE k vs)[i]? = some [.int (k + i), x] := by
  unfold rowsE; rw [List.getElem?_mapIdx, h]; rfl
theorem turn_en {elts : List Expr} {kk : Nat} {tpos : Pos} {u : Value} {ob : Obj} {adr : List Addr} {vs : List V} {S : Hp → Prop} {own : Addr → Nat → Heap → Prop} (k : Int) (sr : Src P w K u ob adr vs S own) (e it : Addr) (hn : it ∉ adr) (he : e ∉ it :: adr) :
    Turn P w K (.Tuple elts kk tpos) (ItN (rowsE k vs) S) [e, it] e (fun i h => (∃ old, IsEnum h e it (k + (i : Int)) old) ∧ own it i h) := by
  refine turnN (fun r hr => ?_) (by simp) (fun i h st b hb => ?_) (fun i h h' st kk => ⟨st.1.imp fun old q => kk e (by simp) _ q, sr.keep it i h h' st.2 fun o q => kk it (by simp) o q⟩) (fun A i s Q E st h => ?_) fun X pins σ H s i hP hw hK hc J hS st => ?_
  · unfold rowsE at hr
    obtain ⟨i, hi, rfl⟩ := List.mem_mapIdx.mp hr
    show 2 ≤ sizeLine
    decide
  · have e' : b = e ∨ b = it := by simpa using hb
    rcases e' with z | z
    · obtain ⟨old, q⟩ := st.1
      rw [z]; exact ⟨_, q, fun v q => nomatch q⟩
    · rw [z]; exact sr.obj it i h st.2
  · obtain ⟨old, q⟩ := st.1
    exact wpAny_pyIter_enum q h
  · obtain ⟨src, h1, dr, _⟩ := sr.draws X pins σ H s it hP hw hK hc J hS hn
    subst hP hw hK
    refine ⟨e :: it :: adr, [e, it], fun i h => (∃ old, IsEnum h e it (k + (i : Int)) old) ∧ own it i h ∧ src h, ?_, ⟨st.1, st.2, h1⟩, fun j h q => ⟨q.1, q.2.1⟩, fun b hb => hb⟩
    have G := GoesN.enumFrom (elts := elts) (x1 := kk) (pos := tpos) k dr e (fun q => he (by simp [q])) he (by simp)
    rw [show (rowsE k vs).length = vs.length by unfold rowsE; rw [List.length_mapIdx]]
    refine G.mono fun i h₀ v h _ ⟨T, t, x, ev, hT, ⟨y, hy, ry⟩, hI⟩ => ⟨T, [.int (k + i) t, x], [.int (k + i), y], ev, hT, rowsE_get hy, .cons ⟨t, rfl⟩ (.cons ry .nil), hI⟩
def rowsZ (vs ws : List V) : List (List V) := List.zipWith (fun x y => [x, y]) vs ws
/-- zip of two -/
theorem turn_zi {elts : List Expr} {kk : Nat} {tpos : Pos} {u u' : Value} {ob ob' : Obj} {adr adr' : List Addr} {vs ws : List V} {S S' : Hp → Prop} {own own' : Addr → Nat → Heap → Prop} (sr : Src P w K u ob adr vs S own) (sr' : Src P w K u' ob' adr' ws S' own') {z TI TO i1 i2 : Addr}
    (h1 : i1 ∉ adr) (h2 : i2 ∉ adr') (sep : ZipSep2 z TI TO i1 i2 (i1 :: adr) (i2 :: adr')) :
    Turn P w K (.Tuple elts kk tpos) (ItN (rowsZ vs ws) fun H => S H ∧ S' H) [z, TI, TO, i1, i2] z (fun i h => IsZip h z TI TO .none ∧ IsTupOf2 h TI (.ref i1) (.ref i2) ∧ (∃ a1 a2, IsTupOf2 h TO a1 a2) ∧ own i1 i h ∧ own' i2 i h) := by
  refine turnN (fun r hr => ?_) (by simp) (fun i h st b hb => ?_) (fun i h h' st kk => ?_) (fun A i s Q E st h => wpAny_pyIter_zip st.1 h) fun X pins σ H s i hP hw hK hc J hS st => ?_
  · unfold rowsZ at hr
    obtain ⟨i, hi⟩ := List.mem_iff_getElem?.mp hr
    rw [List.getElem?_zipWith] at hi
    split at hi
    · cases hi; show 2 ≤ sizeLine; decide
    · cases hi
  · obtain ⟨q1, q2, ⟨a1, a2, q3⟩, q4, q5⟩ := st
    have e' : b = z ∨ b = TI ∨ b = TO ∨ b = i1 ∨ b = i2 := by simpa using hb
    rcases e' with e | e | e | e | e
    · rw [e]; exact ⟨_, q1, fun v q => nomatch q⟩
    · rw [e]; exact ⟨_, q2, fun v q => nomatch q⟩
    · rw [e]; exact ⟨_, q3, fun v q => nomatch q⟩
    · rw [e]; exact sr.obj i1 i h q4
    · rw [e]; exact sr'.obj i2 i h q5
  · obtain ⟨q1, q2, ⟨a1, a2, q3⟩, q4, q5⟩ := st
    exact ⟨kk z (by simp) _ q1, kk TI (by simp) _ q2, ⟨a1, a2, kk TO (by simp) _ q3⟩, sr.keep i1 i h h' q4 fun o q => kk i1 (by simp) o q, sr'.keep i2 i h h' q5 fun o q => kk i2 (by simp) o q⟩
  · obtain ⟨src, k1, dr, _⟩ := sr.draws X pins σ H s i1 hP hw hK hc J hS.1 h1
    obtain ⟨src', k2, dr', _⟩ := sr'.draws X pins σ H s i2 hP hw hK hc J hS.2 h2
    subst hP hw hK
    refine ⟨z :: TI :: TO :: ((i1 :: adr) ++ (i2 :: adr')), [z, TO, i1, i2], fun i h => IsZip h z TI TO .none ∧ IsTupOf2 h TI (.ref i1) (.ref i2) ∧ (∃ a1 a2, IsTupOf2 h TO a1 a2) ∧ (own i1 i h ∧ src h) ∧ own' i2 i h ∧ src' h, ?_, ⟨st.1, st.2.1, st.2.2.1, ⟨st.2.2.2.1, k1⟩, ⟨st.2.2.2.2, k2⟩⟩, fun j h q => ⟨q.1, q.2.1, q.2.2.1, q.2.2.2.1.1, q.2.2.2.2.1⟩, fun b hb => by simp at hb ⊢; rcases hb with q | q | q | q <;> simp [q]⟩
    have G := GoesN.zip2 (elts := elts) (x1 := kk) (pos := tpos) sep dr dr'
    rw [show (rowsZ vs ws).length = min vs.length ws.length by unfold rowsZ; rw [List.length_zipWith]]
    refine G.mono fun i h₀ v h _ ⟨T, x, y, ev, hT, ⟨p, hp, rp⟩, ⟨q, hq, rq⟩, hI⟩ => ⟨T, [x, y], [p, q], ev, hT, ?_, .cons rp (.cons rq .nil), hI⟩
    unfold rowsZ
    rw [List.getElem?_zipWith, hp, hq]
end

/-! ### iterators begin -/
theorem meets_en1 {v : Value} {o : Obj} {Hh : Heap → Prop} (B : Begins v o Hh) : Meets (Builtin.«enumerate.__new__» ⟨[.type "enumerate", v], []⟩) (fun _ R s => Hh s.heap ∧
    R (.ok (.ret (.ref (s.heap.push o).objs.size))) { s with heap := (s.heap.push o).push ⟨.type "enumerate", none, .fields #[.none, .bool false, .ref s.heap.objs.size, rawInt 0, .none, .none], #[]⟩ }) :=
  .of_wp fun P w A R s h => by
    have hsub := sub_enumerate; obtain ⟨hp, g, d, tk, os⟩ := s; obtain ⟨h1, h⟩ := h
    have q1 : ∀ {A' : Around} {E Q : Value → Shared → Prop}, Q (.ref hp.objs.size) ⟨hp.push o, g, d, tk, os⟩ → wpAny (model P w) A' (pyIter v) Q E ⟨hp, g, d, tk, os⟩ :=
      fun q => B.iter P w _ _ ⟨hp, g, d, tk, os⟩ _ h1 q
    wp_walk using q1
    refine wpAny_stack_any fun st => wpAny_pure ?_; split
    · rename_i c _ _ _ _ _
      cases (c == Value.type "enumerate") <;> (wp_walk using q1; exact ⟨_, rfl, h⟩)
    · wp_walk using q1; exact ⟨_, rfl, h⟩
theorem call_en1 {P : Program} {w : World} {A : Around} {E : Value → Shared → Prop} {s : Shared} {v : Value} {o : Obj} {Hh : Heap → Prop} {Q : Value → Shared → Prop} (B : Begins v o Hh) (h1 : Hh s.heap)
    (h : ∀ h', IsEnum h' (s.heap.objs.size + 1) s.heap.objs.size 0 .none → h'.get? s.heap.objs.size = some o → (∀ b o, s.heap.get? b = some o → h'.get? b = some o) → Q (.ref (s.heap.objs.size + 1)) { s with heap := h' }) :
    wpAny (model P w) A (call (.type "enumerate") [v]) Q E s := by
  refine callType_new F.called_enumerate (by decide) (F.typeCall_enumerate_1 _) (F.newCall_enumerate_1 _) (fun ob => F.args_object_init_2 ob _) F.entry_enumerate_new (meets_en1 B) ⟨h1, ?_⟩
  have hz : (s.heap.push o).objs.size = s.heap.objs.size + 1 := Heap.size_push s.heap o
  show _ ∧ _; rw [hz]
  have he : IsEnum ((s.heap.push o).push ⟨.type "enumerate", none, .fields #[.none, .bool false, .ref s.heap.objs.size, rawInt 0, .none, .none], #[]⟩) (s.heap.objs.size + 1) s.heap.objs.size 0 .none := by
    have := Heap.get?_push_size (s.heap.push o) (o := ⟨.type "enumerate", none, .fields #[.none, .bool false, .ref s.heap.objs.size, rawInt 0, .none, .none], #[]⟩) rfl
    rwa [hz] at this
  exact ⟨⟨_, he, rfl⟩, h _ he (Heap.get?_push_of_some _ (Heap.get?_push_size _ B.free)) fun b o x => Heap.get?_push_of_some _ (Heap.get?_push_of_some _ x)⟩
section
variable {X : Cx} {tg : Expr} {pins : List (Addr × Obj)} {σ : L2.St} {H : Hp} {s : Shared} {R : It → Hp → Prop} {E : Value → Shared → Prop}
theorem notMem_old {adr : List Addr} {n m : Nat} (h : ∀ b ∈ adr, b < n) (k : n ≤ m) : m ∉ adr := fun q => absurd (h m q) (Nat.not_lt.mpr k)
theorem pie1 {u : Value} {ob : Obj} {adr : List Addr} {vs : List V} {S : Hp → Prop} {own : Addr → Nat → Heap → Prop} (sr : Src X.prog X.w X.K u ob adr vs S own) (J : Inv X pins σ H s) (hS : S H) (q : R (It1 vs S) H) : wpAny (model X.prog X.w) X.A (pyIter u) (PIE X pins σ tg R) E s := by
  obtain ⟨⟨Hh, B, hH⟩, ho⟩ := sr.begins X pins σ H s rfl J hS
  refine B.iter X.prog X.w X.A E s _ hH ?_
  exact pi_one (tk := s.toks) J ob (turn1 sr _ (notMem_old ho (Nat.le_refl _))) (sr.start _ _ (Heap.get?_push_size _ B.free)) q
theorem pieE0 {elts : List Expr} {kk : Nat} {tpos : Pos} {u : Value} {ob : Obj} {adr : List Addr} {vs : List V} {S : Hp → Prop} {own : Addr → Nat → Heap → Prop} {k : Int} {h' : Heap} (sr : Src X.prog X.w X.K u ob adr vs S own) (J : Inv X pins σ H s) (hS : S H) (q : R (ItN (rowsE k vs) S) H)
    (he : IsEnum h' (s.heap.objs.size + 1) s.heap.objs.size k .none) (hit : h'.get? s.heap.objs.size = some ob) (hk : ∀ b o, s.heap.get? b = some o → h'.get? b = some o) :
    wpAny (model X.prog X.w) X.A (pyIter (.ref (s.heap.objs.size + 1))) (PIE X pins σ (.Tuple elts kk tpos) R) E { s with heap := h' } := by
  obtain ⟨_, ho⟩ := sr.begins X pins σ H s rfl J hS
  refine wpAny_pyIter_enum (i := k) he ?_
  have fr : ∀ b, s.heap.objs.size ≤ b → FpOk X pins H b := fun b hb => J.fpOk hb (J.hok.fresh hb)
  refine ⟨s.heap.objs.size + 1, [s.heap.objs.size + 1, s.heap.objs.size], _, _, H, rfl, J.kept (t' := s.toks) hk, turn_en k sr _ _ (notMem_old ho (Nat.le_refl _)) (fun m => ?_), ⟨⟨.none, ?_⟩, sr.start _ _ hit⟩, fun b hb => ?_, q⟩
  · rcases List.mem_cons.mp m with m | m
    · exact Nat.succ_ne_self _ m
    · exact notMem_old ho (Nat.le_succ _) m
  · rw [show k + ((0 : Nat) : Int) = k by omega]; exact he
  · have e' : b = s.heap.objs.size + 1 ∨ b = s.heap.objs.size := by simpa using hb
    rcases e' with e | e <;> (rw [e]; exact fr _ (by first | exact Nat.le_succ _ | exact Nat.le_refl _))
theorem pieE {elts : List Expr} {kk : Nat} {tpos : Pos} {u : Value} {ob : Obj} {adr : List Addr} {vs : List V} {S : Hp → Prop} {own : Addr → Nat → Heap → Prop} (sr : Src X.prog X.w X.K u ob adr vs S own) (J : Inv X pins σ H s) (hS : S H) (q : R (ItN (rowsE 0 vs) S) H) :
    wpAny (model X.prog X.w) X.A (call (.type "enumerate") [u]) (fun v s1 => wpAny (model X.prog X.w) X.A (pyIter v) (PIE X pins σ (.Tuple elts kk tpos) R) E s1) E s := by
  obtain ⟨⟨Hh, B, hH⟩, ho⟩ := sr.begins X pins σ H s rfl J hS
  exact call_en1 B hH fun h' he hit hk => pieE0 sr J hS q he hit hk
theorem pieZ {elts : List Expr} {kk : Nat} {tpos : Pos} {u u' : Value} {ob ob' : Obj} {adr adr' : List Addr} {vs ws : List V} {S S' : Hp → Prop} {own own' : Addr → Nat → Heap → Prop} (sr : Src X.prog X.w X.K u ob adr vs S own) (sr' : Src X.prog X.w X.K u' ob' adr' ws S' own') (J : Inv X pins σ H s) (hS : S H) (hS' : S' H)
    (q : R (ItN (rowsZ vs ws) fun H => S H ∧ S' H) H) :
    wpAny (model X.prog X.w) X.A (call (.type "zip") [u, u']) (fun v s1 => wpAny (model X.prog X.w) X.A (pyIter v) (PIE X pins σ (.Tuple elts kk tpos) R) E s1) E s := by
  obtain ⟨⟨Hh, B, hH⟩, ho⟩ := sr.begins X pins σ H s rfl J hS
  obtain ⟨⟨Hh', B', hH'⟩, ho'⟩ := sr'.begins X pins σ H s rfl J hS'
  refine zip_begins2 B B' hH hH' fun h' hz hTI hTO h1 h2 _ hk => wpAny_pyIter_zip hz ?_
  have fr : ∀ b, s.heap.objs.size ≤ b → FpOk X pins H b := fun b hb => J.fpOk hb (J.hok.fresh hb)
  refine ⟨s.heap.objs.size + 4, [s.heap.objs.size + 4, s.heap.objs.size + 2, s.heap.objs.size + 3, s.heap.objs.size, s.heap.objs.size + 1], _, _, H, rfl, J.kept (t' := s.toks) hk,
    turn_zi sr sr' (notMem_old ho (Nat.le_refl _)) (notMem_old ho' (Nat.le_succ _)) (zip_sep2 ho ho'), ⟨hz, hTI, ⟨_, _, hTO⟩, sr.start _ _ h1, sr'.start _ _ h2⟩, fun b hb => fr b ?_, q⟩
  have hb5 : b = s.heap.objs.size + 4 ∨ b = s.heap.objs.size + 2 ∨ b = s.heap.objs.size + 3 ∨ b = s.heap.objs.size ∨ b = s.heap.objs.size + 1 := by simpa using hb
  rcases hb5 with e | e | e | e | e <;> (rw [e]; first | exact Nat.le_add_right _ _ | exact Nat.le_refl _)
end

/-! ### iteration by deep values -/
def signsP (x : Str) : List P := x.cps.toList.map fun c => .str ⟨#[c]⟩
/-- the items of a value -/
def asI : P → Option (List P)
  | .tup xs => some xs
  | .lst xs => some xs
  | .scr xs => some xs
  | .str x => some (signsP x)
  | _ => none
theorem RPs.map {α : Type} {G : Gm} {I : Hp} {f : α → P} {g : α → V} : ∀ (l : List α), (∀ a ∈ l, RP G I (f a) (g a)) → RPs G I (l.map f) (l.map g)
  | [], _ => rfl
  | a :: l, h => ⟨_, _, rfl, h a (List.mem_cons_self ..), RPs.map l fun b hb => h b (List.mem_cons_of_mem _ hb)⟩
theorem src_of {Pr : Program} {w : World} {G : Gm} {I : Hp} {p : P} {x : V} {u : Value} {ps : List P} (rp : RP G I p x) (e : asI p = some ps) (ru : RelV x u) :
    ∃ (ob : Obj) (adr : List Addr) (vs : List V) (S : Hp → Prop) (own : Addr → Nat → Heap → Prop), Src Pr w G.K u ob adr vs S own ∧ (∀ H, Le I H → S H) ∧ RPs G I ps vs := by
  cases p with
  | tup xs =>
    cases e; obtain ⟨a, vs, rfl, h, t⟩ := rp; cases ru
    exact ⟨_, _, vs, _, _, src_tup, fun H l => l.sqt h, t⟩
  | lst xs =>
    cases e; obtain ⟨a, vs, rfl, h, t⟩ := rp; cases ru
    exact ⟨_, _, vs, _, _, src_list, fun H l => SqL.of (l _ _ h), t⟩
  | scr xs =>
    cases e; obtain ⟨a, vs, rfl, h, t⟩ := rp; cases ru
    exact ⟨_, _, vs, _, _, src_list, fun H l => l.sql h, t⟩
  | str z =>
    cases e; obtain ⟨rfl, h1, h2⟩ := rp; obtain ⟨t, rfl⟩ := ru
    exact ⟨_, _, _, _, _, src_str, fun H l => trivial, RPs.map _ fun c hc => .mkS (by show 1 ≤ sizeLine; decide) (sign_ok h2 hc)⟩
  | _ => cases e
abbrev DSrc := Env → Store → (List P → (Env → Store → Prop) → Env → Store → Prop) → Prop
structure WalkD (G : Gm) (I : Hp) (J : It) (ps : List P) (St : Env → Store → Prop) : Prop where
  goes : ∀ i ρ S I1 σ H, Le I I1 → Rel G ρ S I1 σ H → St ρ S → i < ps.length → J.go i H
  stops : ∀ ρ S I1 σ H, Le I I1 → Rel G ρ S I1 σ H → St ρ S → J.stop ps.length H
  ylds : ∀ i ρ S I1 σ H x H', Le I I1 → Rel G ρ S I1 σ H → St ρ S → i < ps.length → J.yld i H x H' → ∃ p I2, ps[i]? = some p ∧ Le I1 I2 ∧ Rel G ρ S I2 σ H' ∧ RP G I2 p x
def trI (G : Gm) (T : DSrc) : TI := fun σ H R => ∃ (ρ : Env) (S : Store) (I : Hp) (Q0 : List P → (Env → Store → Prop) → Env → Store → Prop), Rel G ρ S I σ H ∧ T ρ S Q0 ∧
  ∀ J H' ρ' S' I' ps St, Le I I' → Rel G ρ' S' I' σ H' → (∀ F', WalkD { G with F := F' } I' J ps St) → Q0 ps St ρ' S' → R J H'
abbrev DI (F I0 : Hp) (X : Cx) (tg e : Expr) (T : DSrc) : Prop := PI X tg e (trI (gm F I0 X) T)
abbrev Tr : Env → Store → Prop := fun _ _ => True
section
variable {G : Gm} {I : Hp} {ps qs : List P} {vs ws : List V} {S S' : Hp → Prop}
mutual
theorem RP.cg {G G' : Gm} {I : Hp} (h : G.K = G'.K) : ∀ (p : P) (x : V), RP G I p x → RP G' I p x
  | .non, _, r => r
  | .bl _, _, r => r
  | .int _, _, r => r
  | .str _, _, r => r
  | .ty _, _, r => r
  | .ref _, _, r => r
  | .tup ps, _, ⟨a, vs, e, s, r⟩ => ⟨a, vs, e, h ▸ s, RPs.cg h ps vs r⟩
  | .lst ps, _, ⟨a, vs, e, s, r⟩ => ⟨a, vs, e, s, RPs.cg h ps vs r⟩
  | .scr ps, _, ⟨a, vs, e, s, r⟩ => ⟨a, vs, e, h ▸ s, RPs.cg h ps vs r⟩
  | .dct _, _, r => r
  | .ins _ fs, _, ⟨a, dx, gs, e, s, r⟩ => ⟨a, dx, gs, e, s, RFs.cg h fs gs r⟩
theorem RPs.cg {G G' : Gm} {I : Hp} (h : G.K = G'.K) : ∀ (ps : List P) (vs : List V), RPs G I ps vs → RPs G' I ps vs
  | [], _, r => r
  | p :: ps, _, ⟨x, q, e, r, t⟩ => ⟨x, q, e, RP.cg h p x r, RPs.cg h ps q t⟩
theorem RFs.cg {G G' : Gm} {I : Hp} (h : G.K = G'.K) : ∀ (ps : List (Str × P)) (vs : List (Str × V)), RFs G I ps vs → RFs G' I ps vs
  | [], _, r => r
  | (_, p) :: ps, _, ⟨x, q, e, r, t⟩ => ⟨x, q, e, RP.cg h p x r, RFs.cg h ps q t⟩
end
theorem OkO.cg {G G' : Gm} {I H : Hp} {a : Addr} (h : G.K = G'.K) : ∀ {o : SO}, OkO G I H a o → OkO G' I H a o
  | .lst _, ⟨vs, e, r⟩ => ⟨vs, e, RPs.cg h _ _ r⟩
  | .dct _, r => r
  | .ins _ _, ⟨dx, gs, e, r⟩ => ⟨dx, gs, e, RFs.cg h _ _ r⟩
theorem walk1 (h : ∀ H, Le I H → S H) (t : RPs G I ps vs) : WalkD G I (It1 vs S) ps Tr where
  goes := fun i ρ S I1 σ H l R _ hi => ⟨by rw [← t.length]; exact hi, h H (l.trans R.sr.imm)⟩
  stops := fun ρ S I1 σ H l R _ => ⟨t.length, h H (l.trans R.sr.imm)⟩
  ylds := fun i ρ S I1 σ H x H' l R _ _ y => by
    obtain ⟨rfl, hx⟩ := y
    obtain ⟨p, hp, r⟩ := t.get' hx
    exact ⟨p, I1, hp, Le.refl, R, RP.mono l _ _ r⟩
def enumP (k : Int) (ps : List P) : List P := ps.mapIdx fun i p => .tup [.int (k + i), p]
def zipP (ps qs : List P) : List P := List.zipWith (fun p q => .tup [p, q]) ps qs
/-- rows in new tuples -/
theorem walkN {rows : List (List V)} {rs : List P} (h : ∀ H, Le I H → S H) (hl : rs.length = rows.length) (t : ∀ (i : Nat) (row : List V), rows[i]? = some row → ∃ qs : List P, rs[i]? = some (P.tup qs) ∧ RPs G I qs row) : WalkD G I (ItN rows S) rs Tr where
  goes := fun i ρ S I1 σ H l R _ hi => ⟨by rw [← hl]; exact hi, h H (l.trans R.sr.imm)⟩
  stops := fun ρ S I1 σ H l R _ => ⟨hl, h H (l.trans R.sr.imm)⟩
  ylds := fun i ρ S I1 σ H x H' l R _ _ y => by
    obtain ⟨T, row, rfl, hT, rfl, hrow⟩ := y
    obtain ⟨qs, hq, r⟩ := t i row hrow
    obtain ⟨l2, R2⟩ := R.frz (o := .tup row) hT
    exact ⟨_, _, hq, l2, R2, RP.mkT upd_same (RPs.mono (l.trans l2) _ _ r)⟩
theorem walkE {k : Int} (h : ∀ H, Le I H → S H) (t : RPs G I ps vs) : WalkD G I (ItN (rowsE k vs) S) (enumP k ps) Tr := by
  refine walkN h (by unfold enumP rowsE; rw [List.length_mapIdx, List.length_mapIdx, t.length]) fun i row e => ?_
  unfold rowsE at e
  rw [List.getElem?_mapIdx] at e
  obtain ⟨x, hx, rfl⟩ := Option.map_eq_some_iff.mp e
  obtain ⟨p, hp, r⟩ := t.get' hx
  exact ⟨[.int (k + i), p], by unfold enumP; rw [List.getElem?_mapIdx, hp]; rfl, _, _, rfl, rfl, _, _, rfl, r, rfl⟩
theorem walkZ (h : ∀ H, Le I H → S H) (h' : ∀ H, Le I H → S' H) (t : RPs G I ps vs) (t' : RPs G I qs ws) : WalkD G I (ItN (rowsZ vs ws) fun H => S H ∧ S' H) (zipP ps qs) Tr := by
  refine walkN (fun H l => ⟨h H l, h' H l⟩) (by unfold zipP rowsZ; rw [List.length_zipWith, List.length_zipWith, t.length, t'.length]) fun i row e => ?_
  unfold rowsZ at e
  rw [List.getElem?_zipWith] at e
  cases hx : vs[i]? with
  | none => rw [hx] at e; cases e
  | some x =>
    cases hy : ws[i]? with
    | none => rw [hx, hy] at e; cases e
    | some y =>
      rw [hx, hy] at e; cases e
      obtain ⟨p, hp, r⟩ := t.get' hx
      obtain ⟨q, hq, r'⟩ := t'.get' hy
      exact ⟨[p, q], by unfold zipP; rw [List.getElem?_zipWith, hp, hq], _, _, rfl, r, _, _, rfl, r', rfl⟩
def rangeP (lo : Int) (n : Nat) : List P := (List.range n).map fun i => .int (lo + (i : Nat))
theorem rangeP_get {lo : Int} {n i : Nat} (h : i < n) : (rangeP lo n)[i]? = some (.int (lo + (i : Nat))) := by
  unfold rangeP; rw [List.getElem?_map, List.getElem?_range h]; rfl
theorem walkR {lo : Int} {n : Nat} : WalkD G I (Itr lo n) (rangeP lo n) Tr where
  goes := fun i ρ S I1 σ H l R _ hi => by show i < n; simpa [rangeP] using hi
  stops := fun ρ S I1 σ H l R _ => by show n ≤ _; simp [rangeP]
  ylds := fun i ρ S I1 σ H x H' l R _ hi y => by
    obtain ⟨rfl, rfl⟩ := y
    exact ⟨_, I1, rangeP_get (by simpa [rangeP] using hi), Le.refl, R, .mkI⟩
end
end D
/-! D6: new objects, targets, statements, loops, comprehensions, methods; by deep values. -/
namespace D
open PySem PySem.Spec L2

/-! ### a new object held aside -/
section
variable {G : Gm} {ρ : Env} {S : Store} {I : Hp} {σ : L2.St} {H : Hp} {A : Addr} {u u' : HO} {o : SO}
abbrev Gm.up (G : Gm) (A : Addr) (u : HO) : Gm := { G with F := upd G.F A u }
theorem RP.gm {G : Gm} (G' : Gm) {I : Hp} {p : P} {x : V} (h : RP G I p x) (e : G.K = G'.K) : RP G' I p x := RP.cg e p x h
theorem RPs.gm {G : Gm} (G' : Gm) {I : Hp} {ps : List P} {xs : List V} (h : RPs G I ps xs) (e : G.K = G'.K) : RPs G' I ps xs := RPs.cg e ps xs h
theorem OkO.gm {G G' : Gm} {I H : Hp} {a : Addr} {o : SO} (h : OkO G I H a o) (e : G.K = G'.K) : OkO G' I H a o := OkO.cg e h
theorem Rel.unused (R : Rel G ρ S I σ H) (h : H A = none) : G.F A = none ∧ I A = none ∧ S A = none := by
  refine ⟨?_, ?_, ?_⟩
  · cases e : G.F A with
    | none => rfl
    | some u => rw [R.sr.fr A u e] at h; cases h
  · cases e : I A with
    | none => rfl
    | some u => rw [R.sr.imm A u e] at h; cases h
  · cases e : S A with
    | none => rfl
    | some u => obtain ⟨v, q⟩ := (R.sr.st A u e).1.there; rw [h] at q; cases q
theorem Rel.toF (R : Rel G ρ S I σ H) (h : H A = none) : Rel (G.up A u) ρ S I σ (upd H A u) := by
  obtain ⟨h1, h2, h3⟩ := R.unused h
  refine ⟨⟨R.sr.i0, fun b w e => ?_, fun b w e => ?_, fun b w e => ?_, fun b w e => ?_⟩, R.len, fun i p e => ?_, fun i o e => ?_, R.ap⟩
  · rw [upd_ne (ne_of_none e h2)]; exact R.sr.imm b w e
  · by_cases c : b = A
    · subst c; rw [show (G.up b u).F b = some u from upd_same] at e; cases e; exact upd_same
    · rw [show (G.up A u).F b = G.F b from upd_ne c] at e; rw [upd_ne c]; exact R.sr.fr b w e
  · by_cases c : b = A
    · subst c; exact ⟨h2, h3⟩
    · rw [show (G.up A u).F b = G.F b from upd_ne c] at e; exact R.sr.fi b w e
  · obtain ⟨k1, k2⟩ := R.sr.st b w e
    have c : b ≠ A := by rintro rfl; rw [h3] at e; cases e
    exact ⟨(k1.gm (G' := G.up A u) rfl).at (upd_ne c), k2⟩
  · obtain ⟨x, k1, k2⟩ := R.vs i p e
    exact ⟨x, k1, RP.gm (G.up A u) k2 rfl⟩
  · obtain ⟨b, k1, k2, k3, k4, k5⟩ := R.ow i o e
    have c : b ≠ A := R.ownNe e k1 h
    exact ⟨b, k1, (k2.gm (G' := G.up A u) rfl).at (upd_ne c), k3, k4, by rw [show (G.up A u).F b = G.F b from upd_ne c]; exact k5⟩
theorem Rel.heldNe (R : Rel (G.up A u) ρ S I σ H) {i : Nat} {o : SO} {b : Addr} (e : ρ[i]? = some (.own o)) (h : σ[i]? = some (some (.ref b))) : b ≠ A := by
  obtain ⟨c, k1, _, _, _, k5⟩ := R.ow i o e
  rw [h] at k1; cases k1
  rintro rfl
  rw [show (G.up b u).F b = some u from upd_same] at k5; cases k5
theorem Rel.held (R : Rel (G.up A u) ρ S I σ H) : H A = some u ∧ I A = none ∧ S A = none := ⟨R.sr.fr A u upd_same, R.sr.fi A u upd_same⟩
theorem Rel.reF (R : Rel (G.up A u) ρ S I σ H) : Rel (G.up A u') ρ S I σ (upd H A u') := by
  obtain ⟨h1, h2, h3⟩ := R.held
  refine ⟨⟨R.sr.i0, fun b w e => ?_, fun b w e => ?_, fun b w e => ?_, fun b w e => ?_⟩, R.len, fun i p e => ?_, fun i o e => ?_, R.ap⟩
  · rw [upd_ne (ne_of_none e h2)]; exact R.sr.imm b w e
  · by_cases c : b = A
    · subst c; rw [show (G.up b u').F b = some u' from upd_same] at e; cases e; exact upd_same
    · rw [show (G.up A u').F b = G.F b from upd_ne c] at e; rw [upd_ne c]; exact R.sr.fr b w ((upd_ne c).trans e)
  · by_cases c : b = A
    · subst c; exact ⟨h2, h3⟩
    · rw [show (G.up A u').F b = G.F b from upd_ne c] at e; exact R.sr.fi b w ((upd_ne c).trans e)
  · obtain ⟨k1, k2⟩ := R.sr.st b w e
    have c : b ≠ A := by rintro rfl; rw [h3] at e; cases e
    exact ⟨(k1.gm (G' := G.up A u') rfl).at (upd_ne c), k2⟩
  · obtain ⟨x, k1, k2⟩ := R.vs i p e
    exact ⟨x, k1, RP.gm (G.up A u') k2 rfl⟩
  · obtain ⟨b, k1, k2, k3, k4, k5⟩ := R.ow i o e
    have c : b ≠ A := R.heldNe e k1
    exact ⟨b, k1, (k2.gm (G' := G.up A u') rfl).at (upd_ne c), k3, k4, by rw [show (G.up A u').F b = G.F b from upd_ne c]; exact (upd_ne c).symm.trans k5⟩
/-- let go: nothing is said of it any more -/
theorem Rel.drop (R : Rel (G.up A u) ρ S I σ H) (hF : G.F A = none) : Rel G ρ S I σ H := by
  refine ⟨⟨R.sr.i0, R.sr.imm, fun b w e => R.sr.fr b w ((upd_ne (ne_of_none e hF)).trans e), fun b w e => R.sr.fi b w ((upd_ne (ne_of_none e hF)).trans e), fun b w e => ?_⟩, R.len, fun i p e => ?_, fun i o e => ?_, R.ap⟩
  · obtain ⟨k1, k2⟩ := R.sr.st b w e
    exact ⟨k1.gm (G' := G) rfl, k2⟩
  · obtain ⟨x, k1, k2⟩ := R.vs i p e
    exact ⟨x, k1, RP.gm (G) k2 rfl⟩
  · obtain ⟨b, k1, k2, k3, k4, k5⟩ := R.ow i o e
    have c : b ≠ A := R.heldNe e k1
    exact ⟨b, k1, k2.gm (G' := G) rfl, k3, k4, (upd_ne c).symm.trans k5⟩
/-- it becomes frozen -/
theorem Rel.heldI (R : Rel (G.up A u) ρ S I σ H) (hF : G.F A = none) : Le I (upd I A u) ∧ Rel G ρ S (upd I A u) σ H := by
  obtain ⟨h1, h2, h3⟩ := R.held
  have hl : Le I (upd I A u) := Le.upd h2
  have R0 := R.drop hF
  refine ⟨hl, ⟨R0.sr.i0.trans hl, fun b w e => ?_, R0.sr.fr, fun b w e => ?_, fun b w e => ?_⟩, R0.len, fun i p e => ?_, fun i o e => ?_, R0.ap⟩
  · by_cases c : b = A
    · subst c; rw [upd_same] at e; cases e; exact h1
    · rw [upd_ne c] at e; exact R0.sr.imm b w e
  · obtain ⟨k1, k2⟩ := R0.sr.fi b w e
    have c : b ≠ A := by rintro rfl; rw [hF] at e; cases e
    exact ⟨by rw [upd_ne c]; exact k1, k2⟩
  · obtain ⟨k1, k2⟩ := R0.sr.st b w e
    have c : b ≠ A := by rintro rfl; rw [h3] at e; cases e
    exact ⟨k1.mono hl, by rw [upd_ne c]; exact k2⟩
  · obtain ⟨x, k1, k2⟩ := R0.vs i p e
    exact ⟨x, k1, RP.mono hl _ _ k2⟩
  · obtain ⟨b, k1, k2, k3, k4, k5⟩ := R0.ow i o e
    have c : b ≠ A := R.heldNe e k1
    exact ⟨b, k1, k2.mono hl, by rw [upd_ne c]; exact k3, k4, k5⟩
/-- the store gets it -/
theorem Rel.heldS (R : Rel (G.up A u) ρ S I σ H) (hF : G.F A = none) (ho : OkO G I H A o) : S A = none ∧ Rel G ρ (ups S A o) I σ H := by
  obtain ⟨h1, h2, h3⟩ := R.held
  have R0 := R.drop hF
  refine ⟨h3, ⟨R0.sr.i0, R0.sr.imm, R0.sr.fr, fun b w e => ?_, fun b w e => ?_⟩, R0.len, R0.vs, fun i o e => ?_, R0.ap⟩
  · obtain ⟨k1, k2⟩ := R0.sr.fi b w e
    have c : b ≠ A := by rintro rfl; rw [hF] at e; cases e
    exact ⟨k1, by rw [ups_ne c]; exact k2⟩
  · by_cases c : b = A
    · subst c; rw [ups_same] at e; cases e; exact ⟨ho, h2⟩
    · rw [ups_ne c] at e; exact R0.sr.st b w e
  · obtain ⟨b, k1, k2, k3, k4, k5⟩ := R0.ow i o e
    have c : b ≠ A := R.heldNe e k1
    exact ⟨b, k1, k2, k3, by rw [ups_ne c]; exact k4, k5⟩
theorem set_cut {ρ : Env} {i m : Nat} {s w : Sl} (e : (ρ.set i s)[m]? = some w) : (m = i ∧ w = s) ∨ (i ≠ m ∧ ρ[m]? = some w) := by
  by_cases c : i = m
  · subst c
    by_cases hi : i < ρ.length
    · rw [List.getElem?_set_self hi] at e; cases e; exact .inl ⟨rfl, rfl⟩
    · rw [List.getElem?_eq_none (by simpa using hi)] at e; cases e
  · rw [List.getElem?_set_ne c] at e; exact .inr ⟨c, e⟩
/-- a slot gets it -/
theorem Rel.heldO (R : Rel (G.up A u) ρ S I σ H) (hF : G.F A = none) (ho : OkO G I H A o) (i : Nat) : Rel G (ρ.set i (.own o)) S I (σ.set i (some (.ref A))) H := by
  obtain ⟨h1, h2, h3⟩ := R.held
  have R0 := R.drop hF
  refine ⟨R0.sr, by simpa using R0.len, fun j q e => ?_, fun j w e => ?_, fun j k w z a hjk e1 e2 k1 k2 => ?_⟩
  · rcases set_cut e with ⟨_, q⟩ | ⟨c, e⟩
    · cases q
    · rw [List.getElem?_set_ne c]; exact R0.vs j q e
  · rcases set_cut e with ⟨rfl, q⟩ | ⟨c, e⟩
    · cases q
      have hj : j < σ.length := by
        have := (List.getElem?_eq_some_iff.mp e).1
        rw [R0.len]; simpa using this
      exact ⟨A, List.getElem?_set_self hj, ho, h2, h3, hF⟩
    · rw [List.getElem?_set_ne c]; exact R0.ow j w e
  · have here : ∀ {m : Nat} {w : SO} {x : V}, (ρ.set i (.own o))[m]? = some (.own w) → (σ.set i (some (.ref A)))[m]? = some (some x) → m = i → x = .ref A := by
      rintro m w x e k rfl
      have hj : m < σ.length := by
        have := (List.getElem?_eq_some_iff.mp e).1
        rw [R0.len]; simpa using this
      rw [List.getElem?_set_self hj] at k; cases k; rfl
    rcases set_cut e1 with ⟨q, _⟩ | ⟨c1, f1⟩
    · rcases set_cut e2 with ⟨q2, _⟩ | ⟨c2, f2⟩
      · exact hjk (q.trans q2.symm)
      · cases here e1 k1 q
        rw [List.getElem?_set_ne c2] at k2
        exact R.heldNe f2 k2 rfl
    · rcases set_cut e2 with ⟨q2, _⟩ | ⟨c2, f2⟩
      · cases here e2 k2 q2
        rw [List.getElem?_set_ne c1] at k1
        exact R.heldNe f1 k1 rfl
      · rw [List.getElem?_set_ne c1] at k1
        rw [List.getElem?_set_ne c2] at k2
        exact R0.ap j k w z a hjk f1 f2 k1 k2
end
abbrev DNw := Env → Store → (SO → Env → Store → Prop) → Prop
/-- an expression that gives a new object -/
def trN (G : Gm) (T : DNw) : TE := fun σ H Q => ∃ (ρ : Env) (S : Store) (I : Hp) (Q0 : SO → Env → Store → Prop), Rel G ρ S I σ H ∧ T ρ S Q0 ∧
  ∀ A H' o u ρ' S' I', Le I I' → G.F A = none → Rel (G.up A u) ρ' S' I' σ H' → OkO G I' H' A o → Q0 o ρ' S' → Q (.ref A) H'
abbrev DN (F I0 : Hp) (X : Cx) (e : Expr) (T : DNw) : Prop := PE X e (trN (gm F I0 X) T)
def frzO : SO → Option P
  | .lst xs => some (.lst xs)
  | .dct [] => some (.dct [])
  | .ins C fs => some (.ins C fs)
  | _ => none
theorem OkO.frz {G : Gm} {I H : Hp} {A : Addr} {u : HO} {o : SO} {p : P} (h : OkO G I H A o) (e : frzO o = some p) (hu : H A = some u) (hl : Le I (upd I A u)) : RP G (upd I A u) p (.ref A) := by
  cases o with
  | lst xs =>
    cases e; obtain ⟨vs, h1, t⟩ := h
    rw [hu] at h1; cases h1
    exact ⟨A, vs, rfl, upd_same, RPs.mono hl _ _ t⟩
  | dct kvs =>
    cases kvs with
    | nil => cases e; rw [h.1] at hu; cases hu; exact ⟨A, rfl, upd_same, rfl⟩
    | cons a r => cases e
  | ins C fs =>
    cases e; obtain ⟨dx, gs, h1, t⟩ := h
    rw [hu] at h1; cases h1
    exact ⟨A, dx, gs, rfl, upd_same, RFs.mono hl _ _ t⟩
  | set _ => cases e
def TFz (T : DNw) : DT := fun ρ S Q => T ρ S fun o ρ1 S1 => match frzO o with
  | some p => Q (.v p) ρ1 S1
  | none => False
def TSt (T : DNw) : DT := fun ρ S Q => T ρ S fun o ρ1 S1 => ∀ a, S1 a = none → Q (.v (.ref a)) ρ1 (ups S1 a o)
section
variable {X : Cx} {F I0 : Hp} {e : Expr} {T : DNw}
theorem d_frN (h : DN F I0 X e T) : DE F I0 X e (TFz T) := by
  refine h.weak fun σ H Q ⟨ρ, S, I, Q0, R, q, post⟩ => ⟨ρ, S, I, _, R, q, fun A H' o u ρ' S' I' l hF R' ho q => ?_⟩
  split at q
  · rename_i p e
    obtain ⟨l2, R2⟩ := R'.heldI hF
    exact post _ _ (.v p) _ _ _ (l.trans l2) R2 (ho.frz e R'.held.1 l2) q
  · exact q.elim
theorem d_stN (h : DN F I0 X e T) : DE F I0 X e (TSt T) := by
  refine h.weak fun σ H Q ⟨ρ, S, I, Q0, R, q, post⟩ => ⟨ρ, S, I, _, R, q, fun A H' o u ρ' S' I' l hF R' ho q => ?_⟩
  obtain ⟨h3, R2⟩ := R'.heldS hF ho
  exact post _ _ (.v (.ref A)) _ _ _ l R2 (by exact rfl) (q A h3)
end
/-- [a, b, ..] -/
def NLst (u : DA) : DNw := fun ρ S Q => u ρ S fun rs ρ1 S1 => match vals rs with
  | some ps => ps.length ≤ sizeLine ∧ Q (.lst ps) ρ1 S1
  | none => False
section
variable {X : Cx} {F I0 : Hp} {pos : Pos}
theorem n_disp {es : List Expr} {u : DA} (h : DAs F I0 X es u) : DN F I0 X (.List es pos) (NLst u) := by
  refine (pe_lst h).weak fun σ H Q ⟨ρ, S, I, Q0, R, h, post⟩ => ⟨ρ, S, I, _, R, h, fun xs H1 rs ρ1 S1 I1 l1 R1 rr q => ?_⟩
  split at q
  · rename_i ps e
    have t := vals_of rr e
    exact ⟨by rw [← t.length]; exact q.1, fun p hp => post p _ (.lst ps) _ _ _ _ l1 (R1.unused hp).1 (R1.toF (u := .lst xs) hp) ⟨xs, upd_same, t⟩ q.2⟩
  · exact q.elim
end

/-! ### sources as expressions -/
def ISeq (T : DT) : DSrc := fun ρ S Q => T ρ S fun r ρ1 S1 => match r with
  | .v (.ref a) => match S1 a with
    | some (.lst xs) => Q xs (fun _ S2 => S2 a = some (.lst xs)) ρ1 S1
    | _ => False
  | .v p => match asI p with
    | some ps => Q ps Tr ρ1 S1
    | none => False
  | .loc _ => False
def IEn (A : DA) : DSrc := fun ρ S Q => A ρ S fun rs ρ1 S1 => match rs with
  | [.v p] => match asI p with
    | some ps => Q (enumP 0 ps) Tr ρ1 S1
    | none => False
  | _ => False
def IZi (A : DA) : DSrc := fun ρ S Q => A ρ S fun rs ρ1 S1 => match rs with
  | [.v p, .v q] => match asI p, asI q with
    | some ps, some qs => Q (zipP ps qs) Tr ρ1 S1
    | _, _ => False
  | _ => False
def smallI (i : Int) : Prop := -(2 ^ 62) ≤ i ∧ i < 2 ^ 62
def IR1 (A : DA) : DSrc := fun ρ S Q => A ρ S fun rs ρ1 S1 => match rs with
  | [.v (.int j)] => smallI j ∧ Q (rangeP 0 j.toNat) Tr ρ1 S1
  | _ => False
def IR2 (A : DA) : DSrc := fun ρ S Q => A ρ S fun rs ρ1 S1 => match rs with
  | [.v (.int i), .v (.int j)] => smallI i ∧ smallI j ∧ Q (rangeP i (j - i).toNat) Tr ρ1 S1
  | _ => False
section
variable {X : Cx} {F I0 : Hp} {tg e e2 : Expr} {T : DT} {A : DA} {p pos tpos : Pos} {elts : List Expr} {kk : Nat}
theorem walkL {G : Gm} {I : Hp} {a : Addr} {xs : List P} : WalkD G I (Itl G.K a) xs (fun _ S => S a = some (.lst xs)) where
  goes := fun i ρ S I1 σ H l R st hi => by
    obtain ⟨⟨vs, h1, t⟩, _⟩ := R.sr.st a _ st
    obtain ⟨x, hx, _⟩ := t.get (List.getElem?_eq_getElem hi)
    exact ⟨vs, x, SqL.of h1, hx⟩
  stops := fun ρ S I1 σ H l R st => by
    obtain ⟨⟨vs, h1, t⟩, _⟩ := R.sr.st a _ st
    exact ⟨vs, SqL.of h1, by rw [t.length]; exact Nat.le_refl _⟩
  ylds := fun i ρ S I1 σ H x H' l R st hi y => by
    obtain ⟨⟨vs, h1, t⟩, _⟩ := R.sr.st a _ st
    obtain ⟨rfl, k⟩ := y
    obtain ⟨p, hp, r⟩ := t.get' (k vs (SqL.of h1))
    exact ⟨p, I1, hp, Le.refl, R, r⟩
theorem i_seq (h : DE F I0 X e T) : DI F I0 X tg e (ISeq T) := by
  refine ⟨fun pins s σ H Rz J q => ?_⟩
  obtain ⟨ρ, S, I, Q0, R, q, post⟩ := q
  refine thn (h.run pins s σ H (fun x H1 => ∃ r ρ1 S1 I1, Le I I1 ∧ Rel (gm F I0 X) ρ1 S1 I1 σ H1 ∧ RR (gm F I0 X) I1 σ r x ∧ (match r with
      | .v (.ref a) => match S1 a with
        | some (.lst xs) => Q0 xs (fun _ S2 => S2 a = some (.lst xs)) ρ1 S1
        | _ => False
      | .v p => match asI p with
        | some ps => Q0 ps Tr ρ1 S1
        | none => False
      | .loc _ => False)) J ⟨ρ, S, I, _, R, q, fun x H' r ρ' S' I' l R' rr q => ⟨r, ρ', S', I', l, R', rr, q⟩⟩) fun v s1 ⟨x, H1, J1, rx, r, ρ1, S1, I1, l, R1, rr, q⟩ => ?_
  split at q
  · rename_i a
    split at q
    · rename_i xs e
      cases rr; cases rx
      obtain ⟨⟨vs, h1, t⟩, _⟩ := R1.sr.st a _ e
      obtain ⟨its, rv, pl, hz⟩ := J1.list (SqL.of h1)
      refine wpAny_pyIter_list pl.isList ?_
      exact pi_one (tk := s1.toks) J1 _ (turn_list a _) ⟨_, Heap.get?_push_size _ rfl, rfl, rfl⟩ (post _ _ _ _ _ _ _ l R1 (fun F' => walkL) q)
    · exact q.elim
  · rename_i p _
    split at q
    · rename_i ps e
      obtain ⟨ob, adr, vs, Sx, own, sr, hs, t⟩ := src_of (G := gm F I0 X) rr e rx
      exact pie1 sr J1 (hs H1 R1.sr.imm) (post _ _ _ _ _ _ _ l R1 (fun F' => walk1 hs (RPs.gm { gm F I0 X with F := F' } t rfl)) q)
    · exact q.elim
  · exact q.elim
theorem i_en (hg : Gl X "enumerate") (hm : X.mg "enumerate" = none) (ha : DAs F I0 X [e] A) (hs : starEach [e] X.env = [(false, eval e X.env)] := by rfl) : DI F I0 X (.Tuple elts kk tpos) (.Call (.Name "enumerate" p) [e] [] pos) (IEn A) := by
  refine ⟨fun pins s σ H Rz J q => ?_⟩
  obtain ⟨ρ, S, I, Q0, R, q, post⟩ := q
  refine PyProof.Rows.Call_ (ld_blt J hg hm PyProof.Rows.boot_enumerate (PyProof.Rows.callWith_type1 (thn (ha.run pos pins s σ H (fun xs H1 => ∃ rs ρ1 S1 I1, Le I I1 ∧ Rel (gm F I0 X) ρ1 S1 I1 σ H1 ∧ RRs (gm F I0 X) I1 σ rs xs ∧ (match rs with
      | [.v p] => match asI p with
        | some ps => Q0 (enumP 0 ps) Tr ρ1 S1
        | none => False
      | _ => False)) J ⟨ρ, S, I, _, R, q, fun x H' r ρ' S' I' l R' rr q => ⟨r, ρ', S', I', l, R', rr, q⟩⟩) fun us s1 ⟨xs, H1, J1, rx, rs, ρ1, S1, I1, l, R1, rr, q⟩ => ?_) hs rfl))
  split at q
  · split at q
    · rename_i p _ ps e
      obtain ⟨x, _, rfl, h1, rfl⟩ := rr
      obtain ⟨u, rfl, ru⟩ := rx.one
      obtain ⟨ob, adr, vs, Sx, own, sr, hs, t⟩ := src_of (G := gm F I0 X) h1 e ru
      exact pieE sr J1 (hs H1 R1.sr.imm) (post _ _ _ _ _ _ _ l R1 (fun F' => walkE hs (RPs.gm { gm F I0 X with F := F' } t rfl)) q)
    · exact q.elim
  · exact q.elim
theorem i_zi (hg : Gl X "zip") (hm : X.mg "zip" = none) (ha : DAs F I0 X [e, e2] A) (hs : starEach [e, e2] X.env = (false, eval e X.env) :: starEach [e2] X.env := by rfl) (hpl : (backTo pos (starEach [e2] X.env)).any (·.1) = false := by rfl) :
    DI F I0 X (.Tuple elts kk tpos) (.Call (.Name "zip" p) [e, e2] [] pos) (IZi A) := by
  refine ⟨fun pins s σ H Rz J q => ?_⟩
  obtain ⟨ρ, S, I, Q0, R, q, post⟩ := q
  refine PyProof.Rows.Call_ (ld_blt J hg hm PyProof.Rows.boot_zip (PyProof.Rows.callWith_type1 (thn (ha.run pos pins s σ H (fun xs H1 => ∃ rs ρ1 S1 I1, Le I I1 ∧ Rel (gm F I0 X) ρ1 S1 I1 σ H1 ∧ RRs (gm F I0 X) I1 σ rs xs ∧ (match rs with
      | [.v p, .v q] => match asI p, asI q with
        | some ps, some qs => Q0 (zipP ps qs) Tr ρ1 S1
        | _, _ => False
      | _ => False)) J ⟨ρ, S, I, _, R, q, fun x H' r ρ' S' I' l R' rr q => ⟨r, ρ', S', I', l, R', rr, q⟩⟩) fun us s1 ⟨xs, H1, J1, rx, rs, ρ1, S1, I1, l, R1, rr, q⟩ => ?_) hs hpl))
  split at q
  · split at q
    · rename_i p p' _ _ ps qs e e'
      obtain ⟨x, _, rfl, h1, y, _, rfl, h2, rfl⟩ := rr
      obtain ⟨u, u', rfl, ru, ru'⟩ := rx.two
      obtain ⟨ob, adr, vs, Sx, own, sr, hs, t⟩ := src_of (G := gm F I0 X) h1 e ru
      obtain ⟨ob', adr', vs', Sx', own', sr', hs', t'⟩ := src_of (G := gm F I0 X) h2 e' ru'
      exact pieZ sr sr' J1 (hs H1 R1.sr.imm) (hs' H1 R1.sr.imm) (post _ _ _ _ _ _ _ l R1 (fun F' => walkZ hs hs' (RPs.gm { gm F I0 X with F := F' } t rfl) (RPs.gm { gm F I0 X with F := F' } t' rfl)) q)
    · exact q.elim
  · exact q.elim
theorem _root_.L2.PI.weak {X : Cx} {tg e : Expr} {t t' : TI} (h : PI X tg e t) (k : ∀ σ H Q, t' σ H Q → t σ H Q) : PI X tg e t' := ⟨fun p s σ H Q I q => h.run p s σ H Q I (k _ _ _ q)⟩
theorem i_r1 (hg : Gl X "range") (hm : X.mg "range" = none) (ha : DAs F I0 X [e] A) (hs : starEach [e] X.env = [(false, eval e X.env)] := by rfl) : DI F I0 X tg (.Call (.Name "range" p) [e] [] pos) (IR1 A) := by
  refine (pi_range1 hg hm ha hs).weak fun σ H Rz ⟨ρ, S, I, Q0, R, q, post⟩ => ⟨ρ, S, I, _, R, q, fun xs H' rs ρ' S' I' l R' rr q => ?_⟩
  split at q
  · rename_i j
    obtain ⟨x, _, rfl, h1, rfl⟩ := rr
    cases h1
    exact ⟨j, rfl, q.1.1, q.1.2, post _ _ _ _ _ _ _ l R' (fun F' => walkR) q.2⟩
  · exact q.elim
theorem i_r2 (hg : Gl X "range") (hm : X.mg "range" = none) (ha : DAs F I0 X [e, e2] A) (hs : starEach [e, e2] X.env = [(false, eval e X.env), (false, eval e2 X.env)] := by rfl) (hs2 : starEach [e2] X.env = [(false, eval e2 X.env)] := by rfl) : DI F I0 X tg (.Call (.Name "range" p) [e, e2] [] pos) (IR2 A) := by
  refine (pi_range2 hg hm ha hs hs2).weak fun σ H Rz ⟨ρ, S, I, Q0, R, q, post⟩ => ⟨ρ, S, I, _, R, q, fun xs H' rs ρ' S' I' l R' rr q => ?_⟩
  split at q
  · rename_i i j
    obtain ⟨x, _, rfl, h1, y, _, rfl, h2, rfl⟩ := rr
    cases h1; cases h2
    exact ⟨i, j, rfl, ⟨q.1.1, q.1.2, q.2.1.1, q.2.1.2⟩, post _ _ _ _ _ _ _ l R' (fun F' => walkR) q.2.2⟩
  · exact q.elim
end
end D
/-! D7: targets, statements, loops, comprehensions, methods; by deep values. -/
namespace D
open PySem PySem.Spec L2

/-! ### targets -/
abbrev DG := P → Env → Store → (Env → Store → Prop) → Prop
abbrev DGs := List P → Env → Store → (Env → Store → Prop) → Prop
/-- the other slots stay -/
structure Only (W : Nat → Bool) (σ σ' : L2.St) : Prop where
  len : σ'.length = σ.length
  keep : ∀ i, W i = false → σ'[i]? = σ[i]?
theorem Only.refl {W : Nat → Bool} {σ : L2.St} : Only W σ σ := ⟨rfl, fun _ _ => rfl⟩
theorem Only.trans {W : Nat → Bool} {σ σ' σ2 : L2.St} (h : Only W σ σ') (k : Only W σ' σ2) : Only W σ σ2 := ⟨k.len.trans h.len, fun i e => (k.keep i e).trans (h.keep i e)⟩
abbrev WA : Nat → Bool := fun _ => true
def trG (G : Gm) (W : Nat → Bool) (T : DG) : TG := fun x σ H Q => ∃ (ρ : Env) (S : Store) (I : Hp) (p : P) (Q0 : Env → Store → Prop), Rel G ρ S I σ H ∧ RP G I p x ∧ T p ρ S Q0 ∧
  ∀ σ' H' ρ' S' I', Only W σ σ' → Le I I' → Rel G ρ' S' I' σ' H' → Q0 ρ' S' → Q σ' H'
def trGs (G : Gm) (W : Nat → Bool) (T : DGs) : TGs := fun xs σ H Q => ∃ (ρ : Env) (S : Store) (I : Hp) (ps : List P) (Q0 : Env → Store → Prop), Rel G ρ S I σ H ∧ RPs G I ps xs ∧ T ps ρ S Q0 ∧
  ∀ σ' H' ρ' S' I', Only W σ σ' → Le I I' → Rel G ρ' S' I' σ' H' → Q0 ρ' S' → Q σ' H'
abbrev DGt (F I0 : Hp) (X : Cx) (W : Nat → Bool) (tg : Expr) (T : DG) : Prop := PG X tg (trG (gm F I0 X) W T)
abbrev DGts (F I0 : Hp) (X : Cx) (W : Nat → Bool) (tg : List Expr) (T : DGs) : Prop := PGs X tg (trGs (gm F I0 X) W T)
theorem _root_.L2.PG.weak {X : Cx} {tg : Expr} {t t' : TG} (h : PG X tg t) (k : ∀ v σ H Q, t' v σ H Q → t v σ H Q) : PG X tg t' := ⟨fun p s σ H v u Q I r q => h.run p s σ H v u Q I r (k _ _ _ _ q)⟩
theorem _root_.L2.PGs.weak {X : Cx} {tg : List Expr} {t t' : TGs} (h : PGs X tg t) (k : ∀ v σ H Q, t' v σ H Q → t v σ H Q) : PGs X tg t' := ⟨fun p s σ H v u Q I r q => h.run p s σ H v u Q I r (k _ _ _ _ q)⟩
def GN (i : Nat) : DG := fun p ρ S Q => Q (ρ.set i (.v p)) S
def GNil : DGs := fun ps ρ S Q => match ps with
  | [] => Q ρ S
  | _ => False
def GCons (t : DG) (u : DGs) : DGs := fun ps ρ S Q => match ps with
  | p :: r => t p ρ S fun ρ1 S1 => u r ρ1 S1 Q
  | [] => False
def GT (n : Nat) (t : DGs) : DG := fun p ρ S Q => match p with
  | .tup ps => ps.length = n ∧ t ps ρ S Q
  | _ => False
/-- o[i] = p, o a list of the store or of a slot -/
def setD : R → R → P → Env → Store → (Env → Store → Prop) → Prop
  | .v (.ref a), .v (.int k), p, ρ, S, Q => match S a with
    | some (.lst xs) => match ixN xs.length k with
      | some j => Q ρ (ups S a (.lst (xs.set j p)))
      | none => False
    | _ => False
  | .loc i, .v (.int k), p, ρ, S, Q => match ρ[i]? with
    | some (.own (.lst xs)) => match ixN xs.length k with
      | some j => Q (ρ.set i (.own (.lst (xs.set j p)))) S
      | none => False
    | _ => False
  | _, _, _, _, _, _ => False
def GS (To Ti : DT) : DG := fun p ρ S Q => To ρ S fun o ρ1 S1 => Ti ρ1 S1 fun i ρ2 S2 => setD o i p ρ2 S2 Q
/-- what the store of o[i] does -/
abbrev stSub (o i : Expr) (pos : Pos) (env : PySem.Env) (z : Value) : Sem Unit := do
  let a ← holding [z] (eval o env)
  let b ← holding [z, a] (eval i env)
  standAt pos
  holding [z, a, b] (setItem a b z)
  release [z, a, b] []
section
variable {X : Cx} {F I0 : Hp} {pos : Pos} {W : Nat → Bool}
theorem g_n {i : Nat} {x : Str} (hw : W i = true) (hN : X.N.Nodup) (hi : X.N[i]? = some x) (hx : Loc X.env.scope x) (hf : X.fn x = true ∨ X.env.scope.names.lookup x = some .local := by first | exact .inl rfl | exact .inr rfl | assumption) : DGt F I0 X W (.Name x pos) (GN i) := by
  refine (pg_name hN hi hx hf).weak fun v σ H Q ⟨ρ, S, I, p, Q0, R, rp, q, post⟩ => ?_
  exact post _ _ _ _ _ ⟨List.length_set, fun j e => List.getElem?_set_ne (by rintro rfl; rw [hw] at e; cases e)⟩ Le.refl (R.put rp) q
theorem gs_nil : DGts F I0 X W [] GNil := by
  refine pgs_nil.weak fun v σ H Q ⟨ρ, S, I, p, Q0, R, rp, q, post⟩ => ?_
  unfold GNil at q
  split at q
  · exact ⟨rp, post _ _ _ _ _ .refl Le.refl R q⟩
  · exact q.elim
theorem gs_cons {e : Expr} {es : List Expr} {t : DG} {u : DGs} (h1 : DGt F I0 X W e t) (h2 : DGts F I0 X W es u) (hs : (assignEach (e :: es) X.env).map (·.2) = assign e X.env :: (assignEach es X.env).map (·.2) := by rfl) : DGts F I0 X W (e :: es) (GCons t u) := by
  refine (pgs_cons h1 h2 hs).weak fun v σ H Q ⟨ρ, S, I, p, Q0, R, rp, q, post⟩ => ?_
  unfold GCons at q
  split at q
  · rename_i p r
    obtain ⟨x, xs, rfl, h3, h4⟩ := rp
    refine ⟨x, xs, rfl, ρ, S, I, p, _, R, h3, q, fun σ1 H1 ρ1 S1 I1 o1 l1 R1 q1 => ⟨ρ1, S1, I1, r, _, R1, RPs.mono l1 _ _ h4, q1, fun σ2 H2 ρ2 S2 I2 o2 l2 R2 q2 => post _ _ _ _ _ (o1.trans o2) (l1.trans l2) R2 q2⟩⟩
  · exact q.elim
theorem g_t {es : List Expr} {k : Nat} {t : DGs} {n : Nat} (hc : X.calm = true) (h : DGts F I0 X W es t) (hn : (assignEach es X.env).length = n := by rfl) (hst : (assignEach es X.env).findIdx? (·.1) = none := by rfl) : DGt F I0 X W (.Tuple es k pos) (GT n t) := by
  refine (pg_tup hc h hn hst).weak fun v σ H Q ⟨ρ, S, I, p, Q0, R, rp, q, post⟩ => ?_
  unfold GT at q
  split at q
  · obtain ⟨a, vs, rfl, h1, t1⟩ := rp
    exact ⟨a, vs, rfl, R.sr.imm.sqt h1, by rw [← t1.length]; exact q.1, ρ, S, I, _, _, R, t1, q.2, post⟩
  · exact q.elim
theorem g_s {o i : Expr} {To Ti : DT} (ho : DE F I0 X o To) (hi : DE F I0 X i Ti) (ha : ∀ v, assign (.Subscript o i pos) X.env v = stSub o i pos X.env v := by intro _; rfl) : DGt F I0 X W (.Subscript o i pos) (GS To Ti) := by
  refine (pg_sub ho hi set_list ha).weak fun v σ H Q ⟨ρ, S, I, p, Q0, R, rp, q, post⟩ => ?_
  refine ⟨ρ, S, I, _, R, q, fun x H1 r ρ1 S1 I1 l1 R1 rr q1 => ⟨ρ1, S1, I1, _, R1, q1, fun y H2 r2 ρ2 S2 I2 l2 R2 rr2 q2 => ?_⟩⟩
  have rp2 := RP.mono (l1.trans l2) _ _ rp
  have rr := rr.mono l2
  have hset : ∀ {a : Addr} {k : Int} {xs : List P} {j : Nat}, x = .ref a → y = .int k → S2 a = some (.lst xs) → ixN xs.length k = some j → Q0 ρ2 (ups S2 a (.lst (xs.set j p))) → rSetL x y v H2 fun H3 => Q σ H3 := by
    rintro a k xs j rfl rfl e hj q2
    obtain ⟨⟨vs, h1, t⟩, _⟩ := R2.sr.st a _ e
    exact ⟨a, vs, k, j, rfl, rfl, h1, by rw [← t.length]; exact hj, post _ _ _ _ _ .refl (l1.trans l2) (R2.setSt e (o' := .lst (xs.set j p)) ⟨_, upd_same, t.set rp2 j⟩) q2⟩
  have hown : ∀ {i : Nat} {k : Int} {xs : List P} {j : Nat}, σ[i]? = some (some x) → y = .int k → ρ2[i]? = some (.own (.lst xs)) → ixN xs.length k = some j → Q0 (ρ2.set i (.own (.lst (xs.set j p)))) S2 → rSetL x y v H2 fun H3 => Q σ H3 := by
    rintro i k xs j rr rfl e hj q2
    obtain ⟨a, h0, ⟨vs, h1, t⟩, _⟩ := R2.ow i _ e
    have : some (some x) = some (some (V.ref a)) := rr.symm.trans h0
    cases this
    exact ⟨a, vs, k, j, rfl, rfl, h1, by rw [← t.length]; exact hj, post _ _ _ _ _ .refl (l1.trans l2) (R2.setOwn e h0 (o' := .lst (xs.set j p)) ⟨_, upd_same, t.set rp2 j⟩) q2⟩
  unfold setD at q2
  split at q2
  · split at q2
    · split at q2
      · exact hset rr rr2 (by assumption) (by assumption) q2
      · exact q2.elim
    · exact q2.elim
  · split at q2
    · split at q2
      · exact hown rr rr2 (by assumption) (by assumption) q2
      · exact q2.elim
    · exact q2.elim
  · exact q2.elim
end

/-! ### statements -/
def SNext : DS := fun D ρ S => D.nx ρ S
def SSeq (t u : DS) : DS := fun D ρ S => t { D with nx := u D } ρ S
def SExpr (T : DT) : DS := fun D ρ S => T ρ S fun _ ρ1 S1 => D.nx ρ1 S1
def SRet (T : DT) : DS := fun D ρ S => T ρ S fun r _ S1 => match r with
  | .v p => D.rt p S1
  | .loc _ => False
def SRetN : DS := fun D _ S => D.rt .non S
def SIf (B : DB) (t u : DS) : DS := fun D ρ S => B ρ S fun b ρ1 S1 => if b = true then t D ρ1 S1 else u D ρ1 S1
def SAsg (T : DT) (g : DG) : DS := fun D ρ S => T ρ S fun r ρ1 S1 => match r with
  | .v p => g p ρ1 S1 D.nx
  | .loc _ => False
/-- a new object for a slot -/
def SOwn (i : Nat) (T : DNw) : DS := fun D ρ S => T ρ S fun o ρ1 S1 => D.nx (ρ1.set i (.own o)) S1
def SBrk : DS := fun D ρ S => D.bk ρ S
def SCnt : DS := fun D ρ S => D.ct ρ S
/-- the items one by one -/
def forL (St : Env → Store → Prop) (g : DG) (body : DS) (D : DEnds) : List P → Env → Store → Prop
  | [], ρ, S => St ρ S ∧ D.nx ρ S
  | p :: ps, ρ, S => St ρ S ∧ g p ρ S fun ρ2 S2 => body { D with nx := forL St g body D ps, ct := forL St g body D ps, bk := D.nx } ρ2 S2
def SFor (src : DSrc) (g : DG) (body : DS) : DS := fun D ρ S => src ρ S fun ps St ρ1 S1 => forL St g body D ps ρ1 S1
/-- by an invariant and a measure -/
def SWhile (B : DB) (body : DS) : DS := fun D ρ S => ∃ W : Nat → Env → Store → Prop, (∃ m, W m ρ S) ∧ ∀ m ρ S, W m ρ S → B ρ S fun b ρ1 S1 =>
  if b = true then body { D with nx := fun ρ' S' => ∃ m', m' < m ∧ W m' ρ' S', ct := fun ρ' S' => ∃ m', m' < m ∧ W m' ρ' S', bk := D.nx } ρ1 S1 else D.nx ρ1 S1
def ipD (op : R → R → Env → Store → K1 → Prop) (i : Nat) (T : DT) : DS := fun D ρ S => match ρ[i]? with
  | some (.v p) => T ρ S fun r ρ1 S1 => op (.v p) r ρ1 S1 fun z => D.nx (ρ1.set i (.v z)) S1
  | _ => False
section
variable {X : Cx} {F I0 : Hp} {pos : Pos} {e : Expr} {T : DT} {t u : DS} {st : Stmt} {rest : List Stmt} {B : DB}
theorem s_next : DSs F I0 X [] SNext := pss_nil.weak fun D σ H ⟨ρ, S, I, D0, R, q, h1, h2, h3, h4⟩ => h1 _ _ _ _ _ Le.refl R q
theorem s_pass : DSt F I0 X (.Pass pos) SNext := ps_pass.weak fun D σ H ⟨ρ, S, I, D0, R, q, h1, h2, h3, h4⟩ => h1 _ _ _ _ _ Le.refl R q
theorem s_brk : DSt F I0 X (.Break pos) SBrk := ps_break.weak fun D σ H ⟨ρ, S, I, D0, R, q, h1, h2, h3, h4⟩ => h3 _ _ _ _ _ Le.refl R q
theorem s_cnt : DSt F I0 X (.Continue pos) SCnt := ps_continue.weak fun D σ H ⟨ρ, S, I, D0, R, q, h1, h2, h3, h4⟩ => h4 _ _ _ _ _ Le.refl R q
theorem s_one (h : DSt F I0 X st t) : DSs F I0 X [st] t := pss_one h
theorem s_doc {x : Str} {j : Nat} {p2 : Pos} : DSt F I0 X (.Expr (.Constant (.str x) j pos) p2) SNext := ps_doc.weak fun D σ H ⟨ρ, S, I, D0, R, q, h1, h2, h3, h4⟩ => h1 _ _ _ _ _ Le.refl R q
/-- the ends seen from a later place -/
theorem trS.at {G : Gm} {T : DS} {D : Ends} {σ : L2.St} {H : Hp} {ρ : Env} {S : Store} {I I' : Hp} {D0 : DEnds} (l : Le I I') (R : Rel G ρ S I' σ H) (q : T D0 ρ S)
    (h1 : ∀ σ' H' ρ' S' I', Le I I' → Rel G ρ' S' I' σ' H' → D0.nx ρ' S' → D.nx σ' H') (h2 : ∀ x H' p S' I', Le I I' → StR G S' I' H' → RP G I' p x → D0.rt p S' → D.rt x H')
    (h3 : ∀ σ' H' ρ' S' I', Le I I' → Rel G ρ' S' I' σ' H' → D0.bk ρ' S' → D.bk σ' H') (h4 : ∀ σ' H' ρ' S' I', Le I I' → Rel G ρ' S' I' σ' H' → D0.ct ρ' S' → D.ct σ' H') : trS G T D σ H :=
  ⟨ρ, S, I', D0, R, q, fun σ' H' ρ' S' I2 l2 => h1 _ _ _ _ _ (l.trans l2), fun x H' p S' I2 l2 => h2 _ _ _ _ _ (l.trans l2), fun σ' H' ρ' S' I2 l2 => h3 _ _ _ _ _ (l.trans l2), fun σ' H' ρ' S' I2 l2 => h4 _ _ _ _ _ (l.trans l2)⟩
theorem s_cons (h1 : DSt F I0 X st t) (h2 : DSs F I0 X rest u) : DSs F I0 X (st :: rest) (SSeq t u) := by
  refine (pss_cons h1 h2).weak fun D σ H ⟨ρ, S, I, D0, R, q, h1, h2, h3, h4⟩ => ?_
  exact ⟨ρ, S, I, _, R, q, fun σ' H' ρ' S' I' l R' q => trS.at l R' q h1 h2 h3 h4, h2, h3, h4⟩
theorem s_expr (h : DE F I0 X e T) (hs : swapsWith e none pos.line X.env = pure false := by rfl) : DSt F I0 X (.Expr e pos) (SExpr T) := by
  refine (ps_expr h hs).weak fun D σ H ⟨ρ, S, I, D0, R, q, h1, h2, h3, h4⟩ => ?_
  exact ⟨ρ, S, I, _, R, q, fun x H' r ρ' S' I' l R' rr q => h1 _ _ _ _ _ l R' q⟩
theorem s_ret (h : DE F I0 X e T) : DSt F I0 X (.Return (some e) pos) (SRet T) := by
  refine (ps_ret h).weak fun D σ H ⟨ρ, S, I, D0, R, q, h1, h2, h3, h4⟩ => ?_
  refine ⟨ρ, S, I, _, R, q, fun x H' r ρ' S' I' l R' rr q => ?_⟩
  split at q
  · exact h2 _ _ _ _ _ l R'.sr rr q
  · exact q.elim
theorem s_retN : DSt F I0 X (.Return none pos) SRetN := ps_retN.weak fun D σ H ⟨ρ, S, I, D0, R, q, h1, h2, h3, h4⟩ => h2 _ _ _ _ _ Le.refl R.sr (RP.mkN : RP (gm F I0 X) I .non .non) q
theorem s_if {c : Expr} {a b : List Stmt} (hc : DTs F I0 X c B) (ha : DSs F I0 X a t) (hb : DSs F I0 X b u) : DSt F I0 X (.If c a b pos) (SIf B t u) := by
  refine (ps_if hc ha hb).weak fun D σ H ⟨ρ, S, I, D0, R, q, h1, h2, h3, h4⟩ => ?_
  refine ⟨ρ, S, I, _, R, q, fun c H' ρ' S' I' l R' q => ?_⟩
  cases c with
  | true => exact trS.at l R' q h1 h2 h3 h4
  | false => exact trS.at l R' q h1 h2 h3 h4
theorem s_asg {tg : Expr} {g : DG} (h : DE F I0 X e T) (hg : DGt F I0 X WA tg g) (hs : swapsWithSole [tg] e pos.line X.env = pure false := by rfl) (hw : swappedStores [tg] e X.env = pure none := by rfl)
    (ha : (assignEach [tg] X.env).map (·.2) = [assign tg X.env] := by rfl) : DSt F I0 X (.Assign [tg] e pos) (SAsg T g) := by
  refine (ps_asg h hg hs hw ha).weak fun D σ H ⟨ρ, S, I, D0, R, q, h1, h2, h3, h4⟩ => ?_
  refine ⟨ρ, S, I, _, R, q, fun x H' r ρ' S' I' l R' rr q => ?_⟩
  split at q
  · rename_i p
    exact ⟨ρ', S', I', p, _, R', rr, q, fun σ2 H2 ρ2 S2 I2 _ l2 R2 q2 => h1 _ _ _ _ _ (l.trans l2) R2 q2⟩
  · exact q.elim
theorem own_asg {T : DNw} {i : Nat} {D : Ends} {σ : L2.St} {H : Hp} (h : trS (gm F I0 X) (SOwn i T) D σ H) : tAsg (trN (gm F I0 X) T) (gName i) D σ H := by
  obtain ⟨ρ, S, I, D0, R, q, h1, h2, h3, h4⟩ := h
  refine ⟨ρ, S, I, _, R, q, fun A H' o u ρ' S' I' l hF R' ho q => ?_⟩
  exact h1 _ _ _ _ _ l (R'.heldO hF (ho.gm (G' := gm F I0 X) rfl) i) q
theorem s_own {T : DNw} {i : Nat} {x : Str} {p2 : Pos} (hN : X.N.Nodup) (hi : X.N[i]? = some x) (hx : Loc X.env.scope x) (he : DN F I0 X e T) (hs : swapsWith e (some (.Name x p2)) pos.line X.env = pure false := by rfl) (hf : X.fn x = true ∨ X.env.scope.names.lookup x = some .local := by first | exact .inl rfl | exact .inr rfl | assumption) :
    DSt F I0 X (.Assign [.Name x p2] e pos) (SOwn i T) := (ps_set hN hi hx he hs hf).weak fun D σ H h => own_asg h
theorem s_for {tg iter : Expr} {body : List Stmt} {src : DSrc} {g : DG} {t : DS} (hp : PassesOwn (model X.prog X.w) X.A X.env X.xe) (hc : X.calm = true) (hi : DI F I0 X tg iter src) (hg : DGt F I0 X WA tg g) (hb : DSs F I0 X body t)
    (hs : ∀ x, foldedSetIterable iter X.env x = pure x := by intro _; rfl) : DSt F I0 X (.For tg iter body [] pos) (SFor src g t) := by
  refine (ps_for hp hc hi hg hb hs).weak fun D σ H ⟨ρ, S, I, D0, R, q, h1, h2, h3, h4⟩ => ?_
  refine ⟨ρ, S, I, _, R, q, fun J H1 ρ1 S1 I1 ps St l1 R1 w q1 => ?_⟩
  have w := w F
  refine ⟨fun i m σ H => ∃ qs ρ S I, m = qs.length ∧ i + qs.length = ps.length ∧ ps.drop i = qs ∧ Le I1 I ∧ Rel (gm F I0 X) ρ S I σ H ∧ forL St g t D0 qs ρ S, ⟨ps.length, ps, ρ1, S1, I1, rfl, by simp, rfl, Le.refl, R1, q1⟩, ?_⟩
  rintro i m σ H ⟨qs, ρ, S, I2, rfl, hl, hd, l2, R2, q2⟩
  cases qs with
  | nil =>
    obtain ⟨hst, q2⟩ := q2
    have e : i = ps.length := by simpa using hl
    subst e
    exact .inl ⟨w.stops ρ S I2 σ H l2 R2 hst, h1 _ _ _ _ _ (l1.trans l2) R2 q2⟩
  | cons p qs =>
    obtain ⟨hst, q2⟩ := q2
    have hi' : i < ps.length := by simp at hl; omega
    have hp' : ps[i]? = some p ∧ ps.drop (i + 1) = qs := by
      have e := List.drop_eq_getElem_cons hi'
      rw [hd] at e
      injection e with e1 e2
      exact ⟨by rw [List.getElem?_eq_getElem hi', e1], e2.symm⟩
    refine .inr ⟨w.goes i ρ S I2 σ H l2 R2 hst hi', fun σ' H' => ∃ m', m' < (p :: qs).length ∧ ∃ qs' ρ S I, m' = qs'.length ∧ i + 1 + qs'.length = ps.length ∧ ps.drop (i + 1) = qs' ∧ Le I1 I ∧ Rel (gm F I0 X) ρ S I σ' H' ∧ forL St g t D0 qs' ρ S, fun σ' H' h => h, fun x H' y => ?_⟩
    obtain ⟨p', I3, hp2, l3, R3, rp⟩ := w.ylds i ρ S I2 σ H x H' l2 R2 hst hi' y
    rw [hp'.1] at hp2; cases hp2
    refine ⟨ρ, S, I3, p, _, R3, rp, q2, fun σ4 H4 ρ4 S4 I4 _ l4 R4 q4 => ?_⟩
    have l5 : Le I1 I4 := l2.trans (l3.trans l4)
    have go : ∀ σ' H' ρ' S' I', Le I4 I' → Rel (gm F I0 X) ρ' S' I' σ' H' → forL St g t D0 qs ρ' S' → ∃ m', m' < (p :: qs).length ∧ ∃ qs' ρ S I, m' = qs'.length ∧ i + 1 + qs'.length = ps.length ∧ ps.drop (i + 1) = qs' ∧ Le I1 I ∧ Rel (gm F I0 X) ρ S I σ' H' ∧ forL St g t D0 qs' ρ S :=
      fun σ' H' ρ' S' I' l R' q' => ⟨qs.length, Nat.lt_succ_self _, qs, ρ', S', I', rfl, by simp at hl; omega, hp'.2, l5.trans l, R', q'⟩
    exact ⟨ρ4, S4, I4, _, R4, q4, go, fun x H' p S' I' l => h2 _ _ _ _ _ (l1.trans (l5.trans l)), fun σ' H' ρ' S' I' l R' q' => h1 _ _ _ _ _ (l1.trans (l5.trans l)) R' q', go⟩
theorem s_while {c : Expr} {body : List Stmt} {t : DS} (hp : PassesOwn (model X.prog X.w) X.A X.env X.xe) (hc : DTs F I0 X c B) (hb : DSs F I0 X body t) : DSt F I0 X (.While c body [] pos) (SWhile B t) := by
  refine (ps_while hp hc hb).weak fun D σ H ⟨ρ, S, I, D0, R, q, h1, h2, h3, h4⟩ => ?_
  obtain ⟨W, ⟨m0, w0⟩, turn⟩ := q
  refine ⟨fun m σ H => ∃ ρ S I', Le I I' ∧ Rel (gm F I0 X) ρ S I' σ H ∧ W m ρ S, ⟨m0, ρ, S, I, Le.refl, R, w0⟩, ?_⟩
  rintro m σ H ⟨ρ, S, I1, l1, R1, w⟩
  refine ⟨ρ, S, I1, _, R1, turn m ρ S w, fun b H2 ρ2 S2 I2 l2 R2 q2 => ?_⟩
  have l3 := l1.trans l2
  cases b with
  | true =>
    refine ⟨_, fun σ' H' h => h, ?_⟩
    have go : ∀ σ' H' ρ' S' I', Le I2 I' → Rel (gm F I0 X) ρ' S' I' σ' H' → (∃ m', m' < m ∧ W m' ρ' S') → ∃ m', m' < m ∧ ∃ ρ S I', Le I I' ∧ Rel (gm F I0 X) ρ S I' σ' H' ∧ W m' ρ S :=
      fun σ' H' ρ' S' I' l R' ⟨m', hm, q'⟩ => ⟨m', hm, ρ', S', I', l3.trans l, R', q'⟩
    exact ⟨ρ2, S2, I2, _, R2, q2, go, fun x H' p S' I' l => h2 _ _ _ _ _ (l3.trans l), fun σ' H' ρ' S' I' l R' q' => h1 _ _ _ _ _ (l3.trans l) R' q', go⟩
  | false => exact h1 _ _ _ _ _ l3 R2 q2
end
end D
/-! D8: comprehensions, methods, in-place operators, unary minus; by deep values. -/
namespace D
open PySem PySem.Spec L2

/-! ### comprehensions -/
def wipeE (ρ : Env) : List Nat → Env
  | [] => ρ
  | v :: vs => (wipeE ρ vs).set v .un
theorem wipeE_length (ρ : Env) : ∀ vs : List Nat, (wipeE ρ vs).length = ρ.length
  | [] => rfl
  | v :: vs => by unfold wipeE; rw [List.length_set, wipeE_length ρ vs]
theorem wipeE_get {ρ : Env} : ∀ {vs : List Nat} {i : Nat} {s : Sl}, (wipeE ρ vs)[i]? = some s → s ≠ .un → ρ[i]? = some s ∧ i ∉ vs
  | [], _, _, h, _ => ⟨h, by simp⟩
  | v :: vs, i, s, h, hs => by
    unfold wipeE at h
    rcases set_cut h with ⟨_, q⟩ | ⟨c, h⟩
    · exact (hs q).elim
    · obtain ⟨h1, h2⟩ := wipeE_get h hs
      exact ⟨h1, by simp only [List.mem_cons, not_or]; exact ⟨fun e => c e.symm, h2⟩⟩
theorem wipe_get {σ : L2.St} : ∀ {vs : List Nat} {i : Nat}, i ∉ vs → (wipe σ vs)[i]? = σ[i]?
  | [], _, _ => rfl
  | v :: vs, i, h => by
    unfold wipe
    simp only [List.mem_cons, not_or] at h
    rw [List.getElem?_set_ne (fun e => h.1 e.symm), wipe_get h.2]
theorem wipeE_un {ρ : Env} : ∀ {vs : List Nat} {i : Nat}, i ∈ vs → i < ρ.length → (wipeE ρ vs)[i]? = some .un
  | v :: vs, i, h, hl => by
    unfold wipeE
    by_cases c : v = i
    · subst c; rw [List.getElem?_set_self (by rw [wipeE_length]; exact hl)]
    · rw [List.getElem?_set_ne c]
      exact wipeE_un ((List.mem_cons.mp h).resolve_left fun e => c e.symm) hl
theorem wipeE_off {ρ : Env} : ∀ {vs : List Nat} {i : Nat}, i ∉ vs → (wipeE ρ vs)[i]? = ρ[i]?
  | [], _, _ => rfl
  | v :: vs, i, h => by
    unfold wipeE
    simp only [List.mem_cons, not_or] at h
    rw [List.getElem?_set_ne (fun e => h.1 e.symm), wipeE_off h.2]
theorem wipeE_twice (ρ : Env) (vs : List Nat) : wipeE (wipeE ρ vs) vs = wipeE ρ vs := by
  refine List.ext_getElem? fun i => ?_
  by_cases c : i ∈ vs
  · by_cases hi : i < ρ.length
    · rw [wipeE_un c hi, wipeE_un c (by rw [wipeE_length]; exact hi)]
    · rw [List.getElem?_eq_none (by rw [wipeE_length, wipeE_length]; omega), List.getElem?_eq_none (by rw [wipeE_length]; omega)]
  · exact wipeE_off c
/-- slots forgotten on both sides -/
theorem Rel.wipe {G : Gm} {ρ : Env} {S : Store} {I : Hp} {σ σ' : L2.St} {H : Hp} (R : Rel G ρ S I σ H) {vs : List Nat} (hl : σ'.length = σ.length) (h : ∀ i, i ∉ vs → σ'[i]? = σ[i]?) : Rel G (wipeE ρ vs) S I σ' H := by
  refine ⟨R.sr, by rw [hl, wipeE_length, R.len], fun i p e => ?_, fun i o e => ?_, fun i j o u a hij e1 e2 k1 k2 => ?_⟩
  · obtain ⟨h1, h2⟩ := wipeE_get e (by intro q; cases q)
    rw [h i h2]; exact R.vs i p h1
  · obtain ⟨h1, h2⟩ := wipeE_get e (by intro q; cases q)
    rw [h i h2]; exact R.ow i o h1
  · obtain ⟨h1, h2⟩ := wipeE_get e1 (by intro q; cases q)
    obtain ⟨h3, h4⟩ := wipeE_get e2 (by intro q; cases q)
    rw [h i h2] at k1; rw [h j h4] at k2
    exact R.ap i j o u a hij h1 h3 k1 k2
def compL (St : Env → Store → Prop) (g : DG) (tt : DB) (te : DT) (vs : List Nat) (Q : List P → Env → Store → Prop) : List P → List P → Env → Store → Prop
  | [], acc, ρ, S => St ρ S ∧ Q acc ρ S
  | p :: ps, acc, ρ, S => St ρ S ∧ g p ρ S fun ρ2 S2 => tt ρ2 S2 fun b ρ3 S3 =>
      if b = true then te ρ3 S3 fun r ρ4 S4 => match r with
        | .v y => compL St g tt te vs Q ps (acc ++ [y]) (wipeE ρ4 vs) S4
        | .loc _ => False
      else compL St g tt te vs Q ps acc (wipeE ρ3 vs) S3
def BYes : DB := fun ρ S Q => Q true ρ S
def NLc (src : DSrc) (g : DG) (tt : DB) (te : DT) (vs : List Nat) : DNw := fun ρ S Q => src ρ S fun ps St ρ1 S1 => ps.length ≤ sizeLine ∧ compL St g tt te vs (fun acc => Q (.lst acc)) ps [] (wipeE ρ1 vs) S1
section
variable {X : Cx} {I0 : Hp} {pos : Pos}
abbrev DTT (F I0 : Hp) (X : Cx) (es : List Expr) (T : DB) : Prop := PTs X es (trT (gm F I0 X) T)
theorem tt_yes {F : Hp} : DTT F I0 X [] BYes := ⟨fun p s σ H Q J h => pts_nil.run p s σ H Q J (by
  obtain ⟨ρ, S, I, Q0, R, q, post⟩ := h
  exact post _ _ _ _ _ Le.refl R q)⟩
theorem tt_one {F : Hp} {c : Expr} {B : DB} (h : DTs F I0 X c B) : DTT F I0 X [c] B := pts_one h
def own (vs : List Nat) : Nat → Bool := fun i => vs.contains i
theorem wipe_self {σ : L2.St} : ∀ {vs : List Nat} {i : Nat}, i ∈ vs → i < σ.length → (wipe σ vs)[i]? = some none
  | v :: vs, i, h, hl => by
    unfold wipe
    by_cases c : v = i
    · subst c; rw [List.getElem?_set_self (by rw [wipe_length]; exact hl)]
    · rw [List.getElem?_set_ne c]
      exact wipe_self ((List.mem_cons.mp h).resolve_left fun e => c e.symm) hl
theorem wipe_ext {σ σ' : L2.St} {vs : List Nat} (h : Only (own vs) (wipe σ vs) σ') : wipe σ' vs = wipe σ vs := by
  have hl : σ'.length = σ.length := by rw [h.len, wipe_length]
  refine List.ext_getElem? fun i => ?_
  by_cases c : i ∈ vs
  · by_cases hi : i < σ.length
    · rw [wipe_self c hi, wipe_self c (by omega)]
    · rw [List.getElem?_eq_none (by rw [wipe_length]; omega), List.getElem?_eq_none (by rw [wipe_length]; omega)]
  · rw [wipe_get c, h.keep i (by simpa [own] using c)]
theorem RR.ofW {G : Gm} {I : Hp} {σ : L2.St} {y : P} {x : V} (h : RR G I σ (.v y) x) : RP G I y x := h
theorem n_lc {F : Hp} {elt tg iter : Expr} {ifs : List Expr} {scope : Scope} {ow : List (Str × Nat)} {src : DSrc} {g : DG} {tt : DB} {te : DT} (hc : X.calm = true) (hN : X.N.Nodup) (hi : DI F I0 X tg iter src) (ok : BlkOk X.N X.env.scope scope ow)
    (hg : ∀ (F : Hp) (s : Shared) (H : Hp) (C : Addr) (cl : List (Str × Addr)) (fp : List Addr), DGt F I0 (X.blk s H scope (compEnvC scope cl C X.env) fp) (own (ow.map (·.2))) tg g)
    (ht : ∀ (F : Hp) (s : Shared) (H : Hp) (C : Addr) (cl : List (Str × Addr)) (fp : List Addr), DTT F I0 (X.blk s H scope (compEnvC scope cl C X.env) fp) ifs tt)
    (he : ∀ (F : Hp) (s : Shared) (H : Hp) (C : Addr) (cl : List (Str × Addr)) (fp : List Addr), DE F I0 (X.blk s H scope (compEnvC scope cl C X.env) fp) elt te) (hs : ∀ x, foldedSetIterable iter X.env x = pure x := by intro _; rfl) :
    DN F I0 X (.ListComp elt [⟨tg, iter, ifs, 0⟩] scope pos) (NLc src g tt te (ow.map (·.2))) := by
  refine (pe_lc (g := fun x σ H Q => ∃ F', trG (gm F' I0 X) (own (ow.map (·.2))) g x σ H Q) (tt := fun σ H Q => ∃ F', trT (gm F' I0 X) tt σ H Q) (te := fun σ H Q => ∃ F', tr (gm F' I0 X) te σ H Q) hc hN hi ok
    (fun s H C cl fp => ⟨fun p s' σ H v u Q J r ⟨F', q⟩ => (hg F' s _ C cl fp).run p s' σ H v u Q J r q⟩)
    (fun s H C cl fp => ⟨fun p s' σ H Q J ⟨F', q⟩ => (ht F' s _ C cl fp).run p s' σ H Q J q⟩)
    (fun s H C cl fp => ⟨fun p s' σ H Q J ⟨F', q⟩ => (he F' s _ C cl fp).run p s' σ H Q J q⟩) hs).weak ?_
  generalize hvs : ow.map (·.2) = vs
  intro σ H Q ⟨ρ, S, I, Q0, R, q, post⟩
  refine ⟨ρ, S, I, _, R, q, fun J H1 ρ1 S1 I1 ps St l1 R1 w q1 => fun A hA => ?_⟩
  obtain ⟨hps, q1⟩ := q1
  obtain ⟨hF, hI, hS⟩ := R1.unused hA
  let Inv' := fun (i m : Nat) (H : Hp) (qs : List P) (acc : List P) (ρ : Env) (S : Store) (I : Hp) (vs' : List V) =>
    m = qs.length ∧ i + qs.length = ps.length ∧ ps.drop i = qs ∧ acc.length ≤ i ∧ wipeE ρ vs = ρ ∧ Le I1 I ∧ Rel ((gm F I0 X).up A (.lst vs')) ρ S I (wipe σ vs) H ∧ RPs (gm F I0 X) I acc vs' ∧ compL St g tt te vs (fun acc => Q0 (.lst acc)) qs acc ρ S
  refine ⟨fun i m H => ∃ qs acc ρ S I vs', Inv' i m H qs acc ρ S I vs', ⟨ps.length, ps, [], wipeE ρ1 vs, S1, I1, [], rfl, by simp, rfl, Nat.le_refl _, wipeE_twice _ _, Le.refl, ?_, rfl, q1⟩, ?_⟩
  · exact (R1.toF (u := .lst []) hA).wipe (wipe_length σ vs) fun i h => wipe_get h
  rintro i m H ⟨qs, acc, ρ, S, I2, vs', rfl, hl, hd, ha, hw, l2, R2, t2, q2⟩
  have w := w (upd F A (.lst vs'))
  cases qs with
  | nil =>
    obtain ⟨hst, q2⟩ := q2
    have e : i = ps.length := by simpa using hl
    subst e
    refine .inl ⟨w.stops ρ S I2 _ H l2 R2 hst, ?_⟩
    refine post A H (.lst acc) (.lst vs') ρ S I2 (l1.trans l2) hF ?_ ⟨vs', R2.held.1, RPs.gm _ t2 rfl⟩ q2
    have := R2.wipe (σ' := σ) (vs := vs) (wipe_length σ vs).symm fun i h => (wipe_get h).symm
    rwa [hw] at this
  | cons p qs =>
    obtain ⟨hst, q2⟩ := q2
    have hi' : i < ps.length := by simp at hl; omega
    have hp' : ps[i]? = some p ∧ ps.drop (i + 1) = qs := by
      have e := List.drop_eq_getElem_cons hi'
      rw [hd] at e
      injection e with e1 e2
      exact ⟨by rw [List.getElem?_eq_getElem hi', e1], e2.symm⟩
    refine .inr ⟨w.goes i ρ S I2 _ H l2 R2 hst hi', fun H' => ∃ m', m' < (p :: qs).length ∧ ∃ qs' acc ρ S I vs', Inv' (i + 1) m' H' qs' acc ρ S I vs', fun H' h => h, fun x H' y => ?_⟩
    obtain ⟨p', I3, hp2, l3, R3, rp⟩ := w.ylds i ρ S I2 _ H x H' l2 R2 hst hi' y
    rw [hp'.1] at hp2; cases hp2
    refine ⟨upd F A (.lst vs'), ρ, S, I3, p, _, R3, rp, q2, fun σ4 H4 ρ4 S4 I4 o4 l4 R4 q4 => ⟨wipe_ext o4, upd F A (.lst vs'), ρ4, S4, I4, _, R4, q4, fun b H5 ρ5 S5 I5 l5 R5 q5 => ?_⟩⟩
    have hl5 : Le I1 I5 := l2.trans (l3.trans (l4.trans l5))
    have e4 : ∀ i, i ∉ vs → (wipe σ vs)[i]? = σ4[i]? := fun i h => (o4.keep i (by simpa [own] using h)).symm
    have hl4 : (wipe σ vs).length = σ4.length := o4.len.symm
    cases b with
    | false =>
      exact ⟨qs.length, Nat.lt_succ_self _, qs, acc, wipeE ρ5 vs, S5, I5, vs', rfl, by simp at hl; omega, hp'.2, by omega, wipeE_twice _ _, hl5, R5.wipe hl4 e4, RPs.mono (l3.trans (l4.trans l5)) _ _ t2, q5⟩
    | true =>
      rw [if_pos rfl] at q5
      show (fun σ H Q => ∃ F', tr (gm F' I0 X) te σ H Q) σ4 H5 _
      refine ⟨upd F A (.lst vs'), ρ5, S5, I5, _, R5, q5, fun z H6 r ρ6 S6 I6 l6 R6 rr q6 => ?_⟩
      split at q6
      · rename_i z'
        have R6 : Rel ((gm F I0 X).up A (.lst vs')) ρ6 S6 I6 σ4 H6 := R6
        have hh := R6.held.1
        have hal := t2.length
        have hlt : acc.length < sizeLine := by omega
        refine ⟨vs', hh, by omega, qs.length, Nat.lt_succ_self _, qs, acc ++ [z'], wipeE ρ6 vs, S6, I6, vs' ++ [z], rfl, by simp at hl; omega, hp'.2, by simp; omega, wipeE_twice _ _, hl5.trans l6, (R6.reF (u' := .lst (vs' ++ [z]))).wipe hl4 e4, ?_, q6⟩
        exact (RPs.mono (l3.trans (l4.trans (l5.trans l6))) _ _ t2).append (RPs.one (RP.gm _ rr rfl))
      · exact q6.elim
end

/-! ### methods -/
abbrev MOp := R → List R → Env → Store → (P → Env → Store → Prop) → Prop
def TM (ty : Env → Store → R → Prop) (d : MOp) (To : DT) (A : DA) : DT := fun ρ S Q => To ρ S fun r ρ1 S1 => ty ρ1 S1 r ∧ A ρ1 S1 fun rs ρ2 S2 => d r rs ρ2 S2 fun p ρ3 S3 => Q (.v p) ρ3 S3
/-- what is wanted behind a method -/
abbrev PstM (G : Gm) (I : Hp) (σ : L2.St) (k : P → Env → Store → Prop) (Q : VK) : Prop := ∀ (z : V) (H' : Hp) (p : P) (ρ' : Env) (S' : Store) (I' : Hp), Le I I' → Rel G ρ' S' I' σ H' → RP G I' p z → k p ρ' S' → Q z H'
structure LkM (X : Cx) (T : String) (rel : V → List V → Hp → VK → Prop) (ty : Env → Store → R → Prop) (d : MOp) : Prop where
  ty : ∀ (F I0 : Hp) (ρ : Env) (S : Store) (I : Hp) (σ : L2.St) (H : Hp) (x : V) (r : R), Rel (gm F I0 X) ρ S I σ H → RR (gm F I0 X) I σ r x → ty ρ S r → tyV X.K T x H
  op : ∀ (F I0 : Hp) (ρ : Env) (S : Store) (I : Hp) (σ : L2.St) (H : Hp) (x : V) (xs : List V) (r : R) (rs : List R) (k : P → Env → Store → Prop) (Q : VK), Rel (gm F I0 X) ρ S I σ H → RR (gm F I0 X) I σ r x → RRs (gm F I0 X) I σ rs xs → d r rs ρ S k → PstM (gm F I0 X) I σ k Q → rel x xs H Q
abbrev BaseOk (X : Cx) (o : Expr) (name : Str) : Prop := attributeBase o name X.env (eval o X.env) = eval o X.env
abbrev FewOk (X : Cx) (cpos : Pos) (es : List Expr) : Prop := ((backTo cpos (starEach es X.env)).all (fun z => !z.1) && (backToKw cpos (keywordEach [] X.env)).all (fun z => z.1.isSome) && decide (es.length + ([] : List Keyword).length + (if ([] : List Keyword).isEmpty then 0 else 1) < 30)) = true
abbrev StOk (X : Cx) (e : Expr) (es : List Expr) : Prop := starEach (e :: es) X.env = (false, eval e X.env) :: starEach es X.env
abbrev PlOk (X : Cx) (cpos : Pos) (es : List Expr) : Prop := (backTo cpos (starEach es X.env)).any (·.1) = false
section
variable {X : Cx} {F I0 : Hp} {o e : Expr} {es : List Expr} {To : DT} {A : DA} {name : Str} {apos cpos : Pos} {T id : String} {rel : V → List V → Hp → VK → Prop} {ty : Env → Store → R → Prop} {d : MOp}
theorem d_bm (pa : PlainAttrs T) (slot : Slot T name id) (hty : typeOf (.builtin id) = pure (.type "method_descriptor")) (hm : MtR X id rel) (lk : LkM X T rel ty d) (ho : DE F I0 X o To) (ha : DAs F I0 X (e :: es) A)
    (hbase : BaseOk X o name := by rfl) (hfew : FewOk X cpos (e :: es) := by rfl) (hline : (apos.endLine == cpos.line) = true := by rfl) (hs : StOk X e es := by rfl) (hplain : PlOk X cpos es := by rfl) :
    DE F I0 X (.Call (.Attribute o name apos) (e :: es) [] cpos) (TM ty d To A) := by
  refine (pe_bm pa slot hty hm ho ha hbase hfew hline hs hplain).weak fun σ H Q ⟨ρ, S, I, Q0, R, q, post⟩ => ?_
  refine ⟨ρ, S, I, _, R, q, fun x H1 r ρ1 S1 I1 l1 R1 rr q1 => ⟨lk.ty F I0 ρ1 S1 I1 σ H1 x r R1 rr q1.1, ρ1, S1, I1, _, R1, q1.2, fun xs H2 rs ρ2 S2 I2 l2 R2 rrs q2 => ?_⟩⟩
  exact lk.op F I0 ρ2 S2 I2 σ H2 x xs r rs _ Q R2 (rr.mono l2) rrs q2 fun z H' p ρ' S' I' l R' rp k => post z H' (.v p) ρ' S' I' (l1.trans (l2.trans l)) R' rp k
theorem d_bm0 (pa : PlainAttrs T) (slot : Slot T name id) (hty : typeOf (.builtin id) = pure (.type "method_descriptor")) (hm : MtR X id rel) (lk : LkM X T rel ty d) (ho : DE F I0 X o To)
    (hbase : BaseOk X o name := by rfl) (hline : (apos.endLine == cpos.line) = true := by rfl) :
    DE F I0 X (.Call (.Attribute o name apos) [] [] cpos) (TM ty d To ANil) := by
  refine (pe_bm0 pa slot hty hm ho hbase hline).weak fun σ H Q ⟨ρ, S, I, Q0, R, q, post⟩ => ?_
  refine ⟨ρ, S, I, _, R, q, fun x H1 r ρ1 S1 I1 l1 R1 rr q1 => ⟨lk.ty F I0 ρ1 S1 I1 σ H1 x r R1 rr q1.1, ?_⟩⟩
  exact lk.op F I0 ρ1 S1 I1 σ H1 x [] r [] _ Q R1 rr rfl q1.2 fun z H' p ρ' S' I' l R' rp k => post z H' (.v p) ρ' S' I' (l1.trans l) R' rp k
end
/-- the list that a method writes: of the store, of a slot -/
def wrL (r : R) (ρ : Env) (S : Store) (f : List P → (List P → Prop) → Prop) (k : Env → Store → Prop) : Prop := match r with
  | .v (.ref a) => match S a with
    | some (.lst xs) => f xs fun ys => k ρ (ups S a (.lst ys))
    | _ => False
  | .loc i => match ρ[i]? with
    | some (.own (.lst xs)) => f xs fun ys => k (ρ.set i (.own (.lst ys))) S
    | _ => False
  | _ => False
theorem wrL_ok {G : Gm} {ρ : Env} {S : Store} {I : Hp} {σ : L2.St} {H : Hp} (R : Rel G ρ S I σ H) {r : D.R} {x : V} {f : List P → (List P → Prop) → Prop} {k : Env → Store → Prop} (rr : RR G I σ r x) (q : wrL r ρ S f k) :
    ∃ a xs vs, x = .ref a ∧ H a = some (.lst vs) ∧ RPs G I xs vs ∧ ∃ g, f xs g ∧ ∀ ys, g ys → ∀ ws, RPs G I ys ws → ∃ ρ' S', k ρ' S' ∧ Rel G ρ' S' I σ (upd H a (.lst ws)) := by
  unfold wrL at q
  split at q
  · rename_i a
    split at q
    · rename_i xs e
      cases rr
      obtain ⟨⟨vs, h1, t⟩, _⟩ := R.sr.st a _ e
      exact ⟨a, xs, vs, rfl, h1, t, _, q, fun ys hy ws tw => ⟨_, _, hy, R.setSt e (o' := .lst ys) ⟨_, upd_same, tw⟩⟩⟩
    · exact q.elim
  · rename_i i
    split at q
    · rename_i xs e
      obtain ⟨a, h0, ⟨vs, h1, t⟩, _⟩ := R.ow i _ e
      have : some (some x) = some (some (V.ref a)) := (show σ[i]? = some (some x) from rr).symm.trans h0
      cases this
      exact ⟨a, xs, vs, rfl, h1, t, _, q, fun ys hy ws tw => ⟨_, _, hy, R.setOwn e h0 (o' := .lst ys) ⟨_, upd_same, tw⟩⟩⟩
    · exact q.elim
  · exact q.elim
abbrev tyL : Env → Store → R → Prop := fun ρ S r => (asL0 ρ S r).isSome = true
def appD : MOp := fun r rs ρ S k => match rs with
  | [.v p] => wrL r ρ S (fun xs g => xs.length < sizeLine ∧ g (xs ++ [p])) fun ρ S => k .non ρ S
  | _ => False
section
variable {X : Cx} {F I0 : Hp}
theorem ty_list {F I0 : Hp} {ρ : Env} {S : Store} {I : Hp} {σ : L2.St} {H : Hp} {x : V} {r : D.R} (R : Rel (gm F I0 X) ρ S I σ H) (rr : RR (gm F I0 X) I σ r x) (h : tyL ρ S r) : tyV X.K "list" x H := by
  obtain ⟨xs, e⟩ := Option.isSome_iff_exists.mp h
  obtain ⟨a, vs, rfl, h1, _⟩ := R.asL0 rr e
  exact .inl ⟨rfl, vs, SqL.of h1⟩
theorem m_append : LkM X "list" rAppend tyL appD where
  ty := fun F I0 ρ S I σ H x r R rr h => ty_list R rr h
  op := fun F I0 ρ S I σ H x xs r rs k Q R rr rrs q post => by
    unfold appD at q
    split at q
    · rename_i p
      obtain ⟨y, _, rfl, h1, rfl⟩ := rrs
      obtain ⟨a, xs, vs, rfl, h2, t, g, ⟨q1, q2⟩, q3⟩ := wrL_ok R rr q
      obtain ⟨ρ', S', q4, R'⟩ := q3 _ q2 (vs ++ [y]) (t.append (RPs.one h1))
      exact ⟨a, vs, y, rfl, rfl, h2, by rw [← t.length]; exact q1, post _ _ _ _ _ _ Le.refl R' .mkN q4⟩
    · exact q.elim
theorem d_append {o e : Expr} {To : DT} {A : DA} {apos cpos : Pos} (ho : DE F I0 X o To) (ha : DAs F I0 X [e] A)
    (hbase : BaseOk X o "append" := by rfl) (hfew : FewOk X cpos [e] := by rfl) (hline : (apos.endLine == cpos.line) = true := by rfl) (hs : StOk X e [] := by rfl) (hplain : PlOk X cpos [] := by rfl) :
    DE F I0 X (.Call (.Attribute o "append" apos) [e] [] cpos) (TM tyL appD To A) :=
  d_bm PySem.F.plainAttrs_list PySem.F.slot_list_append PySem.F.type_list_append mt_append m_append ho ha hbase hfew hline hs hplain

/-! ### name op= e, -e -/
def augD (op : R → R → Env → Store → K1 → Prop) (i : Nat) (T : DT) : DS := fun D ρ S => match ρ[i]? with
  | some (.v p) => T ρ S fun r ρ1 S1 => op (.v p) r ρ1 S1 fun z => D.nx (ρ1.set i (.v z)) S1
  | _ => False
theorem ip_of {op : Operator} {t : TIp} {d : R → R → Env → Store → K1 → Prop} {i : Nat} {x : Str} {e : Expr} {T : DT} {pos pos' : Pos} (hN : X.N.Nodup) (hi : X.N[i]? = some x) (hx : Loc X.env.scope x) (he : DE F I0 X e T) (ho : PIp X op t) (lk : Lk2 X t d)
    (hf : X.fn x = true ∨ X.env.scope.names.lookup x = some .local := by first | exact .inl rfl | exact .inr rfl | assumption) : DSt F I0 X (.AugAssign (.Name x pos') op e pos) (augD d i T) := by
  refine (ps_aug hN hi hx he ho hf).weak fun D σ H ⟨ρ, S, I, D0, R, q, h1, h2, h3, h4⟩ => ?_
  unfold augD at q
  split at q
  · rename_i p e1
    obtain ⟨v, hv, rp⟩ := R.vs i p e1
    refine ⟨v, hv, ρ, S, I, _, R, q, fun y H1 r ρ1 S1 I1 l1 R1 rr q1 => ?_⟩
    exact lk F I0 ρ1 S1 I1 σ H1 v y (.v p) r _ _ R1 (RP.mono l1 _ _ rp) rr q1 fun z H' z' I' l R' rz k => h1 _ _ _ _ _ (l1.trans l) (R'.put rz) k
  · exact q.elim
theorem lk_ip {f : Int → Int → Int} : Lk2 X (ipI f) (ii (fun _ _ => True) fun i j => .int (f i j)) := by
  intro F I0 ρ S I σ H x y a b k Q R ra rb q post
  unfold ii at q
  split at q
  · cases ra; cases rb
    exact ⟨_, _, rfl, rfl, post _ _ _ _ Le.refl R .mkI q.2⟩
  · exact q.elim
theorem s_iadd {i : Nat} {x : Str} {e : Expr} {T : DT} {pos pos' : Pos} (hN : X.N.Nodup) (hi : X.N[i]? = some x) (hx : Loc X.env.scope x) (he : DE F I0 X e T)
    (hf : X.fn x = true ∨ X.env.scope.names.lookup x = some .local := by first | exact .inl rfl | exact .inr rfl | assumption) : DSt F I0 X (.AugAssign (.Name x pos') .Add e pos) (augD (ii (fun _ _ => True) fun i j => .int (i + j)) i T) := ip_of hN hi hx he ip_add lk_ip hf
theorem s_isub {i : Nat} {x : Str} {e : Expr} {T : DT} {pos pos' : Pos} (hN : X.N.Nodup) (hi : X.N[i]? = some x) (hx : Loc X.env.scope x) (he : DE F I0 X e T)
    (hf : X.fn x = true ∨ X.env.scope.names.lookup x = some .local := by first | exact .inl rfl | exact .inr rfl | assumption) : DSt F I0 X (.AugAssign (.Name x pos') .Sub e pos) (augD (ii (fun _ _ => True) fun i j => .int (i - j)) i T) := ip_of hN hi hx he ip_sub lk_ip hf
def negD : R → Env → Store → K1 → Prop := fun r _ _ k => match r with
  | .v (.int i) => k (.int (-i))
  | _ => False
theorem d_neg {a : Expr} {Ta : DT} {pos : Pos} (ha : DE F I0 X a Ta) : DE F I0 X (.UnaryOp .USub a pos) (T1 negD Ta) := by
  refine (pe_un un_neg ha).weak fun σ H Q ⟨ρ, S, I, Q0, R, q, post⟩ => ⟨ρ, S, I, _, R, q, fun x H' r ρ' S' I' l R' rr q => ?_⟩
  unfold negD at q
  split at q
  · rename_i i
    cases rr
    exact ⟨i, rfl, post _ _ (.v (.int (-i))) _ _ _ l R' (RP.mkI : RP (gm F I0 X) I' (.int (-i)) (.int (-i))) q⟩
  · exact q.elim

/-! ### xs[::-1] -/
def revD : R → Env → Store → K1 → Prop := fun r ρ S k => match r with
  | .v (.tup xs) => k (.tup xs.reverse)
  | r => match asL ρ S r with
    | some xs => k (.lst xs.reverse)
    | none => False
end
section
variable {Pg : Program} {w : World} {A : Around} {E : Value → Shared → Prop} {s : Shared}
theorem slice_back {sl : Addr} {vl vu vs : Value} {n : Nat} {Q : Int × Int × Nat → Shared → Prop} (hs : s.heap.IsSliceOf sl vl vu vs) (pl : IsPart vl none) (pu : IsPart vu none) (ps : IsPart vs (some (-1)))
    (h : Q ((n : Int) - 1, -1, n) s) : wpAny (model Pg w) A (Builtin.Slice.sliceApplied (.ref sl) (pure (n : Int))) Q E s := by
  obtain ⟨zo, hz1, hz2, hz3⟩ := id hs
  unfold Builtin.Slice.sliceApplied Builtin.Slice.sliceFields; refine wpAny_bind (wpAny_bind (wpAny_field hz1 hz3 (x := vl) rfl (wpAny_bind (wpAny_field hz1 hz3 (x := vu) rfl (wpAny_bind (wpAny_field hz1 hz3 (x := vs) rfl (wpAny_pure ?_)))))))
  refine wpAny_bind (HT.slicePart_ ps ?_)
  show wpAny _ _ (if ((-1 : Int) == 0) = true then _ else _) _ _ s
  rw [if_neg (by decide)]
  refine wpAny_bind (HT.slicePart_ pl (wpAny_bind (HT.slicePart_ pu (wpAny_bind (wpAny_pure ?_)))))
  show wpAny _ _ (pure ((n : Int) - 1, (-1 : Int), Builtin.Slice.slicePlaces ((n : Int) - 1) (-1) (-1))) _ _ s
  have e : Builtin.Slice.slicePlaces ((n : Int) - 1) (-1) (-1) = n := by
    unfold Builtin.Slice.slicePlaces; rw [if_neg (by decide)]
    split
    · rw [show (n : Int) - 1 - -1 - 1 = n - 1 by omega, show -(-1 : Int) = 1 by rfl, Int.ediv_one]; omega
    · omega
  rw [e]
  exact wpAny_pure h
theorem fm_congr {α β : Type} {f g : α → Option β} : ∀ {l : List α}, (∀ x ∈ l, f x = g x) → l.filterMap f = l.filterMap g
  | [], _ => rfl
  | a :: l, h => by rw [List.filterMap_cons, List.filterMap_cons, h a (List.mem_cons_self ..), fm_congr fun x hx => h x (List.mem_cons_of_mem _ hx)]
theorem fm_some {α β : Type} {f : α → β} : ∀ {l : List α}, (l.filterMap fun x => some (f x)) = l.map f
  | [] => rfl
  | a :: l => by rw [List.filterMap_cons, fm_some]; rfl
theorem pick_back (xs : Array Value) : ((List.range xs.size).filterMap fun (m : Nat) => xs[((xs.size : Int) - 1 + (m : Int) * -1).toNat]?).toArray = xs.toList.reverse.toArray := by
  congr 1
  have key : ∀ l : List Value, ((List.range l.length).filterMap fun (m : Nat) => l[((l.length : Int) - 1 + (m : Int) * -1).toNat]?) = l.reverse := by
    intro l
    have e : ∀ m ∈ List.range l.length, l[((l.length : Int) - 1 + (m : Int) * -1).toNat]? = some (l.reverse[m]?.getD .none) := by
      intro m hm
      have hm := List.mem_range.mp hm
      rw [List.getElem?_reverse hm, show ((l.length : Int) - 1 + (m : Int) * -1).toNat = l.length - 1 - m by omega]
      have : l.length - 1 - m < l.length := by omega
      rw [List.getElem?_eq_getElem this]; rfl
    rw [fm_congr e, fm_some]
    refine List.ext_getElem? fun i => ?_
    rw [List.getElem?_map]
    by_cases hi : i < l.length
    · rw [List.getElem?_range hi]
      have : i < l.reverse.length := by rw [List.length_reverse]; exact hi
      rw [Option.map_some, List.getElem?_eq_getElem this]; rfl
    · rw [List.getElem?_eq_none (by simpa using hi), List.getElem?_eq_none (by simpa using hi)]; rfl
  have := key xs.toList
  simpa using this
theorem getItem_tuple_back {t sl : Addr} {items : Array Value} {vl vu vs : Value} {Q : Value → Shared → Prop} (ht : PyProof.Rows.IsTup s.heap t items) (hs : s.heap.IsSliceOf sl vl vu vs) (pl : IsPart vl none) (pu : IsPart vu none) (ps : IsPart vs (some (-1)))
    (h : Q (.ref s.heap.objs.size) { s with heap := s.heap.push { cls := .type "tuple", data := .seq items.toList.reverse.toArray } }) (hsz : items.size ≤ sizeLine) : wpAny (model Pg w) A (getItem (.ref t) (.ref sl)) Q E s := by
  have hok : sizeOk (.seq items.toList.reverse.toArray) := by
    show items.toList.reverse.toArray.size ≤ sizeLine
    simpa using hsz
  obtain ⟨zo, hz1, hz2, hz3⟩ := id hs
  have tySl : s.TypeIs (.ref sl) "slice" := ⟨zo, hz1, hz2⟩
  unfold getItem; try with_reducible refine wpAny_holding ?_
  refine wpAny_bind (wpAny_sequenceKey (s := s) ht.typeIs (by decide) ?_)
  refine wpAny_bind (wpAny_callSpecial?_slot (name := Str.ofString "__getitem__") ht.typeIs PyProof.Rows.slot_tuple_getitem (wpAny_call_entry PyProof.Rows.slot_tuple_getitem ht.typeIs PyProof.Rows.entry_tuple_getitem ?_ (PyProof.Rows.args_tuple_getitem _ _)))
  show wpAny _ _ (Builtin.Tuple.tupleItemsOf (.ref t) >>= _) _ _ s; refine wpAny_bind (PyProof.Rows.tupleItemsOf_ ht ?_)
  refine wpAny_bind (wpAny_typeOf tySl ?_)
  rw [if_pos (by decide)]
  refine wpAny_bind (slice_back hs pl pu ps ?_)
  have hno : ¬ ((((items.size : Int) - 1 == 0 && (-1 : Int) == 1 && items.size == items.size)) = true) := by
    rw [show ((-1 : Int) == 1) = false by decide, Bool.and_false, Bool.false_and]; exact Bool.false_ne_true
  show wpAny _ _ (if (((items.size : Int) - 1 == 0 && (-1 : Int) == 1 && items.size == items.size)) = true then _ else _) _ _ s
  rw [if_neg hno, pick_back]
  first
    | exact wpAny_bind (m := Builtin.Tuple.tupleExact _) (wpAny_newObj_type (wpAny_pure ⟨_, rfl, wpAny_pure h⟩) hok)
    | exact wpAny_bind (m := Builtin.Tuple.tupleExact _) (wpAny_newObj_type (wpAny_bind (wpAny_pure (wpAny_pure ⟨_, rfl, wpAny_pure h⟩))) hok)
    | exact wpAny_bind (wpAny_bind (m := Builtin.Tuple.tupleExact _) (wpAny_newObj_type (wpAny_pure (wpAny_pure ⟨_, rfl, wpAny_pure h⟩)) hok))
    | exact wpAny_bind (wpAny_bind (m := Builtin.Tuple.tupleExact _) (wpAny_newObj_type (wpAny_pure ⟨_, rfl, wpAny_pure h⟩) hok))
end
section
variable {X : Cx} {F I0 : Hp}
theorem d_rev {e : Expr} {T : DT} {k : Nat} {p1 p2 p3 pos : Pos} (he : DE F I0 X e T) : DE F I0 X (.Subscript e (.Slice none none (some (.UnaryOp .USub (.Constant (.int 1) k p1) p2)) p3) pos) (T1 revD T) := by
  refine ⟨fun pins s σ H Q J h => ?_⟩
  obtain ⟨ρ, S, I, Q0, R, h, post⟩ := h
  refine PyProof.Rows.Subscript_ (thn (he.run pins s σ H (fun x H1 => ∃ r ρ1 S1 I1, Le I I1 ∧ Rel (gm F I0 X) ρ1 S1 I1 σ H1 ∧ RR (gm F I0 X) I1 σ r x ∧ revD r ρ1 S1 fun p => Q0 (.v p) ρ1 S1) J ⟨ρ, S, I, _, R, h, fun x H' r ρ' S' I' l R' rr q => ⟨r, ρ', S', I', l, R', rr, q⟩⟩) fun v s1 ⟨x, H1, J1, rx, r, ρ1, S1, I1, l, R1, rr, q⟩ => ?_)
  have back1 : PO X (some (.UnaryOp .USub (.Constant (.int 1) k p1) p2)) (tPart (tUn (rU fun i => .int (-i)) (tC (.int 1)))) := po_some (pe_un un_neg pe_int)
  refine wpAny_Slice (thn (po_none.run pins s1 σ H1 (fun o H2 => o = none ∧ H2 = H1) J1 ⟨rfl, rfl⟩) fun vl s2 ⟨o1, H2, J2, pl, e1, e2⟩ => ?_)
  subst e1 e2
  refine thn (po_none.run pins s2 σ H2 (fun o H3 => o = none ∧ H3 = H2) J2 ⟨rfl, rfl⟩) fun vu s3 ⟨o2, H3, J3, pu, e1, e2⟩ => ?_
  subst e1 e2
  refine thn (back1.run pins s3 σ H3 (fun o H4 => o = some (-1) ∧ H4 = H3) J3 ⟨1, rfl, -1, rfl, rfl, rfl⟩) fun vs s4 ⟨o3, H4, J4, ps, e1, e2⟩ => ?_
  subst e1 e2
  have J5 : L2.Inv X pins σ H4 { s4 with heap := s4.heap.push { cls := .type "slice", data := .fields #[vl, vu, vs] } } := J4.kept (t' := s4.toks) fun b ob q => Heap.get?_push_of_some _ q
  unfold revD at q
  split at q
  · rename_i xs
    obtain ⟨a, ws, rfl, h1, t1⟩ := rr
    cases rx
    obtain ⟨its, rv, ht, hz⟩ := J5.tuple (R1.sr.imm.sqt h1)
    have hlen := rv.length
    show wpAny (model X.prog X.w) X.A (PyProof.Rows.subscriptTail e (.Slice none none (some (.UnaryOp .USub (.Constant (.int 1) k p1) p2)) p3) (.ref a) (.ref s4.heap.objs.size)) _ X.xe _
    refine PyProof.Rows.tail_any (ops := [.ref a, .ref s4.heap.objs.size]) ht.typeIs (PyProof.Rows.slot_tuple_getitem.lookup) ?_ (by with_unfolding_all rfl)
    refine getItem_tuple_back ht (Heap.IsSliceOf.new _ vl vu vs) pl pu ps ?_ (by rw [List.size_toArray]; omega)
    obtain ⟨l2, R2⟩ := R1.frz (o := .tup ws.reverse) J5.fresh
    refine ⟨.ref _, _, J5.laid (t' := s4.toks) (o := .tup ws.reverse) (fun b ob q => Heap.get?_push_of_some _ q) (Nat.le_refl _) ?_, rfl, post _ _ (.v (.tup xs.reverse)) _ _ _ (l.trans l2) R2 (RP.mkT (G := gm F I0 X) upd_same (RPs.mono l2 _ _ t1.reverse)) q⟩
    exact ⟨by rw [List.length_reverse]; exact hz, _, by simpa using rv.reverse, PyProof.Rows.IsTup.new _ _⟩
  · split at q
    · rename_i xs e1
      obtain ⟨a, ws, rfl, h1, t1⟩ := R1.asL rr e1
      cases rx
      obtain ⟨its, rv, ht, hz⟩ := J5.list h1
      have hlen := rv.length
      show wpAny (model X.prog X.w) X.A (PyProof.Rows.subscriptTail e (.Slice none none (some (.UnaryOp .USub (.Constant (.int 1) k p1) p2)) p3) (.ref a) (.ref s4.heap.objs.size)) _ X.xe _
      refine PyProof.Rows.tail_any (ops := [.ref a, .ref s4.heap.objs.size]) ht.isList.typeIs (PySem.slot_list_getitem.lookup) ?_ (by with_unfolding_all rfl)
      refine wpAny_getItem_list_slice ht.isList (Heap.IsSliceOf.new _ vl vu vs) pl pu ps (by decide) ?_ (by rw [List.size_toArray]; omega); rw [PySem.W.krv_pick]
      obtain ⟨l2, R2⟩ := R1.frz (o := .lst ws.reverse) J5.fresh
      refine ⟨.ref _, _, J5.laid (t' := s4.toks) (o := .lst ws.reverse) (fun b ob q => Heap.get?_push_of_some _ q) (Nat.le_refl _) ?_, rfl, post _ _ (.v (.lst xs.reverse)) _ _ _ (l.trans l2) R2 (RP.mkL (G := gm F I0 X) upd_same (RPs.mono l2 _ _ t1.reverse)) q⟩
      exact ⟨by rw [List.length_reverse]; exact hz, _, 0, rv.reverse, Heap.get?_push_size _ rfl⟩
    · exact q.elim
end
end D
/-! D9: promises of defs by deep values; calls; the law's entry. As HandS's FnOk, with the guards known to be none (repr asks that). -/
namespace D
open PySem PySem.Spec L2

/-! ### promises of defs, no repr under way -/
structure Fd (P : Program) (w : World) (K : PySem.W.Frag) (mg : Str → Option Value) (base : Heap) (CX : CXT) (k : Nat) (f : Addr) (fd : FuncData) (ps : List Str) (sp : Sp) : Prop where
  len : ∀ xs H Q E, sp xs H Q E → xs.length = ps.length
  run : ∀ (A : Around) (outer : List PySem.Env) (s : Shared) (H : Hp) (args : Args) (us : List Value) (xs : List V) (Q : VK) (E : XK), A.guards = some [] → Room k A → Env0 P w K mg base A outer s H → BindsTo s fd args (ps.zip us) → Vals xs us →
    sp xs H Q E → codeAny (model P w) A (.call (.ref f) args) (CR CX outer P w H s Q E) s
section
variable {P : Program} {w : World} {K : PySem.W.Frag} {mg : Str → Option Value} {base : Heap} {CX : CXT}
theorem Fd.mono {j k : Nat} {f : Addr} {fd : FuncData} {ps : List Str} {sp : Sp} (F : Fd P w K mg base CX j f fd ps sp) (h : j ≤ k) : Fd P w K mg base CX k f fd ps sp :=
  ⟨F.len, fun A outer s H args us xs Q E g r => F.run A outer s H args us xs Q E g (r.mono h)⟩
/-- a def of the text as it stands behind the top, dvs its defaults -/
abbrev Made (K : PySem.W.Frag) (f : Addr) (fd : FuncData) (name qual : Str) (st : Stmt) (dvs : List V) : Prop := FunD K name qual (defArgs st) (defBody st) (defScope st) dvs [] f fd
/-- a def of the text keeps its promise where its body does -/
theorem fd_of {k : Nat} {f : Addr} {fd : FuncData} {name qual : Str} {st : Stmt} {dvs : List V} {N ps : List Str} {sp : Sp} (M : Made K f fd name qual st dvs) (S : FnScope N ps (defScope st)) (len : ∀ xs H Q E, sp xs H Q E → xs.length = ps.length)
    (hbody : ∀ (cdv : Value) (A : Around) (outer : List PySem.Env) (s : Shared) (H : Hp) (xs : List V) (Q : VK) (E : XK), A.guards = some [] → Room k (A.deeper (PyProof.Rows.envOfC qual (defScope st) s.heap.objs.size f cdv)) → sp xs H Q E →
      ∃ t, PSs (cxOf CX P w K mg base N qual (defScope st) f cdv A outer s H E) (defBody st) t ∧ t { nx := fun _ H' => Q .non H', rt := Q } (L2.start N xs) H) :
    Fd P w K mg base CX (k + 1) f fd ps sp := by
  obtain ⟨oc, od, dV, kV, doc, pm, an, cdv, ct, osl, rfl, lk, hcd, _, _⟩ := M.ex
  refine ⟨len, fun A outer s H args us xs Q E g hr e0 hb rv hsp => ?_⟩
  have kin := e0.mod.kin.keeps fun b o e => (e0.bs b o e).1
  have hkind : ∀ y ∈ ps.zip us, (defScope st).names.lookup y.1 = some .local ∨ ((defScope st).names.lookup y.1 = some .cell ∧ ((cellsFrom (s.heap.objs.size + 1) (defScope st).names []).lookup y.1).isSome = true) :=
    fun y hy => (S.par y.1 (List.of_mem_zip hy).1).imp id fun q => ⟨q, PySem.W.cellsFrom_some _ _ _ (.inl q)⟩
  refine codeAny_call_function hr.depth (kin _ _ lk) rfl S.co S.gen rfl (PySem.W.codeRec_of kin hcd) (hb _ _ _ _ (wpAny_newFunctionEnv_cells S.kind hkind fun env he s1 x => ?_))
  subst he
  refine ⟨(e0.mod.nolimit.keeps fun b o e => (e0.bs b o e).1).keeps x.toInCall.keep, codeAny_func ?_⟩
  obtain ⟨t, ht, hq⟩ := hbody cdv A outer s H xs Q E g (hr.deeper _) hsp
  refine wpAny_mono (ht.run [] s1 (L2.start N xs) H _ (inv_start S hr.hd e0 (len _ _ _ _ hsp) rv x) hq) (fun fl s' hs => ?_) fun e s' hs => hs
  have fin : ∀ {σ' : L2.St} {H' : Hp} {v : V} {u : Value}, L2.Inv (cxOf CX P w K mg base N qual (defScope st) f cdv A outer s H E) [] σ' H' s' → RelV v u → Q v H' → CE outer P w H s Q u s' :=
    fun J rv q => ⟨_, _, J.os, J.bare, J.base, J.hok, rv, q⟩
  cases fl with
  | ret u => obtain ⟨v, σ', H', J, rv, q⟩ := hs; exact fin J rv q
  | next => obtain ⟨σ', H', J, q⟩ := hs; exact fin (v := .non) (u := .none) J rfl q
  | brk => obtain ⟨_, _, _, q⟩ := hs; exact q.elim
  | cont => obtain ⟨_, _, _, q⟩ := hs; exact q.elim
end
section
variable {X : Cx} {CX : CXT} {k : Nat} {f : Addr} {fd : FuncData} {ps ks : List Str} {sp : Sp} {E : XK} {x : Str} {p pos : Pos} {e : Expr} {es : List Expr} {kws : List Keyword} {t tk : TA}
/-- the callee runs, however its arguments are bound -/
theorem run_fd {pins : List (Addr × Obj)} {σ : L2.St} {H : Hp} {s : Shared} {Q : VK} {us ws : List Value} {kw : List (Str × Value)} {xs : List V} (F : Fd X.prog X.w X.K X.mg X.base CX k f fd ps sp) (g : X.A.guards = some []) (hr : Room k X.A)
    (hb : ws.length = ps.length → BindsTo s fd ⟨us, kw⟩ (ps.zip ws)) (hx : Passes CX X E) (J : L2.Inv X pins σ H s) (r : Vals xs ws) (h : sp xs H Q E) : wpAny (model X.prog X.w) X.A (call (.ref f) us kw) (EP X pins σ Q) X.xe s := by
  refine wpAny_call (codeAny_mono (F.run X.A X.stack s H ⟨us, kw⟩ ws xs Q E g hr J.env0 (hb (by rw [← r.length]; exact F.len _ _ _ _ h)) r h) fun z s' hq => ?_)
  cases z with
  | error e => exact hx pins σ H s e s' J hq
  | ok fl =>
    cases fl with
    | ret u => exact J.after hq
    | next => exact hq.elim
    | brk => exact hq.elim
    | cont => exact hq.elim
end

/-! ### deep promises -/
/-- what is wanted of an exception: its class, its fields -/
abbrev DX := Value → List (Str × P) → Store → Prop
abbrev DSp := List P → Store → (P → Store → Prop) → DX → Prop
/-- an exception as it lies: its class, its dict's fields -/
def XR (G : Gm) (I : Hp) (d : Option Addr) (H : Hp) (fs : List (Str × P)) : Prop := (d = none ∧ fs = []) ∨ ∃ a gs, d = some a ∧ H a = some (.xd gs) ∧ RFs G I fs gs
/-- a deep promise as a reading of HandS's -/
def lift (K : PySem.W.Frag) (w : World) (I0 : Hp) (d : DSp) : Sp := fun xs H Q E => ∃ (F : Hp) (S : Store) (I : Hp) (as : List P) (Q0 : P → Store → Prop) (X0 : DX), StR ⟨K, w, F, I0⟩ S I H ∧ RPs ⟨K, w, F, I0⟩ I as xs ∧ d as S Q0 X0 ∧
  (∀ x H' p S' I', Le I I' → StR ⟨K, w, F, I0⟩ S' I' H' → RP ⟨K, w, F, I0⟩ I' p x → Q0 p S' → Q x H') ∧
  (∀ c a H' fs S' I', Le I I' → StR ⟨K, w, F, I0⟩ S' I' H' → XR ⟨K, w, F, I0⟩ I' a H' fs → X0 c fs S' → E c a H')
def startE (N : List Str) (as : List P) : Env := as.map Sl.v ++ List.replicate (N.length - as.length) .un
theorem start_rel {G : Gm} {S : Store} {I H : Hp} {N : List Str} {as : List P} {xs : List V} (h : StR G S I H) (r : RPs G I as xs) : Rel G (startE N as) S I (L2.start N xs) H := by
  have hl := r.length
  have noOwn : ∀ (i : Nat) (o : SO), (startE N as)[i]? ≠ some (.own o) := fun i o e => by
    unfold startE at e
    by_cases hi : i < as.length
    · rw [List.getElem?_append_left (by simpa using hi), List.getElem?_map, List.getElem?_eq_getElem hi] at e; cases e
    · rw [List.getElem?_append_right (by simpa using hi), List.getElem?_replicate] at e
      split at e <;> cases e
  refine ⟨h, ?_, fun i p e => ?_, fun i o e => (noOwn i o e).elim, fun i j o u a _ e => (noOwn i o e).elim⟩
  · unfold L2.start startE; simp [hl]
  · unfold startE at e
    by_cases hi : i < as.length
    · rw [List.getElem?_append_left (by simpa using hi), List.getElem?_map, List.getElem?_eq_getElem hi] at e
      cases e
      obtain ⟨x, hx, rp⟩ := r.get (List.getElem?_eq_getElem hi)
      refine ⟨x, ?_, rp⟩
      unfold L2.start
      rw [List.getElem?_append_left (by rw [List.length_map]; omega), List.getElem?_map, hx]; rfl
    · rw [List.getElem?_append_right (by simpa using hi), List.getElem?_replicate] at e
      split at e <;> cases e
/-- the callee's frame: the slots' own objects lie in it -/
theorem Rel.call {G : Gm} {ρ : Env} {S : Store} {I : Hp} {σ : L2.St} {H : Hp} (R : Rel G ρ S I σ H) : ∃ F', StR { G with F := F' } S I H ∧ ∀ S' I' H', Le I I' → StR { G with F := F' } S' I' H' → Rel G ρ S' I' σ H' := by
  classical
  let ow : Addr → Prop := fun a => ∃ (i : Nat) (o : SO), ρ[i]? = some (Sl.own o) ∧ σ[i]? = some (some (V.ref a))
  let F' : Hp := fun a => if ow a then H a else G.F a
  have hF1 : ∀ {a}, ow a → F' a = H a := fun h => if_pos h
  have hF2 : ∀ {a}, ¬ ow a → F' a = G.F a := fun h => if_neg h
  have own : ∀ {a}, ow a → ∃ o, OkO G I H a o ∧ I a = none ∧ S a = none ∧ G.F a = none := by
    rintro a ⟨i, o, e, h⟩
    obtain ⟨b, h1, h2, h3⟩ := R.ow i o e
    rw [h] at h1; cases h1
    exact ⟨o, h2, h3⟩
  refine ⟨F', ⟨R.sr.i0, R.sr.imm, fun a u e => ?_, fun a u e => ?_, fun a o e => ?_⟩, fun S' I' H' l h => ⟨⟨h.i0, h.imm, fun a u e => ?_, fun a u e => ?_, fun a o e => ?_⟩, R.len, fun i p e => ?_, fun i o e => ?_, R.ap⟩⟩
  · by_cases c : ow a
    · rw [← hF1 c]; exact e
    · exact R.sr.fr a u ((hF2 c).symm.trans e)
  · by_cases c : ow a
    · obtain ⟨o, _, k1, k2, _⟩ := own c; exact ⟨k1, k2⟩
    · exact R.sr.fi a u ((hF2 c).symm.trans e)
  · obtain ⟨k1, k2⟩ := R.sr.st a o e
    exact ⟨k1.gm rfl, k2⟩
  · have c : ¬ ow a := fun c => by obtain ⟨_, _, _, _, k⟩ := own c; rw [k] at e; cases e
    exact h.fr a u ((hF2 c).trans e)
  · have c : ¬ ow a := fun c => by obtain ⟨_, _, _, _, k⟩ := own c; rw [k] at e; cases e
    exact h.fi a u ((hF2 c).trans e)
  · obtain ⟨k1, k2⟩ := h.st a o e
    exact ⟨k1.gm (G' := G) rfl, k2⟩
  · obtain ⟨x, k1, k2⟩ := R.vs i p e
    exact ⟨x, k1, RP.mono l _ _ k2⟩
  · obtain ⟨a, k1, k2, k3, k4, k5⟩ := R.ow i o e
    have c : ow a := ⟨i, o, e, k1⟩
    obtain ⟨u, hu⟩ := k2.there
    have fa : F' a = some u := (hF1 c).trans hu
    have ha : H' a = H a := (h.fr a u fa).trans hu.symm
    exact ⟨a, k1, (k2.mono l).at ha, (h.fi a u fa).1, (h.fi a u fa).2, k5⟩
/-- no exception is wanted -/
abbrev noX : DX := fun _ _ _ => False
/-- a body keeps a deep promise -/
theorem fd_deep {P : Program} {w : World} {K : PySem.W.Frag} {mg : Str → Option Value} {base : Heap} {k : Nat} {f : Addr} {fd : FuncData} {name qual : Str} {st : Stmt} {dvs : List V} {N ps : List Str} {I0 : Hp} {d : DSp}
    (M : Made K f fd name qual st dvs) (S : FnScope N ps (defScope st)) (len : ∀ as S Q E, d as S Q E → as.length = ps.length)
    (hbody : ∀ (cdv : Value) (A : Around) (outer : List PySem.Env) (s : Shared) (H : Hp) (E : XK), A.guards = some [] → Room k (A.deeper (PyProof.Rows.envOfC qual (defScope st) s.heap.objs.size f cdv)) →
      ∃ T, (∀ F, DSs F I0 (cxOf CX0 P w K mg base N qual (defScope st) f cdv A outer s H E).nox (defBody st) T) ∧ ∀ as S Q, d as S Q noX → T { nx := fun _ S' => Q .non S', rt := Q } (startE N as) S)
    (dx : ∀ as S Q E, d as S Q E → d as S Q noX) : Fd P w K mg base CX0 (k + 1) f fd ps (lift K w I0 d) := by
  refine fd_of M S (fun xs H Q E ⟨F, S, I, as, Q0, X0, hS, r, q, _⟩ => by rw [← r.length]; exact len _ _ _ _ q) fun cdv A outer s H xs Q E g hr ⟨F, S0, I, as, Q0, X0, hS, r, q, h1, h2⟩ => ?_
  obtain ⟨T, hT, hq⟩ := hbody cdv A outer s H E g hr
  refine ⟨_, (hT F).nox, startE N as, S0, I, _, start_rel hS r, hq as S0 Q0 (dx _ _ _ _ q), fun σ' H' ρ' S' I' l R' q' => h1 _ _ _ _ _ l R'.sr (RP.mkN : RP (⟨K, w, F, I0⟩ : Gm) I' .non .non) q', fun x H' p S' I' l h rp q' => h1 _ _ _ _ _ l h rp q', fun _ _ _ _ _ _ _ q' => q'.elim, fun _ _ _ _ _ _ _ q' => q'.elim⟩
/-- a def's own denotation -/
def den (n : Nat) (N : List Str) (T : DS) : DSp := fun as S Q _ => as.length = n ∧ T { nx := fun _ S' => Q .non S', rt := Q } (startE N as) S
theorem fd_den {P : Program} {w : World} {K : PySem.W.Frag} {mg : Str → Option Value} {base : Heap} {k : Nat} {f : Addr} {fd : FuncData} {name qual : Str} {st : Stmt} {dvs : List V} {N ps : List Str} {I0 : Hp} {T : DS}
    (M : Made K f fd name qual st dvs) (S : FnScope N ps (defScope st))
    (hbody : ∀ (cdv : Value) (A : Around) (outer : List PySem.Env) (s : Shared) (H : Hp) (E : XK), A.guards = some [] → Room k (A.deeper (PyProof.Rows.envOfC qual (defScope st) s.heap.objs.size f cdv)) →
      ∀ F, DSs F I0 (cxOf CX0 P w K mg base N qual (defScope st) f cdv A outer s H E).nox (defBody st) T) : Fd P w K mg base CX0 (k + 1) f fd ps (lift K w I0 (den ps.length N T)) :=
  fd_deep M S (fun as S Q E h => h.1) (fun cdv A outer s H E g hr => ⟨T, hbody cdv A outer s H E g hr, fun as S Q h => h.2⟩) fun as S Q E h => h
end D
/-! D10: calls of the text's defs by deep values; the law's entry. -/
namespace D
open PySem PySem.Spec L2

/-! ### calls -/
def TCl (d : DSp) (ds : List P) (A : DA) : DT := fun ρ S Q => A ρ S fun rs ρ1 S1 => match vals rs with
  | some ps => d (ps ++ ds) S1 (fun p S2 => Q (.v p) ρ1 S2) noX
  | none => False
/-- where a parameter's value comes from -/
inductive Arg where
  | p (j : Nat) | k (j : Nat) | d (j : Nat)
def Arg.get {α : Type} (us ws ds : List α) : Arg → Option α
  | .p j => us[j]?
  | .k j => ws[j]?
  | .d j => ds[j]?
def arr {α : Type} (us ws ds : List α) : List Arg → List α
  | [] => []
  | a :: r => match a.get us ws ds with
    | some x => x :: arr us ws ds r
    | none => []
/-- a call with keywords, its arguments come -/
def finK (d : DSp) (n m : Nat) (src : List Arg) (ds : List P) (rs qs : List R) (ρ : Env) (S : Store) (Q : DQ) : Prop := match vals rs, vals qs with
  | some as, some bs => as.length = n ∧ bs.length = m ∧ d (arr as bs ds src) S (fun p S3 => Q (.v p) ρ S3) noX
  | _, _ => False
def TClK (d : DSp) (n m : Nat) (src : List Arg) (ds : List P) (A Ak : DA) : DT := fun ρ S Q => A ρ S fun rs ρ1 S1 => Ak ρ1 S1 fun ks ρ2 S2 => finK d n m src ds rs ks ρ2 S2 Q
theorem RPs.none {G : Gm} {I : Hp} {ps : List P} {vs : List V} (t : RPs G I ps vs) {j : Nat} (e : ps[j]? = none) : vs[j]? = none := by
  rw [List.getElem?_eq_none_iff] at e ⊢; rw [← t.length]; exact e
theorem Arg.rps {G : Gm} {I : Hp} {us ws ds : List P} {vs zs es : List V} (h1 : RPs G I us vs) (h2 : RPs G I ws zs) (h3 : RPs G I ds es) (a : Arg) :
    (∃ p x, a.get us ws ds = some p ∧ a.get vs zs es = some x ∧ RP G I p x) ∨ (a.get us ws ds = none ∧ a.get vs zs es = none) := by
  have key : ∀ {as : List P} {bs : List V}, RPs G I as bs → ∀ j : Nat, (∃ p x, as[j]? = some p ∧ bs[j]? = some x ∧ RP G I p x) ∨ (as[j]? = Option.none ∧ bs[j]? = Option.none) := by
    intro as bs t j
    cases e : as[j]? with
    | none => exact .inr ⟨rfl, t.none e⟩
    | some p => obtain ⟨x, hx, r⟩ := t.get e; exact .inl ⟨p, x, rfl, hx, r⟩
  cases a with
  | p j => exact key h1 j
  | k j => exact key h2 j
  | d j => exact key h3 j
theorem arr_rps {G : Gm} {I : Hp} {us ws ds : List P} {vs zs es : List V} (h1 : RPs G I us vs) (h2 : RPs G I ws zs) (h3 : RPs G I ds es) : ∀ src : List Arg, RPs G I (arr us ws ds src) (arr vs zs es src)
  | [] => rfl
  | a :: r => by
    unfold arr
    rcases Arg.rps h1 h2 h3 a with ⟨p, x, e1, e2, rp⟩ | ⟨e1, e2⟩
    · rw [e1, e2]; exact ⟨x, _, rfl, rp, arr_rps h1 h2 h3 r⟩
    · rw [e1, e2]; exact rfl
theorem arr_vals {vs zs es : List V} {us ws ds : List Value} (h1 : Vals vs us) (h2 : Vals zs ws) (h3 : Vals es ds) : ∀ src : List Arg, Vals (arr vs zs es src) (arr us ws ds src)
  | [] => .nil
  | a :: r => by
    have key : ∀ {as : List V} {bs : List Value}, Vals as bs → ∀ j : Nat, (∃ p x, as[j]? = some p ∧ bs[j]? = some x ∧ RelV p x) ∨ (as[j]? = none ∧ bs[j]? = none) := by
      intro as bs t j
      cases e : as[j]? with
      | none => refine .inr ⟨rfl, ?_⟩; rw [List.getElem?_eq_none_iff] at e ⊢; rw [← t.length]; exact e
      | some p => obtain ⟨x, hx, q⟩ := t.get e; exact .inl ⟨p, x, rfl, hx, q⟩
    have : (∃ p x, a.get vs zs es = some p ∧ a.get us ws ds = some x ∧ RelV p x) ∨ (a.get vs zs es = none ∧ a.get us ws ds = none) := by
      cases a with
      | p j => exact key h1 j
      | k j => exact key h2 j
      | d j => exact key h3 j
    unfold arr
    rcases this with ⟨p, x, e1, e2, q⟩ | ⟨e1, e2⟩
    · rw [e1, e2]; exact .cons q (arr_vals h1 h2 h3 r)
    · rw [e1, e2]; exact .nil
/-- how a call binds: the parameters' sources, the defaults -/
structure KB (K : PySem.W.Frag) (fd : FuncData) (ps : List Str) (ks : List Str) (n : Nat) (src : List Arg) (ds : List Value) : Prop where
  to : ∀ (s : Shared) (us ws : List Value), K.In s.heap → us.length = n → ws.length = ks.length → BindsTo s fd ⟨us, ks.zip ws⟩ (ps.zip (arr us ws ds src))
/-- the defaults' values -/
structure DfR (I0 : Hp) (K : PySem.W.Frag) (w : World) (ds : List P) (es : List V) (us : List Value) : Prop where
  rel : Vals es us
  rp : ∀ (F I : Hp), Le I0 I → RPs ⟨K, w, F, I0⟩ I ds es
theorem DfR.nil {I0 : Hp} {K : PySem.W.Frag} {w : World} : DfR I0 K w [] [] [] := ⟨.nil, fun _ _ _ => rfl⟩
section
variable {X : Cx} {F I0 : Hp} {k : Nat} {f : Addr} {fd : FuncData} {ps ks : List Str} {d : DSp} {x : Str} {p pos : Pos} {e : Expr} {es : List Expr} {kws : List Keyword} {A Ak : DA} {ds : List P} {dV : List V} {dU : List Value} {src : List Arg} {n : Nat}
/-- the promise used: the caller's state comes back -/
theorem run_deep {pins : List (Addr × Obj)} {σ : L2.St} {H : Hp} {s : Shared} {us ws : List Value} {kw : List (Str × Value)} {xs : List V} {as : List P} {ρ : Env} {S : Store} {I : Hp} {Q : VK} {Q0 : DQ} (Fn : Fd X.prog X.w X.K X.mg X.base CX0 k f fd ps (lift X.K X.w I0 d)) (g : X.A.guards = some []) (hr : Room k X.A)
    (hb : BindsTo s fd ⟨us, kw⟩ (ps.zip ws)) (J : L2.Inv X pins σ H s) (rv : Vals xs ws) (R : Rel (gm F I0 X) ρ S I σ H) (rp : RPs (gm F I0 X) I as xs) (q : d as S (fun p S2 => Q0 (.v p) ρ S2) noX)
    (post : ∀ x H' r ρ' S' I', Le I I' → Rel (gm F I0 X) ρ' S' I' σ H' → RR (gm F I0 X) I' σ r x → Q0 r ρ' S' → Q x H') : wpAny (model X.prog X.w) X.A (call (.ref f) us kw) (EP X pins σ Q) X.xe s := by
  obtain ⟨F', h1, h2⟩ := R.call
  refine run_fd Fn (E := fun _ _ _ => False) g hr (fun _ => hb) (fun _ _ _ _ _ _ _ z => z.elim) J rv ⟨F', S, I, as, _, noX, h1, RPs.gm _ rp rfl, q, fun x H' p S' I' l h rp' q' => ?_, fun _ _ _ _ _ _ _ _ _ z => z.elim⟩
  exact post x H' (.v p) ρ S' I' l (h2 S' I' H' l h) (RP.gm (gm F I0 X) rp' rfl) q'
theorem d_call (Fn : Fd X.prog X.w X.K X.mg X.base CX0 k f fd ps (lift X.K X.w I0 d)) (g : X.A.guards = some []) (hr : Room k X.A) (hg : Gl X x) (hm : X.mg x = some (.ref f)) (hk : PySem.W.keepIn X.K (.ref f) = true) (hb : Binds X.K fd ps dU) (hd : DfR I0 X.K X.w ds dV dU)
    (ha : DAs F I0 X (e :: es) A) (hdb : (x == ("__debug__" : Str)) = false := by decide) (he : StOk X e es := by rfl) (hpl : PlOk X pos es := by rfl) : DE F I0 X (.Call (.Name x p) (e :: es) [] pos) (TCl d ds A) := by
  refine ⟨fun pins s σ H Q J h => ?_⟩
  obtain ⟨ρ, S, I, Q0, R, h, post⟩ := h
  refine wpAny_Call_Name_kw (ld_glob J hg hm ?_ hdb)
  refine PySem.W.callWith_K (h₀ := X.base) J.ok.mod.kin hk (thn (ha.run pos pins s σ H (fun xs H1 => ∃ rs ρ1 S1 I1, Le I I1 ∧ Rel (gm F I0 X) ρ1 S1 I1 σ H1 ∧ RRs (gm F I0 X) I1 σ rs xs ∧ (match vals rs with
      | some ps => d (ps ++ ds) S1 (fun p S2 => Q0 (.v p) ρ1 S2) noX
      | none => False)) J ⟨ρ, S, I, _, R, h, fun xs H' rs ρ' S' I' l R' rr q => ⟨rs, ρ', S', I', l, R', rr, q⟩⟩) fun us s1 ⟨xs, H1, J1, rx, rs, ρ1, S1, I1, l, R1, rr, q⟩ => ⟨J1.kIn, ?_⟩) he hpl
  split at q
  · rename_i qs hq
    have rp := (vals_of rr hq).append (hd.rp F I1 R1.sr.i0)
    have rv := rx.append hd.rel
    have hl : (us ++ dU).length = ps.length := by
      rw [← rv.length]
      obtain ⟨F', h1, _⟩ := R1.call
      exact Fn.len _ _ _ _ ⟨F', S1, I1, _, _, noX, h1, RPs.gm _ rp rfl, q, fun _ _ _ _ _ _ _ _ _ => trivial, fun _ _ _ _ _ _ _ _ _ z => z⟩
    exact run_deep Fn g hr (hb s1 us J1.kIn hl) J1 rv R1 rp q fun x H' r ρ' S' I' l2 => post x H' r ρ' S' I' (l.trans l2)
  · exact q.elim
end

section
variable {K : PySem.W.Frag} {f : Addr} {fd : FuncData} {name qual : Str} {st : Stmt} {ps : List Str}
/-- keywords, no defaults -/
theorem kb0 (M : Made K f fd name qual st []) (ks : List Str) (n : Nat) (src : List Arg) (h : ∀ (kV doc pm : Value) (an : Option Addr) (cdv ct : Value) (us ws : List Value), us.length = n → ws.length = ks.length →
    bindArgs (PySem.W.fnOf name qual (defArgs st) (defBody st) (defScope st) .none kV doc pm an cdv ct) ⟨us, ks.zip ws⟩ = pure (ps.zip (arr us ws [] src))) : KB K fd ps ks n src [] := by
  obtain ⟨oc, od, dV, kV, doc, pm, an, cdv, ct, osl, rfl, lk, hcd, hD, _⟩ := M.ex
  rcases hD with ⟨_, rfl⟩ | ⟨ez, _⟩
  · exact ⟨fun s us ws _ h1 h2 => .of_eq (h kV doc pm an cdv ct us ws h1 h2)⟩
  · exact absurd rfl ez
/-- keywords and defaults -/
theorem kb1 {dvs : List V} (M : Made K f fd name qual st dvs) (ks : List Str) (n : Nat) (src : List Arg) (hd : dvs ≠ []) (h : ∀ (T : Addr) (kV doc pm : Value) (an : Option Addr) (cdv ct : Value) (us ws its : List Value), us.length = n → ws.length = ks.length → its.length = dvs.length →
    ∃ k, bindArgs (PySem.W.fnOf name qual (defArgs st) (defBody st) (defScope st) (.ref T) kV doc pm an cdv ct) ⟨us, ks.zip ws⟩ = seqItems? (.ref T) >>= k ∧ k (some its.toArray) = pure (ps.zip (arr us ws its src))) : ∃ its, Vals dvs its ∧ KB K fd ps ks n src its := by
  obtain ⟨oc, od, dV, kV, doc, pm, an, cdv, ct, osl, rfl, lk, hcd, hD, _⟩ := M.ex
  rcases hD with ⟨e, _⟩ | ⟨_, T, o, its, m, rfl, qT, oT, rT⟩
  · exact absurd e hd
  · refine ⟨its, rT, ⟨fun s us ws X h1 h2 => ?_⟩⟩
    obtain ⟨g, e1, e2⟩ := h T kV doc pm an cdv ct us ws its h1 h2 rT.length.symm
    refine BindsTo.of_looks fun _ => ?_; rw [e1]
    exact looks_items X qT oT (.of_pure e2)
end
section
variable {X : Cx} {F I0 : Hp} {k : Nat} {f : Addr} {fd : FuncData} {ps ks : List Str} {d : DSp} {x : Str} {p pos : Pos} {e : Expr} {es : List Expr} {kws : List Keyword} {A Ak : DA} {ds : List P} {dV : List V} {dU : List Value} {src : List Arg} {n : Nat}
abbrev DK (F I0 : Hp) (X : Cx) (kws : List Keyword) (T : DA) : Prop := PK X kws (trA (gm F I0 X) T)
theorem _root_.L2.PK.weak {X : Cx} {kws : List Keyword} {t t' : TA} (h : PK X kws t) (k : ∀ σ H Q, t' σ H Q → t σ H Q) : PK X kws t' := ⟨fun o p s σ H Q I q => h.run o p s σ H Q I (k _ _ _ q)⟩
theorem k_nil : DK F I0 X [] ANil := pk_nil.weak fun σ H Q h => by
  obtain ⟨ρ, S, I, Q0, R, h, post⟩ := h
  exact post [] _ [] _ _ _ Le.refl R rfl h
theorem k_cons {t : DT} {u : DA} {nm : Option Str} {kpos : Pos} (h1 : DE F I0 X e t) (h2 : DK F I0 X kws u) : DK F I0 X (⟨nm, e, kpos⟩ :: kws) (ACons t u) := by
  refine (pk_cons h1 h2).weak fun σ H Q h => ?_
  obtain ⟨ρ, S, I, Q0, R, h, post⟩ := h
  refine ⟨ρ, S, I, _, R, h, fun x H1 r ρ1 S1 I1 l1 R1 rr q => ⟨ρ1, S1, I1, _, R1, q, fun xs H2 rs ρ2 S2 I2 l2 R2 rrs q2 => ?_⟩⟩
  exact post _ _ (r :: rs) _ _ _ (l1.trans l2) R2 ⟨x, xs, rfl, rr.mono l2, rrs⟩ q2
/-- f(.., k = v, ..): the arguments have come -/
theorem fin_K (Fn : Fd X.prog X.w X.K X.mg X.base CX0 k f fd ps (lift X.K X.w I0 d)) (g : X.A.guards = some []) (hr : Room k X.A) (hb : KB X.K fd ps ks n src dU) (hd : DfR I0 X.K X.w ds dV dU)
    {pins : List (Addr × Obj)} {σ : L2.St} {H : Hp} {s : Shared} {us ws : List Value} {xs zs : List V} {rs qs : List R} {ρ : Env} {S : Store} {I I1 : Hp} {Q : VK} {Q0 : DQ} {m : Nat} (hml : ks.length = m) (J : L2.Inv X pins σ H s) (r1 : Vals xs us) (r2 : Vals zs ws) (l : Le I1 I) (R : Rel (gm F I0 X) ρ S I σ H) (rr : RRs (gm F I0 X) I1 σ rs xs) (rq : RRs (gm F I0 X) I σ qs zs)
    (q : finK d n m src ds rs qs ρ S Q0) (post : ∀ x H' r ρ' S' I', Le I I' → Rel (gm F I0 X) ρ' S' I' σ H' → RR (gm F I0 X) I' σ r x → Q0 r ρ' S' → Q x H') : wpAny (model X.prog X.w) X.A (call (.ref f) us (ks.zip ws)) (EP X pins σ Q) X.xe s := by
  subst hml
  unfold finK at q
  split at q
  · rename_i as bs e1 e2
    obtain ⟨n1, n2, q⟩ := q
    have p1 := vals_of rr e1
    have p2 := vals_of rq e2
    have rp := arr_rps (RPs.mono l _ _ p1) p2 (hd.rp F I R.sr.i0) src
    exact run_deep Fn g hr (hb.to s us ws J.kIn (by rw [← r1.length, ← p1.length]; exact n1) (by rw [← r2.length, ← p2.length]; exact n2)) J (arr_vals r1 r2 hd.rel src) R rp q post
  · exact q.elim
theorem d_callK0 {m : Nat} (Fn : Fd X.prog X.w X.K X.mg X.base CX0 k f fd ps (lift X.K X.w I0 d)) (g : X.A.guards = some []) (hr : Room k X.A) (hg : Gl X x) (hm : X.mg x = some (.ref f)) (hk : PySem.W.keepIn X.K (.ref f) = true) (hb : KB X.K fd ps ks 0 src dU) (hd : DfR I0 X.K X.w ds dV dU)
    (hkw : DK F I0 X kws Ak) (hall : (backToKw pos (keywordEach kws X.env)).all (·.1.isSome) = true := by rfl) (hks : (backToKw pos (keywordEach kws X.env)).filterMap (·.1) = ks := by rfl)
    (hml : ks.length = m := by rfl) (hdb : (x == ("__debug__" : Str)) = false := by decide) (hpl : ((backTo pos (starEach [] X.env)).any (·.1) || (backToKw pos (keywordEach kws X.env)).any (·.1.isNone)) = false := by rfl) : DE F I0 X (.Call (.Name x p) [] kws pos) (TClK d 0 m src ds ANil Ak) := by
  refine ⟨fun pins s σ H Q J h => ?_⟩
  obtain ⟨ρ, S, I, Q0, R, h, post⟩ := h
  refine wpAny_Call_Name_kw (ld_glob J hg hm ?_ hdb)
  refine PySem.W.callWith_KW0 (h₀ := X.base) J.ok.mod.kin hk hall (thn (hkw.run pos pins s σ H (fun zs H1 => ∃ qs ρ1 S1 I1, Le I I1 ∧ Rel (gm F I0 X) ρ1 S1 I1 σ H1 ∧ RRs (gm F I0 X) I1 σ qs zs ∧ finK d 0 m src ds [] qs ρ1 S1 Q0)
    J ⟨ρ, S, I, _, R, h, fun zs H' qs ρ' S' I' l R' rq q => ⟨qs, ρ', S', I', l, R', rq, q⟩⟩) fun ws s1 ⟨zs, H1, J1, rz, qs, ρ1, S1, I1, l, R1, rq, q⟩ => ⟨J1.kIn, ?_⟩) hpl
  rw [hks]
  exact fin_K (xs := []) (us := []) (rs := []) (I1 := I1) Fn g hr hb hd hml J1 .nil rz Le.refl R1 rfl rq q fun x H' r ρ' S' I' l2 => post x H' r ρ' S' I' (l.trans l2)
theorem d_callK {m : Nat} (Fn : Fd X.prog X.w X.K X.mg X.base CX0 k f fd ps (lift X.K X.w I0 d)) (g : X.A.guards = some []) (hr : Room k X.A) (hg : Gl X x) (hm : X.mg x = some (.ref f)) (hk : PySem.W.keepIn X.K (.ref f) = true) (hb : KB X.K fd ps ks n src dU) (hd : DfR I0 X.K X.w ds dV dU)
    (ha : DAs F I0 X (e :: es) A) (hkw : DK F I0 X kws Ak) (hall : (backToKw pos (keywordEach kws X.env)).all (·.1.isSome) = true := by rfl) (hks : (backToKw pos (keywordEach kws X.env)).filterMap (·.1) = ks := by rfl)
    (hml : ks.length = m := by rfl) (hdb : (x == ("__debug__" : Str)) = false := by decide) (he : StOk X e es := by rfl) (hpl : ((backTo pos (starEach (e :: es) X.env)).any (·.1) || (backToKw pos (keywordEach kws X.env)).any (·.1.isNone)) = false := by rfl) : DE F I0 X (.Call (.Name x p) (e :: es) kws pos) (TClK d n m src ds A Ak) := by
  refine ⟨fun pins s σ H Q J h => ?_⟩
  obtain ⟨ρ, S, I, Q0, R, h, post⟩ := h
  refine wpAny_Call_Name_kw (ld_glob J hg hm ?_ hdb)
  refine PySem.W.callWith_KW (h₀ := X.base) J.ok.mod.kin hk hall (thn (ha.run pos pins s σ H (fun xs H1 => ∃ rs ρ1 S1 I1, Le I I1 ∧ Rel (gm F I0 X) ρ1 S1 I1 σ H1 ∧ RRs (gm F I0 X) I1 σ rs xs ∧ Ak ρ1 S1 fun ks' ρ2 S2 => finK d n m src ds rs ks' ρ2 S2 Q0)
    J ⟨ρ, S, I, _, R, h, fun xs H' rs ρ' S' I' l R' rr q => ⟨rs, ρ', S', I', l, R', rr, q⟩⟩) fun us s1 ⟨xs, H1, J1, rx, rs, ρ1, S1, I1, l, R1, rr, q1⟩ => ?_) hpl he
  refine thn (hkw.run pos pins s1 σ H1 (fun zs H2 => ∃ qs ρ2 S2 I2, Le I1 I2 ∧ Rel (gm F I0 X) ρ2 S2 I2 σ H2 ∧ RRs (gm F I0 X) I2 σ qs zs ∧ finK d n m src ds rs qs ρ2 S2 Q0)
    J1 ⟨ρ1, S1, I1, _, R1, q1, fun zs H' qs ρ' S' I' l R' rq q => ⟨qs, ρ', S', I', l, R', rq, q⟩⟩) fun ws s2 ⟨zs, H2, J2, rz, qs, ρ2, S2, I2, l2, R2, rq, q⟩ => ⟨J2.kIn, ?_⟩
  rw [hks]
  exact fin_K Fn g hr hb hd hml J2 rx rz l2 R2 rr rq q fun x H' r ρ' S' I' l3 => post x H' r ρ' S' I' (l.trans (l2.trans l3))
end

/-! ### the law's entry -/
abbrev E0 : Hp := fun _ => none
abbrev St0 : Store := fun _ => none
/-- the law's own promise: a script comes in, True goes out -/
def dLaw (n : Nat) : DSp := fun as S Q _ => ∃ ns : List Int, as = [.scr (ns.map P.int)] ∧ ns.length ≤ n ∧ ∀ S', Q (.bl true) S'
theorem scr_rps {G : Gm} {I : Hp} : ∀ ns : List Int, RPs G I (ns.map P.int) (ns.map V.int)
  | [] => rfl
  | n :: r => ⟨.int n, _, rfl, rfl, scr_rps r⟩
/-- the run from a heap in which at most the script is known -/
theorem enter_D {P : Program} {w : World} {K : PySem.W.Frag} {mg mb : Str → Option Value} {k n : Nat} {fa a : Addr} {fd : FuncData} {x : Str} {s₁ : Shared} {ns : List Int} {H : Hp}
    (KX : K.In s₁.heap) (hns : s₁.heap.Ns mainGlobals mg) (hb : s₁.heap.Ns builtinsNs mb) (hbb : ∀ x : Str, x ≠ "__name__" → mb x = bootBuiltins x) (hlim : s₁.heap.NoLimit) (hg : s₁.gens = #[]) (hr : Room k callerA)
    (F : ∀ base : Heap, K.In base → base.Ns mainGlobals mg → Fd P w K mg base CX0 k fa fd [x] (lift K w E0 (dLaw n))) (hbind : ∀ (s : Shared) (u : Value), BindsTo s fd ⟨[u], []⟩ [(x, u)]) (hl : ns.length ≤ n)
    (hok : HOk P w H s₁.heap) (hS : SqL K H a (ns.map V.int)) (hO : ∀ b u, H b = some u → ∃ o ys, u = .frz o (.lst ys) ∧ K.lookup b = none ∧ ∀ ob es ep, s₁.heap.get? b = some ob → ob.data ≠ .dict es ep) :
    codeAny (model P w) callerA (.call (.ref fa) ⟨[.ref a], []⟩) (fun r s' => r = .ok (.ret (.bool true)) ∧ OldK s₁.heap s'.heap ∧ s'.os = s₁.os ∧ PyProof.Rows.AllBare s'.gens) s₁ := by
  have free : ∀ {b : Addr} {o : Obj} {es : Array DictEntry} {ep : Nat}, s₁.heap.get? b = some o → o.data = .dict es ep → H b = none := fun {b o es ep} e d => by
    cases q : H b with
    | none => rfl
    | some u => obtain ⟨_, _, _, _, h⟩ := hO b u q; exact (h o es ep e d).elim
  have ns' : ∀ {b : Addr} {m : Str → Option Value}, s₁.heap.Ns b m → (hidT s₁.heap H).Ns b m := fun ⟨o, es, ep, e, d, r⟩ => ⟨o, es, ep, hidT_get e (free e d), d, r⟩
  have kin : K.In (hidT s₁.heap H) := fun b o e => hidT_get (KX b o e) (by
    cases q : H b with
    | none => rfl
    | some u => obtain ⟨_, _, _, h, _⟩ := hO b u q; rw [h] at e; cases e)
  obtain ⟨mc, l1, l2⟩ := hlim
  have env : Env0 P w K mg (hidT s₁.heap H) callerA [] s₁ H := ⟨rfl, ⟨kin, ns' hns, ⟨mb, ns' hb, hbb⟩, mc, ns' l1, l2⟩, fun b o e => of_hidT e, Nat.le_of_eq (hidT_size _ _), trivial, fun b hb => (nomatch hb), hok, .of_eq hg⟩
  have sr : StR ⟨K, w, E0, E0⟩ St0 H H := ⟨fun _ _ e => (nomatch e), Le.refl, fun _ _ e => (nomatch e), fun _ _ e => (nomatch e), fun _ _ e => (nomatch e)⟩
  refine codeAny_mono ((F _ kin (ns' hns)).run callerA [] s₁ H ⟨[.ref a], []⟩ [.ref a] [.ref a] (fun v _ => v = .bl true) (fun _ _ _ => False) rfl hr env (hbind s₁ (.ref a)) (.cons rfl .nil)
    ⟨E0, St0, H, [.scr (ns.map D.P.int)], fun p _ => p = .bl true, noX, sr, ⟨.ref a, [], rfl, ⟨a, _, rfl, hS, scr_rps ns⟩, rfl⟩, ⟨ns, rfl, hl, fun _ => rfl⟩, fun v H' p S' I' _ _ rp e => by subst e; exact rp, fun _ _ _ _ _ _ _ _ _ z => z⟩) fun r s' h => ?_
  cases r with
  | error e => exact h.elim
  | ok fl =>
    cases fl with
    | next => exact h.elim
    | brk => exact h.elim
    | cont => exact h.elim
    | ret u =>
      obtain ⟨v, H', os, bare, un, hok', rv, q⟩ := h
      have q' : v = .bl true := q
      subst q'
      obtain rfl : u = Value.bool true := rv
      refine ⟨rfl, OldK.of_keep (fun b o e => ?_), os, bare⟩
      cases q : H b with
      | none => exact un.keep b o e q (fun z => nomatch (show b ∈ ([] : List Addr) from z)) (by simp)
      | some u =>
        obtain ⟨ob, ys, rfl, _⟩ := hO b u q
        obtain ⟨e1, _⟩ := hok b _ q
        obtain ⟨e2, _⟩ := hok' b _ (un.frzs b ob _ q)
        rw [e] at e1; cases e1
        exact e2
theorem call_D {P : Program} {w : World} {K : PySem.W.Frag} {mg mb : Str → Option Value} {k n : Nat} {fa a : Addr} {fd : FuncData} {x : Str} {s₁ : Shared} {vs : List Value} {ns : List Int}
    (KX : K.In s₁.heap) (hns : s₁.heap.Ns mainGlobals mg) (hb : s₁.heap.Ns builtinsNs mb) (hbb : ∀ x : Str, x ≠ "__name__" → mb x = bootBuiltins x) (hlim : s₁.heap.NoLimit) (hg : s₁.gens = #[]) (hr : Room k callerA)
    (F : ∀ base : Heap, K.In base → base.Ns mainGlobals mg → Fd P w K mg base CX0 k fa fd [x] (lift K w E0 (dLaw n))) (hbind : ∀ (s : Shared) (u : Value), BindsTo s fd ⟨[u], []⟩ [(x, u)]) (hl : ns.length ≤ n) (hn : n ≤ sizeLine)
    (ha : s₁.heap.get? a = some ⟨.type "list", none, .seq vs.toArray 0, #[]⟩) (hi : PyProof.Rows.IntsAre vs ns) :
    codeAny (model P w) callerA (.call (.ref fa) ⟨[.ref a], []⟩) (fun r s' => r = .ok (.ret (.bool true)) ∧ OldK s₁.heap s'.heap ∧ s'.os = s₁.os ∧ PyProof.Rows.AllBare s'.gens) s₁ := by
  have rv := L2.vals_ints hi
  have lenV := hi.length
  cases hk : K.lookup a with
  | some o =>
    have e := KX a o hk
    rw [ha] at e; cases e
    refine enter_D (H := E0) KX hns hb hbb hlim hg hr F hbind hl (fun b u z => (nomatch z)) (.inr ⟨_, vs.toArray, _, hk, rfl, rfl, rfl, ?_, by simpa using rv⟩) fun b u z => (nomatch z)
    rw [List.size_toArray, lenV]; omega
  | none =>
    refine enter_D (H := upd E0 a (.frz ⟨.type "list", none, .seq vs.toArray 0, #[]⟩ (.lst (ns.map V.int)))) KX hns hb hbb hlim hg hr F hbind hl (fun b u z => ?_) (.inl (.inr ⟨_, upd_same⟩)) fun b u z => ?_
    · by_cases c : b = a
      · subst c; rw [upd_same] at z; cases z
        exact ⟨ha, by rw [List.length_map]; omega, vs, _, rv, ha⟩
      · rw [upd_ne c] at z; cases z
    · by_cases c : b = a
      · subst c; rw [upd_same] at z; cases z
        refine ⟨_, _, rfl, hk, fun ob es ep e d => ?_⟩
        rw [ha] at e; cases e; cases d
      · rw [upd_ne c] at z; cases z
/-- what the head leaves, from the law's deep promise -/
theorem walk_D {l : PySem.W.OpenLaw} {n k : Nat} {q : Program} {loose : List Str} {XP : (Str → Option Value) → Heap → Prop} {YP : World → Heap → Prop} {d : DefRec} {x : Str}
    (hr : Room k callerA) (hn2 : n ≤ sizeLine) (hn : l.most = some n) (hdf : d.params.defaults = [])
    (F : ∀ (w : World) (mg : Str → Option Value) (fa : Addr) (h : Heap), YP w h → h.Ns mainGlobals mg → mg d.name = some (.ref fa) → ∃ (K : PySem.W.Frag) (fd : FuncData), K.In h ∧ (∀ (s : Shared) (u : Value), BindsTo s fd ⟨[u], []⟩ [(x, u)]) ∧ ∀ base : Heap, K.In base → base.Ns mainGlobals mg → Fd l.prog w K mg base CX0 k fa fd [x] (lift K w E0 (dLaw n))) :
    PySem.W.WalkO q loose XP YP l.row.toRowW d [] (fun g us => PySem.call g us) := by
  refine Att.attach_call hn hdf fun w _ s₁ mg _ fa _ _ _ _ a vs ns G Y _ _ _ hmg hobj hints hlen hg => ?_
  obtain ⟨K, fd, KX, hb, hF⟩ := F w mg fa _ Y G.T.g hmg
  exact call_D KX G.T.g G.T.b G.T.builtins G.T.nolimit hg hr hF hb hlen hn2 hobj hints
end D
/-! D11: short words for printed derivations. -/
namespace D
open PySem PySem.Spec L2
structure Cal (P : Program) (w : World) (K : PySem.W.Frag) (mg : Str → Option Value) (base : Heap) (k : Nat) (x : Str) (ps : List Str) (st : Stmt) (dvs : List V) (d : DSp) (f : Addr) (fd : FuncData) : Prop where
  hm : mg x = some (.ref f)
  made : Made K f fd x x st dvs
  fn : Fd P w K mg base CX0 k f fd ps (lift K w E0 d)
section
variable {X : Cx} {F I0 : Hp} {x : Str} {pos : Pos}
theorem dv (i : Nat) (hN : X.N[i]? = some x := by rfl) (hv : Vis X.env.scope x := by first | exact Or.inl rfl | exact Or.inr (Or.inl rfl) | exact Or.inr (Or.inr rfl)) (hd : (x == ("__debug__" : Str)) = false := by decide) (hcd : (x == ("__classdict__" : Str)) = false := by decide) : DE F I0 X (.Name x pos) (TV i) := d_var hN hv hd hcd
theorem dvf (i : Nat) (hN : X.N[i]? = some x := by rfl) (hv : Vis X.env.scope x := by first | exact Or.inl rfl | exact Or.inr (Or.inl rfl) | exact Or.inr (Or.inr rfl)) (hd : (x == ("__debug__" : Str)) = false := by decide) (hcd : (x == ("__classdict__" : Str)) = false := by decide) : DE F I0 X (.Name x pos) (TF i) := d_frz hN hv hd hcd
/-- a constant of the module -/
def cOf : V → Option P
  | .non => some .non
  | .bl b => some (.bl b)
  | .int i => some (.int i)
  | _ => none
theorem cOf_rp {G : Gm} {I : Hp} {v : V} {p : P} (h : cOf v = some p) : RP G I p v := by
  unfold cOf at h
  split at h
  · cases h; rfl
  · cases h; rfl
  · cases h; rfl
  · cases h
theorem dg {v : V} {p : P} (h : ∃ u, X.mg x = some u ∧ RelV v u) (hp : cOf v = some p := by rfl) (hg : Gl X x := by rfl) (hd : (x == ("__debug__" : Str)) = false := by decide) : DE F I0 X (.Name x pos) (TC p) := by
  obtain ⟨u, hm, r⟩ := h
  exact d_glob hg hm r (fun _ _ => cOf_rp hp) hd
theorem dgs {s : Str} (h : ∃ u, X.mg x = some u ∧ RelV (.str s) u) (hp : (decide (s.length ≤ sizeLine) && PyData.strOk s) = true := by decide +kernel) (hg : Gl X x := by rfl) (hd : (x == ("__debug__" : Str)) = false := by decide) : DE F I0 X (.Name x pos) (TC (.str s)) := by
  obtain ⟨u, hm, r⟩ := h
  rw [Bool.and_eq_true] at hp
  exact d_glob hg hm r (fun _ _ => ⟨rfl, of_decide_eq_true hp.1, hp.2⟩) hd
theorem w_pt {e : Expr} {B : DB} (h : DW F I0 X e B) : DTs F I0 X e B := h.pt
end
/-! ### what the head finds -/
section
variable {mg : Str → Option Value} {K : PySem.W.Frag} {h : Heap}
theorem made0 {x : Str} {st : Stmt} {f : Addr} {oc : Value} {od an : Option Addr} {osl : Array (Option Value)} {kV doc pm cdv ct : Value} (X : K.In h) (G : h.Ns mainGlobals mg) (a : PySem.W.nsIn K mainGlobals x = some (some (.ref f)))
    (l : K.lookup f = some ⟨oc, od, .func (PySem.W.fnOf x x (defArgs st) (defBody st) (defScope st) .none kV doc pm an cdv ct), osl⟩) (c : PySem.W.codeIn K cdv x = true) (k : PySem.W.keepIn K (.ref f) = true) : ∃ f fd, Made K f fd x x st [] ∧ mg x = some (.ref f) :=
  ⟨f, _, ⟨⟨oc, od, .none, kV, doc, pm, an, cdv, ct, osl, rfl, l, c, .inl ⟨rfl, rfl⟩, .inl rfl⟩, k⟩, PySem.W.mg_of X G a⟩
theorem made1 {x : Str} {st : Stmt} {f T : Addr} {oc tc : Value} {od an td : Option Addr} {osl tsl : Array (Option Value)} {kV doc pm cdv ct : Value} {its : Array Value} {n : Nat} {dvs : List V} (X : K.In h) (G : h.Ns mainGlobals mg) (a : PySem.W.nsIn K mainGlobals x = some (some (.ref f)))
    (l : K.lookup f = some ⟨oc, od, .func (PySem.W.fnOf x x (defArgs st) (defBody st) (defScope st) (.ref T) kV doc pm an cdv ct), osl⟩) (c : PySem.W.codeIn K cdv x = true) (k : PySem.W.keepIn K (.ref f) = true)
    (t : K.lookup T = some ⟨tc, td, .seq its n, tsl⟩) (r : Vals dvs its.toList) (hd : dvs ≠ []) : ∃ f fd, Made K f fd x x st dvs ∧ mg x = some (.ref f) :=
  ⟨f, _, ⟨⟨oc, od, .ref T, kV, doc, pm, an, cdv, ct, osl, rfl, l, c, .inr ⟨hd, T, _, its.toList, n, rfl, t, by simp, r⟩, .inl rfl⟩, k⟩, PySem.W.mg_of X G a⟩
theorem cst {x : Str} {u : Value} {v : V} (X : K.In h) (G : h.Ns mainGlobals mg) (a : PySem.W.nsIn K mainGlobals x = some (some u)) (r : RelV v u) : ∃ u, mg x = some u ∧ RelV v u := ⟨u, PySem.W.mg_of X G a, r⟩
theorem Made.eq {f : Addr} {fd fd' : FuncData} {x : Str} {st : Stmt} {dvs : List V} (h : Made K f fd x x st dvs) (h' : Made K f fd' x x st dvs) : fd = fd' := by
  obtain ⟨_, _, _, _, _, _, _, _, _, _, _, l, _⟩ := h.ex
  obtain ⟨_, _, _, _, _, _, _, _, _, _, _, l', _⟩ := h'.ex
  rw [l] at l'; cases l'; rfl
/-- the law's def, its deep promise from its own denotation -/
theorem law_of {P : Program} {w : World} {fa : Addr} {k n : Nat} {x p : Str} {st : Stmt} {d : DSp} (f_law : ∃ f fd, Made K f fd x x st [] ∧ mg x = some (.ref f)) (hfa : mg x = some (.ref fa))
    (c : ∀ base : Heap, ∃ f fd, Cal P w K mg base k x [p] st [] d f fd) (hb : ∀ {f : Addr} {fd : FuncData} (M : Made K f fd x x st []) (s : Shared) (u : Value), BindsTo s fd ⟨[u], []⟩ [(p, u)])
    (hd : ∀ as S Q E, dLaw n as S Q E → d as S Q noX) : ∃ fd : FuncData, (∀ (s : Shared) (u : Value), BindsTo s fd ⟨[u], []⟩ [(p, u)]) ∧ ∀ base : Heap, Fd P w K mg base CX0 k fa fd [p] (lift K w E0 (dLaw n)) := by
  obtain ⟨f, fd, M, hm⟩ := f_law
  obtain rfl : f = fa := by rw [hfa] at hm; cases hm; rfl
  refine ⟨fd, hb M, fun base => ?_⟩
  obtain ⟨f', fd', C⟩ := c base
  have hm' := C.hm
  rw [hm] at hm'; cases hm'
  obtain rfl := M.eq C.made
  refine ⟨fun xs H Q E ⟨F, S, I, as, Q0, X0, h1, h2, h3, _⟩ => ?_, fun A outer s H args us xs Q E g r e b rv ⟨F, S, I, as, Q0, X0, h1, h2, h3, h4, h5⟩ => C.fn.run A outer s H args us xs Q E g r e b rv ⟨F, S, I, as, Q0, noX, h1, h2, hd _ _ _ _ h3, h4, fun _ _ _ _ _ _ _ _ _ z => z.elim⟩⟩
  rw [← h2.length]
  obtain ⟨ns, rfl, _⟩ := h3
  rfl
end
end D
/-! D12: statements never reached; a name stored within a test (:=); x = [comprehension]. -/
namespace D
open PySem PySem.Spec L2
section
variable {X : Cx} {F I0 : Hp} {pos : Pos} {st : Stmt} {t u : DS}
/-- never reached -/
def SNever : DS := fun _ _ _ => False
theorem s_never : DSt F I0 X st SNever := ps_never.weak fun D σ H ⟨_, _, _, _, _, q, _⟩ => q.elim
/-- tests that store a name -/
def trTw (G : Gm) (T : DB) : TTw := fun σ H Q => ∃ (ρ : Env) (S : Store) (I : Hp) (Q0 : Bool → Env → Store → Prop), Rel G ρ S I σ H ∧ T ρ S Q0 ∧
  ∀ b σ' H' ρ' S' I', Le I I' → Rel G ρ' S' I' σ' H' → Q0 b ρ' S' → Q b σ' H'
abbrev DTw (F I0 : Hp) (X : Cx) (e : Expr) (T : DB) : Prop := PTw X e (trTw (gm F I0 X) T)
theorem _root_.L2.PTw.weak {X : Cx} {e : Expr} {t t' : TTw} (h : PTw X e t) (k : ∀ σ H Q, t' σ H Q → t σ H Q) : PTw X e t' := ⟨fun p s σ H Q I q => h.run p s σ H Q I (k _ _ _ q)⟩
/-- (x := e) op f -/
def BW (i : Nat) (d : R → R → Env → Store → K1 → Prop) (ta tb : DT) : DB := fun ρ S Q => ta ρ S fun a ρ1 S1 => match a with
  | .v p => tb (ρ1.set i (.v p)) S1 fun b ρ2 S2 => d (.v p) b ρ2 S2 fun z => match z with
    | .bl c => Q c ρ2 S2
    | _ => False
  | .loc _ => False
/-- x := e, its truth -/
def BWt (i : Nat) (ta : DT) : DB := fun ρ S Q => ta ρ S fun a ρ1 S1 => match a with
  | .v p => match truD (ρ1.set i (.v p)) S1 (.v p) with
    | some c => Q c (ρ1.set i (.v p)) S1
    | none => False
  | .loc _ => False
theorem bw_cmp {i : Nat} {x : Str} {e f : Expr} {op : CmpOp} {d : R → R → Env → Store → K1 → Prop} {Ta Tb : DT} {p1 p2 : Pos} (hN : X.N.Nodup) (hi : X.N[i]? = some x) (hx : Loc X.env.scope x) (ho : Op2 X (compareOp op) d) (ha : DE F I0 X e Ta) (hb : DE F I0 X f Tb) (hm : behindInMarks op f = false)
    (hf : X.fn x = true ∨ X.env.scope.names.lookup x = some .local := by first | exact .inl rfl | exact .inr rfl | assumption) : DTw F I0 X (.Compare (.NamedExpr (.Name x p1) e p2) [op] [f] pos) (BW i d Ta Tb) := by
  refine (ptw_cmp (ho.r F I0) (pew_named hN hi hx (pew_of ha) hf) hb hm).weak fun σ H Q ⟨ρ, S, I, Q0, R, q, post⟩ => ?_
  refine ⟨ρ, S, I, _, R, q, fun x H1 r ρ1 S1 I1 l1 R1 rr q1 => ?_⟩
  split at q1
  · rename_i p
    refine ⟨ρ1.set i (.v p), S1, I1, _, R1.put rr, q1, fun y H2 r2 ρ2 S2 I2 l2 R2 rr2 q2 => ?_⟩
    refine ⟨ρ2, S2, I2, _, .v p, r2, _, R2, RP.mono l2 _ _ rr, rr2, q2, fun z H' z' I' l R' rz k => ?_⟩
    split at k
    · cases rz
      exact ⟨_, rfl, post _ _ _ _ _ _ (l1.trans (l2.trans l)) R' k⟩
    · exact k.elim
  · exact q1.elim
theorem bw_tru {i : Nat} {x : Str} {e : Expr} {Ta : DT} {p1 p2 : Pos} (hN : X.N.Nodup) (hi : X.N[i]? = some x) (hx : Loc X.env.scope x) (ha : DE F I0 X e Ta)
    (hf : X.fn x = true ∨ X.env.scope.names.lookup x = some .local := by first | exact .inl rfl | exact .inr rfl | assumption) : DTw F I0 X (.NamedExpr (.Name x p1) e p2) (BWt i Ta) := by
  refine (ptw_truth (pew_named hN hi hx (pew_of ha) hf)).weak fun σ H Q ⟨ρ, S, I, Q0, R, q, post⟩ => ?_
  refine ⟨ρ, S, I, _, R, q, fun x H1 r ρ1 S1 I1 l1 R1 rr q1 => ?_⟩
  split at q1
  · rename_i p
    split at q1
    · rename_i c e
      have R2 := R1.put (i := i) rr
      exact ⟨c, R2.tru (r := .v p) rr e, post _ _ _ _ _ _ l1 R2 q1⟩
    · exact q1.elim
  · exact q1.elim
theorem s_ifW {c : Expr} {a b : List Stmt} {B : DB} (hc : DTw F I0 X c B) (ha : DSs F I0 X a t) (hb : DSs F I0 X b u) : DSt F I0 X (.If c a b pos) (SIf B t u) := by
  refine (ps_ifW hc ha hb).weak fun D σ H ⟨ρ, S, I, D0, R, q, h1, h2, h3, h4⟩ => ?_
  refine ⟨ρ, S, I, _, R, q, fun c σ' H' ρ' S' I' l R' q => ?_⟩
  cases c with
  | true => exact trS.at l R' q h1 h2 h3 h4
  | false => exact trS.at l R' q h1 h2 h3 h4
/-- a, b = x, y with plain local names -/
theorem s_par {i j : Nat} {x y : Str} {a b : Expr} {A : DA} {px py pt : Pos} {kt k2 : Nat} {pt2 : Pos} (hc : X.calm = true) (hN : X.N.Nodup) (hi : X.N[i]? = some x) (hj : X.N[j]? = some y) (hij : i ≠ j)
    (hx : X.env.scope.names.lookup x = some .local) (hy : X.env.scope.names.lookup y = some .local) (ha : DAs F I0 X [a, b] A) (hw : swappedStores [.Tuple [.Name x px, .Name y py] kt pt] (.Tuple [a, b] k2 pt2) X.env = pure (some [x, y]))
    (hs : swapsWithSole [.Tuple [.Name x px, .Name y py] kt pt] (.Tuple [a, b] k2 pt2) pos.line X.env = pure false := by rfl) : DSt F I0 X (.Assign [.Tuple [.Name x px, .Name y py] kt pt] (.Tuple [a, b] k2 pt2) pos) (SAsg (TTup A) (GT 2 (GCons (GN i) (GCons (GN j) GNil)))) := by
  refine (ps_par hc hN hi hj hij hx hy ha hw hs).weak fun D σ H ⟨ρ, S, I, D0, R, q, h1, h2, h3, h4⟩ => ?_
  refine ⟨ρ, S, I, _, R, q, fun xs H' rs ρ' S' I' l R' rr q => ?_⟩
  split at q
  · rename_i ps e
    obtain ⟨hz, hl, q⟩ := q
    have t := vals_of rr e
    match ps, hl with
    | [p1, p2], _ =>
      obtain ⟨x1, _, rfl, r1, x2, _, rfl, r2, rfl⟩ := t
      exact ⟨x1, x2, rfl, h1 _ _ _ _ _ l ((R'.put r1).put r2) q⟩
  · exact q.elim
end
end D
/-! D13: plain lemmas that the laws share: slices, texts of data, equality, comprehensions. -/
namespace D
open PySem PySem.Spec L2

theorem szL {n : Nat} (h : n ≤ 10000000) : n ≤ sizeLine := by rw [sizeLine_eq]; omega
/-! ### slices -/
theorem cutLen {α : Type} (xs : List α) (lo hi : Option Int) : (cut xs lo hi).length ≤ xs.length := by
  unfold cut; rw [List.length_take, List.length_drop]; omega
theorem cutMem {α : Type} {xs : List α} {lo hi : Option Int} {x : α} (h : x ∈ cut xs lo hi) : x ∈ xs := List.mem_of_mem_drop (List.mem_of_mem_take h)
theorem cutMap {α β : Type} (f : α → β) (xs : List α) (lo hi : Option Int) : cut (xs.map f) lo hi = (cut xs lo hi).map f := by
  unfold cut; rw [List.length_map, List.map_take, List.map_drop]
theorem cutHi {α : Type} (xs : List α) {i : Int} (h : 0 ≤ i) : cut xs none (some i) = xs.take i.toNat := by
  have e1 : HT.sIx xs.length 0 none = 0 := rfl
  have e2 : HT.sIx xs.length xs.length (some i) = min i.toNat xs.length := by
    show (if i < 0 then (i + (xs.length : Int)).toNat else min i.toNat xs.length) = _
    rw [if_neg (by omega)]
  unfold cut
  rw [e1, e2, List.drop_zero, Nat.sub_zero]
  by_cases c : i.toNat ≤ xs.length
  · rw [Nat.min_eq_left c]
  · rw [Nat.min_eq_right (by omega), List.take_length, List.take_of_length_le (by omega)]
theorem cutLo {α : Type} (xs : List α) {i : Int} (h : 0 ≤ i) : cut xs (some i) none = xs.drop i.toNat := by
  have e1 : HT.sIx xs.length 0 (some i) = min i.toNat xs.length := by
    show (if i < 0 then (i + (xs.length : Int)).toNat else min i.toNat xs.length) = _
    rw [if_neg (by omega)]
  have e2 : HT.sIx xs.length xs.length none = xs.length := rfl
  unfold cut
  rw [e1, e2]
  by_cases c : i.toNat ≤ xs.length
  · rw [Nat.min_eq_left c, List.take_of_length_le (by rw [List.length_drop] <;> omega)]
  · rw [Nat.min_eq_right (by omega), List.drop_length, List.drop_eq_nil_of_le (by omega), Nat.sub_self, List.take_zero]
theorem atNat {α : Type} {xs : List α} {i : Int} (h0 : 0 ≤ i) (h1 : i < xs.length) : atI xs i = some (xs[i.toNat]'(by omega)) := by
  unfold atI ixN
  rw [if_pos h0, if_pos h1]
  simp [show i.toNat < xs.length by omega]
theorem atIn {xs : List P} {i : Int} (h0 : 0 ≤ i) (h1 : i < xs.length) : ∃ p, atI xs i = some p ∧ p ∈ xs := ⟨_, atNat h0 h1, List.getElem_mem _⟩

/-! ### equality -/
mutual
theorem eqRefl : ∀ p : P, p.isE = true → PyData.eqv p.dat p.dat = true
  | .non, _ => by simp only [P.dat, PyData.eqv]
  | .bl b, _ => by simp only [P.dat, PyData.eqv]; exact beq_self_eq_true _
  | .int i, _ => by simp only [P.dat, PyData.eqv]; exact beq_self_eq_true _
  | .str s, _ => by simp only [P.dat, PyData.eqv]; exact beq_self_eq_true _
  | .tup xs, h => by simp only [P.dat, PyData.eqv]; exact eqReflAll xs h
  | .lst xs, h => by simp only [P.dat, PyData.eqv]; exact eqReflAll xs h
  | .dct _, h => nomatch h
  | .scr _, h => nomatch h
  | .ty _, h => nomatch h
  | .ref _, h => nomatch h
  | .ins _ _, h => nomatch h
theorem eqReflAll : ∀ ps : List P, P.isEs ps = true → PyData.eqvAll (P.dats ps) (P.dats ps) = true
  | [], _ => by simp only [P.dats, PyData.eqvAll]
  | p :: ps, h => by
    have h' : p.isE = true ∧ P.isEs ps = true := by simpa [P.isEs] using h
    simp only [P.dats, PyData.eqvAll, eqRefl p h'.1, eqReflAll ps h'.2, Bool.and_self]
end
theorem eqSelf {p : P} (h : p.isE = true) : eqP p p = true := eqRefl p h

/-! ### texts of data -/
/-- it can be shown: n levels at most, B signs at most -/
structure Sh (n B : Nat) (p : P) : Prop where
  e : p.isE = true
  d : p.dep ≤ n
  s : p.dat.showable = true
  l : p.dat.shown.length ≤ B
theorem Sh.mono {n B n' B' : Nat} {p : P} (h : Sh n B p) (hn : n ≤ n') (hB : B ≤ B') : Sh n' B' p := ⟨h.e, Nat.le_trans h.d hn, h.s, Nat.le_trans h.l hB⟩
theorem Sh.int {i : Int} {k : Nat} (hk : 0 < k) (h : i.natAbs.log2 < k) (k2 : k ≤ 1920) : Sh 0 (k + 1) (.int i) := by
  refine ⟨rfl, Nat.le_refl 0, ?_, ?_⟩
  · show decide (i.natAbs.log2 < 1920) = true
    exact decide_eq_true (show i.natAbs.log2 < 1920 by omega)
  · have := int_text_length_le hk h
    show (Str.ofString (toString i)).length ≤ k + 1
    rw [ofString_length]; exact this
theorem Sh.bl {b : Bool} : Sh 0 5 (.bl b) := ⟨rfl, Nat.le_refl 0, rfl, by cases b <;> decide +kernel⟩
theorem Sh.non : Sh 0 4 .non := ⟨rfl, Nat.le_refl 0, rfl, by decide +kernel⟩
theorem Sh.str {s : Str} : Sh 0 (reprText s).length (.str s) := ⟨rfl, Nat.le_refl 0, rfl, Nat.le_refl _⟩
theorem joinLen (B : Nat) : ∀ ts : List Str, (∀ t ∈ ts, t.length ≤ B) → (Str.join ", " ts).length ≤ ts.length * (B + 2)
  | [], _ => by simp [Str.join, Str.length, Str.empty]
  | [x], h => by have := h x (List.mem_cons_self ..); show x.length ≤ 1 * (B + 2); omega
  | x :: y :: r, h => by
    have ih := joinLen B (y :: r) fun t ht => h t (List.mem_cons_of_mem _ ht)
    have hx := h x (List.mem_cons_self ..)
    show ((x ++ ", ") ++ Str.join ", " (y :: r)).length ≤ _
    rw [cat_len, cat_len, show ((", " : Str)).length = 2 from rfl, List.length_cons, Nat.succ_mul]
    omega
theorem fromLen (B : Nat) : ∀ (ts : List Str) (k : Nat) (acc : Str), (∀ t ∈ ts, t.length ≤ B) → (textFrom k acc ts).length ≤ acc.length + ts.length * (B + 2)
  | [], _, acc, _ => by show acc.length ≤ _; omega
  | t :: r, k, acc, h => by
    have ih := fromLen B r (k + 1) (acc ++ (if k > 0 then ", " else "" : String) ++ t) fun u hu => h u (List.mem_cons_of_mem _ hu)
    have ht := h t (List.mem_cons_self ..)
    show (textFrom (k + 1) _ _).length ≤ _
    rw [cat_len, cat_len] at ih
    have e : (Str.ofString (if k > 0 then ", " else "")).length ≤ 2 := by split <;> decide +kernel
    rw [List.length_cons, Nat.succ_mul]
    omega
theorem shAll {n B : Nat} : ∀ {xs : List P}, (∀ p ∈ xs, Sh n B p) → P.isEs xs = true ∧ PyData.depthAll (P.dats xs) ≤ n ∧ PyData.showableAll (P.dats xs) = true ∧ (∀ t ∈ PyData.shownAll (P.dats xs), t.length ≤ B) ∧ (PyData.shownAll (P.dats xs)).length = xs.length
  | [], _ => ⟨rfl, Nat.zero_le _, rfl, fun t ht => (nomatch ht), rfl⟩
  | p :: ps, h => by
    obtain ⟨h1, h2, h3, h4, h5⟩ := shAll (xs := ps) fun q hq => h q (List.mem_cons_of_mem _ hq)
    have hp := h p (List.mem_cons_self ..)
    refine ⟨by rw [P.isEs, hp.e, h1]; rfl, ?_, ?_, fun t ht => ?_, by simp [P.dats, PyData.shownAll, h5]⟩
    · have := hp.d; show max p.dat.depth _ ≤ n; exact Nat.max_le.mpr ⟨this, h2⟩
    · show (p.dat.showable && _) = true; rw [hp.s, h3]; rfl
    · rcases List.mem_cons.mp ht with rfl | ht
      · exact hp.l
      · exact h4 t ht
theorem Sh.tup {n B : Nat} {xs : List P} (h : ∀ p ∈ xs, Sh n B p) : Sh (n + 1) (3 + xs.length * (B + 2)) (.tup xs) := by
  obtain ⟨h1, h2, h3, h4, h5⟩ := shAll h
  refine ⟨h1, Nat.succ_le_succ h2, h3, ?_⟩
  have := joinLen B _ h4
  rw [h5] at this
  show ((("(" : Str) ++ Str.join ", " _) ++ (if _ then ",)" else ")" : String)).length ≤ _
  rw [cat_len, cat_len, show (("(" : Str)).length = 1 from rfl]
  have e : ∀ b : Bool, (Str.ofString (if b = true then ",)" else ")")).length ≤ 2 := by decide +kernel
  have := e ((PyData.shownAll (P.dats xs)).length == 1)
  omega
theorem Sh.lst {n B : Nat} {xs : List P} (h : ∀ p ∈ xs, Sh n B p) : Sh (n + 1) (3 + xs.length * (B + 2)) (.lst xs) := by
  obtain ⟨h1, h2, h3, h4, h5⟩ := shAll h
  refine ⟨h1, Nat.succ_le_succ h2, h3, ?_⟩
  have := fromLen B _ 0 "[" h4
  rw [h5] at this
  show (textFrom 0 "[" _ ++ ("]" : Str)).length ≤ _
  rw [cat_len, show (("]" : Str)).length = 1 from rfl]
  have e : (("[" : Str)).length = 1 := rfl
  omega
theorem Sh.repr {n B : Nat} {p : P} {r : R} {ρ : Env} {S : Store} {k : K1} (h : Sh n B p) (hr : asD ρ S r = some p) (hn : n ≤ 50) (hB : B ≤ 10000000) (hk : k (.str p.dat.shown)) : reprD [r] ρ S k := by
  unfold reprD
  simp only [hr]
  exact ⟨h.e, Nat.le_trans h.d hn, h.s, Nat.le_trans h.l (szL hB), hk⟩
end D
namespace K03
open PySem PySem.Spec L2 D
def top (i : Nat) : Stmt := PySem.Challenge.pw_tallypeaks_k03_logs_changed.main.body.getD i (.Pass ⟨0, 0, 0, 0⟩)
abbrev st_is_integer : Stmt := top 11
abbrev N_is_integer : List Str := ["value"]
theorem sc_is_integer : FnScope N_is_integer ["value"] (defScope st_is_integer) := ⟨rfl, rfl, rfl, by decide +kernel, rfl, by decide +kernel, by decide +kernel⟩
def T_is_integer : DS := SRet (TAnd (TCall isiD (ACons (TV 0) (ACons (TC (P.ty "int")) (ANil)))) (TNot (TCall isiD (ACons (TV 0) (ACons (TC (P.ty "bool")) (ANil))))))
def d_is_integer : DSp := den 1 N_is_integer T_is_integer
abbrev st_is_kind : Stmt := top 12
abbrev N_is_kind : List Str := ["value", "letter"]
theorem sc_is_kind : FnScope N_is_kind ["value"] (defScope st_is_kind) := ⟨rfl, rfl, rfl, by decide +kernel, rfl, by decide +kernel, by decide +kernel⟩
def T_is_kind : DS := SRet (TAnd (TCall isiD (ACons (TV 0) (ACons (TC (P.ty "str")) (ANil)))) (TAnd (TCh leD leD (TC (P.int 1)) (TCall lenD (ACons (TV 0) (ANil))) (TC (P.int 8))) (TCall allD (ACons (TFz (NLc (ISeq (TV 0)) (GN 1) (BYes) (T2 inD (TV 1) (TC (D.P.str "abcdefghijklmnopqrstuvwxyz"))) [1])) (ANil)))))
def d_is_kind : DSp := den 1 N_is_kind T_is_kind
abbrev st_is_amount : Stmt := top 13
abbrev N_is_amount : List Str := ["value"]
theorem sc_is_amount : FnScope N_is_amount ["value"] (defScope st_is_amount) := ⟨rfl, rfl, rfl, by decide +kernel, rfl, by decide +kernel, by decide +kernel⟩
def T_is_amount : DS := SRet (TAnd (TCl d_is_integer [] (ACons (TV 0) (ANil))) (TCh leD leD (T1 negD (TC (D.P.int 1000000000000000000000000000000))) (TV 0) (TC (D.P.int 1000000000000000000000000000000))))
def d_is_amount : DSp := den 1 N_is_amount T_is_amount
abbrev st_is_event : Stmt := top 14
abbrev N_is_event : List Str := ["value"]
theorem sc_is_event : FnScope N_is_event ["value"] (defScope st_is_event) := ⟨rfl, rfl, rfl, by decide +kernel, rfl, by decide +kernel, by decide +kernel⟩
def T_is_event : DS := SRet (TAnd (TCall isiD (ACons (TV 0) (ACons (TC (P.ty "tuple")) (ANil)))) (TAnd (T2 eqD (TCall lenD (ACons (TV 0) (ANil))) (TC (P.int 2))) (TAnd (TCl d_is_kind [] (ACons (T2 ixD (TV 0) (TC (P.int 0))) (ANil))) (TCl d_is_amount [] (ACons (T2 ixD (TV 0) (TC (P.int 1))) (ANil))))))
def d_is_event : DSp := den 1 N_is_event T_is_event
abbrev st_first_wrong : Stmt := top 15
abbrev N_first_wrong : List Str := ["value", "kinds", "index", "event"]
theorem sc_first_wrong : FnScope N_first_wrong ["value", "kinds"] (defScope st_first_wrong) := ⟨rfl, rfl, rfl, by decide +kernel, rfl, by decide +kernel, by decide +kernel⟩
def T_first_wrong : DS := SSeq (SIf (BOr (BNot (BTru (TCall isiD (ACons (TV 0) (ACons (TC (P.ty "tuple")) (ANil)))))) (B2 gtD (TCall lenD (ACons (TV 0) (ANil))) (TC (D.P.int 1000)))) (SRet (TTup (ACons (TC P.non) (ANil)))) (SNext)) (SSeq (SFor (IEn (ACons (TV 0) (ANil))) (GT 2 (GCons (GN 2) (GCons (GN 3) (GNil)))) (SIf (BOr (BNot (BTru (TCl d_is_event [] (ACons (TV 3) (ANil))))) (BAnd (B2 nisD (TV 1) (TC P.non)) (B2 ninD (T2 ixD (TV 3) (TC (P.int 0))) (TV 1)))) (SRet (TTup (ACons (TV 2) (ANil)))) (SNext))) (SRet (TC P.non)))
def d_first_wrong : DSp := den 2 N_first_wrong T_first_wrong
abbrev st_check_log : Stmt := top 16
abbrev N_check_log : List Str := ["log", "kinds", "wrong"]
theorem sc_check_log : FnScope N_check_log ["log", "kinds"] (defScope st_check_log) := ⟨rfl, rfl, rfl, by decide +kernel, rfl, by decide +kernel, by decide +kernel⟩
def T_check_log : DS := SIf (BW 2 nisD (TCl d_first_wrong [] (ACons (TV 0) (ACons (TV 1) (ANil)))) (TC P.non)) (SNever) (SNext)
def d_check_log : DSp := den 2 N_check_log T_check_log
abbrev st_check_position : Stmt := top 17
abbrev N_check_position : List Str := ["position", "size"]
theorem sc_check_position : FnScope N_check_position ["position", "size"] (defScope st_check_position) := ⟨rfl, rfl, rfl, by decide +kernel, rfl, by decide +kernel, by decide +kernel⟩
def T_check_position : DS := SIf (BOr (BNot (BTru (TCl d_is_integer [] (ACons (TV 0) (ANil))))) (BNot (BCh leD ltD (TC (P.int 0)) (TV 0) (TV 1)))) (SNever) (SNext)
def d_check_position : DSp := den 2 N_check_position T_check_position
abbrev st_check_amount : Stmt := top 18
abbrev N_check_amount : List Str := ["amount"]
theorem sc_check_amount : FnScope N_check_amount ["amount"] (defScope st_check_amount) := ⟨rfl, rfl, rfl, by decide +kernel, rfl, by decide +kernel, by decide +kernel⟩
def T_check_amount : DS := SIf (BNot (BTru (TCl d_is_amount [] (ACons (TV 0) (ANil))))) (SNever) (SNext)
def d_check_amount : DSp := den 1 N_check_amount T_check_amount
abbrev st_corrected : Stmt := top 19
abbrev N_corrected : List Str := ["log", "position", "amount"]
theorem sc_corrected : FnScope N_corrected ["log", "position", "amount"] (defScope st_corrected) := ⟨rfl, rfl, rfl, by decide +kernel, rfl, by decide +kernel, by decide +kernel⟩
def T_corrected : DS := SSeq (SExpr (TCl d_check_log [D.P.non] (ACons (TV 0) (ANil)))) (SSeq (SExpr (TCl d_check_position [] (ACons (TV 1) (ACons (TCall lenD (ACons (TV 0) (ANil))) (ANil))))) (SSeq (SExpr (TCl d_check_amount [] (ACons (TV 2) (ANil)))) (SRet (TTup (AStar (TSl (TV 0) (ONo) (OPart (TV 1))) (ACons (TTup (ACons (T2 ixD (T2 ixD (TV 0) (TV 1)) (TC (P.int 0))) (ACons (TV 2) (ANil)))) (AStar (TSl (TV 0) (OPart (T2 addD (TV 1) (TC (P.int 1)))) (ONo)) (ANil))))))))
def d_corrected : DSp := den 3 N_corrected T_corrected
abbrev st_without : Stmt := top 20
abbrev N_without : List Str := ["log", "position"]
theorem sc_without : FnScope N_without ["log", "position"] (defScope st_without) := ⟨rfl, rfl, rfl, by decide +kernel, rfl, by decide +kernel, by decide +kernel⟩
def T_without : DS := SSeq (SExpr (TCl d_check_log [D.P.non] (ACons (TV 0) (ANil)))) (SSeq (SExpr (TCl d_check_position [] (ACons (TV 1) (ACons (TCall lenD (ACons (TV 0) (ANil))) (ANil))))) (SRet (T2 addD (TSl (TV 0) (ONo) (OPart (TV 1))) (TSl (TV 0) (OPart (T2 addD (TV 1) (TC (P.int 1)))) (ONo)))))
def d_without : DSp := den 2 N_without T_without
abbrev st_swapped : Stmt := top 21
abbrev N_swapped : List Str := ["log", "position"]
theorem sc_swapped : FnScope N_swapped ["log", "position"] (defScope st_swapped) := ⟨rfl, rfl, rfl, by decide +kernel, rfl, by decide +kernel, by decide +kernel⟩
def T_swapped : DS := SSeq (SExpr (TCl d_check_log [D.P.non] (ACons (TV 0) (ANil)))) (SSeq (SExpr (TCl d_check_position [] (ACons (TV 1) (ACons (T2 subD (TCall lenD (ACons (TV 0) (ANil))) (TC (P.int 1))) (ANil))))) (SRet (TTup (AStar (TSl (TV 0) (ONo) (OPart (TV 1))) (ACons (T2 ixD (TV 0) (T2 addD (TV 1) (TC (P.int 1)))) (ACons (T2 ixD (TV 0) (TV 1)) (AStar (TSl (TV 0) (OPart (T2 addD (TV 1) (TC (P.int 2)))) (ONo)) (ANil))))))))
def d_swapped : DSp := den 2 N_swapped T_swapped
abbrev st_repeated : Stmt := top 22
abbrev N_repeated : List Str := ["log", "position"]
theorem sc_repeated : FnScope N_repeated ["log", "position"] (defScope st_repeated) := ⟨rfl, rfl, rfl, by decide +kernel, rfl, by decide +kernel, by decide +kernel⟩
def T_repeated : DS := SSeq (SExpr (TCl d_check_log [D.P.non] (ACons (TV 0) (ANil)))) (SSeq (SExpr (TCl d_check_position [] (ACons (TV 1) (ACons (TCall lenD (ACons (TV 0) (ANil))) (ANil))))) (SSeq (SIf (B2 geD (TCall lenD (ACons (TV 0) (ANil))) (TC (D.P.int 1000))) (SNever) (SNext)) (SRet (T2 addD (TSl (TV 0) (ONo) (OPart (T2 addD (TV 1) (TC (P.int 1))))) (TSl (TV 0) (OPart (TV 1)) (ONo))))))
def d_repeated : DSp := den 2 N_repeated T_repeated
abbrev st__law_cell : Stmt := top 24
abbrev N__law_cell : List Str := ["_law_cells", "_law_k", "_law_seed", "_law_part_here"]
theorem sc__law_cell : FnScope N__law_cell ["_law_cells", "_law_k"] (defScope st__law_cell) := ⟨rfl, rfl, rfl, by decide +kernel, rfl, by decide +kernel, by decide +kernel⟩
def T__law_cell : DS := SSeq (SIf (B2 ltD (TV 1) (TCall lenD (ACons (TV 0) (ANil)))) (SRet (T2 ixD (TV 0) (TV 1))) (SNext)) (SSeq (SAsg (T2 modD (T2 mulD (TC (P.int 70009)) (T2 addD (T2 addD (T2 mulD (TV 1) (TV 1)) (T2 mulD (TC (P.int 7)) (TV 1))) (TC (P.int 19)))) (TC (P.int 2147483179))) (GN 2)) (SSeq (SFor (ISeq (TSl (TV 0) (ONo) (OPart (TC (P.int 3))))) (GN 3) (SAsg (T2 modD (T2 addD (T2 mulD (TV 2) (TC (P.int 42019))) (TV 3)) (TC (P.int 2147483179))) (GN 2))) (SRet (TV 2))))
def d__law_cell : DSp := den 2 N__law_cell T__law_cell
abbrev st__law_pool : Stmt := top 25
abbrev N__law_pool : List Str := ["_law_cell_here", "_law_digits"]
theorem sc__law_pool : FnScope N__law_pool ["_law_cell_here"] (defScope st__law_pool) := ⟨rfl, rfl, rfl, by decide +kernel, rfl, by decide +kernel, by decide +kernel⟩
def T__law_pool : DS := SSeq (SAsg (TIf (BOr (B2 ltD (TV 0) (TC (P.int 0))) (B2 geD (TV 0) (T2 powD (TC (P.int 10)) (TC (P.int 18))))) (TCall absD (ACons (TV 0) (ANil))) (TC (P.int 0))) (GN 1)) (SRet (TLstS (ACons (T2 modD (TV 0) (TC (P.int 2147483179))) (ACons (TV 1) (ACons (TC (P.int 0)) (ANil))))))
def d__law_pool : DSp := den 1 N__law_pool T__law_pool
abbrev st__law_draw : Stmt := top 26
abbrev N__law_draw : List Str := ["_law_pool_here", "_law_many", "_law_seed", "_law_digit"]
theorem sc__law_draw : FnScope N__law_draw ["_law_pool_here", "_law_many"] (defScope st__law_draw) := ⟨rfl, rfl, rfl, by decide +kernel, rfl, by decide +kernel, by decide +kernel⟩
def T__law_draw : DS := SSeq (SAsg (T2 addD (T2 ixD (TV 0) (TC (P.int 2))) (TC (P.int 1))) (GS (TV 0) (TC (P.int 2)))) (SSeq (SAsg (T2 ixD (TV 0) (TC (P.int 0))) (GN 2)) (SSeq (SAsg (T2 modD (T2 addD (T2 addD (T2 mulD (TV 2) (T2 addD (T2 modD (TV 2) (TC (P.int 40993))) (TC (P.int 30013)))) (T2 mulD (TC (P.int 70001)) (T2 ixD (TV 0) (TC (P.int 2))))) (TC (P.int 9))) (TC (P.int 2147483179))) (GS (TV 0) (TC (P.int 0)))) (SSeq (SIf (B2 gtD (T2 ixD (TV 0) (TC (P.int 1))) (TC (P.int 0))) (SSeq (SAsg (TCall divmodD (ACons (T2 ixD (TV 0) (TC (P.int 1))) (ACons (TV 1) (ANil)))) (GT 2 (GCons (GS (TV 0) (TC (P.int 1))) (GCons (GN 3) (GNil))))) (SRet (TV 3))) (SNext)) (SRet (T2 modD (T2 fdivD (T2 ixD (TV 0) (TC (P.int 0))) (TC (P.int 64))) (TV 1))))))
def d__law_draw : DSp := den 2 N__law_draw T__law_draw
abbrev st__law_events : Stmt := top 27
abbrev N__law_events : List Str := ["_law_pool_here", "_law_found", "_law_k", "_law_much"]
theorem sc__law_events : FnScope N__law_events ["_law_pool_here"] (defScope st__law_events) := ⟨rfl, rfl, rfl, by decide +kernel, rfl, by decide +kernel, by decide +kernel⟩
def T__law_events : DS := SSeq (SOwn 1 (NLst (ANil))) (SSeq (SFor (IR1 (ACons (T2 addD (TC (P.int 1)) (TCl d__law_draw [] (ACons (TV 0) (ACons (TC (P.int 12)) (ANil))))) (ANil))) (GN 2) (SSeq (SAsg (T2 ixD (TLst (ACons (T2 subD (TCl d__law_draw [] (ACons (TV 0) (ACons (TC (P.int 200)) (ANil)))) (TC (P.int 100))) (ACons (T2 powD (TC (P.int 10)) (TC (P.int 30))) (ACons (T1 negD (T2 powD (TC (P.int 10)) (TC (P.int 30)))) (ACons (TC (P.int 0)) (ANil)))))) (TCl d__law_draw [] (ACons (TV 0) (ACons (TC (P.int 4)) (ANil))))) (GN 3)) (SExpr (TM tyL appD (TV 1) (ACons (TTup (ACons (T2 ixD (TLst (ACons (TC (P.str "a")) (ACons (TC (P.str "buy")) (ACons (TC (P.str "abcdefgh")) (ACons (TC (P.str "z")) (ANil)))))) (TCl d__law_draw [] (ACons (TV 0) (ACons (TC (P.int 4)) (ANil))))) (ACons (TV 3) (ANil)))) (ANil)))))) (SRet (TCall tupD (ACons (TV 1) (ANil)))))
def d__law_events : DSp := den 1 N__law_events T__law_events
abbrev st__law_replaced : Stmt := top 28
abbrev N__law_replaced : List Str := ["_law_events_here", "_law_at", "_law_some"]
theorem sc__law_replaced : FnScope N__law_replaced ["_law_events_here", "_law_at", "_law_some"] (defScope st__law_replaced) := ⟨rfl, rfl, rfl, by decide +kernel, rfl, by decide +kernel, by decide +kernel⟩
def T__law_replaced : DS := SRet (T2 addD (T2 addD (TSl (TV 0) (ONo) (OPart (TV 1))) (TV 2)) (TSl (TV 0) (OPart (T2 addD (TV 1) (TC (P.int 1)))) (ONo)))
def d__law_replaced : DSp := den 3 N__law_replaced T__law_replaced
abbrev st__law_right : Stmt := top 29
abbrev N__law_right : List Str := ["_law_pool_here", "_law_events_here", "_law_kept", "_law_turn", "_law_told", "_law_due", "_law_again", "_law_at", "_law_much", "_law_named", "_law_old", "_law_turned_here"]
theorem sc__law_right : FnScope N__law_right ["_law_pool_here"] (defScope st__law_right) := ⟨rfl, rfl, rfl, by decide +kernel, rfl, by decide +kernel, by decide +kernel⟩
def T__law_right : DS := SSeq (SAsg (TCl d__law_events [] (ACons (TV 0) (ANil))) (GN 1)) (SSeq (SAsg (TCall reprD (ACons (TV 1) (ANil))) (GN 2)) (SSeq (SFor (IR1 (ACons (TC (P.int 8)) (ANil))) (GN 3) (SSeq (SAsg (TTup (ACons (TCl d__law_draw [] (ACons (TV 0) (ACons (TCall lenD (ACons (TV 1) (ANil))) (ANil)))) (ACons (T2 subD (TCl d__law_draw [] (ACons (TV 0) (ACons (TC (P.int 400)) (ANil)))) (TC (P.int 200))) (ANil)))) (GT 2 (GCons (GN 7) (GCons (GN 8) (GNil))))) (SSeq (SAsg (T2 ixD (TV 1) (TV 7)) (GT 2 (GCons (GN 9) (GCons (GN 10) (GNil))))) (SSeq (SAsg (TLst (ACons (TCl d_corrected [] (ACons (TV 1) (ACons (TV 7) (ACons (TV 8) (ANil))))) (ACons (TCl d_without [] (ACons (TV 1) (ACons (TV 7) (ANil)))) (ACons (TCl d_repeated [] (ACons (TV 1) (ACons (TV 7) (ANil)))) (ANil))))) (GN 4)) (SSeq (SOwn 5 (NLst (ACons (TCl d__law_replaced [] (ACons (TV 1) (ACons (TV 7) (ACons (TTup (ACons (TTup (ACons (TV 9) (ACons (TV 8) (ANil)))) (ANil))) (ANil))))) (ACons (TCl d__law_replaced [] (ACons (TV 1) (ACons (TV 7) (ACons (TTup (ANil)) (ANil))))) (ANil))))) (SSeq (SExpr (TM tyL appD (TV 5) (ACons (TCl d__law_replaced [] (ACons (TV 1) (ACons (TV 7) (ACons (TTup (ACons (T2 ixD (TV 1) (TV 7)) (ACons (T2 ixD (TV 1) (TV 7)) (ANil)))) (ANil))))) (ANil)))) (SSeq (SOwn 6 (NLst (ACons (TClK d_corrected 0 3 [.k 2, .k 1, .k 0] [] ANil (ACons (TV 8) (ACons (TV 7) (ACons (TV 1) (ANil))))) (ACons (TClK d_without 0 2 [.k 1, .k 0] [] ANil (ACons (TV 7) (ACons (TV 1) (ANil)))) (ANil))))) (SSeq (SExpr (TM tyL appD (TV 6) (ACons (TClK d_repeated 0 2 [.k 1, .k 0] [] ANil (ACons (TV 7) (ACons (TV 1) (ANil)))) (ANil)))) (SSeq (SIf (BOr (B2 neD (TCall reprD (ACons (TV 4) (ANil))) (TCall reprD (ACons (TV 5) (ANil)))) (B2 neD (TCall reprD (ACons (TV 6) (ANil))) (TCall reprD (ACons (TV 5) (ANil))))) (SRet (TC (P.bl false))) (SNext)) (SSeq (SIf (BOr (B2 neD (TCl d_corrected [] (ACons (T2 ixD (TV 4) (TC (P.int 0))) (ACons (TV 7) (ACons (TV 10) (ANil))))) (TV 1)) (B2 neD (TLst (ACons (TCl d_without [] (ACons (T2 ixD (TV 4) (TC (P.int 2))) (ACons (TV 7) (ANil)))) (ACons (TCl d_without [] (ACons (T2 ixD (TV 4) (TC (P.int 2))) (ACons (T2 addD (TV 7) (TC (P.int 1))) (ANil)))) (ANil)))) (T2 mulD (TLst (ACons (TV 1) (ANil))) (TC (P.int 2))))) (SRet (TC (P.bl false))) (SNext)) (SIf (B2 ltD (TV 7) (T2 subD (TCall lenD (ACons (TV 1) (ANil))) (TC (P.int 1)))) (SSeq (SAsg (TCl d_swapped [] (ACons (TV 1) (ACons (TV 7) (ANil)))) (GN 11)) (SSeq (SIf (B2 neD (TCall reprD (ACons (TV 11) (ANil))) (TCall reprD (ACons (T2 addD (T2 addD (TSl (TV 1) (ONo) (OPart (TV 7))) (TTup (ACons (T2 ixD (TV 1) (T2 addD (TV 7) (TC (P.int 1)))) (ACons (T2 ixD (TV 1) (TV 7)) (ANil))))) (TSl (TV 1) (OPart (T2 addD (TV 7) (TC (P.int 2)))) (ONo))) (ANil)))) (SRet (TC (P.bl false))) (SNext)) (SIf (B2 neD (TClK d_swapped 0 2 [.k 1, .k 0] [] ANil (ACons (TV 7) (ACons (TV 11) (ANil)))) (TV 1)) (SRet (TC (P.bl false))) (SNext)))) (SNext)))))))))))) (SRet (T2 eqD (TCall reprD (ACons (TV 1) (ANil))) (TV 2)))))
def d__law_right : DSp := den 1 N__law_right T__law_right
abbrev st_law : Stmt := top 30
abbrev N_law : List Str := ["_law_cells", "_law_long_one", "_law_k"]
theorem sc_law : FnScope N_law ["_law_cells"] (defScope st_law) := ⟨rfl, rfl, rfl, by decide +kernel, rfl, by decide +kernel, by decide +kernel⟩
def T_law : DS := SSeq (SAsg (T2 mulD (TTup (ACons (TTup (ACons (TC (P.str "a")) (ACons (TC (P.int 1)) (ANil)))) (ACons (TTup (ACons (TC (P.str "b")) (ACons (TC (P.int 2)) (ANil)))) (ANil)))) (TC (P.int 500))) (GN 1)) (SSeq (SIf (BOr (B2 neD (TCall lenD (ACons (TCl d_repeated [] (ACons (TSl (TV 1) (ONo) (OPart (TC (P.int 999)))) (ACons (TC (P.int 998)) (ANil)))) (ANil))) (TC (P.int 1000))) (B2 neD (TCall lenD (ACons (TCl d_without [] (ACons (TV 1) (ACons (TC (P.int 0)) (ANil)))) (ANil))) (TC (P.int 999)))) (SRet (TC (P.bl false))) (SNext)) (SSeq (SIf (B2 neD (TSl (TCl d_swapped [] (ACons (TV 1) (ACons (TC (P.int 998)) (ANil)))) (OPart (TC (P.int 998))) (ONo)) (TTup (ACons (TTup (ACons (TC (P.str "b")) (ACons (TC (P.int 2)) (ANil)))) (ACons (TTup (ACons (TC (P.str "a")) (ACons (TC (P.int 1)) (ANil)))) (ANil))))) (SRet (TC (P.bl false))) (SNext)) (SSeq (SIf (B2 neD (T2 ixD (TCl d_corrected [] (ACons (TV 1) (ACons (TC (P.int 999)) (ACons (T2 powD (TC (P.int 10)) (TC (P.int 30))) (ANil))))) (TC (P.int 999))) (TTup (ACons (TC (P.str "b")) (ACons (T2 powD (TC (P.int 10)) (TC (P.int 30))) (ANil))))) (SRet (TC (P.bl false))) (SNext)) (SRet (TCall allD (ACons (TFz (NLc (IR1 (ACons (TCall maxD (ACons (TC (P.int 2)) (ACons (TCall minD (ACons (TC (P.int 6)) (ACons (TCall lenD (ACons (TV 0) (ANil))) (ANil)))) (ANil)))) (ANil))) (GN 2) (BYes) (TCl d__law_right [] (ACons (TCl d__law_pool [] (ACons (TCl d__law_cell [] (ACons (TV 0) (ACons (TV 2) (ANil)))) (ANil))) (ANil))) [2])) (ANil)))))))
def d_law : DSp := den 1 N_law T_law
structure Tx (K : PySem.W.Frag) (mg : Str → Option Value) : Prop where
  n_abs : mg "abs" = none
  n_all : mg "all" = none
  n_bool : mg "bool" = none
  n_divmod : mg "divmod" = none
  n_enumerate : mg "enumerate" = none
  n_int : mg "int" = none
  n_isinstance : mg "isinstance" = none
  n_len : mg "len" = none
  n_max : mg "max" = none
  n_min : mg "min" = none
  n_range : mg "range" = none
  n_repr : mg "repr" = none
  n_str : mg "str" = none
  n_tuple : mg "tuple" = none
  c_LETTERS : ∃ u, mg "LETTERS" = some u ∧ RelV (V.str "abcdefghijklmnopqrstuvwxyz") u
  c_MAX_AMOUNT : ∃ u, mg "MAX_AMOUNT" = some u ∧ RelV (V.int 1000000000000000000000000000000) u
  c_MAX_EVENTS : ∃ u, mg "MAX_EVENTS" = some u ∧ RelV (V.int 1000) u
  f_is_integer : ∃ f fd, Made K f fd "is_integer" "is_integer" st_is_integer [] ∧ mg "is_integer" = some (.ref f)
  f_is_kind : ∃ f fd, Made K f fd "is_kind" "is_kind" st_is_kind [] ∧ mg "is_kind" = some (.ref f)
  f_is_amount : ∃ f fd, Made K f fd "is_amount" "is_amount" st_is_amount [] ∧ mg "is_amount" = some (.ref f)
  f_is_event : ∃ f fd, Made K f fd "is_event" "is_event" st_is_event [] ∧ mg "is_event" = some (.ref f)
  f_first_wrong : ∃ f fd, Made K f fd "first_wrong" "first_wrong" st_first_wrong [V.non] ∧ mg "first_wrong" = some (.ref f)
  f_check_log : ∃ f fd, Made K f fd "check_log" "check_log" st_check_log [V.non] ∧ mg "check_log" = some (.ref f)
  f_check_position : ∃ f fd, Made K f fd "check_position" "check_position" st_check_position [] ∧ mg "check_position" = some (.ref f)
  f_check_amount : ∃ f fd, Made K f fd "check_amount" "check_amount" st_check_amount [] ∧ mg "check_amount" = some (.ref f)
  f_corrected : ∃ f fd, Made K f fd "corrected" "corrected" st_corrected [] ∧ mg "corrected" = some (.ref f)
  f_without : ∃ f fd, Made K f fd "without" "without" st_without [] ∧ mg "without" = some (.ref f)
  f_swapped : ∃ f fd, Made K f fd "swapped" "swapped" st_swapped [] ∧ mg "swapped" = some (.ref f)
  f_repeated : ∃ f fd, Made K f fd "repeated" "repeated" st_repeated [] ∧ mg "repeated" = some (.ref f)
  f__law_cell : ∃ f fd, Made K f fd "_law_cell" "_law_cell" st__law_cell [] ∧ mg "_law_cell" = some (.ref f)
  f__law_pool : ∃ f fd, Made K f fd "_law_pool" "_law_pool" st__law_pool [] ∧ mg "_law_pool" = some (.ref f)
  f__law_draw : ∃ f fd, Made K f fd "_law_draw" "_law_draw" st__law_draw [] ∧ mg "_law_draw" = some (.ref f)
  f__law_events : ∃ f fd, Made K f fd "_law_events" "_law_events" st__law_events [] ∧ mg "_law_events" = some (.ref f)
  f__law_replaced : ∃ f fd, Made K f fd "_law_replaced" "_law_replaced" st__law_replaced [] ∧ mg "_law_replaced" = some (.ref f)
  f__law_right : ∃ f fd, Made K f fd "_law_right" "_law_right" st__law_right [] ∧ mg "_law_right" = some (.ref f)
  f_law : ∃ f fd, Made K f fd "law" "law" st_law [] ∧ mg "law" = some (.ref f)
section
variable {base : Heap} {P : Program} {w : World} {K : PySem.W.Frag} {mg : Str → Option Value}
theorem b_is_integer {f : Addr} {fd : FuncData} (M : Made K f fd "is_integer" "is_integer" st_is_integer []) : Binds K fd ["value"] [] := M.bindsN fun _ _ _ _ _ _ us hl => match us, hl with | [_], _ => rfl
theorem c_is_integer (T : Tx K mg) : ∃ f fd, Cal P w K mg base 1 "is_integer" ["value"] st_is_integer [] d_is_integer f fd := by
  obtain ⟨f, fd, M, hm⟩ := T.f_is_integer
  refine ⟨f, fd, hm, M, fd_den (k := 0) (I0 := E0) M sc_is_integer fun cdv A outer s H E g hr F => ?_⟩
  exact s_one (s_ret (d_and (d_callB n_isi rfl T.n_isinstance (by decide +kernel) (a_cons (dv 0) (a_cons (d_ty rfl T.n_int (by decide +kernel)) (a_nil)))) (d_one (d_not (d_callB n_isi rfl T.n_isinstance (by decide +kernel) (a_cons (dv 0) (a_cons (d_ty rfl T.n_bool (by decide +kernel)) (a_nil))))))))
theorem b_is_kind {f : Addr} {fd : FuncData} (M : Made K f fd "is_kind" "is_kind" st_is_kind []) : Binds K fd ["value"] [] := M.bindsN fun _ _ _ _ _ _ us hl => match us, hl with | [_], _ => rfl
theorem c_is_kind (T : Tx K mg) : ∃ f fd, Cal P w K mg base 1 "is_kind" ["value"] st_is_kind [] d_is_kind f fd := by
  obtain ⟨f, fd, M, hm⟩ := T.f_is_kind
  refine ⟨f, fd, hm, M, fd_den (k := 0) (I0 := E0) M sc_is_kind fun cdv A outer s H E g hr F => ?_⟩
  exact s_one (s_ret (d_and (d_callB n_isi rfl T.n_isinstance (by decide +kernel) (a_cons (dv 0) (a_cons (d_ty rfl T.n_str (by decide +kernel)) (a_nil)))) (d_and (d_ch o_le o_le (d_int) (d_callB n_len rfl T.n_len (by decide +kernel) (a_cons (dv 0) (a_nil))) (d_int)) (d_one (d_callB (n_all rfl) rfl T.n_all (by decide +kernel) (a_cons (d_frN (n_lc (ow := [("letter", 1)]) rfl sc_is_kind.nd (i_seq (dv 0)) (blkOk_by (N := N_is_kind) (sc := defScope st_is_kind) (by decide +kernel)) (fun _ _ _ _ _ _ => g_n (i := 1) rfl sc_is_kind.nd rfl (by first | exact Or.inl rfl | exact Or.inr rfl)) (fun _ _ _ _ _ _ => tt_yes) (fun _ _ _ _ _ _ => d_cmp (o_in hr.units) (dv 1) (dgs T.c_LETTERS) (by first | exact nomark _ | rfl)))) (a_nil)))))))
theorem b_is_amount {f : Addr} {fd : FuncData} (M : Made K f fd "is_amount" "is_amount" st_is_amount []) : Binds K fd ["value"] [] := M.bindsN fun _ _ _ _ _ _ us hl => match us, hl with | [_], _ => rfl
theorem c_is_amount (T : Tx K mg) : ∃ f fd, Cal P w K mg base 2 "is_amount" ["value"] st_is_amount [] d_is_amount f fd := by
  obtain ⟨f, fd, M, hm⟩ := T.f_is_amount
  obtain ⟨f0, fd0, C0⟩ := c_is_integer (P := P) (w := w) (base := base) T
  refine ⟨f, fd, hm, M, fd_den (k := 1) (I0 := E0) M sc_is_amount fun cdv A outer s H E g hr F => ?_⟩
  exact s_one (s_ret (d_and (d_call C0.fn g (hr.mono (by decide)) rfl C0.hm C0.made.kp (b_is_integer C0.made) .nil (a_cons (dv 0) (a_nil))) (d_one (d_ch o_le o_le (d_neg (dg T.c_MAX_AMOUNT)) (dv 0) (dg T.c_MAX_AMOUNT)))))
theorem b_is_event {f : Addr} {fd : FuncData} (M : Made K f fd "is_event" "is_event" st_is_event []) : Binds K fd ["value"] [] := M.bindsN fun _ _ _ _ _ _ us hl => match us, hl with | [_], _ => rfl
theorem c_is_event (T : Tx K mg) : ∃ f fd, Cal P w K mg base 3 "is_event" ["value"] st_is_event [] d_is_event f fd := by
  obtain ⟨f, fd, M, hm⟩ := T.f_is_event
  obtain ⟨f0, fd0, C0⟩ := c_is_kind (P := P) (w := w) (base := base) T
  obtain ⟨f1, fd1, C1⟩ := c_is_amount (P := P) (w := w) (base := base) T
  refine ⟨f, fd, hm, M, fd_den (k := 2) (I0 := E0) M sc_is_event fun cdv A outer s H E g hr F => ?_⟩
  exact s_one (s_ret (d_and (d_callB n_isi rfl T.n_isinstance (by decide +kernel) (a_cons (dv 0) (a_cons (d_ty rfl T.n_tuple (by decide +kernel)) (a_nil)))) (d_and (d_cmp (o_eq hr.units) (d_callB n_len rfl T.n_len (by decide +kernel) (a_cons (dv 0) (a_nil))) (d_int) (by first | exact nomark _ | rfl)) (d_and (d_call C0.fn g (hr.mono (by decide)) rfl C0.hm C0.made.kp (b_is_kind C0.made) .nil (a_cons (d_ix (dv 0) (d_int)) (a_nil))) (d_one (d_call C1.fn g (hr.mono (by decide)) rfl C1.hm C1.made.kp (b_is_amount C1.made) .nil (a_cons (d_ix (dv 0) (d_int)) (a_nil))))))))
theorem b_first_wrong_1 {f : Addr} {fd : FuncData} (M : Made K f fd "first_wrong" "first_wrong" st_first_wrong [V.non]) : ∃ ds, Vals ([V.non] : List V) ds ∧ Binds K fd ["value", "kinds"] ds := M.binds1 1 0 (by decide) (by decide) fun _ _ _ _ _ _ _ us its h1 h2 => match us, its, h1, h2 with | [_], [_], _, _ => ⟨_, rfl, rfl⟩
theorem b_first_wrong_2 {f : Addr} {fd : FuncData} (M : Made K f fd "first_wrong" "first_wrong" st_first_wrong [V.non]) : ∃ ds, Vals ([] : List V) ds ∧ Binds K fd ["value", "kinds"] ds := M.binds1 2 1 (by decide) (by decide) fun _ _ _ _ _ _ _ us its h1 h2 => match us, its, h1, h2 with | [_, _], [_], _, _ => ⟨_, rfl, rfl⟩
theorem c_first_wrong (T : Tx K mg) : ∃ f fd, Cal P w K mg base 4 "first_wrong" ["value", "kinds"] st_first_wrong [V.non] d_first_wrong f fd := by
  obtain ⟨f, fd, M, hm⟩ := T.f_first_wrong
  obtain ⟨f0, fd0, C0⟩ := c_is_event (P := P) (w := w) (base := base) T
  refine ⟨f, fd, hm, M, fd_den (k := 3) (I0 := E0) M sc_first_wrong fun cdv A outer s H E g hr F => ?_⟩
  exact s_cons (s_if (w_pt (w_or (b_not (b_tru (d_callB n_isi rfl T.n_isinstance (by decide +kernel) (a_cons (dv 0) (a_cons (d_ty rfl T.n_tuple (by decide +kernel)) (a_nil)))) (fun _ => rfl))) (w_or1 (b_cmp o_gt (d_callB n_len rfl T.n_len (by decide +kernel) (a_cons (dv 0) (a_nil))) (dg T.c_MAX_EVENTS) (by first | exact nomark _ | rfl))))) (s_one (s_ret (d_tup (a_cons (d_non) (a_nil))))) (s_next)) (s_cons (s_for PassesOwn.never rfl (i_en rfl T.n_enumerate (a_cons (dv 0) (a_nil))) (g_t rfl (gs_cons (g_n (i := 2) rfl sc_first_wrong.nd rfl (by first | exact Or.inl rfl | exact Or.inr rfl)) (gs_cons (g_n (i := 3) rfl sc_first_wrong.nd rfl (by first | exact Or.inl rfl | exact Or.inr rfl)) (gs_nil)))) (s_one (s_if (w_pt (w_or (b_not (b_tru (d_call C0.fn g (hr.mono (by decide)) rfl C0.hm C0.made.kp (b_is_event C0.made) .nil (a_cons (dv 3) (a_nil))) (fun _ => rfl))) (w_or1 (w_pt (w_and (b_cmp o_nis (dv 1) (d_non) (by first | exact nomark _ | rfl)) (w_and1 (b_cmp (o_nin hr.units) (d_ix (dv 3) (d_int)) (dv 1) (by first | exact nomark _ | rfl)))))))) (s_one (s_ret (d_tup (a_cons (dv 2) (a_nil))))) (s_next)))) (s_one (s_ret (d_non))))
theorem b_check_log_1 {f : Addr} {fd : FuncData} (M : Made K f fd "check_log" "check_log" st_check_log [V.non]) : ∃ ds, Vals ([V.non] : List V) ds ∧ Binds K fd ["log", "kinds"] ds := M.binds1 1 0 (by decide) (by decide) fun _ _ _ _ _ _ _ us its h1 h2 => match us, its, h1, h2 with | [_], [_], _, _ => ⟨_, rfl, rfl⟩
theorem b_check_log_2 {f : Addr} {fd : FuncData} (M : Made K f fd "check_log" "check_log" st_check_log [V.non]) : ∃ ds, Vals ([] : List V) ds ∧ Binds K fd ["log", "kinds"] ds := M.binds1 2 1 (by decide) (by decide) fun _ _ _ _ _ _ _ us its h1 h2 => match us, its, h1, h2 with | [_, _], [_], _, _ => ⟨_, rfl, rfl⟩
theorem c_check_log (T : Tx K mg) : ∃ f fd, Cal P w K mg base 5 "check_log" ["log", "kinds"] st_check_log [V.non] d_check_log f fd := by
  obtain ⟨f, fd, M, hm⟩ := T.f_check_log
  obtain ⟨f0, fd0, C0⟩ := c_first_wrong (P := P) (w := w) (base := base) T
  obtain ⟨dU0_2, rU0_2, bU0_2⟩ := b_first_wrong_2 C0.made
  have B0_2 : DfR E0 K w [] [] dU0_2 ∧ Binds K fd0 ["value", "kinds"] dU0_2 := ⟨⟨rU0_2, fun F I l => rfl⟩, bU0_2⟩
  refine ⟨f, fd, hm, M, fd_den (k := 4) (I0 := E0) M sc_check_log fun cdv A outer s H E g hr F => ?_⟩
  exact s_one (s_ifW (bw_cmp (i := 2) sc_check_log.nd rfl (by first | exact Or.inl rfl | exact Or.inr rfl) o_nis (d_call C0.fn g (hr.mono (by decide)) rfl C0.hm C0.made.kp B0_2.2 B0_2.1 (a_cons (dv 0) (a_cons (dv 1) (a_nil)))) (d_non) (by first | exact nomark _ | rfl)) (s_one (s_never)) (s_next))
theorem b_check_position {f : Addr} {fd : FuncData} (M : Made K f fd "check_position" "check_position" st_check_position []) : Binds K fd ["position", "size"] [] := M.bindsN fun _ _ _ _ _ _ us hl => match us, hl with | [_, _], _ => rfl
theorem c_check_position (T : Tx K mg) : ∃ f fd, Cal P w K mg base 2 "check_position" ["position", "size"] st_check_position [] d_check_position f fd := by
  obtain ⟨f, fd, M, hm⟩ := T.f_check_position
  obtain ⟨f0, fd0, C0⟩ := c_is_integer (P := P) (w := w) (base := base) T
  refine ⟨f, fd, hm, M, fd_den (k := 1) (I0 := E0) M sc_check_position fun cdv A outer s H E g hr F => ?_⟩
  exact s_one (s_if (w_pt (w_or (b_not (b_tru (d_call C0.fn g (hr.mono (by decide)) rfl C0.hm C0.made.kp (b_is_integer C0.made) .nil (a_cons (dv 0) (a_nil))) (fun _ => rfl))) (w_or1 (b_not (b_ch o_le o_lt (d_int) (dv 0) (dv 1)))))) (s_one (s_never)) (s_next))
theorem b_check_amount {f : Addr} {fd : FuncData} (M : Made K f fd "check_amount" "check_amount" st_check_amount []) : Binds K fd ["amount"] [] := M.bindsN fun _ _ _ _ _ _ us hl => match us, hl with | [_], _ => rfl
theorem c_check_amount (T : Tx K mg) : ∃ f fd, Cal P w K mg base 3 "check_amount" ["amount"] st_check_amount [] d_check_amount f fd := by
  obtain ⟨f, fd, M, hm⟩ := T.f_check_amount
  obtain ⟨f0, fd0, C0⟩ := c_is_amount (P := P) (w := w) (base := base) T
  refine ⟨f, fd, hm, M, fd_den (k := 2) (I0 := E0) M sc_check_amount fun cdv A outer s H E g hr F => ?_⟩
  exact s_one (s_if (b_not (b_tru (d_call C0.fn g (hr.mono (by decide)) rfl C0.hm C0.made.kp (b_is_amount C0.made) .nil (a_cons (dv 0) (a_nil))) (fun _ => rfl))) (s_one (s_never)) (s_next))
theorem b_corrected {f : Addr} {fd : FuncData} (M : Made K f fd "corrected" "corrected" st_corrected []) : Binds K fd ["log", "position", "amount"] [] := M.bindsN fun _ _ _ _ _ _ us hl => match us, hl with | [_, _, _], _ => rfl
theorem kb_corrected_0 {f : Addr} {fd : FuncData} (M : Made K f fd "corrected" "corrected" st_corrected []) : KB K fd ["log", "position", "amount"] ["amount", "position", "log"] 0 [.k 2, .k 1, .k 0] [] := kb0 M ["amount", "position", "log"] 0 [.k 2, .k 1, .k 0] fun _ _ _ _ _ _ us ws h1 h2 => match us, ws, h1, h2 with | [], [_, _, _], _, _ => rfl
theorem c_corrected (T : Tx K mg) : ∃ f fd, Cal P w K mg base 6 "corrected" ["log", "position", "amount"] st_corrected [] d_corrected f fd := by
  obtain ⟨f, fd, M, hm⟩ := T.f_corrected
  obtain ⟨f0, fd0, C0⟩ := c_check_log (P := P) (w := w) (base := base) T
  obtain ⟨dU0_1, rU0_1, bU0_1⟩ := b_check_log_1 C0.made
  have B0_1 : DfR E0 K w [D.P.non] [V.non] dU0_1 ∧ Binds K fd0 ["log", "kinds"] dU0_1 := ⟨⟨rU0_1, fun F I l => ⟨_, _, rfl, rfl, rfl⟩⟩, bU0_1⟩
  obtain ⟨f1, fd1, C1⟩ := c_check_position (P := P) (w := w) (base := base) T
  obtain ⟨f2, fd2, C2⟩ := c_check_amount (P := P) (w := w) (base := base) T
  refine ⟨f, fd, hm, M, fd_den (k := 5) (I0 := E0) M sc_corrected fun cdv A outer s H E g hr F => ?_⟩
  exact s_cons (s_expr (d_call C0.fn g (hr.mono (by decide)) rfl C0.hm C0.made.kp B0_1.2 B0_1.1 (a_cons (dv 0) (a_nil)))) (s_cons (s_expr (d_call C1.fn g (hr.mono (by decide)) rfl C1.hm C1.made.kp (b_check_position C1.made) .nil (a_cons (dv 1) (a_cons (d_callB n_len rfl T.n_len (by decide +kernel) (a_cons (dv 0) (a_nil))) (a_nil))))) (s_cons (s_expr (d_call C2.fn g (hr.mono (by decide)) rfl C2.hm C2.made.kp (b_check_amount C2.made) .nil (a_cons (dv 2) (a_nil)))) (s_one (s_ret (d_tup (a_star (d_sl (dv 0) (o_none) (o_some (dv 1))) (a_cons (d_tup (a_cons (d_ix (d_ix (dv 0) (dv 1)) (d_int)) (a_cons (dv 2) (a_nil)))) (a_star (d_sl (dv 0) (o_some (d_op o_add (dv 1) (d_int))) (o_none)) (a_nil)))))))))
theorem b_without {f : Addr} {fd : FuncData} (M : Made K f fd "without" "without" st_without []) : Binds K fd ["log", "position"] [] := M.bindsN fun _ _ _ _ _ _ us hl => match us, hl with | [_, _], _ => rfl
theorem kb_without_0 {f : Addr} {fd : FuncData} (M : Made K f fd "without" "without" st_without []) : KB K fd ["log", "position"] ["position", "log"] 0 [.k 1, .k 0] [] := kb0 M ["position", "log"] 0 [.k 1, .k 0] fun _ _ _ _ _ _ us ws h1 h2 => match us, ws, h1, h2 with | [], [_, _], _, _ => rfl
theorem c_without (T : Tx K mg) : ∃ f fd, Cal P w K mg base 6 "without" ["log", "position"] st_without [] d_without f fd := by
  obtain ⟨f, fd, M, hm⟩ := T.f_without
  obtain ⟨f0, fd0, C0⟩ := c_check_log (P := P) (w := w) (base := base) T
  obtain ⟨dU0_1, rU0_1, bU0_1⟩ := b_check_log_1 C0.made
  have B0_1 : DfR E0 K w [D.P.non] [V.non] dU0_1 ∧ Binds K fd0 ["log", "kinds"] dU0_1 := ⟨⟨rU0_1, fun F I l => ⟨_, _, rfl, rfl, rfl⟩⟩, bU0_1⟩
  obtain ⟨f1, fd1, C1⟩ := c_check_position (P := P) (w := w) (base := base) T
  refine ⟨f, fd, hm, M, fd_den (k := 5) (I0 := E0) M sc_without fun cdv A outer s H E g hr F => ?_⟩
  exact s_cons (s_expr (d_call C0.fn g (hr.mono (by decide)) rfl C0.hm C0.made.kp B0_1.2 B0_1.1 (a_cons (dv 0) (a_nil)))) (s_cons (s_expr (d_call C1.fn g (hr.mono (by decide)) rfl C1.hm C1.made.kp (b_check_position C1.made) .nil (a_cons (dv 1) (a_cons (d_callB n_len rfl T.n_len (by decide +kernel) (a_cons (dv 0) (a_nil))) (a_nil))))) (s_one (s_ret (d_op o_add (d_sl (dv 0) (o_none) (o_some (dv 1))) (d_sl (dv 0) (o_some (d_op o_add (dv 1) (d_int))) (o_none))))))
theorem b_swapped {f : Addr} {fd : FuncData} (M : Made K f fd "swapped" "swapped" st_swapped []) : Binds K fd ["log", "position"] [] := M.bindsN fun _ _ _ _ _ _ us hl => match us, hl with | [_, _], _ => rfl
theorem kb_swapped_0 {f : Addr} {fd : FuncData} (M : Made K f fd "swapped" "swapped" st_swapped []) : KB K fd ["log", "position"] ["position", "log"] 0 [.k 1, .k 0] [] := kb0 M ["position", "log"] 0 [.k 1, .k 0] fun _ _ _ _ _ _ us ws h1 h2 => match us, ws, h1, h2 with | [], [_, _], _, _ => rfl
theorem c_swapped (T : Tx K mg) : ∃ f fd, Cal P w K mg base 6 "swapped" ["log", "position"] st_swapped [] d_swapped f fd := by
  obtain ⟨f, fd, M, hm⟩ := T.f_swapped
  obtain ⟨f0, fd0, C0⟩ := c_check_log (P := P) (w := w) (base := base) T
  obtain ⟨dU0_1, rU0_1, bU0_1⟩ := b_check_log_1 C0.made
  have B0_1 : DfR E0 K w [D.P.non] [V.non] dU0_1 ∧ Binds K fd0 ["log", "kinds"] dU0_1 := ⟨⟨rU0_1, fun F I l => ⟨_, _, rfl, rfl, rfl⟩⟩, bU0_1⟩
  obtain ⟨f1, fd1, C1⟩ := c_check_position (P := P) (w := w) (base := base) T
  refine ⟨f, fd, hm, M, fd_den (k := 5) (I0 := E0) M sc_swapped fun cdv A outer s H E g hr F => ?_⟩
  exact s_cons (s_expr (d_call C0.fn g (hr.mono (by decide)) rfl C0.hm C0.made.kp B0_1.2 B0_1.1 (a_cons (dv 0) (a_nil)))) (s_cons (s_expr (d_call C1.fn g (hr.mono (by decide)) rfl C1.hm C1.made.kp (b_check_position C1.made) .nil (a_cons (dv 1) (a_cons (d_op o_sub (d_callB n_len rfl T.n_len (by decide +kernel) (a_cons (dv 0) (a_nil))) (d_int)) (a_nil))))) (s_one (s_ret (d_tup (a_star (d_sl (dv 0) (o_none) (o_some (dv 1))) (a_cons (d_ix (dv 0) (d_op o_add (dv 1) (d_int))) (a_cons (d_ix (dv 0) (dv 1)) (a_star (d_sl (dv 0) (o_some (d_op o_add (dv 1) (d_int))) (o_none)) (a_nil)))))))))
theorem b_repeated {f : Addr} {fd : FuncData} (M : Made K f fd "repeated" "repeated" st_repeated []) : Binds K fd ["log", "position"] [] := M.bindsN fun _ _ _ _ _ _ us hl => match us, hl with | [_, _], _ => rfl
theorem kb_repeated_0 {f : Addr} {fd : FuncData} (M : Made K f fd "repeated" "repeated" st_repeated []) : KB K fd ["log", "position"] ["position", "log"] 0 [.k 1, .k 0] [] := kb0 M ["position", "log"] 0 [.k 1, .k 0] fun _ _ _ _ _ _ us ws h1 h2 => match us, ws, h1, h2 with | [], [_, _], _, _ => rfl
theorem c_repeated (T : Tx K mg) : ∃ f fd, Cal P w K mg base 6 "repeated" ["log", "position"] st_repeated [] d_repeated f fd := by
  obtain ⟨f, fd, M, hm⟩ := T.f_repeated
  obtain ⟨f0, fd0, C0⟩ := c_check_log (P := P) (w := w) (base := base) T
  obtain ⟨dU0_1, rU0_1, bU0_1⟩ := b_check_log_1 C0.made
  have B0_1 : DfR E0 K w [D.P.non] [V.non] dU0_1 ∧ Binds K fd0 ["log", "kinds"] dU0_1 := ⟨⟨rU0_1, fun F I l => ⟨_, _, rfl, rfl, rfl⟩⟩, bU0_1⟩
  obtain ⟨f1, fd1, C1⟩ := c_check_position (P := P) (w := w) (base := base) T
  refine ⟨f, fd, hm, M, fd_den (k := 5) (I0 := E0) M sc_repeated fun cdv A outer s H E g hr F => ?_⟩
  exact s_cons (s_expr (d_call C0.fn g (hr.mono (by decide)) rfl C0.hm C0.made.kp B0_1.2 B0_1.1 (a_cons (dv 0) (a_nil)))) (s_cons (s_expr (d_call C1.fn g (hr.mono (by decide)) rfl C1.hm C1.made.kp (b_check_position C1.made) .nil (a_cons (dv 1) (a_cons (d_callB n_len rfl T.n_len (by decide +kernel) (a_cons (dv 0) (a_nil))) (a_nil))))) (s_cons (s_if (b_cmp o_ge (d_callB n_len rfl T.n_len (by decide +kernel) (a_cons (dv 0) (a_nil))) (dg T.c_MAX_EVENTS) (by first | exact nomark _ | rfl)) (s_one (s_never)) (s_next)) (s_one (s_ret (d_op o_add (d_sl (dv 0) (o_none) (o_some (d_op o_add (dv 1) (d_int)))) (d_sl (dv 0) (o_some (dv 1)) (o_none)))))))
theorem b__law_cell {f : Addr} {fd : FuncData} (M : Made K f fd "_law_cell" "_law_cell" st__law_cell []) : Binds K fd ["_law_cells", "_law_k"] [] := M.bindsN fun _ _ _ _ _ _ us hl => match us, hl with | [_, _], _ => rfl
theorem c__law_cell (T : Tx K mg) : ∃ f fd, Cal P w K mg base 1 "_law_cell" ["_law_cells", "_law_k"] st__law_cell [] d__law_cell f fd := by
  obtain ⟨f, fd, M, hm⟩ := T.f__law_cell
  refine ⟨f, fd, hm, M, fd_den (k := 0) (I0 := E0) M sc__law_cell fun cdv A outer s H E g hr F => ?_⟩
  exact s_cons (s_if (b_cmp o_lt (dv 1) (d_callB n_len rfl T.n_len (by decide +kernel) (a_cons (dv 0) (a_nil))) (by first | exact nomark _ | rfl)) (s_one (s_ret (d_ix (dv 0) (dv 1)))) (s_next)) (s_cons (s_asg (d_op o_mod (d_op o_mul (d_int) (d_op o_add (d_op o_add (d_op o_mul (dv 1) (dv 1)) (d_op o_mul (d_int) (dv 1))) (d_int))) (d_int)) (g_n (i := 2) rfl sc__law_cell.nd rfl (by first | exact Or.inl rfl | exact Or.inr rfl))) (s_cons (s_for PassesOwn.never rfl (i_seq (d_sl (dv 0) (o_none) (o_some (d_int)))) (g_n (i := 3) rfl sc__law_cell.nd rfl (by first | exact Or.inl rfl | exact Or.inr rfl)) (s_one (s_asg (d_op o_mod (d_op o_add (d_op o_mul (dv 2) (d_int)) (dv 3)) (d_int)) (g_n (i := 2) rfl sc__law_cell.nd rfl (by first | exact Or.inl rfl | exact Or.inr rfl))))) (s_one (s_ret (dv 2)))))
theorem b__law_pool {f : Addr} {fd : FuncData} (M : Made K f fd "_law_pool" "_law_pool" st__law_pool []) : Binds K fd ["_law_cell_here"] [] := M.bindsN fun _ _ _ _ _ _ us hl => match us, hl with | [_], _ => rfl
theorem c__law_pool (T : Tx K mg) : ∃ f fd, Cal P w K mg base 1 "_law_pool" ["_law_cell_here"] st__law_pool [] d__law_pool f fd := by
  obtain ⟨f, fd, M, hm⟩ := T.f__law_pool
  refine ⟨f, fd, hm, M, fd_den (k := 0) (I0 := E0) M sc__law_pool fun cdv A outer s H E g hr F => ?_⟩
  exact s_cons (s_asg (d_if (w_pt (w_or (b_cmp o_lt (dv 0) (d_int) (by first | exact nomark _ | rfl)) (w_or1 (b_cmp o_ge (dv 0) (d_op o_pow (d_int) (d_int)) (by first | exact nomark _ | rfl))))) (d_callB n_abs rfl T.n_abs (by decide +kernel) (a_cons (dv 0) (a_nil))) (d_int)) (g_n (i := 1) rfl sc__law_pool.nd rfl (by first | exact Or.inl rfl | exact Or.inr rfl))) (s_one (s_ret (d_lstS (a_cons (d_op o_mod (dv 0) (d_int)) (a_cons (dv 1) (a_cons (d_int) (a_nil)))))))
theorem b__law_draw {f : Addr} {fd : FuncData} (M : Made K f fd "_law_draw" "_law_draw" st__law_draw []) : Binds K fd ["_law_pool_here", "_law_many"] [] := M.bindsN fun _ _ _ _ _ _ us hl => match us, hl with | [_, _], _ => rfl
theorem c__law_draw (T : Tx K mg) : ∃ f fd, Cal P w K mg base 1 "_law_draw" ["_law_pool_here", "_law_many"] st__law_draw [] d__law_draw f fd := by
  obtain ⟨f, fd, M, hm⟩ := T.f__law_draw
  refine ⟨f, fd, hm, M, fd_den (k := 0) (I0 := E0) M sc__law_draw fun cdv A outer s H E g hr F => ?_⟩
  exact s_cons (s_asg (d_op o_add (d_ix (dv 0) (d_int)) (d_int)) (g_s (dv 0) (d_int))) (s_cons (s_asg (d_ix (dv 0) (d_int)) (g_n (i := 2) rfl sc__law_draw.nd rfl (by first | exact Or.inl rfl | exact Or.inr rfl))) (s_cons (s_asg (d_op o_mod (d_op o_add (d_op o_add (d_op o_mul (dv 2) (d_op o_add (d_op o_mod (dv 2) (d_int)) (d_int))) (d_op o_mul (d_int) (d_ix (dv 0) (d_int)))) (d_int)) (d_int)) (g_s (dv 0) (d_int))) (s_cons (s_if (b_cmp o_gt (d_ix (dv 0) (d_int)) (d_int) (by first | exact nomark _ | rfl)) (s_cons (s_asg (d_callB n_divmod rfl T.n_divmod (by decide +kernel) (a_cons (d_ix (dv 0) (d_int)) (a_cons (dv 1) (a_nil)))) (g_t rfl (gs_cons (g_s (dv 0) (d_int)) (gs_cons (g_n (i := 3) rfl sc__law_draw.nd rfl (by first | exact Or.inl rfl | exact Or.inr rfl)) (gs_nil))))) (s_one (s_ret (dv 3)))) (s_next)) (s_one (s_ret (d_op o_mod (d_op o_fdiv (d_ix (dv 0) (d_int)) (d_int)) (dv 1)))))))
theorem b__law_events {f : Addr} {fd : FuncData} (M : Made K f fd "_law_events" "_law_events" st__law_events []) : Binds K fd ["_law_pool_here"] [] := M.bindsN fun _ _ _ _ _ _ us hl => match us, hl with | [_], _ => rfl
theorem c__law_events (T : Tx K mg) : ∃ f fd, Cal P w K mg base 2 "_law_events" ["_law_pool_here"] st__law_events [] d__law_events f fd := by
  obtain ⟨f, fd, M, hm⟩ := T.f__law_events
  obtain ⟨f0, fd0, C0⟩ := c__law_draw (P := P) (w := w) (base := base) T
  refine ⟨f, fd, hm, M, fd_den (k := 1) (I0 := E0) M sc__law_events fun cdv A outer s H E g hr F => ?_⟩
  exact s_cons (s_own (i := 1) sc__law_events.nd rfl (by first | exact Or.inl rfl | exact Or.inr rfl) (n_disp (a_nil))) (s_cons (s_for PassesOwn.never rfl (i_r1 rfl T.n_range (a_cons (d_op o_add (d_int) (d_call C0.fn g (hr.mono (by decide)) rfl C0.hm C0.made.kp (b__law_draw C0.made) .nil (a_cons (dv 0) (a_cons (d_int) (a_nil))))) (a_nil))) (g_n (i := 2) rfl sc__law_events.nd rfl (by first | exact Or.inl rfl | exact Or.inr rfl)) (s_cons (s_asg (d_ix (d_lst (a_cons (d_op o_sub (d_call C0.fn g (hr.mono (by decide)) rfl C0.hm C0.made.kp (b__law_draw C0.made) .nil (a_cons (dv 0) (a_cons (d_int) (a_nil)))) (d_int)) (a_cons (d_op o_pow (d_int) (d_int)) (a_cons (d_neg (d_op o_pow (d_int) (d_int))) (a_cons (d_int) (a_nil)))))) (d_call C0.fn g (hr.mono (by decide)) rfl C0.hm C0.made.kp (b__law_draw C0.made) .nil (a_cons (dv 0) (a_cons (d_int) (a_nil))))) (g_n (i := 3) rfl sc__law_events.nd rfl (by first | exact Or.inl rfl | exact Or.inr rfl))) (s_one (s_expr (d_append (dv 1) (a_cons (d_tup (a_cons (d_ix (d_lst (a_cons (d_str) (a_cons (d_str) (a_cons (d_str) (a_cons (d_str) (a_nil)))))) (d_call C0.fn g (hr.mono (by decide)) rfl C0.hm C0.made.kp (b__law_draw C0.made) .nil (a_cons (dv 0) (a_cons (d_int) (a_nil))))) (a_cons (dv 3) (a_nil)))) (a_nil))))))) (s_one (s_ret (d_callTy n_tup rfl T.n_tuple (by decide +kernel) (a_cons (dv 1) (a_nil))))))
theorem b__law_replaced {f : Addr} {fd : FuncData} (M : Made K f fd "_law_replaced" "_law_replaced" st__law_replaced []) : Binds K fd ["_law_events_here", "_law_at", "_law_some"] [] := M.bindsN fun _ _ _ _ _ _ us hl => match us, hl with | [_, _, _], _ => rfl
theorem c__law_replaced (T : Tx K mg) : ∃ f fd, Cal P w K mg base 1 "_law_replaced" ["_law_events_here", "_law_at", "_law_some"] st__law_replaced [] d__law_replaced f fd := by
  obtain ⟨f, fd, M, hm⟩ := T.f__law_replaced
  refine ⟨f, fd, hm, M, fd_den (k := 0) (I0 := E0) M sc__law_replaced fun cdv A outer s H E g hr F => ?_⟩
  exact s_one (s_ret (d_op o_add (d_op o_add (d_sl (dv 0) (o_none) (o_some (dv 1))) (dv 2)) (d_sl (dv 0) (o_some (d_op o_add (dv 1) (d_int))) (o_none))))
theorem b__law_right {f : Addr} {fd : FuncData} (M : Made K f fd "_law_right" "_law_right" st__law_right []) : Binds K fd ["_law_pool_here"] [] := M.bindsN fun _ _ _ _ _ _ us hl => match us, hl with | [_], _ => rfl
theorem c__law_right (T : Tx K mg) : ∃ f fd, Cal P w K mg base 7 "_law_right" ["_law_pool_here"] st__law_right [] d__law_right f fd := by
  obtain ⟨f, fd, M, hm⟩ := T.f__law_right
  obtain ⟨f0, fd0, C0⟩ := c__law_events (P := P) (w := w) (base := base) T
  obtain ⟨f1, fd1, C1⟩ := c__law_draw (P := P) (w := w) (base := base) T
  obtain ⟨f2, fd2, C2⟩ := c_repeated (P := P) (w := w) (base := base) T
  obtain ⟨f3, fd3, C3⟩ := c_without (P := P) (w := w) (base := base) T
  obtain ⟨f4, fd4, C4⟩ := c_corrected (P := P) (w := w) (base := base) T
  obtain ⟨f5, fd5, C5⟩ := c__law_replaced (P := P) (w := w) (base := base) T
  obtain ⟨f6, fd6, C6⟩ := c_swapped (P := P) (w := w) (base := base) T
  refine ⟨f, fd, hm, M, fd_den (k := 6) (I0 := E0) M sc__law_right fun cdv A outer s H E g hr F => ?_⟩
  exact s_cons (s_asg (d_call C0.fn g (hr.mono (by decide)) rfl C0.hm C0.made.kp (b__law_events C0.made) .nil (a_cons (dv 0) (a_nil))) (g_n (i := 1) rfl sc__law_right.nd rfl (by first | exact Or.inl rfl | exact Or.inr rfl))) (s_cons (s_asg (d_callB (n_repr hr.units g) rfl T.n_repr (by decide +kernel) (a_cons (dv 1) (a_nil))) (g_n (i := 2) rfl sc__law_right.nd rfl (by first | exact Or.inl rfl | exact Or.inr rfl))) (s_cons (s_for PassesOwn.never rfl (i_r1 rfl T.n_range (a_cons (d_int) (a_nil))) (g_n (i := 3) rfl sc__law_right.nd rfl (by first | exact Or.inl rfl | exact Or.inr rfl)) (s_cons ((by first | exact s_par (i := 7) (j := 8) rfl sc__law_right.nd rfl rfl (by decide) rfl rfl (a_cons (d_call C1.fn g (hr.mono (by decide)) rfl C1.hm C1.made.kp (b__law_draw C1.made) .nil (a_cons (dv 0) (a_cons (d_callB n_len rfl T.n_len (by decide +kernel) (a_cons (dv 1) (a_nil))) (a_nil)))) (a_cons (d_op o_sub (d_call C1.fn g (hr.mono (by decide)) rfl C1.hm C1.made.kp (b__law_draw C1.made) .nil (a_cons (dv 0) (a_cons (d_int) (a_nil)))) (d_int)) (a_nil))) rfl | exact s_asg (d_tup (a_cons (d_call C1.fn g (hr.mono (by decide)) rfl C1.hm C1.made.kp (b__law_draw C1.made) .nil (a_cons (dv 0) (a_cons (d_callB n_len rfl T.n_len (by decide +kernel) (a_cons (dv 1) (a_nil))) (a_nil)))) (a_cons (d_op o_sub (d_call C1.fn g (hr.mono (by decide)) rfl C1.hm C1.made.kp (b__law_draw C1.made) .nil (a_cons (dv 0) (a_cons (d_int) (a_nil)))) (d_int)) (a_nil)))) (g_t rfl (gs_cons (g_n (i := 7) rfl sc__law_right.nd rfl (by first | exact Or.inl rfl | exact Or.inr rfl)) (gs_cons (g_n (i := 8) rfl sc__law_right.nd rfl (by first | exact Or.inl rfl | exact Or.inr rfl)) (gs_nil)))))) (s_cons (s_asg (d_ix (dv 1) (dv 7)) (g_t rfl (gs_cons (g_n (i := 9) rfl sc__law_right.nd rfl (by first | exact Or.inl rfl | exact Or.inr rfl)) (gs_cons (g_n (i := 10) rfl sc__law_right.nd rfl (by first | exact Or.inl rfl | exact Or.inr rfl)) (gs_nil))))) (s_cons (s_asg (d_lst (a_cons (d_call C4.fn g (hr.mono (by decide)) rfl C4.hm C4.made.kp (b_corrected C4.made) .nil (a_cons (dv 1) (a_cons (dv 7) (a_cons (dv 8) (a_nil))))) (a_cons (d_call C3.fn g (hr.mono (by decide)) rfl C3.hm C3.made.kp (b_without C3.made) .nil (a_cons (dv 1) (a_cons (dv 7) (a_nil)))) (a_cons (d_call C2.fn g (hr.mono (by decide)) rfl C2.hm C2.made.kp (b_repeated C2.made) .nil (a_cons (dv 1) (a_cons (dv 7) (a_nil)))) (a_nil))))) (g_n (i := 4) rfl sc__law_right.nd rfl (by first | exact Or.inl rfl | exact Or.inr rfl))) (s_cons (s_own (i := 5) sc__law_right.nd rfl (by first | exact Or.inl rfl | exact Or.inr rfl) (n_disp (a_cons (d_call C5.fn g (hr.mono (by decide)) rfl C5.hm C5.made.kp (b__law_replaced C5.made) .nil (a_cons (dv 1) (a_cons (dv 7) (a_cons (d_tup (a_cons (d_tup (a_cons (dv 9) (a_cons (dv 8) (a_nil)))) (a_nil))) (a_nil))))) (a_cons (d_call C5.fn g (hr.mono (by decide)) rfl C5.hm C5.made.kp (b__law_replaced C5.made) .nil (a_cons (dv 1) (a_cons (dv 7) (a_cons (d_tup (a_nil)) (a_nil))))) (a_nil))))) (s_cons (s_expr (d_append (dv 5) (a_cons (d_call C5.fn g (hr.mono (by decide)) rfl C5.hm C5.made.kp (b__law_replaced C5.made) .nil (a_cons (dv 1) (a_cons (dv 7) (a_cons (d_tup (a_cons (d_ix (dv 1) (dv 7)) (a_cons (d_ix (dv 1) (dv 7)) (a_nil)))) (a_nil))))) (a_nil)))) (s_cons (s_own (i := 6) sc__law_right.nd rfl (by first | exact Or.inl rfl | exact Or.inr rfl) (n_disp (a_cons (d_callK0 C4.fn g (hr.mono (by decide)) rfl C4.hm C4.made.kp (kb_corrected_0 C4.made) .nil (k_cons (dv 8) (k_cons (dv 7) (k_cons (dv 1) (k_nil))))) (a_cons (d_callK0 C3.fn g (hr.mono (by decide)) rfl C3.hm C3.made.kp (kb_without_0 C3.made) .nil (k_cons (dv 7) (k_cons (dv 1) (k_nil)))) (a_nil))))) (s_cons (s_expr (d_append (dv 6) (a_cons (d_callK0 C2.fn g (hr.mono (by decide)) rfl C2.hm C2.made.kp (kb_repeated_0 C2.made) .nil (k_cons (dv 7) (k_cons (dv 1) (k_nil)))) (a_nil)))) (s_cons (s_if (w_pt (w_or (b_cmp (o_ne hr.units) (d_callB (n_repr hr.units g) rfl T.n_repr (by decide +kernel) (a_cons (dv 4) (a_nil))) (d_callB (n_repr hr.units g) rfl T.n_repr (by decide +kernel) (a_cons (dv 5) (a_nil))) (by first | exact nomark _ | rfl)) (w_or1 (b_cmp (o_ne hr.units) (d_callB (n_repr hr.units g) rfl T.n_repr (by decide +kernel) (a_cons (dv 6) (a_nil))) (d_callB (n_repr hr.units g) rfl T.n_repr (by decide +kernel) (a_cons (dv 5) (a_nil))) (by first | exact nomark _ | rfl))))) (s_one (s_ret (d_bl))) (s_next)) (s_cons (s_if (w_pt (w_or (b_cmp (o_ne hr.units) (d_call C4.fn g (hr.mono (by decide)) rfl C4.hm C4.made.kp (b_corrected C4.made) .nil (a_cons (d_ix (dv 4) (d_int)) (a_cons (dv 7) (a_cons (dv 10) (a_nil))))) (dv 1) (by first | exact nomark _ | rfl)) (w_or1 (b_cmp (o_ne hr.units) (d_lst (a_cons (d_call C3.fn g (hr.mono (by decide)) rfl C3.hm C3.made.kp (b_without C3.made) .nil (a_cons (d_ix (dv 4) (d_int)) (a_cons (dv 7) (a_nil)))) (a_cons (d_call C3.fn g (hr.mono (by decide)) rfl C3.hm C3.made.kp (b_without C3.made) .nil (a_cons (d_ix (dv 4) (d_int)) (a_cons (d_op o_add (dv 7) (d_int)) (a_nil)))) (a_nil)))) (d_op o_mul (d_lst (a_cons (dv 1) (a_nil))) (d_int)) (by first | exact nomark _ | rfl))))) (s_one (s_ret (d_bl))) (s_next)) (s_one (s_if (b_cmp o_lt (dv 7) (d_op o_sub (d_callB n_len rfl T.n_len (by decide +kernel) (a_cons (dv 1) (a_nil))) (d_int)) (by first | exact nomark _ | rfl)) (s_cons (s_asg (d_call C6.fn g (hr.mono (by decide)) rfl C6.hm C6.made.kp (b_swapped C6.made) .nil (a_cons (dv 1) (a_cons (dv 7) (a_nil)))) (g_n (i := 11) rfl sc__law_right.nd rfl (by first | exact Or.inl rfl | exact Or.inr rfl))) (s_cons (s_if (b_cmp (o_ne hr.units) (d_callB (n_repr hr.units g) rfl T.n_repr (by decide +kernel) (a_cons (dv 11) (a_nil))) (d_callB (n_repr hr.units g) rfl T.n_repr (by decide +kernel) (a_cons (d_op o_add (d_op o_add (d_sl (dv 1) (o_none) (o_some (dv 7))) (d_tup (a_cons (d_ix (dv 1) (d_op o_add (dv 7) (d_int))) (a_cons (d_ix (dv 1) (dv 7)) (a_nil))))) (d_sl (dv 1) (o_some (d_op o_add (dv 7) (d_int))) (o_none))) (a_nil))) (by first | exact nomark _ | rfl)) (s_one (s_ret (d_bl))) (s_next)) (s_one (s_if (b_cmp (o_ne hr.units) (d_callK0 C6.fn g (hr.mono (by decide)) rfl C6.hm C6.made.kp (kb_swapped_0 C6.made) .nil (k_cons (dv 7) (k_cons (dv 11) (k_nil)))) (dv 1) (by first | exact nomark _ | rfl)) (s_one (s_ret (d_bl))) (s_next))))) (s_next))))))))))))) (s_one (s_ret (d_cmp (o_eq hr.units) (d_callB (n_repr hr.units g) rfl T.n_repr (by decide +kernel) (a_cons (dv 1) (a_nil))) (dv 2) (by first | exact nomark _ | rfl))))))
theorem b_law {f : Addr} {fd : FuncData} (M : Made K f fd "law" "law" st_law []) : Binds K fd ["_law_cells"] [] := M.bindsN fun _ _ _ _ _ _ us hl => match us, hl with | [_], _ => rfl
theorem c_law (T : Tx K mg) : ∃ f fd, Cal P w K mg base 8 "law" ["_law_cells"] st_law [] d_law f fd := by
  obtain ⟨f, fd, M, hm⟩ := T.f_law
  obtain ⟨f0, fd0, C0⟩ := c_repeated (P := P) (w := w) (base := base) T
  obtain ⟨f1, fd1, C1⟩ := c_without (P := P) (w := w) (base := base) T
  obtain ⟨f2, fd2, C2⟩ := c_swapped (P := P) (w := w) (base := base) T
  obtain ⟨f3, fd3, C3⟩ := c_corrected (P := P) (w := w) (base := base) T
  obtain ⟨f4, fd4, C4⟩ := c__law_right (P := P) (w := w) (base := base) T
  obtain ⟨f5, fd5, C5⟩ := c__law_pool (P := P) (w := w) (base := base) T
  obtain ⟨f6, fd6, C6⟩ := c__law_cell (P := P) (w := w) (base := base) T
  refine ⟨f, fd, hm, M, fd_den (k := 7) (I0 := E0) M sc_law fun cdv A outer s H E g hr F => ?_⟩
  exact s_cons (s_asg (d_op o_mul (d_tup (a_cons (d_tup (a_cons (d_str) (a_cons (d_int) (a_nil)))) (a_cons (d_tup (a_cons (d_str) (a_cons (d_int) (a_nil)))) (a_nil)))) (d_int)) (g_n (i := 1) rfl sc_law.nd rfl (by first | exact Or.inl rfl | exact Or.inr rfl))) (s_cons (s_if (w_pt (w_or (b_cmp (o_ne hr.units) (d_callB n_len rfl T.n_len (by decide +kernel) (a_cons (d_call C0.fn g (hr.mono (by decide)) rfl C0.hm C0.made.kp (b_repeated C0.made) .nil (a_cons (d_sl (dv 1) (o_none) (o_some (d_int))) (a_cons (d_int) (a_nil)))) (a_nil))) (d_int) (by first | exact nomark _ | rfl)) (w_or1 (b_cmp (o_ne hr.units) (d_callB n_len rfl T.n_len (by decide +kernel) (a_cons (d_call C1.fn g (hr.mono (by decide)) rfl C1.hm C1.made.kp (b_without C1.made) .nil (a_cons (dv 1) (a_cons (d_int) (a_nil)))) (a_nil))) (d_int) (by first | exact nomark _ | rfl))))) (s_one (s_ret (d_bl))) (s_next)) (s_cons (s_if (b_cmp (o_ne hr.units) (d_sl (d_call C2.fn g (hr.mono (by decide)) rfl C2.hm C2.made.kp (b_swapped C2.made) .nil (a_cons (dv 1) (a_cons (d_int) (a_nil)))) (o_some (d_int)) (o_none)) (d_tup (a_cons (d_tup (a_cons (d_str) (a_cons (d_int) (a_nil)))) (a_cons (d_tup (a_cons (d_str) (a_cons (d_int) (a_nil)))) (a_nil)))) (by first | exact nomark _ | rfl)) (s_one (s_ret (d_bl))) (s_next)) (s_cons (s_if (b_cmp (o_ne hr.units) (d_ix (d_call C3.fn g (hr.mono (by decide)) rfl C3.hm C3.made.kp (b_corrected C3.made) .nil (a_cons (dv 1) (a_cons (d_int) (a_cons (d_op o_pow (d_int) (d_int)) (a_nil))))) (d_int)) (d_tup (a_cons (d_str) (a_cons (d_op o_pow (d_int) (d_int)) (a_nil)))) (by first | exact nomark _ | rfl)) (s_one (s_ret (d_bl))) (s_next)) (s_one (s_ret (d_callB (n_all rfl) rfl T.n_all (by decide +kernel) (a_cons (d_frN (n_lc (ow := [("_law_k", 2)]) rfl sc_law.nd (i_r1 rfl T.n_range (a_cons (d_callB (n_max rfl) rfl T.n_max (by decide +kernel) (a_cons (d_int) (a_cons (d_callB (n_min rfl) rfl T.n_min (by decide +kernel) (a_cons (d_int) (a_cons (d_callB n_len rfl T.n_len (by decide +kernel) (a_cons (dv 0) (a_nil))) (a_nil)))) (a_nil)))) (a_nil))) (blkOk_by (N := N_law) (sc := defScope st_law) (by decide +kernel)) (fun _ _ _ _ _ _ => g_n (i := 2) rfl sc_law.nd rfl (by first | exact Or.inl rfl | exact Or.inr rfl)) (fun _ _ _ _ _ _ => tt_yes) (fun _ _ _ _ _ _ => d_call C4.fn g (hr.mono (by decide)) rfl C4.hm C4.made.kp (b__law_right C4.made) .nil (a_cons (d_call C5.fn g (hr.mono (by decide)) rfl C5.hm C5.made.kp (b__law_pool C5.made) .nil (a_cons (d_call C6.fn g (hr.mono (by decide)) rfl C6.hm C6.made.kp (b__law_cell C6.made) .nil (a_cons (dv 0) (a_cons (dv 2) (a_nil)))) (a_nil))) (a_nil))))) (a_nil))))))))
end
end K03
/-! K03P: the plain law of k03, what it shares with k01. -/
namespace K03
open PySem PySem.Spec L2 D
mutual
/-- plain data, all the way down -/
def gd : P → Bool
  | .non | .bl _ | .int _ | .str _ | .dct _ => true
  | .tup xs | .lst xs => gds xs
  | .ty _ | .ref _ | .scr _ | .ins _ _ => false
def gds : List P → Bool
  | [] => true
  | p :: ps => gd p && gds ps
end
theorem gds_all : ∀ xs : List P, gds xs = xs.all gd
  | [] => rfl
  | p :: ps => by rw [gds, gds_all ps]; rfl
def isInt : P → Bool
  | .int _ => true
  | _ => false
theorem s_is_integer {p : P} {S : Store} {Q : P → Store → Prop} (hp : gd p = true) (h : Q (.bl (isInt p)) S) : d_is_integer [p] S Q noX := by
  cases p <;> first
    | (exfalso; simp [gd] at hp; done)
    | (refine ⟨rfl, ?_⟩; simpa [T_is_integer, SRet, TAnd, TCall, ACons, ANil, TV, TC, TNot, isiD, tyN, isB, isKnown, truD, startE, N_is_integer, isInt, asL0] using h)
/-- a comprehension that changes nothing -/
theorem comp_map {g : DG} {te : DT} {vs : List Nat} {Q : List P → D.Env → Store → Prop} {ρ : D.Env} {S : Store} (f : P → P) : ∀ (ps acc : List P), (∀ p ∈ ps, ∀ K : P → D.Env → Store → Prop, (∀ ρ', wipeE ρ' vs = ρ → K (f p) ρ' S) → g p ρ S fun ρ2 S2 => te ρ2 S2 fun r ρ4 S4 => match r with
      | .v y => K y ρ4 S4
      | .loc _ => False) → Q (acc ++ ps.map f) ρ S → compL Tr g BYes te vs Q ps acc ρ S
  | [], acc, _, h => ⟨trivial, by simpa using h⟩
  | p :: ps, acc, hp, h => by
    refine ⟨trivial, hp p (List.mem_cons_self ..) (fun y ρ4 S4 => compL Tr g BYes te vs Q ps (acc ++ [y]) (wipeE ρ4 vs) S4) fun ρ' e => ?_⟩
    rw [e]
    exact comp_map f ps (acc ++ [f p]) (fun q hq => hp q (List.mem_cons_of_mem _ hq)) (by simpa using h)
def LET : Str := "abcdefghijklmnopqrstuvwxyz"
def inL : P → P
  | .str c => .bl (subS c LET)
  | p => p
def isKind : P → Bool
  | .str s => decide (1 ≤ (s.length : Int)) && decide ((s.length : Int) ≤ 8) && (s.cps.toList.all fun c => subS ⟨#[c]⟩ LET)
  | _ => false
theorem bls_signs (x : Str) : bls ((signsP x).map inL) = some (x.cps.toList.map fun c => subS ⟨#[c]⟩ LET) := by
  unfold signsP
  induction x.cps.toList with
  | nil => rfl
  | cons c r ih => rw [List.map_cons, List.map_cons, List.map_cons, inL, bls, ih]; rfl
theorem s_is_kind {p : P} {S : Store} {Q : P → Store → Prop} (hp : gd p = true) (h : Q (.bl (isKind p)) S) : d_is_kind [p] S Q noX := by
  cases p <;> first
    | (exfalso; simp [gd] at hp; done)
    | (refine ⟨rfl, ?_⟩; simpa [T_is_kind, SRet, TAnd, TCall, ACons, ANil, TV, TC, TNot, isiD, tyN, isB, isKnown, truD, startE, N_is_kind, asL0, isKind] using h)
    | skip
  rename_i s
  refine ⟨rfl, ?_⟩
  simp [T_is_kind, SRet, TAnd, TCall, ACons, ANil, TV, TC, TNot, isiD, tyN, isB, isKnown, truD, startE, N_is_kind, asL0, isKind, TCh, ordD, lenD]
  cases h1 : decide (1 ≤ (s.length : Int)) with
  | false => simp [isKind, h1] at h; exact h
  | true =>
    cases h2 : decide ((s.length : Int) ≤ 8) with
    | false => simp [isKind, h1, h2] at h; exact h
    | true =>
      have hl : (signsP s).length ≤ sizeLine := by
        have := of_decide_eq_true h2
        have e : (signsP s).length = s.length := by simp [signsP, Str.length]
        rw [e]
        exact Nat.le_trans (show s.length ≤ 8 by omega) (by decide)
      refine ⟨hl, ?_⟩
      refine comp_map inL _ _ (fun p hp K k => ?_) ?_
      · obtain ⟨c, _, rfl⟩ := List.mem_map.mp hp
        exact k [Sl.v (.str s), Sl.v (.str ⟨#[c]⟩)] rfl
      · simp [isKind, h1, h2] at h
        show allD [.v (.lst ([] ++ (signsP s).map inL))] _ _ _
        unfold allD
        simp only [List.nil_append, asL, Option.bind_some, bls_signs]
        simpa using h

/-! ### the program's functions -/
def isAmt : P → Bool
  | .int i => decide (-1000000000000000000000000000000 ≤ i) && decide (i ≤ 1000000000000000000000000000000)
  | _ => false
theorem s_is_amount {p : P} {S : Store} {Q : P → Store → Prop} (hp : gd p = true) (h : Q (.bl (isAmt p)) S) : d_is_amount [p] S Q noX := by
  refine ⟨rfl, ?_⟩
  refine s_is_integer hp ?_
  cases p <;> first
    | (simpa [truD, isInt, isAmt] using h)
    | skip
  rename_i i
  simp [truD, isInt]
  show match P.bl (decide (-1000000000000000000000000000000 ≤ i)) with
    | .bl true => Q (.bl (decide (i ≤ 1000000000000000000000000000000))) S
    | .bl false => Q (.bl false) S
    | _ => False
  cases h1 : decide (-1000000000000000000000000000000 ≤ i) with
  | true => simp [isAmt, h1] at h; exact h
  | false => simp [isAmt, h1] at h; exact h
def isEv : P → Bool
  | .tup [a, b] => isKind a && isAmt b
  | _ => false
theorem eqP_int (i j : Int) : eqP (.int i) (.int j) = decide (i = j) := by
  simp only [eqP, P.dat, PyData.eqv]; exact rfl
theorem eqOk_int (i j : Int) : eqOk (.int i) (.int j) = true := by rfl
theorem truD_bl {ρ : D.Env} {S : Store} (b : Bool) : truD ρ S (.v (.bl b)) = some b := rfl
theorem s_is_event {p : P} {S : Store} {Q : P → Store → Prop} (hp : gd p = true) (h : Q (.bl (isEv p)) S) : d_is_event [p] S Q noX := by
  cases p <;> first
    | (exfalso; simp [gd] at hp; done)
    | (refine ⟨rfl, ?_⟩; simpa [T_is_event, SRet, TAnd, TCall, ACons, ANil, TV, TC, TNot, isiD, tyN, isB, isKnown, truD, startE, N_is_event, asL0, isEv] using h)
    | skip
  rename_i xs
  have no : (xs.length : Int) ≠ 2 → d_is_event [.tup xs] S Q noX := fun hn => by
    refine ⟨rfl, ?_⟩
    have e : isEv (.tup xs) = false := by
      unfold isEv
      split
      · rename_i a b e; cases e; exact (hn rfl).elim
      · rfl
    rw [e] at h
    simpa [T_is_event, SRet, TAnd, TCall, ACons, ANil, TV, TC, isiD, tyN, isB, isKnown, truD_bl, startE, N_is_event, lenD, asQ, T2, eqD, asD, eqP_int, eqOk_int, hn] using h
  match xs, no with
  | [], no => exact no (by simp)
  | [_], no => exact no (by simp)
  | _ :: _ :: _ :: r, no => exact no (by simp; omega)
  | [a, b], _ =>
    refine ⟨rfl, ?_⟩
    simp [gd, gds] at hp
    have ga := hp.1
    have gb := hp.2
    simp [T_is_event, SRet, TAnd, TCall, ACons, ANil, TV, TC, isiD, tyN, isB, isKnown, truD_bl, startE, N_is_event, lenD, asQ, T2, eqD, asD, eqP_int, eqOk_int, TCl, ixD, atI, ixN, vals]
    refine s_is_kind ga ?_
    cases h1 : isKind a with
    | false => simp [isEv, h1] at h; simpa [truD_bl] using h
    | true =>
      simp [truD_bl]
      refine s_is_amount gb ?_
      simpa [isEv, h1] using h
/-- the first event that is none -/
def wrongAt : Nat → List P → Option Nat
  | _, [] => none
  | i, p :: ps => if isEv p then wrongAt (i + 1) ps else some i
def fwrong : P → P
  | .tup xs => if 1000 < xs.length then .tup [.non] else match wrongAt 0 xs with
    | some i => .tup [.int i]
    | none => .non
  | _ => .tup [.non]
theorem fw_loop {S : Store} {D : DEnds} {p : P} : ∀ (xs : List P) (i : Nat) (a b : Sl), gds xs = true → (match wrongAt i xs with
      | some j => D.rt (.tup [.int j]) S
      | none => ∀ a b, D.nx [.v p, .v .non, a, b] S) →
    forL Tr (GT 2 (GCons (GN 2) (GCons (GN 3) (GNil)))) (SIf (BOr (BNot (BTru (TCl d_is_event [] (ACons (TV 3) (ANil))))) (BAnd (B2 nisD (TV 1) (TC P.non)) (B2 ninD (T2 ixD (TV 3) (TC (P.int 0))) (TV 1)))) (SRet (TTup (ACons (TV 2) (ANil)))) (SNext)) D ((xs.mapIdx fun k q => P.tup [.int (((i + k : Nat) : Nat) : Int), q])) [.v p, .v .non, a, b] S
  | [], i, a, b, _, h => ⟨trivial, h a b⟩
  | q :: xs, i, a, b, hg, h => by
    simp [gds] at hg
    rw [List.mapIdx_cons]
    refine ⟨trivial, ?_⟩
    simp [GT, GCons, GN, GNil, SIf, BOr, BNot, BTru, TCl, ACons, TV, ANil, vals]
    refine s_is_event hg.1 ?_
    cases h1 : isEv q with
    | true =>
      simp [truD_bl, BAnd, B2, T2, TV, TC, nisD, _root_.D.isNon, SNext]
      have := fw_loop xs (i + 1) (.v (.int i)) (.v q) hg.2 (by simpa [wrongAt, h1] using h)
      have e : (fun (k : Nat) (q : P) => P.tup [.int (((i + 1 + k : Nat)) : Int), q]) = fun k q => P.tup [.int (((i + (k + 1) : Nat)) : Int), q] := by
        funext k q; rw [show i + 1 + k = i + (k + 1) by omega]
      rw [e] at this
      exact this
    | false =>
      simp [wrongAt, h1] at h
      simp [truD_bl, SRet, TTup, ACons, TV, ANil, vals]
      exact ⟨by decide, h⟩

theorem s_first_wrong {p : P} {S : Store} {Q : P → Store → Prop} (hp : gd p = true) (h : Q (fwrong p) S) : d_first_wrong [p, .non] S Q noX := by
  cases p <;> first
    | (exfalso; simp [gd] at hp; done)
    | (refine ⟨rfl, ?_⟩; simp [T_first_wrong, SSeq, SIf, BOr, BNot, BTru, SRet, TCall, ACons, ANil, TV, TC, isiD, tyN, isB, isKnown, truD_bl, startE, N_first_wrong, asL0, TTup, vals]; exact ⟨by decide, h⟩)
    | skip
  · rename_i xs
    refine ⟨rfl, ?_⟩
    simp [T_first_wrong, SSeq, SIf, BOr, BNot, BTru, B2, T2, TCall, ACons, ANil, TV, TC, isiD, tyN, isB, isKnown, truD_bl, startE, N_first_wrong, lenD, asQ, ordD]
    by_cases c : 1000 < xs.length
    · have c' : (1000 : Int) < xs.length := by omega
      simp [c', SRet, TTup, ACons, TC, ANil, vals]
      simp [fwrong, c] at h
      exact ⟨by decide, h⟩
    · have c' : ¬ (1000 : Int) < xs.length := by omega
      simp only [c', decide_false, if_false, Bool.false_eq_true, SNext]
      have := fw_loop (S := S) (D := { nx := fun ρ S => SRet (TC P.non) { nx := fun _ S' => Q .non S', rt := Q } ρ S, rt := Q }) (p := .tup xs) xs 0 .un .un hp (by
        simp [fwrong, c] at h
        cases e : wrongAt 0 xs with
        | none => rw [e] at h; intro a b; exact h
        | some j => rw [e] at h; exact h)
      have e : enumP 0 xs = xs.mapIdx fun k q => P.tup [.int (((0 + k : Nat) : Nat) : Int), q] := by
        unfold enumP; simp
      show forL Tr _ _ _ (enumP 0 xs) _ S
      rw [e]
      exact this
def isLog (p : P) : Bool := match fwrong p with
  | .non => true
  | _ => false
theorem wrong_all : ∀ (xs : List P) (i : Nat), (wrongAt i xs).isNone = xs.all isEv
  | [], _ => rfl
  | p :: ps, i => by
    unfold wrongAt
    cases h : isEv p with
    | true => simp [h, wrong_all ps]
    | false => simp [h]
def PoolAt (S : Store) (a : Addr) : Prop := ∃ x y z : Int, S a = some (.lst [.int x, .int y, .int z]) ∧ 0 ≤ x ∧ x < 2147483179 ∧ 0 ≤ y
theorem s_draw {a : Addr} {m : Int} {S : Store} {Q : P → Store → Prop} (hS : PoolAt S a) (h0 : 0 < m) (h1 : m < 2 ^ 60) (h : ∀ r S', 0 ≤ r → r < m → PoolAt S' a → Q (.int r) S') : d__law_draw [.ref a, .int m] S Q noX := by
  obtain ⟨x, y, z, e, x0, x1, y0⟩ := hS
  refine ⟨rfl, ?_⟩
  have m1 : ∀ i : Int, i % 2147483179 < 2147483179 := fun i => Int.emod_lt_of_pos i (by decide)
  have m0 : ∀ i : Int, 0 ≤ i % 2147483179 := fun i => Int.emod_nonneg i (by decide)
  have c1 : ∀ j : Int, mulOk x j := fun j => .inl (.inl ⟨by omega, by omega⟩)
  have c2 : ∀ j : Int, mulOk 70001 j := fun j => .inl (.inl ⟨by decide, by decide⟩)
  have c3 : ∀ i : Int, CDivW i 64 := fun i => ⟨by decide, by decide⟩
  have lg : m.natAbs.log2 < 9000 := by
    have : m.natAbs < 2 ^ 60 := by omega
    have := (Nat.log2_lt (n := m.natAbs) (by omega)).mpr this
    omega
  have c4 : ∀ i : Int, CDivW i m := fun i => ⟨h0, lg⟩
  simp [T__law_draw, SSeq, SAsg, T2, TV, TC, ixD, asQ, asL, e, atI, ixN, addD, startE, N__law_draw, GS, setD, ups_same, ups_ups, GN, ii, mulD, c1, c2, SIf, B2, ordD]
  by_cases hy : 0 < y
  · simp [hy, TCall, ACons, ANil, TV, TC, T2, ixD, asQ, asL, ups_same, ups_ups, atI, ixN, divmodD, c4, GT, GCons, GNil, GS, GN, setD, SRet]
    exact h _ _ (Int.emod_nonneg _ (by omega)) (Int.emod_lt_of_pos _ h0) ⟨_, _, _, ups_same, m0 _, m1 _, Int.ediv_nonneg y0 (by omega)⟩
  · simp [hy, SNext, SRet, T2, TV, TC, ixD, asQ, asL, ups_same, atI, ixN, c3, ii, h0]
    exact h _ _ (Int.emod_nonneg _ (by omega)) (Int.emod_lt_of_pos _ h0) ⟨_, _, _, ups_same, m0 _, m1 _, y0⟩
theorem s_pool {c : Int} {S : Store} {Q : P → Store → Prop} (h : ∀ a S', PoolAt S' a → Q (.ref a) S') : d__law_pool [.int c] S Q noX := by
  refine ⟨rfl, ?_⟩
  have m1 : ∀ i : Int, i % 2147483179 < 2147483179 := fun i => Int.emod_lt_of_pos i (by decide)
  have m0 : ∀ i : Int, 0 ≤ i % 2147483179 := fun i => Int.emod_nonneg i (by decide)
  simp [T__law_pool, SSeq, SAsg, TIf, BOr, B2, T2, TV, TC, ordD, startE, N__law_pool, ii, CPow, GN, SRet, TLstS, ACons, ANil, vals]
  have fin : ∀ d : Int, 0 ≤ d → (3 ≤ sizeLine ∧ ∀ a, S a = none → Q (.ref a) (ups S a (.lst [.int (c % 2147483179), .int d, .int 0]))) := fun d hd => ⟨by decide, fun a _ => h a _ ⟨_, _, _, ups_same, m0 _, m1 _, hd⟩⟩
  by_cases h1 : c < 0
  · simp [h1, TCall, ACons, TV, ANil, absD, T2, TC, ii, vals]
    exact fin _ (by omega)
  · by_cases h2 : 1000000000000000000 ≤ c
    · simp [h1, h2, TCall, ACons, TV, ANil, absD, T2, TC, ii, vals]
      exact fin _ (by omega)
    · simp [h1, h2, TC, T2, TV, ii, vals, ACons, ANil]
      exact fin 0 (by decide)
theorem cell_loop {S : Store} {D : DEnds} {p : P} {k : Int} : ∀ (ns : List Int) (z : Int) (b : Sl), (∀ z b, D.nx [.v p, .v (.int k), .v (.int z), b] S) →
    forL Tr (GN 3) (SAsg (T2 modD (T2 addD (T2 mulD (TV 2) (TC (P.int 42019))) (TV 3)) (TC (P.int 2147483179))) (GN 2)) D (ns.map P.int) [.v p, .v (.int k), .v (.int z), b] S
  | [], z, b, h => ⟨trivial, h z b⟩
  | n :: ns, z, b, h => by
    refine ⟨trivial, ?_⟩
    have c2 : ∀ i : Int, mulOk i 42019 := fun j => .inl (.inr ⟨by decide, by decide⟩)
    simp [GN, SAsg, T2, TV, TC, mulD, c2, addD, ii]
    exact cell_loop ns _ _ h
theorem cut_map {α β : Type} (f : α → β) (xs : List α) (lo hi : Option Int) : cut (xs.map f) lo hi = (cut xs lo hi).map f := by
  unfold cut; rw [List.length_map, List.map_take, List.map_drop]
theorem s_cell {ns : List Int} {k : Int} {S : Store} {Q : P → Store → Prop} (h0 : 0 ≤ k) (hk : k < 100) (h : ∀ c, Q (.int c) S) : d__law_cell [.scr (ns.map .int), .int k] S Q noX := by
  refine ⟨rfl, ?_⟩
  have c1 : mulOk k k := .inl (.inl ⟨by omega, by omega⟩)
  have c2 : ∀ j : Int, mulOk 7 j := fun j => .inl (.inl ⟨by decide, by decide⟩)
  have c3 : ∀ j : Int, mulOk 70009 j := fun j => .inl (.inl ⟨by decide, by decide⟩)
  simp [T__law_cell, SSeq, SIf, B2, T2, TV, TC, TCall, ACons, ANil, lenD, asQ, asL, ordD, startE, N__law_cell]
  by_cases hl : k < ns.length
  · simp [hl, SRet, T2, TV, ixD, asQ, asL]
    have e : atI (ns.map P.int) k = some (.int (ns[k.toNat]'(by omega))) := by
      unfold atI ixN
      rw [List.length_map, if_pos h0, if_pos hl]
      simp [show k.toNat < ns.length by omega]
    rw [e]
    exact h _
  · simp [hl, SSeq, SNext, SAsg, T2, TV, TC, mulD, c1, c2, c3, addD, ii, GN, SFor, ISeq, TSl, ONo, OPart, slD, asL, asI, cut_map]
    exact cell_loop _ _ _ fun z b => by simpa [SRet, TV] using h z
theorem at_in {xs : List P} {i : Int} (h0 : 0 ≤ i) (h1 : i < xs.length) : ∃ p, atI xs i = some p ∧ p ∈ xs := by
  have hl : i.toNat < xs.length := by omega
  refine ⟨xs[i.toNat], ?_, List.getElem_mem hl⟩
  unfold atI ixN
  rw [if_pos h0, if_pos h1]
  simp [hl]
theorem fin_pick {a : Addr} {S : Store} {Q : P → Store → Prop} {m : Int} {ρ : D.Env} {xs : List P} (hS : PoolAt S a) (h0 : 0 < m) (h1 : m < 2 ^ 60) (hl : (xs.length : Int) = m) (hg : gds xs = true) (h : ∀ p S', gd p = true → PoolAt S' a → Q p S') :
    d__law_draw [.ref a, .int m] S (fun p S2 => ixD (.v (.lst xs)) (.v p) ρ S2 fun p => Q p S2) noX := by
  refine s_draw hS h0 h1 fun r S' r0 r1 hS' => ?_
  simp only [ixD, asQ, asL]
  obtain ⟨p, e, hm⟩ := at_in (xs := xs) r0 (by omega)
  rw [e]
  rw [gds_all, List.all_eq_true] at hg
  exact h p S' (hg p hm) hS'
theorem comp_inv {g : DG} {te : DT} {vs : List Nat} {Q : List P → D.Env → Store → Prop} {ρ : D.Env} (J : Store → Prop) (W : P → Prop) : ∀ (ps acc : List P) (S : Store), (∀ p ∈ ps, ∀ S, J S → ∀ K : P → D.Env → Store → Prop, (∀ y ρ' S', W y → J S' → wipeE ρ' vs = ρ → K y ρ' S') → g p ρ S fun ρ2 S2 => te ρ2 S2 fun r ρ4 S4 => match r with
      | .v y => K y ρ4 S4
      | .loc _ => False) → J S → (∀ ys S', ys.length = ps.length → (∀ y ∈ ys, W y) → J S' → Q (acc ++ ys) ρ S') → compL Tr g BYes te vs Q ps acc ρ S
  | [], acc, S, _, hJ, h => ⟨trivial, by simpa using h [] S rfl (by simp) hJ⟩
  | p :: ps, acc, S, hp, hJ, h => by
    refine ⟨trivial, hp p (List.mem_cons_self ..) S hJ (fun y ρ4 S4 => compL Tr g BYes te vs Q ps (acc ++ [y]) (wipeE ρ4 vs) S4) fun y ρ' S' hy hJ' e => ?_⟩
    rw [e]
    refine comp_inv J W ps (acc ++ [y]) S' (fun q hq => hp q (List.mem_cons_of_mem _ hq)) hJ' fun ys S2 hl hw hJ2 => ?_
    have := h (y :: ys) S2 (by simp [hl]) (fun z hz => by rcases List.mem_cons.mp hz with rfl | hz; exact hy; exact hw z hz) hJ2
    simpa using this
theorem eqP_str (s : Str) : eqP (.str s) (.str s) = true := by
  simp only [eqP, P.dat, PyData.eqv]; exact beq_self_eq_true s
theorem eqOk_str (s t : Str) : eqOk (.str s) (.str t) = true := rfl
theorem ne_same {s : Str} {ρ : D.Env} {S : Store} {k : K1} (h : k (.bl false)) : neD (.v (.str s)) (.v (.str s)) ρ S k := by
  show eqOk (.str s) (.str s) = true ∧ k (.bl (!eqP (.str s) (.str s)))
  rw [eqP_str]
  exact ⟨rfl, h⟩
theorem cut_len {α : Type} (xs : List α) (lo hi : Option Int) : (cut xs lo hi).length ≤ xs.length := by
  unfold cut; rw [List.length_take, List.length_drop]; omega
theorem cut_mem {α : Type} {xs : List α} {lo hi : Option Int} {x : α} (h : x ∈ cut xs lo hi) : x ∈ xs := List.mem_of_mem_drop (List.mem_of_mem_take h)
theorem isLog_tup (xs : List P) : isLog (.tup xs) = (decide (xs.length ≤ 1000) && xs.all isEv) := by
  simp only [isLog, fwrong]
  by_cases c : xs.length ≤ 1000
  · rw [if_neg (by omega : ¬ 1000 < xs.length), decide_eq_true c, Bool.true_and, ← wrong_all xs 0]
    cases wrongAt 0 xs <;> rfl
  · rw [if_pos (by omega : 1000 < xs.length), decide_eq_false c]; rfl
theorem all_rep (f : P → Bool) (xs : List P) (h : xs.all f = true) : ∀ n : Nat, ((List.replicate n xs).flatten).all f = true
  | 0 => rfl
  | n + 1 => by rw [List.replicate_succ, List.flatten_cons, List.all_append, h, all_rep f xs h n]; rfl
theorem len_rep (xs : List P) : ∀ n : Nat, ((List.replicate n xs).flatten).length = n * xs.length
  | 0 => by simp
  | n + 1 => by rw [List.replicate_succ, List.flatten_cons, List.length_append, len_rep xs n, Nat.succ_mul]; omega
def rOk (p : P) : Bool := p.isE && decide (p.dep ≤ 50) && p.dat.showable && decide (p.dat.shown.length ≤ sizeLine)
theorem rep_at {r : R} {p : P} {ρ : D.Env} {S : Store} {k : K1} (e : asD ρ S r = some p) (h : rOk p = true) (hk : k (.str p.dat.shown)) : reprD [r] ρ S k := by
  unfold rOk at h
  simp only [decide_eq_true_eq, Bool.and_eq_true] at h
  unfold reprD
  simp only [e]
  exact ⟨h.1.1.1, h.1.1.2, h.1.2, h.2, hk⟩
theorem bls_true : ∀ xs : List P, (∀ y ∈ xs, y = .bl true) → ∃ bs, bls xs = some bs ∧ bs.all id = true
  | [], _ => ⟨[], rfl, rfl⟩
  | p :: ps, h => by
    obtain ⟨bs, e, ha⟩ := bls_true ps fun y hy => h y (List.mem_cons_of_mem _ hy)
    rw [h p (List.mem_cons_self ..)]
    exact ⟨true :: bs, by rw [bls, e]; rfl, by simpa using ha⟩
theorem seq_do {t u : DS} {D : DEnds} {ρ : _root_.D.Env} {S : Store} (h : t { D with nx := u D } ρ S) : SSeq t u D ρ S := h
theorem asg_do {T : DT} {g : DG} {D : DEnds} {ρ : _root_.D.Env} {S : Store} (h : T ρ S fun r ρ1 S1 => match r with
    | .v p => g p ρ1 S1 D.nx
    | .loc _ => False) : SAsg T g D ρ S := h
end K03
/-! K03Q: the plain law of k03: the program's functions on logs. -/
namespace K03
open PySem PySem.Spec L2 D
theorem valsApp : ∀ (ps : List P) (rs : List R), vals (ps.map R.v ++ rs) = (vals rs).map (ps ++ ·)
  | [], rs => by simp
  | p :: ps, rs => by
    show (vals (ps.map R.v ++ rs)).map (p :: ·) = _
    rw [valsApp ps rs, Option.map_map]; rfl
theorem valsMap (ps : List P) : vals (ps.map R.v) = some ps := by
  have := valsApp ps []
  rw [List.append_nil] at this
  rw [this]; simp [vals]
/-- a log as it is drawn: every event is one -/
structure Log (xs : List P) : Prop where
  g : gds xs = true
  n : xs.length ≤ 1000
  e : xs.all isEv = true
theorem Log.no {xs : List P} (h : Log xs) : fwrong (.tup xs) = .non := by
  have := isLog_tup xs
  rw [h.e, decide_eq_true h.n] at this
  unfold isLog at this
  split at this
  · assumption
  · cases this
theorem s_check_log {xs : List P} {S : Store} {Q : P → Store → Prop} (hx : Log xs) (h : Q .non S) : d_check_log [.tup xs, .non] S Q noX := by
  refine ⟨rfl, ?_⟩
  show d_first_wrong [.tup xs, .non] S _ noX
  refine s_first_wrong hx.g ?_
  rw [hx.no]
  exact h
theorem s_check_pos {i n : Int} {S : Store} {Q : P → Store → Prop} (h0 : 0 ≤ i) (h1 : i < n) (h : Q .non S) : d_check_position [.int i, .int n] S Q noX := by
  refine ⟨rfl, ?_⟩
  simp [T_check_position, SIf, BOr, BNot, BTru, TCl, ACons, TV, ANil, vals, startE, N_check_position]
  refine s_is_integer (by rfl) ?_
  simp [truD_bl, isInt, BCh, TCh, TC, TV, ordD, h0, h1, SNext]
  exact h
theorem s_check_amt {i : Int} {S : Store} {Q : P → Store → Prop} (hi : isAmt (.int i) = true) (h : Q .non S) : d_check_amount [.int i] S Q noX := by
  refine ⟨rfl, ?_⟩
  simp [T_check_amount, SIf, BNot, BTru, TCl, ACons, TV, ANil, vals, startE, N_check_amount]
  refine s_is_amount (by rfl) ?_
  rw [hi]
  simp [truD_bl, SNext]
  exact h
theorem s_without {xs : List P} {i : Int} {S : Store} {Q : P → Store → Prop} (hx : Log xs) (h0 : 0 ≤ i) (h1 : i < xs.length) (h : Q (.tup (xs.take i.toNat ++ xs.drop (i.toNat + 1))) S) : d_without [.tup xs, .int i] S Q noX := by
  refine ⟨rfl, ?_⟩
  simp [T_without, SSeq, SExpr, TCl, ACons, TV, TC, ANil, vals, startE, N_without]
  refine s_check_log hx ?_
  simp [TCall, lenD, ACons, TV, ANil, asQ, vals]
  refine s_check_pos h0 h1 ?_
  simp [SRet, T2, TSl, TV, TC, ONo, OPart, slD, addD, ii, cutHi _ h0, cutLo _ (show (0 : Int) ≤ i + 1 by omega), show (i + 1).toNat = i.toNat + 1 by omega]
  exact ⟨szL (by have := hx.n; omega), h⟩
theorem s_repeated {xs : List P} {i : Int} {S : Store} {Q : P → Store → Prop} (hx : Log xs) (hn : xs.length < 1000) (h0 : 0 ≤ i) (h1 : i < xs.length) (h : Q (.tup (xs.take (i.toNat + 1) ++ xs.drop i.toNat)) S) : d_repeated [.tup xs, .int i] S Q noX := by
  refine ⟨rfl, ?_⟩
  simp [T_repeated, SSeq, SExpr, TCl, ACons, TV, TC, ANil, vals, startE, N_repeated]
  refine s_check_log hx ?_
  simp [TCall, lenD, ACons, TV, ANil, asQ, vals]
  refine s_check_pos h0 h1 ?_
  simp [SIf, B2, T2, TCall, lenD, ACons, TV, TC, ANil, asQ, ordD, show ¬ (1000 : Int) ≤ xs.length by omega, SNext]
  simp [SRet, T2, TSl, TV, TC, ONo, OPart, slD, addD, ii, cutLo _ h0, cutHi _ (show (0 : Int) ≤ i + 1 by omega), show (i + 1).toNat = i.toNat + 1 by omega]
  exact ⟨szL (by omega), h⟩
theorem s_corrected {xs : List P} {i m : Int} {k v : P} {S : Store} {Q : P → Store → Prop} (hx : Log xs) (h0 : 0 ≤ i) (h1 : i < xs.length) (hm : isAmt (.int m) = true) (he : xs[i.toNat]? = some (.tup [k, v])) (h : Q (.tup (xs.take i.toNat ++ .tup [k, .int m] :: xs.drop (i.toNat + 1))) S) : d_corrected [.tup xs, .int i, .int m] S Q noX := by
  refine ⟨rfl, ?_⟩
  simp [T_corrected, SSeq, SExpr, TCl, ACons, TV, TC, ANil, vals, startE, N_corrected]
  refine s_check_log hx ?_
  simp [TCall, lenD, ACons, TV, ANil, asQ, vals]
  refine s_check_pos h0 h1 ?_
  refine s_check_amt hm ?_
  have e : atI xs i = some (.tup [k, v]) := by rw [atNat h0 h1, ← List.getElem?_eq_getElem]; exact he
  simp [SRet, TTup, AStar, ACons, ANil, T2, TSl, TV, TC, ONo, OPart, slD, ii, addD, asQ, asL, ixD, e, show atI [k, v] 0 = some k from rfl, valsApp, vals, cutHi _ h0, cutLo _ (show (0 : Int) ≤ i + 1 by omega), show (i + 1).toNat = i.toNat + 1 by omega]
  rw [← List.map_take, ← List.map_drop]
  simp only [valsApp, vals, valsMap, Option.map_some]
  exact ⟨szL (by decide), szL (by have := hx.n; simp; omega), h⟩
theorem s_swapped {xs : List P} {i : Int} {p q : P} {S : Store} {Q : P → Store → Prop} (hx : Log xs) (h0 : 0 ≤ i) (h1 : i + 1 < xs.length) (hp : xs[i.toNat]? = some p) (hq : xs[i.toNat + 1]? = some q) (h : Q (.tup (xs.take i.toNat ++ q :: p :: xs.drop (i.toNat + 2))) S) : d_swapped [.tup xs, .int i] S Q noX := by
  refine ⟨rfl, ?_⟩
  simp [T_swapped, SSeq, SExpr, TCl, ACons, TV, TC, ANil, vals, startE, N_swapped]
  refine s_check_log hx ?_
  simp [TCall, lenD, ACons, TV, TC, ANil, asQ, vals, T2, ii]
  refine s_check_pos h0 (by omega) ?_
  have e1 : atI xs i = some p := by rw [atNat h0 (by omega), ← List.getElem?_eq_getElem]; exact hp
  have e2 : atI xs (i + 1) = some q := by
    rw [atNat (by omega) h1, ← List.getElem?_eq_getElem, show (i + 1).toNat = i.toNat + 1 by omega]; exact hq
  simp [SRet, TTup, AStar, ACons, ANil, T2, TSl, TV, TC, ONo, OPart, slD, ii, addD, asQ, asL, ixD, e1, e2, valsApp, vals, cutHi _ h0, cutLo _ (show (0 : Int) ≤ i + 2 by omega), show (i + 2).toNat = i.toNat + 2 by omega]
  rw [← List.map_take, ← List.map_drop]
  simp only [valsApp, vals, valsMap, Option.map_some]
  exact ⟨szL (by have := hx.n; simp; omega), h⟩
theorem s_replaced {xs ys : List P} {i : Int} {S : Store} {Q : P → Store → Prop} (h0 : 0 ≤ i) (hn : xs.length ≤ 100000) (hy : ys.length ≤ 100000) (h : Q (.tup (xs.take i.toNat ++ ys ++ xs.drop (i.toNat + 1))) S) : d__law_replaced [.tup xs, .int i, .tup ys] S Q noX := by
  refine ⟨rfl, ?_⟩
  simp only [T__law_replaced, SRet, T2, TSl, TV, TC, ONo, OPart, slD, addD, ii, startE, N__law_replaced, List.map_cons, List.map_nil, List.cons_append, List.nil_append, List.getElem?_cons_zero, List.getElem?_cons_succ, cutHi _ h0, cutLo _ (show (0 : Int) ≤ i + 1 by omega), show (i + 1).toNat = i.toNat + 1 by omega]
  exact ⟨szL (by rw [List.length_take]; omega), szL (by rw [List.length_append, List.length_take, List.length_drop]; omega), h⟩
/-! ### what is drawn -/
/-- an event of the law's kind: a kind of the four, an amount of at most 10 ** 30 -/
def okE (p : P) : Prop := ∃ k i, p = .tup [.str k, .int i] ∧ k ∈ (["a", "buy", "abcdefgh", "z"] : List Str) ∧ -1000000000000000000000000000000 ≤ i ∧ i ≤ 1000000000000000000000000000000
theorem okE_ev {p : P} (h : okE p) : isEv p = true := by
  obtain ⟨k, i, rfl, hk, h1, h2⟩ := h
  have : ∀ k ∈ (["a", "buy", "abcdefgh", "z"] : List Str), isKind (.str k) = true := by decide +kernel
  show (isKind (.str k) && isAmt (.int i)) = true
  rw [this k hk]
  show (decide _ && decide _) = true
  rw [decide_eq_true h1, decide_eq_true h2]; rfl
theorem okE_gd {p : P} (h : okE p) : gd p = true := by obtain ⟨k, i, rfl, _⟩ := h; rfl
theorem okE_sh {p : P} (h : okE p) : Sh 1 250 p := by
  obtain ⟨k, i, rfl, hk, h1, h2⟩ := h
  have hs : ∀ k ∈ (["a", "buy", "abcdefgh", "z"] : List Str), (reprText k).length ≤ 20 := by decide +kernel
  have lg : i.natAbs.log2 < 100 := by
    have : i.natAbs < 2 ^ 100 := by omega
    by_cases z : i.natAbs = 0
    · rw [z]; decide
    · exact (Nat.log2_lt z).mpr this
  refine (Sh.tup (n := 0) (B := 101) (xs := [.str k, .int i]) fun q hq => ?_).mono (by decide) (by show 3 + 2 * (101 + 2) ≤ 250; decide)
  rcases List.mem_cons.mp (id hq) with rfl | hq
  · exact Sh.str.mono (by decide) (Nat.le_trans (hs k hk) (by decide))
  · rcases List.mem_cons.mp (id hq) with rfl | hq
    · exact Sh.int (by decide) lg (by decide)
    · cases hq
theorem okE_log {xs : List P} (h : ∀ p ∈ xs, okE p) (hn : xs.length ≤ 1000) : Log xs :=
  ⟨by rw [gds_all, List.all_eq_true]; exact fun p hp => okE_gd (h p hp), hn, by rw [List.all_eq_true]; exact fun p hp => okE_ev (h p hp)⟩
theorem pickD {a : Addr} {S : Store} {m : Int} {ρ : D.Env} {xs : List P} {K2 : P → Store → Prop} (hS : PoolAt S a) (h0 : 0 < m) (h1 : m < 2 ^ 60) (hl : (xs.length : Int) = m) (h : ∀ p ∈ xs, ∀ S', PoolAt S' a → K2 p S') :
    d__law_draw [.ref a, .int m] S (fun p S2 => ixD (.v (.lst xs)) (.v p) ρ S2 fun p => K2 p S2) noX := by
  refine s_draw hS h0 h1 fun r S' r0 r1 hS' => ?_
  simp only [ixD, asQ, asL]
  obtain ⟨p, e, hm⟩ := at_in (xs := xs) r0 (by omega)
  rw [e]
  exact h p hm S' hS'
theorem ev_loop {a : Addr} {D : DEnds} : ∀ (items acc : List P) (S : Store) (b c : Sl), acc.length + items.length ≤ 12 → (∀ p ∈ acc, okE p) → PoolAt S a → (∀ xs S' b c, (∀ p ∈ xs, okE p) → xs.length = acc.length + items.length → PoolAt S' a → D.nx [.v (.ref a), .own (.lst xs), b, c] S') →
    forL Tr (GN 2) (SSeq (SAsg (T2 ixD (TLst (ACons (T2 subD (TCl d__law_draw [] (ACons (TV 0) (ACons (TC (P.int 200)) (ANil)))) (TC (P.int 100))) (ACons (T2 powD (TC (P.int 10)) (TC (P.int 30))) (ACons (T1 negD (T2 powD (TC (P.int 10)) (TC (P.int 30)))) (ACons (TC (P.int 0)) (ANil)))))) (TCl d__law_draw [] (ACons (TV 0) (ACons (TC (P.int 4)) (ANil))))) (GN 3)) (SExpr (TM tyL appD (TV 1) (ACons (TTup (ACons (T2 ixD (TLst (ACons (TC (P.str "a")) (ACons (TC (P.str "buy")) (ACons (TC (P.str "abcdefgh")) (ACons (TC (P.str "z")) (ANil)))))) (TCl d__law_draw [] (ACons (TV 0) (ACons (TC (P.int 4)) (ANil))))) (ACons (TV 3) (ANil)))) (ANil))))) D items [.v (.ref a), .own (.lst acc), b, c] S
  | [], acc, S, b, c, hl, ha, hS, h => ⟨trivial, h acc S b c ha rfl hS⟩
  | t :: items, acc, S, b, c, hl, ha, hS, h => by
    refine ⟨trivial, ?_⟩
    simp [GN, SSeq, SAsg, T2, TLst, TCl, ACons, TV, TC, ANil, vals]
    refine s_draw hS (by decide) (by decide) fun r S1 r0 r1 hS1 => ?_
    simp [ii, CPow, T1, T2, negD, TC, vals]
    refine ⟨szL (by decide), ?_⟩
    refine s_draw hS1 (by decide) (by decide) fun r2 S2 q0 q1 hS2 => ?_
    simp only [ixD, asQ, asL]
    obtain ⟨p, e, hm⟩ := at_in (xs := [P.int (r - 100), P.int 1000000000000000000000000000000, P.int (-1000000000000000000000000000000), P.int 0]) q0 (by show r2 < 4; exact q1)
    rw [e]
    obtain ⟨z, rfl, z1, z2⟩ : ∃ z, p = .int z ∧ -1000000000000000000000000000000 ≤ z ∧ z ≤ 1000000000000000000000000000000 := by
      simp at hm
      rcases id hm with rfl | rfl | rfl | rfl
      · exact ⟨_, rfl, by omega, by omega⟩
      · exact ⟨_, rfl, by decide, by decide⟩
      · exact ⟨_, rfl, by decide, by decide⟩
      · exact ⟨_, rfl, by decide, by decide⟩
    simp [SExpr, TM, TV, ACons, ANil, TTup, T2, TLst, TC, TCl, vals]
    refine ⟨rfl, szL (by decide), ?_⟩
    refine pickD hS2 (by decide) (by decide) rfl fun k hk S3 hS3 => ?_
    simp [vals, appD, wrL]
    refine ⟨szL (by decide), ?_⟩
    refine ⟨Nat.lt_of_lt_of_le (show acc.length < 100 by simp at hl; omega) (szL (by decide)), ?_⟩
    refine ev_loop items (acc ++ [.tup [k, .int z]]) S3 _ _ (by simp at hl ⊢; omega) (fun p hp => ?_) hS3 fun xs S' b c hxs hlen hS' => h xs S' b c hxs (by simp at hlen ⊢; omega) hS'
    rcases List.mem_append.mp (id hp) with hp | hp
    · exact ha p hp
    · cases List.mem_singleton.mp hp
      simp at hk
      rcases hk with rfl | rfl | rfl | rfl
      · exact ⟨_, z, rfl, by simp, z1, z2⟩
      · exact ⟨_, z, rfl, by simp, z1, z2⟩
      · exact ⟨_, z, rfl, by simp, z1, z2⟩
      · exact ⟨_, z, rfl, by simp, z1, z2⟩
theorem s_events {a : Addr} {S : Store} {Q : P → Store → Prop} (hS : PoolAt S a) (h : ∀ xs S', (∀ p ∈ xs, okE p) → 1 ≤ xs.length → xs.length ≤ 12 → PoolAt S' a → Q (.tup xs) S') : d__law_events [.ref a] S Q noX := by
  refine ⟨rfl, ?_⟩
  simp [T__law_events, SSeq, SOwn, NLst, ANil, vals, startE, N__law_events, SFor, IR1, ACons, T2, TC, TV, TCl]
  refine s_draw hS (by decide) (by decide) fun r S1 r0 r1 hS1 => ?_
  simp [ii, addD, smallI]
  refine ⟨⟨by omega, by omega⟩, ?_⟩
  refine ev_loop _ [] S1 _ _ (by simp [rangeP]; omega) (by simp) hS1 fun xs S' b c hxs hlen hS' => ?_
  simp [SRet, TCall, ACons, TV, ANil, tupD, asQ, asL]
  refine h xs S' hxs ?_ ?_ hS'
  · rw [hlen]; simp [rangeP]; omega
  · rw [hlen]; simp [rangeP]; omega
end K03
/-! K03R: the plain law of k03: the law. -/
namespace K03
open PySem PySem.Spec L2 D
def RB : DS := (SSeq (SAsg (TTup (ACons (TCl d__law_draw [] (ACons (TV 0) (ACons (TCall lenD (ACons (TV 1) (ANil))) (ANil)))) (ACons (T2 subD (TCl d__law_draw [] (ACons (TV 0) (ACons (TC (P.int 400)) (ANil)))) (TC (P.int 200))) (ANil)))) (GT 2 (GCons (GN 7) (GCons (GN 8) (GNil))))) (SSeq (SAsg (T2 ixD (TV 1) (TV 7)) (GT 2 (GCons (GN 9) (GCons (GN 10) (GNil))))) (SSeq (SAsg (TLst (ACons (TCl d_corrected [] (ACons (TV 1) (ACons (TV 7) (ACons (TV 8) (ANil))))) (ACons (TCl d_without [] (ACons (TV 1) (ACons (TV 7) (ANil)))) (ACons (TCl d_repeated [] (ACons (TV 1) (ACons (TV 7) (ANil)))) (ANil))))) (GN 4)) (SSeq (SOwn 5 (NLst (ACons (TCl d__law_replaced [] (ACons (TV 1) (ACons (TV 7) (ACons (TTup (ACons (TTup (ACons (TV 9) (ACons (TV 8) (ANil)))) (ANil))) (ANil))))) (ACons (TCl d__law_replaced [] (ACons (TV 1) (ACons (TV 7) (ACons (TTup (ANil)) (ANil))))) (ANil))))) (SSeq (SExpr (TM tyL appD (TV 5) (ACons (TCl d__law_replaced [] (ACons (TV 1) (ACons (TV 7) (ACons (TTup (ACons (T2 ixD (TV 1) (TV 7)) (ACons (T2 ixD (TV 1) (TV 7)) (ANil)))) (ANil))))) (ANil)))) (SSeq (SOwn 6 (NLst (ACons (TClK d_corrected 0 3 [.k 2, .k 1, .k 0] [] ANil (ACons (TV 8) (ACons (TV 7) (ACons (TV 1) (ANil))))) (ACons (TClK d_without 0 2 [.k 1, .k 0] [] ANil (ACons (TV 7) (ACons (TV 1) (ANil)))) (ANil))))) (SSeq (SExpr (TM tyL appD (TV 6) (ACons (TClK d_repeated 0 2 [.k 1, .k 0] [] ANil (ACons (TV 7) (ACons (TV 1) (ANil)))) (ANil)))) (SSeq (SIf (BOr (B2 neD (TCall reprD (ACons (TV 4) (ANil))) (TCall reprD (ACons (TV 5) (ANil)))) (B2 neD (TCall reprD (ACons (TV 6) (ANil))) (TCall reprD (ACons (TV 5) (ANil))))) (SRet (TC (P.bl false))) (SNext)) (SSeq (SIf (BOr (B2 neD (TCl d_corrected [] (ACons (T2 ixD (TV 4) (TC (P.int 0))) (ACons (TV 7) (ACons (TV 10) (ANil))))) (TV 1)) (B2 neD (TLst (ACons (TCl d_without [] (ACons (T2 ixD (TV 4) (TC (P.int 2))) (ACons (TV 7) (ANil)))) (ACons (TCl d_without [] (ACons (T2 ixD (TV 4) (TC (P.int 2))) (ACons (T2 addD (TV 7) (TC (P.int 1))) (ANil)))) (ANil)))) (T2 mulD (TLst (ACons (TV 1) (ANil))) (TC (P.int 2))))) (SRet (TC (P.bl false))) (SNext)) (SIf (B2 ltD (TV 7) (T2 subD (TCall lenD (ACons (TV 1) (ANil))) (TC (P.int 1)))) (SSeq (SAsg (TCl d_swapped [] (ACons (TV 1) (ACons (TV 7) (ANil)))) (GN 11)) (SSeq (SIf (B2 neD (TCall reprD (ACons (TV 11) (ANil))) (TCall reprD (ACons (T2 addD (T2 addD (TSl (TV 1) (ONo) (OPart (TV 7))) (TTup (ACons (T2 ixD (TV 1) (T2 addD (TV 7) (TC (P.int 1)))) (ACons (T2 ixD (TV 1) (TV 7)) (ANil))))) (TSl (TV 1) (OPart (T2 addD (TV 7) (TC (P.int 2)))) (ONo))) (ANil)))) (SRet (TC (P.bl false))) (SNext)) (SIf (B2 neD (TClK d_swapped 0 2 [.k 1, .k 0] [] ANil (ACons (TV 7) (ACons (TV 11) (ANil)))) (TV 1)) (SRet (TC (P.bl false))) (SNext)))) (SNext)))))))))))
theorem neSame {p : P} {a b : R} {ρ : D.Env} {S : Store} {k : K1} (ha : asD ρ S a = some p) (hb : asD ρ S b = some p) (h : p.isE = true) (hd : p.dep ≤ 50) (hk : k (.bl false)) : neD a b ρ S k := by
  unfold neD
  simp only [ha, hb]
  refine ⟨?_, ?_⟩
  · unfold eqOk; rw [h, Nat.min_self]; simpa using hd
  · rw [eqSelf h]; exact hk
theorem strSame {s : Str} {ρ : D.Env} {S : Store} {k : K1} (hk : k (.bl false)) : neD (.v (.str s)) (.v (.str s)) ρ S k := neSame rfl rfl rfl (Nat.zero_le _) hk
theorem lgSh {xs : List P} (h : ∀ p ∈ xs, okE p) (hn : xs.length ≤ 1000) : Sh 2 300000 (.tup xs) :=
  (Sh.tup fun p hp => okE_sh (h p hp)).mono (by decide) (by omega)
theorem dropCons {A L : List P} {x : P} {m : Nat} (h : A.length = m) : (A ++ x :: L).drop (m + 1) = L := by
  rw [show A ++ x :: L = (A ++ [x]) ++ L by simp]
  exact List.drop_left' (by simp [h])
theorem takeAt {A L : List P} {m : Nat} (h : A.length = m) : (A ++ L).take m = A := List.take_left' h
theorem loop8 {a : Addr} {xs : List P} {v2 : Sl} {D : DEnds} (hx : ∀ p ∈ xs, okE p) (l1 : 1 ≤ xs.length) (l2 : xs.length ≤ 12) : ∀ (items : List P) (S : Store) (s3 s4 s5 s6 s7 s8 s9 s10 s11 : Sl), PoolAt S a → (∀ S' s3 s4 s5 s6 s7 s8 s9 s10 s11, D.nx [.v (.ref a), .v (.tup xs), v2, s3, s4, s5, s6, s7, s8, s9, s10, s11] S') →
    forL Tr (GN 3) RB D items [.v (.ref a), .v (.tup xs), v2, s3, s4, s5, s6, s7, s8, s9, s10, s11] S
  | [], S, s3, s4, s5, s6, s7, s8, s9, s10, s11, hS, h => ⟨trivial, h S s3 s4 s5 s6 s7 s8 s9 s10 s11⟩
  | t :: items, S, s3, s4, s5, s6, s7, s8, s9, s10, s11, hS, h => by
    refine ⟨trivial, ?_⟩
    have lg := okE_log hx (by omega)
    show RB _ (([.v (.ref a), .v (.tup xs), v2, s3, s4, s5, s6, s7, s8, s9, s10, s11] : List Sl).set 3 (.v t)) S
    refine seq_do (asg_do ?_)
    simp [TTup, T2, TCl, TCall, lenD, ACons, TV, TC, ANil, asQ, vals]
    refine s_draw hS (by omega) (by omega) fun i S1 i0 i1 hS1 => ?_
    refine s_draw hS1 (by decide) (by decide) fun m S2 m0 m1 hS2 => ?_
    simp [ii, vals, GT, GCons, GNil, GN]
    refine ⟨szL (by decide), ?_⟩
    obtain ⟨n, rfl⟩ : ∃ n : Nat, i = n := ⟨i.toNat, by omega⟩
    have hn : n < xs.length := by omega
    obtain ⟨k, z, he, hk, z1, z2⟩ := hx _ (List.getElem_mem hn)
    have hg : xs[n]? = some (.tup [.str k, .int z]) := by rw [List.getElem?_eq_getElem hn, he]
    have hat : atI xs (n : Int) = some (.tup [.str k, .int z]) := by rw [atNat (by omega) (by omega), ← List.getElem?_eq_getElem]; exact hg
    refine seq_do (asg_do ?_)
    simp [T2, TV, ixD, asQ, hat, GT, GCons, GNil, GN]
    refine seq_do (asg_do ?_)
    simp [TLst, TCl, ACons, TV, ANil, vals]
    have amt : isAmt (.int (m - 200)) = true := by
      show (decide _ && decide _) = true
      rw [decide_eq_true (by omega), decide_eq_true (by omega)]; rfl
    refine s_corrected lg (by omega) (by omega) amt hg ?_
    refine s_without lg (by omega) (by omega) ?_
    refine s_repeated lg (by omega) (by omega) (by omega) ?_
    simp [vals, GN]
    refine ⟨szL (by decide), ?_⟩
    refine seq_do ?_
    simp [SOwn, NLst, TCl, TTup, ACons, TV, ANil, vals]
    refine ⟨szL (by decide), szL (by decide), ?_⟩
    refine s_replaced (by omega) (by omega) (by simp) ?_
    refine s_replaced (by omega) (by omega) (by simp) ?_
    simp [vals]
    refine ⟨szL (by decide), ?_⟩
    refine seq_do ?_
    simp [SExpr, TM, TCl, TTup, T2, ACons, TV, ANil, ixD, asQ, hat, vals]
    refine ⟨rfl, szL (by decide), ?_⟩
    refine s_replaced (by omega) (by omega) (by simp) ?_
    simp [vals, appD, wrL]
    refine ⟨Nat.lt_of_lt_of_le (show 2 < 100 by decide) (szL (by decide)), ?_⟩
    refine seq_do ?_
    simp [SOwn, NLst, TClK, finK, ACons, TV, ANil, vals, arr, Arg.get]
    refine s_corrected lg (by omega) (by omega) amt hg ?_
    refine s_without lg (by omega) (by omega) ?_
    simp [vals]
    refine ⟨szL (by decide), ?_⟩
    refine seq_do ?_
    simp [SExpr, TM, TClK, finK, ACons, TV, ANil, vals, arr, Arg.get]
    refine ⟨rfl, ?_⟩
    refine s_repeated lg (by omega) (by omega) (by omega) ?_
    simp [vals, appD, wrL]
    refine ⟨Nat.lt_of_lt_of_le (show 2 < 100 by decide) (szL (by decide)), ?_⟩
    have tk : xs.take (n + 1) = xs.take n ++ [.tup [.str k, .int z]] := by rw [List.take_add_one, hg]; rfl
    have dr : xs.drop n = .tup [.str k, .int z] :: xs.drop (n + 1) := by rw [List.drop_eq_getElem_cons hn, he]
    simp only [tk, dr, List.append_assoc, List.cons_append, List.nil_append]
    generalize hA : xs.take n = A
    generalize hB : xs.drop (n + 1) = B
    have hxs : xs = A ++ .tup [.str k, .int z] :: B := by rw [← hA, ← hB, ← dr, List.take_append_drop]
    refine seq_do ?_
    have okAll : ∀ p ∈ A ++ .tup [.str k, .int z] :: B, okE p := by rw [← hxs]; exact hx
    have okA : ∀ p ∈ A, okE p := fun p hp => okAll p (List.mem_append_left _ hp)
    have okB : ∀ p ∈ B, okE p := fun p hp => okAll p (List.mem_append_right _ (List.mem_cons_of_mem _ hp))
    have okX : okE (.tup [.str k, .int z]) := ⟨k, z, rfl, hk, z1, z2⟩
    have okY : okE (.tup [.str k, .int (m - 200)]) := ⟨k, m - 200, rfl, hk, by omega, by omega⟩
    have hlen : A.length + B.length + 1 = xs.length := by rw [hxs]; simp; omega
    have ok1 : ∀ p ∈ A ++ .tup [.str k, .int (m - 200)] :: B, okE p := fun p hp => by
      rcases List.mem_append.mp (id hp) with hp | hp
      · exact okA p hp
      · rcases List.mem_cons.mp (id hp) with rfl | hp
        · exact okY
        · exact okB p hp
    have ok2 : ∀ p ∈ A ++ B, okE p := fun p hp => (List.mem_append.mp hp).elim (okA p) (okB p)
    have ok3 : ∀ p ∈ A ++ .tup [.str k, .int z] :: .tup [.str k, .int z] :: B, okE p := fun p hp => by
      rcases List.mem_append.mp (id hp) with hp | hp
      · exact okA p hp
      · rcases List.mem_cons.mp (id hp) with rfl | hp
        · exact okX
        · exact okAll p (List.mem_append_right _ hp)
    have shL : Sh 3 2000000 (.lst [.tup (A ++ .tup [.str k, .int (m - 200)] :: B), .tup (A ++ B), .tup (A ++ .tup [.str k, .int z] :: .tup [.str k, .int z] :: B)]) := by
      refine (Sh.lst (n := 2) (B := 300000) fun p hp => ?_).mono (by decide) (by show 3 + 3 * (300000 + 2) ≤ 2000000; decide)
      rcases List.mem_cons.mp (id hp) with rfl | hp
      · exact lgSh ok1 (by simp; omega)
      · rcases List.mem_cons.mp (id hp) with rfl | hp
        · exact lgSh ok2 (by simp; omega)
        · rcases List.mem_cons.mp (id hp) with rfl | hp
          · exact lgSh ok3 (by simp; omega)
          · cases hp
    simp [SIf, BOr, B2, T2, TCall, ACons, TV, ANil]
    refine shL.repr rfl (by decide) (by decide) ?_
    refine shL.repr rfl (by decide) (by decide) ?_
    refine strSame ?_
    simp only [if_false, Bool.false_eq_true]
    refine shL.repr rfl (by decide) (by decide) ?_
    refine shL.repr rfl (by decide) (by decide) ?_
    refine strSame ?_
    simp only [if_false, Bool.false_eq_true, SNext]
    refine seq_do ?_
    simp [SIf, BOr, B2, T2, TCl, TC, ACons, TV, ANil, ixD, asQ, asL, show ∀ a b c : P, atI [a, b, c] 0 = some a from fun _ _ _ => rfl, vals]
    have hAl : A.length = n := by rw [← hA, List.length_take]; omega
    have tk1 : ∀ L : List P, (A ++ L).take n = A := fun L => takeAt hAl
    have dr1 : ∀ (x : P) (L : List P), (A ++ x :: L).drop (n + 1) = L := fun x L => dropCons hAl
    have amz : isAmt (.int z) = true := by
      show (decide _ && decide _) = true
      rw [decide_eq_true z1, decide_eq_true z2]; rfl
    have at1 : ∀ (x : P) (L : List P), (A ++ x :: L)[n]? = some x := fun x L => by
      rw [← hAl, List.getElem?_append_right (Nat.le_refl _)]; simp
    refine s_corrected (okE_log ok1 (by simp; omega)) (by omega) (by simp; omega) amz (at1 _ _) ?_
    simp only [Int.toNat_natCast, tk1, dr1, ← hxs]
    have shX : Sh 2 300000 (.tup xs) := lgSh hx (by omega)
    refine neSame rfl rfl shX.e (Nat.le_trans shX.d (by decide)) ?_
    simp [T2, TLst, TCl, TC, ACons, TV, ANil, ixD, asQ, asL, show ∀ a b c : P, atI [a, b, c] 2 = some c from fun _ _ _ => rfl, vals, ii, addD]
    have log3 := okE_log ok3 (by simp; omega)
    refine s_without log3 (by omega) (by simp; omega) ?_
    refine s_without log3 (by omega) (by simp; omega) ?_
    have tk2 : ∀ (x : P) (L : List P), (A ++ x :: L).take (n + 1) = A ++ [x] := fun x L => by
      rw [show A ++ x :: L = (A ++ [x]) ++ L by simp]; exact takeAt (by simp [hAl])
    have dr2 : ∀ (x y : P) (L : List P), (A ++ x :: y :: L).drop (n + 1 + 1) = L := fun x y L => by
      rw [show A ++ x :: y :: L = (A ++ [x]) ++ y :: L by simp]; exact dropCons (by simp [hAl])
    simp only [show ((n : Int) + 1).toNat = n + 1 by omega, Int.toNat_natCast, tk1, dr1, tk2, dr2, List.append_assoc, List.cons_append, List.nil_append, ← hxs]
    refine ⟨szL (by decide), ?_⟩
    simp [vals, mulD, asL0]
    refine ⟨szL (by decide), szL (by decide), ?_⟩
    have sh2 : Sh 3 2000000 (.lst [.tup xs, .tup xs]) := by
      refine (Sh.lst (n := 2) (B := 300000) fun p hp => ?_).mono (by decide) (by show 3 + 2 * (300000 + 2) ≤ 2000000; decide)
      simp at hp; rw [hp]; exact shX
    refine neSame rfl rfl sh2.e (Nat.le_trans sh2.d (by decide)) ?_
    simp [SNext, SIf, B2, T2, TCall, lenD, ACons, TV, TC, ANil, asQ, ii, ordD]
    have back := fun S' hS' s3 s4 s5 s6 s7 s8 s9 s10 s11 => loop8 hx l1 l2 items S' s3 s4 s5 s6 s7 s8 s9 s10 s11 hS' h
    by_cases c : (n : Int) < xs.length - 1
    · rw [if_pos c]
      obtain ⟨q, B', rfl⟩ : ∃ q B', B = q :: B' := by
        cases B with
        | nil => simp at hlen; omega
        | cons q B' => exact ⟨q, B', rfl⟩
      have gq : xs[n + 1]? = some q := by
        rw [hxs, show A ++ P.tup [.str k, .int z] :: q :: B' = (A ++ [.tup [.str k, .int z]]) ++ q :: B' by simp, List.getElem?_append_right (by simp; omega)]
        simp [hAl]
      have oq : okE q := okB q (List.mem_cons_self ..)
      have tkx : xs.take n = A := hA
      have dr3 : ∀ (x y : P) (L : List P), (A ++ x :: y :: L).drop (n + 2) = L := fun x y L => dr2 x y L
      have drx : xs.drop (n + 2) = B' := by rw [hxs]; exact dr3 _ _ _
      refine seq_do (asg_do ?_)
      simp [TCl, ACons, TV, ANil, vals, GN]
      refine s_swapped lg (by omega) (by omega) hg gq ?_
      simp only [Int.toNat_natCast, tkx, drx]
      have okS : ∀ p ∈ A ++ q :: .tup [.str k, .int z] :: B', okE p := fun p hp => by
        rcases List.mem_append.mp (id hp) with hp | hp
        · exact okA p hp
        · rcases List.mem_cons.mp (id hp) with rfl | hp
          · exact oq
          · rcases List.mem_cons.mp (id hp) with rfl | hp
            · exact okX
            · exact okB p (List.mem_cons_of_mem _ hp)
      have shS : Sh 2 300000 (.tup (A ++ q :: .tup [.str k, .int z] :: B')) := lgSh okS (by simp at hlen ⊢; omega)
      refine seq_do ?_
      have hat2 : atI xs ((n : Int) + 1) = some q := by
        rw [atNat (by omega) (by omega), ← List.getElem?_eq_getElem, show ((n : Int) + 1).toNat = n + 1 by omega]; exact gq
      simp [SIf, B2, T2, TCall, ACons, TV, TC, ANil]
      refine shS.repr rfl (by decide) (by decide) ?_
      simp [TSl, TTup, T2, ONo, OPart, TV, TC, ACons, ANil, slD, ii, addD, ixD, asQ, hat, hat2, vals, cutHi _ (show (0 : Int) ≤ (n : Int) by omega), cutLo _ (show (0 : Int) ≤ (n : Int) + 2 by omega), show ((n : Int) + 2).toNat = n + 2 by omega, tkx, drx]
      simp at hlen
      refine ⟨szL (by decide), szL (by omega), szL (by omega), ?_⟩
      refine shS.repr rfl (by decide) (by decide) (strSame ?_)
      simp only [if_false, Bool.false_eq_true, SNext]
      simp [SIf, B2, T2, TClK, finK, ACons, TV, TC, ANil, vals, arr, Arg.get]
      have gp : (A ++ q :: P.tup [.str k, .int z] :: B')[n + 1]? = some (.tup [.str k, .int z]) := by
        rw [show A ++ q :: P.tup [.str k, .int z] :: B' = (A ++ [q]) ++ .tup [.str k, .int z] :: B' by simp, List.getElem?_append_right (by simp; omega)]
        simp [hAl]
      refine s_swapped (okE_log okS (by simp; omega)) (by omega) (by simp; omega) (at1 _ _) gp ?_
      simp only [Int.toNat_natCast, tk1, dr3, ← hxs]
      refine neSame rfl rfl shX.e (Nat.le_trans shX.d (by decide)) ?_
      simp only [if_false, Bool.false_eq_true, SNext]
      exact back S2 hS2 _ _ _ _ _ _ _ _ _
    · rw [if_neg c]
      exact back S2 hS2 _ _ _ _ _ _ _ _ _
theorem s_right {a : Addr} {S : Store} {Q : P → Store → Prop} (hS : PoolAt S a) (h : ∀ S', Q (.bl true) S') : d__law_right [.ref a] S Q noX := by
  refine ⟨rfl, ?_⟩
  refine seq_do (asg_do ?_)
  simp [TCl, ACons, TV, ANil, vals, startE, N__law_right, GN]
  refine s_events hS fun xs S1 hx l1 l2 hS1 => ?_
  have shX : Sh 2 300000 (.tup xs) := lgSh hx (by omega)
  refine seq_do (asg_do ?_)
  simp [TCall, ACons, TV, ANil, GN]
  refine shX.repr rfl (by decide) (by decide) ?_
  refine seq_do ?_
  simp [SFor, IR1, ACons, TC, ANil, smallI]
  refine loop8 hx l1 l2 _ S1 _ _ _ _ _ _ _ _ _ hS1 fun S' s3 s4 s5 s6 s7 s8 s9 s10 s11 => ?_
  simp [SRet, T2, TCall, ACons, TV, ANil]
  refine shX.repr rfl (by decide) (by decide) ?_
  show eqOk _ _ = true ∧ Q (.bl (eqP _ _)) S'
  rw [eqP_str]
  exact ⟨rfl, h S'⟩
end K03
/-! K03S: the plain law of k03, the law itself. -/
namespace K03
open PySem PySem.Spec L2 D
abbrev pA : P := .tup [.str "a", .int 1]
abbrev pB : P := .tup [.str "b", .int 2]
abbrev long : List P := (List.replicate 500 [pA, pB]).flatten
theorem long_step {ρ : D.Env} {S : Store} {Q : DQ} (h : Q (.v (.tup long)) ρ S) :
    T2 mulD (TTup (ACons (TTup (ACons (TC (P.str "a")) (ACons (TC (P.int 1)) (ANil)))) (ACons (TTup (ACons (TC (P.str "b")) (ACons (TC (P.int 2)) (ANil)))) (ANil)))) (TC (P.int 500)) ρ S Q := by
  refine ⟨szL (by decide), szL (by decide), szL (by decide), ?_⟩
  exact ⟨by simp, by decide, by decide, by decide, h⟩
theorem intSame {i : Int} {ρ : D.Env} {S : Store} {k : K1} (hk : k (.bl false)) : neD (.v (.int i)) (.v (.int i)) ρ S k := neSame rfl rfl rfl (Nat.zero_le _) hk
theorem law_plain : ∀ as S Q E, dLaw 63 as S Q E → d_law as S Q noX := by
  rintro as S Q E ⟨ns, rfl, hl, h⟩
  refine ⟨rfl, ?_⟩
  refine seq_do (asg_do (long_step ?_))
  have ev1 : isEv pA = true := by decide +kernel
  have ev2 : isEv pB = true := by decide +kernel
  have lev : long.all isEv = true := all_rep isEv _ (by rw [List.all_cons, List.all_cons, ev1, ev2]; rfl) 500
  have lgd : gds long = true := by rw [gds_all]; exact all_rep gd _ (by rfl) 500
  have lln : long.length = 1000 := len_rep _ 500
  have g8 : long[998]? = some pA := by rfl
  have g9 : long[999]? = some pB := by rfl
  generalize long = lg at lev lgd lln g8 g9 ⊢
  have sub : ∀ xs : List P, (∀ p ∈ xs, p ∈ lg) → xs.length ≤ 1000 → Log xs := fun xs hs hn => by
    rw [gds_all, List.all_eq_true] at lgd
    rw [List.all_eq_true] at lev
    exact ⟨by rw [gds_all, List.all_eq_true]; exact fun p hp => lgd p (hs p hp), hn, by rw [List.all_eq_true]; exact fun p hp => lev p (hs p hp)⟩
  have L0 : Log lg := sub lg (fun p hp => hp) (by omega)
  have L9 : Log (lg.take 999) := sub _ (fun p hp => List.mem_of_mem_take hp) (by rw [List.length_take]; omega)
  simp [GN, startE, N_law]
  refine seq_do ?_
  simp [SIf, BOr, B2, T2, TCall, TCl, TSl, ONo, OPart, slD, ACons, ANil, TV, TC, vals]
  have c999 : cut lg none (some 999) = lg.take 999 := cutHi lg (by decide)
  rw [c999]
  have l999 : (lg.take 999).length = 999 := by rw [List.length_take]; omega
  refine s_repeated L9 (by omega) (by decide) (by omega) ?_
  simp [vals, lenD, asQ, lln]
  refine intSame ?_
  simp [vals]
  refine s_without L0 (by decide) (by omega) ?_
  simp [vals, lln]
  refine intSame ?_
  simp only [if_false, Bool.false_eq_true, SNext]
  refine seq_do ?_
  simp [SIf, B2, T2, TCl, TSl, ONo, OPart, slD, ACons, ANil, TV, TC, vals]
  refine s_swapped L0 (by decide) (by omega) g8 g9 ?_
  have d1000 : lg.drop 1000 = [] := List.drop_eq_nil_of_le (by omega)
  have e998 : cut (lg.take 998 ++ pB :: pA :: lg.drop 1000) (some 998) none = [pB, pA] := by
    rw [cutLo _ (by decide), d1000]
    exact List.drop_left' (by rw [List.length_take]; simp; omega)
  simp only [show Int.toNat 998 = 998 from rfl, show (998 : Nat) + 2 = 1000 from rfl, e998]
  simp [TTup, ACons, TC, ANil, vals]
  refine ⟨szL (by decide), ?_⟩
  refine neSame (p := .tup [pB, pA]) rfl rfl (by decide +kernel) (by decide +kernel) ?_
  simp only [if_false, Bool.false_eq_true, SNext]
  refine seq_do ?_
  simp [SIf, B2, T2, TCl, ACons, ANil, TV, TC, vals, ii, CPow]
  refine s_corrected L0 (by decide) (by omega) (by decide +kernel) g9 ?_
  simp only [show Int.toNat 999 = 999 from rfl]
  have a999 : ∀ (x : P), atI (lg.take 999 ++ x :: lg.drop 1000) 999 = some x := fun x => by
    have hl9 : (lg.take 999).length = 999 := l999
    rw [atNat (by decide) (by simp; omega), ← List.getElem?_eq_getElem]
    show (lg.take 999 ++ x :: lg.drop 1000)[999]? = some x
    rw [List.getElem?_append_right (by omega), hl9]; simp
  simp [ixD, asQ, a999, TTup, ACons, TC, ANil, T2, ii, CPow, vals]
  refine ⟨szL (by decide), ?_⟩
  refine neSame (p := .tup [.str "b", .int 1000000000000000000000000000000]) rfl rfl (by decide +kernel) (by decide +kernel) ?_
  simp only [if_false, Bool.false_eq_true, SNext]
  simp [SRet, TCall, ACons, ANil, TFz, NLc, IR1, TC, TV, minD, maxD, lenD, asQ, asL]
  generalize hm : (if (if (ns.length : Int) < 6 then (ns.length : Int) else 6) > 2 then (if (ns.length : Int) < 6 then (ns.length : Int) else 6) else 2) = m
  have m6 : 0 ≤ m ∧ m ≤ 6 := by rw [← hm]; split <;> split <;> omega
  refine ⟨⟨by omega, by omega⟩, szL (by simp [rangeP]; omega), ?_⟩
  refine comp_inv (fun _ => True) (fun y => y = .bl true) _ _ _ (fun p hp S _ K k => ?_) trivial fun ys S2 _ hw _ => ?_
  · obtain ⟨j, hj, rfl⟩ := List.mem_map.mp hp
    have hj := List.mem_range.mp hj
    simp [GN, TCl, ACons, TV, ANil, vals, wipeE]
    refine s_cell (by omega) (by omega) fun c => ?_
    refine s_pool fun a S3 hS3 => ?_
    refine s_right hS3 fun S4 => ?_
    exact k _ _ S4 rfl trivial rfl
  · obtain ⟨bs, e1, e2⟩ := bls_true ys hw
    simp [frzO, allD, asL, e1, e2]
    exact h S2
end K03
namespace K03
open PySem PySem.Spec L2 D
theorem fin {P : Program} {w : World} {K : PySem.W.Frag} {h : Heap} {mg : Str → Option Value} {fa : Addr} (KX : K.In h) (G : h.Ns mainGlobals mg) (hmg : mg "law" = some (.ref fa))
    {uc_LETTERS : Value}
    {uc_MAX_AMOUNT : Value}
    {uc_MAX_EVENTS : Value}
    {f_is_integer : Addr} {oc_is_integer kV_is_integer doc_is_integer pm_is_integer cd_is_integer ct_is_integer : Value} {od_is_integer an_is_integer : Option Addr} {sl_is_integer : Array (Option Value)}
    {f_is_kind : Addr} {oc_is_kind kV_is_kind doc_is_kind pm_is_kind cd_is_kind ct_is_kind : Value} {od_is_kind an_is_kind : Option Addr} {sl_is_kind : Array (Option Value)}
    {f_is_amount : Addr} {oc_is_amount kV_is_amount doc_is_amount pm_is_amount cd_is_amount ct_is_amount : Value} {od_is_amount an_is_amount : Option Addr} {sl_is_amount : Array (Option Value)}
    {f_is_event : Addr} {oc_is_event kV_is_event doc_is_event pm_is_event cd_is_event ct_is_event : Value} {od_is_event an_is_event : Option Addr} {sl_is_event : Array (Option Value)}
    {f_first_wrong : Addr} {oc_first_wrong kV_first_wrong doc_first_wrong pm_first_wrong cd_first_wrong ct_first_wrong : Value} {od_first_wrong an_first_wrong : Option Addr} {sl_first_wrong : Array (Option Value)}
    {T_first_wrong : Addr} {tc_first_wrong : Value} {td_first_wrong : Option Addr} {ts_first_wrong : Array (Option Value)} {ti_first_wrong : Array Value} {tn_first_wrong : Nat}
    {f_check_log : Addr} {oc_check_log kV_check_log doc_check_log pm_check_log cd_check_log ct_check_log : Value} {od_check_log an_check_log : Option Addr} {sl_check_log : Array (Option Value)}
    {T_check_log : Addr} {tc_check_log : Value} {td_check_log : Option Addr} {ts_check_log : Array (Option Value)} {ti_check_log : Array Value} {tn_check_log : Nat}
    {f_check_position : Addr} {oc_check_position kV_check_position doc_check_position pm_check_position cd_check_position ct_check_position : Value} {od_check_position an_check_position : Option Addr} {sl_check_position : Array (Option Value)}
    {f_check_amount : Addr} {oc_check_amount kV_check_amount doc_check_amount pm_check_amount cd_check_amount ct_check_amount : Value} {od_check_amount an_check_amount : Option Addr} {sl_check_amount : Array (Option Value)}
    {f_corrected : Addr} {oc_corrected kV_corrected doc_corrected pm_corrected cd_corrected ct_corrected : Value} {od_corrected an_corrected : Option Addr} {sl_corrected : Array (Option Value)}
    {f_without : Addr} {oc_without kV_without doc_without pm_without cd_without ct_without : Value} {od_without an_without : Option Addr} {sl_without : Array (Option Value)}
    {f_swapped : Addr} {oc_swapped kV_swapped doc_swapped pm_swapped cd_swapped ct_swapped : Value} {od_swapped an_swapped : Option Addr} {sl_swapped : Array (Option Value)}
    {f_repeated : Addr} {oc_repeated kV_repeated doc_repeated pm_repeated cd_repeated ct_repeated : Value} {od_repeated an_repeated : Option Addr} {sl_repeated : Array (Option Value)}
    {f__law_cell : Addr} {oc__law_cell kV__law_cell doc__law_cell pm__law_cell cd__law_cell ct__law_cell : Value} {od__law_cell an__law_cell : Option Addr} {sl__law_cell : Array (Option Value)}
    {f__law_pool : Addr} {oc__law_pool kV__law_pool doc__law_pool pm__law_pool cd__law_pool ct__law_pool : Value} {od__law_pool an__law_pool : Option Addr} {sl__law_pool : Array (Option Value)}
    {f__law_draw : Addr} {oc__law_draw kV__law_draw doc__law_draw pm__law_draw cd__law_draw ct__law_draw : Value} {od__law_draw an__law_draw : Option Addr} {sl__law_draw : Array (Option Value)}
    {f__law_events : Addr} {oc__law_events kV__law_events doc__law_events pm__law_events cd__law_events ct__law_events : Value} {od__law_events an__law_events : Option Addr} {sl__law_events : Array (Option Value)}
    {f__law_replaced : Addr} {oc__law_replaced kV__law_replaced doc__law_replaced pm__law_replaced cd__law_replaced ct__law_replaced : Value} {od__law_replaced an__law_replaced : Option Addr} {sl__law_replaced : Array (Option Value)}
    {f__law_right : Addr} {oc__law_right kV__law_right doc__law_right pm__law_right cd__law_right ct__law_right : Value} {od__law_right an__law_right : Option Addr} {sl__law_right : Array (Option Value)}
    {f_law : Addr} {oc_law kV_law doc_law pm_law cd_law ct_law : Value} {od_law an_law : Option Addr} {sl_law : Array (Option Value)}
    (zn_abs : PySem.W.nsIn K mainGlobals "abs" = some none)
    (zn_all : PySem.W.nsIn K mainGlobals "all" = some none)
    (zn_bool : PySem.W.nsIn K mainGlobals "bool" = some none)
    (zn_divmod : PySem.W.nsIn K mainGlobals "divmod" = some none)
    (zn_enumerate : PySem.W.nsIn K mainGlobals "enumerate" = some none)
    (zn_int : PySem.W.nsIn K mainGlobals "int" = some none)
    (zn_isinstance : PySem.W.nsIn K mainGlobals "isinstance" = some none)
    (zn_len : PySem.W.nsIn K mainGlobals "len" = some none)
    (zn_max : PySem.W.nsIn K mainGlobals "max" = some none)
    (zn_min : PySem.W.nsIn K mainGlobals "min" = some none)
    (zn_range : PySem.W.nsIn K mainGlobals "range" = some none)
    (zn_repr : PySem.W.nsIn K mainGlobals "repr" = some none)
    (zn_str : PySem.W.nsIn K mainGlobals "str" = some none)
    (zn_tuple : PySem.W.nsIn K mainGlobals "tuple" = some none)
    (zc_LETTERS : PySem.W.nsIn K mainGlobals "LETTERS" = some (some uc_LETTERS))
    (zr_LETTERS : RelV (V.str "abcdefghijklmnopqrstuvwxyz") uc_LETTERS)
    (zc_MAX_AMOUNT : PySem.W.nsIn K mainGlobals "MAX_AMOUNT" = some (some uc_MAX_AMOUNT))
    (zr_MAX_AMOUNT : RelV (V.int 1000000000000000000000000000000) uc_MAX_AMOUNT)
    (zc_MAX_EVENTS : PySem.W.nsIn K mainGlobals "MAX_EVENTS" = some (some uc_MAX_EVENTS))
    (zr_MAX_EVENTS : RelV (V.int 1000) uc_MAX_EVENTS)
    (za_is_integer : PySem.W.nsIn K mainGlobals "is_integer" = some (some (.ref f_is_integer)))
    (zl_is_integer : K.lookup f_is_integer = some ⟨oc_is_integer, od_is_integer, .func (PySem.W.fnOf "is_integer" "is_integer" (defArgs st_is_integer) (defBody st_is_integer) (defScope st_is_integer) .none kV_is_integer doc_is_integer pm_is_integer an_is_integer cd_is_integer ct_is_integer), sl_is_integer⟩)
    (zd_is_integer : PySem.W.codeIn K cd_is_integer "is_integer" = true)
    (zk_is_integer : PySem.W.keepIn K (.ref f_is_integer) = true)
    (za_is_kind : PySem.W.nsIn K mainGlobals "is_kind" = some (some (.ref f_is_kind)))
    (zl_is_kind : K.lookup f_is_kind = some ⟨oc_is_kind, od_is_kind, .func (PySem.W.fnOf "is_kind" "is_kind" (defArgs st_is_kind) (defBody st_is_kind) (defScope st_is_kind) .none kV_is_kind doc_is_kind pm_is_kind an_is_kind cd_is_kind ct_is_kind), sl_is_kind⟩)
    (zd_is_kind : PySem.W.codeIn K cd_is_kind "is_kind" = true)
    (zk_is_kind : PySem.W.keepIn K (.ref f_is_kind) = true)
    (za_is_amount : PySem.W.nsIn K mainGlobals "is_amount" = some (some (.ref f_is_amount)))
    (zl_is_amount : K.lookup f_is_amount = some ⟨oc_is_amount, od_is_amount, .func (PySem.W.fnOf "is_amount" "is_amount" (defArgs st_is_amount) (defBody st_is_amount) (defScope st_is_amount) .none kV_is_amount doc_is_amount pm_is_amount an_is_amount cd_is_amount ct_is_amount), sl_is_amount⟩)
    (zd_is_amount : PySem.W.codeIn K cd_is_amount "is_amount" = true)
    (zk_is_amount : PySem.W.keepIn K (.ref f_is_amount) = true)
    (za_is_event : PySem.W.nsIn K mainGlobals "is_event" = some (some (.ref f_is_event)))
    (zl_is_event : K.lookup f_is_event = some ⟨oc_is_event, od_is_event, .func (PySem.W.fnOf "is_event" "is_event" (defArgs st_is_event) (defBody st_is_event) (defScope st_is_event) .none kV_is_event doc_is_event pm_is_event an_is_event cd_is_event ct_is_event), sl_is_event⟩)
    (zd_is_event : PySem.W.codeIn K cd_is_event "is_event" = true)
    (zk_is_event : PySem.W.keepIn K (.ref f_is_event) = true)
    (za_first_wrong : PySem.W.nsIn K mainGlobals "first_wrong" = some (some (.ref f_first_wrong)))
    (zl_first_wrong : K.lookup f_first_wrong = some ⟨oc_first_wrong, od_first_wrong, .func (PySem.W.fnOf "first_wrong" "first_wrong" (defArgs st_first_wrong) (defBody st_first_wrong) (defScope st_first_wrong) (.ref T_first_wrong) kV_first_wrong doc_first_wrong pm_first_wrong an_first_wrong cd_first_wrong ct_first_wrong), sl_first_wrong⟩)
    (zd_first_wrong : PySem.W.codeIn K cd_first_wrong "first_wrong" = true)
    (zk_first_wrong : PySem.W.keepIn K (.ref f_first_wrong) = true)
    (zt_first_wrong : K.lookup T_first_wrong = some ⟨tc_first_wrong, td_first_wrong, .seq ti_first_wrong tn_first_wrong, ts_first_wrong⟩)
    (zv_first_wrong : Vals [V.non] ti_first_wrong.toList)
    (za_check_log : PySem.W.nsIn K mainGlobals "check_log" = some (some (.ref f_check_log)))
    (zl_check_log : K.lookup f_check_log = some ⟨oc_check_log, od_check_log, .func (PySem.W.fnOf "check_log" "check_log" (defArgs st_check_log) (defBody st_check_log) (defScope st_check_log) (.ref T_check_log) kV_check_log doc_check_log pm_check_log an_check_log cd_check_log ct_check_log), sl_check_log⟩)
    (zd_check_log : PySem.W.codeIn K cd_check_log "check_log" = true)
    (zk_check_log : PySem.W.keepIn K (.ref f_check_log) = true)
    (zt_check_log : K.lookup T_check_log = some ⟨tc_check_log, td_check_log, .seq ti_check_log tn_check_log, ts_check_log⟩)
    (zv_check_log : Vals [V.non] ti_check_log.toList)
    (za_check_position : PySem.W.nsIn K mainGlobals "check_position" = some (some (.ref f_check_position)))
    (zl_check_position : K.lookup f_check_position = some ⟨oc_check_position, od_check_position, .func (PySem.W.fnOf "check_position" "check_position" (defArgs st_check_position) (defBody st_check_position) (defScope st_check_position) .none kV_check_position doc_check_position pm_check_position an_check_position cd_check_position ct_check_position), sl_check_position⟩)
    (zd_check_position : PySem.W.codeIn K cd_check_position "check_position" = true)
    (zk_check_position : PySem.W.keepIn K (.ref f_check_position) = true)
    (za_check_amount : PySem.W.nsIn K mainGlobals "check_amount" = some (some (.ref f_check_amount)))
    (zl_check_amount : K.lookup f_check_amount = some ⟨oc_check_amount, od_check_amount, .func (PySem.W.fnOf "check_amount" "check_amount" (defArgs st_check_amount) (defBody st_check_amount) (defScope st_check_amount) .none kV_check_amount doc_check_amount pm_check_amount an_check_amount cd_check_amount ct_check_amount), sl_check_amount⟩)
    (zd_check_amount : PySem.W.codeIn K cd_check_amount "check_amount" = true)
    (zk_check_amount : PySem.W.keepIn K (.ref f_check_amount) = true)
    (za_corrected : PySem.W.nsIn K mainGlobals "corrected" = some (some (.ref f_corrected)))
    (zl_corrected : K.lookup f_corrected = some ⟨oc_corrected, od_corrected, .func (PySem.W.fnOf "corrected" "corrected" (defArgs st_corrected) (defBody st_corrected) (defScope st_corrected) .none kV_corrected doc_corrected pm_corrected an_corrected cd_corrected ct_corrected), sl_corrected⟩)
    (zd_corrected : PySem.W.codeIn K cd_corrected "corrected" = true)
    (zk_corrected : PySem.W.keepIn K (.ref f_corrected) = true)
    (za_without : PySem.W.nsIn K mainGlobals "without" = some (some (.ref f_without)))
    (zl_without : K.lookup f_without = some ⟨oc_without, od_without, .func (PySem.W.fnOf "without" "without" (defArgs st_without) (defBody st_without) (defScope st_without) .none kV_without doc_without pm_without an_without cd_without ct_without), sl_without⟩)
    (zd_without : PySem.W.codeIn K cd_without "without" = true)
    (zk_without : PySem.W.keepIn K (.ref f_without) = true)
    (za_swapped : PySem.W.nsIn K mainGlobals "swapped" = some (some (.ref f_swapped)))
    (zl_swapped : K.lookup f_swapped = some ⟨oc_swapped, od_swapped, .func (PySem.W.fnOf "swapped" "swapped" (defArgs st_swapped) (defBody st_swapped) (defScope st_swapped) .none kV_swapped doc_swapped pm_swapped an_swapped cd_swapped ct_swapped), sl_swapped⟩)
    (zd_swapped : PySem.W.codeIn K cd_swapped "swapped" = true)
    (zk_swapped : PySem.W.keepIn K (.ref f_swapped) = true)
    (za_repeated : PySem.W.nsIn K mainGlobals "repeated" = some (some (.ref f_repeated)))
    (zl_repeated : K.lookup f_repeated = some ⟨oc_repeated, od_repeated, .func (PySem.W.fnOf "repeated" "repeated" (defArgs st_repeated) (defBody st_repeated) (defScope st_repeated) .none kV_repeated doc_repeated pm_repeated an_repeated cd_repeated ct_repeated), sl_repeated⟩)
    (zd_repeated : PySem.W.codeIn K cd_repeated "repeated" = true)
    (zk_repeated : PySem.W.keepIn K (.ref f_repeated) = true)
    (za__law_cell : PySem.W.nsIn K mainGlobals "_law_cell" = some (some (.ref f__law_cell)))
    (zl__law_cell : K.lookup f__law_cell = some ⟨oc__law_cell, od__law_cell, .func (PySem.W.fnOf "_law_cell" "_law_cell" (defArgs st__law_cell) (defBody st__law_cell) (defScope st__law_cell) .none kV__law_cell doc__law_cell pm__law_cell an__law_cell cd__law_cell ct__law_cell), sl__law_cell⟩)
    (zd__law_cell : PySem.W.codeIn K cd__law_cell "_law_cell" = true)
    (zk__law_cell : PySem.W.keepIn K (.ref f__law_cell) = true)
    (za__law_pool : PySem.W.nsIn K mainGlobals "_law_pool" = some (some (.ref f__law_pool)))
    (zl__law_pool : K.lookup f__law_pool = some ⟨oc__law_pool, od__law_pool, .func (PySem.W.fnOf "_law_pool" "_law_pool" (defArgs st__law_pool) (defBody st__law_pool) (defScope st__law_pool) .none kV__law_pool doc__law_pool pm__law_pool an__law_pool cd__law_pool ct__law_pool), sl__law_pool⟩)
    (zd__law_pool : PySem.W.codeIn K cd__law_pool "_law_pool" = true)
    (zk__law_pool : PySem.W.keepIn K (.ref f__law_pool) = true)
    (za__law_draw : PySem.W.nsIn K mainGlobals "_law_draw" = some (some (.ref f__law_draw)))
    (zl__law_draw : K.lookup f__law_draw = some ⟨oc__law_draw, od__law_draw, .func (PySem.W.fnOf "_law_draw" "_law_draw" (defArgs st__law_draw) (defBody st__law_draw) (defScope st__law_draw) .none kV__law_draw doc__law_draw pm__law_draw an__law_draw cd__law_draw ct__law_draw), sl__law_draw⟩)
    (zd__law_draw : PySem.W.codeIn K cd__law_draw "_law_draw" = true)
    (zk__law_draw : PySem.W.keepIn K (.ref f__law_draw) = true)
    (za__law_events : PySem.W.nsIn K mainGlobals "_law_events" = some (some (.ref f__law_events)))
    (zl__law_events : K.lookup f__law_events = some ⟨oc__law_events, od__law_events, .func (PySem.W.fnOf "_law_events" "_law_events" (defArgs st__law_events) (defBody st__law_events) (defScope st__law_events) .none kV__law_events doc__law_events pm__law_events an__law_events cd__law_events ct__law_events), sl__law_events⟩)
    (zd__law_events : PySem.W.codeIn K cd__law_events "_law_events" = true)
    (zk__law_events : PySem.W.keepIn K (.ref f__law_events) = true)
    (za__law_replaced : PySem.W.nsIn K mainGlobals "_law_replaced" = some (some (.ref f__law_replaced)))
    (zl__law_replaced : K.lookup f__law_replaced = some ⟨oc__law_replaced, od__law_replaced, .func (PySem.W.fnOf "_law_replaced" "_law_replaced" (defArgs st__law_replaced) (defBody st__law_replaced) (defScope st__law_replaced) .none kV__law_replaced doc__law_replaced pm__law_replaced an__law_replaced cd__law_replaced ct__law_replaced), sl__law_replaced⟩)
    (zd__law_replaced : PySem.W.codeIn K cd__law_replaced "_law_replaced" = true)
    (zk__law_replaced : PySem.W.keepIn K (.ref f__law_replaced) = true)
    (za__law_right : PySem.W.nsIn K mainGlobals "_law_right" = some (some (.ref f__law_right)))
    (zl__law_right : K.lookup f__law_right = some ⟨oc__law_right, od__law_right, .func (PySem.W.fnOf "_law_right" "_law_right" (defArgs st__law_right) (defBody st__law_right) (defScope st__law_right) .none kV__law_right doc__law_right pm__law_right an__law_right cd__law_right ct__law_right), sl__law_right⟩)
    (zd__law_right : PySem.W.codeIn K cd__law_right "_law_right" = true)
    (zk__law_right : PySem.W.keepIn K (.ref f__law_right) = true)
    (za_law : PySem.W.nsIn K mainGlobals "law" = some (some (.ref f_law)))
    (zl_law : K.lookup f_law = some ⟨oc_law, od_law, .func (PySem.W.fnOf "law" "law" (defArgs st_law) (defBody st_law) (defScope st_law) .none kV_law doc_law pm_law an_law cd_law ct_law), sl_law⟩)
    (zd_law : PySem.W.codeIn K cd_law "law" = true)
    (zk_law : PySem.W.keepIn K (.ref f_law) = true) :
    ∃ (K : PySem.W.Frag) (fd : FuncData), K.In h ∧ (∀ (s : Shared) (u : Value), BindsTo s fd ⟨[u], []⟩ [("_law_cells", u)]) ∧ ∀ base : Heap, K.In base → base.Ns mainGlobals mg → Fd P w K mg base CX0 8 fa fd ["_law_cells"] (lift K w E0 (dLaw 63)) := by
  have T : Tx K mg := ⟨PySem.W.mg_none_of KX G zn_abs, PySem.W.mg_none_of KX G zn_all, PySem.W.mg_none_of KX G zn_bool, PySem.W.mg_none_of KX G zn_divmod, PySem.W.mg_none_of KX G zn_enumerate, PySem.W.mg_none_of KX G zn_int, PySem.W.mg_none_of KX G zn_isinstance, PySem.W.mg_none_of KX G zn_len, PySem.W.mg_none_of KX G zn_max, PySem.W.mg_none_of KX G zn_min, PySem.W.mg_none_of KX G zn_range, PySem.W.mg_none_of KX G zn_repr, PySem.W.mg_none_of KX G zn_str, PySem.W.mg_none_of KX G zn_tuple, cst KX G zc_LETTERS zr_LETTERS, cst KX G zc_MAX_AMOUNT zr_MAX_AMOUNT, cst KX G zc_MAX_EVENTS zr_MAX_EVENTS, made0 KX G za_is_integer zl_is_integer zd_is_integer zk_is_integer, made0 KX G za_is_kind zl_is_kind zd_is_kind zk_is_kind, made0 KX G za_is_amount zl_is_amount zd_is_amount zk_is_amount, made0 KX G za_is_event zl_is_event zd_is_event zk_is_event, made1 KX G za_first_wrong zl_first_wrong zd_first_wrong zk_first_wrong zt_first_wrong zv_first_wrong (by decide), made1 KX G za_check_log zl_check_log zd_check_log zk_check_log zt_check_log zv_check_log (by decide), made0 KX G za_check_position zl_check_position zd_check_position zk_check_position, made0 KX G za_check_amount zl_check_amount zd_check_amount zk_check_amount, made0 KX G za_corrected zl_corrected zd_corrected zk_corrected, made0 KX G za_without zl_without zd_without zk_without, made0 KX G za_swapped zl_swapped zd_swapped zk_swapped, made0 KX G za_repeated zl_repeated zd_repeated zk_repeated, made0 KX G za__law_cell zl__law_cell zd__law_cell zk__law_cell, made0 KX G za__law_pool zl__law_pool zd__law_pool zk__law_pool, made0 KX G za__law_draw zl__law_draw zd__law_draw zk__law_draw, made0 KX G za__law_events zl__law_events zd__law_events zk__law_events, made0 KX G za__law_replaced zl__law_replaced zd__law_replaced zk__law_replaced, made0 KX G za__law_right zl__law_right zd__law_right zk__law_right, made0 KX G za_law zl_law zd_law zk_law⟩
  obtain ⟨fd, hb, hF⟩ := law_of (P := P) (w := w) (n := 63) T.f_law hmg (fun base => c_law (base := base) T) (fun M s u => M.bindsA (ps := ["_law_cells"]) (fun _ _ _ _ _ _ us hl => match us, hl with | [_], _ => rfl) s [u] rfl) law_plain
  exact ⟨K, fd, KX, hb, fun base _ _ => hF base⟩
end K03
open PySem.W PySem PyProof.Rows
set_option maxRecDepth 110000 in
set_option maxHeartbeats 0 in
theorem PySem.Challenge.cw_tallypeaks_k03_logs_changed_holds : PySem.Challenge.rw_tallypeaks_k03_logs_changed.Holds := by
  w_on
  o_law
  k_head
  (case hw => w_witness2)
  k_fill
  refine D.walk_D (n := 63) (k := 8) (x := "_law_cells") ⟨rfl, by decide, by decide⟩ (by decide) rfl rfl ?F
  case F =>
    intro w mg fa h Y G hmg
    have KX := PySem.W.kIn_of Y
    refine' K03.fin KX G hmg ?zn_abs ?zn_all ?zn_bool ?zn_divmod ?zn_enumerate ?zn_int ?zn_isinstance ?zn_len ?zn_max ?zn_min ?zn_range ?zn_repr ?zn_str ?zn_tuple ?zc_LETTERS ?zr_LETTERS ?zc_MAX_AMOUNT ?zr_MAX_AMOUNT ?zc_MAX_EVENTS ?zr_MAX_EVENTS ?za_is_integer ?zl_is_integer ?zd_is_integer ?zk_is_integer ?za_is_kind ?zl_is_kind ?zd_is_kind ?zk_is_kind ?za_is_amount ?zl_is_amount ?zd_is_amount ?zk_is_amount ?za_is_event ?zl_is_event ?zd_is_event ?zk_is_event ?za_first_wrong ?zl_first_wrong ?zd_first_wrong ?zk_first_wrong ?zt_first_wrong ?zv_first_wrong ?za_check_log ?zl_check_log ?zd_check_log ?zk_check_log ?zt_check_log ?zv_check_log ?za_check_position ?zl_check_position ?zd_check_position ?zk_check_position ?za_check_amount ?zl_check_amount ?zd_check_amount ?zk_check_amount ?za_corrected ?zl_corrected ?zd_corrected ?zk_corrected ?za_without ?zl_without ?zd_without ?zk_without ?za_swapped ?zl_swapped ?zd_swapped ?zk_swapped ?za_repeated ?zl_repeated ?zd_repeated ?zk_repeated ?za__law_cell ?zl__law_cell ?zd__law_cell ?zk__law_cell ?za__law_pool ?zl__law_pool ?zd__law_pool ?zk__law_pool ?za__law_draw ?zl__law_draw ?zd__law_draw ?zk__law_draw ?za__law_events ?zl__law_events ?zd__law_events ?zk__law_events ?za__law_replaced ?zl__law_replaced ?zd__law_replaced ?zk__law_replaced ?za__law_right ?zl__law_right ?zd__law_right ?zk__law_right ?za_law ?zl_law ?zd_law ?zk_law
    (case zn_abs => k_is)
    (case zn_all => k_is)
    (case zn_bool => k_is)
    (case zn_divmod => k_is)
    (case zn_enumerate => k_is)
    (case zn_int => k_is)
    (case zn_isinstance => k_is)
    (case zn_len => k_is)
    (case zn_max => k_is)
    (case zn_min => k_is)
    (case zn_range => k_is)
    (case zn_repr => k_is)
    (case zn_str => k_is)
    (case zn_tuple => k_is)
    (case zc_LETTERS => k_is)
    (case zr_LETTERS => first | exact ⟨_, rfl⟩ | rfl)
    (case zc_MAX_AMOUNT => k_is)
    (case zr_MAX_AMOUNT => first | exact ⟨_, rfl⟩ | rfl)
    (case zc_MAX_EVENTS => k_is)
    (case zr_MAX_EVENTS => first | exact ⟨_, rfl⟩ | rfl)
    (case za_is_integer => k_is)
    (case zl_is_integer => k_is)
    (case zd_is_integer => k_is)
    (case zk_is_integer => k_is)
    (case za_is_kind => k_is)
    (case zl_is_kind => k_is)
    (case zd_is_kind => k_is)
    (case zk_is_kind => k_is)
    (case za_is_amount => k_is)
    (case zl_is_amount => k_is)
    (case zd_is_amount => k_is)
    (case zk_is_amount => k_is)
    (case za_is_event => k_is)
    (case zl_is_event => k_is)
    (case zd_is_event => k_is)
    (case zk_is_event => k_is)
    (case za_first_wrong => k_is)
    (case zl_first_wrong => k_is)
    (case zd_first_wrong => k_is)
    (case zk_first_wrong => k_is)
    (case zt_first_wrong => k_is)
    (case zv_first_wrong => exact .cons (by first | exact ⟨_, rfl⟩ | rfl) (.nil))
    (case za_check_log => k_is)
    (case zl_check_log => k_is)
    (case zd_check_log => k_is)
    (case zk_check_log => k_is)
    (case zt_check_log => k_is)
    (case zv_check_log => exact .cons (by first | exact ⟨_, rfl⟩ | rfl) (.nil))
    (case za_check_position => k_is)
    (case zl_check_position => k_is)
    (case zd_check_position => k_is)
    (case zk_check_position => k_is)
    (case za_check_amount => k_is)
    (case zl_check_amount => k_is)
    (case zd_check_amount => k_is)
    (case zk_check_amount => k_is)
    (case za_corrected => k_is)
    (case zl_corrected => k_is)
    (case zd_corrected => k_is)
    (case zk_corrected => k_is)
    (case za_without => k_is)
    (case zl_without => k_is)
    (case zd_without => k_is)
    (case zk_without => k_is)
    (case za_swapped => k_is)
    (case zl_swapped => k_is)
    (case zd_swapped => k_is)
    (case zk_swapped => k_is)
    (case za_repeated => k_is)
    (case zl_repeated => k_is)
    (case zd_repeated => k_is)
    (case zk_repeated => k_is)
    (case za__law_cell => k_is)
    (case zl__law_cell => k_is)
    (case zd__law_cell => k_is)
    (case zk__law_cell => k_is)
    (case za__law_pool => k_is)
    (case zl__law_pool => k_is)
    (case zd__law_pool => k_is)
    (case zk__law_pool => k_is)
    (case za__law_draw => k_is)
    (case zl__law_draw => k_is)
    (case zd__law_draw => k_is)
    (case zk__law_draw => k_is)
    (case za__law_events => k_is)
    (case zl__law_events => k_is)
    (case zd__law_events => k_is)
    (case zk__law_events => k_is)
    (case za__law_replaced => k_is)
    (case zl__law_replaced => k_is)
    (case zd__law_replaced => k_is)
    (case zk__law_replaced => k_is)
    (case za__law_right => k_is)
    (case zl__law_right => k_is)
    (case zd__law_right => k_is)
    (case zk__law_right => k_is)
    (case za_law => k_is)
    (case zl_law => k_is)
    (case zd_law => k_is)
    (case zk_law => k_is)
